import PyProof.Rows.All
import Wide.All
import OpenK.AllK
import Wide.FinOn
import HandS.ForMost
import HandS.ForExc
import HandS.TupMul
import HandS.TupAny
import HandS.Style
import HandS.RevTup
import HandS.Rev
import KE.KRevSl
import PyProof.ReprRoads
import PyProof.ReprReads
import HandS.ExcIs
import HandS.TryMany
import HandS.HotCalls
import HandS.Flow
import HandS.Deep
import HandS.IsInst
import HandS.Conv
import HandS.SortInts
import HandS.SetFor
import HandS.TupSets
import KE.KTupSum
import KE.DataMinMax
import KE.SortData
import KE.KDictList
import HandS.SortOrd
import HandS.TryOnly
import HandS.Walk
import HandS.Zip
import KE.GoesEnum
import HandS.Iter
import HandS.Ends
import HandS.WordsExc
import HandS.Star
import PySem.Challenge.RW_allcaught_k25_whole_ways_of_great_states
set_option Elab.async false
set_option linter.all false
set_option maxRecDepth 100000
/-! Z1: data, the small language, its evaluator -/
namespace Z
open PySem PySem.Spec PyProof.Rows

/-- data: trees -/
inductive D where
  | non | bl (b : Bool) | int (i : Int) | str (x : Str)
  | tup (xs : List D) | lst (xs : List D)
  | fn (i : Nat) | exc (c : Nat) (v : List D) | gvn (xs : List D) | emp

/-- a slot: nothing, frozen data, an owned list, one that belongs to the caller, one that is walked -/
inductive Sl where
  | non | fz (d : D) | lst (ds : List D) | io (ds : List D) | brw (ds : List D)
abbrev Sts := List Sl

/-- what an expression comes to: frozen data, a new list, a slot's own list -/
inductive El where
  | d (x : D) | at (i : Nat)
/-- shl: a new list that holds what slots own -/
inductive PV where
  | fz (d : D) | tmp (ds : List D) | plc (i : Nat) | shl (els : List El)

inductive Rs (a : Type) where
  | ok (x : a) (s : Sts) | er (x : D) (s : Sts) | no
def Rs.bind {a b : Type} (r : Rs a) (f : a → Sts → Rs b) : Rs b := match r with
  | .ok x s => f x s
  | .er x s => .er x s
  | .no => .no

inductive Out where
  | nx (s : Sts) | rt (p : PV) (s : Sts) | bk (s : Sts) | ct (s : Sts) | er (x : D) (s : Sts) | no

/-- a call's end: what it gives, the parameters -/
inductive CR where
  | ok (p : PV) (s : Sts) | er (x : D) (s : Sts) | no

inductive BOp where | add | sub | mul | fdiv | mod | pow
  deriving DecidableEq
inductive COp where | eq | ne | lt | le | gt | ge | is | isn | inn | nin
  deriving DecidableEq
inductive Cls where | ty (n : String) | own (c : Nat)
  deriving DecidableEq
inductive Bl where | len | abs | int | sum | max | min | sorted | list | tuple | all | any | lenset | sortset | revlist | str | repr | revtup | rev | emp
  deriving DecidableEq
inductive Mt where | append | pop | popAt | extend | insert | reverse | remove | clear
  deriving DecidableEq
inductive Pm where | index | count | join | startswith | split
  deriving DecidableEq
inductive TG where | var (i : Nat) | tup (ts : List TG)

mutual
inductive IE where
  | var (i : Nat) | con (d : D)
  | bin (o : BOp) (a b : IE) | neg (a : IE) | not (a : IE)
  | cmp (o : COp) (a b : IE) | cmp2 (o p : COp) (a b c : IE)
  | and (a b : IE) | or (a b : IE) | ife (c a b : IE)
  | tup (es : List IE) | lst (es : List IE) | shl (es : List IE)
  | sub (a i : IE) | slc (a : IE) (lo hi : Option IE)
  | call (f : Nat) (es : List IE) | calld (f : IE) (es : List IE)
  | blt (b : Bl) (es : List IE) | isi (a : IE) (c : List Cls)
  | mut (m : Mt) (i : Nat) (es : List IE) | pm (m : Pm) (a : IE) (es : List IE)
  | rng (t : Bool) (a b : IE)
  | lc (own : List Nat) (tg : TG) (it : II) (ifs : List IE) (e : IE)
  | lc2 (own : List Nat) (tg : TG) (it : II) (ifs : List IE) (own1 : List Nat) (tg1 : TG) (it1 : II) (ifs1 : List IE) (e : IE)
inductive II where
  | seq (e : IE) | rng (a b : IE) | rngd (a b : IE) | enum (e : IE) | zip (a b : IE) | zip3 (a b c : IE) | rev (e : IE)
end

mutual
inductive IS where
  | asg (t : TG) (e : IE) | asub (i : Nat) (k e : IE) | aug (i : Nat) (o : BOp) (e : IE)
  | asubs (one : Bool) (is : List Nat) (ks : List IE) (e : IE) | augs (i : Nat) (k : IE) (o : BOp) (e : IE) | par (i j : Nat) (a b : IE)
  | expr (e : IE) | ret (e : IE) | pass | brk
  | ife (c : IE) (a b : List IS)
  | for_ (t : TG) (it : II) (b : List IS)
  | whl (c : IE) (b : List IS)
  | raise (c : Nat) | stuck
  | try_ (b : List IS) (hs : List IH)
  | tryAs (b : List IS) (c i : Nat) (bs : List (List IS))
inductive IH where
  | mk (c : Nat) (b : List IS)
end
end Z

/-! Z2: the evaluator -/
namespace Z
open PySem

mutual
def D.pd : D → PyData
  | .non => .none
  | .bl b => .bool b
  | .int i => .int i
  | .str x => .str x
  | .tup xs => .tuple (D.pdL xs)
  | .lst xs => .list (D.pdL xs)
  | .fn _ => .none
  | .exc _ _ => .none
  | .gvn _ => .none
  | .emp => .none
def D.pdL : List D → List PyData
  | [] => []
  | d :: ds => d.pd :: D.pdL ds
end
mutual
/-- plain data, nested at most n deep -/
def D.ok : Nat → D → Bool
  | _, .non => true
  | _, .bl _ => true
  | _, .int _ => true
  | _, .str x => PyData.strOk x
  | 0, .tup _ => false
  | n + 1, .tup xs => D.okL n xs
  | 0, .lst _ => false
  | n + 1, .lst xs => D.okL n xs
  | _, .fn _ => false
  | _, .exc _ _ => false
  | _, .gvn _ => false
  | _, .emp => false
def D.okL : Nat → List D → Bool
  | _, [] => true
  | n, d :: ds => D.ok n d && D.okL n ds
end
mutual
/-- no list within -/
def D.flat : D → Bool
  | .tup xs => D.flatL xs
  | .lst _ => false
  | .exc _ _ => false
  | .gvn _ => false
  | .emp => false
  | _ => true
def D.flatL : List D → Bool
  | [] => true
  | d :: ds => d.flat && D.flatL ds
end
def D.eq (a b : D) : Option Bool := if a.ok 60 && b.ok 60 then some (PyData.eqv a.pd b.pd) else none
def D.isin (a : D) : D → Option Bool
  | .lst ds => if a.ok 60 && (D.lst ds).ok 60 then some (ds.any fun z => PyData.eqv z.pd a.pd) else none
  | .tup ds => if a.ok 60 && (D.tup ds).ok 60 then some (ds.any fun z => PyData.eqv z.pd a.pd) else none
  | _ => none
def D.truth : D → Option Bool
  | .non => some false
  | .bl b => some b
  | .int i => some (i != 0)
  | .str x => if x.length ≤ sizeLine then some ((x.length : Int) != 0) else none
  | .tup xs => some !xs.isEmpty
  | .lst xs => some !xs.isEmpty
  | _ => none
def view (s : Sts) : PV → Option D
  | .fz d => some d
  | .tmp ds => some (.lst ds)
  | .plc i => match s[i]? with
    | some (.fz d) => some d
    | some (.lst ds) => some (.lst ds)
    | some (.io ds) => some (.lst ds)
    | some (.brw ds) => some (.lst ds)
    | _ => none
  | .shl _ => none
def viewEl (s : Sts) : List El → Option (List D)
  | [] => some []
  | .d x :: es => (viewEl s es).map (x :: ·)
  | .at i :: es => match view s (.plc i), viewEl s es with
    | some d, some ds => some (d :: ds)
    | _, _ => none
/-- for a call -/
def viewC (s : Sts) : PV → Option D
  | .shl els => (viewEl s els).map .lst
  | p => view s p
def frz0 (s : Sts) : PV → Option (D × Sts)
  | .fz d => some (d, s)
  | .tmp ds => some (.lst ds, s)
  | .plc i => match s[i]? with
    | some (.fz d) => some (d, s)
    | some (.lst ds) => some (.lst ds, s.set i (.fz (.lst ds)))
    | _ => none
  | .shl _ => none
def frzE : Sts → List El → Option (List D × Sts)
  | s, [] => some ([], s)
  | s, .d x :: es => match frzE s es with
    | some (ds, s2) => some (x :: ds, s2)
    | none => none
  | s, .at i :: es => match frz0 s (.plc i) with
    | some (d, s1) => match frzE s1 es with
      | some (ds, s2) => some (d :: ds, s2)
      | none => none
    | none => none
/-- as frozen data -/
def frz (s : Sts) : PV → Option (D × Sts)
  | .shl els => match frzE s els with
    | some (ds, s2) => some (.lst ds, s2)
    | none => none
  | p => frz0 s p
def frzL : Sts → List PV → Option (List D × Sts)
  | s, [] => some ([], s)
  | s, p :: ps => match frz s p with
    | some (d, s1) => match frzL s1 ps with
      | some (ds, s2) => some (d :: ds, s2)
      | none => none
    | none => none
/-- what a new list holds: what slots own stays theirs -/
def shlL : Sts → List PV → Option (List El × Sts)
  | s, [] => some ([], s)
  | s, .plc i :: ps => match shlL s ps with
    | some (es, s2) => some (.at i :: es, s2)
    | none => none
  | s, p :: ps => match frz s p with
    | some (d, s1) => match shlL s1 ps with
      | some (es, s2) => some (.d d :: es, s2)
      | none => none
    | none => none
def isPlc : PV → Bool
  | .plc _ => true
  | _ => false
def views (s : Sts) : List PV → Option (List D)
  | [] => some []
  | p :: ps => match view s p, views s ps with
    | some d, some ds => some (d :: ds)
    | _, _ => none

/-! operators -/
def big : Int := 2 ^ 64
def augD : BOp → Int → Int → Option Int
  | .add, x, y => some (x + y)
  | .sub, x, y => some (x - y)
  | _, _, _ => none
def bop : BOp → D → D → Option PV
  | .add, .int i, .int j => some (.fz (.int (i + j)))
  | .add, .str x, .str y => if x.length + y.length ≤ sizeLine then some (.fz (.str (x ++ y))) else none
  | .add, .lst xs, .lst ys => if xs.length + ys.length ≤ sizeLine then some (.tmp (xs ++ ys)) else none
  | .add, .tup xs, .tup ys => if xs.length + ys.length ≤ sizeLine then some (.fz (.tup (xs ++ ys))) else none
  | .sub, .int i, .int j => some (.fz (.int (i - j)))
  | .mul, .int i, .int j => if decide (-big < i ∧ i < big) || decide (-big < j ∧ j < big) then some (.fz (.int (i * j))) else none
  | .mul, .lst xs, .int k => if -(2 ^ 63) ≤ k ∧ k < 2 ^ 63 ∧ xs.length * k.toNat ≤ sizeLine then some (.tmp (List.replicate k.toNat xs).flatten) else none
  | .mul, .tup xs, .int k => if 0 < xs.length ∧ 1 ≤ k ∧ k ≤ 1000 ∧ xs.length ≤ 1000 then some (.fz (.tup (List.replicate k.toNat xs).flatten)) else none
  | .fdiv, .int i, .int j => if 0 < j ∧ j < 1073741824 then some (.fz (.int (i / j))) else none
  | .mod, .int i, .int j => if 0 < j then some (.fz (.int (i % j))) else none
  | .pow, .int i, .int j => if 0 ≤ j ∧ j ≤ 1000000 ∧ i.natAbs < 2 ^ 64 then some (.fz (.int (i ^ j.toNat))) else none
  | _, _, _ => none
def cop : COp → D → D → Option Bool
  | .eq, a, b => a.eq b
  | .ne, a, b => (a.eq b).map (!·)
  | .lt, .int i, .int j => some (decide (i < j))
  | .le, .int i, .int j => some (decide (i ≤ j))
  | .gt, .int i, .int j => some (decide (j < i))
  | .ge, .int i, .int j => some (decide (j ≤ i))
  | .is, .non, .non => some true
  | .is, .bl _, .non => some false
  | .is, .int _, .non => some false
  | .is, .str _, .non => some false
  | .is, .tup _, .non => some false
  | .is, .lst _, .non => some false
  | .isn, .non, .non => some false
  | .isn, .bl _, .non => some true
  | .isn, .int _, .non => some true
  | .isn, .str _, .non => some true
  | .isn, .tup _, .non => some true
  | .isn, .lst _, .non => some true
  | .inn, a, b => a.isin b
  | .nin, a, b => (a.isin b).map (!·)
  | _, _, _ => none
/-- the place that an index means -/
def ixD (n : Nat) (i : Int) : Option Nat := if 0 ≤ i then (if i < n then some i.toNat else none) else if -(n : Int) ≤ i then some (i + n).toNat else none
def subD : D → D → Option D
  | .tup xs, .int i => (ixD xs.length i).bind fun j => xs[j]?
  | .lst xs, .int i => (ixD xs.length i).bind fun j => xs[j]?
  | .gvn xs, .int i => (ixD xs.length i).bind fun j => xs[j]?
  | .str x, .int i => if x.length ≤ sizeLine then (ixD x.cps.toList.length i).bind fun j => (x.cps.toList[j]?).map fun c => .str ⟨#[c]⟩ else none
  | _, _ => none
def sixD (n d : Nat) : Option Int → Nat
  | none => d
  | some v => if v < 0 then (v + (n : Int)).toNat else min v.toNat n
def cutD (xs : List D) (lo hi : Option Int) : List D := (xs.drop (sixD xs.length 0 lo)).take (sixD xs.length xs.length hi - sixD xs.length 0 lo)
def slcD (lo hi : Option Int) : D → Option PV
  | .tup xs => some (.fz (.tup (cutD xs lo hi)))
  | .lst xs => some (.tmp (cutD xs lo hi))
  | _ => none
/-! isinstance; classes of exceptions: 0 CatchError 1 NotRight 2 NotThere 3 NoAnswer 4 TooLarge 5 Malformed -/
def isClsOf : D → Cls → Option Bool
  | .exc c _, .own k => some (k == c || k == 0)
  | .non, .ty n => if n ∈ ["int", "bool", "str", "tuple", "list", "dict"] then some false else none
  | .bl _, .ty n => if n ∈ ["int", "bool", "str", "tuple", "list", "dict"] then some (n == "bool" || n == "int") else none
  | .int _, .ty n => if n ∈ ["int", "bool", "str", "tuple", "list", "dict"] then some (n == "int") else none
  | .str _, .ty n => if n ∈ ["int", "bool", "str", "tuple", "list", "dict"] then some (n == "str") else none
  | .tup _, .ty n => if n ∈ ["int", "bool", "str", "tuple", "list", "dict"] then some (n == "tuple") else none
  | .lst _, .ty n => if n ∈ ["int", "bool", "str", "tuple", "list", "dict"] then some (n == "list") else none
  | .emp, .ty n => if n ∈ ["int", "bool", "str", "tuple", "list", "dict"] then some (n == "dict") else none
  | _, _ => none

/-! built-ins -/
def intsD : List D → Option (List Int)
  | [] => some []
  | .int i :: ds => (intsD ds).map (i :: ·)
  | _ => none
def boolsD : List D → Option (List Bool)
  | [] => some []
  | .bl b :: ds => (boolsD ds).map (b :: ·)
  | _ => none
def itemsD : D → Option (List D)
  | .lst ds => some ds
  | .tup ds => some ds
  | .gvn ds => some ds
  | _ => none
def insI (x : Int) : List Int → List Int
  | [] => [x]
  | y :: ys => if x ≤ y then x :: y :: ys else y :: insI x ys
def sortI : List Int → List Int
  | [] => []
  | x :: xs => insI x (sortI xs)
def maxI : Int → List Int → Int
  | m, [] => m
  | m, x :: xs => maxI (if m < x then x else m) xs
def minI : Int → List Int → Int
  | m, [] => m
  | m, x :: xs => minI (if x < m then x else m) xs
/-- the different ones, in the order of their coming -/
def ddS (acc : List Int) (k : Int) : List Int := if acc.any (· == k) then acc else acc ++ [k]
def dd (ns : List Int) : List Int := ns.foldl ddS []
/-- tuples of ints -/
def rowsD : List D → Option (List (List Int))
  | [] => some []
  | .tup xs :: ds => match intsD xs, rowsD ds with
    | some r, some rs => some (r :: rs)
    | _, _ => none
  | _ => none
def maxR (r : List Int) (rs : List (List Int)) : List Int := rs.foldl (fun a y => if a < y then y else a) r
def sortR (rs : List (List Int)) : List (List Int) := rs.mergeSort (fun a b => !decide (b < a))
def rowT (r : List Int) : D := .tup (r.map .int)
/-- repr is told of plain data that is not too long -/
structure ReprOk (d : D) : Prop where
  ok : d.ok 60 = true
  can : d.pd.showable = true
  dct : d.pd.hasDict = false
  len : d.pd.shown.length + 64 ≤ sizeLine
  str : PyData.strOk d.pd.shown = true
def reprB (d : D) : Bool := d.ok 60 && d.pd.showable && !d.pd.hasDict && decide (d.pd.shown.length + 64 ≤ sizeLine) && PyData.strOk d.pd.shown
def reprD (d : D) : Option PV := if reprB d = true then some (.fz (.str d.pd.shown)) else none
def blD : Bl → List D → Option PV
  | .len, [.str x] => if x.length ≤ sizeLine then some (.fz (.int x.length)) else none
  | .len, [.tup xs] => some (.fz (.int xs.length))
  | .len, [.lst xs] => some (.fz (.int xs.length))
  | .len, [.gvn xs] => some (.fz (.int xs.length))
  | .abs, [.int i] => some (.fz (.int (if i < 0 then -i else i)))
  | .int, [.int i] => some (.fz (.int i))
  | .int, [.bl b] => some (.fz (.int (if b then 1 else 0)))
  | .sum, [.lst xs] => (intsD xs).map fun ns => .fz (.int ns.sum)
  | .sum, [.tup xs] => (intsD xs).map fun ns => .fz (.int ns.sum)
  | .max, [.int i, .int j] => some (.fz (.int (if j > i then j else i)))
  | .min, [.int i, .int j] => some (.fz (.int (if j < i then j else i)))
  | .max, [.lst xs] => match intsD xs with | some (n :: ns) => some (.fz (.int (maxI n ns))) | _ => match rowsD xs with | some (r :: rs) => some (.fz (rowT (maxR r rs))) | _ => none
  | .min, [.lst xs] => match intsD xs with | some (n :: ns) => some (.fz (.int (minI n ns))) | _ => none
  | .all, [.lst xs] => (boolsD xs).map fun bs => .fz (.bl (bs.all id))
  | .any, [.lst xs] => (boolsD xs).map fun bs => .fz (.bl (bs.any id))
  | .list, [.lst xs] => some (.tmp xs)
  | .list, [.tup xs] => some (.tmp xs)
  | .tuple, [.lst xs] => some (.fz (.tup xs))
  | .tuple, [.tup xs] => some (.fz (.tup xs))
  | .revlist, [.lst xs] => some (.tmp xs.reverse)
  | .revtup, [.lst xs] => some (.fz (.tup xs.reverse))
  | .rev, [.tup xs] => some (.fz (.tup xs.reverse))
  | .rev, [.lst xs] => some (.tmp xs.reverse)
  | .emp, [] => some (.fz .emp)
  | .repr, [d] => reprD d
  | .sorted, [.tup xs] => (intsD xs).map fun ns => .tmp ((sortI ns).map .int)
  | .sorted, [.lst xs] => match intsD xs with | some ns => some (.tmp ((sortI ns).map .int)) | none => match rowsD xs with | some rs => if (rs.all fun r => !r.isEmpty) = true ∧ rs.length ≤ sizeLine then some (.tmp ((sortR rs).map rowT)) else none | none => none
  | .lenset, [.lst xs] => if xs.length + 1 < 4096 then (intsD xs).map fun ns => .fz (.int (dd ns).length) else none
  | .lenset, [.tup xs] => if xs.length + 1 < 4096 then (intsD xs).map fun ns => .fz (.int (dd ns).length) else none
  | _, _ => none
/-! methods that change a list: what it gives, the list behind it -/
def mtD : Mt → List D → List D → Option (D × List D)
  | .append, xs, [d] => if xs.length < sizeLine then some (.non, xs ++ [d]) else none
  | .pop, xs, [] => (xs[xs.length - 1]?).map fun y => (y, xs.dropLast)
  | .popAt, xs, [.int i] => if -(2 ^ 63) ≤ i ∧ i < 2 ^ 63 then (ixD xs.length i).bind fun k => (xs[k]?).map fun y => (y, xs.eraseIdx k) else none
  | .reverse, xs, [] => some (.non, xs.reverse)
  | .clear, _, [] => some (.non, [])
  | _, _, _ => none
def pmD : Pm → D → List D → Option PV
  | _, _, _ => none

def rngU (i : Int) (n : Nat) : List D := (List.range n).map fun (k : Nat) => D.int (i - (k : Int))
def enumD (ds : List D) : List D := ds.zipIdx.map fun x => .tup [.int x.2, x.1]
def rngD (i : Int) (n : Nat) : List D := (List.range n).map fun (k : Nat) => D.int (i + (k : Int))
/-! state -/
def rd (s : Sts) (i : Nat) : Rs PV := match s[i]? with
  | some (.fz d) => .ok (.fz d) s
  | some (.lst _) => .ok (.plc i) s
  | some (.io _) => .ok (.plc i) s
  | some (.brw _) => .ok (.plc i) s
  | _ => .no
/-- a list that may be changed -/
def rdL (s : Sts) (i : Nat) : Rs Unit := match s[i]? with
  | some (.lst _) => .ok () s
  | some (.io _) => .ok () s
  | _ => .no
/-- a name may be stored -/
def free (s : Sts) (i : Nat) : Bool := match s[i]? with
  | some .non => true
  | some (.fz _) => true
  | some (.lst _) => true
  | _ => false
def lift {a : Type} (o : Option a) (s : Sts) : Rs a := match o with
  | some x => .ok x s
  | none => .no
mutual
/-- a target takes data -/
def asgD : TG → D → Sts → Option Sts
  | .var i, d, s => if free s i then some (s.set i (.fz d)) else none
  | .tup ts, .tup ds, s => if ts.length = ds.length then asgL ts ds s else none
  | .tup ts, .lst ds, s => if ts.length = ds.length then asgL ts ds s else none
  | _, _, _ => none
def asgL : List TG → List D → Sts → Option Sts
  | t :: ts, d :: ds, s => match asgD t d s with
    | some s1 => asgL ts ds s1
    | none => none
  | _, _, s => some s
end
/-- a target takes a value -/
def asgP (t : TG) (p : PV) (s : Sts) : Option Sts := match t, p with
  | .var i, .tmp ds => if free s i then some (s.set i (.lst ds)) else none
  | t, p => match frz s p with
    | some (d, s1) => asgD t d s1
    | none => none
def lock (s : Sts) : PV → Sts
  | .plc i => match s[i]? with
    | some (.lst ds) => s.set i (.brw ds)
    | some (.io ds) => s.set i (.brw ds)
    | _ => s
  | _ => s
/-- s0: ahead of the lock -/
def unlock (s0 s : Sts) : PV → Sts
  | .plc i => match s0[i]?, s[i]? with
    | some (.lst _), some (.brw ds) => s.set i (.lst ds)
    | some (.io _), some (.brw ds) => s.set i (.io ds)
    | _, _ => s
  | _ => s
def lockL (s : Sts) : List PV → Sts
  | [] => s
  | p :: ps => lockL (lock s p) ps
def unlockL (s0 s : Sts) : List PV → Sts
  | [] => s
  | p :: ps => unlock s0 (unlockL (lock s0 p) s ps) p
def wipeS (s : Sts) : List Nat → Sts
  | [] => s
  | v :: vs => (wipeS s vs).set v .non
/-- the slots at vs are those of s0 -/
def backS (s0 s : Sts) : List Nat → Sts
  | [] => s
  | v :: vs => (backS s0 s vs).set v (s0.getD v .non)
def canWipe (s : Sts) (vs : List Nat) : Bool := vs.all fun v => match s[v]? with | some (.io _) => false | some (.brw _) => false | _ => true
/-- a comprehension's turns -/
def lcL (own : List Nat) (turn : D → List D → Sts → Rs (List D)) : List D → List D → Sts → Rs (List D)
  | [], acc, s => .ok acc s
  | d :: ds, acc, s => match turn d acc (wipeS s own) with
    | .ok acc' s' => lcL own turn ds acc' s'
    | _ => .no
def truthR (r : Rs PV) : Rs Bool := match r with
  | .ok p s => match view s p with
    | some d => lift d.truth s
    | none => .no
  | .er x s => .er x s
  | .no => .no
def pvS (r : Rs (Option PV)) : Rs PV := match r with
  | .ok (some p) s => .ok p s
  | .ok none _ => .no
  | .er x s => .er x s
  | .no => .no
def viewR (r : Rs PV) : Rs D := match r with
  | .ok p s => lift (view s p) s
  | .er x s => .er x s
  | .no => .no
/-- the arguments of a call: the callee's slots -/
def argS (s : Sts) : List PV → List Bool → Option (List Sl)
  | [], [] => some []
  | p :: ps, true :: bs => match p with
    | .plc i => match s[i]? with
      | some (.lst ds) => (argS s ps bs).map (.io ds :: ·)
      | some (.io ds) => (argS s ps bs).map (.io ds :: ·)
      | _ => none
    | _ => none
  | p :: ps, false :: bs => match viewC s p with
    | some d => (argS s ps bs).map (.fz d :: ·)
    | none => none
  | _, _ => none
/-- the slots that are handed over, those that are looked at -/
def ioIx : List PV → List Bool → List Nat
  | .plc i :: ps, true :: bs => i :: ioIx ps bs
  | _ :: ps, _ :: bs => ioIx ps bs
  | _, _ => []
def atIx : List El → List Nat
  | [] => []
  | .d _ :: es => atIx es
  | .at i :: es => i :: atIx es
def vwIx : List PV → List Bool → List Nat
  | .plc i :: ps, false :: bs => i :: vwIx ps bs
  | .shl els :: ps, false :: bs => atIx els ++ vwIx ps bs
  | _ :: ps, _ :: bs => vwIx ps bs
  | _, _ => []
/-- behind a call: what was handed over comes back -/
def backIo : Sts → List PV → List Bool → List Sl → Sts
  | s, .plc i :: ps, true :: bs, .io ds :: os => backIo (s.set i (match s[i]? with | some (.io _) => .io ds | _ => .lst ds)) ps bs os
  | s, _ :: ps, _ :: bs, _ :: os => backIo s ps bs os
  | s, _, _, _ => s
def frzIx : Sts → List Nat → Option Sts
  | s, [] => some s
  | s, i :: is => match s[i]? with
    | some (.lst ds) => frzIx (s.set i (.fz (.lst ds))) is
    | some (.fz _) => frzIx s is
    | _ => none
def flatP : PV → Bool
  | .fz d => d.flat
  | .tmp ds => D.flatL ds
  | .plc _ => false
  | .shl _ => false
def outOk : List Bool → List Sl → Bool
  | [], [] => true
  | true :: bs, .io _ :: os => outOk bs os
  | false :: bs, .fz _ :: os => outOk bs os
  | _, _ => false
def flatO (os : List Sl) : Bool := os.all fun
  | .io ds => D.flatL ds
  | _ => true
/-- the viewed stay the caller's own where nothing that comes back can hold them -/
def backC (fl : Bool) (s : Sts) (ps : List PV) (bs : List Bool) (os : List Sl) : Option Sts := if fl = true then some (backIo s ps bs os) else frzIx (backIo s ps bs os) (vwIx ps bs)
def isVal : PV → Bool
  | .fz _ => true
  | .tmp _ => true
  | _ => false
/-- a call of the function with the slots' modes bs -/
def callR (bs : List Bool) (run : List Sl → CR) (ps : List PV) (s : Sts) : Rs PV :=
  match argS s ps bs with
  | none => .no
  | some as =>
    if (ioIx ps bs).Nodup ∧ (∀ i ∈ ioIx ps bs, i ∉ vwIx ps bs) then
      match run as with
      | .ok p os => if outOk bs os && isVal p then (match backC (flatP p && flatO os) s ps bs os with
          | some s' => .ok p s'
          | none => .no) else .no
      | .er x os => if outOk bs os then (match backC (flatO os) s ps bs os with
          | some s' => .er x s'
          | none => .no) else .no
      | .no => .no
    else .no

/-! expressions -/
abbrev Env := Nat → Option (List Bool × (List Sl → CR))
/-- m: as a test -/
def fin (m : Bool) (r : Rs PV) : Rs PV := match m with
  | false => r
  | true => (truthR r).bind fun b s => .ok (.fz (.bl b)) s
def isT (r : Rs PV) : Rs Bool := r.bind fun p s => match p with
  | .fz (.bl b) => .ok b s
  | _ => .no
mutual
def evE (G : Env) : IE → Bool → Sts → Rs PV
  | .var i, m, s => fin m (rd s i)
  | .con d, m, s => fin m (.ok (.fz d) s)
  | .bin o a b, m, s => fin m ((evE G a false s).bind fun p s1 => (evE G b false s1).bind fun q s2 => match view s2 p, view s2 q with
    | some x, some y => lift (bop o x y) s2
    | _, _ => .no)
  | .neg a, m, s => fin m ((evE G a false s).bind fun p s1 => match view s1 p with
    | some (.int i) => .ok (.fz (.int (-i))) s1
    | _ => .no)
  | .not a, true, s => (isT (evE G a true s)).bind fun b s1 => .ok (.fz (.bl (!b))) s1
  | .not a, false, s => (truthR (evE G a false s)).bind fun b s1 => .ok (.fz (.bl (!b))) s1
  | .cmp o a b, m, s => (evE G a false s).bind fun p s1 => (evE G b false s1).bind fun q s2 => match view s2 p, view s2 q with
    | some x, some y => (lift (cop o x y) s2).bind fun b s3 => .ok (.fz (.bl b)) s3
    | _, _ => .no
  | .cmp2 o o' a b c, m, s => (evE G a false s).bind fun p s1 => (evE G b false s1).bind fun q s2 => match view s2 p, view s2 q with
    | some x, some y => (lift (cop o x y) s2).bind fun k s3 => if k = true then (evE G c false s3).bind fun r s4 => match view s4 q, view s4 r with
        | some y, some z => (lift (cop o' y z) s4).bind fun b s5 => .ok (.fz (.bl b)) s5
        | _, _ => .no
      else .ok (.fz (.bl false)) s3
    | _, _ => .no
  | .and a b, false, s => (evE G a false s).bind fun p s1 => (match view s1 p with | some d => lift d.truth s1 | none => .no).bind fun k s2 => if k = true then evE G b false s2 else .ok p s2
  | .and a b, true, s => (isT (evE G a true s)).bind fun k s1 => if k = true then evE G b true s1 else .ok (.fz (.bl false)) s1
  | .or a b, false, s => (evE G a false s).bind fun p s1 => (match view s1 p with | some d => lift d.truth s1 | none => .no).bind fun k s2 => if k = true then .ok p s2 else evE G b false s2
  | .or a b, true, s => (isT (evE G a true s)).bind fun k s1 => if k = true then .ok (.fz (.bl true)) s1 else evE G b true s1
  | .ife c a b, false, s => (isT (evE G c true s)).bind fun k s1 => if k = true then evE G a false s1 else evE G b false s1
  | .ife _ _ _, true, _ => .no
  | .tup es, m, s => fin m ((evL G es s).bind fun ps s1 => match frzL s1 ps with
    | some (ds, s2) => if ds.length ≤ sizeLine then .ok (.fz (.tup ds)) s2 else .no
    | none => .no)
  | .lst es, m, s => fin m ((evL G es s).bind fun ps s1 => match frzL s1 ps with
    | some (ds, s2) => if ds.length ≤ sizeLine then .ok (.tmp ds) s2 else .no
    | none => .no)
  | .shl es, m, s => fin m ((evL G es s).bind fun ps s1 => if ps.any isPlc then (match shlL s1 ps with
      | some (els, s2) => if els.length ≤ sizeLine then .ok (.shl els) s2 else .no
      | none => .no)
    else match frzL s1 ps with
    | some (ds, s2) => if ds.length ≤ sizeLine then .ok (.tmp ds) s2 else .no
    | none => .no)
  | .sub a i, m, s => fin m ((evE G a false s).bind fun p s1 => (evE G i false s1).bind fun q s2 => match view s2 p, view s2 q with
    | some x, some y => (lift (subD x y) s2).bind fun d s3 => .ok (.fz d) s3
    | _, _ => .no)
  | .slc a lo hi, m, s => fin m ((evE G a false s).bind fun p s1 => (evO G lo s1).bind fun l s2 => (evO G hi s2).bind fun h s3 => match view s3 p with
    | some x => lift (slcD l h x) s3
    | none => .no)
  | .call f es, m, s => fin m ((evL G es s).bind fun ps s1 => match G f with
    | some (bs, run) => callR bs run ps s1
    | none => .no)
  | .calld f es, m, s => fin m ((evE G f false s).bind fun p s1 => match p with
    | .fz (.fn f) => match G f with
      | some (bs, run) => (evL G es s1).bind fun ps s2 => callR bs run ps s2
      | none => .no
    | _ => .no)
  | .blt b es, m, s => fin m ((evL G es s).bind fun ps s1 => match views s1 ps with
    | some ds => lift (blD b ds) s1
    | none => .no)
  | .isi a cs, m, s => fin m ((evE G a false s).bind fun p s1 => match view s1 p with
    | some d => match cs with
      | [c] => (lift (isClsOf d c) s1).bind fun b s2 => .ok (.fz (.bl b)) s2
      | _ => .no
    | none => .no)
  | .mut k i es, m, s => fin m ((rdL s i).bind fun _ s0 => (evL G es s0).bind fun ps s1 => match frzL s1 ps with
    | some (ds, s2) => match s2[i]? with
      | some (.lst xs) => match mtD k xs ds with
        | some (d, ys) => .ok (.fz d) (s2.set i (.lst ys))
        | none => .no
      | some (.io xs) => match mtD k xs ds with
        | some (d, ys) => .ok (.fz d) (s2.set i (.io ys))
        | none => .no
      | _ => .no
    | none => .no)
  | .pm k a es, m, s => fin m ((evE G a false s).bind fun p s1 => (evL G es s1).bind fun ps s2 => match view s2 p, views s2 ps with
    | some d, some ds => lift (pmD k d ds) s2
    | _, _ => .no)
  | .rng t a b, m, s => fin m ((evE G a false s).bind fun p s1 => (evE G b false s1).bind fun q s2 => match view s2 p, view s2 q with
    | some (.int i), some (.int j) => if -(2 ^ 62) ≤ i ∧ i < 2 ^ 62 ∧ -(2 ^ 62) ≤ j ∧ j < 2 ^ 62 ∧ (j - i).toNat ≤ sizeLine then
        (if t = true then .ok (.fz (.tup (rngD i (j - i).toNat))) s2 else .ok (.tmp (rngD i (j - i).toNat)) s2) else .no
    | _, _ => .no)
  | .lc own tg it ifs e, m, s => fin m ((evI G it s).bind fun x s1 =>
    if canWipe s1 own then
      (lcL own (fun d acc s => match asgD tg d s with
        | some s1 => (evTs G ifs s1).bind fun k s2 => if k = true then (evE G e false s2).bind fun p s3 => (match frz s3 p with
            | some (y, s4) => if acc.length < sizeLine then .ok (acc ++ [y]) s4 else .no
            | none => .no) else .ok acc s2
        | none => .no) x.1 [] (lockL s1 x.2)).bind fun acc s2 => .ok (.tmp acc) (unlockL s1 (backS (lockL s1 x.2) s2 own) x.2)
    else .no)
  | .lc2 own tg it ifs own1 tg1 it1 ifs1 e, m, s => .no
def evTs (G : Env) : List IE → Sts → Rs Bool
  | [], s => .ok true s
  | c :: cs, s => (isT (evE G c true s)).bind fun k s1 => if k = true then evTs G cs s1 else .ok false s1
def evL (G : Env) : List IE → Sts → Rs (List PV)
  | [], s => .ok [] s
  | e :: es, s => (evE G e false s).bind fun p s1 => (evL G es s1).bind fun ps s2 => .ok (p :: ps) s2
def evO (G : Env) : Option IE → Sts → Rs (Option Int)
  | none, s => .ok none s
  | some e, s => (evE G e false s).bind fun p s1 => match view s1 p with
    | some (.int i) => .ok (some i) s1
    | _ => .no
/-- what is walked: its items, what is to be locked -/
def evI (G : Env) : II → Sts → Rs (List D × List PV)
  | .seq e, s => (evE G e false s).bind fun p s1 => match view s1 p with
    | some d => (lift (itemsD d) s1).bind fun ds s2 => .ok (ds, [p]) s2
    | none => .no
  | .rng a b, s => (evE G a false s).bind fun p s1 => (evE G b false s1).bind fun q s2 => match view s2 p, view s2 q with
    | some (.int i), some (.int j) => if -(2 ^ 62) ≤ i ∧ i < 2 ^ 62 ∧ -(2 ^ 62) ≤ j ∧ j < 2 ^ 62 then .ok (rngD i (j - i).toNat, []) s2 else .no
    | _, _ => .no
  | .rngd a b, s => (evE G a false s).bind fun p s1 => (evE G b false s1).bind fun q s2 => match view s2 p, view s2 q with
    | some (.int i), some (.int j) => if -(2 ^ 62) ≤ i ∧ i < 2 ^ 62 ∧ -(2 ^ 62) ≤ j ∧ j < 2 ^ 62 then .ok (rngU i (i - j).toNat, []) s2 else .no
    | _, _ => .no
  | .enum e, s => (evE G e false s).bind fun p s1 => match view s1 p with
    | some d => (lift (itemsD d) s1).bind fun ds s2 => .ok (enumD ds, [p]) s2
    | none => .no
  | .zip a b, s => (evE G a false s).bind fun p s1 => (evE G b false s1).bind fun q s2 => match view s2 p, view s2 q with
    | some (.lst xs), some (.lst ys) => .ok (List.zipWith (fun x y => D.tup [x, y]) xs ys, [p, q]) s2
    | some (.tup xs), some (.tup ys) => .ok (List.zipWith (fun x y => D.tup [x, y]) xs ys, [p, q]) s2
    | _, _ => .no
  | .zip3 a b c, s => .no
  | .rev e, s => (evE G e false s).bind fun p s1 => match view s1 p with
    | some d => (lift (itemsD d) s1).bind fun ds s2 => .ok (ds.reverse, [p]) s2
    | none => .no
end
/-! statements -/
/-- a for's turns -/
def forL (asg : D → Sts → Option Sts) (body : Sts → Out) : List D → Sts → Out
  | [], s => .nx s
  | d :: ds, s => match asg d s with
    | some s1 => match body s1 with
      | .nx s2 => forL asg body ds s2
      | .ct s2 => forL asg body ds s2
      | .bk s2 => .nx s2
      | o => o
    | none => .no
def whlL (c : Sts → Rs Bool) (body : Sts → Out) : Nat → Sts → Out
  | 0, _ => .no
  | n + 1, s => match c s with
    | .ok false s1 => .nx s1
    | .ok true s1 => match body s1 with
      | .nx s2 => whlL c body n s2
      | .ct s2 => whlL c body n s2
      | .bk s2 => .nx s2
      | o => o
    | .er x s1 => .er x s1
    | .no => .no
def unlockO (s0 : Sts) (p : List PV) : Out → Out
  | .nx s => .nx (unlockL s0 s p)
  | .rt q s => .rt q (unlockL s0 s p)
  | .bk s => .bk (unlockL s0 s p)
  | .ct s => .ct (unlockL s0 s p)
  | .er x s => .er x (unlockL s0 s p)
  | .no => .no
def Rs.out {a : Type} (r : Rs a) (f : a → Sts → Out) : Out := match r with
  | .ok x s => f x s
  | .er x s => .er x s
  | .no => .no
def noEr : Out → Out
  | .er _ _ => .no
  | o => o
def onRt : Out → Out
  | .rt p s => .rt p s
  | _ => .no
def tryC (cb : Sts → Out) (hs : D → Sts → Out) (s : Sts) : Out := match cb s with
  | .er x s1 => hs x s1
  | o => o
def asC (c i : Nat) (f : Nat → Sts → Out) (x : D) (s : Sts) : Out := match x with
  | .exc k [] => if (k == c || c == 0) = true then (if free s i = true then onRt (f k (s.set i .non)) else .no) else .er x s
  | _ => .no
/-- an item of a list that may be changed is stored -/
def stP (i : Nat) (j : Int) (d : D) (s : Sts) : Option Sts := match s[i]? with
  | some (.lst xs) => (ixD xs.length j).map fun n => s.set i (.lst (xs.set n d))
  | some (.io xs) => (ixD xs.length j).map fun n => s.set i (.io (xs.set n d))
  | _ => none
def gtP (i : Nat) (j : Int) (s : Sts) : Option D := match s[i]? with
  | some (.lst xs) => (ixD xs.length j).bind fun n => xs[n]?
  | some (.io xs) => (ixD xs.length j).bind fun n => xs[n]?
  | _ => none
def stI (ck : Sts → Rs PV) (i : Nat) (s : Sts) : Rs Int := (rdL s i).bind fun _ s0 => (ck s0).bind fun q s1 => match view s1 q with
  | some (.int j) => .ok j s1
  | _ => .no
def stC (G : Env) : List Nat → List IE → List D → Sts → Rs Unit
  | [], [], [], s => .ok () s
  | i :: is, k :: ks, d :: ds, s => (stI (evE G k false) i s).bind fun j s1 => match stP i j d s1 with
    | some s2 => stC G is ks ds s2
    | none => .no
  | _, _, _, _ => .no
mutual
/-- n: the most turns of a while -/
def evS (n : Nat) (G : Env) : IS → Sts → Out
  | .asg t e, s => (evE G e false s).out fun p s1 => match asgP t p s1 with
    | some s2 => .nx s2
    | none => .no
  | .asub i k e, s => .no
  | .aug i o e, s => (rd s i).out fun p s1 => (evE G e false s1).out fun q s2 => match p, view s2 q with
    | .fz (.int x), some (.int y) => match augD o x y with
      | some z => if free s2 i then .nx (s2.set i (.fz (.int z))) else .no
      | none => .no
    | _, _ => .no
  | .asubs one is ks e, s => (evE G e false s).out fun p s1 => match frz s1 p with
    | some (d, s2) => if one = true then (stC G is ks [d] s2).out fun _ s3 => .nx s3 else match d with
      | .tup ds => if ds.length = is.length then (stC G is ks ds s2).out fun _ s3 => .nx s3 else .no
      | _ => .no
    | none => .no
  | .augs i k o e, s => (stI (evE G k false) i s).out fun j s1 => match gtP i j s1 with
    | some (.int x) => (evE G e false s1).out fun p s2 => match view s2 p with
      | some (.int y) => match augD o x y with
        | some z => match stP i j (.int z) s2 with
          | some s3 => .nx s3
          | none => .no
        | none => .no
      | _ => .no
    | _ => .no
  | .par i j a b, s => (evE G a false s).out fun p s1 => (evE G b false s1).out fun q s2 => match p, q with
    | .fz d, .fz d' => if free s2 i = true ∧ free s2 j = true then .nx ((s2.set i (.fz d)).set j (.fz d')) else .no
    | .tmp ds, .fz d' => if free s2 i = true ∧ free s2 j = true then .nx ((s2.set i (.lst ds)).set j (.fz d')) else .no
    | .fz d, .tmp ds' => if free s2 i = true ∧ free s2 j = true then .nx ((s2.set i (.fz d)).set j (.lst ds')) else .no
    | .tmp ds, .tmp ds' => if free s2 i = true ∧ free s2 j = true then .nx ((s2.set i (.lst ds)).set j (.lst ds')) else .no
    | _, _ => .no
  | .expr e, s => (evE G e false s).out fun _ s1 => .nx s1
  | .ret e, s => (evE G e false s).out fun p s1 => .rt p s1
  | .pass, s => .nx s
  | .brk, s => .bk s
  | .ife c a b, s => (isT (evE G c true s)).out fun k s1 => if k = true then evB n G a s1 else evB n G b s1
  | .for_ t it b, s => (evI G it s).out fun x s1 => unlockO s1 x.2 (forL (asgD t) (evB n G b) x.1 (lockL s1 x.2))
  | .whl c b, s => whlL (fun s => isT (evE G c true s)) (evB n G b) n s
  | .raise c, s => .er (.exc c []) s
  | .stuck, _ => .no
  | .try_ b hs, s => tryC (evB n G b) (evHs n G hs) s
  | .tryAs b c i bs, s => tryC (evB n G b) (asC c i (evBs n G bs)) s
def evHs (n : Nat) (G : Env) : List IH → D → Sts → Out
  | [], x, s => .er x s
  | .mk c b :: hs, x, s => match x with
    | .exc k [] => if (k == c || c == 0) = true then noEr (evB n G b s) else evHs n G hs x s
    | _ => .no
def evBs (n : Nat) (G : Env) : List (List IS) → Nat → Sts → Out
  | [], _, _ => .no
  | b :: _, 0, s => evB n G b s
  | _ :: bs, k + 1, s => evBs n G bs k s
def evB (n : Nat) (G : Env) : List IS → Sts → Out
  | [], s => .nx s
  | x :: xs, s => match evS n G x s with
    | .nx s1 => evB n G xs s1
    | o => o
end
/-! functions -/
structure Fn where
  modes : List Bool
  ns : Nat
  body : List IS
/-- what a function gives -/
def outs (as s : Sts) : List Sl := List.zipWith (fun a b => match a with | .io _ => b | _ => a) as s
def endC0 (as : List Sl) : Out → CR
  | .nx s => .ok (.fz .non) (outs as s)
  | .rt (.fz d) s => .ok (.fz d) (outs as s)
  | .rt (.tmp ds) s => .ok (.tmp ds) (outs as s)
  | .rt (.plc i) s => match s[i]? with
    | some (.lst ds) => .ok (.tmp ds) (outs as s)
    | some (.fz d) => .ok (.fz d) (outs as s)
    | _ => .no
  | .er x s => .er x (outs as s)
  | _ => .no
def lenOk (n : Nat) : Out → Bool
  | .nx s => decide (n ≤ s.length)
  | .rt _ s => decide (n ≤ s.length)
  | .er _ s => decide (n ≤ s.length)
  | _ => false
def endC (as : List Sl) (o : Out) : CR := if lenOk as.length o = true then endC0 as o else .no
def runF (T : List Fn) (n : Nat) : Nat → Nat → List Sl → CR
  | 0, _, _ => .no
  | k + 1, f, as => match T[f]? with
    | some F => if F.modes.length = as.length then endC as (evB n (fun g => (T[g]?).map fun F => (F.modes, runF T n k g)) F.body (as ++ List.replicate (F.ns - as.length) .non)) else .no
    | none => .no
end Z

set_option maxHeartbeats 2000000
/-! ZR: t * 1, t[::-1], repr, tuple(reversed(xs)): rules of the layer -/
namespace Z
open PySem PySem.Spec PyProof.Rows L2 HT
/-! t * 1 is t -/
theorem once_mul (l : Addr) (items : Array Value) (n : Nat) (dd : Option Addr) (sl : Array (Option Value)) (u : Tok) (he : items.isEmpty = false) :
    Meets (Builtin.«tuple.__mul__» ⟨[.ref l, .int 1 u], []⟩) (fun _ R s => s.heap.get? l = some { cls := .type "tuple", dict := dd, data := .seq items n, slots := sl } ∧ R (.ok (.ret (Value.ref l))) s) :=
  .of_wp fun prog w A R s h => by
    obtain ⟨hp, g, d, tk, os⟩ := s
    obtain ⟨hl, h⟩ := h
    have f1 := AutoSeq1.idx_int
    have c0 : (decide ((1 : Int) < -(2 ^ 63)) || decide ((1 : Int) ≥ 2 ^ 63)) = false := by decide
    have c1 : (items.isEmpty || (1 : Int) == 1) = true := by rw [he]; rfl
    wp_walk using wpAny_loadPart' hl
    repeat (first
      | (refine wpAny_ite_false (decide_eq_false (by rw [c0]; exact Bool.false_ne_true)) ?_; wp_walk using wpAny_loadPart' hl)
      | (refine wpAny_ite_true (decide_eq_true (by rw [c1])) ?_; wp_walk using wpAny_loadPart' hl))
    exact ⟨_, rfl, h⟩
def rOnceT (K : PySem.W.Frag) : R2 := fun x y H Q => ∃ l xs, x = .ref l ∧ y = .int 1 ∧ SqT K H l xs ∧ xs ≠ [] ∧ Q (.ref l) H
theorem op_onceT {X : Cx} : OpR X (binaryOp .Mult) (rOnceT X.K) := by
  intro pins s σ H x y v u Q I rx ry h
  obtain ⟨l, xs, rfl, rfl, hT, hne, q⟩ := h
  cases rx
  obtain ⟨t, rfl⟩ := ry
  obtain ⟨its, r, ⟨⟨cls, dd, data, sl⟩, ho, hc, n, hd⟩, hs⟩ := I.tuple hT
  simp only at hc hd
  subst hc hd
  have hi : its.toArray.isEmpty = false := by
    cases its with
    | nil => exact absurd (List.eq_nil_of_length_eq_zero r.length) hne
    | cons a b => rfl
  exact wpAny_binaryOp_repeat_ref (T := "tuple") (U := "int") (by decide) ⟨_, ho, rfl⟩ (fun s' => typeIs_int s' 1 t) noFill_tuple_mul F.fills_int_mul F.slot_int_rmul repeat_tuple F.slot_int_index.lookup
    (call_meets F.slot_int_rmul (typeIs_int s 1 t) F.entry_int_rmul (F.args_int_rmul_2 _ _) (int_rmul_tuple 1 t l its.toArray n dd sl)
      ⟨ho, rfl, ⟨_, ho, rfl⟩, call_meets F.slot_tuple_mul ⟨_, ho, rfl⟩ F.entry_tuple_mul (F.args_tuple_mul_2 _ _) (once_mul l its.toArray n dd sl t hi) ⟨ho, ⟨.ref l, H, I, rfl, q⟩⟩⟩)
/-! t[::-1] -/
theorem rev_adjust (n : Nat) : Builtin.Slice.sliceAdjust none none (-1) (n : Int) = ((n : Int) - 1, -1) := by
  unfold Builtin.Slice.sliceAdjust; simp
theorem rev_places (n : Nat) : Builtin.Slice.slicePlaces ((n : Int) - 1) (-1) (-1) = n := by
  unfold Builtin.Slice.slicePlaces
  simp only [show ¬ ((-1 : Int) > 0) by decide, if_false]
  split
  · rw [show (-(-1) : Int) = 1 by decide, Int.ediv_one]; omega
  · omega
theorem fm_congr {α β : Type} {f g : α → Option β} : ∀ {l : List α}, (∀ x ∈ l, f x = g x) → l.filterMap f = l.filterMap g
  | [], _ => rfl
  | x :: l, h => by
    rw [List.filterMap_cons, List.filterMap_cons, h x (by simp), fm_congr (l := l) fun y hy => h y (by simp [hy])]
theorem rev_pick (xs : Array Value) : ((List.range xs.size).filterMap fun (k : Nat) => xs[(((xs.size : Int) - 1) + (k : Int) * (-1)).toNat]?) = xs.toList.reverse := by
  have e : ((List.range xs.size).filterMap fun (k : Nat) => xs[(((xs.size : Int) - 1) + (k : Int) * (-1)).toNat]?) = ((List.range xs.size).map fun k => xs.size - 1 - k).filterMap (xs[·]?) := by
    rw [List.filterMap_map]
    refine fm_congr fun k hk => ?_
    have := List.mem_range.mp hk
    show _ = xs[xs.size - 1 - k]?
    congr 1; omega
  rw [e, PySem.W.krv_range, List.filterMap_reverse, PySem.W.krv_all]
section
variable {prog : Program} {w : World} {A : Around} {E : Value → Shared → Prop} {s : Shared}
theorem sliceApplied_rev {sl : Addr} {vl vu vs : Value} {n : Nat} {Q : Int × Int × Nat → Shared → Prop} (hs : s.heap.IsSliceOf sl vl vu vs) (pl : IsPart vl none) (pu : IsPart vu none) (ps : IsPart vs (some (-1)))
    (h : Q ((n : Int) - 1, -1, n) s) : wpAny (model prog w) A (Builtin.Slice.sliceApplied (.ref sl) (pure (n : Int))) Q E s := by
  obtain ⟨os, hos, hcs, hds⟩ := id hs
  unfold Builtin.Slice.sliceApplied Builtin.Slice.sliceFields
  refine wpAny_bind (wpAny_bind (wpAny_field hos hds (x := vl) rfl (wpAny_bind (wpAny_field hos hds (x := vu) rfl (wpAny_bind (wpAny_field hos hds (x := vs) rfl (wpAny_pure ?_)))))))
  refine wpAny_bind (HT.slicePart_ ps ?_)
  show wpAny _ _ (if ((-1 : Int) == 0) = true then _ else _) _ _ s
  rw [if_neg (by decide)]
  refine wpAny_bind (HT.slicePart_ pl (wpAny_bind (HT.slicePart_ pu (wpAny_bind (wpAny_pure ?_)))))
  show wpAny _ _ (match Builtin.Slice.sliceAdjust none none (-1) (n : Int) with | (lo, hi) => pure (lo, (-1 : Int), Builtin.Slice.slicePlaces lo hi (-1))) _ _ s
  rw [rev_adjust n]
  show wpAny _ _ (pure ((n : Int) - 1, (-1 : Int), Builtin.Slice.slicePlaces ((n : Int) - 1) (-1) (-1))) _ _ s
  rw [rev_places]
  exact wpAny_pure h
theorem getItem_tuple_rev {t sl : Addr} {items : Array Value} {vl vu vs : Value} {Q : Value → Shared → Prop} (ht : IsTup s.heap t items) (hs : s.heap.IsSliceOf sl vl vu vs) (pl : IsPart vl none) (pu : IsPart vu none) (ps : IsPart vs (some (-1)))
    (h : Q (.ref s.heap.objs.size) { s with heap := s.heap.push { cls := .type "tuple", data := .seq items.toList.reverse.toArray } }) (hsz : items.size ≤ sizeLine) : wpAny (model prog w) A (getItem (.ref t) (.ref sl)) Q E s := by
  obtain ⟨os, hos, hcs, hds⟩ := id hs
  have hTs : s.TypeIs (.ref sl) "slice" := ⟨os, hos, hcs⟩
  have hsz2 : sizeOk (.seq items.toList.reverse.toArray) := by
    show items.toList.reverse.toArray.size ≤ sizeLine
    rw [List.size_toArray, List.length_reverse, Array.length_toList]
    exact hsz
  unfold getItem
  try with_reducible refine wpAny_holding ?_
  first | refine wpAny_bind (wpAny_pure ?_) | skip
  refine wpAny_bind (wpAny_sequenceKey ht.typeIs (by decide) ?_)
  refine wpAny_bind (wpAny_callSpecial?_slot (name := Str.ofString "__getitem__") ht.typeIs PyProof.Rows.slot_tuple_getitem
    (wpAny_call_entry PyProof.Rows.slot_tuple_getitem ht.typeIs entry_tuple_getitem ?_ (args_tuple_getitem _ _)))
  show wpAny _ _ (Builtin.Tuple.tupleItemsOf (.ref t) >>= _) _ _ s
  refine wpAny_bind (tupleItemsOf_ ht ?_)
  refine wpAny_bind (wpAny_typeOf hTs ?_)
  rw [if_pos (by decide)]
  refine wpAny_bind (sliceApplied_rev hs pl pu ps ?_)
  show wpAny _ _ (if (((items.size : Int) - 1) == 0 && (-1 : Int) == 1 && items.size == items.size) = true then _ else _) _ _ s
  rw [if_neg (by simp), rev_pick]
  first
    | exact wpAny_bind (m := Builtin.Tuple.tupleExact _) (wpAny_newObj_type (wpAny_pure ⟨_, rfl, wpAny_pure h⟩) hsz2)
    | exact wpAny_bind (m := Builtin.Tuple.tupleExact _) (wpAny_newObj_type (wpAny_bind (wpAny_pure (wpAny_pure ⟨_, rfl, wpAny_pure h⟩))) hsz2)
    | exact wpAny_bind (wpAny_bind (m := Builtin.Tuple.tupleExact _) (wpAny_newObj_type (wpAny_pure (wpAny_pure ⟨_, rfl, wpAny_pure h⟩)) hsz2))
    | exact wpAny_bind (wpAny_bind (m := Builtin.Tuple.tupleExact _) (wpAny_newObj_type (wpAny_pure ⟨_, rfl, wpAny_pure h⟩) hsz2))
end
section
variable {X : Cx}
def tRevA (K : PySem.W.Frag) (te : TE) : TE := fun σ H Q => te σ H fun x H1 => ∃ a xs, x = .ref a ∧ ((SqL K H1 a xs ∧ ∀ p, H1 p = none → Q (.ref p) (upd H1 p (.lst xs.reverse))) ∨ (SqT K H1 a xs ∧ ∀ p, H1 p = none → Q (.ref p) (upd H1 p (.tup xs.reverse))))
theorem pe_revA {e : Expr} {te : TE} {k : Nat} {p1 p2 p3 pos : Pos} (he : PE X e te) : PE X (.Subscript e (.Slice none none (some (.UnaryOp .USub (.Constant (.int 1) k p1) p2)) p3) pos) (tRevA X.K te) := by
  refine ⟨fun pins s σ H Q I h => ?_⟩
  refine Subscript_ (thn (he.run pins s σ H _ I h) fun v s1 ⟨x, H1, I1, r1, q1⟩ => ?_)
  obtain ⟨a, xs, ex, q⟩ := q1
  subst ex
  cases r1
  have hst : PO X (some (.UnaryOp .USub (.Constant (.int 1) k p1) p2)) (tPart (tUn (rU fun i => .int (-i)) (tC (.int 1)))) := po_some (pe_un un_neg pe_int)
  refine wpAny_Slice (thn (po_none.run pins s1 σ H1 (fun o H2 => o = none ∧ H2 = H1) I1 ⟨rfl, rfl⟩) fun vl s2 ⟨l, H2, I2, pl, el, e2⟩ => ?_)
  subst el e2
  refine thn (po_none.run pins s2 σ H2 (fun o H3 => o = none ∧ H3 = H2) I2 ⟨rfl, rfl⟩) fun vu s3 ⟨u, H3, I3, pu, eu, e3⟩ => ?_
  subst eu e3
  refine thn (hst.run pins s3 σ H3 (fun o H4 => o = some (-1) ∧ H4 = H3) I3 ⟨1, rfl, -1, rfl, rfl, rfl⟩) fun vs s4 ⟨o, H4, I4, ps, eo, e4⟩ => ?_
  subst eo e4
  have I5 : Inv X pins σ H4 { s4 with heap := s4.heap.push { cls := .type "slice", data := .fields #[vl, vu, vs] } } := I4.kept (t' := s4.toks) fun b ob q => Heap.get?_push_of_some _ q
  show wpAny (model X.prog X.w) X.A (subscriptTail e (.Slice none none (some (.UnaryOp .USub (.Constant (.int 1) k p1) p2)) p3) (.ref a) (.ref s4.heap.objs.size)) (EP X pins σ Q) X.xe { s4 with heap := s4.heap.push { cls := .type "slice", data := .fields #[vl, vu, vs] } }
  rcases q with ⟨hx, q⟩ | ⟨hx, q⟩
  · obtain ⟨its, r, ht, hz⟩ := I5.list hx
    have hlen := r.length
    refine tail_any (ops := [.ref a, .ref s4.heap.objs.size]) ht.isList.typeIs (PySem.slot_list_getitem.lookup) ?_ (by with_unfolding_all rfl)
    refine wpAny_getItem_list_slice ht.isList (Heap.IsSliceOf.new _ vl vu vs) pl pu ps (by decide) ?_ (by rw [List.size_toArray]; omega)
    rw [PySem.W.krv_pick]
    refine ⟨.ref _, _, I5.laid (t' := s4.toks) (o := .lst xs.reverse) (fun b ob q => Heap.get?_push_of_some _ q) (Nat.le_refl _) ?_, rfl, q _ (I5.hok.fresh (Nat.le_refl _))⟩
    exact ⟨by rw [List.length_reverse]; exact hz, _, 0, r.reverse, Heap.get?_push_size _ rfl⟩
  · obtain ⟨its, r, ht, hz⟩ := I5.tuple hx
    have hlen := r.length
    refine tail_any (ops := [.ref a, .ref s4.heap.objs.size]) ht.typeIs (PyProof.Rows.slot_tuple_getitem.lookup) ?_ (by with_unfolding_all rfl)
    refine getItem_tuple_rev ht (Heap.IsSliceOf.new _ vl vu vs) pl pu ps ?_ (by rw [List.size_toArray]; omega)
    refine ⟨.ref _, _, I5.laid (t' := s4.toks) (o := .tup xs.reverse) (fun b ob q => Heap.get?_push_of_some _ q) (Nat.le_refl _) ?_, rfl, q _ (I5.hok.fresh (Nat.le_refl _))⟩
    exact ⟨by rw [List.length_reverse]; exact hz, _, r.reverse, IsTup.new _ _⟩
/-! repr -/
def rRepr (K : PySem.W.Frag) : List V → Hp → VK → Prop := fun vs H Q => ∃ v d, vs = [v] ∧ Dp K H v d ∧ d.showable = true ∧ d.hasDict = false ∧ d.shown.length + 64 ≤ sizeLine ∧ d.depth ≤ 61 ∧ Q (.str d.shown) H
theorem cr_repr (hg : X.A.guards = some []) (hu : X.A.units + 65 < cLine) : CallR X (.builtin "repr") (rRepr X.K) := by
  intro pins s σ H vs us Q I r h
  obtain ⟨v, d, rfl, hd, h1, h2, h3, h4, q⟩ := h
  obtain ⟨u, rfl, ru⟩ := vals1 r
  cases hd with
  | non => obtain rfl : u = Value.none := ru; exact PySem.P.repr_of_none ⟨.str _, H, I.tok _, ⟨_, rfl⟩, q⟩
  | bl b =>
    obtain rfl : u = Value.bool b := ru
    refine PySem.P.repr_of_bool ⟨.str _, H, I.tok _, ⟨_, rfl⟩, ?_⟩
    have e : (PyData.bool b).shown = (if b then "True" else "False" : Str) := by cases b <;> rfl
    rw [← e]; exact q
  | int i =>
    obtain ⟨t, rfl⟩ := ru
    refine PySem.P.repr_of_int (by simpa [PyData.showable] using h1) ⟨.str _, H, I.tok _, ⟨_, rfl⟩, ?_⟩
    exact q
  | str x =>
    obtain ⟨t, rfl⟩ := ru
    refine PySem.P.repr_of_str ⟨.str _, H, I.tok _, ⟨_, rfl⟩, ?_⟩ (by have : (PyData.str x).shown = reprText x := rfl; rw [← this]; omega)
    exact q
  | @lst a xs ds q1 q2 =>
    obtain rfl : u = Value.ref a := ru
    obtain ⟨as, rd⟩ := Dp.reads I (.list ds) (.ref a) (.ref a) (.lst q1 q2) rfl
    refine repr_of_reads' rd h1 (fun e => by rw [h2] at e; cases e) hg (by omega) (fun _ _ e => e) (fun h' u tk hk => ?_) (by omega)
    exact ⟨.str _, H, I.kept (t' := tk) hk, ⟨_, rfl⟩, q⟩
  | @tup a xs ds q1 q2 =>
    obtain rfl : u = Value.ref a := ru
    obtain ⟨as, rd⟩ := Dp.reads I (.tuple ds) (.ref a) (.ref a) (.tup q1 q2) rfl
    refine repr_of_reads' rd h1 (fun e => by rw [h2] at e; cases e) hg (by omega) (fun _ _ e => e) (fun h' u tk hk => ?_) (by omega)
    exact ⟨.str _, H, I.kept (t' := tk) hk, ⟨_, rfl⟩, q⟩
end
/-! tuple(reversed(xs)) -/
section
variable {X : Cx}
def tTupRev (K : PySem.W.Frag) (te : TE) : TE := fun σ H Q => te σ H fun v H1 => ∃ (a : Addr) (xs : List V), v = .ref a ∧ SqL K H1 a xs ∧ ∀ q, H1 q = none → Q (.ref q) (upd H1 q (.tup xs.reverse))
theorem pe_tupRev {e : Expr} {te : TE} {p p2 pos pos2 : Pos} (hc : X.calm = true) (hg : Gl X "tuple") (hm : X.mg "tuple" = none) (hg2 : Gl X "reversed") (hm2 : X.mg "reversed" = none) (he : PE X e te)
    (hs : starEach [e] X.env = (false, eval e X.env) :: starEach [] X.env) :
    PE X (.Call (.Name "tuple" p) [.Call (.Name "reversed" p2) [e] [] pos2] [] pos) (tTupRev X.K te) := by
  have hs2 : starEach [.Call (.Name "reversed" p2) [e] [] pos2] X.env = (false, eval (.Call (.Name "reversed" p2) [e] [] pos2) X.env) :: starEach [] X.env := rfl
  refine ⟨fun pins s σ H Q I h => ?_⟩
  refine Call_ (ld_blt I hg hm boot_tuple (PyProof.Rows.callWith_type1 (args_cons (Call_ (ld_blt I hg2 hm2 PyProof.Rows.boot_reversed (PyProof.Rows.callWith_type1 (args_cons (thn (he.run pins s σ H _ I h) fun u s1 ⟨v, H1, I1, r1, q1⟩ => args_nil ?_) hs) hs rfl))) hs2) hs2 rfl))
  obtain ⟨a, xs, ev, hq, q⟩ := q1
  subst ev
  obtain rfl : u = Value.ref a := r1
  obtain ⟨its, rv, p', hz⟩ := I1.list hq
  refine call_reversed_list p'.isList (args_nil ?_)
  have k0 : ∀ b o, s1.heap.get? b = some o → (s1.heap.push (revObj a ((its.toArray.size : Int) - 1))).get? b = some o := fun b o e => Heap.get?_push_of_some _ e
  have I2 : Inv X pins σ H1 { s1 with heap := s1.heap.push (revObj a ((its.toArray.size : Int) - 1)) } := I1.kept (t' := s1.toks) k0
  obtain ⟨f0, f1, f2, f3, f4, f5⟩ := I1.fpOk (H' := H1) (b := s1.heap.objs.size) (Nat.le_refl _) (I1.hok.fresh (Nat.le_refl _))
  have hl := p'.isList
  obtain ⟨ol, hol, _⟩ := id hl
  have hne : a ≠ s1.heap.objs.size := Nat.ne_of_lt (Heap.lt_size hol)
  have hn : its.toArray.size ≤ sizeLine := by rw [List.size_toArray, ← rv.length]; exact hz
  refine RT.call_tuple_rev (s := { s1 with heap := s1.heap.push (revObj a ((its.toArray.size : Int) - 1)) }) (I1.ok.hd hc) ⟨_, Heap.get?_push_size _ rfl, rfl, rfl⟩ (hl.push _) hne hn fun h' tk acc hk hi => ?_
  have k1 : ∀ b o, b ∉ [s1.heap.objs.size] → (s1.heap.push (revObj a ((its.toArray.size : Int) - 1))).get? b = some o → h'.get? b = some o := fun b o hb e => hk b o (fun z => hb (by rw [z]; exact List.mem_cons_self)) e
  have I3 : Inv X pins σ H1 { s1 with heap := h', toks := tk } := I2.turned (t' := tk) (fun b o hb e => hk b o hb e) f0 f1 f3 f4 f5
  have new : ObjOk X.prog X.w (upd H1 h'.objs.size (.tup xs.reverse)) (h'.push { cls := .type "tuple", data := .seq acc }) h'.objs.size (.tup xs.reverse) :=
    ⟨by rw [List.length_reverse]; exact hz, acc.toList, RT.vals_rev rv hi, by rw [Array.toArray_toList]; exact IsTup.new _ _⟩
  exact ⟨.ref h'.objs.size, _, I3.laid (t' := tk) (fun b ob q => Heap.get?_push_of_some _ q) (Nat.le_refl _) new, rfl, q _ (I3.hok.fresh (Nat.le_refl _))⟩
end
end Z

/-! Z3: how the heap bears data and slots; steps -/
namespace Z
open PySem PySem.Spec PyProof.Rows L2

abbrev St := L2.St
/-- where functions stand; which objects are exceptions at hand -/
structure Par where
  K : PySem.W.Frag
  fa : Nat → Addr → Prop
  hx : Addr → Nat → List D → Prop
  ca : Nat → Addr → Prop
  z : St → Prop
/-- slots may be stored -/
abbrev Par.Free (P : Par) : Prop := ∀ σ, P.z σ

mutual
def Rp (P : Par) (F : Hp) : D → V → Prop
  | .non, v => v = .non
  | .bl b, v => v = .bl b
  | .int i, v => v = .int i
  | .str x, v => v = .str x
  | .tup ds, v => ∃ a xs, v = .ref a ∧ SqT P.K F a xs ∧ RpL P F ds xs
  | .lst ds, v => ∃ a xs, v = .ref a ∧ F a = some (.lst xs) ∧ RpL P F ds xs
  | .fn i, v => ∃ a, v = .ref a ∧ P.fa i a
  | .exc c x, v => ∃ a, v = .ref a ∧ P.hx a c x
  | .gvn ds, v => ∃ a xs, v = .ref a ∧ SqL P.K F a xs ∧ RpL P F ds xs
  | .emp, v => ∃ a, v = .ref a ∧ F a = some (.dK [])
def RpL (P : Par) (F : Hp) : List D → List V → Prop
  | [], vs => vs = []
  | d :: ds, vs => ∃ v r, vs = v :: r ∧ Rp P F d v ∧ RpL P F ds r
end
abbrev Sub (F F' : Hp) : Prop := ∀ a o, F a = some o → F' a = some o
theorem sqT_mono {K : PySem.W.Frag} {F F' : Hp} (h : Sub F F') {a : Addr} {xs : List V} (x : SqT K F a xs) : SqT K F' a xs := by
  rcases x with (x | ⟨o, x⟩) | x
  · exact .inl (.inl (h _ _ x))
  · exact .inl (.inr ⟨o, h _ _ x⟩)
  · exact .inr x
theorem sqL_mono {K : PySem.W.Frag} {F F' : Hp} (h : Sub F F') {a : Addr} {xs : List V} (x : SqL K F a xs) : SqL K F' a xs := x.elim (fun x => .inl (x.elim (fun x => .inl (h _ _ x)) fun ⟨o, x⟩ => .inr ⟨o, h _ _ x⟩)) .inr
mutual
theorem Rp.mono {P : Par} {F F' : Hp} (h : Sub F F') : ∀ (d : D) {v : V}, Rp P F d v → Rp P F' d v
  | .non, _, x => x
  | .bl _, _, x => x
  | .int _, _, x => x
  | .str _, _, x => x
  | .tup ds, _, ⟨a, xs, e, q, r⟩ => ⟨a, xs, e, sqT_mono h q, RpL.mono h ds r⟩
  | .lst ds, _, ⟨a, xs, e, q, r⟩ => ⟨a, xs, e, h _ _ q, RpL.mono h ds r⟩
  | .fn _, _, x => x
  | .exc _ _, _, x => x
  | .gvn ds, _, ⟨a, xs, e, q, r⟩ => ⟨a, xs, e, sqL_mono h q, RpL.mono h ds r⟩
  | .emp, _, ⟨a, e, q⟩ => ⟨a, e, h _ _ q⟩
theorem RpL.mono {P : Par} {F F' : Hp} (h : Sub F F') : ∀ (ds : List D) {vs : List V}, RpL P F ds vs → RpL P F' ds vs
  | [], _, x => x
  | d :: ds, _, ⟨v, r, e, q, x⟩ => ⟨v, r, e, Rp.mono h d q, RpL.mono h ds x⟩
end
section
variable {P : Par} {F : Hp}
theorem RpL.length : ∀ {ds : List D} {vs : List V}, RpL P F ds vs → ds.length = vs.length
  | [], _, x => by subst x; rfl
  | d :: ds, _, ⟨v, r, e, q, x⟩ => by subst e; simp [RpL.length x]
theorem RpL.get : ∀ {ds : List D} {vs : List V} {i : Nat} {d : D}, RpL P F ds vs → ds[i]? = some d → ∃ v, vs[i]? = some v ∧ Rp P F d v
  | [], _, _, _, _, e => by simp at e
  | d :: ds, _, 0, _, ⟨v, r, e, q, x⟩, h => by subst e; simp at h; subst h; exact ⟨v, rfl, q⟩
  | d :: ds, _, i + 1, d', ⟨v, r, e, q, x⟩, h => by
    subst e
    obtain ⟨w, h1, h2⟩ := RpL.get (i := i) (d := d') x (by simpa using h)
    exact ⟨w, by simpa using h1, h2⟩
theorem RpL.getV : ∀ {ds : List D} {vs : List V} {i : Nat} {v : V}, RpL P F ds vs → vs[i]? = some v → ∃ d, ds[i]? = some d ∧ Rp P F d v
  | [], _, _, _, x, e => by subst x; simp at e
  | d :: ds, _, 0, _, ⟨v, r, e, q, x⟩, h => by subst e; simp at h; subst h; exact ⟨d, rfl, q⟩
  | d :: ds, _, i + 1, d', ⟨v, r, e, q, x⟩, h => by
    subst e
    obtain ⟨w, h1, h2⟩ := RpL.getV (i := i) (v := d') x (by simpa using h)
    exact ⟨w, by simpa using h1, h2⟩
theorem RpL.append : ∀ {ds es : List D} {vs ws : List V}, RpL P F ds vs → RpL P F es ws → RpL P F (ds ++ es) (vs ++ ws)
  | [], _, _, _, x, y => by subst x; exact y
  | d :: ds, _, _, _, ⟨v, r, e, q, x⟩, y => by subst e; exact ⟨v, _, rfl, q, RpL.append x y⟩
theorem RpL.one {d : D} {v : V} (h : Rp P F d v) : RpL P F [d] [v] := ⟨v, [], rfl, h, rfl⟩
theorem RpL.take : ∀ {ds : List D} {vs : List V} (n : Nat), RpL P F ds vs → RpL P F (ds.take n) (vs.take n)
  | [], _, _, x => by subst x; simp [RpL]
  | d :: ds, _, 0, _ => rfl
  | d :: ds, _, n + 1, ⟨v, r, e, q, x⟩ => by subst e; exact ⟨v, _, rfl, q, RpL.take n x⟩
theorem RpL.drop : ∀ {ds : List D} {vs : List V} (n : Nat), RpL P F ds vs → RpL P F (ds.drop n) (vs.drop n)
  | [], _, _, x => by subst x; simp [RpL]
  | d :: ds, _, 0, x => x
  | d :: ds, _, n + 1, ⟨v, r, e, q, x⟩ => by subst e; exact RpL.drop n x
theorem RpL.reverse : ∀ {ds : List D} {vs : List V}, RpL P F ds vs → RpL P F ds.reverse vs.reverse
  | [], _, x => by subst x; rfl
  | d :: ds, _, ⟨v, r, e, q, x⟩ => by subst e; rw [List.reverse_cons, List.reverse_cons]; exact RpL.append (RpL.reverse x) (RpL.one q)
theorem RpL.eraseIdx : ∀ {ds : List D} {vs : List V} (n : Nat), RpL P F ds vs → RpL P F (ds.eraseIdx n) (vs.eraseIdx n)
  | [], _, _, x => by subst x; rfl
  | d :: ds, _, 0, ⟨v, r, e, q, x⟩ => by subst e; exact x
  | d :: ds, _, n + 1, ⟨v, r, e, q, x⟩ => by subst e; exact ⟨v, _, rfl, q, RpL.eraseIdx n x⟩
theorem RpL.dropLast {ds : List D} {vs : List V} (h : RpL P F ds vs) : RpL P F ds.dropLast vs.dropLast := by
  rw [List.dropLast_eq_take, List.dropLast_eq_take, h.length]
  exact h.take _
theorem RpL.rep {ds : List D} {vs : List V} (h : RpL P F ds vs) : ∀ k : Nat, RpL P F (List.replicate k ds).flatten (List.replicate k vs).flatten
  | 0 => rfl
  | k + 1 => by rw [List.replicate_succ, List.replicate_succ, List.flatten_cons, List.flatten_cons]; exact h.append (RpL.rep h k)
theorem RpL.ints : ∀ {ns : List Int} {vs : List V}, RpL P F (ns.map D.int) vs → vs = ns.map V.int
  | [], _, x => x
  | n :: ns, _, ⟨v, r, e, q, x⟩ => by
    subst e
    have := RpL.ints (ns := ns) x
    have q' : v = .int n := q
    subst q'; subst this; rfl
theorem RpL.ofInts : ∀ (ns : List Int), RpL P F (ns.map D.int) (ns.map V.int)
  | [] => rfl
  | n :: ns => ⟨_, _, rfl, rfl, RpL.ofInts ns⟩
theorem RpL.bools : ∀ {bs : List Bool} {vs : List V}, RpL P F (bs.map D.bl) vs → vs = bs.map V.bl
  | [], _, x => x
  | n :: ns, _, ⟨v, r, e, q, x⟩ => by
    subst e
    have := RpL.bools (bs := ns) x
    have q' : v = .bl n := q
    subst q'; subst this; rfl
theorem RpL.set : ∀ {ds : List D} {vs : List V} {d : D} {v : V} (i : Nat), RpL P F ds vs → Rp P F d v → RpL P F (ds.set i d) (vs.set i v)
  | [], _, _, _, _, x, _ => by subst x; rfl
  | d :: ds, _, _, _, 0, ⟨v, r, e, q, x⟩, y => by subst e; exact ⟨_, _, rfl, y, x⟩
  | d :: ds, _, _, _, i + 1, ⟨v, r, e, q, x⟩, y => by subst e; exact ⟨_, _, rfl, q, RpL.set i x y⟩
end
theorem intsD_eq : ∀ {ds : List D} {ns : List Int}, intsD ds = some ns → ds = ns.map D.int
  | [], ns, h => by simp [intsD] at h; subst h; rfl
  | d :: ds, ns, h => by
    cases d <;> simp [intsD] at h
    obtain ⟨ms, h1, h2⟩ := h
    subst h2
    rw [intsD_eq h1]; rfl
theorem intsD_map : ∀ ns : List Int, intsD (ns.map D.int) = some ns
  | [] => rfl
  | n :: ns => by simp [intsD, intsD_map ns]
theorem boolsD_eq : ∀ {ds : List D} {ns : List Bool}, boolsD ds = some ns → ds = ns.map D.bl
  | [], ns, h => by simp [boolsD] at h; subst h; rfl
  | d :: ds, ns, h => by
    cases d <;> simp [boolsD] at h
    obtain ⟨ms, h1, h2⟩ := h
    subst h2
    rw [boolsD_eq h1]; rfl
theorem boolsD_map : ∀ ns : List Bool, boolsD (ns.map D.bl) = some ns
  | [] => rfl
  | n :: ns => by simp [boolsD, boolsD_map ns]
/-! flat data does not lean on lists -/
mutual
theorem Rp.less {P : Par} {F F' : Hp} (h : ∀ a xs, SqT P.K F a xs → SqT P.K F' a xs) : ∀ (d : D) {v : V}, d.flat = true → Rp P F d v → Rp P F' d v
  | .non, _, _, x => x
  | .bl _, _, _, x => x
  | .int _, _, _, x => x
  | .str _, _, _, x => x
  | .tup ds, _, f, ⟨a, xs, e, q, r⟩ => ⟨a, xs, e, h _ _ q, RpL.less h ds (by simpa [D.flat] using f) r⟩
  | .lst ds, _, f, _ => by simp [D.flat] at f
  | .fn _, _, _, x => x
  | .exc _ _, _, f, _ => by simp [D.flat] at f
  | .gvn _, _, f, _ => by simp [D.flat] at f
  | .emp, _, f, _ => by simp [D.flat] at f
theorem RpL.less {P : Par} {F F' : Hp} (h : ∀ a xs, SqT P.K F a xs → SqT P.K F' a xs) : ∀ (ds : List D) {vs : List V}, D.flatL ds = true → RpL P F ds vs → RpL P F' ds vs
  | [], _, _, x => x
  | d :: ds, _, f, ⟨v, r, e, q, x⟩ => by
    simp [D.flatL] at f
    exact ⟨v, r, e, Rp.less h d f.1 q, RpL.less h ds f.2 x⟩
end

/-! slots -/
def SlOk (P : Par) (F H : Hp) : Option V → Sl → Prop
  | _, .non => True
  | some v, .fz d => Rp P F d v
  | some v, .lst ds => ∃ a xs, v = .ref a ∧ F a = none ∧ H a = some (.lst xs) ∧ RpL P F ds xs
  | some v, .io ds => ∃ a xs, v = .ref a ∧ F a = none ∧ H a = some (.lst xs) ∧ RpL P F ds xs
  | some v, .brw ds => ∃ a xs, v = .ref a ∧ F a = none ∧ H a = some (.lst xs) ∧ RpL P F ds xs
  | none, _ => False
/-- slot i owns the list at a -/
def Own (σ : St) (s : Sts) (i : Nat) (a : Addr) : Prop := σ[i]? = some (some (V.ref a)) ∧ ∃ ds : List D, s[i]? = some (Sl.lst ds) ∨ s[i]? = some (Sl.io ds) ∨ s[i]? = some (Sl.brw ds)
/-- what may change -/
def FP (σ : St) (s : Sts) (a : Addr) : Prop := ∃ i : Nat, σ[i]? = some (some (V.ref a)) ∧ ∃ ds : List D, s[i]? = some (Sl.lst ds) ∨ s[i]? = some (Sl.io ds)
structure StR (P : Par) (F H : Hp) (σ : St) (s : Sts) : Prop where
  len : σ.length = s.length
  sub : Sub F H
  slot : ∀ (i : Nat) (v : Option V) (sl : Sl), σ[i]? = some v → s[i]? = some sl → SlOk P F H v sl
  dis : ∀ i j a, Own σ s i a → Own σ s j a → i = j
  z : P.z σ
theorem FP.own {σ : St} {s : Sts} {a : Addr} (h : FP σ s a) : ∃ i, Own σ s i a := by
  obtain ⟨i, h1, ds, h2 | h2⟩ := h
  · exact ⟨i, h1, ds, .inl h2⟩
  · exact ⟨i, h1, ds, .inr (.inl h2)⟩
theorem Own.out {P : Par} {F H : Hp} {σ : St} {s : Sts} {i : Nat} {a : Addr} (h : Own σ s i a) (r : StR P F H σ s) : F a = none ∧ ∃ xs, H a = some (.lst xs) := by
  obtain ⟨h1, ds, h2 | h2 | h2⟩ := h <;>
  · obtain ⟨b, xs, e, f, g, _⟩ := r.slot i _ _ h1 h2
    cases e
    exact ⟨f, xs, g⟩

structure Step (P : Par) (σ : St) (F H : Hp) (s : Sts) (σ' : St) (F' H' : Hp) (s' : Sts) : Prop where
  str : StR P F' H' σ' s'
  ff : Sub F F'
  hh : ∀ a o, H a = some o → ¬ FP σ s a → H' a = some o
  dm : ∀ a, H' a = none → H a = none
  nf : ∀ a o, F' a = some o → F a = some o ∨ H a = none ∨ FP σ s a
  np : ∀ a, FP σ' s' a → FP σ s a ∨ H a = none
  lk : ∀ (i : Nat) (ds : List D), s[i]? = some (Sl.brw ds) → s'[i]? = some (Sl.brw ds) ∧ σ'[i]? = σ[i]?
  li : ∀ (i : Nat) (ds : List D), s[i]? = some (Sl.io ds) → (∃ ds', s'[i]? = some (Sl.io ds')) ∧ σ'[i]? = σ[i]?
  bk : ∀ (i : Nat) (ds : List D), s'[i]? = some (Sl.brw ds) → s[i]? = some (Sl.brw ds)
theorem Step.refl {P : Par} {σ : St} {F H : Hp} {s : Sts} (r : StR P F H σ s) : Step P σ F H s σ F H s :=
  ⟨r, fun _ _ h => h, fun _ _ h _ => h, fun _ h => h, fun _ _ h => .inl h, fun _ h => .inl h, fun _ _ h => ⟨h, rfl⟩, fun _ ds h => ⟨⟨ds, h⟩, rfl⟩, fun _ _ h => h⟩
section
variable {P : Par} {σ σ1 σ2 : St} {F F1 F2 H H1 H2 : Hp} {s s1 s2 : Sts}
theorem Step.fp (x : Step P σ F H s σ1 F1 H1 s1) {a : Addr} {o : HO} (h : H a = some o) (n : ¬ FP σ s a) : ¬ FP σ1 s1 a := fun f => by
  rcases x.np a f with q | q
  · exact n q
  · rw [h] at q; cases q
theorem Step.trans (x : Step P σ F H s σ1 F1 H1 s1) (y : Step P σ1 F1 H1 s1 σ2 F2 H2 s2) : Step P σ F H s σ2 F2 H2 s2 where
  str := y.str
  ff := fun a o h => y.ff a o (x.ff a o h)
  hh := fun a o h n => y.hh a o (x.hh a o h n) (x.fp h n)
  dm := fun a h => x.dm a (y.dm a h)
  nf := fun a o h => by
    rcases y.nf a o h with q | q | q
    · exact x.nf a o q
    · exact .inr (.inl (x.dm a q))
    · rcases x.np a q with z | z
      · exact .inr (.inr z)
      · exact .inr (.inl z)
  np := fun a h => by
    rcases y.np a h with q | q
    · exact x.np a q
    · exact .inr (x.dm a q)
  lk := fun i ds h => by
    obtain ⟨h1, e1⟩ := x.lk i ds h
    obtain ⟨h2, e2⟩ := y.lk i ds h1
    exact ⟨h2, e2.trans e1⟩
  li := fun i ds h => by
    obtain ⟨⟨ds1, h1⟩, e1⟩ := x.li i ds h
    obtain ⟨h2, e2⟩ := y.li i ds1 h1
    exact ⟨h2, e2.trans e1⟩
  bk := fun i ds h => x.bk i ds (y.bk i ds h)
end
/-! values -/
def ElR (P : Par) (F : Hp) (σ : St) : El → V → Prop
  | .d x, v => Rp P F x v
  | .at i, v => σ[i]? = some (some v)
def ElL (P : Par) (F : Hp) (σ : St) : List El → List V → Prop
  | [], vs => vs = []
  | e :: es, vs => ∃ v r, vs = v :: r ∧ ElR P F σ e v ∧ ElL P F σ es r
theorem ElR.mono {P : Par} {F F' : Hp} {σ : St} (h : Sub F F') {e : El} {v : V} (x : ElR P F σ e v) : ElR P F' σ e v := by
  cases e with
  | d x' => exact Rp.mono h x' x
  | «at» i => exact x
theorem ElL.mono {P : Par} {F F' : Hp} {σ : St} (h : Sub F F') : ∀ {es : List El} {vs : List V}, ElL P F σ es vs → ElL P F' σ es vs
  | [], _, x => x
  | _ :: _, _, ⟨v, r, e, q, x⟩ => ⟨v, r, e, q.mono h, ElL.mono h x⟩
theorem ElL.length {P : Par} {F : Hp} {σ : St} : ∀ {es : List El} {vs : List V}, ElL P F σ es vs → es.length = vs.length
  | [], _, x => by subst x; rfl
  | _ :: _, _, ⟨v, r, e, q, x⟩ => by subst e; simp [ElL.length x]
/-- H0: the heap ahead of it -/
def EvR (P : Par) (H0 F H : Hp) (σ : St) (s : Sts) : PV → V → Prop
  | .fz d, v => Rp P F d v
  | .tmp ds, v => ∃ a xs, v = .ref a ∧ F a = none ∧ H a = some (.lst xs) ∧ RpL P F ds xs ∧ H0 a = none ∧ ∀ i, ¬ Own σ s i a
  | .plc i, v => σ[i]? = some (some v)
  | .shl es, v => ∃ a xs, v = .ref a ∧ F a = none ∧ H a = some (.lst xs) ∧ ElL P F σ es xs ∧ H0 a = none ∧ ∀ i, ¬ Own σ s i a
def EvRL (P : Par) (H0 F H : Hp) (σ : St) (s : Sts) : List PV → List V → Prop
  | [], vs => vs = []
  | p :: ps, vs => ∃ v r, vs = v :: r ∧ EvR P H0 F H σ s p v ∧ EvRL P H0 F H σ s ps r
section
variable {P : Par} {σ : St} {F F1 F2 H0 H H1 H2 : Hp} {s s1 s2 : Sts} {p : PV} {v : V}
theorem Step.own (y : Step P σ F1 H1 s1 σ F2 H2 s2) {a : Addr} {o : HO} (h : H1 a = some o) (n : ∀ i, ¬ Own σ s1 i a) : ∀ i, ¬ Own σ s2 i a := by
  rintro i ⟨h1, ds, h2 | h2 | h2⟩
  · rcases y.np a ⟨i, h1, ds, .inl h2⟩ with q | q
    · obtain ⟨j, q⟩ := q.own; exact n j q
    · rw [h] at q; cases q
  · rcases y.np a ⟨i, h1, ds, .inr h2⟩ with q | q
    · obtain ⟨j, q⟩ := q.own; exact n j q
    · rw [h] at q; cases q
  · exact n i ⟨h1, ds, .inr (.inr (y.bk i ds h2))⟩
/-- a value stays behind further steps -/
theorem EvR.carry (h : EvR P H0 F1 H1 σ s1 p v) (y : Step P σ F1 H1 s1 σ F2 H2 s2) : EvR P H0 F2 H2 σ s2 p v := by
  cases p with
  | fz d => exact Rp.mono y.ff d h
  | plc i => exact h
  | shl es =>
    obtain ⟨a, xs, e, f, g, r, n, o⟩ := h
    have nfp : ¬ FP σ s1 a := fun q => by obtain ⟨j, q⟩ := q.own; exact o j q
    refine ⟨a, xs, e, ?_, y.hh a _ g nfp, r.mono y.ff, n, y.own g o⟩
    cases q : F2 a with
    | none => rfl
    | some u =>
      rcases y.nf a u q with z | z | z
      · rw [f] at z; cases z
      · rw [g] at z; cases z
      · exact absurd z nfp
  | tmp ds =>
    obtain ⟨a, xs, e, f, g, r, n, o⟩ := h
    have nfp : ¬ FP σ s1 a := fun q => by obtain ⟨j, q⟩ := q.own; exact o j q
    refine ⟨a, xs, e, ?_, y.hh a _ g nfp, RpL.mono y.ff ds r, n, y.own g o⟩
    cases q : F2 a with
    | none => rfl
    | some u =>
      rcases y.nf a u q with z | z | z
      · rw [f] at z; cases z
      · rw [g] at z; cases z
      · exact absurd z nfp
theorem EvRL.carry : ∀ {ps : List PV} {vs : List V}, EvRL P H0 F1 H1 σ s1 ps vs → Step P σ F1 H1 s1 σ F2 H2 s2 → EvRL P H0 F2 H2 σ s2 ps vs
  | [], _, h, _ => h
  | p :: ps, _, ⟨v, r, e, h, hs⟩, y => ⟨v, r, e, h.carry y, EvRL.carry hs y⟩
/-- the heap ahead may be an earlier one -/
theorem EvR.before {σ0 : St} {s0 : Sts} (h : EvR P H F1 H1 σ s1 p v) (x : ∀ a, H a = none → H0 a = none) : EvR P H0 F1 H1 σ s1 p v := by
  cases p with
  | fz d => exact h
  | plc i => exact h
  | shl es =>
    obtain ⟨a, xs, e, f, g, r, n, o⟩ := h
    exact ⟨a, xs, e, f, g, r, x a n, o⟩
  | tmp ds =>
    obtain ⟨a, xs, e, f, g, r, n, o⟩ := h
    exact ⟨a, xs, e, f, g, r, x a n, o⟩
/-- a value to look at: frozen, or a list of frozen data -/
def Vw (P : Par) (F H : Hp) (d : D) (v : V) : Prop := Rp P F d v ∨ ∃ a xs ds, v = .ref a ∧ d = .lst ds ∧ F a = none ∧ H a = some (.lst xs) ∧ RpL P F ds xs
theorem EvR.vw {d : D} (h : EvR P H0 F H σ s p v) (r : StR P F H σ s) (e : view s p = some d) : Vw P F H d v := by
  cases p with
  | fz d' => simp [view] at e; subst e; exact .inl h
  | shl es => simp [view] at e
  | tmp ds =>
    simp [view] at e; subst e
    obtain ⟨a, xs, e, f, g, r, n, o⟩ := h
    exact .inr ⟨a, xs, ds, e, rfl, f, g, r⟩
  | plc i =>
    have h' : σ[i]? = some (some v) := h
    simp only [view] at e
    cases q : s[i]? with
    | none => rw [q] at e; cases e
    | some sl =>
      rw [q] at e
      have z := r.slot i _ _ h' q
      cases sl <;> simp at e
      · subst e; exact .inl z
      all_goals
        subst e
        obtain ⟨a, xs, e, f, g, r⟩ := z
        exact .inr ⟨a, xs, _, e, rfl, f, g, r⟩
/-- .. over the whole heap -/
theorem Vw.rp {d : D} (h : Vw P F H d v) (sub : Sub F H) : Rp P H d v := by
  rcases h with h | ⟨a, xs, ds, rfl, rfl, f, g, r⟩
  · exact Rp.mono sub d h
  · exact ⟨a, xs, rfl, g, RpL.mono sub ds r⟩
theorem Vw.lst {ds : List D} (h : Vw P F H (.lst ds) v) (sub : Sub F H) : ∃ a xs, v = .ref a ∧ H a = some (.lst xs) ∧ RpL P F ds xs := by
  rcases h with ⟨a, xs, e, f, r⟩ | ⟨a, xs, ds', e, e2, f, g, r⟩
  · exact ⟨a, xs, e, sub _ _ f, r⟩
  · cases e2; exact ⟨a, xs, e, g, r⟩
theorem Vw.tup {ds : List D} (h : Vw P F H (.tup ds) v) (sub : Sub F H) : ∃ a xs, v = .ref a ∧ SqT P.K H a xs ∧ SqT P.K F a xs ∧ RpL P F ds xs := by
  rcases h with ⟨a, xs, e, f, r⟩ | ⟨a, xs, ds', e, e2, f, g, r⟩
  · exact ⟨a, xs, e, sqT_mono sub f, f, r⟩
  · cases e2
theorem Vw.int {i : Int} (h : Vw P F H (.int i) v) : v = .int i := by
  rcases h with h | ⟨a, xs, ds', e, e2, f, g, r⟩
  · exact h
  · cases e2
theorem Vw.bl {i : Bool} (h : Vw P F H (.bl i) v) : v = .bl i := by
  rcases h with h | ⟨a, xs, ds', e, e2, f, g, r⟩
  · exact h
  · cases e2
theorem Vw.str {i : Str} (h : Vw P F H (.str i) v) : v = .str i := by
  rcases h with h | ⟨a, xs, ds', e, e2, f, g, r⟩
  · exact h
  · cases e2
theorem Vw.non (h : Vw P F H .non v) : v = .non := by
  rcases h with h | ⟨a, xs, ds', e, e2, f, g, r⟩
  · exact h
  · cases e2
end
end Z

/-! Z4: judgements; expressions -/
namespace Z
open PySem PySem.Spec PyProof.Rows L2

/-- an exception as it flies -/
def XR (P : Par) (F : Hp) : D → Value → Option Addr → Prop
  | .exc c [], cls, d => ∃ C, P.ca c C ∧ cls = .ref C ∧ d = none
  | _, _, _ => False
theorem XR.mono {P : Par} {F F' : Hp} (h : Sub F F') {x : D} {cls : Value} {d : Option Addr} (r : XR P F x cls d) : XR P F' x cls d := by
  cases x with
  | exc c v => cases v with
    | nil => exact r
    | cons => exact r
  | _ => exact r

section
variable {α β : Type}
def GP (R : Hp → Hp → Hp → Sts → α → β → Prop) (P : Par) (W : WX) (σ : St) (F H : Hp) (s : Sts) (r : Rs α) (Q : β → Hp → Prop) : Prop := match r with
  | .ok x s' => ∀ b F' H', Step P σ F H s σ F' H' s' → R H F' H' s' x b → Q b H'
  | .er x s' => ∀ cls d F' H', Step P σ F H s σ F' H' s' → XR P F' x cls d → W cls d σ H'
  | .no => False
end
abbrev RE (P : Par) (σ : St) : Hp → Hp → Hp → Sts → PV → V → Prop := fun H0 F H s => EvR P H0 F H σ s
abbrev RL (P : Par) (σ : St) : Hp → Hp → Hp → Sts → List PV → List V → Prop := fun H0 F H s => EvRL P H0 F H σ s
abbrev RB : Hp → Hp → Hp → Sts → Bool → Bool → Prop := fun _ _ _ _ k b => k = b
abbrev RO : Hp → Hp → Hp → Sts → Option Int → Option Int → Prop := fun _ _ _ _ k b => k = b
def tSE (P : Par) (W : WX) (c : Sts → Rs PV) : TE := fun σ H Q => ∃ F s, StR P F H σ s ∧ GP (RE P σ) P W σ F H s (c s) Q
def tST (P : Par) (W : WX) (c : Sts → Rs PV) : TT := fun σ H Q => ∃ F s, StR P F H σ s ∧ GP RB P W σ F H s (isT (c s)) Q
def tSA (P : Par) (W : WX) (c : Sts → Rs (List PV)) : TA := fun σ H Q => ∃ F s, StR P F H σ s ∧ GP (RL P σ) P W σ F H s (c s) Q
def tSO (P : Par) (W : WX) (c : Sts → Rs (Option Int)) : TO := fun σ H Q => ∃ F s, StR P F H σ s ∧ GP RO P W σ F H s (c s) Q
abbrev SE (P : Par) (W : WX) (X : Cx) (e : Expr) (c : Sts → Rs PV) : Prop := PE X e (tSE P W c)
abbrev ST (P : Par) (W : WX) (X : Cx) (e : Expr) (c : Sts → Rs PV) : Prop := PT X e (tST P W c)
abbrev SA (P : Par) (W : WX) (X : Cx) (es : List Expr) (c : Sts → Rs (List PV)) : Prop := PA X es (tSA P W c)
abbrev SO (P : Par) (W : WX) (X : Cx) (e : Option Expr) (c : Sts → Rs (Option Int)) : Prop := PO X e (tSO P W c)

section
variable {X : Cx} {e : Expr}
theorem PE.weak {t t' : TE} (h : PE X e t) (m : ∀ σ H Q, t' σ H Q → t σ H Q) : PE X e t' := ⟨fun pins s σ H Q I q => h.run pins s σ H Q I (m σ H Q q)⟩
theorem PT.weak {t t' : TT} (h : PT X e t) (m : ∀ σ H Q, t' σ H Q → t σ H Q) : PT X e t' := ⟨fun pins s σ H Q I q => h.run pins s σ H Q I (m σ H Q q)⟩
theorem PA.weak {es : List Expr} {t t' : TA} (h : PA X es t) (m : ∀ σ H Q, t' σ H Q → t σ H Q) : PA X es t' := ⟨fun pos pins s σ H Q I q => h.run pos pins s σ H Q I (m σ H Q q)⟩
theorem PO.weak {e : Option Expr} {t t' : TO} (h : PO X e t) (m : ∀ σ H Q, t' σ H Q → t σ H Q) : PO X e t' := ⟨fun pins s σ H Q I q => h.run pins s σ H Q I (m σ H Q q)⟩
end
section
variable {α β γ δ : Type} {P : Par} {W : WX} {σ : St} {F F1 H H1 : Hp} {s s1 : Sts}
/-- measured from a later state -/
theorem GP.after {R : Hp → Hp → Hp → Sts → α → β → Prop} (hR : ∀ H0 H1 F H s x b, (∀ a, H1 a = none → H0 a = none) → R H1 F H s x b → R H0 F H s x b) {r : Rs α} {Q : β → Hp → Prop}
    (h : GP R P W σ F H s r Q) (st : Step P σ F H s σ F1 H1 s1) : GP R P W σ F1 H1 s1 r Q := by
  cases r with
  | ok x s' => exact fun b F' H' y q => h b F' H' (st.trans y) (hR H H1 F' H' s' x b st.dm q)
  | er x s' => exact fun cls d F' H' y q => h cls d F' H' (st.trans y) q
  | no => exact h
theorem EvR.base {H0 H1 F H : Hp} {σ : St} {s : Sts} {p : PV} {v : V} (x : ∀ a, H1 a = none → H0 a = none) (h : EvR P H1 F H σ s p v) : EvR P H0 F H σ s p v := by
  cases p with
  | fz d => exact h
  | plc i => exact h
  | shl es =>
    obtain ⟨a, xs, e, f, g, r, n, o⟩ := h
    exact ⟨a, xs, e, f, g, r, x a n, o⟩
  | tmp ds =>
    obtain ⟨a, xs, e, f, g, r, n, o⟩ := h
    exact ⟨a, xs, e, f, g, r, x a n, o⟩
theorem EvRL.base {H0 H1 F H : Hp} {σ : St} {s : Sts} (x : ∀ a, H1 a = none → H0 a = none) : ∀ {p : List PV} {v : List V}, EvRL P H1 F H σ s p v → EvRL P H0 F H σ s p v
  | [], _, h => h
  | p :: ps, _, ⟨v, r, e, h, hs⟩ => ⟨v, r, e, h.base x, EvRL.base x hs⟩
theorem GP.afterE {r : Rs PV} {Q : VK} (h : GP (RE P σ) P W σ F H s r Q) (st : Step P σ F H s σ F1 H1 s1) : GP (RE P σ) P W σ F1 H1 s1 r Q := GP.after (R := RE P σ) (fun _ _ _ _ _ _ _ x q => EvR.base x q) h st
theorem GP.afterL {r : Rs (List PV)} {Q : List V → Hp → Prop} (h : GP (RL P σ) P W σ F H s r Q) (st : Step P σ F H s σ F1 H1 s1) : GP (RL P σ) P W σ F1 H1 s1 r Q := GP.after (R := RL P σ) (fun _ _ _ _ _ _ _ x q => EvRL.base x q) h st
theorem GP.afterB {r : Rs Bool} {Q : Bool → Hp → Prop} (h : GP RB P W σ F H s r Q) (st : Step P σ F H s σ F1 H1 s1) : GP RB P W σ F1 H1 s1 r Q := GP.after (fun _ _ _ _ _ _ _ _ q => q) h st
theorem GP.afterO {r : Rs (Option Int)} {Q : Option Int → Hp → Prop} (h : GP RO P W σ F H s r Q) (st : Step P σ F H s σ F1 H1 s1) : GP RO P W σ F1 H1 s1 r Q := GP.after (fun _ _ _ _ _ _ _ _ q => q) h st
/-- the first part of a bind -/
theorem GP.bind {R : Hp → Hp → Hp → Sts → α → β → Prop} {R' : Hp → Hp → Hp → Sts → γ → δ → Prop} {r : Rs α} {f : α → Sts → Rs γ} {Q : δ → Hp → Prop} {Q1 : β → Hp → Prop}
    (h : GP R' P W σ F H s (r.bind f) Q) (k : ∀ x s1, r = .ok x s1 → GP R' P W σ F H s (f x s1) Q → ∀ b F1 H1, Step P σ F H s σ F1 H1 s1 → R H F1 H1 s1 x b → Q1 b H1) : GP R P W σ F H s r Q1 := by
  cases r with
  | ok x s1 => exact fun b F1 H1 st q => k x s1 rfl h b F1 H1 st q
  | er x s1 => exact h
  | no => exact h
/-- an end that is reached -/
theorem GP.ok {R : Hp → Hp → Hp → Sts → α → β → Prop} {x : α} {Q : β → Hp → Prop} {b : β} {F' H' : Hp} {s' : Sts} (h : GP R P W σ F H s (.ok x s') Q) (st : Step P σ F H s σ F' H' s') (q : R H F' H' s' x b) : Q b H' := h b F' H' st q
theorem lift_ok {a : Type} {o : Option a} {s s' : Sts} {x : a} (h : lift o s = .ok x s') : o = some x ∧ s' = s := by
  cases o with
  | none => cases h
  | some y => cases h; exact ⟨rfl, rfl⟩
end

/-! test mode -/
theorem vw_tru {P : Par} {F H : Hp} {d : D} {v : V} {k : Bool} (h : Vw P F H d v) (sub : Sub F H) (t : d.truth = some k) : TruV P.K v H k := by
  cases d with
  | non => cases h.non; simp [D.truth] at t; subst t; rfl
  | bl b => cases h.bl; simp [D.truth] at t; subst t; rfl
  | int i => cases h.int; simp only [D.truth, Option.some.injEq] at t; subst t; rfl
  | str x =>
    cases h.str
    simp only [D.truth] at t
    split at t
    · rename_i hz; cases t; exact ⟨hz, rfl⟩
    · cases t
  | tup ds =>
    obtain ⟨a, xs, rfl, q, _, r⟩ := h.tup sub
    simp only [D.truth, Option.some.injEq] at t
    refine .inr (.inl ⟨xs, q, ?_⟩)
    rw [← t]
    have := r.length
    cases ds <;> cases xs <;> simp_all
  | lst ds =>
    obtain ⟨a, xs, rfl, q, r⟩ := h.lst sub
    simp only [D.truth, Option.some.injEq] at t
    refine .inl ⟨xs, SqL.of q, ?_⟩
    rw [← t]
    have := r.length
    cases ds <;> cases xs <;> simp_all
  | fn i => simp [D.truth] at t
  | exc c x => simp [D.truth] at t
  | gvn xs => simp [D.truth] at t
  | emp => simp [D.truth] at t
section
variable {P : Par} {W : WX} {X : Cx} {e : Expr} {c : Sts → Rs PV}
theorem truthR_bind (r : Rs PV) : truthR r = r.bind fun p s => match view s p with | some d => lift d.truth s | none => .no := by
  cases r <;> rfl
/-- a value's test is its truth -/
theorem st_truth (hK : X.K = P.K) (h : SE P W X e c) (he : ∀ whole, isTrue e X.env whole = (do let v ← whole; standAt e.pos; holding [v] (truthy v))) : ST P W X e (fun s => fin true (c s)) := by
  refine PT.weak (pt_truth h he) ?_
  rintro σ H Q ⟨F, s, str, g⟩
  refine ⟨F, s, str, ?_⟩
  rw [show isT (fin true (c s)) = truthR (c s) by
    unfold isT fin
    cases truthR (c s) <;> rfl] at g
  rw [truthR_bind] at g
  refine g.bind fun p s1 e1 g1 v F1 H1 st ev => ?_
  cases hv : view s1 p with
  | none => simp only [hv] at g1; exact g1.elim
  | some d =>
    simp only [hv] at g1
    cases ht : d.truth with
    | none => rw [ht] at g1; exact g1.elim
    | some k =>
      rw [ht] at g1
      exact ⟨k, hK ▸ vw_tru (ev.vw st.str hv) st.str.sub ht, g1.ok st rfl⟩
end

/-! names, constants -/
section
variable {P : Par} {W : WX} {X : Cx} {pos : Pos}
theorem se_var {i : Nat} {x : Str} (hN : X.N[i]? = some x) (hv : Vis X.env.scope x) (hd : (x == ("__debug__" : Str)) = false) (hcd : (x == ("__classdict__" : Str)) = false) : SE P W X (.Name x pos) (fun s => rd s i) := by
  refine PE.weak (pe_var (i := i) hN hv hd hcd) ?_
  rintro σ H Q ⟨F, s, str, g⟩
  simp only [rd] at g
  have hl : ∀ (sl : Sl), s[i]? = some sl → sl ≠ .non → ∃ v, σ[i]? = some (some v) ∧ SlOk P F H (some v) sl := by
    intro sl h1 h2
    have h3 : i < s.length := by
      have := List.getElem?_eq_some_iff.mp h1
      exact this.1
    have h4 : i < σ.length := by rw [str.len]; exact h3
    obtain ⟨w, hw⟩ : ∃ w, σ[i]? = some w := ⟨_, List.getElem?_eq_getElem h4⟩
    have q := str.slot i w sl hw h1
    cases w with
    | none => cases sl <;> first | exact absurd rfl h2 | exact q.elim
    | some v => exact ⟨v, hw, q⟩
  cases h : s[i]? with
  | none => rw [h] at g; exact g.elim
  | some sl =>
    rw [h] at g
    cases sl with
    | non => exact g.elim
    | fz d =>
      obtain ⟨v, h1, h2⟩ := hl _ h (by intro z; cases z)
      exact ⟨v, h1, g.ok (Step.refl str) h2⟩
    | lst d =>
      obtain ⟨v, h1, h2⟩ := hl _ h (by intro z; cases z)
      exact ⟨v, h1, g.ok (Step.refl str) h1⟩
    | io d =>
      obtain ⟨v, h1, h2⟩ := hl _ h (by intro z; cases z)
      exact ⟨v, h1, g.ok (Step.refl str) h1⟩
    | brw d =>
      obtain ⟨v, h1, h2⟩ := hl _ h (by intro z; cases z)
      exact ⟨v, h1, g.ok (Step.refl str) h1⟩
theorem se_con {e : Expr} {d : D} {v : V} (h : PE X e (tC v)) (r : ∀ F, Rp P F d v) : SE P W X e (fun s => .ok (.fz d) s) := by
  refine PE.weak h ?_
  rintro σ H Q ⟨F, s, str, g⟩
  exact g.ok (Step.refl str) (r F)
end
/-! two values -/
section
variable {P : Par} {W : WX} {X : Cx} {pos : Pos} {a b : Expr} {ca cb : Sts → Rs PV}
theorem bind_no {a b : Type} (f : a → Sts → Rs b) : (Rs.no : Rs a).bind f = .no := rfl
/-- the walk over two parts -/
theorem two {σ : St} {H : Hp} {F : Hp} {s : Sts} {f : PV → PV → Sts → Rs PV} {Q : VK} {R : V → V → Hp → Prop} (str : StR P F H σ s) (g : GP (RE P σ) P W σ F H s ((ca s).bind fun p s1 => (cb s1).bind fun q s2 => f p q s2) Q)
    (k : ∀ p q v w F2 H2 s2, GP (RE P σ) P W σ F H s (f p q s2) Q → Step P σ F H s σ F2 H2 s2 → EvR P H F2 H2 σ s2 p v → EvR P H F2 H2 σ s2 q w → R v w H2) :
    tSE P W ca σ H fun x H1 => tSE P W cb σ H1 fun y H2 => R x y H2 := by
  refine ⟨F, s, str, g.bind fun p s1 e1 g1 v F1 H1 st1 ev1 => ⟨F1, s1, st1.str, ?_⟩⟩
  refine (g1.afterE st1).bind fun q s2 e2 g2 w F2 H2 st2 ev2 => ?_
  have g3 : GP (RE P σ) P W σ F H s (f p q s2) Q := by
    rw [e2] at g1; exact g1
  exact k p q v w F2 H2 s2 g3 (st1.trans st2) (ev1.carry st2) (ev2.base st1.dm)
theorem vw2 {σ : St} {F H H0 : Hp} {s : Sts} {p q : PV} {v w : V} {f : D → D → Rs PV} {Q : VK} {Fb Hb : Hp} {sb : Sts}
    (g : GP (RE P σ) P W σ Fb Hb sb (match view s p, view s q with | some x, some y => f x y | _, _ => .no) Q)
    (str : StR P F H σ s) (hp : EvR P H0 F H σ s p v) (hq : EvR P H0 F H σ s q w) : ∃ x y, Vw P F H x v ∧ Vw P F H y w ∧ GP (RE P σ) P W σ Fb Hb sb (f x y) Q := by
  cases h1 : view s p with
  | none => rw [h1] at g; exact g.elim
  | some x =>
    cases h2 : view s q with
    | none => rw [h1, h2] at g; exact g.elim
    | some y =>
      rw [h1, h2] at g
      exact ⟨x, y, hp.vw str h1, hq.vw str h2, g⟩
/-- a new list -/
theorem Step.new {σ : St} {F H F1 H1 : Hp} {s s1 : Sts} (st : Step P σ F H s σ F1 H1 s1) {p : Addr} {o : HO} (h : H1 p = none) : Step P σ F H s σ F1 (upd H1 p o) s1 where
  str := by
    have r := st.str
    have hne : ∀ a u, H1 a = some u → a ≠ p := fun a u e z => by subst z; rw [h] at e; cases e
    refine ⟨r.len, fun a u e => by rw [upd_ne (hne a u (r.sub a u e))]; exact r.sub a u e, fun i v sl e1 e2 => ?_, r.dis, r.z⟩
    have q := r.slot i v sl e1 e2
    cases v with
    | none => cases sl <;> exact q
    | some v =>
      cases sl with
      | non => exact q
      | fz d => exact q
      | lst ds => obtain ⟨a, xs, e, f, g, k⟩ := q; exact ⟨a, xs, e, f, by rw [upd_ne (hne a _ g)]; exact g, k⟩
      | io ds => obtain ⟨a, xs, e, f, g, k⟩ := q; exact ⟨a, xs, e, f, by rw [upd_ne (hne a _ g)]; exact g, k⟩
      | brw ds => obtain ⟨a, xs, e, f, g, k⟩ := q; exact ⟨a, xs, e, f, by rw [upd_ne (hne a _ g)]; exact g, k⟩
  ff := st.ff
  hh := fun a u e n => by
    have q := st.hh a u e n
    rw [upd_ne (fun z => by subst z; rw [h] at q; cases q)]; exact q
  dm := fun a e => st.dm a (by
    by_cases z : a = p
    · subst z; exact h
    · rw [upd_ne z] at e; exact e)
  nf := st.nf
  np := st.np
  lk := st.lk
  li := st.li
  bk := st.bk
theorem Step.fresh {σ : St} {F H F1 H1 : Hp} {s s1 : Sts} (st : Step P σ F H s σ F1 H1 s1) {p : Addr} (h : H1 p = none) : F1 p = none ∧ H p = none ∧ ∀ i, ¬ Own σ s1 i p := by
  refine ⟨?_, st.dm p h, fun i o => ?_⟩
  · cases q : F1 p with
    | none => rfl
    | some u => have := st.str.sub p u q; rw [h] at this; cases this
  · obtain ⟨_, xs, e⟩ := o.out st.str
    rw [h] at e; cases e
/-- the new list as a value -/
theorem Step.newL {σ : St} {F H F1 H1 : Hp} {s s1 : Sts} (st : Step P σ F H s σ F1 H1 s1) {p : Addr} {ds : List D} {xs : List V} (h : H1 p = none) (r : RpL P F1 ds xs) :
    EvR P H F1 (upd H1 p (.lst xs)) σ s1 (.tmp ds) (.ref p) := by
  obtain ⟨h1, h2, h3⟩ := st.fresh h
  exact ⟨p, xs, rfl, h1, upd_same, r, h2, h3⟩
/-- a new frozen thing -/
theorem Step.newF {σ : St} {F H F1 H1 : Hp} {s s1 : Sts} (st : Step P σ F H s σ F1 H1 s1) {p : Addr} {o : HO} (h : H1 p = none) : Step P σ F H s σ (upd F1 p o) (upd H1 p o) s1 := by
  have x := Step.new (o := o) st h
  obtain ⟨h1, h2, h3⟩ := st.fresh h
  have hsub : Sub F1 (upd F1 p o) := fun a u e => by
    rw [upd_ne (fun z => by subst z; rw [h1] at e; cases e)]; exact e
  refine ⟨⟨x.str.len, fun a u e => ?_, fun i v sl e1 e2 => ?_, x.str.dis, x.str.z⟩, fun a u e => hsub a u (st.ff a u e), x.hh, x.dm, fun a u e => ?_, x.np, x.lk, x.li, x.bk⟩
  · by_cases z : a = p
    · subst z; rw [upd_same] at e ⊢; exact e
    · rw [upd_ne z] at e; exact x.str.sub a u e
  · have q := x.str.slot i v sl e1 e2
    have hno : ∀ a xs, upd H1 p o a = some (.lst xs) → F1 a = none → (v = some (V.ref a)) → (∀ ds, sl = .lst ds ∨ sl = .io ds ∨ sl = .brw ds → upd F1 p o a = none) := by
      intro a xs ea eb ev ds es
      have ow : Own σ s1 i a := by
        subst ev
        refine ⟨e1, ds, ?_⟩
        rcases es with rfl | rfl | rfl
        · exact .inl e2
        · exact .inr (.inl e2)
        · exact .inr (.inr e2)
      rw [upd_ne (fun z => by subst z; exact h3 i ow)]; exact eb
    cases v with
    | none => cases sl <;> exact q
    | some v =>
      cases sl with
      | non => exact q
      | fz d => exact Rp.mono hsub d q
      | lst ds => obtain ⟨a, xs, e, f, g, k⟩ := q; subst e; exact ⟨a, xs, rfl, hno a xs g f rfl ds (.inl rfl), g, RpL.mono hsub ds k⟩
      | io ds => obtain ⟨a, xs, e, f, g, k⟩ := q; subst e; exact ⟨a, xs, rfl, hno a xs g f rfl ds (.inr (.inl rfl)), g, RpL.mono hsub ds k⟩
      | brw ds => obtain ⟨a, xs, e, f, g, k⟩ := q; subst e; exact ⟨a, xs, rfl, hno a xs g f rfl ds (.inr (.inr rfl)), g, RpL.mono hsub ds k⟩
  · by_cases z : a = p
    · subst z; exact .inr (.inl h2)
    · rw [upd_ne z] at e; exact st.nf a u e
theorem Step.newT {σ : St} {F H F1 H1 : Hp} {s s1 : Sts} (st : Step P σ F H s σ F1 H1 s1) {p : Addr} {ds : List D} {xs : List V} (h : H1 p = none) (r : RpL P F1 ds xs) :
    Rp P (upd F1 p (.tup xs)) (.tup ds) (.ref p) := by
  obtain ⟨h1, h2, h3⟩ := st.fresh h
  refine ⟨p, xs, rfl, .inl (.inl upd_same), RpL.mono (fun a u e => ?_) ds r⟩
  rw [upd_ne (fun z => by subst z; rw [h1] at e; cases e)]; exact e
end
end Z

/-! Z5: operators, comparisons, subscripts, slices -/
namespace Z
open PySem PySem.Spec PyProof.Rows L2
section
variable {P : Par} {W : WX} {X : Cx} {pos : Pos} {a b : Expr} {ca cb cc : Sts → Rs PV}
/-- what is to be shown of an operator on data -/
def OpD (P : Par) (W : WX) (f : D → D → Option PV) (r : R2) : Prop := ∀ (σ : St) (F H Fb Hb : Hp) (sb s : Sts) (x y : D) (p : PV) (v w : V) (Q : VK), Step P σ Fb Hb sb σ F H s → Vw P F H x v → Vw P F H y w → f x y = some p →
  GP (RE P σ) P W σ Fb Hb sb (.ok p s) Q → r v w H Q
theorem OpD.orL {f g : D → D → Option PV} {r r' : R2} (h : OpD P W f r) (h' : OpD P W g r') {k : D → D → Option PV} (hk : ∀ x y p, k x y = some p → f x y = some p ∨ g x y = some p) : OpD P W k (fun x y H Q => r x y H Q ∨ r' x y H Q) := by
  intro σ F H Fb Hb sb s x y p v w Q st hv hw e g
  rcases hk x y p e with e | e
  · exact .inl (h σ F H Fb Hb sb s x y p v w Q st hv hw e g)
  · exact .inr (h' σ F H Fb Hb sb s x y p v w Q st hv hw e g)
theorem se_bin {o : BOp} {op : Operator} {r : R2} (ho : OpR X (binaryOp op) r) (hr : OpD P W (bop o) r) (ha : SE P W X a ca) (hb : SE P W X b cb) :
    SE P W X (.BinOp a op b pos) (fun s => (ca s).bind fun p s1 => (cb s1).bind fun q s2 => match view s2 p, view s2 q with | some x, some y => lift (bop o x y) s2 | _, _ => .no) := by
  refine PE.weak (pe_op ho ha hb) ?_
  rintro σ H Q ⟨F, s, str, g⟩
  refine two str g fun p q v w F2 H2 s2 g2 st ep eq => ?_
  obtain ⟨x, y, hx, hy, g3⟩ := vw2 g2 st.str ep eq
  cases hb : bop o x y with
  | none => rw [hb] at g3; exact g3.elim
  | some z => rw [hb] at g3; exact hr σ F2 H2 F H s s2 x y z v w Q st hx hy hb g3
/-! the cases -/
theorem od_int {f : Int → Int → Int} {C : Int → Int → Prop} {k : D → D → Option PV} (hk : ∀ x y p, k x y = some p → ∃ i j, x = .int i ∧ y = .int j ∧ p = .fz (.int (f i j)) ∧ C i j) : OpD P W k (rI C fun i j => .int (f i j)) := by
  intro σ F H Fb Hb sb s x y p v w Q st hv hw e g
  obtain ⟨i, j, rfl, rfl, rfl, c⟩ := hk x y p e
  exact ⟨i, j, hv.int, hw.int, c, g.ok st rfl⟩
theorem od_int0 {f : Int → Int → Int} {k : D → D → Option PV} (hk : ∀ x y p, k x y = some p → ∃ i j, x = .int i ∧ y = .int j ∧ p = .fz (.int (f i j))) : OpD P W k (rI0 fun i j => .int (f i j)) := by
  intro σ F H Fb Hb sb s x y p v w Q st hv hw e g
  obtain ⟨i, j, rfl, rfl, rfl⟩ := hk x y p e
  exact ⟨i, j, hv.int, hw.int, g.ok st rfl⟩
def kAddI : D → D → Option PV
  | .int i, .int j => some (.fz (.int (i + j)))
  | _, _ => none
def kAddS : D → D → Option PV
  | .str x, .str y => if x.length + y.length ≤ sizeLine then some (.fz (.str (x ++ y))) else none
  | _, _ => none
def kAddL : D → D → Option PV
  | .lst xs, .lst ys => if xs.length + ys.length ≤ sizeLine then some (.tmp (xs ++ ys)) else none
  | _, _ => none
def kAddT : D → D → Option PV
  | .tup xs, .tup ys => if xs.length + ys.length ≤ sizeLine then some (.fz (.tup (xs ++ ys))) else none
  | _, _ => none
theorem od_addI : OpD P W kAddI (rI0 fun i j => .int (i + j)) := od_int0 (by
  intro x y p h; cases x <;> cases y <;> simp [kAddI] at h; exact ⟨_, _, rfl, rfl, h.symm⟩)
theorem od_addS : OpD P W kAddS (fun x y H Q => ∃ i j, x = .str i ∧ y = .str j ∧ i.length + j.length ≤ sizeLine ∧ Q (.str (i ++ j)) H) := by
  intro σ F H Fb Hb sb s x y p v w Q st hv hw e g
  cases x <;> cases y <;> simp [kAddS] at e
  obtain ⟨c, rfl⟩ := e
  exact ⟨_, _, hv.str, hw.str, c, g.ok st rfl⟩
theorem od_addL : OpD P W kAddL rCat := by
  intro σ F H Fb Hb sb s x y p v w Q st hv hw e g
  cases x <;> cases y <;> simp [kAddL] at e
  obtain ⟨c, rfl⟩ := e
  rename_i xs ys
  have e1 : ∀ {v : V} {ds : List D}, Vw P F H (.lst ds) v → ∃ a us, v = .ref a ∧ H a = some (.lst us) ∧ RpL P F ds us := by
    intro v ds h
    rcases h with ⟨a, us, e, f, r⟩ | ⟨a, us, ds', e, e2, f, g, r⟩
    · exact ⟨a, us, e, st.str.sub _ _ f, r⟩
    · cases e2; exact ⟨a, us, e, g, r⟩
  obtain ⟨a1, us, rfl, q1, r1⟩ := e1 hv
  obtain ⟨a2, ws, rfl, q2, r2⟩ := e1 hw
  refine ⟨a1, a2, us, ws, rfl, rfl, q1, q2, ?_, fun p hp => ?_⟩
  · rw [← r1.length, ← r2.length]; exact c
  · exact g.ok (st.new hp) (st.newL hp (r1.append r2))
theorem od_addT : OpD P W kAddT (rCatA P.K) := by
  intro σ F H Fb Hb sb s x y p v w Q st hv hw e g
  cases x <;> cases y <;> simp [kAddT] at e
  obtain ⟨c, rfl⟩ := e
  rename_i xs ys
  obtain ⟨a1, us, rfl, q1, f1, r1⟩ := hv.tup st.str.sub
  obtain ⟨a2, ws, rfl, q2, f2, r2⟩ := hw.tup st.str.sub
  refine ⟨a1, a2, us, ws, rfl, rfl, q1, q2, ?_, fun e1 => ?_, fun _ e2 => ?_, fun _ _ p hp => ?_⟩
  · rw [← r1.length, ← r2.length]; exact c
  · subst e1
    have h0 : xs = [] := List.eq_nil_of_length_eq_zero (by rw [r1.length]; rfl)
    subst h0
    exact g.ok st ⟨a2, ws, rfl, f2, r2⟩
  · subst e2
    have h0 : ys = [] := List.eq_nil_of_length_eq_zero (by rw [r2.length]; rfl)
    subst h0
    rw [List.append_nil] at g
    exact g.ok st ⟨a1, us, rfl, f1, r1⟩
  · exact g.ok (st.newF hp) (st.newT hp (r1.append r2))
abbrev rAdd4 (K : PySem.W.Frag) : R2 := fun x y H Q => rI0 (fun i j => .int (i + j)) x y H Q ∨ ((∃ i j, x = .str i ∧ y = .str j ∧ i.length + j.length ≤ sizeLine ∧ Q (.str (i ++ j)) H) ∨ (rCat x y H Q ∨ rCatA K x y H Q))
theorem or_add : OpR X (binaryOp .Add) (rAdd4 X.K) := OpR.or op_add (OpR.or op_add_str (OpR.or op_cat op_catA))
def kAddLT (x y : D) : Option PV := match kAddL x y with | some p => some p | none => kAddT x y
def kAddSLT (x y : D) : Option PV := match kAddS x y with | some p => some p | none => kAddLT x y
theorem od_add : OpD P W (bop .add) (rAdd4 P.K) := by
  refine OpD.orL od_addI (OpD.orL od_addS (OpD.orL od_addL od_addT (k := kAddLT) ?_) (k := kAddSLT) ?_) ?_
  · intro x y p h
    unfold kAddLT at h
    split at h
    · rename_i q hq; cases h; exact .inl hq
    · exact .inr h
  · intro x y p h
    unfold kAddSLT at h
    split at h
    · rename_i q hq; cases h; exact .inl hq
    · exact .inr h
  · intro x y p h
    cases x <;> cases y <;> first | exact .inl h | (cases h; done) | skip
    all_goals
      right
      simp only [bop] at h
      simp only [kAddSLT, kAddLT, kAddS, kAddL, kAddT]
      split at h
      · rename_i c; cases h; simp [c]
      · cases h
theorem se_add (hK : X.K = P.K) (ha : SE P W X a ca) (hb : SE P W X b cb) : SE P W X (.BinOp a .Add b pos) (fun s => (ca s).bind fun p s1 => (cb s1).bind fun q s2 => match view s2 p, view s2 q with | some x, some y => lift (bop .add x y) s2 | _, _ => .no) :=
  se_bin (by have h := @or_add X; rw [hK] at h; exact h) od_add ha hb
theorem od_sub : OpD P W (bop .sub) (rI0 fun i j => .int (i - j)) := od_int0 (by
  intro x y p h; cases x <;> cases y <;> simp [bop] at h; exact ⟨_, _, rfl, rfl, h.symm⟩)
theorem od_fdiv : OpD P W (bop .fdiv) (rI CDiv fun i j => .int (i / j)) := od_int (by
  intro x y p h; cases x <;> cases y <;> simp [bop] at h; exact ⟨_, _, rfl, rfl, h.2.symm, h.1⟩)
theorem od_mod : OpD P W (bop .mod) (rI (fun _ j => 0 < j) fun i j => .int (i % j)) := od_int (by
  intro x y p h; cases x <;> cases y <;> simp [bop] at h; exact ⟨_, _, rfl, rfl, h.2.symm, h.1⟩)
theorem od_pow : OpD P W (bop .pow) (rI CPow fun i j => .int (i ^ j.toNat)) := od_int (by
  intro x y p h; cases x <;> cases y <;> simp only [bop] at h <;> first | (cases h; done) | skip
  split at h
  · rename_i c; cases h; exact ⟨_, _, rfl, rfl, rfl, c⟩
  · cases h)
def kMulI : D → D → Option PV
  | .int i, .int j => if decide (-big < i ∧ i < big) || decide (-big < j ∧ j < big) then some (.fz (.int (i * j))) else none
  | _, _ => none
def kMulL : D → D → Option PV
  | .lst xs, .int k => if -(2 ^ 63) ≤ k ∧ k < 2 ^ 63 ∧ xs.length * k.toNat ≤ sizeLine then some (.tmp (List.replicate k.toNat xs).flatten) else none
  | _, _ => none
def kMulT : D → D → Option PV
  | .tup xs, .int k => if 0 < xs.length ∧ 1 ≤ k ∧ k ≤ 1000 ∧ xs.length ≤ 1000 then some (.fz (.tup (List.replicate k.toNat xs).flatten)) else none
  | _, _ => none
theorem od_mulI : OpD P W kMulI (rI CMul fun i j => .int (i * j)) := od_int (by
  intro x y p h; cases x <;> cases y <;> simp only [kMulI] at h <;> first | (cases h; done) | skip
  split at h
  · rename_i c
    cases h
    refine ⟨_, _, rfl, rfl, rfl, ?_⟩
    rcases Bool.or_eq_true_iff.mp c with c | c
    · exact .inl (of_decide_eq_true c)
    · exact .inr (of_decide_eq_true c)
  · cases h)
theorem od_mulL : OpD P W kMulL rRep := by
  intro σ F H Fb Hb sb s x y p v w Q st hv hw e g
  cases x <;> cases y <;> simp only [kMulL] at e <;> first | (cases e; done) | skip
  split at e
  · rename_i xs k c
    cases e
    have e1 : ∃ a us, v = .ref a ∧ H a = some (.lst us) ∧ RpL P F xs us := by
      rcases hv with ⟨a, us, e, f, r⟩ | ⟨a, us, ds', e, e2, f, g, r⟩
      · exact ⟨a, us, e, st.str.sub _ _ f, r⟩
      · cases e2; exact ⟨a, us, e, g, r⟩
    obtain ⟨a1, us, rfl, q1, r1⟩ := e1
    refine ⟨a1, k, us, rfl, hw.int, q1, c.1, c.2.1, ?_, fun p hp => ?_⟩
    · rw [← r1.length]; exact c.2.2
    · exact g.ok (st.new hp) (st.newL hp (r1.rep _))
  · cases e
theorem od_mulT : OpD P W kMulT (fun x y H Q => rRepT P.K x y H Q ∨ rOnceT P.K x y H Q) := by
  intro σ F H Fb Hb sb s x y p v w Q st hv hw e g
  cases x <;> cases y <;> simp only [kMulT] at e <;> first | (cases e; done) | skip
  split at e
  · rename_i xs k c
    cases e
    obtain ⟨a1, us, rfl, q1, f1, r1⟩ := hv.tup st.str.sub
    have hne : us ≠ [] := by
      intro z; subst z
      have := r1.length
      simp at this; subst this; simp at c
    by_cases hk : k = 1
    · subst hk
      refine .inr ⟨a1, us, rfl, hw.int, q1, hne, ?_⟩
      have e1 : (List.replicate (1 : Int).toNat xs).flatten = xs := by simp
      rw [e1] at g
      exact g.ok st ⟨a1, us, rfl, f1, r1⟩
    have c1 := c.2.1
    refine .inl ⟨a1, k, us, rfl, hw.int, q1, hne, by omega, c.2.2.1, ?_, fun p hp => ?_⟩
    · rw [← r1.length]; exact c.2.2.2
    · exact g.ok (st.newF hp) (st.newT hp (r1.rep _))
  · cases e
abbrev rMul3 (K : PySem.W.Frag) : R2 := fun x y H Q => rI CMul (fun i j => .int (i * j)) x y H Q ∨ (rRep x y H Q ∨ (rRepT K x y H Q ∨ rOnceT K x y H Q))
theorem or_mul : OpR X (binaryOp .Mult) (rMul3 X.K) := OpR.or op_mul (OpR.or op_rep (OpR.or op_repT op_onceT))
def kMulLT (x y : D) : Option PV := match kMulL x y with | some p => some p | none => kMulT x y
theorem od_mul : OpD P W (bop .mul) (rMul3 P.K) := by
  refine OpD.orL od_mulI (OpD.orL od_mulL od_mulT (k := kMulLT) ?_) ?_
  · intro x y p h
    unfold kMulLT at h
    split at h
    · rename_i q hq; cases h; exact .inl hq
    · exact .inr h
  · intro x y p h
    cases x <;> cases y <;> first | exact .inl h | (cases h; done) | skip
    all_goals
      right
      simp only [bop] at h
      simp only [kMulLT, kMulL, kMulT]
      split at h
      · rename_i c; cases h; rw [if_pos c]
      · cases h
theorem se_bop (hK : X.K = P.K) {o : BOp} {op : Operator} (ho : (o = .add ∧ op = .Add) ∨ (o = .sub ∧ op = .Sub) ∨ (o = .mul ∧ op = .Mult) ∨ (o = .fdiv ∧ op = .FloorDiv) ∨ (o = .mod ∧ op = .Mod) ∨ (o = .pow ∧ op = .Pow))
    (ha : SE P W X a ca) (hb : SE P W X b cb) : SE P W X (.BinOp a op b pos) (fun s => (ca s).bind fun p s1 => (cb s1).bind fun q s2 => match view s2 p, view s2 q with | some x, some y => lift (bop o x y) s2 | _, _ => .no) := by
  rcases ho with ⟨rfl, rfl⟩ | ⟨rfl, rfl⟩ | ⟨rfl, rfl⟩ | ⟨rfl, rfl⟩ | ⟨rfl, rfl⟩ | ⟨rfl, rfl⟩
  · exact se_add hK ha hb
  · exact se_bin op_sub od_sub ha hb
  · exact se_bin (by have h := @or_mul X; rw [hK] at h; exact h) od_mul ha hb
  · exact se_bin op_fdiv od_fdiv ha hb
  · exact se_bin op_mod od_mod ha hb
  · exact se_bin op_pow od_pow ha hb
/-! comparisons: any data -/
mutual
theorem dp_of {F H : Hp} (sub : Sub F H) : ∀ (n : Nat) (d : D) {v : V}, d.ok n = true → Rp P F d v → Dp P.K H v d.pd
  | _, .non, _, _, h => by have h' : _ = V.non := h; subst h'; exact .non
  | _, .bl b, _, _, h => by have h' : _ = V.bl b := h; subst h'; exact .bl b
  | _, .int b, _, _, h => by have h' : _ = V.int b := h; subst h'; exact .int b
  | _, .str b, _, _, h => by have h' : _ = V.str b := h; subst h'; exact .str b
  | 0, .tup ds, _, o, _ => by simp [D.ok] at o
  | n + 1, .tup ds, _, o, ⟨a, xs, e, q, r⟩ => by subst e; exact .tup (sqT_mono sub q) (dpL_of sub n ds (by simpa [D.ok] using o) r)
  | 0, .lst ds, _, o, _ => by simp [D.ok] at o
  | n + 1, .lst ds, _, o, ⟨a, xs, e, q, r⟩ => by subst e; exact .lst (SqL.of (sub _ _ q)) (dpL_of sub n ds (by simpa [D.ok] using o) r)
  | 0, .fn _, _, o, _ => by simp [D.ok] at o
  | n + 1, .fn _, _, o, _ => by simp [D.ok] at o
  | 0, .exc _ _, _, o, _ => by simp [D.ok] at o
  | n + 1, .exc _ _, _, o, _ => by simp [D.ok] at o
theorem dpL_of {F H : Hp} (sub : Sub F H) : ∀ (n : Nat) (ds : List D) {vs : List V}, D.okL n ds = true → RpL P F ds vs → DpAll P.K H vs (D.pdL ds)
  | _, [], _, _, h => by have h' : _ = [] := h; subst h'; exact .nil
  | n, d :: ds, _, o, ⟨v, r, e, q, x⟩ => by
    subst e
    simp [D.okL] at o
    exact .cons (dp_of sub n d o.1 q) (dpL_of sub n ds o.2 x)
end
mutual
theorem can_of : ∀ (n : Nat) (d : D), d.ok n = true → d.pd.canLay0 = true ∧ d.pd.depth ≤ n + 1
  | _, .non, _ => by simp [D.pd, PyData.canLay0, PyData.depth]
  | _, .bl _, _ => by simp [D.pd, PyData.canLay0, PyData.depth]
  | _, .int _, _ => by simp [D.pd, PyData.canLay0, PyData.depth]
  | 0, .str x, o => by simp only [D.ok] at o; simp [D.pd, PyData.canLay0, PyData.depth, o]
  | n + 1, .str x, o => by simp only [D.ok] at o; simp [D.pd, PyData.canLay0, PyData.depth, o]
  | 0, .tup ds, o => by simp [D.ok] at o
  | n + 1, .tup ds, o => by
    simp only [D.ok] at o
    obtain ⟨h1, h2⟩ := canL_of n ds o
    simp only [D.pd, PyData.canLay0, PyData.depth]
    exact ⟨h1, by omega⟩
  | 0, .lst ds, o => by simp [D.ok] at o
  | n + 1, .lst ds, o => by
    simp only [D.ok] at o
    obtain ⟨h1, h2⟩ := canL_of n ds o
    simp only [D.pd, PyData.canLay0, PyData.depth]
    exact ⟨h1, by omega⟩
  | 0, .fn _, o => by simp [D.ok] at o
  | n + 1, .fn _, o => by simp [D.ok] at o
  | 0, .exc _ _, o => by simp [D.ok] at o
  | n + 1, .exc _ _, o => by simp [D.ok] at o
theorem canL_of : ∀ (n : Nat) (ds : List D), D.okL n ds = true → PyData.canLayAll0 (D.pdL ds) = true ∧ PyData.depthAll (D.pdL ds) ≤ n + 1
  | _, [], _ => by simp [D.pdL, PyData.canLayAll0, PyData.depthAll]
  | n, d :: ds, o => by
    simp [D.okL] at o
    obtain ⟨h1, h2⟩ := can_of n d o.1
    obtain ⟨h3, h4⟩ := canL_of n ds o.2
    simp only [D.pdL, PyData.canLayAll0, PyData.depthAll, h1, h3, Bool.and_self, true_and]
    omega
end
theorem shaped_of {d : D} (o : d.ok 60 = true) : SeqAt.shaped d.pd = true := by
  obtain ⟨h1, h2⟩ := can_of 60 d o
  unfold SeqAt.shaped
  rw [h1, decide_eq_true (show d.pd.depth ≤ 64 by omega)]; rfl
/-- what is to be shown of a comparison on data -/
def CpD (P : Par) (f : D → D → Option Bool) (r : R2) : Prop := ∀ (F H : Hp) (x y : D) (k : Bool) (v w : V) (Q : VK), Sub F H → Vw P F H x v → Vw P F H y w → f x y = some k → Q (.bl k) H → r v w H Q
theorem CpD.orL {f g : D → D → Option Bool} {r r' : R2} (h : CpD P f r) (h' : CpD P g r') {k : D → D → Option Bool} (hk : ∀ x y p, k x y = some p → f x y = some p ∨ g x y = some p) : CpD P k (fun x y H Q => r x y H Q ∨ r' x y H Q) := by
  intro F H x y p v w Q st hv hw e g
  rcases hk x y p e with e | e
  · exact .inl (h F H x y p v w Q st hv hw e g)
  · exact .inr (h' F H x y p v w Q st hv hw e g)
theorem cd_eq : CpD P D.eq (rEqD P.K) := by
  intro F H x y k v w Q sub hv hw e q
  unfold D.eq at e
  split at e
  · rename_i c
    cases e
    simp only [Bool.and_eq_true] at c
    exact ⟨x.pd, y.pd, dp_of (fun _ _ h => h) 60 x c.1 (hv.rp sub), dp_of (fun _ _ h => h) 60 y c.2 (hw.rp sub), shaped_of c.1, shaped_of c.2, q⟩
  · cases e
theorem cd_ne : CpD P (fun x y => (x.eq y).map (!·)) (rNeD P.K) := by
  intro F H x y k v w Q sub hv hw e q
  have e : (x.eq y).map (!·) = some k := e
  unfold D.eq at e
  split at e
  · rename_i c
    cases e
    simp only [Bool.and_eq_true] at c
    exact ⟨x.pd, y.pd, dp_of (fun _ _ h => h) 60 x c.1 (hv.rp sub), dp_of (fun _ _ h => h) 60 y c.2 (hw.rp sub), shaped_of c.1, shaped_of c.2, q⟩
  · cases e
theorem cd_int {g : Int → Int → Bool} {f : D → D → Option Bool} (hf : ∀ x y k, f x y = some k → ∃ i j, x = .int i ∧ y = .int j ∧ k = g i j) : CpD P f (rI0 fun i j => .bl (g i j)) := by
  intro F H x y k v w Q sub hv hw e q
  obtain ⟨i, j, rfl, rfl, rfl⟩ := hf x y k e
  exact ⟨i, j, hv.int, hw.int, q⟩
theorem pdL_any (a : D) : ∀ ds : List D, (D.pdL ds).any (fun z => PyData.eqv z a.pd) = ds.any fun z => PyData.eqv z.pd a.pd
  | [] => rfl
  | d :: ds => by simp [D.pdL, pdL_any a ds]
def inL (neg : Bool) : D → D → Option Bool
  | a, .lst ds => if a.ok 60 && (D.lst ds).ok 60 then some (if neg then !(ds.any fun z => PyData.eqv z.pd a.pd) else ds.any fun z => PyData.eqv z.pd a.pd) else none
  | _, _ => none
def inT (neg : Bool) : D → D → Option Bool
  | a, .tup ds => if a.ok 60 && (D.tup ds).ok 60 then some (if neg then !(ds.any fun z => PyData.eqv z.pd a.pd) else ds.any fun z => PyData.eqv z.pd a.pd) else none
  | _, _ => none
theorem cd_inL : CpD P (inL false) (rInD P.K) := by
  intro F H x y k v w Q sub hv hw e q
  cases y <;> simp only [inL] at e <;> first | (cases e; done) | skip
  split at e
  · rename_i ds c
    cases e
    simp only [Bool.and_eq_true] at c
    refine ⟨x.pd, D.pdL ds, dp_of (fun _ _ h => h) 60 x c.1 (hv.rp sub), dp_of (fun _ _ h => h) 60 _ c.2 (hw.rp sub), shaped_of c.1, shaped_of c.2, ?_⟩
    rw [pdL_any]; exact q
  · cases e
theorem cd_ninL : CpD P (inL true) (rNotInD P.K) := by
  intro F H x y k v w Q sub hv hw e q
  cases y <;> simp only [inL] at e <;> first | (cases e; done) | skip
  split at e
  · rename_i ds c
    cases e
    simp only [Bool.and_eq_true] at c
    refine ⟨x.pd, D.pdL ds, dp_of (fun _ _ h => h) 60 x c.1 (hv.rp sub), dp_of (fun _ _ h => h) 60 _ c.2 (hw.rp sub), shaped_of c.1, shaped_of c.2, ?_⟩
    rw [pdL_any]; exact q
  · cases e
/-! in, not in, over a tuple -/
def rInTu (K : PySem.W.Frag) (neg : Bool) : R2 := fun x y H Q => ∃ d ds, Dp K H x d ∧ Dp K H y (.tuple ds) ∧ SeqAt.shaped d = true ∧ SeqAt.shaped (.tuple ds) = true ∧ Q (.bl (if neg then !(ds.any fun z => PyData.eqv z d) else ds.any fun z => PyData.eqv z d)) H
theorem op_inTu (hu : X.A.units + 65 < cLine) : OpR X (compareOp .In) (rInTu X.K false) := by
  intro pins s σ H x y v u Q I rx ry h
  obtain ⟨d, ds, hd, he, sd, se, q⟩ := h
  obtain ⟨as, r1⟩ := Dp.reads I d x v hd rx
  obtain ⟨bs, r2⟩ := Dp.reads I (.tuple ds) y u he ry
  exact SeqAt.in_tuple_reads r2 r1 (SeqAt.canLay_of_shaped se) (SeqAt.canLay_of_shaped sd) (room_in_shaped sd hu) ⟨.bl _, H, I, rfl, q⟩
theorem op_notInTu (hu : X.A.units + 65 < cLine) : OpR X (compareOp .NotIn) (rInTu X.K true) := by
  intro pins s σ H x y v u Q I rx ry h
  obtain ⟨d, ds, hd, he, sd, se, q⟩ := h
  obtain ⟨as, r1⟩ := Dp.reads I d x v hd rx
  obtain ⟨bs, r2⟩ := Dp.reads I (.tuple ds) y u he ry
  exact SeqAt.notIn_tuple_reads r2 r1 (SeqAt.canLay_of_shaped se) (SeqAt.canLay_of_shaped sd) (room_in_shaped sd hu) ⟨.bl _, H, I, rfl, q⟩
theorem cd_inT (neg : Bool) : CpD P (inT neg) (rInTu P.K neg) := by
  intro F H x y k v w Q sub hv hw e q
  cases y <;> simp only [inT] at e <;> first | (cases e; done) | skip
  split at e
  · rename_i ds c
    cases e
    simp only [Bool.and_eq_true] at c
    refine ⟨x.pd, D.pdL ds, dp_of (fun _ _ h => h) 60 x c.1 (hv.rp sub), dp_of (fun _ _ h => h) 60 _ c.2 (hw.rp sub), shaped_of c.1, shaped_of c.2, ?_⟩
    rw [pdL_any]; exact q
  · cases e
theorem isin_split {x y : D} {k : Bool} (h : x.isin y = some k) : inL false x y = some k ∨ inT false x y = some k := by
  cases y <;> simp only [D.isin] at h <;> first | (cases h; done) | (left; simpa [inL] using h) | (right; simpa [inT] using h)
theorem nisin_split {x y : D} {k : Bool} (h : (x.isin y).map (!·) = some k) : inL true x y = some k ∨ inT true x y = some k := by
  cases y <;> simp only [D.isin] at h <;> first | (cases h; done) | skip
  · right
    simp only [inT]
    split at h
    · rename_i c; rw [if_pos c]; simpa using h
    · cases h
  · left
    simp only [inL]
    split at h
    · rename_i c; rw [if_pos c]; simpa using h
    · cases h
theorem cd_is : CpD P (cop .is) (fun x y H Q => y = .non ∧ Q (.bl (decide (x = .non))) H) := by
  intro F H x y k v w Q sub hv hw e q
  cases y <;> cases x <;> simp only [cop] at e <;> first | (cases e; done) | skip
  all_goals
    cases e
    refine ⟨hw.non, ?_⟩
  · cases hv.non; exact q
  · cases hv.bl; exact q
  · cases hv.int; exact q
  · cases hv.str; exact q
  · obtain ⟨a, xs, rfl, _⟩ := hv.tup sub; exact q
  · obtain ⟨a, xs, rfl, _⟩ := hv.lst sub; exact q
theorem cd_isn : CpD P (cop .isn) (fun x y H Q => y = .non ∧ Q (.bl (!decide (x = .non))) H) := by
  intro F H x y k v w Q sub hv hw e q
  cases y <;> cases x <;> simp only [cop] at e <;> first | (cases e; done) | skip
  all_goals
    cases e
    refine ⟨hw.non, ?_⟩
  · cases hv.non; exact q
  · cases hv.bl; exact q
  · cases hv.int; exact q
  · cases hv.str; exact q
  · obtain ⟨a, xs, rfl, _⟩ := hv.tup sub; exact q
  · obtain ⟨a, xs, rfl, _⟩ := hv.lst sub; exact q
theorem cop_int {o : COp} {g : Int → Int → Bool} (ho : o = .lt ∨ o = .le ∨ o = .gt ∨ o = .ge) (hg : ∀ i j, cop o (.int i) (.int j) = some (g i j)) : ∀ x y k, cop o x y = some k → ∃ i j, x = .int i ∧ y = .int j ∧ k = g i j := by
  intro x y k h
  rcases ho with rfl | rfl | rfl | rfl <;>
  · cases x <;> cases y <;> simp only [cop] at h <;> first | (cases h; done) | skip
    rename_i i j
    have e := hg i j
    simp only [cop] at e
    exact ⟨i, j, rfl, rfl, Option.some.inj (h.symm.trans e)⟩
/-- the reading of each comparison -/
theorem cmp_rule (hu : X.A.units + 65 < cLine) (hK : X.K = P.K) {o : COp} {op : CmpOp}
    (ho : (o = .eq ∧ op = .Eq) ∨ (o = .ne ∧ op = .NotEq) ∨ (o = .lt ∧ op = .Lt) ∨ (o = .le ∧ op = .LtE) ∨ (o = .gt ∧ op = .Gt) ∨ (o = .ge ∧ op = .GtE) ∨ (o = .is ∧ op = .Is) ∨ (o = .isn ∧ op = .IsNot) ∨ (o = .inn ∧ op = .In) ∨ (o = .nin ∧ op = .NotIn)) :
    ∃ r, OpR X (compareOp op) r ∧ CpD P (cop o) r := by
  have hu4 : X.A.units + 64 < cLine := by omega
  rcases ho with ⟨rfl, rfl⟩ | ⟨rfl, rfl⟩ | ⟨rfl, rfl⟩ | ⟨rfl, rfl⟩ | ⟨rfl, rfl⟩ | ⟨rfl, rfl⟩ | ⟨rfl, rfl⟩ | ⟨rfl, rfl⟩ | ⟨rfl, rfl⟩ | ⟨rfl, rfl⟩
  · exact ⟨_, op_eqD hu4, by rw [hK]; exact cd_eq⟩
  · exact ⟨_, op_neD hu4, by rw [hK]; exact cd_ne⟩
  · exact ⟨_, op_lt, cd_int (cop_int (by simp) fun _ _ => rfl)⟩
  · exact ⟨_, op_le, cd_int (cop_int (by simp) fun _ _ => rfl)⟩
  · exact ⟨_, op_gt, cd_int (cop_int (by simp) fun _ _ => rfl)⟩
  · exact ⟨_, op_ge, cd_int (cop_int (by simp) fun _ _ => rfl)⟩
  · exact ⟨_, op_isN, cd_is⟩
  · exact ⟨_, op_notN, cd_isn⟩
  · exact ⟨_, OpR.or (op_inD hu) (op_inTu hu), by rw [hK]; exact CpD.orL cd_inL (cd_inT false) fun _ _ _ h => isin_split h⟩
  · exact ⟨_, OpR.or (op_notInD hu) (op_notInTu hu), by rw [hK]; exact CpD.orL cd_ninL (cd_inT true) fun _ _ _ h => nisin_split h⟩
end
end Z

/-! Z6: comparisons, and/or/not/if, displays, subscripts, slices -/
namespace Z
open PySem PySem.Spec PyProof.Rows L2
section
variable {α β γ δ : Type} {P : Par} {W : WX} {σ : St} {F F1 H H1 : Hp} {s s1 : Sts}
/-- the next part of a bind, from a later state -/
theorem GP.next {R : Hp → Hp → Hp → Sts → α → β → Prop} {R' : Hp → Hp → Hp → Sts → γ → δ → Prop} {r : Rs α} {f : α → Sts → Rs γ} {Q : δ → Hp → Prop} {Q1 : β → Hp → Prop}
    (h : GP R' P W σ F H s (r.bind f) Q) (st : Step P σ F H s σ F1 H1 s1)
    (k : ∀ x s2, r = .ok x s2 → GP R' P W σ F H s (f x s2) Q → ∀ b F2 H2, Step P σ F1 H1 s1 σ F2 H2 s2 → R H1 F2 H2 s2 x b → Q1 b H2) : GP R P W σ F1 H1 s1 r Q1 := by
  cases r with
  | ok x s2 => exact fun b F2 H2 st2 q => k x s2 rfl h b F2 H2 st2 q
  | er x s2 => exact fun cls d F' H' y q => h cls d F' H' (st.trans y) q
  | no => exact h
theorem isT_bind {a : Type} (r : Rs a) (f : a → Sts → Rs PV) : isT (r.bind f) = r.bind fun x s => isT (f x s) := by cases r <;> rfl
theorem isT_bl (b : Bool) (s : Sts) : isT (.ok (.fz (.bl b)) s) = .ok b s := rfl
theorem isT_no : isT .no = .no := rfl
theorem bind_assoc {a b c : Type} (r : Rs a) (f : a → Sts → Rs b) (g : b → Sts → Rs c) : (r.bind f).bind g = r.bind fun x s => (f x s).bind g := by cases r <;> rfl
theorem isT_lift (o : Option Bool) (s : Sts) : isT ((lift o s).bind fun b s => .ok (.fz (.bl b)) s) = lift o s := by cases o <;> rfl
end
section
variable {P : Par} {W : WX} {X : Cx} {pos : Pos} {a b c : Expr} {ca cb cc : Sts → Rs PV}
def cmpC (o : COp) (ca cb : Sts → Rs PV) (s : Sts) : Rs PV := (ca s).bind fun p s1 => (cb s1).bind fun q s2 => match view s2 p, view s2 q with
  | some x, some y => (lift (cop o x y) s2).bind fun b s3 => .ok (.fz (.bl b)) s3
  | _, _ => .no
theorem isT_cmp (o : COp) (ca cb : Sts → Rs PV) (s : Sts) : isT (cmpC o ca cb s) = (ca s).bind fun p s1 => (cb s1).bind fun q s2 => match view s2 p, view s2 q with
  | some x, some y => lift (cop o x y) s2
  | _, _ => .no := by
  unfold cmpC
  rw [isT_bind]
  congr 1; funext p s1
  rw [isT_bind]
  congr 1; funext q s2
  cases view s2 p <;> cases view s2 q <;> first | rfl | skip
  rename_i x y
  exact isT_lift _ _
theorem cmp_two {o : COp} {r : R2} (hr : CpD P (cop o) r) {σ : St} {F H : Hp} {s : Sts} {Q : Bool → Hp → Prop} {Q' : VK} (str : StR P F H σ s)
    (g : GP RB P W σ F H s ((ca s).bind fun p s1 => (cb s1).bind fun q s2 => match view s2 p, view s2 q with | some x, some y => lift (cop o x y) s2 | _, _ => .no) Q) (hQ : ∀ k H2, Q k H2 → Q' (.bl k) H2) :
    tOp r (tSE P W ca) (tSE P W cb) σ H Q' := by
  refine ⟨F, s, str, g.bind fun p s1 e1 g1 v F1 H1 st1 ev1 => ⟨F1, s1, st1.str, ?_⟩⟩
  refine GP.next g1 st1 fun q s2 e2 g2 w F2 H2 st2 ev2 => ?_
  have ev1' := ev1.carry st2
  cases h1 : view s2 p with
  | none => rw [h1] at g2; exact g2.elim
  | some x =>
    cases h2 : view s2 q with
    | none => rw [h1, h2] at g2; exact g2.elim
    | some y =>
      rw [h1, h2] at g2
      cases h3 : cop o x y with
      | none => simp only [h3] at g2; exact g2.elim
      | some k =>
        simp only [h3] at g2
        exact hr F2 H2 x y k v w Q' st2.str.sub (ev1'.vw st2.str h1) (ev2.vw st2.str h2) h3 (hQ k H2 (GP.ok (R := RB) g2 (st1.trans st2) rfl))
/-- as a test, as a value -/
theorem GP.bl {r : Rs Bool} {σ : St} {F H : Hp} {s : Sts} {Q : VK} (h : GP (RE P σ) P W σ F H s (r.bind fun b s3 => .ok (.fz (.bl b)) s3) Q) : GP RB P W σ F H s r (fun k H2 => Q (.bl k) H2) := by
  cases r with
  | ok k s2 => intro b F2 H2 st e; cases e; exact GP.ok (R := RE P σ) h st rfl
  | er x s2 => exact h
  | no => exact h
theorem cmpC_bl (o : COp) (ca cb : Sts → Rs PV) (s : Sts) : cmpC o ca cb s = (isT (cmpC o ca cb s)).bind fun b s3 => .ok (.fz (.bl b)) s3 := by
  rw [isT_cmp, bind_assoc]
  unfold cmpC
  congr 1; funext p s1
  rw [bind_assoc]
  congr 1; funext q s2
  cases view s2 p <;> cases view s2 q <;> rfl
theorem se_cmp {o : COp} {op : CmpOp} {r : R2} (ho : OpR X (compareOp op) r) (hr : CpD P (cop o) r) (hm : behindInMarks op b = false) (ha : SE P W X a ca) (hb : SE P W X b cb) :
    SE P W X (.Compare a [op] [b] pos) (cmpC o ca cb) ∧ ST P W X (.Compare a [op] [b] pos) (cmpC o ca cb) := by
  constructor
  · refine PE.weak (pe_cmpR ho ha hb hm) ?_
    rintro σ H Q ⟨F, s, str, g⟩
    rw [cmpC_bl] at g
    have g' := GP.bl g
    rw [isT_cmp] at g'
    exact cmp_two hr str g' fun k H2 q => q
  · refine PT.weak (pt_cmpR ho ha hb hm) ?_
    rintro σ H Q ⟨F, s, str, g⟩
    rw [isT_cmp] at g
    exact cmp_two hr str g fun k H2 q => ⟨k, rfl, q⟩
def cmp2C (o o' : COp) (ca cb cc : Sts → Rs PV) (s : Sts) : Rs PV := (ca s).bind fun p s1 => (cb s1).bind fun q s2 => match view s2 p, view s2 q with
  | some x, some y => (lift (cop o x y) s2).bind fun k s3 => if k = true then (cc s3).bind fun r s4 => match view s4 q, view s4 r with
      | some y, some z => (lift (cop o' y z) s4).bind fun b s5 => .ok (.fz (.bl b)) s5
      | _, _ => .no
    else .ok (.fz (.bl false)) s3
  | _, _ => .no
def cmp2B (o o' : COp) (ca cb cc : Sts → Rs PV) (s : Sts) : Rs Bool := (ca s).bind fun p s1 => (cb s1).bind fun q s2 => match view s2 p, view s2 q with
  | some x, some y => (lift (cop o x y) s2).bind fun k s3 => if k = true then (cc s3).bind fun r s4 => match view s4 q, view s4 r with
      | some y, some z => lift (cop o' y z) s4
      | _, _ => .no
    else .ok false s3
  | _, _ => .no
theorem isT_cmp2 (o o' : COp) (ca cb cc : Sts → Rs PV) (s : Sts) : isT (cmp2C o o' ca cb cc s) = cmp2B o o' ca cb cc s := by
  unfold cmp2C cmp2B
  rw [isT_bind]
  congr 1; funext p s1
  rw [isT_bind]
  congr 1; funext q s2
  cases view s2 p <;> cases view s2 q <;> first | rfl | skip
  simp only
  rw [isT_bind]
  congr 1; funext k s3
  split
  · rw [isT_bind]
    congr 1; funext r s4
    cases view s4 q <;> cases view s4 r <;> first | rfl | skip
    exact isT_lift _ _
  · rfl
theorem cmp2C_bl (o o' : COp) (ca cb cc : Sts → Rs PV) (s : Sts) : cmp2C o o' ca cb cc s = (cmp2B o o' ca cb cc s).bind fun b s3 => .ok (.fz (.bl b)) s3 := by
  unfold cmp2C cmp2B
  rw [bind_assoc]
  congr 1; funext p s1
  rw [bind_assoc]
  congr 1; funext q s2
  cases view s2 p <;> cases view s2 q <;> first | rfl | skip
  simp only
  rw [bind_assoc]
  congr 1; funext k s3
  split
  · rw [bind_assoc]
    congr 1; funext r s4
    cases view s4 q <;> cases view s4 r <;> first | rfl | skip
  · rfl
theorem cmp2_three {o o' : COp} {r r' : R2} (hr : CpD P (cop o) r) (hr' : CpD P (cop o') r') {σ : St} {F H : Hp} {s : Sts} {Q : Bool → Hp → Prop} {Q' : VK} (str : StR P F H σ s)
    (g : GP RB P W σ F H s (cmp2B o o' ca cb cc s) Q) (hQ : ∀ k H2, Q k H2 → Q' (.bl k) H2) : tChain r r' (tSE P W ca) (tSE P W cb) (tSE P W cc) σ H Q' := by
  refine ⟨F, s, str, GP.bind g fun p s1 e1 g1 v F1 H1 st1 ev1 => ⟨F1, s1, st1.str, ?_⟩⟩
  refine GP.next g1 st1 fun q s2 e2 g2 w F2 H2 st2 ev2 => ?_
  have ev1' := ev1.carry st2
  cases h1 : view s2 p with
  | none => rw [h1] at g2; exact g2.elim
  | some x =>
    cases h2 : view s2 q with
    | none => rw [h1, h2] at g2; exact g2.elim
    | some y =>
      rw [h1, h2] at g2
      cases h3 : cop o x y with
      | none => simp only [h3] at g2; exact g2.elim
      | some k =>
        simp only [h3, lift, Rs.bind] at g2
        refine hr F2 H2 x y k v w _ st2.str.sub (ev1'.vw st2.str h1) (ev2.vw st2.str h2) h3 ⟨k, rfl, ?_⟩
        cases k with
        | false =>
          rw [if_neg (by simp)] at g2 ⊢
          exact hQ _ _ (GP.ok (R := RB) g2 (st1.trans st2) rfl)
        | true =>
          rw [if_pos rfl] at g2 ⊢
          refine ⟨F2, s2, st2.str, GP.next g2 (st1.trans st2) fun r3 s4 e4 g4 u F4 H4 st4 ev4 => ?_⟩
          have ev2' := ev2.carry st4
          cases h5 : view s4 q with
          | none => rw [h5] at g4; exact g4.elim
          | some y' =>
            cases h6 : view s4 r3 with
            | none => rw [h5, h6] at g4; exact g4.elim
            | some z =>
              rw [h5, h6] at g4
              cases h7 : cop o' y' z with
              | none => simp only [h7] at g4; exact g4.elim
              | some k =>
                simp only [h7] at g4
                exact hr' F4 H4 y' z k w u Q' st4.str.sub (ev2'.vw st4.str h5) (ev4.vw st4.str h6) h7 (hQ k H4 (GP.ok (R := RB) g4 ((st1.trans st2).trans st4) rfl))
theorem se_cmp2 {o o' : COp} {op op' : CmpOp} {r r' : R2} (ho : OpR X (compareOp op) r) (hr : CpD P (cop o) r) (ho' : OpR X (compareOp op') r') (hr' : CpD P (cop o') r') (hm : lastMarks [op, op'] [b, c] = false)
    (ha : SE P W X a ca) (hb : SE P W X b cb) (hc : SE P W X c cc) : SE P W X (.Compare a [op, op'] [b, c] pos) (cmp2C o o' ca cb cc) ∧ ST P W X (.Compare a [op, op'] [b, c] pos) (cmp2C o o' ca cb cc) := by
  constructor
  · refine PE.weak (pe_chain ho ho' ha hb hc hm) ?_
    rintro σ H Q ⟨F, s, str, g⟩
    rw [cmp2C_bl] at g
    exact cmp2_three hr hr' str (GP.bl g) fun k H2 q => q
  · refine PT.weak (pt_chain ho ho' ha hb hc hm) ?_
    rintro σ H Q ⟨F, s, str, g⟩
    rw [isT_cmp2] at g
    exact cmp2_three hr hr' str g fun k H2 q => ⟨k, rfl, q⟩
/-! not -/
theorem se_not (hK : X.K = P.K) (ha : SE P W X a ca) : SE P W X (.UnaryOp .Not a pos) (fun s => (truthR (ca s)).bind fun b s1 => .ok (.fz (.bl (!b))) s1) := by
  refine PE.weak (pe_notT ha) ?_
  rintro σ H Q ⟨F, s, str, g⟩
  dsimp only at g
  rw [truthR_bind, bind_assoc] at g
  refine ⟨F, s, str, GP.bind g fun p s1 e1 g1 v F1 H1 st ev => ?_⟩
  cases hv : view s1 p with
  | none => rw [hv] at g1; exact g1.elim
  | some d =>
    rw [hv] at g1
    cases ht : d.truth with
    | none => simp only [ht] at g1; exact g1.elim
    | some k =>
      simp only [ht] at g1
      exact ⟨k, hK ▸ vw_tru (ev.vw st.str hv) st.str.sub ht, GP.ok (R := RE P σ) g1 st rfl⟩
theorem st_not (ha : ST P W X a ca) : ST P W X (.UnaryOp .Not a pos) (fun s => (isT (ca s)).bind fun b s1 => .ok (.fz (.bl (!b))) s1) := by
  refine PT.weak (pt_not ha) ?_
  rintro σ H Q ⟨F, s, str, g⟩
  dsimp only at g
  rw [isT_bind] at g
  refine ⟨F, s, str, GP.bind g fun k s1 e1 g1 b F1 H1 st ev => ?_⟩
  cases ev
  exact GP.ok (R := RB) g1 st rfl
/-! and, or -/
def andC (ca cb : Sts → Rs PV) (s : Sts) : Rs PV := (ca s).bind fun p s1 => (match view s1 p with | some d => lift d.truth s1 | none => .no).bind fun k s2 => if k = true then cb s2 else .ok p s2
def orC (ca cb : Sts → Rs PV) (s : Sts) : Rs PV := (ca s).bind fun p s1 => (match view s1 p with | some d => lift d.truth s1 | none => .no).bind fun k s2 => if k = true then .ok p s2 else cb s2
theorem se_and {rest : List Expr} (hK : X.K = P.K) (ha : SE P W X a ca) (hb : SE P W X (.BoolOp .And (b :: rest) pos) cb) : SE P W X (.BoolOp .And (a :: b :: rest) pos) (andC ca cb) := by
  refine PE.weak (pe_andT ha hb) ?_
  rintro σ H Q ⟨F, s, str, g⟩
  refine ⟨F, s, str, GP.bind g fun p s1 e1 g1 v F1 H1 st ev => ?_⟩
  cases hv : view s1 p with
  | none => rw [hv] at g1; exact g1.elim
  | some d =>
    rw [hv] at g1
    cases ht : d.truth with
    | none => simp only [ht] at g1; exact g1.elim
    | some k =>
      simp only [ht, lift, Rs.bind] at g1
      refine ⟨k, hK ▸ vw_tru (ev.vw st.str hv) st.str.sub ht, ?_⟩
      cases k with
      | true =>
        rw [if_pos rfl] at g1 ⊢
        exact ⟨F1, s1, st.str, g1.afterE st⟩
      | false =>
        rw [if_neg (by simp)] at g1 ⊢
        exact GP.ok (R := RE P σ) g1 st ev
theorem se_or {rest : List Expr} (hK : X.K = P.K) (ha : SE P W X a ca) (hb : SE P W X (.BoolOp .Or (b :: rest) pos) cb) : SE P W X (.BoolOp .Or (a :: b :: rest) pos) (orC ca cb) := by
  refine PE.weak (pe_orT ha hb) ?_
  rintro σ H Q ⟨F, s, str, g⟩
  refine ⟨F, s, str, GP.bind g fun p s1 e1 g1 v F1 H1 st ev => ?_⟩
  cases hv : view s1 p with
  | none => rw [hv] at g1; exact g1.elim
  | some d =>
    rw [hv] at g1
    cases ht : d.truth with
    | none => simp only [ht] at g1; exact g1.elim
    | some k =>
      simp only [ht, lift, Rs.bind] at g1
      refine ⟨k, hK ▸ vw_tru (ev.vw st.str hv) st.str.sub ht, ?_⟩
      cases k with
      | true =>
        rw [if_pos rfl] at g1 ⊢
        exact GP.ok (R := RE P σ) g1 st ev
      | false =>
        rw [if_neg (by simp)] at g1 ⊢
        exact ⟨F1, s1, st.str, g1.afterE st⟩
def SW (P : Par) (W : WX) (X : Cx) (e : Expr) (c : Sts → Rs PV) : Prop := PW X e (tST P W c)
theorem PW.weak {e : Expr} {t t' : TT} (h : PW X e t) (m : ∀ σ H Q, t' σ H Q → t σ H Q) : PW X e t' := ⟨fun whole pins s σ H Q I q => h.run whole pins s σ H Q I (m σ H Q q)⟩
def andT (ca cb : Sts → Rs PV) (s : Sts) : Rs PV := (isT (ca s)).bind fun k s1 => if k = true then cb s1 else .ok (.fz (.bl false)) s1
def orT (ca cb : Sts → Rs PV) (s : Sts) : Rs PV := (isT (ca s)).bind fun k s1 => if k = true then .ok (.fz (.bl true)) s1 else cb s1
theorem st_and {rest : List Expr} (ha : ST P W X a ca) (hb : SW P W X (.BoolOp .And (b :: rest) pos) cb) : SW P W X (.BoolOp .And (a :: b :: rest) pos) (andT ca cb) := by
  refine PW.weak (pw_and ha hb) ?_
  rintro σ H Q ⟨F, s, str, g⟩
  unfold andT at g
  rw [isT_bind] at g
  refine ⟨F, s, str, GP.bind g fun k s1 e1 g1 b F1 H1 st ev => ?_⟩
  cases ev
  cases k with
  | true => exact ⟨F1, s1, st.str, GP.afterB g1 st⟩
  | false => exact GP.ok (R := RB) g1 st rfl
theorem st_or {rest : List Expr} (ha : ST P W X a ca) (hb : SW P W X (.BoolOp .Or (b :: rest) pos) cb) : SW P W X (.BoolOp .Or (a :: b :: rest) pos) (orT ca cb) := by
  refine PW.weak (pw_or ha hb) ?_
  rintro σ H Q ⟨F, s, str, g⟩
  unfold orT at g
  rw [isT_bind] at g
  refine ⟨F, s, str, GP.bind g fun k s1 e1 g1 b F1 H1 st ev => ?_⟩
  cases ev
  cases k with
  | true => exact GP.ok (R := RB) g1 st rfl
  | false => exact ⟨F1, s1, st.str, GP.afterB g1 st⟩
/-! if -/
theorem se_ife {c : Expr} {ct : Sts → Rs PV} (hc : ST P W X c ct) (ha : SE P W X a ca) (hb : SE P W X b cb) : SE P W X (.IfExp c a b pos) (fun s => (isT (ct s)).bind fun k s1 => if k = true then ca s1 else cb s1) := by
  refine PE.weak (pe_ifExp hc ha hb) ?_
  rintro σ H Q ⟨F, s, str, g⟩
  refine ⟨F, s, str, GP.bind g fun k s1 e1 g1 b F1 H1 st ev => ?_⟩
  cases ev
  cases k with
  | true => exact ⟨F1, s1, st.str, g1.afterE st⟩
  | false => exact ⟨F1, s1, st.str, g1.afterE st⟩
/-! - a -/
theorem se_neg (ha : SE P W X a ca) : SE P W X (.UnaryOp .USub a pos) (fun s => (ca s).bind fun p s1 => match view s1 p with | some (.int i) => .ok (.fz (.int (-i))) s1 | _ => .no) := by
  refine PE.weak (pe_un un_neg ha) ?_
  rintro σ H Q ⟨F, s, str, g⟩
  refine ⟨F, s, str, GP.bind g fun p s1 e1 g1 v F1 H1 st ev => ?_⟩
  cases hv : view s1 p with
  | none => rw [hv] at g1; exact g1.elim
  | some d =>
    rw [hv] at g1
    cases d <;> first | exact g1.elim | skip
    rename_i i
    exact ⟨i, (ev.vw st.str hv).int, GP.ok (R := RE P σ) g1 st rfl⟩
/-! arguments -/
theorem sa_nil : SA P W X [] (fun s => .ok [] s) := by
  refine PA.weak pa_nil ?_
  rintro σ H Q ⟨F, s, str, g⟩
  exact GP.ok (R := RL P σ) g (Step.refl str) rfl
theorem sa_cons {e : Expr} {es : List Expr} {ce : Sts → Rs PV} {ces : Sts → Rs (List PV)} (he : SE P W X e ce) (hes : SA P W X es ces) (hs : starEach (e :: es) X.env = (false, eval e X.env) :: starEach es X.env) :
    SA P W X (e :: es) (fun s => (ce s).bind fun p s1 => (ces s1).bind fun ps s2 => .ok (p :: ps) s2) := by
  refine PA.weak (pa_cons he hes hs) ?_
  rintro σ H Q ⟨F, s, str, g⟩
  refine ⟨F, s, str, GP.bind g fun p s1 e1 g1 v F1 H1 st ev => ⟨F1, s1, st.str, ?_⟩⟩
  refine GP.next g1 st fun ps s2 e2 g2 vs F2 H2 st2 evs => ?_
  exact GP.ok (R := RL P σ) g2 (st.trans st2) ⟨v, vs, rfl, ev.carry st2, EvRL.base st.dm evs⟩
end
/-! freezing -/
section
variable {P : Par} {σ : St} {F H F1 H1 : Hp} {s s1 s2 : Sts}
/-- some owned things are frozen: A tells which, among them slot i perhaps -/
theorem Step.freeze (st : Step P σ F H s σ F1 H1 s1) {a : Addr} {xs : List V} {ds : List D} (hF : F1 a = none) (hH : H1 a = some (.lst xs)) (r : RpL P F1 ds xs)
    (ha : H a = none ∨ FP σ s a) (hs2 : (s2 = s1 ∧ ∀ i, ¬ Own σ s1 i a) ∨ ∃ i, s1[i]? = some (.lst ds) ∧ σ[i]? = some (some (.ref a)) ∧ s2 = s1.set i (.fz (.lst ds))) :
    Step P σ F H s σ (upd F1 a (.lst xs)) H1 s2 ∧ Rp P (upd F1 a (.lst xs)) (.lst ds) (.ref a) ∧ Sub F1 (upd F1 a (.lst xs)) := by
  have hsub : Sub F1 (upd F1 a (.lst xs)) := fun b u e => by
    rw [upd_ne (fun z => by subst z; rw [hF] at e; cases e)]; exact e
  have hrp : Rp P (upd F1 a (.lst xs)) (.lst ds) (.ref a) := ⟨a, xs, rfl, upd_same, RpL.mono hsub ds r⟩
  have hown : ∀ j b, Own σ s2 j b → Own σ s1 j b ∧ b ≠ a := by
    intro j b o
    rcases hs2 with ⟨rfl, n⟩ | ⟨i, h1, h2, rfl⟩
    · exact ⟨o, fun z => by subst z; exact n j o⟩
    · obtain ⟨o1, es, o2⟩ := o
      have hij : j ≠ i := by
        intro z; subst z
        have hl : j < s1.length := (List.getElem?_eq_some_iff.mp h1).1
        rw [List.getElem?_set_self hl] at o2
        rcases o2 with o2 | o2 | o2 <;> cases o2
      have o3 : Own σ s1 j b := ⟨o1, es, by rwa [List.getElem?_set_ne (Ne.symm hij)] at o2⟩
      refine ⟨o3, fun z => ?_⟩
      subst z
      exact hij (st.str.dis j i b o3 ⟨h2, ds, .inl h1⟩)
  have hfp : ∀ b, FP σ s2 b → FP σ s1 b := by
    rintro b ⟨j, o1, es, o2⟩
    rcases hs2 with ⟨rfl, n⟩ | ⟨i, h1, h2, rfl⟩
    · exact ⟨j, o1, es, o2⟩
    · have hij : j ≠ i := by
        intro z; subst z
        have hl : j < s1.length := (List.getElem?_eq_some_iff.mp h1).1
        rw [List.getElem?_set_self hl] at o2
        rcases o2 with o2 | o2 <;> cases o2
      exact ⟨j, o1, es, by rwa [List.getElem?_set_ne (Ne.symm hij)] at o2⟩
  refine ⟨⟨⟨?_, fun b u e => ?_, fun i v sl e1 e2 => ?_, fun i j b o1 o2 => st.str.dis i j b (hown i b o1).1 (hown j b o2).1, st.str.z⟩, fun b u e => hsub b u (st.ff b u e), st.hh, st.dm, fun b u e => ?_, fun b f => st.np b (hfp b f), fun i es e => ?_, fun i es e => ?_, fun i es e => ?_⟩, hrp, hsub⟩
  · rcases hs2 with ⟨rfl, n⟩ | ⟨i, h1, h2, rfl⟩
    · exact st.str.len
    · rw [List.length_set]; exact st.str.len
  · by_cases z : b = a
    · subst z; rw [upd_same] at e; rw [← e]; exact hH
    · rw [upd_ne z] at e; exact st.str.sub b u e
  · have low : ∀ {b : Addr} {u : HO}, F1 b = none → b ≠ a → upd F1 a (.lst xs) b = none := fun h n => by rw [upd_ne n]; exact h
    have base : ∀ sl', s1[i]? = some sl' → sl = sl' → (∀ b, v = some (.ref b) → (∃ es, sl' = .lst es ∨ sl' = .io es ∨ sl' = .brw es) → b ≠ a) → SlOk P (upd F1 a (.lst xs)) H1 v sl := by
      intro sl' h1 h2 h3
      subst h2
      have q := st.str.slot i v sl e1 h1
      cases v with
      | none => cases sl <;> exact q
      | some v =>
        cases sl with
        | non => exact q
        | fz d => exact Rp.mono hsub d q
        | lst es => obtain ⟨b, ys, e, f, g, k⟩ := q; subst e; exact ⟨b, ys, rfl, by rw [upd_ne (h3 b rfl ⟨es, .inl rfl⟩)]; exact f, g, RpL.mono hsub es k⟩
        | io es => obtain ⟨b, ys, e, f, g, k⟩ := q; subst e; exact ⟨b, ys, rfl, by rw [upd_ne (h3 b rfl ⟨es, .inr (.inl rfl)⟩)]; exact f, g, RpL.mono hsub es k⟩
        | brw es => obtain ⟨b, ys, e, f, g, k⟩ := q; subst e; exact ⟨b, ys, rfl, by rw [upd_ne (h3 b rfl ⟨es, .inr (.inr rfl)⟩)]; exact f, g, RpL.mono hsub es k⟩
    have nea : ∀ b, v = some (.ref b) → ∀ es, (sl = .lst es ∨ sl = .io es ∨ sl = .brw es) → b ≠ a := by
      intro b hv es hes
      refine (hown i b ⟨by rw [e1, hv], es, ?_⟩).2
      rcases hes with rfl | rfl | rfl
      · exact .inl e2
      · exact .inr (.inl e2)
      · exact .inr (.inr e2)
    rcases hs2 with ⟨rfl, n⟩ | ⟨j, h1, h2, rfl⟩
    · exact base sl e2 rfl fun b hv ⟨es, hes⟩ => nea b hv es hes
    · by_cases hij : i = j
      · subst hij
        have hl : i < s1.length := (List.getElem?_eq_some_iff.mp h1).1
        rw [List.getElem?_set_self hl] at e2
        cases e2
        rw [h2] at e1
        cases e1
        exact hrp
      · rw [List.getElem?_set_ne (Ne.symm hij)] at e2
        exact base sl e2 rfl fun b hv ⟨es, hes⟩ => nea b hv es hes
  · by_cases z : b = a
    · subst z
      rcases ha with ha | ha
      · exact .inr (.inl ha)
      · exact .inr (.inr ha)
    · rw [upd_ne z] at e; exact st.nf b u e
  · obtain ⟨h1, h2⟩ := st.lk i es e
    refine ⟨?_, h2⟩
    rcases hs2 with ⟨rfl, n⟩ | ⟨j, h3, h4, rfl⟩
    · exact h1
    · rw [List.getElem?_set_ne (by intro z; subst z; rw [h1] at h3; cases h3)]; exact h1
  · obtain ⟨⟨es', h1⟩, h2⟩ := st.li i es e
    refine ⟨⟨es', ?_⟩, h2⟩
    rcases hs2 with ⟨rfl, n⟩ | ⟨j, h3, h4, rfl⟩
    · exact h1
    · rw [List.getElem?_set_ne (by intro z; subst z; rw [h1] at h3; cases h3)]; exact h1
  · rcases hs2 with ⟨rfl, n⟩ | ⟨j, h3, h4, rfl⟩
    · exact st.bk i es e
    · by_cases hij : i = j
      · subst hij
        have hl : i < s1.length := (List.getElem?_eq_some_iff.mp h3).1
        rw [List.getElem?_set_self hl] at e
        cases e
      · rw [List.getElem?_set_ne (Ne.symm hij)] at e; exact st.bk i es e
end
end Z

/-! Z7: displays, subscripts, slices, built-ins, methods -/
namespace Z
open PySem PySem.Spec PyProof.Rows L2
section
variable {P : Par} {σ : St} {F H F1 H1 : Hp} {s s1 s2 : Sts}
/-- as EvR, but a new list may have been frozen meanwhile -/
def EvW (P : Par) (H0 F H : Hp) (σ : St) (s : Sts) : PV → V → Prop
  | .fz d, v => Rp P F d v
  | .tmp ds, v => ∃ a xs, v = .ref a ∧ (F a = none ∨ F a = some (.lst xs)) ∧ H a = some (.lst xs) ∧ RpL P F ds xs ∧ H0 a = none ∧ ∀ i, ¬ Own σ s i a
  | .plc i, v => σ[i]? = some (some v)
  | .shl es, v => ∃ a xs, v = .ref a ∧ (F a = none ∨ F a = some (.lst xs)) ∧ H a = some (.lst xs) ∧ ElL P F σ es xs ∧ H0 a = none ∧ ∀ i, ¬ Own σ s i a
def EvWL (P : Par) (H0 F H : Hp) (σ : St) (s : Sts) : List PV → List V → Prop
  | [], vs => vs = []
  | p :: ps, vs => ∃ v r, vs = v :: r ∧ EvW P H0 F H σ s p v ∧ EvWL P H0 F H σ s ps r
theorem EvR.w {H0 : Hp} {p : PV} {v : V} (h : EvR P H0 F H σ s p v) : EvW P H0 F H σ s p v := by
  cases p with
  | fz d => exact h
  | plc i => exact h
  | shl ds => obtain ⟨a, xs, e, f, g, r, n, o⟩ := h; exact ⟨a, xs, e, .inl f, g, r, n, o⟩
  | tmp ds => obtain ⟨a, xs, e, f, g, r, n, o⟩ := h; exact ⟨a, xs, e, .inl f, g, r, n, o⟩
theorem EvRL.w {H0 : Hp} : ∀ {ps : List PV} {vs : List V}, EvRL P H0 F H σ s ps vs → EvWL P H0 F H σ s ps vs
  | [], _, h => h
  | p :: ps, _, ⟨v, r, e, h, hs⟩ => ⟨v, r, e, h.w, EvRL.w hs⟩
theorem sub_upd {a : Addr} {xs : List V} (hF : F1 a = none) : Sub F1 (upd F1 a (.lst xs)) := fun b u e => by
  rw [upd_ne (fun z => by subst z; rw [hF] at e; cases e)]; exact e
/-- what a freezing does to other values -/
theorem EvW.froze {H0 : Hp} {p : PV} {v : V} {a : Addr} {xs : List V} (h : EvW P H0 F1 H1 σ s1 p v) (hF : F1 a = none) (hH : H1 a = some (.lst xs)) (ho : ∀ j b, Own σ s2 j b → Own σ s1 j b) : EvW P H0 (upd F1 a (.lst xs)) H1 σ s2 p v := by
  cases p with
  | fz d => exact Rp.mono (sub_upd hF) d h
  | plc i => exact h
  | shl es =>
    obtain ⟨b, ys, e, f, g, r, n, o⟩ := h
    refine ⟨b, ys, e, ?_, g, r.mono (sub_upd hF), n, fun i q => o i (ho i b q)⟩
    by_cases z : b = a
    · subst z
      rw [hH] at g
      cases g
      exact .inr upd_same
    · rw [upd_ne z]; exact f
  | tmp ds =>
    obtain ⟨b, ys, e, f, g, r, n, o⟩ := h
    refine ⟨b, ys, e, ?_, g, RpL.mono (sub_upd hF) ds r, n, fun i q => o i (ho i b q)⟩
    by_cases z : b = a
    · subst z
      rw [hH] at g
      cases g
      exact .inr upd_same
    · rw [upd_ne z]; exact f
theorem EvWL.froze {H0 : Hp} {a : Addr} {xs : List V} (hF : F1 a = none) (hH : H1 a = some (.lst xs)) (ho : ∀ j b, Own σ s2 j b → Own σ s1 j b) : ∀ {ps : List PV} {vs : List V}, EvWL P H0 F1 H1 σ s1 ps vs → EvWL P H0 (upd F1 a (.lst xs)) H1 σ s2 ps vs
  | [], _, h => h
  | p :: ps, _, ⟨v, r, e, h, hs⟩ => ⟨v, r, e, h.froze hF hH ho, EvWL.froze hF hH ho hs⟩
theorem own_set {i : Nat} {d : D} {j : Nat} {b : Addr} (h : Own σ (s1.set i (.fz d)) j b) : Own σ s1 j b := by
  obtain ⟨h1, es, h2⟩ := h
  refine ⟨h1, es, ?_⟩
  by_cases z : j = i
  · subst z
    by_cases hl : j < s1.length
    · rw [List.getElem?_set_self hl] at h2
      rcases h2 with h2 | h2 | h2 <;> cases h2
    · rw [List.getElem?_eq_none (by simpa using Nat.le_of_not_lt hl)] at h2
      rcases h2 with h2 | h2 | h2 <;> cases h2
  · rwa [List.getElem?_set_ne (Ne.symm z)] at h2
/-- one freezing, with what it does to others -/
theorem frz0_ok (st : Step P σ F H s σ F1 H1 s1) {p : PV} {v : V} {d : D} (ev : EvW P H F1 H1 σ s1 p v) (e : frz0 s1 p = some (d, s2)) :
    ∃ F2, Step P σ F H s σ F2 H1 s2 ∧ Rp P F2 d v ∧ Sub F1 F2 ∧ ∀ ps vs, EvWL P H F1 H1 σ s1 ps vs → EvWL P H F2 H1 σ s2 ps vs := by
  cases p with
  | fz d' =>
    simp [frz0] at e
    obtain ⟨rfl, rfl⟩ := e
    exact ⟨F1, st, ev, fun _ _ h => h, fun _ _ h => h⟩
  | tmp ds =>
    simp [frz0] at e
    obtain ⟨rfl, rfl⟩ := e
    obtain ⟨a, xs, rfl, f, g, r, n, o⟩ := ev
    rcases f with f | f
    · obtain ⟨x, y, z⟩ := st.freeze f g r (.inl n) (.inl ⟨rfl, o⟩)
      exact ⟨_, x, y, z, fun ps vs h => EvWL.froze f g (fun _ _ q => q) h⟩
    · exact ⟨F1, st, ⟨a, xs, rfl, f, r⟩, fun _ _ h => h, fun _ _ h => h⟩
  | shl es => simp [frz0] at e
  | plc i =>
    simp only [frz0] at e
    have hv : σ[i]? = some (some v) := ev
    cases h : s1[i]? with
    | none => rw [h] at e; cases e
    | some sl =>
      rw [h] at e
      have q := st.str.slot i _ _ hv h
      cases sl <;> simp at e
      · obtain ⟨rfl, rfl⟩ := e
        exact ⟨F1, st, q, fun _ _ h => h, fun _ _ h => h⟩
      · obtain ⟨rfl, rfl⟩ := e
        rename_i ds
        obtain ⟨a, xs, rfl, f, g, r⟩ := q
        have hfp : H a = none ∨ FP σ s a := by
          rcases st.np a ⟨i, hv, ds, .inl h⟩ with z | z
          · exact .inr z
          · exact .inl z
        obtain ⟨x, y, z⟩ := st.freeze f g r hfp (.inr ⟨i, h, hv, rfl⟩)
        exact ⟨_, x, y, z, fun ps vs h => EvWL.froze f g (fun _ _ q => own_set q) h⟩
theorem frzE_ok : ∀ {es : List El} {vs : List V} {ds : List D} {F1 : Hp} {s1 s2 : Sts}, Step P σ F H s σ F1 H1 s1 → ElL P F1 σ es vs → frzE s1 es = some (ds, s2) →
    ∃ F2, Step P σ F H s σ F2 H1 s2 ∧ RpL P F2 ds vs ∧ Sub F1 F2 ∧ ∀ ps vs, EvWL P H F1 H1 σ s1 ps vs → EvWL P H F2 H1 σ s2 ps vs
  | [], vs, ds, F1, s1, s2, st, ev, e => by
    simp [frzE] at e
    obtain ⟨rfl, rfl⟩ := e
    exact ⟨F1, st, ev, fun _ _ h => h, fun _ _ h => h⟩
  | .d x :: es, vs, ds, F1, s1, s2, st, ev, e => by
    simp only [frzE] at e
    obtain ⟨v, r, rfl, h, hs⟩ := ev
    cases h2 : frzE s1 es with
    | none => rw [h2] at e; cases e
    | some y =>
      obtain ⟨es', s4⟩ := y
      rw [h2] at e
      simp at e
      obtain ⟨rfl, rfl⟩ := e
      obtain ⟨F4, st4, hds, sub4, hc⟩ := frzE_ok st hs h2
      exact ⟨F4, st4, ⟨v, r, rfl, Rp.mono sub4 x h, hds⟩, sub4, hc⟩
  | .at i :: es, vs, ds, F1, s1, s2, st, ev, e => by
    simp only [frzE] at e
    obtain ⟨v, r, rfl, h, hs⟩ := ev
    cases h1 : frz0 s1 (.plc i) with
    | none => rw [h1] at e; cases e
    | some x =>
      obtain ⟨d, s3⟩ := x
      rw [h1] at e
      simp only at e
      cases h2 : frzE s3 es with
      | none => rw [h2] at e; cases e
      | some y =>
        obtain ⟨es', s4⟩ := y
        rw [h2] at e
        simp at e
        obtain ⟨rfl, rfl⟩ := e
        obtain ⟨F3, st3, hd, sub3, hc⟩ := frz0_ok st (show EvW P H F1 H1 σ s1 (.plc i) v from h) h1
        obtain ⟨F4, st4, hds, sub4, hc4⟩ := frzE_ok st3 (hs.mono sub3) h2
        exact ⟨F4, st4, ⟨v, r, rfl, Rp.mono sub4 d hd, hds⟩, fun a o q => sub4 a o (sub3 a o q), fun ps vs q => hc4 ps vs (hc ps vs q)⟩
theorem frz_ok (st : Step P σ F H s σ F1 H1 s1) {p : PV} {v : V} {d : D} (ev : EvW P H F1 H1 σ s1 p v) (e : frz s1 p = some (d, s2)) :
    ∃ F2, Step P σ F H s σ F2 H1 s2 ∧ Rp P F2 d v ∧ Sub F1 F2 ∧ ∀ ps vs, EvWL P H F1 H1 σ s1 ps vs → EvWL P H F2 H1 σ s2 ps vs := by
  cases p with
  | fz d' => exact frz0_ok st ev e
  | tmp ds => exact frz0_ok st ev e
  | plc i => exact frz0_ok st ev e
  | shl els =>
    simp only [frz] at e
    cases h2 : frzE s1 els with
    | none => rw [h2] at e; cases e
    | some y =>
      obtain ⟨ds, s4⟩ := y
      rw [h2] at e
      simp at e
      obtain ⟨rfl, rfl⟩ := e
      have ev0 := ev
      obtain ⟨a, xs, rfl, f, g, r, n, o⟩ := ev
      obtain ⟨F4, st4, hds, sub4, hc4⟩ := frzE_ok st r h2
      have := hc4 [.shl els] [.ref a] ⟨_, _, rfl, ev0, rfl⟩
      obtain ⟨v, r', e1, ⟨a', xs', e2, f', g', rr, n', o'⟩, _⟩ := this
      cases e1
      cases e2
      rw [g] at g'
      cases g'
      rcases f' with f' | f'
      · obtain ⟨x, y, z⟩ := st4.freeze f' g hds (.inl n) (.inl ⟨rfl, o'⟩)
        exact ⟨_, x, y, fun a o q => z a o (sub4 a o q), fun ps vs h => EvWL.froze f' g (fun _ _ q => q) (hc4 ps vs h)⟩
      · exact ⟨F4, st4, ⟨a, xs, rfl, f', hds⟩, sub4, hc4⟩
theorem frzL_ok : ∀ {ps : List PV} {vs : List V} {ds : List D} {F1 : Hp} {s1 s2 : Sts}, Step P σ F H s σ F1 H1 s1 → EvWL P H F1 H1 σ s1 ps vs → frzL s1 ps = some (ds, s2) →
    ∃ F2, Step P σ F H s σ F2 H1 s2 ∧ RpL P F2 ds vs ∧ Sub F1 F2
  | [], vs, ds, F1, s1, s2, st, ev, e => by
    simp [frzL] at e
    obtain ⟨rfl, rfl⟩ := e
    exact ⟨F1, st, ev, fun _ _ h => h⟩
  | p :: ps, vs, ds, F1, s1, s2, st, ev, e => by
    simp only [frzL] at e
    obtain ⟨v, r, rfl, h, hs⟩ := ev
    cases h1 : frz s1 p with
    | none => rw [h1] at e; cases e
    | some x =>
      obtain ⟨d, s3⟩ := x
      rw [h1] at e
      simp only at e
      cases h2 : frzL s3 ps with
      | none => rw [h2] at e; cases e
      | some y =>
        obtain ⟨es, s4⟩ := y
        rw [h2] at e
        simp at e
        obtain ⟨rfl, rfl⟩ := e
        obtain ⟨F3, st3, hd, sub3, hc⟩ := frz_ok st h h1
        obtain ⟨F4, st4, hds, sub4⟩ := frzL_ok st3 (hc _ _ hs) h2
        exact ⟨F4, st4, ⟨v, r, rfl, Rp.mono sub4 d hd, hds⟩, fun a o q => sub4 a o (sub3 a o q)⟩
end
section
variable {P : Par} {W : WX} {X : Cx} {pos : Pos} {a b c : Expr} {ca cb cc : Sts → Rs PV}
def tupC (ces : Sts → Rs (List PV)) (s : Sts) : Rs PV := (ces s).bind fun ps s1 => match frzL s1 ps with
    | some (ds, s2) => if ds.length ≤ sizeLine then .ok (.fz (.tup ds)) s2 else .no
    | none => .no
def lstC (ces : Sts → Rs (List PV)) (s : Sts) : Rs PV := (ces s).bind fun ps s1 => match frzL s1 ps with
    | some (ds, s2) => if ds.length ≤ sizeLine then .ok (.tmp ds) s2 else .no
    | none => .no
theorem se_tup {es : List Expr} {k : Nat} {ces : Sts → Rs (List PV)} (h : SA P W X es ces) : SE P W X (.Tuple es k pos) (tupC ces) := by
  refine PE.weak (pe_tup h) ?_
  rintro σ H Q ⟨F, s, str, g⟩
  refine ⟨F, s, str, GP.bind g fun ps s1 e1 g1 vs F1 H1 st evs => ?_⟩
  cases h1 : frzL s1 ps with
  | none => rw [h1] at g1; exact g1.elim
  | some y =>
    obtain ⟨ds, s2⟩ := y
    rw [h1] at g1
    simp only at g1
    obtain ⟨F2, st2, hds, _⟩ := frzL_ok st evs.w h1
    split at g1
    · rename_i hz
      exact ⟨by rw [← hds.length]; exact hz, fun p hp => GP.ok (R := RE P σ) g1 (st2.newF hp) (st2.newT hp hds)⟩
    · exact g1.elim
theorem se_lst {es : List Expr} {ces : Sts → Rs (List PV)} (h : SA P W X es ces) : SE P W X (.List es pos) (lstC ces) := by
  refine PE.weak (pe_lst h) ?_
  rintro σ H Q ⟨F, s, str, g⟩
  refine ⟨F, s, str, GP.bind g fun ps s1 e1 g1 vs F1 H1 st evs => ?_⟩
  cases h1 : frzL s1 ps with
  | none => rw [h1] at g1; exact g1.elim
  | some y =>
    obtain ⟨ds, s2⟩ := y
    rw [h1] at g1
    simp only at g1
    obtain ⟨F2, st2, hds, _⟩ := frzL_ok st evs.w h1
    split at g1
    · rename_i hz
      exact ⟨by rw [← hds.length]; exact hz, fun p hp => GP.ok (R := RE P σ) g1 (st2.new hp) (st2.newL hp hds)⟩
    · exact g1.elim
def shlC (ces : Sts → Rs (List PV)) (s : Sts) : Rs PV := (ces s).bind fun ps s1 => if ps.any isPlc then (match shlL s1 ps with
      | some (els, s2) => if els.length ≤ sizeLine then .ok (.shl els) s2 else .no
      | none => .no)
    else match frzL s1 ps with
    | some (ds, s2) => if ds.length ≤ sizeLine then .ok (.tmp ds) s2 else .no
    | none => .no
theorem shlL_ok {σ : St} {F H H1 : Hp} {s : Sts} : ∀ {ps : List PV} {vs : List V} {es : List El} {F1 : Hp} {s1 s2 : Sts}, Step P σ F H s σ F1 H1 s1 → EvWL P H F1 H1 σ s1 ps vs → shlL s1 ps = some (es, s2) →
    ∃ F2, Step P σ F H s σ F2 H1 s2 ∧ ElL P F2 σ es vs ∧ Sub F1 F2
  | [], vs, ds, F1, s1, s2, st, ev, e => by
    simp [shlL] at e
    obtain ⟨rfl, rfl⟩ := e
    exact ⟨F1, st, ev, fun _ _ h => h⟩
  | p :: ps, vs, es, F1, s1, s2, st, ev, e => by
    obtain ⟨v, r, rfl, h, hs⟩ := ev
    have hgen : ∀ (e : (match frz s1 p with
        | some (d, s1) => match shlL s1 ps with
          | some (es, s2) => some (El.d d :: es, s2)
          | none => none
        | none => none) = some (es, s2)), ∃ F2, Step P σ F H s σ F2 H1 s2 ∧ ElL P F2 σ es (v :: r) ∧ Sub F1 F2 := by
      intro e
      cases h1 : frz s1 p with
      | none => rw [h1] at e; cases e
      | some x =>
        obtain ⟨d, s3⟩ := x
        rw [h1] at e
        simp only at e
        cases h2 : shlL s3 ps with
        | none => rw [h2] at e; cases e
        | some y =>
          obtain ⟨es', s4⟩ := y
          rw [h2] at e
          simp at e
          obtain ⟨rfl, rfl⟩ := e
          obtain ⟨F3, st3, hd, sub3, hc⟩ := frz_ok st h h1
          obtain ⟨F4, st4, hds, sub4⟩ := shlL_ok st3 (hc _ _ hs) h2
          exact ⟨F4, st4, ⟨v, r, rfl, Rp.mono sub4 d hd, hds⟩, fun a o q => sub4 a o (sub3 a o q)⟩
    cases p with
    | plc i =>
      simp only [shlL] at e
      cases h2 : shlL s1 ps with
      | none => rw [h2] at e; cases e
      | some y =>
        obtain ⟨es', s4⟩ := y
        rw [h2] at e
        simp at e
        obtain ⟨rfl, rfl⟩ := e
        obtain ⟨F4, st4, hds, sub4⟩ := shlL_ok st hs h2
        exact ⟨F4, st4, ⟨v, r, rfl, h, hds⟩, sub4⟩
    | fz d => exact hgen e
    | tmp d => exact hgen e
    | shl d => exact hgen e
theorem se_shl {es : List Expr} {ces : Sts → Rs (List PV)} (h : SA P W X es ces) : SE P W X (.List es pos) (shlC ces) := by
  refine PE.weak (pe_lst h) ?_
  rintro σ H Q ⟨F, s, str, g⟩
  refine ⟨F, s, str, GP.bind g fun ps s1 e1 g1 vs F1 H1 st evs => ?_⟩
  split at g1
  · cases h1 : shlL s1 ps with
    | none => rw [h1] at g1; exact g1.elim
    | some y =>
      obtain ⟨ds, s2⟩ := y
      rw [h1] at g1
      simp only at g1
      obtain ⟨F2, st2, hds, _⟩ := shlL_ok st evs.w h1
      split at g1
      · rename_i hz
        refine ⟨by rw [← hds.length]; exact hz, fun p hp => GP.ok (R := RE P σ) g1 (st2.new hp) ?_⟩
        obtain ⟨h1, h2, h3⟩ := st2.fresh hp
        exact ⟨p, vs, rfl, h1, upd_same, hds, h2, h3⟩
      · exact g1.elim
  · cases h1 : frzL s1 ps with
    | none => rw [h1] at g1; exact g1.elim
    | some y =>
      obtain ⟨ds, s2⟩ := y
      rw [h1] at g1
      simp only at g1
      obtain ⟨F2, st2, hds, _⟩ := frzL_ok st evs.w h1
      split at g1
      · rename_i hz
        exact ⟨by rw [← hds.length]; exact hz, fun p hp => GP.ok (R := RE P σ) g1 (st2.new hp) (st2.newL hp hds)⟩
      · exact g1.elim
/-! subscripts -/
def subC (ca cb : Sts → Rs PV) (s : Sts) : Rs PV := (ca s).bind fun p s1 => (cb s1).bind fun q s2 => match view s2 p, view s2 q with
    | some x, some y => (lift (subD x y) s2).bind fun d s3 => .ok (.fz d) s3
    | _, _ => .no
theorem ixD_ixN (n : Nat) (i : Int) : ixD n i = ixN n i := rfl
theorem atI_of {xs : List V} {ds : List D} {F : Hp} {i : Int} {d : D} (r : RpL P F ds xs) (h : (ixD ds.length i).bind (fun j => ds[j]?) = some d) : ∃ v, atI xs i = some v ∧ Rp P F d v := by
  unfold atI
  rw [← r.length, ← ixD_ixN]
  cases q : ixD ds.length i with
  | none => rw [q] at h; cases h
  | some j =>
    rw [q] at h
    exact r.get (show ds[j]? = some d from h)
theorem se_sub (hK : X.K = P.K) (ha : SE P W X a ca) (hb : SE P W X b cb) (hs : PlainIx b) : SE P W X (.Subscript a b pos) (subC ca cb) := by
  refine PE.weak (pe_ix ix_seq ha hb hs) ?_
  rintro σ H Q ⟨F, s, str, g⟩
  refine two str g fun p q v w F2 H2 s2 g2 st ep eq => ?_
  obtain ⟨x, y, hx, hy, g3⟩ := vw2 g2 st.str ep eq
  cases hd : subD x y with
  | none => rw [hd] at g3; exact g3.elim
  | some d =>
    rw [hd] at g3
    have hq : ∀ u, Rp P F2 d u → Q u H2 := fun u r => GP.ok (R := RE P σ) g3 st r
    cases x <;> cases y <;> simp only [subD] at hd <;> first | (cases hd; done) | skip
    · rename_i z i
      split at hd
      · rename_i hz
        refine .inr (.inr ⟨z, i, ?_⟩)
        cases hj : ixD z.cps.toList.length i with
        | none => rw [hj] at hd; cases hd
        | some j =>
          rw [hj] at hd
          simp only [Option.bind_some] at hd
          cases hc : z.cps.toList[j]? with
          | none => rw [hc] at hd; cases hd
          | some c =>
            rw [hc] at hd
            simp only [Option.map_some, Option.some.injEq] at hd
            subst hd
            refine ⟨c, hx.str, hy.int, hz, ?_, hq _ rfl⟩
            unfold atI
            rw [← ixD_ixN, hj]; exact hc
      · cases hd
    · rename_i ds i
      obtain ⟨p, us, rfl, q1, f1, r1⟩ := hx.tup st.str.sub
      obtain ⟨u, h1, h2⟩ := atI_of r1 hd
      exact .inr (.inl ⟨p, us, i, u, rfl, hy.int, hK ▸ q1, h1, hq u h2⟩)
    · rename_i ds i
      have e1 : ∃ a us, v = .ref a ∧ H2 a = some (.lst us) ∧ RpL P F2 ds us := by
        rcases hx with ⟨a, us, e, f, r⟩ | ⟨a, us, ds', e, e2, f, g, r⟩
        · exact ⟨a, us, e, st.str.sub _ _ f, r⟩
        · cases e2; exact ⟨a, us, e, g, r⟩
      obtain ⟨p, us, rfl, q1, r1⟩ := e1
      obtain ⟨u, h1, h2⟩ := atI_of r1 hd
      exact .inl ⟨p, us, i, u, rfl, hy.int, SqL.of q1, h1, hq u h2⟩
    · rename_i ds i
      rcases hx with ⟨a, us, e, q, r⟩ | ⟨a, us, ds', e, e2, f, g, r⟩
      · subst e
        obtain ⟨u, h1, h2⟩ := atI_of r hd
        exact .inl ⟨a, us, i, u, rfl, hy.int, hK ▸ sqL_mono st.str.sub q, h1, hq u h2⟩
      · cases e2
/-! slices -/
def slcC (ca : Sts → Rs PV) (cl ch : Sts → Rs (Option Int)) (s : Sts) : Rs PV := (ca s).bind fun p s1 => (cl s1).bind fun l s2 => (ch s2).bind fun h s3 => match view s3 p with
    | some x => lift (slcD l h x) s3
    | none => .no
theorem so_none : SO P W X none (fun s => .ok none s) := by
  refine PO.weak po_none ?_
  rintro σ H Q ⟨F, s, str, g⟩
  exact GP.ok (R := RO) g (Step.refl str) rfl
theorem so_some (ha : SE P W X a ca) : SO P W X (some a) (fun s => (ca s).bind fun p s1 => match view s1 p with | some (.int i) => .ok (some i) s1 | _ => .no) := by
  refine PO.weak (po_some ha) ?_
  rintro σ H Q ⟨F, s, str, g⟩
  refine ⟨F, s, str, GP.bind g fun p s1 e1 g1 v F1 H1 st ev => ?_⟩
  cases hv : view s1 p with
  | none => rw [hv] at g1; exact g1.elim
  | some d =>
    rw [hv] at g1
    cases d <;> first | exact g1.elim | skip
    rename_i i
    exact ⟨i, (ev.vw st.str hv).int, GP.ok (R := RO) g1 st rfl⟩
theorem sixD_sIx (n d : Nat) (o : Option Int) : sixD n d o = HT.sIx n d o := by cases o <;> rfl
theorem cut_ok {F : Hp} {ds : List D} {xs : List V} (r : RpL P F ds xs) (lo hi : Option Int) : RpL P F (cutD ds lo hi) (cutV xs lo hi) := by
  unfold cutD cutV
  rw [← sixD_sIx, ← sixD_sIx, ← r.length]
  exact (r.drop _).take _
theorem se_slc (hK : X.K = P.K) {lo hi : Option Expr} {cl ch : Sts → Rs (Option Int)} {p2 : Pos} (ha : SE P W X a ca) (hl : SO P W X lo cl) (hh : SO P W X hi ch) : SE P W X (.Subscript a (.Slice lo hi none p2) pos) (slcC ca cl ch) := by
  refine PE.weak (pe_slice (SlR.or sl_tupA sl_list) ha hl hh) ?_
  rintro σ H Q ⟨F, s, str, g⟩
  refine ⟨F, s, str, GP.bind g fun p s1 e1 g1 v F1 H1 st ev => ⟨F1, s1, st.str, ?_⟩⟩
  refine GP.next g1 st fun l s2 e2 g2 l' F2 H2 st2 el => ?_
  cases el
  refine ⟨F2, s2, st2.str, GP.next g2 (st.trans st2) fun h s3 e3 g3 h' F3 H3 st3 eh => ?_⟩
  cases eh
  have st4 := (st.trans st2).trans st3
  have ev4 := (ev.carry st2).carry st3
  cases hv : view s3 p with
  | none => rw [hv] at g3; exact g3.elim
  | some x =>
    rw [hv] at g3
    have hx := ev4.vw st4.str hv
    cases x <;> simp only [slcD] at g3 <;> first | exact g3.elim | skip
    · rename_i ds
      obtain ⟨q, us, rfl, q1, f1, r1⟩ := hx.tup st4.str.sub
      refine .inl ⟨q, us, rfl, hK ▸ q1, fun hw => ?_, fun hw p hp => ?_⟩
      · refine GP.ok (R := RE P σ) g3 st4 ⟨q, us, rfl, f1, ?_⟩
        have : cutD ds l h = ds := by
          unfold cutD
          rw [sixD_sIx, sixD_sIx, r1.length, hw.1, hw.2]
          simp [← r1.length]
        rw [this]; exact r1
      · exact GP.ok (R := RE P σ) g3 (st4.newF hp) (st4.newT hp (cut_ok r1 l h))
    · rename_i ds
      have e1 : ∃ a us, v = .ref a ∧ H3 a = some (.lst us) ∧ RpL P F3 ds us := by
        rcases hx with ⟨a, us, e, f, r⟩ | ⟨a, us, ds', e, e2, f, g, r⟩
        · exact ⟨a, us, e, st4.str.sub _ _ f, r⟩
        · cases e2; exact ⟨a, us, e, g, r⟩
      obtain ⟨q, us, rfl, q1, r1⟩ := e1
      exact .inr ⟨q, us, rfl, SqL.of q1, fun p hp => GP.ok (R := RE P σ) g3 (st4.new hp) (st4.newL hp (cut_ok r1 l h))⟩
/-! views of a list of values -/
def VwL (P : Par) (F H : Hp) : List D → List V → Prop
  | [], vs => vs = []
  | d :: ds, vs => ∃ v r, vs = v :: r ∧ Vw P F H d v ∧ VwL P F H ds r
theorem vws {σ : St} {F H H0 : Hp} {s : Sts} (str : StR P F H σ s) : ∀ {ps : List PV} {vs : List V} {ds : List D}, EvRL P H0 F H σ s ps vs → views s ps = some ds → VwL P F H ds vs
  | [], vs, ds, h, e => by simp [views] at e; subst e; exact h
  | p :: ps, vs, ds, ⟨v, r, e1, h, hs⟩, e => by
    simp only [views] at e
    cases h1 : view s p with
    | none => rw [h1] at e; cases e
    | some d =>
      cases h2 : views s ps with
      | none => rw [h1, h2] at e; cases e
      | some es =>
        rw [h1, h2] at e
        cases e
        exact ⟨v, r, e1, h.vw str h1, vws str hs h2⟩
def bltC (b : Bl) (ces : Sts → Rs (List PV)) (s : Sts) : Rs PV := (ces s).bind fun ps s1 => match views s1 ps with
    | some ds => lift (blD b ds) s1
    | none => .no
/-- what is to be shown of a built-in on data -/
def BlD (P : Par) (W : WX) (b : Bl) (r : List V → Hp → VK → Prop) : Prop := ∀ (σ : St) (F H Fb Hb : Hp) (sb s : Sts) (ds : List D) (p : PV) (vs : List V) (Q : VK), Step P σ Fb Hb sb σ F H s → VwL P F H ds vs → blD b ds = some p →
  GP (RE P σ) P W σ Fb Hb sb (.ok p s) Q → r vs H Q
theorem blt_core {b : Bl} {r : List V → Hp → VK → Prop} (hr : BlD P W b r) {ces : Sts → Rs (List PV)} {σ : St} {H : Hp} {Q : VK} (h : tSE P W (bltC b ces) σ H Q) : tCB r (tSA P W ces) σ H Q := by
  obtain ⟨F, s, str, g⟩ := h
  refine ⟨F, s, str, GP.bind g fun ps s1 e1 g1 vs F1 H1 st evs => ?_⟩
  cases h1 : views s1 ps with
  | none => rw [h1] at g1; exact g1.elim
  | some ds =>
    rw [h1] at g1
    cases h2 : blD b ds with
    | none => simp only [h2] at g1; exact g1.elim
    | some p =>
      simp only [h2] at g1
      exact hr σ F1 H1 F H s s1 ds p vs Q st (vws st.str evs h1) h2 g1
/-! each -/
theorem vl1 {F H : Hp} {d : D} {vs : List V} (h : VwL P F H [d] vs) : ∃ v, vs = [v] ∧ Vw P F H d v := by
  obtain ⟨v, r, rfl, h, e⟩ := h
  have e' : r = [] := e
  subst e'; exact ⟨v, rfl, h⟩
theorem vl2 {F H : Hp} {d e : D} {vs : List V} (h : VwL P F H [d, e] vs) : ∃ v w, vs = [v, w] ∧ Vw P F H d v ∧ Vw P F H e w := by
  obtain ⟨v, r, rfl, h, x⟩ := h
  obtain ⟨w, rfl, y⟩ := vl1 x
  exact ⟨v, w, rfl, h, y⟩
theorem Vw.lstF {F H : Hp} {ds : List D} {v : V} (hx : Vw P F H (.lst ds) v) (sub : Sub F H) : ∃ a us, v = .ref a ∧ H a = some (.lst us) ∧ RpL P F ds us := by
  rcases hx with ⟨a, us, e, f, r⟩ | ⟨a, us, ds', e, e2, f, g, r⟩
  · exact ⟨a, us, e, sub _ _ f, r⟩
  · cases e2; exact ⟨a, us, e, g, r⟩
theorem bd_len (hK : X.K = P.K) : BlD P W .len (fun xs H Q => ∃ x n, xs = [x] ∧ LenV X.K x H n ∧ Q (.int n) H) := by
  intro σ F H Fb Hb sb s ds p vs Q st hv e g
  match ds, hv, e with
  | [.str x], hv, e =>
    obtain ⟨v, rfl, h⟩ := vl1 hv
    simp only [blD] at e
    split at e
    · rename_i hz
      cases e
      cases h.str
      exact ⟨_, _, rfl, ⟨hz, rfl⟩, GP.ok (R := RE P σ) g st rfl⟩
    · cases e
  | [.tup xs], hv, e =>
    obtain ⟨v, rfl, h⟩ := vl1 hv
    simp only [blD] at e
    cases e
    obtain ⟨q, us, rfl, q1, f1, r1⟩ := h.tup st.str.sub
    exact ⟨_, _, rfl, .inr ⟨us, hK ▸ q1, rfl⟩, GP.ok (R := RE P σ) g st (by rw [r1.length]; rfl)⟩
  | [.lst xs], hv, e =>
    obtain ⟨v, rfl, h⟩ := vl1 hv
    simp only [blD] at e
    cases e
    obtain ⟨q, us, rfl, q1, r1⟩ := h.lstF st.str.sub
    exact ⟨_, _, rfl, .inl ⟨us, SqL.of q1, rfl⟩, GP.ok (R := RE P σ) g st (by rw [r1.length]; rfl)⟩
  | [.gvn xs], hv, e =>
    obtain ⟨v, rfl, h⟩ := vl1 hv
    simp only [blD] at e
    cases e
    rcases h with ⟨a, us, e, q, r⟩ | ⟨a, us, ds', e, e2, f, g, r⟩
    · subst e
      exact ⟨_, _, rfl, .inl ⟨us, hK ▸ sqL_mono st.str.sub q, rfl⟩, GP.ok (R := RE P σ) g st (by rw [r.length]; rfl)⟩
    · cases e2
  | [], _, e => cases e
  | [.non], _, e => cases e
  | [.bl _], _, e => cases e
  | [.int _], _, e => cases e
  | [.fn _], _, e => cases e
  | [.exc _ _], _, e => cases e
  | _ :: _ :: _, _, e => simp [blD] at e
end
end Z

/-! Z8: list(reversed(xs)), len(set(xs)) and other built-ins, as rules of the layer -/
namespace Z
open PySem PySem.Spec PyProof.Rows L2
section
open PySem.W PySem.Calls PyProof.V
variable {prog : Program} {w : World} {A : Around} {E : Value → Shared → Prop} {s : Shared}
theorem rev_hint {it l : Addr} {i : Int} {Q : Bool → Shared → Prop} (hit : s.heap.IsRevIter it l i) (h : Q false s) : wpAny (model prog w) A (Builtin.List.listLengthHint (.ref it)) Q E s := by
  have hT := hit.typeIs
  unfold Builtin.List.listLengthHint
  refine wpAny_bind (wpAny_specialOf hT RT.nolen_lri ?_)
  show wpAny _ A (specialOf (Value.ref it) (Str.ofString "__length_hint__") >>= _) _ _ _
  refine wpAny_bind (wpAny_specialOf hT RT.hint_lri ?_)
  generalize hid : ("list_reverseiterator.__length_hint__" : String) = id0
  wp_delta
  rw [show splitId id0 = some ("list_reverseiterator", "__length_hint__") from by subst hid; decide +kernel]
  subst hid
  refine wpAny_bind (wpAny_isInstance (b := true) hT (by rw [isSubtype_type]; kernel_rfl) ?_)
  exact wpAny_pure h
theorem list_rev {it l : Addr} {items : Array Value} {Q : Value → Shared → Prop} (hh : A.handled = none) (hit : s.heap.IsRevIter it l ((items.size : Int) - 1)) (hl : s.heap.IsList l items) (hne : l ≠ it) (hn : items.size ≤ sizeLine)
    (hQ : ∀ (h' : Heap) (tk : Nat) (acc : Array Value) (c : Nat), (∀ b o, b ≠ it → s.heap.get? b = some o → h'.get? b = some o) → h'.get? s.heap.objs.size = some { cls := .type "list", dict := none, data := .seq acc c, slots := #[] } → ItemsOf (fun i v => items[items.size - 1 - i]? = some v) acc items.size →
      Q (.ref s.heap.objs.size) { s with heap := h', toks := tk }) : wpAny (model prog w) A (call (.type "list") [.ref it]) Q E s := by
  obtain ⟨oi, hoi, _⟩ := id hit
  obtain ⟨ol, hol, _⟩ := id hl
  refine callType_codes (Q₁ := fun obj s₁ => obj = .ref s.heap.objs.size ∧ s₁ = { s with heap := s.heap.push { cls := .type "list", data := .seq #[] } }) PySem.F.called_list (PySem.F.typeCall_list_1 _) PySem.F.entry_list_init
    (code_list_new _ ⟨rfl, rfl⟩) fun obj s₁ h₁ => ?_
  obtain ⟨rfl, rfl⟩ := h₁
  have hS : (s.heap.push { cls := .type "list", data := .seq #[] }).get? s.heap.objs.size = some { cls := .type "list", data := .seq #[] } := Heap.get?_push_size _ rfl
  have hSi : s.heap.objs.size ≠ it := Nat.ne_of_gt (Heap.lt_size hoi)
  have hSl : s.heap.objs.size ≠ l := Nat.ne_of_gt (Heap.lt_size hol)
  refine ⟨⟨_, hS, rfl⟩, PySem.F.args_list_init_2 _ _, ?_⟩
  have W := (Walks.listRev (prog := prog) (w := w) (A := A.in1.in1) hh it l hne items).toS
  have hSf : s.heap.objs.size ∉ [it, l] := by simp only [List.mem_cons, List.not_mem_nil, or_false, not_or]; exact ⟨hSi, hSl⟩
  show wpAny _ _ (do let old ← Builtin.List.listItems (.ref s.heap.objs.size); Builtin.List.listUpdate (.ref s.heap.objs.size) (fun _ => #[]); letGo old.toList.reverse; Builtin.List.listExtendWith (.ref s.heap.objs.size) (.ref it) .none) _ _ _
  refine wpAny_bind ?_
  unfold Builtin.List.listItems
  refine wpAny_bind (wpAny_seqItems hS rfl (wpAny_pure ?_))
  show wpAny _ _ (updateSeq s.heap.objs.size (fun _ => #[]) >>= fun _ => letGo (#[] : Array Value).toList.reverse >>= fun _ => Builtin.List.listExtendWith (.ref s.heap.objs.size) (.ref it) .none) _ _ _
  refine wpAny_bind (wpAny_updateSeq hS rfl ?_)
  have hS₂ := Heap.get?_update_self (Obj.mapSeq (fun _ => (#[] : Array Value))) hS rfl
  generalize hg2 : (s.heap.push { cls := .type "list", data := .seq #[] }).update s.heap.objs.size (Obj.mapSeq (fun _ => (#[] : Array Value))) = g2 at hS₂
  have oth : ∀ b o, b ≠ s.heap.objs.size → s.heap.get? b = some o → g2.get? b = some o :=
    fun b o hb e => by rw [← hg2]; exact (Heap.get?_update_other _ _ (Ne.symm hb)).trans (Heap.get?_push_of_some _ e)
  refine wpAny_bind (wpAny_letGo ?_)
  have hit2 : g2.IsRevIter it l ((items.size : Int) - 1) := hit.at fun o e => oth it o hSi.symm e
  have hl2 : g2.IsList l items := hl.at fun o e => oth l o hSl.symm e
  have hT : ({ s with heap := g2 } : Shared).TypeIs (.ref it) "list_reverseiterator" := Heap.IsRevIter.typeIs (s := { s with heap := g2 }) hit2
  have h1 : Builtin.List.listSameRef (.ref s.heap.objs.size) (.ref it) = false := by simp [Builtin.List.listSameRef, hSi]
  unfold Builtin.List.listExtendWith
  refine wpAny_bind (wpAny_typeOf hT ?_)
  rw [if_neg (by rw [h1]; decide)]
  refine wpAny_bind (wpAny_pyIter_revIter (s := { s with heap := g2 }) hit2 ?_)
  refine wpAny_bind (wpAny_holding (rev_hint (s := { s with heap := g2 }) hit2 ?_))
  have e0 : ((items.size : Nat) : Int) - 1 - ((0 : Nat) : Int) = (items.size : Int) - 1 := by omega
  have key : ∀ (h : Heap) (c₁ tk : Nat), h.IsRevIter it l ((items.size : Int) - 1) → h.IsList l items → (∀ b o, b ≠ s.heap.objs.size → s.heap.get? b = some o → h.get? b = some o) →
      h.get? s.heap.objs.size = some { cls := .type "list", data := .seq #[] c₁ } → codeAny (model prog w) A.in1 (.builtin "list.extend.loop" ⟨[.ref s.heap.objs.size, .ref it, .none], []⟩) (fun r s' => match r with | .ok (.ret r) => r = .none ∧ Q (.ref s.heap.objs.size) s' | .ok _ => False | .error e => E e s') { s with heap := h, toks := tk } := by
    intro h c₁ tk hi hl hk hS₁
    refine codeAny_extend_loopS W hn _ hSf _ items.size 0 _ #[] c₁ rfl (Nat.zero_le _) ⟨Nat.zero_le _, by rw [e0]; exact hi, hl⟩ hS₁ (ItemsOf.nil _) fun s' acc' c' hm hS' hacc => ?_
    rw [Moved.eq_with hm]
    refine ⟨rfl, hQ s'.heap s'.toks acc' c' (fun b o hb e => hm.heap b o (fun hmem => ?_) (hk b o (Nat.ne_of_lt (Heap.lt_size e)) e)) hS' hacc⟩
    rcases List.mem_cons.mp hmem with e' | hmem
    · exact absurd (Heap.lt_size e) (by rw [e']; exact Nat.lt_irrefl _)
    · exact hb (List.mem_singleton.mp hmem)
  refine wpAny_ite_split (fun _ => ?_) (fun _ => wpAny_pure ⟨plainId_quiet PySem.F.plain_extend_loop _, key _ 0 _ hit2 hl2 oth hS₂⟩)
  refine wpAny_bind (wpAny_rule ?_)
  refine wpAny_bind ?_
  show wpAny _ _ (updateSeq s.heap.objs.size (·.push .none) >>= fun _ => updateSeq s.heap.objs.size (·.pop)) _ _ _
  refine wpAny_bind (wpAny_updateSeq hS₂ rfl ?_)
  have hS₃ := Heap.get?_update_self (Obj.mapSeq (·.push Value.none)) hS₂ rfl
  refine wpAny_updateSeq (hz := by seq_fits) hS₃ rfl ?_
  have hS₄ := Heap.get?_update_self (Obj.mapSeq (·.pop)) hS₃ rfl
  have ot3 : ∀ b o, b ≠ s.heap.objs.size → g2.get? b = some o → ((g2.update s.heap.objs.size (Obj.mapSeq (·.push Value.none))).update s.heap.objs.size (Obj.mapSeq (·.pop))).get? b = some o :=
    fun b o hb e => (Heap.get?_update_other _ _ (Ne.symm hb)).trans ((Heap.get?_update_other _ _ (Ne.symm hb)).trans e)
  exact wpAny_pure ⟨plainId_quiet PySem.F.plain_extend_loop _, key _ _ _ (hit2.at fun o e => ot3 it o hSi.symm e) (hl2.at fun o e => ot3 l o hSl.symm e) (fun b o hb e => ot3 b o hb (oth b o hb e)) hS₄⟩
end
/-! the different ones -/
theorem ddS_mem {acc : List Int} {k j : Int} : j ∈ ddS acc k ↔ j ∈ acc ∨ j = k := by
  unfold ddS
  split
  · rename_i h
    obtain ⟨x, hx, e⟩ := List.any_eq_true.mp h
    have : x = k := by simpa using e
    subst this
    exact ⟨.inl, fun h => h.elim id fun e => e ▸ hx⟩
  · simp
theorem ddS_nodup {acc : List Int} {k : Int} (h : acc.Nodup) : (ddS acc k).Nodup := by
  unfold ddS
  split
  · exact h
  · rename_i n
    rw [List.nodup_append]
    refine ⟨h, by simp, fun a ha b hb => ?_⟩
    simp at hb
    subst hb
    intro e; subst e
    exact n (List.any_eq_true.mpr ⟨a, ha, by simp⟩)
theorem dd_go : ∀ (ns acc : List Int), acc.Nodup → (ns.foldl ddS acc).Nodup ∧ ∀ j, j ∈ ns.foldl ddS acc ↔ j ∈ acc ∨ j ∈ ns
  | [], acc, h => ⟨h, fun j => by simp⟩
  | n :: ns, acc, h => by
    obtain ⟨h1, h2⟩ := dd_go ns (ddS acc n) (ddS_nodup h)
    refine ⟨h1, fun j => ?_⟩
    rw [List.foldl_cons, h2, ddS_mem, List.mem_cons]
    constructor
    · rintro ((a | a) | a)
      · exact .inl a
      · exact .inr (.inl a)
      · exact .inr (.inr a)
    · rintro (a | a | a)
      · exact .inl (.inl a)
      · exact .inl (.inr a)
      · exact .inr a
theorem dd_nodup (ns : List Int) : (dd ns).Nodup := (dd_go ns [] List.nodup_nil).1
theorem dd_mem (ns : List Int) (j : Int) : j ∈ dd ns ↔ j ∈ ns := by
  unfold dd
  rw [(dd_go ns [] List.nodup_nil).2 j]; simp
theorem dd_met (ns : List Int) : firstMet (fun i => ns.getD i 0) ns.length = dd ns := by
  unfold firstMet dd
  rw [show (List.range ns.length).map (fun i => ns.getD i 0) = ns from by
    apply List.ext_getElem?
    intro i
    rw [List.getElem?_map]
    by_cases h : i < ns.length
    · rw [List.getElem?_range h, List.getElem?_eq_getElem h]
      simp [List.getD_eq_getElem?_getD, List.getElem?_eq_getElem h]
    · rw [List.getElem?_eq_none (by simpa using h), List.getElem?_eq_none (by simpa using h)]; rfl]
  rfl
theorem dd_count {l : List Int} {ns : List Int} (h : l.Nodup) (m : ∀ j, j ∈ l ↔ j ∈ ns) : l.length = (dd ns).length := by
  have p : l.Perm (dd ns) := (List.perm_ext_iff_of_nodup h (dd_nodup ns)).mpr fun j => by rw [m, dd_mem]
  exact p.length_eq
section
variable {X : Cx}
def tLenSet2 (K : PySem.W.Frag) (ta : TE) : TE := fun σ H Q => ta σ H fun x H1 => ∃ (l : Addr) (ns : List Int), x = .ref l ∧ (SqL K H1 l (ns.map V.int) ∨ SqT K H1 l (ns.map V.int)) ∧ ns.length + 1 < 4096 ∧ Q (.int ((dd ns).length : Nat)) H1
theorem pe_lenSet2 {a : Expr} {ta : TE} {p p2 q pos : Pos} (hg : Gl X "len") (hm : X.mg "len" = none) (hg2 : Gl X "set") (hm2 : X.mg "set" = none) (ha : PE X a ta) (hc : X.calm = true)
    (na : starEach [a] X.env = (false, eval a X.env) :: starEach [] X.env) : PE X (.Call (.Name "len" p) [.Call (.Name "set" p2) [a] [] q] [] pos) (tLenSet2 X.K ta) := by
  refine ⟨fun pins s σ H Q I h => ?_⟩
  refine Call_ (ld_blt I hg hm boot_len ?_)
  refine PyProof.Rows.callWith_builtin1 (PyProof.Rows.args_cons ?_ rfl) rfl rfl
  refine Call_ (ld_blt I hg2 hm2 boot_set ?_)
  refine PyProof.Rows.callWith_type1 (PyProof.Rows.args_cons (thn (ha.run pins s σ H _ I h) fun v s1 ⟨x, H1, I1, r1, q1⟩ => PyProof.Rows.args_nil ?_) na) na rfl
  obtain ⟨l, ns, rfl, hq, hl, q1⟩ := q1
  cases r1
  rcases hq with hq | hq
  · obtain ⟨its, r, pl, hz⟩ := I1.list hq
    have hlen : its.toArray.size = ns.length := by rw [List.size_toArray, ← r.length, List.length_map]
    refine call_set_list (I1.ok.hd hc) pl.isList (by simpa using r.ints) (by rw [hlen]; exact hl) fun h' tk hS hk => ?_
    refine PyProof.Rows.args_nil ?_
    rw [hlen, dd_met] at hS
    obtain ⟨o, es, ep, t, ho, hex, hd, _, _, _, hf, hn⟩ := hS
    have I2 : Inv X pins σ H1 { s1 with heap := h', toks := tk } := I1.kept fun b o e => hk b o (Heap.lt_size e) e
    have hle : (dd ns).length ≤ ns.length := by rw [← dd_met]; exact firstMet_length_le _ _
    exact call_len_set ho hex hd hf (by rw [hn]; omega) ⟨.int (dd ns).length, H1, I2.tok _, ⟨_, by rw [hn]⟩, q1⟩
  · obtain ⟨its, r, pl, hz⟩ := I1.tuple hq
    refine call_set_tupI ns (I1.ok.hd hc) pl (by simpa using r.ints) hl fun h' tk c hS hcl hk => ?_
    refine PyProof.Rows.args_nil ?_
    obtain ⟨o, es, ep, t, ho, hex, hd, _, hnd, hmem, hsc, hf, hn, _⟩ := hS
    have I2 : Inv X pins σ H1 { s1 with heap := h', toks := tk } := I1.kept hk
    have hcount : es.size = (dd ns).length := by
      have := dd_count hnd (ns := ns) fun j => by rw [← hmem j]; simp
      rw [← this]; simp
    exact call_len_set ho hex hd hf (by rw [hn]; omega) ⟨.int (dd ns).length, H1, I2.tok _, ⟨_, by rw [hcount]⟩, q1⟩
def tListRev (K : PySem.W.Frag) (te : TE) : TE := fun σ H Q => te σ H fun v H1 => ∃ (a : Addr) (xs : List V), v = .ref a ∧ SqL K H1 a xs ∧ ∀ q, H1 q = none → Q (.ref q) (upd H1 q (.lst xs.reverse))
theorem pe_listRev {e : Expr} {te : TE} {p p2 pos pos2 : Pos} (hc : X.calm = true) (hg : Gl X "list") (hm : X.mg "list" = none) (hg2 : Gl X "reversed") (hm2 : X.mg "reversed" = none) (he : PE X e te)
    (hs : starEach [e] X.env = (false, eval e X.env) :: starEach [] X.env) :
    PE X (.Call (.Name "list" p) [.Call (.Name "reversed" p2) [e] [] pos2] [] pos) (tListRev X.K te) := by
  have hs2 : starEach [.Call (.Name "reversed" p2) [e] [] pos2] X.env = (false, eval (.Call (.Name "reversed" p2) [e] [] pos2) X.env) :: starEach [] X.env := rfl
  refine ⟨fun pins s σ H Q I h => ?_⟩
  refine Call_ (ld_blt I hg hm boot_list (PyProof.Rows.callWith_type1 (args_cons (Call_ (ld_blt I hg2 hm2 PyProof.Rows.boot_reversed (PyProof.Rows.callWith_type1 (args_cons (thn (he.run pins s σ H _ I h) fun u s1 ⟨v, H1, I1, r1, q1⟩ => args_nil ?_) hs) hs rfl))) hs2) hs2 rfl))
  obtain ⟨a, xs, ev, hq, q⟩ := q1
  subst ev
  obtain rfl : u = Value.ref a := r1
  obtain ⟨its, rv, p', hz⟩ := I1.list hq
  refine call_reversed_list p'.isList (args_nil ?_)
  have k0 : ∀ b o, s1.heap.get? b = some o → (s1.heap.push (revObj a ((its.toArray.size : Int) - 1))).get? b = some o := fun b o e => Heap.get?_push_of_some _ e
  have I2 : Inv X pins σ H1 { s1 with heap := s1.heap.push (revObj a ((its.toArray.size : Int) - 1)) } := I1.kept (t' := s1.toks) k0
  obtain ⟨f0, f1, f2, f3, f4, f5⟩ := I1.fpOk (H' := H1) (b := s1.heap.objs.size) (Nat.le_refl _) (I1.hok.fresh (Nat.le_refl _))
  have hl := p'.isList
  obtain ⟨ol, hol, _⟩ := id hl
  have hne : a ≠ s1.heap.objs.size := Nat.ne_of_lt (Heap.lt_size hol)
  have hn : its.toArray.size ≤ sizeLine := by rw [List.size_toArray, ← rv.length]; exact hz
  refine list_rev (s := { s1 with heap := s1.heap.push (revObj a ((its.toArray.size : Int) - 1)) }) (I1.ok.hd hc) ⟨_, Heap.get?_push_size _ rfl, rfl, rfl⟩ (hl.push _) hne hn fun h' tk acc c hk hS hi => ?_
  generalize hD : (s1.heap.push (revObj a ((its.toArray.size : Int) - 1))).objs.size = D at hS
  have hDf : H1 D = none := I2.hok.fresh (by rw [hD]; exact Nat.le_refl _)
  -- the iterator has turned, the list is laid
  have k1 : ∀ b o, b ∉ [s1.heap.objs.size] → (s1.heap.push (revObj a ((its.toArray.size : Int) - 1))).get? b = some o → h'.get? b = some o := fun b o hb e => hk b o (fun z => hb (by rw [z]; exact List.mem_cons_self)) e
  have new : ObjOk X.prog X.w (upd H1 D (.lst xs.reverse)) h' D (.lst xs.reverse) := ⟨by rw [List.length_reverse]; exact hz, acc.toList, c, RT.vals_rev rv hi, by rw [Array.toArray_toList]; exact hS⟩
  have I3 : Inv X pins σ (upd H1 D (.lst xs.reverse)) { s1 with heap := h', toks := tk } := I2.turnedNew (t' := tk) (ch := [s1.heap.objs.size]) k1 (fun b hb => by rw [List.mem_singleton.mp hb]; exact ⟨f0, f1, f2, f3, f4, f5⟩) (by rw [hD]; exact Nat.le_refl _) new
  exact ⟨.ref D, _, I3, rfl, q D hDf⟩
/-- sum of a tuple of ints -/
def rSumT (K : PySem.W.Frag) : List V → Hp → VK → Prop := fun vs H Q => ∃ (a : Addr) (ns : List Int), vs = [V.ref a] ∧ SqT K H a (ns.map V.int) ∧ Q (.int ns.sum) H
theorem cr_sumT (hc : X.calm = true) : CallR X (.builtin "sum") (rSumT X.K) := by
  intro pins s σ H vs us Q I r h
  obtain ⟨a, ns, rfl, hs, q⟩ := h
  obtain ⟨its, rv, hl, _⟩ := I.tuple hs
  rw [Vals.ref1 r]
  obtain ⟨xs, hx⟩ := rv.ints.allInts.items
  have hn : numsOf its.toArray.toList = ns := by rw [show its.toArray.toList = its from by simp, rv.ints.numsOf]
  have hl' : s.heap.IsTuple a its.toArray := hl
  rw [hx] at hl' hn
  rw [nums_intItems] at hn
  refine PySem.W.ktm_sumG (I.ok.hd hc) hl' fun h' tk t' hk => ?_
  rw [preSum_eq, List.take_of_length_le (by simp), hn]
  exact ⟨.int _, H, I.kept hk, ⟨_, rfl⟩, q⟩
end
end Z

/-! ZM: the greatest of tuples of ints, tuples of ints sorted -/
namespace Z
open PySem PySem.Spec PyProof.Rows L2
def encR (r : List Int) : PyData := .tuple (r.map .int)
theorem encR_inj {a b : List Int} (h : encR a = encR b) : a = b := by
  unfold encR at h
  injection h with h
  exact (List.map_inj_right (f := PyData.int) (fun x y e => by injection e)).mp h
theorem lt_encR (a b : List Int) : PySem.W.dataLt (encR a) (encR b) = decide (a < b) := by
  unfold encR
  rw [PySem.W.dataLt_tuple]
  exact PySem.W.dataLt_ints a b
theorem maxD_encR : ∀ (rs : List (List Int)) (r : List Int), PySem.W.maxD (encR r) (rs.map encR) = encR (maxR r rs)
  | [], r => rfl
  | y :: rs, r => by
    have ih := maxD_encR rs (if r < y then y else r)
    unfold PySem.W.maxD maxR at *
    simp only [List.map_cons, List.foldl_cons]
    rw [lt_encR]
    by_cases h : r < y
    · simp only [h, decide_true, if_true] at ih ⊢; exact ih
    · simp only [h, decide_false, if_false, Bool.false_eq_true] at ih ⊢; exact ih
def rMaxR (K : PySem.W.Frag) : List V → Hp → VK → Prop := fun vs H Q => ∃ (a : Addr) (us : List V) (r : List Int) (rs : List (List Int)), vs = [.ref a] ∧ SqL K H a us ∧ DpAll K H us ((r :: rs).map encR) ∧
  ∀ (i : Nat) (u : V), us[i]? = some u → (r :: rs)[i]? = some (maxR r rs) → Q u H
theorem alike_R (a b : List Int) : PySem.W.alike (encR a) (encR b) = true := by
  unfold encR
  simp only [PySem.W.alike]
  exact PySem.W.alike_ints a b
theorem depth_R : ∀ rs : List (List Int), PyData.depthAll (rs.map encR) ≤ 1
  | [] => by simp [PyData.depthAll]
  | r :: rs => by
    have := depth_R rs
    have e : (encR r).depth = 1 := by unfold encR; simp [PyData.depth, PySem.W.depth_ints]
    simp only [List.map_cons, PyData.depthAll, e]
    omega
theorem Vals.getB : ∀ {xs : List V} {us : List Value} {i : Nat} {u : Value}, Vals xs us → us[i]? = some u → ∃ x, xs[i]? = some x ∧ RelV x u := by
  intro xs us i u r h
  have hl : i < xs.length := by rw [r.length]; exact (List.getElem?_eq_some_iff.mp h).1
  obtain ⟨u', h1, h2⟩ := Vals.get r (List.getElem?_eq_getElem hl)
  rw [h] at h1
  cases h1
  exact ⟨_, List.getElem?_eq_getElem hl, h2⟩
section
variable {X : Cx}
theorem cr_maxR (hc : X.calm = true) (hu : X.A.units + 65 < cLine) : CallR X (.builtin "max") (rMaxR X.K) := by
  intro pins s σ H vs us' Q I r h
  obtain ⟨a, us, r0, rs, rfl, hs, hd, q⟩ := h
  obtain ⟨its, rv, hl, hz⟩ := I.list hs
  rw [Vals.ref1 r]
  obtain ⟨as, hr⟩ := Dp.readsAll I _ _ _ hd rv
  refine PySem.W.max_list_data (x := encR r0) (xs := rs.map encR) (I.ok.hd hc) hl.isList hr ⟨fun x hx y hy => ?_, fun x hx => ?_⟩ ?_ fun i v h' tk bs hv hrd hk => ?_
  · obtain ⟨a, rfl⟩ : ∃ a, x = encR a := by
      rcases List.mem_cons.mp hx with rfl | hx
      · exact ⟨_, rfl⟩
      · obtain ⟨a, _, rfl⟩ := List.mem_map.mp hx; exact ⟨_, rfl⟩
    obtain ⟨b, rfl⟩ : ∃ a, y = encR a := by
      rcases List.mem_cons.mp hy with rfl | hy
      · exact ⟨_, rfl⟩
      · obtain ⟨a, _, rfl⟩ := List.mem_map.mp hy; exact ⟨_, rfl⟩
    exact alike_R a b
  · rcases List.mem_cons.mp hx with rfl | hx
    · exact nofun
    · obtain ⟨a, _, rfl⟩ := List.mem_map.mp hx; exact nofun
  · have := depth_R (r0 :: rs)
    simp only [List.map_cons] at this
    omega
  · have hv' : its[i]? = some v := by simpa using hv
    obtain ⟨bs', r1, hi, _⟩ := PySem.W.readsAll_at hr i v hv'
    obtain ⟨u, hu', hrel⟩ := Vals.getB rv hv'
    have e1 := (Reads.unique (PySem.W.reads_keeps hk r1) _ _ hrd).1
    rw [maxD_encR] at e1
    have hi' : i < (r0 :: rs).length := by simpa using hi
    have e2 : ((r0 :: rs).map encR).getD i .none = encR ((r0 :: rs)[i]) := by
      rw [List.getD_eq_getElem?_getD, List.getElem?_map, List.getElem?_eq_getElem hi']; rfl
    rw [e2] at e1
    exact ⟨u, H, I.kept hk, hrel, q i u hu' (by rw [List.getElem?_eq_getElem hi', encR_inj e1])⟩
/-! sorted -/
/-- what the items of a list stand for -/
def rSortR (K : PySem.W.Frag) : List V → Hp → VK → Prop := fun vs H Q => ∃ (a : Addr) (us : List V) (rs : List (List Int)), vs = [.ref a] ∧ SqL K H a us ∧ DpAll K H us (rs.map encR) ∧ (∀ r ∈ rs, r ≠ []) ∧ rs.length ≤ sizeLine ∧
  ∀ (us' : List V) (p : Addr), us'.length = rs.length → (∀ (j : Nat) (u : V), us'[j]? = some u → ∃ (i : Nat) (r : List Int), us[i]? = some u ∧ rs[i]? = some r ∧ (sortR rs)[j]? = some r) → H p = none → Q (.ref p) (upd H p (.lst us'))
theorem dataLe_R : PySem.W.dataLe false encR = fun a b => !decide (b < a) := by
  rw [PySem.W.dataLe_eq]
  funext a b
  simp only [cond_false, lt_encR]
theorem each_vals {us : List V} {rs : List (List Int)} : ∀ {out : List Value} {ss : List (List Int)}, PySem.W.EachIs (fun (v : Value) (r : List Int) => ∃ (i : Nat) (u : V), us[i]? = some u ∧ rs[i]? = some r ∧ RelV u v) out ss →
    ∃ us' : List V, Vals us' out ∧ us'.length = ss.length ∧ ∀ (j : Nat) (u : V), us'[j]? = some u → ∃ (i : Nat) (r : List Int), us[i]? = some u ∧ rs[i]? = some r ∧ ss[j]? = some r
  | [], [], .nil => ⟨[], .nil, rfl, by simp⟩
  | v :: out, r :: ss, .cons ⟨i, u, h1, h2, h3⟩ h => by
    obtain ⟨us', v1, l1, k1⟩ := each_vals h
    refine ⟨u :: us', .cons h3 v1, by simp [l1], fun j w hj => ?_⟩
    cases j with
    | zero => simp at hj; subst hj; exact ⟨i, r, h1, h2, rfl⟩
    | succ j => exact k1 j w (by simpa using hj)
theorem each_in {h : Heap} {us : List V} {rs : List (List Int)} {its : List Value} {as : List Addr} (rv : Vals us its) (hr : ReadsAll h its (rs.map encR) as) :
    PySem.W.EachIs (fun (v : Value) (r : List Int) => ∃ (i : Nat) (u : V), us[i]? = some u ∧ rs[i]? = some r ∧ RelV u v) its rs ∧ PySem.W.EachIs (fun v r => ∃ as, Reads h v (encR r) as) its rs := by
  have hl : its.length = rs.length := by
    have := PySem.W.readsAll_len (vs := its.toArray) hr
    simpa using this
  have key : ∀ p, p ∈ its.zip rs → ∃ i : Nat, its[i]? = some p.1 ∧ rs[i]? = some p.2 := by
    intro p hp
    obtain ⟨i, hi⟩ := List.mem_iff_getElem?.mp hp
    rw [List.getElem?_zip_eq_some] at hi
    exact ⟨i, hi.1, hi.2⟩
  refine ⟨PySem.W.EachIs.of_zip hl fun p hp => ?_, PySem.W.EachIs.of_zip hl fun p hp => ?_⟩
  · obtain ⟨i, h1, h2⟩ := key p hp
    obtain ⟨u, h3, h4⟩ := Vals.getB rv h1
    exact ⟨i, u, h3, h2, h4⟩
  · obtain ⟨i, h1, h2⟩ := key p hp
    obtain ⟨bs, r1, _⟩ := PySem.W.readsAll_at hr i _ h1
    have e : (rs.map encR).getD i .none = encR p.2 := by rw [List.getD_eq_getElem?_getD, List.getElem?_map, h2]; rfl
    rw [e] at r1
    exact ⟨bs, r1⟩
theorem cr_sortR (hu : X.A.units + 65 < cLine) : CallR X (.builtin "sorted") (rSortR X.K) := by
  intro pins s σ H vs us0 Q I r h
  obtain ⟨a, us, rs, rfl, hs, hd, hne, hle, q⟩ := h
  obtain ⟨its, rv, hl, hz⟩ := I.list hs
  rw [Vals.ref1 r]
  obtain ⟨as, hr⟩ := Dp.readsAll I _ _ _ hd rv
  obtain ⟨e1, e2⟩ := each_in rv hr
  refine PySem.W.sorted_data hl.isList e1 e2 (fun d hd d' hd' => ?_) (Or.inl fun d hd => ?_) hle (fun b hb => ?_) fun out ho eo => ?_
  · obtain ⟨a, _, rfl⟩ := List.mem_map.mp hd
    obtain ⟨b, _, rfl⟩ := List.mem_map.mp hd'
    exact alike_R a b
  · obtain ⟨a, ha, rfl⟩ := List.mem_map.mp hd
    cases a with
    | nil => exact absurd rfl (hne _ ha)
    | cons x r => exact ⟨.int x, r.map .int, rfl⟩
  · have e : (encR b).depth = 1 := by unfold encR; simp [PyData.depth, PySem.W.depth_ints]
    rw [e]; omega
  · rw [dataLe_R] at eo
    obtain ⟨us', v1, l1, k1⟩ := each_vals eo
    have l2 : us'.length = rs.length := by rw [l1]; exact List.length_mergeSort _
    obtain ⟨ep, he'⟩ := PyProof.Rows.sortedAll_at s.heap its out.toArray
    exact ⟨.ref _, upd H (s.heap.objs.size + 1) (.lst us'), I.laid (t' := s.toks) (fun _ _ => PyProof.Rows.sortedAll_old) (Nat.le_succ _) ⟨by rw [l2]; exact hle, out, ep, v1, he'⟩, rfl, q _ _ l2 k1 (I.hok.fresh (Nat.le_succ _))⟩
/-! as data -/
variable {P : Par}
theorem pdL_ints : ∀ r : List Int, D.pdL (r.map .int) = r.map .int
  | [] => by simp [D.pdL]
  | a :: l => by simp only [List.map_cons, D.pdL, D.pd, pdL_ints l]
theorem okL_ints : ∀ r : List Int, D.okL 0 (r.map D.int) = true
  | [] => rfl
  | a :: l => by simp only [List.map_cons, D.okL, D.ok, Bool.true_and]; exact okL_ints l
theorem rows_dp {F H : Hp} (sub : Sub F H) : ∀ (ds : List D) {vs : List V} {rs : List (List Int)}, rowsD ds = some rs → RpL P F ds vs → DpAll P.K H vs (rs.map encR) ∧ ds = rs.map rowT
  | [], vs, rs, e, h => by
    simp only [rowsD, Option.some.injEq] at e
    subst e
    have h' : vs = [] := h
    subst h'
    exact ⟨.nil, rfl⟩
  | d :: ds, vs, rs, e, h => by
    cases d with
    | tup xs =>
      simp only [rowsD] at e
      cases e1 : intsD xs with
      | none => rw [e1] at e; cases e
      | some r =>
        cases e2 : rowsD ds with
        | none => rw [e1, e2] at e; cases e
        | some rs' =>
          rw [e1, e2] at e
          cases e
          obtain ⟨v, vr, rfl, hv, hr⟩ := h
          obtain ⟨h1, h2⟩ := rows_dp sub ds e2 hr
          have ex := intsD_eq e1
          have hd : Dp P.K H v (encR r) := by
            have q := dp_of (P := P) sub 1 (.tup xs) (by rw [ex]; simp only [D.ok]; exact okL_ints r) hv
            have e3 : (D.tup xs).pd = encR r := by
              rw [ex]
              simp only [D.pd, encR]
              rw [pdL_ints]
            rw [e3] at q; exact q
          exact ⟨.cons hd h1, by rw [h2, ex]; rfl⟩
    | _ => simp [rowsD] at e
end
end Z

/-! ZT: sorted of a tuple of ints -/
namespace Z
open PySem PySem.Spec PyProof.Rows L2 SrtO
section
variable {prog : Program} {w : World} {A : Around} {E : Value → Shared → Prop} {s : Shared}
theorem collect_tup {l : Addr} {ws : List Value} {Q : List Value → Shared → Prop} (htup : IsTup s.heap l ws.toArray)
    (h : Q ws { s with heap := (s.heap.push (seqObj "list" #[] 0)).update s.heap.objs.size (Obj.mapSeq (· ++ ws.toArray)) }) (hcount : ws.length ≤ sizeLine) :
    wpAny (model prog w) A (collect (.ref l)) Q E s := by
  obtain ⟨o, hob, hcls, n, hdat⟩ := id htup
  unfold collect
  refine wpAny_bind (wpAny_runValue (codeAny_builtin entry_proto_collect' ?_))
  show wpAny _ _ (do again (.builtin "list.__iadd__" ⟨[← newList [], .ref l], []⟩)) _ _ s
  refine wpAny_bind (wpAny_newList (wpAny_pure ⟨Code.quiet_builtin _ (by decide +kernel), codeAny_builtin entry_list_iadd' ?_⟩))
  show wpAny _ _ (Builtin.List.listExtendWith (.ref s.heap.objs.size) (.ref l) (.ref s.heap.objs.size)) _ _ { s with heap := s.heap.push (seqObj "list" #[] 0) }
  unfold Builtin.List.listExtendWith
  have hq0 : (s.heap.push (seqObj "list" #[] 0)).get? l = some o := Heap.get?_push_of_some _ hob
  refine wpAny_bind (wpAny_typeOf (T := "tuple") ⟨o, hq0, hcls⟩ ?_)
  rw [if_pos (by simp)]
  refine wpAny_bind (listItems_at hq0 hdat ?_)
  refine wpAny_bind (listItems_at (xs := #[]) (n := 0) (Heap.get?_push_size _ rfl) rfl ?_)
  rw [if_neg (by simp)]
  refine wpAny_bind (listUpdate_at (xs := #[]) (n := 0) (Heap.get?_push_size _ rfl) rfl ?_ (Nat.zero_le _) (by show (#[] ++ ws.toArray).size ≤ sizeLine + 1; simp only [Array.size_append, List.size_toArray, List.length_nil]; omega))
  refine wpAny_pure ?_
  show wpAny (model prog w) A (do
      let o ← load s.heap.objs.size
      match o.data with
      | .seq xs _ => pure xs.toList
      | _ => unsupported "internal:collect") Q E { s with heap := (s.heap.push (seqObj "list" #[] 0)).update s.heap.objs.size (Obj.mapSeq (· ++ ws.toArray)) }
  refine wpAny_bind (wpAny_load (get?_update_seq (Heap.get?_push_size _ rfl) _) ?_)
  show wpAny _ _ (pure ((#[] : Array Value) ++ ws.toArray).toList) Q E _
  rw [show ((#[] : Array Value) ++ ws.toArray).toList = ws by simp]
  exact wpAny_pure h
theorem sorted_ordT {l : Addr} {ws : List Value} {ltv : Value → Value → Bool} {Q : Value → Shared → Prop} (O : Swo ltv) (htup : IsTup s.heap l ws.toArray) (hz : ws.length ≤ sizeLine)
    (hS : 2 ≤ ws.length → ∀ (h₁ : Heap) (a : Addr), h₁.get? a = some (seqObj "list" ws.toArray 0) → (∀ b o, s.heap.get? b = some o → b ≠ a ∧ h₁.get? b = some o) → SortableO prog w A.in1.in1 { s with heap := h₁ } a ws ltv)
    (h : ∀ out : List Value, Srtd ltv out → Stb ltv out ws → Q (.ref (s.heap.objs.size + 1)) { s with heap := sortedAll s.heap ws out.toArray }) :
    wpAny (model prog w) A (call (.builtin "sorted") [.ref l]) Q E s := by
  refine Calls.call_function_entry kind_sorted plain_sorted entry_sorted (args_sorted1 _) ?_
  unfold Builtin.«sorted»
  refine wpAny_bind (m := checkCount "sorted" 1 1 _) (wpAny_pure ?_)
  refine wpAny_bind (collect_tup htup ?_ hz)
  refine wpAny_bind (wpAny_newList ?_ hz)
  have hcount : ((s.heap.push (seqObj "list" #[] 0)).update s.heap.objs.size (Obj.mapSeq (· ++ ws.toArray))).objs.size = s.heap.objs.size + 1 := by
    rw [Heap.size_update, size_push']
  have hnew : (((s.heap.push (seqObj "list" #[] 0)).update s.heap.objs.size (Obj.mapSeq (· ++ ws.toArray))).push (seqObj "list" ws.toArray 0)).get? (s.heap.objs.size + 1) = some (seqObj "list" ws.toArray 0) := by
    rw [← hcount]; exact Heap.get?_push_size _ rfl
  have kp : ∀ b o, s.heap.get? b = some o → b ≠ s.heap.objs.size + 1 ∧ (((s.heap.push (seqObj "list" #[] 0)).update s.heap.objs.size (Obj.mapSeq (· ++ ws.toArray))).push (seqObj "list" ws.toArray 0)).get? b = some o := fun b o q => by
    have hlt : b < s.heap.objs.size := Heap.lt_size q
    refine ⟨Nat.ne_of_lt (Nat.lt_succ_of_lt hlt), Heap.get?_push_of_some _ ?_⟩
    rw [Heap.get?_update_ne _ _ _ _ (Nat.ne_of_lt hlt)]
    exact Heap.get?_push_of_some _ q
  show wpAny _ _ _ _ _ { s with heap := ((s.heap.push (seqObj "list" #[] 0)).update s.heap.objs.size (Obj.mapSeq (· ++ ws.toArray))).push (seqObj "list" ws.toArray 0) }
  rw [hcount]
  refine wpAny_bind (wpAny_holding (wpAny_call_entry slot_list_sort ⟨_, hnew, rfl⟩ entry_list_sort (list_sort_ord O hnew hz (fun h2 => hS h2 _ _ hnew kp) fun out hs hb => ⟨_, rfl, ?_⟩) (args_list_sort _)))
  exact wpAny_pure ⟨_, rfl, h out hs hb⟩
end
/-- sorted(t), a tuple of ints -/
def rSortedIT (K : PySem.W.Frag) : List V → Hp → VK → Prop := fun vs H Q => ∃ (a : Addr) (ns : List Int), vs = [V.ref a] ∧ SqT K H a (ns.map V.int) ∧
  ∀ (ns' : List Int) (p : Addr), ns'.Perm ns → ns'.Pairwise (· ≤ ·) → H p = none → Q (.ref p) (upd H p (.lst (ns'.map V.int)))
theorem cr_sortedIT {X : Cx} : CallR X (.builtin "sorted") (rSortedIT X.K) := by
  intro pins s σ H vs us Q I r h
  obtain ⟨a, ns, rfl, hs, q⟩ := h
  obtain ⟨its, rvals, htup, hlong⟩ := I.tuple hs
  rw [Vals.ref1 r]
  have hints := rvals.ints
  refine sorted_ordT SrtO.swo_int htup (by rw [← rvals.length]; exact hlong) (fun h2 h₁ a' _ _ => SrtO.ints_sortable hints h2) fun out h1 h2 => ?_
  obtain ⟨q1, q2, q3⟩ := SrtO.ints_out hints h1 h2
  obtain ⟨epo, hend⟩ := PyProof.Rows.sortedAll_at s.heap its out.toArray
  have hcount : ((out.map SrtO.iv).map V.int).length ≤ sizeLine := by
    rw [List.length_map, q2.length_eq]
    rw [List.length_map] at hlong
    exact hlong
  exact ⟨.ref _, upd H (s.heap.objs.size + 1) (.lst ((out.map SrtO.iv).map V.int)), I.laid (t' := s.toks) (fun _ _ => PyProof.Rows.sortedAll_old) (Nat.le_succ _) ⟨hcount, out, epo, vals_of_ints q1, hend⟩, rfl, q _ _ q2 q3 (I.hok.fresh (Nat.le_succ _))⟩
end Z

/-! Z9: built-ins by data -/
namespace Z
open PySem PySem.Spec PyProof.Rows L2
section
variable {P : Par} {W : WX} {X : Cx} {pos : Pos} {a b c : Expr} {ca cb cc : Sts → Rs PV}
theorem one_of {b : Bl} {ds : List D} {p : PV} (hb : b = .len ∨ b = .abs ∨ b = .int ∨ b = .sum ∨ b = .all ∨ b = .any ∨ b = .list ∨ b = .tuple ∨ b = .revlist ∨ b = .sorted ∨ b = .lenset) (h : blD b ds = some p) : ∃ d, ds = [d] := by
  match ds with
  | [d] => exact ⟨d, rfl⟩
  | [] => rcases hb with rfl | rfl | rfl | rfl | rfl | rfl | rfl | rfl | rfl | rfl | rfl <;> simp [blD] at h
  | _ :: _ :: _ => rcases hb with rfl | rfl | rfl | rfl | rfl | rfl | rfl | rfl | rfl | rfl | rfl <;> simp [blD] at h
theorem bd_abs : BlD P W .abs (fun xs H Q => ∃ i, xs = [.int i] ∧ Q (.int (if i < 0 then -i else i)) H) := by
  intro σ F H Fb Hb sb s ds p vs Q st hv e g
  obtain ⟨d, rfl⟩ := one_of (by simp) e
  obtain ⟨v, rfl, h⟩ := vl1 hv
  cases d <;> simp [blD] at e
  subst e
  cases h.int
  exact ⟨_, rfl, GP.ok (R := RE P σ) g st rfl⟩
theorem bd_int : BlD P W .int (fun xs H Q => (∃ i, xs = [.int i] ∧ Q (.int i) H) ∨ ∃ k, xs = [.bl k] ∧ Q (.int (if k then 1 else 0)) H) := by
  intro σ F H Fb Hb sb s ds p vs Q st hv e g
  obtain ⟨d, rfl⟩ := one_of (by simp) e
  obtain ⟨v, rfl, h⟩ := vl1 hv
  cases d <;> simp only [blD] at e <;> first | (cases e; done) | skip
  · cases e; cases h.bl; exact .inr ⟨_, rfl, GP.ok (R := RE P σ) g st rfl⟩
  · cases e; cases h.int; exact .inl ⟨_, rfl, GP.ok (R := RE P σ) g st rfl⟩
theorem sqL_ints {F H : Hp} {xs : List D} {ns : List Int} {v : V} (h : Vw P F H (.lst xs) v) (sub : Sub F H) (e : intsD xs = some ns) : ∃ a, v = .ref a ∧ H a = some (.lst (ns.map V.int)) := by
  obtain ⟨q, us, rfl, q1, r1⟩ := h.lstF sub
  rw [intsD_eq e] at r1
  rw [r1.ints] at q1
  exact ⟨q, rfl, q1⟩
theorem sqT_ints {F H : Hp} {xs : List D} {ns : List Int} {v : V} (h : Vw P F H (.tup xs) v) (sub : Sub F H) (e : intsD xs = some ns) : ∃ a, v = .ref a ∧ SqT P.K H a (ns.map V.int) := by
  obtain ⟨q, us, rfl, q1, f1, r1⟩ := h.tup sub
  rw [intsD_eq e] at r1
  rw [r1.ints] at q1
  exact ⟨q, rfl, q1⟩
theorem bd_sum : BlD P W .sum (fun xs H Q => rSum P.K xs H Q ∨ rSumT P.K xs H Q) := by
  intro σ F H Fb Hb sb s ds p vs Q st hv e g
  obtain ⟨d, rfl⟩ := one_of (by simp) e
  obtain ⟨v, rfl, h⟩ := vl1 hv
  cases d <;> simp only [blD] at e <;> first | (cases e; done) | skip
  · rename_i xs
    cases hi : intsD xs with
    | none => rw [hi] at e; cases e
    | some ns =>
      rw [hi] at e; cases e
      obtain ⟨q, rfl, q1⟩ := sqT_ints h st.str.sub hi
      exact .inr ⟨q, ns, rfl, q1, GP.ok (R := RE P σ) g st rfl⟩
  · rename_i xs
    cases hi : intsD xs with
    | none => rw [hi] at e; cases e
    | some ns =>
      rw [hi] at e; cases e
      obtain ⟨q, rfl, q1⟩ := sqL_ints h st.str.sub hi
      exact .inl ⟨q, ns, rfl, SqL.of q1, GP.ok (R := RE P σ) g st rfl⟩
theorem cr_sum2 (hc : X.calm = true) (hK : X.K = P.K) : CallR X (.builtin "sum") (fun xs H Q => rSum P.K xs H Q ∨ rSumT P.K xs H Q) := by
  have h := CallR.or (cr_sum hc) (cr_sumT hc)
  rw [hK] at h; exact h
theorem bd_all : BlD P W .all (rAll P.K) := by
  intro σ F H Fb Hb sb s ds p vs Q st hv e g
  obtain ⟨d, rfl⟩ := one_of (by simp) e
  obtain ⟨v, rfl, h⟩ := vl1 hv
  cases d <;> simp only [blD] at e <;> first | (cases e; done) | skip
  rename_i xs
  cases hi : boolsD xs with
  | none => rw [hi] at e; cases e
  | some ns =>
    rw [hi] at e; cases e
    obtain ⟨q, us, rfl, q1, r1⟩ := h.lstF st.str.sub
    rw [boolsD_eq hi] at r1
    rw [r1.bools] at q1
    exact ⟨q, ns, rfl, SqL.of q1, GP.ok (R := RE P σ) g st rfl⟩
theorem bd_any : BlD P W .any (rAny P.K) := by
  intro σ F H Fb Hb sb s ds p vs Q st hv e g
  obtain ⟨d, rfl⟩ := one_of (by simp) e
  obtain ⟨v, rfl, h⟩ := vl1 hv
  cases d <;> simp only [blD] at e <;> first | (cases e; done) | skip
  rename_i xs
  cases hi : boolsD xs with
  | none => rw [hi] at e; cases e
  | some ns =>
    rw [hi] at e; cases e
    obtain ⟨q, us, rfl, q1, r1⟩ := h.lstF st.str.sub
    rw [boolsD_eq hi] at r1
    rw [r1.bools] at q1
    exact ⟨q, ns, rfl, SqL.of q1, GP.ok (R := RE P σ) g st rfl⟩
theorem bd_list : BlD P W .list (fun xs H Q => ∃ p ys, xs = [.ref p] ∧ (SqL P.K H p ys ∨ SqT P.K H p ys) ∧ ∀ l, H l = none → Q (.ref l) (upd H l (.lst ys))) := by
  intro σ F H Fb Hb sb s ds p vs Q st hv e g
  obtain ⟨d, rfl⟩ := one_of (by simp) e
  obtain ⟨v, rfl, h⟩ := vl1 hv
  cases d <;> simp only [blD] at e <;> first | (cases e; done) | skip
  · cases e
    obtain ⟨q, us, rfl, q1, f1, r1⟩ := h.tup st.str.sub
    exact ⟨q, us, rfl, .inr q1, fun l hl => GP.ok (R := RE P σ) g (st.new hl) (st.newL hl r1)⟩
  · cases e
    obtain ⟨q, us, rfl, q1, r1⟩ := h.lstF st.str.sub
    exact ⟨q, us, rfl, .inl (SqL.of q1), fun l hl => GP.ok (R := RE P σ) g (st.new hl) (st.newL hl r1)⟩
theorem bd_tuple : BlD P W .tuple (fun xs H Q => ∃ p ys, xs = [.ref p] ∧ ((SqL P.K H p ys ∧ ∀ l, H l = none → Q (.ref l) (upd H l (.tup ys))) ∨ (SqT P.K H p ys ∧ Q (.ref p) H))) := by
  intro σ F H Fb Hb sb s ds p vs Q st hv e g
  obtain ⟨d, rfl⟩ := one_of (by simp) e
  obtain ⟨v, rfl, h⟩ := vl1 hv
  cases d <;> simp only [blD] at e <;> first | (cases e; done) | skip
  · cases e
    obtain ⟨q, us, rfl, q1, f1, r1⟩ := h.tup st.str.sub
    exact ⟨q, us, rfl, .inr ⟨q1, GP.ok (R := RE P σ) g st ⟨q, us, rfl, f1, r1⟩⟩⟩
  · cases e
    obtain ⟨q, us, rfl, q1, r1⟩ := h.lstF st.str.sub
    exact ⟨q, us, rfl, .inl ⟨SqL.of q1, fun l hl => GP.ok (R := RE P σ) g (st.newF hl) (st.newT hl r1)⟩⟩
theorem two_of {b : Bl} {ds : List D} {p : PV} (hb : b = .max ∨ b = .min) (h : blD b ds = some p) : (∃ d, ds = [d]) ∨ ∃ d e, ds = [d, e] := by
  match ds with
  | [d] => exact .inl ⟨d, rfl⟩
  | [d, e] => exact .inr ⟨d, e, rfl⟩
  | [] => rcases hb with rfl | rfl <;> simp [blD] at h
  | _ :: _ :: _ :: _ => rcases hb with rfl | rfl <;> simp [blD] at h
theorem maxI_mem : ∀ (ns : List Int) (m : Int), maxI m ns ∈ m :: ns ∧ ∀ y ∈ m :: ns, y ≤ maxI m ns
  | [], m => by simp [maxI]
  | n :: ns, m => by
    obtain ⟨h1, h2⟩ := maxI_mem ns (if m < n then n else m)
    simp only [maxI]
    refine ⟨?_, fun y hy => ?_⟩
    · rcases List.mem_cons.mp h1 with h | h
      · rw [h]; split <;> simp
      · exact List.mem_cons_of_mem _ (List.mem_cons_of_mem _ h)
    · have h3 := h2 _ (List.mem_cons_self)
      rcases List.mem_cons.mp hy with rfl | hy
      · split at h3 <;> split <;> omega
      · rcases List.mem_cons.mp hy with rfl | hy
        · split at h3 <;> split <;> omega
        · exact h2 y (List.mem_cons_of_mem _ hy)
theorem minI_mem : ∀ (ns : List Int) (m : Int), minI m ns ∈ m :: ns ∧ ∀ y ∈ m :: ns, minI m ns ≤ y
  | [], m => by simp [minI]
  | n :: ns, m => by
    obtain ⟨h1, h2⟩ := minI_mem ns (if n < m then n else m)
    simp only [minI]
    refine ⟨?_, fun y hy => ?_⟩
    · rcases List.mem_cons.mp h1 with h | h
      · rw [h]; split <;> simp
      · exact List.mem_cons_of_mem _ (List.mem_cons_of_mem _ h)
    · have h3 := h2 _ (List.mem_cons_self)
      rcases List.mem_cons.mp hy with rfl | hy
      · split at h3 <;> split <;> omega
      · rcases List.mem_cons.mp hy with rfl | hy
        · split at h3 <;> split <;> omega
        · exact h2 y (List.mem_cons_of_mem _ hy)
theorem rowsD_get {P : Par} {F : Hp} {ds : List D} {us : List V} {rs : List (List Int)} (hd : ds = rs.map rowT) (h : RpL P F ds us) {i : Nat} {u : V} {r : List Int} (hu : us[i]? = some u) (hr : rs[i]? = some r) : Rp P F (rowT r) u := by
  subst hd
  obtain ⟨u', h1, h2⟩ := h.get (i := i) (d := rowT r) (by rw [List.getElem?_map, hr]; rfl)
  rw [hu] at h1; cases h1; exact h2
theorem bd_max : BlD P W .max (fun xs H Q => ((∃ i j, xs = [.int i, .int j] ∧ Q (.int (if j > i then j else i)) H) ∨ rMax P.K xs H Q) ∨ rMaxR P.K xs H Q) := by
  intro σ F H Fb Hb sb s ds p vs Q st hv e g
  rcases two_of (.inl rfl) e with ⟨d, rfl⟩ | ⟨d, d', rfl⟩
  · obtain ⟨v, rfl, h⟩ := vl1 hv
    cases d <;> simp only [blD] at e <;> first | (cases e; done) | skip
    rename_i xs
    have rows : (match rowsD xs with | some (r :: rs) => some (.fz (rowT (maxR r rs))) | _ => none) = some p → rMaxR P.K [v] H Q := by
      intro e
      cases hr : rowsD xs with
      | none => rw [hr] at e; cases e
      | some rs =>
        cases rs with
        | nil => rw [hr] at e; cases e
        | cons r rs =>
          rw [hr] at e; cases e
          obtain ⟨q, us, rfl, q1, r1⟩ := h.lstF st.str.sub
          obtain ⟨h1, h2⟩ := rows_dp st.str.sub xs hr r1
          exact ⟨q, us, r, rs, rfl, SqL.of q1, h1, fun i u hu hi => GP.ok (R := RE P σ) g st (rowsD_get h2 r1 hu hi)⟩
    cases hi : intsD xs with
    | none => rw [hi] at e; exact .inr (rows e)
    | some ns =>
      cases ns with
      | nil => rw [hi] at e; exact .inr (rows e)
      | cons n ns =>
        left
        rw [hi] at e; cases e
        obtain ⟨q, rfl, q1⟩ := sqL_ints h st.str.sub hi
        obtain ⟨m1, m2⟩ := maxI_mem ns n
        exact .inr ⟨q, _, rfl, SqL.of q1, by simp, fun m h1 h2 => GP.ok (R := RE P σ) g st (by
          have : m = maxI n ns := Int.le_antisymm (m2 m h1) (h2 _ m1)
          rw [this]; rfl)⟩
  · obtain ⟨v, w, rfl, h, h'⟩ := vl2 hv
    cases d <;> cases d' <;> simp only [blD] at e <;> first | (cases e; done) | skip
    cases e; cases h.int; cases h'.int
    exact .inl (.inl ⟨_, _, rfl, GP.ok (R := RE P σ) g st rfl⟩)
theorem bd_min : BlD P W .min (fun xs H Q => (∃ i j, xs = [.int i, .int j] ∧ Q (.int (if j < i then j else i)) H) ∨ rMin P.K xs H Q) := by
  intro σ F H Fb Hb sb s ds p vs Q st hv e g
  rcases two_of (.inr rfl) e with ⟨d, rfl⟩ | ⟨d, d', rfl⟩
  · obtain ⟨v, rfl, h⟩ := vl1 hv
    cases d <;> simp only [blD] at e <;> first | (cases e; done) | skip
    rename_i xs
    cases hi : intsD xs with
    | none => rw [hi] at e; cases e
    | some ns =>
      cases ns with
      | nil => rw [hi] at e; cases e
      | cons n ns =>
        rw [hi] at e; cases e
        obtain ⟨q, rfl, q1⟩ := sqL_ints h st.str.sub hi
        obtain ⟨m1, m2⟩ := minI_mem ns n
        exact .inr ⟨q, _, rfl, SqL.of q1, by simp, fun m h1 h2 => GP.ok (R := RE P σ) g st (by
          have : m = minI n ns := Int.le_antisymm (h2 _ m1) (m2 m h1)
          rw [this]; rfl)⟩
  · obtain ⟨v, w, rfl, h, h'⟩ := vl2 hv
    cases d <;> cases d' <;> simp only [blD] at e <;> first | (cases e; done) | skip
    cases e; cases h.int; cases h'.int
    exact .inl ⟨_, _, rfl, GP.ok (R := RE P σ) g st rfl⟩
/-! a built-in by its name -/
theorem insI_perm (x : Int) : ∀ ns : List Int, (insI x ns).Perm (x :: ns)
  | [] => .refl _
  | n :: ns => by
    unfold insI
    split
    · exact .refl _
    · exact ((insI_perm x ns).cons n).trans (.swap x n ns)
theorem sortI_perm : ∀ ns : List Int, (sortI ns).Perm ns
  | [] => .nil
  | n :: ns => (insI_perm n _).trans ((sortI_perm ns).cons n)
theorem insI_sorted (x : Int) : ∀ ns : List Int, ns.Pairwise (· ≤ ·) → (insI x ns).Pairwise (· ≤ ·)
  | [], _ => by simp [insI]
  | n :: ns, h => by
    unfold insI
    split
    · rename_i hx
      rw [List.pairwise_cons]
      refine ⟨fun y hy => ?_, h⟩
      rcases List.mem_cons.mp hy with rfl | hy
      · exact hx
      · exact Int.le_trans hx ((List.pairwise_cons.mp h).1 y hy)
    · rename_i hx
      obtain ⟨h1, h2⟩ := List.pairwise_cons.mp h
      rw [List.pairwise_cons]
      refine ⟨fun y hy => ?_, insI_sorted x ns h2⟩
      rcases List.mem_cons.mp ((insI_perm x ns).mem_iff.mp hy) with rfl | hy
      · omega
      · exact h1 y hy
theorem sortI_sorted : ∀ ns : List Int, (sortI ns).Pairwise (· ≤ ·)
  | [] => .nil
  | n :: ns => insI_sorted n _ (sortI_sorted ns)
theorem sorted_one : ∀ {l r : List Int}, l.Perm r → l.Pairwise (· ≤ ·) → r.Pairwise (· ≤ ·) → l = r
  | [], r, h, _, _ => h.nil_eq
  | a :: l, [], h, _, _ => by have := h.length_eq; simp at this
  | a :: l, b :: r, h, h1, h2 => by
    obtain ⟨p1, p2⟩ := List.pairwise_cons.mp h1
    obtain ⟨q1, q2⟩ := List.pairwise_cons.mp h2
    have e : a = b := by
      apply Int.le_antisymm
      · rcases List.mem_cons.mp (h.mem_iff.mpr (List.mem_cons_self (a := b))) with e | e
        · omega
        · exact p1 b e
      · rcases List.mem_cons.mp (h.mem_iff.mp (List.mem_cons_self (a := a))) with e | e
        · omega
        · exact q1 a e
    subst e
    rw [sorted_one (List.Perm.cons_inv h) p2 q2]
theorem RpL.ofGet {P : Par} {F : Hp} : ∀ {ds : List D} {us : List V}, ds.length = us.length → (∀ (j : Nat) (d : D) (u : V), ds[j]? = some d → us[j]? = some u → Rp P F d u) → RpL P F ds us
  | [], [], _, _ => rfl
  | d :: ds, u :: us, hl, h => ⟨u, us, rfl, h 0 d u rfl rfl, RpL.ofGet (by simpa using hl) fun j d' u' h1 h2 => h (j + 1) d' u' (by simpa using h1) (by simpa using h2)⟩
  | [], _ :: _, hl, _ => by simp at hl
  | _ :: _, [], hl, _ => by simp at hl
theorem bd_sorted : BlD P W .sorted (fun xs H Q => (rSortedI P.K xs H Q ∨ rSortR P.K xs H Q) ∨ rSortedIT P.K xs H Q) := by
  intro σ F H Fb Hb sb s ds p vs Q st hv e g
  obtain ⟨d, rfl⟩ := one_of (by simp) e
  obtain ⟨v, rfl, h⟩ := vl1 hv
  cases d <;> simp only [blD] at e <;> first | (cases e; done) | skip
  · rename_i xs
    cases hi : intsD xs with
    | none => rw [hi] at e; cases e
    | some ns =>
      rw [hi] at e; cases e
      obtain ⟨q, rfl, q1⟩ := sqT_ints h st.str.sub hi
      refine .inr ⟨q, ns, rfl, q1, fun ns' l hp hs hl => ?_⟩
      have := sorted_one (hp.trans (sortI_perm ns).symm) hs (sortI_sorted ns)
      subst this
      exact GP.ok (R := RE P σ) g (st.new hl) (st.newL hl (RpL.ofInts _))
  left
  rename_i xs
  cases hi : intsD xs with
  | none =>
    right
    rw [hi] at e
    dsimp only at e
    cases hr : rowsD xs with
    | none => rw [hr] at e; cases e
    | some rs =>
      rw [hr] at e
      dsimp only at e
      split at e
      · rename_i hz
        cases e
        obtain ⟨q, us, rfl, q1, r1⟩ := h.lstF st.str.sub
        obtain ⟨h1, h2⟩ := rows_dp st.str.sub xs hr r1
        refine ⟨q, us, rs, rfl, SqL.of q1, h1, fun r hm => ?_, hz.2, fun us' l hlen hk hl => GP.ok (R := RE P σ) g (st.new hl) (st.newL hl ?_)⟩
        · have := List.all_eq_true.mp hz.1 r hm
          intro e; subst e; simp at this
        · refine RpL.ofGet (by simp [hlen, sortR]) fun j d u hd hu => ?_
          obtain ⟨i, r, h3, h4, h5⟩ := hk j u hu
          rw [List.getElem?_map, h5] at hd
          cases hd
          exact rowsD_get h2 r1 h3 h4
      · cases e
  | some ns =>
    left
    rw [hi] at e; cases e
    obtain ⟨q, rfl, q1⟩ := sqL_ints h st.str.sub hi
    refine ⟨q, ns, rfl, SqL.of q1, fun ns' l hp hs hl => ?_⟩
    have := sorted_one (hp.trans (sortI_perm ns).symm) hs (sortI_sorted ns)
    subst this
    exact GP.ok (R := RE P σ) g (st.new hl) (st.newL hl (RpL.ofInts _))
theorem bd_repr : BlD P W .repr (rRepr P.K) := by
  intro σ F H Fb Hb sb s ds p vs Q st hv e g
  obtain ⟨d, rfl⟩ : ∃ d, ds = [d] := by
    match ds with
    | [d] => exact ⟨d, rfl⟩
    | [] => simp [blD] at e
    | _ :: _ :: _ => simp [blD] at e
  obtain ⟨v, rfl, h⟩ := vl1 hv
  simp only [blD, reprD] at e
  split at e
  case isFalse => cases e
  rename_i c
  cases e
  simp only [reprB, Bool.and_eq_true, decide_eq_true_eq, Bool.not_eq_true'] at c
  obtain ⟨⟨⟨⟨c1, c2⟩, c3⟩, c4⟩, c5⟩ := c
  obtain ⟨_, h2⟩ := can_of 60 d c1
  exact ⟨v, d.pd, rfl, dp_of (fun _ _ h => h) 60 d c1 (h.rp st.str.sub), c2, c3, c4, h2, GP.ok (R := RE P σ) g st rfl⟩
theorem blt_name (hgd : X.A.guards = some []) (hu : X.A.units + 65 < cLine) {x : Str} {e : Expr} {es : List Expr} {b : Bl} {ces : Sts → Rs (List PV)} {p : Pos} (hc : X.calm = true ∨ (b ≠ .sum ∧ b ≠ .max ∧ b ≠ .min ∧ b ≠ .all ∧ b ≠ .any)) (hK : X.K = P.K) (hg : Gl X x) (hm : X.mg x = none)
    (hx : (x = "len" ∧ b = .len) ∨ (x = "abs" ∧ b = .abs) ∨ (x = "int" ∧ b = .int) ∨ (x = "sum" ∧ b = .sum) ∨ (x = "max" ∧ b = .max) ∨ (x = "min" ∧ b = .min) ∨ (x = "all" ∧ b = .all) ∨ (x = "any" ∧ b = .any) ∨ (x = "list" ∧ b = .list) ∨ (x = "tuple" ∧ b = .tuple) ∨ (x = "sorted" ∧ b = .sorted) ∨ (x = "repr" ∧ b = .repr))
    (ha : SA P W X (e :: es) ces) (he : starEach (e :: es) X.env = (false, eval e X.env) :: starEach es X.env) (hpl : (backTo pos (starEach es X.env)).any (·.1) = false) :
    SE P W X (.Call (.Name x p) (e :: es) [] pos) (bltC b ces) := by
  rcases hx with ⟨rfl, rfl⟩ | ⟨rfl, rfl⟩ | ⟨rfl, rfl⟩ | ⟨rfl, rfl⟩ | ⟨rfl, rfl⟩ | ⟨rfl, rfl⟩ | ⟨rfl, rfl⟩ | ⟨rfl, rfl⟩ | ⟨rfl, rfl⟩ | ⟨rfl, rfl⟩ | ⟨rfl, rfl⟩ | ⟨rfl, rfl⟩
  · exact PE.weak (pe_callB call_len hg hm boot_len ha (by decide) (by decide) he hpl) fun σ H Q h => blt_core (bd_len hK) h
  · exact PE.weak (pe_callB call_abs hg hm boot_abs ha (by decide) (by decide) he hpl) fun σ H Q h => blt_core bd_abs h
  · exact PE.weak (pe_callTy call_int1 hg hm boot_int ha (by decide) (by decide) he hpl) fun σ H Q h => blt_core bd_int h
  · exact PE.weak (pe_callB (cr_sum2 (hc.elim id fun h => absurd rfl h.1) hK) hg hm boot_sum ha (by decide) (by decide) he hpl) fun σ H Q h => blt_core bd_sum h
  · have h := CallR.or (CallR.or (call_max2 (hc.elim id fun h => absurd rfl h.2.1)) (cr_max (hc.elim id fun h => absurd rfl h.2.1))) (cr_maxR (hc.elim id fun h => absurd rfl h.2.1) hu)
    rw [hK] at h
    exact PE.weak (pe_callB h hg hm boot_max ha (by decide) (by decide) he hpl) fun σ H Q h => blt_core bd_max h
  · have h := CallR.or (call_min2 (hc.elim id fun h => absurd rfl h.2.2.1)) (cr_min (hc.elim id fun h => absurd rfl h.2.2.1))
    rw [hK] at h
    exact PE.weak (pe_callB h hg hm boot_min ha (by decide) (by decide) he hpl) fun σ H Q h => blt_core bd_min h
  · have h := cr_all (hc.elim id fun h => absurd rfl h.2.2.2.1)
    rw [hK] at h
    exact PE.weak (pe_callB h hg hm boot_all ha (by decide) (by decide) he hpl) fun σ H Q h => blt_core bd_all h
  · have h := cr_any (hc.elim id fun h => absurd rfl h.2.2.2.2)
    rw [hK] at h
    exact PE.weak (pe_callB h hg hm boot_any ha (by decide) (by decide) he hpl) fun σ H Q h => blt_core bd_any h
  · have h := @call_list_of X
    rw [hK] at h
    exact PE.weak (pe_callTy h hg hm boot_list ha (by decide) (by decide) he hpl) fun σ H Q h => blt_core bd_list h
  · have h := @call_tuple_of X
    rw [hK] at h
    exact PE.weak (pe_callTy h hg hm boot_tuple ha (by decide) (by decide) he hpl) fun σ H Q h => blt_core bd_tuple h
  · have h := CallR.or (CallR.or (@cr_sortedI X) (cr_sortR hu)) (@cr_sortedIT X)
    rw [hK] at h
    exact PE.weak (pe_callB h hg hm boot_sorted ha (by decide) (by decide) he hpl) fun σ H Q h => blt_core bd_sorted h
  · have h := cr_repr (X := X) hgd hu
    rw [hK] at h
    exact PE.weak (pe_callB h hg hm PyProof.Rows.bootS_repr ha (by decide) (by decide) he hpl) fun σ H Q h => blt_core bd_repr h
/-! one argument's own forms -/
theorem one_arg {b : Bl} {ca : Sts → Rs PV} {σ : St} {H : Hp} {Q : VK} {T : V → Hp → Prop} (h : tSE P W (bltC b fun s => (ca s).bind fun p s1 => (.ok [p] s1)) σ H Q)
    (k : ∀ (F H1 Fb Hb : Hp) (sb s : Sts) (d : D) (p : PV) (v : V), Step P σ Fb Hb sb σ F H1 s → Vw P F H1 d v → blD b [d] = some p → GP (RE P σ) P W σ Fb Hb sb (.ok p s) Q → T v H1) : tSE P W ca σ H T := by
  obtain ⟨F, s, str, g⟩ := h
  unfold bltC at g
  rw [bind_assoc] at g
  refine ⟨F, s, str, GP.bind g fun p s1 e1 g1 v F1 H1 st ev => ?_⟩
  simp only [Rs.bind, views] at g1
  cases hv : view s1 p with
  | none => rw [hv] at g1; exact g1.elim
  | some d =>
    rw [hv] at g1
    simp only at g1
    cases hb : blD b [d] with
    | none => simp only [hb] at g1; exact g1.elim
    | some q =>
      simp only [hb] at g1
      exact k F1 H1 F H s s1 d q v st (ev.vw st.str hv) hb g1
abbrev one (ca : Sts → Rs PV) (s : Sts) : Rs (List PV) := (ca s).bind fun p s1 => (.ok [p] s1)
theorem se_lenset {p p2 q pos : Pos} (hK : X.K = P.K) (hg : Gl X "len") (hm : X.mg "len" = none) (hg2 : Gl X "set") (hm2 : X.mg "set" = none) (hc : X.calm = true) (na : starEach [a] X.env = (false, eval a X.env) :: starEach [] X.env) (ha : SE P W X a ca) :
    SE P W X (.Call (.Name "len" p) [.Call (.Name "set" p2) [a] [] q] [] pos) (bltC .lenset (one ca)) := by
  refine PE.weak (pe_lenSet2 hg hm hg2 hm2 ha hc na) fun σ H Q h => one_arg h fun F H1 Fb Hb sb s d p v st hv e g => ?_
  cases d <;> simp only [blD] at e <;> first | (cases e; done) | skip
  · split at e
    · rename_i xs hz
      cases hi : intsD xs with
      | none => rw [hi] at e; cases e
      | some ns =>
        rw [hi] at e; cases e
        obtain ⟨q, rfl, q1⟩ := sqT_ints hv st.str.sub hi
        refine ⟨q, ns, rfl, .inr (hK ▸ q1), ?_, GP.ok (R := RE P σ) g st rfl⟩
        rw [intsD_eq hi] at hz; simpa using hz
    · cases e
  · split at e
    · rename_i xs hz
      cases hi : intsD xs with
      | none => rw [hi] at e; cases e
      | some ns =>
        rw [hi] at e; cases e
        obtain ⟨q, rfl, q1⟩ := sqL_ints hv st.str.sub hi
        refine ⟨q, ns, rfl, .inl (SqL.of q1), ?_, GP.ok (R := RE P σ) g st rfl⟩
        rw [intsD_eq hi] at hz; simpa using hz
    · cases e
theorem se_revlist {p p2 q pos : Pos} (hg : Gl X "list") (hm : X.mg "list" = none) (hg2 : Gl X "reversed") (hm2 : X.mg "reversed" = none) (hc : X.calm = true) (na : starEach [a] X.env = (false, eval a X.env) :: starEach [] X.env) (ha : SE P W X a ca) :
    SE P W X (.Call (.Name "list" p) [.Call (.Name "reversed" p2) [a] [] q] [] pos) (bltC .revlist (one ca)) := by
  refine PE.weak (pe_listRev hc hg hm hg2 hm2 ha na) fun σ H Q h => one_arg h fun F H1 Fb Hb sb s d p v st hv e g => ?_
  cases d <;> simp only [blD] at e <;> first | (cases e; done) | skip
  cases e
  obtain ⟨q, us, rfl, q1, r1⟩ := hv.lstF st.str.sub
  exact ⟨q, us, rfl, SqL.of q1, fun l hl => GP.ok (R := RE P σ) g (st.new hl) (st.newL hl r1.reverse)⟩
theorem se_revtup {p p2 q pos : Pos} (hg : Gl X "tuple") (hm : X.mg "tuple" = none) (hg2 : Gl X "reversed") (hm2 : X.mg "reversed" = none) (hc : X.calm = true) (na : starEach [a] X.env = (false, eval a X.env) :: starEach [] X.env) (ha : SE P W X a ca) :
    SE P W X (.Call (.Name "tuple" p) [.Call (.Name "reversed" p2) [a] [] q] [] pos) (bltC .revtup (one ca)) := by
  refine PE.weak (pe_tupRev hc hg hm hg2 hm2 ha na) fun σ H Q h => one_arg h fun F H1 Fb Hb sb s d p v st hv e g => ?_
  cases d <;> simp only [blD] at e <;> first | (cases e; done) | skip
  cases e
  obtain ⟨q, us, rfl, q1, r1⟩ := hv.lstF st.str.sub
  exact ⟨q, us, rfl, SqL.of q1, fun l hl => GP.ok (R := RE P σ) g (st.newF hl) (st.newT hl r1.reverse)⟩
theorem se_revA (hK : X.K = P.K) {k : Nat} {p1 p2 p3 pos : Pos} (ha : SE P W X a ca) :
    SE P W X (.Subscript a (.Slice none none (some (.UnaryOp .USub (.Constant (.int 1) k p1) p2)) p3) pos) (bltC .rev (one ca)) := by
  have h := pe_revA (k := k) (p1 := p1) (p2 := p2) (p3 := p3) (pos := pos) ha
  rw [hK] at h
  refine PE.weak h fun σ H Q h => one_arg h fun F H1 Fb Hb sb s d p v st hv e g => ?_
  cases d <;> simp only [blD] at e <;> first | (cases e; done) | skip
  · cases e
    obtain ⟨q, us, rfl, q1, f1, r1⟩ := hv.tup st.str.sub
    exact ⟨q, us, rfl, .inr ⟨q1, fun l hl => GP.ok (R := RE P σ) g (st.newF hl) (st.newT hl r1.reverse)⟩⟩
  · cases e
    obtain ⟨q, us, rfl, q1, r1⟩ := hv.lstF st.str.sub
    exact ⟨q, us, rfl, .inl ⟨SqL.of q1, fun l hl => GP.ok (R := RE P σ) g (st.new hl) (st.newL hl r1.reverse)⟩⟩
/-- {} -/
theorem se_emp {pos : Pos} : SE P W X (.Dict [] [] pos) (bltC .emp fun s => .ok [] s) := by
  refine PE.weak pe_dnewK fun σ H Q h => ?_
  obtain ⟨F, s, str, g⟩ := h
  intro p hp
  exact GP.ok (R := RE P σ) g ((Step.refl str).newF hp) ⟨p, rfl, upd_same⟩
/-! isinstance of plain data and a built-in class -/
theorem se_isi {n : String} {p pos p2 : Pos} {x2 : Str} (hK : X.K = P.K) (hg : Gl X "isinstance") (hm : X.mg "isinstance" = none) (hT : PE X (.Name x2 p2) (tC (.ty n))) (he : starEach (a :: [.Name x2 p2]) X.env = (false, eval a X.env) :: starEach [.Name x2 p2] X.env) (ha : SE P W X a ca) :
    SE P W X (.Call (.Name "isinstance" p) [a, .Name x2 p2] [] pos) (fun s => (ca s).bind fun p s1 => match view s1 p with
    | some d => match [Cls.ty n] with
      | [c] => (lift (isClsOf d c) s1).bind fun b s2 => .ok (.fz (.bl b)) s2
      | _ => .no
    | none => .no) := by
  refine PE.weak (pe_callB call_isi hg hm boot_isinstance (pa_cons ha (pa_cons hT pa_nil) he) (by decide) (by decide) he) ?_
  rintro σ H Q ⟨F, s, str, g⟩
  refine ⟨F, s, str, GP.bind g fun p s1 e1 g1 v F1 H1 st ev => ?_⟩
  cases hv : view s1 p with
  | none => rw [hv] at g1; exact g1.elim
  | some d =>
    rw [hv] at g1
    simp only at g1
    cases hb : isClsOf d (.ty n) with
    | none => simp only [hb] at g1; exact g1.elim
    | some k =>
      simp only [hb] at g1
      have hx := ev.vw st.str hv
      have hk : Q (.bl k) H1 := GP.ok (R := RE P σ) g1 st rfl
      have hn : n ∈ ["int", "bool", "str", "tuple", "list", "dict"] := by
        cases d <;> simp only [isClsOf] at hb <;> first | (cases hb; done) | skip
        all_goals
          split at hb
          · assumption
          · cases hb
      have hty : ∃ t : String, TyX X.K H1 v (.type t) ∧ kitB t n = some k := by
        simp only [List.mem_cons, List.not_mem_nil, or_false] at hn
        cases d <;> simp only [isClsOf] at hb <;> first | (cases hb; done) | skip
        · refine ⟨"NoneType", ?_, ?_⟩
          · cases hx.non; exact .base .non
          · rcases hn with rfl | rfl | rfl | rfl | rfl | rfl <;> simp at hb <;> subst hb <;> decide +kernel
        · refine ⟨"bool", ?_, ?_⟩
          · cases hx.bl; exact .base (.bl _)
          · rcases hn with rfl | rfl | rfl | rfl | rfl | rfl <;> simp at hb <;> subst hb <;> decide +kernel
        · refine ⟨"int", ?_, ?_⟩
          · cases hx.int; exact .base (.int _)
          · rcases hn with rfl | rfl | rfl | rfl | rfl | rfl <;> simp at hb <;> subst hb <;> decide +kernel
        · refine ⟨"str", ?_, ?_⟩
          · cases hx.str; exact .base (.str _)
          · rcases hn with rfl | rfl | rfl | rfl | rfl | rfl <;> simp at hb <;> subst hb <;> decide +kernel
        · refine ⟨"tuple", ?_, ?_⟩
          · obtain ⟨q, us, rfl, q1, f1, r1⟩ := hx.tup st.str.sub
            rcases q1 with (q1 | ⟨o, q1⟩) | ⟨o, _, _, h1, h2, _⟩
            · exact .base (.tup q1)
            · exact .fTuple q1
            · rw [hK]; exact .kTuple h1 h2
          · rcases hn with rfl | rfl | rfl | rfl | rfl | rfl <;> simp at hb <;> subst hb <;> decide +kernel
        · refine ⟨"list", ?_, ?_⟩
          · obtain ⟨q, us, rfl, q1, r1⟩ := hx.lstF st.str.sub
            exact .base (.lst q1)
          · rcases hn with rfl | rfl | rfl | rfl | rfl | rfl <;> simp at hb <;> subst hb <;> decide +kernel
        · refine ⟨"dict", ?_, ?_⟩
          · rcases hx with ⟨q, rfl, q1⟩ | ⟨_, _, _, _, e2, _⟩
            · exact .base (.dK (st.str.sub _ _ q1))
            · cases e2
          · rcases hn with rfl | rfl | rfl | rfl | rfl | rfl <;> simp at hb <;> subst hb <;> decide +kernel
      obtain ⟨t, h1, h2⟩ := hty
      exact ⟨v, .ty n, .type t, .type n, k, rfl, .ty n, h1, kit_ty h2, hk⟩
end
end Z

/-! Z10: storing names, locking, wiping; targets -/
namespace Z
open PySem PySem.Spec PyProof.Rows L2
section
variable {P : Par} {σ σ' : St} {F H F1 H1 F' H' : Hp} {s s1 s' : Sts}
theorem get_set {α : Type} (l : List α) (i j : Nat) (x : α) : (l.set i x)[j]? = if i = j then (if j < l.length then some x else none) else l[j]? := by
  by_cases h : i = j
  · subst h
    rw [if_pos rfl]
    by_cases h : i < l.length
    · rw [if_pos h, List.getElem?_set_self h]
    · rw [if_neg h, List.getElem?_eq_none (by simpa using Nat.le_of_not_lt h)]
  · rw [if_neg h, List.getElem?_set_ne h]
theorem lt_of_get {α : Type} {l : List α} {i : Nat} {x : α} (h : l[i]? = some x) : i < l.length := (List.getElem?_eq_some_iff.mp h).1
theorem free_lt {i : Nat} (h : free s i = true) : i < s.length := by
  unfold free at h
  cases q : s[i]? with
  | none => rw [q] at h; cases h
  | some x => exact lt_of_get q
theorem free_io {i : Nat} {ds : List D} (h : free s i = true) : s[i]? ≠ some (Sl.io ds) ∧ s[i]? ≠ some (Sl.brw ds) := by
  unfold free at h
  constructor <;> intro q <;> rw [q] at h <;> cases h
/-- a name is stored: frozen data -/
theorem Step.setF (pf : P.Free) (st : Step P σ F H s σ' F' H' s') {i : Nat} {d : D} {v : V} (hf : free s' i = true) (r : Rp P F' d v) : Step P σ F H s (σ'.set i (some v)) F' H' (s'.set i (.fz d)) := by
  have hi := free_lt hf
  have hσ : i < σ'.length := by rw [st.str.len]; exact hi
  have gs : ∀ j, (s'.set i (.fz d))[j]? = if i = j then some (Sl.fz d) else s'[j]? := fun j => by
    rw [get_set]; split
    · rename_i e; subst e; rw [if_pos hi]
    · rfl
  have gσ : ∀ j, (σ'.set i (some v))[j]? = if i = j then some (some v) else σ'[j]? := fun j => by
    rw [get_set]; split
    · rename_i e; subst e; rw [if_pos hσ]
    · rfl
  have ho : ∀ j a, Own (σ'.set i (some v)) (s'.set i (.fz d)) j a → Own σ' s' j a := by
    rintro j a ⟨h1, es, h2⟩
    rw [gs] at h2
    rw [gσ] at h1
    by_cases e : i = j
    · rw [if_pos e] at h2; rcases h2 with h2 | h2 | h2 <;> cases h2
    · rw [if_neg e] at h1 h2; exact ⟨h1, es, h2⟩
  have hfp : ∀ a, FP (σ'.set i (some v)) (s'.set i (.fz d)) a → FP σ' s' a := by
    rintro a ⟨j, h1, es, h2⟩
    rw [gs] at h2
    rw [gσ] at h1
    by_cases e : i = j
    · rw [if_pos e] at h2; rcases h2 with h2 | h2 <;> cases h2
    · rw [if_neg e] at h1 h2; exact ⟨j, h1, es, h2⟩
  refine ⟨⟨by rw [List.length_set, List.length_set]; exact st.str.len, st.str.sub, fun j w sl e1 e2 => ?_, fun j k a o1 o2 => st.str.dis j k a (ho j a o1) (ho k a o2), pf _⟩, st.ff, st.hh, st.dm, st.nf, fun a f => st.np a (hfp a f), fun j es e => ?_, fun j es e => ?_, fun j es e => ?_⟩
  · rw [gs] at e2; rw [gσ] at e1
    by_cases e : i = j
    · rw [if_pos e] at e1 e2; cases e1; cases e2; exact r
    · rw [if_neg e] at e1 e2; exact st.str.slot j w sl e1 e2
  · obtain ⟨h1, h2⟩ := st.lk j es e
    have ne : i ≠ j := fun z => by subst z; exact (free_io hf).2 h1
    rw [gs, gσ, if_neg ne, if_neg ne]; exact ⟨h1, h2⟩
  · obtain ⟨⟨es', h1⟩, h2⟩ := st.li j es e
    have ne : i ≠ j := fun z => by subst z; exact (free_io hf).1 h1
    rw [gs, gσ, if_neg ne, if_neg ne]; exact ⟨⟨es', h1⟩, h2⟩
  · rw [gs] at e
    by_cases z : i = j
    · rw [if_pos z] at e; cases e
    · rw [if_neg z] at e; exact st.bk j es e
/-- .. a new list -/
theorem Step.setL (pf : P.Free) (st : Step P σ F H s σ' F' H' s') {i : Nat} {ds : List D} {v : V} (hf : free s' i = true) (r : EvR P H F' H' σ' s' (.tmp ds) v) : Step P σ F H s (σ'.set i (some v)) F' H' (s'.set i (.lst ds)) := by
  obtain ⟨a0, xs, rfl, f0, g0, r0, n0, o0⟩ := r
  have hi := free_lt hf
  have hσ : i < σ'.length := by rw [st.str.len]; exact hi
  have gs : ∀ j, (s'.set i (.lst ds))[j]? = if i = j then some (Sl.lst ds) else s'[j]? := fun j => by
    rw [get_set]; split
    · rename_i e; subst e; rw [if_pos hi]
    · rfl
  have gσ : ∀ j, (σ'.set i (some (V.ref a0)))[j]? = if i = j then some (some (V.ref a0)) else σ'[j]? := fun j => by
    rw [get_set]; split
    · rename_i e; subst e; rw [if_pos hσ]
    · rfl
  have ho : ∀ j a, Own (σ'.set i (some (V.ref a0))) (s'.set i (.lst ds)) j a → (i = j ∧ a = a0) ∨ (i ≠ j ∧ Own σ' s' j a) := by
    rintro j a ⟨h1, es, h2⟩
    rw [gs] at h2
    rw [gσ] at h1
    by_cases e : i = j
    · rw [if_pos e] at h1; cases h1; exact .inl ⟨e, rfl⟩
    · rw [if_neg e] at h1 h2; exact .inr ⟨e, h1, es, h2⟩
  refine ⟨⟨by rw [List.length_set, List.length_set]; exact st.str.len, st.str.sub, fun j w sl e1 e2 => ?_, fun j k a o1 o2 => ?_, pf _⟩, st.ff, st.hh, st.dm, st.nf, fun a f => ?_, fun j es e => ?_, fun j es e => ?_, fun j es e => ?_⟩
  · rw [gs] at e2; rw [gσ] at e1
    by_cases e : i = j
    · rw [if_pos e] at e1 e2; cases e1; cases e2; exact ⟨a0, xs, rfl, f0, g0, r0⟩
    · rw [if_neg e] at e1 e2; exact st.str.slot j w sl e1 e2
  · rcases ho j a o1 with ⟨e1, e2⟩ | ⟨e1, e2⟩ <;> rcases ho k a o2 with ⟨e3, e4⟩ | ⟨e3, e4⟩
    · exact e1.symm.trans e3
    · subst e2; exact absurd e4 (o0 k)
    · subst e4; exact absurd e2 (o0 j)
    · exact st.str.dis j k a e2 e4
  · obtain ⟨j, h1, es, h2⟩ := f
    rw [gs] at h2
    rw [gσ] at h1
    by_cases e : i = j
    · rw [if_pos e] at h1; cases h1; exact .inr n0
    · rw [if_neg e] at h1 h2; exact st.np a ⟨j, h1, es, h2⟩
  · obtain ⟨h1, h2⟩ := st.lk j es e
    have ne : i ≠ j := fun z => by subst z; exact (free_io hf).2 h1
    rw [gs, gσ, if_neg ne, if_neg ne]; exact ⟨h1, h2⟩
  · obtain ⟨⟨es', h1⟩, h2⟩ := st.li j es e
    have ne : i ≠ j := fun z => by subst z; exact (free_io hf).1 h1
    rw [gs, gσ, if_neg ne, if_neg ne]; exact ⟨⟨es', h1⟩, h2⟩
  · rw [gs] at e
    by_cases z : i = j
    · rw [if_pos z] at e; cases e
    · rw [if_neg z] at e; exact st.bk j es e
/-- an object that is nobody's changes -/
theorem Step.poke (st : Step P σ F H s σ' F' H' s') {p : Addr} {o : HO} (h : H p = none) (hF : F' p = none) (hn : ∀ j, ¬ Own σ' s' j p) : Step P σ F H s σ' F' (upd H' p o) s' where
  str := by
    have r := st.str
    refine ⟨r.len, fun a u e => by rw [upd_ne (fun z => by subst z; rw [hF] at e; cases e)]; exact r.sub a u e, fun i v sl e1 e2 => ?_, r.dis, r.z⟩
    have q := r.slot i v sl e1 e2
    have ne : ∀ a ds, v = some (.ref a) → (sl = .lst ds ∨ sl = .io ds ∨ sl = .brw ds) → a ≠ p := by
      rintro a ds rfl hs rfl
      refine hn i ⟨e1, ds, ?_⟩
      rcases hs with rfl | rfl | rfl
      · exact .inl e2
      · exact .inr (.inl e2)
      · exact .inr (.inr e2)
    cases v with
    | none => cases sl <;> exact q
    | some v =>
      cases sl with
      | non => exact q
      | fz d => exact q
      | lst ds => obtain ⟨a, xs, e, f, g, k⟩ := q; subst e; exact ⟨a, xs, rfl, f, by rw [upd_ne (ne a ds rfl (.inl rfl))]; exact g, k⟩
      | io ds => obtain ⟨a, xs, e, f, g, k⟩ := q; subst e; exact ⟨a, xs, rfl, f, by rw [upd_ne (ne a ds rfl (.inr (.inl rfl)))]; exact g, k⟩
      | brw ds => obtain ⟨a, xs, e, f, g, k⟩ := q; subst e; exact ⟨a, xs, rfl, f, by rw [upd_ne (ne a ds rfl (.inr (.inr rfl)))]; exact g, k⟩
  ff := st.ff
  hh := fun a u e n => by
    rw [upd_ne (fun z => by subst z; rw [h] at e; cases e)]; exact st.hh a u e n
  dm := fun a e => by
    by_cases z : a = p
    · subst z; exact h
    · rw [upd_ne z] at e; exact st.dm a e
  nf := st.nf
  np := st.np
  lk := st.lk
  li := st.li
  bk := st.bk
/-- the slot's own list is changed -/
theorem Step.change (st : Step P σ F H s σ' F' H' s') {i : Nat} {a : Addr} {xs : List V} {ds es : List D} (hσ : σ'[i]? = some (some (.ref a))) (r : RpL P F' es xs) (hF : F' a = none)
    {t : Sl} (hs : (s'[i]? = some (.lst ds) ∧ t = .lst es) ∨ (s'[i]? = some (.io ds) ∧ t = .io es)) : Step P σ F H s σ' F' (upd H' a (.lst xs)) (s'.set i t) := by
  have hi : i < s'.length := by rcases hs with ⟨h, _⟩ | ⟨h, _⟩ <;> exact lt_of_get h
  have gs : ∀ j, (s'.set i t)[j]? = if i = j then some t else s'[j]? := fun j => by
    rw [get_set]; split
    · rename_i e; subst e; rw [if_pos hi]
    · rfl
  have own : Own σ' s' i a := by
    rcases hs with ⟨h, _⟩ | ⟨h, _⟩
    · exact ⟨hσ, ds, .inl h⟩
    · exact ⟨hσ, ds, .inr (.inl h)⟩
  have fpa : FP σ' s' a := by
    rcases hs with ⟨h, _⟩ | ⟨h, _⟩
    · exact ⟨i, hσ, ds, .inl h⟩
    · exact ⟨i, hσ, ds, .inr h⟩
  have ho : ∀ j b, Own σ' (s'.set i t) j b → Own σ' s' j b := by
    rintro j b ⟨h1, fs, h2⟩
    rw [gs] at h2
    by_cases e : i = j
    · subst e; rw [hσ] at h1; cases h1; exact own
    · rw [if_neg e] at h2; exact ⟨h1, fs, h2⟩
  have hfp : ∀ b, FP σ' (s'.set i t) b → FP σ' s' b := by
    rintro b ⟨j, h1, fs, h2⟩
    rw [gs] at h2
    by_cases e : i = j
    · subst e; rw [hσ] at h1; cases h1; exact fpa
    · rw [if_neg e] at h2; exact ⟨j, h1, fs, h2⟩
  obtain ⟨_, ys, hHa⟩ := own.out st.str
  refine ⟨⟨by rw [List.length_set]; exact st.str.len, fun b u e => by rw [upd_ne (fun z => by subst z; rw [hF] at e; cases e)]; exact st.str.sub b u e, fun j v sl e1 e2 => ?_, fun j k b o1 o2 => st.str.dis j k b (ho j b o1) (ho k b o2), st.str.z⟩, st.ff, fun b u e n => ?_, fun b e => ?_, st.nf, fun b f => st.np b (hfp b f), fun j fs e => ?_, fun j fs e => ?_, fun j fs e => ?_⟩
  · rw [gs] at e2
    by_cases e : i = j
    · subst e
      rw [if_pos rfl] at e2
      cases e2
      rw [hσ] at e1; cases e1
      rcases hs with ⟨_, rfl⟩ | ⟨_, rfl⟩ <;> exact ⟨a, xs, rfl, hF, upd_same, r⟩
    · rw [if_neg e] at e2
      have q := st.str.slot j v sl e1 e2
      have ne : ∀ b ds', v = some (.ref b) → (sl = .lst ds' ∨ sl = .io ds' ∨ sl = .brw ds') → b ≠ a := by
        rintro b ds' rfl hs' rfl
        refine e (st.str.dis i j b own ⟨e1, ds', ?_⟩)
        rcases hs' with rfl | rfl | rfl
        · exact .inl e2
        · exact .inr (.inl e2)
        · exact .inr (.inr e2)
      cases v with
      | none => cases sl <;> exact q
      | some v =>
        cases sl with
        | non => exact q
        | fz d => exact q
        | lst ds' => obtain ⟨b, ys, e, f, g, k⟩ := q; subst e; exact ⟨b, ys, rfl, f, by rw [upd_ne (ne b ds' rfl (.inl rfl))]; exact g, k⟩
        | io ds' => obtain ⟨b, ys, e, f, g, k⟩ := q; subst e; exact ⟨b, ys, rfl, f, by rw [upd_ne (ne b ds' rfl (.inr (.inl rfl)))]; exact g, k⟩
        | brw ds' => obtain ⟨b, ys, e, f, g, k⟩ := q; subst e; exact ⟨b, ys, rfl, f, by rw [upd_ne (ne b ds' rfl (.inr (.inr rfl)))]; exact g, k⟩
  · rw [upd_ne (fun z => by
      subst z
      rcases st.np b fpa with q | q
      · exact n q
      · rw [e] at q; cases q)]
    exact st.hh b u e n
  · by_cases z : b = a
    · subst z; rw [upd_same] at e; cases e
    · rw [upd_ne z] at e; exact st.dm b e
  · obtain ⟨h1, h2⟩ := st.lk j fs e
    refine ⟨?_, h2⟩
    rw [gs, if_neg (fun z => by subst z; rcases hs with ⟨h, _⟩ | ⟨h, _⟩ <;> rw [h1] at h <;> cases h)]; exact h1
  · obtain ⟨⟨fs', h1⟩, h2⟩ := st.li j fs e
    refine ⟨?_, h2⟩
    rw [gs]
    by_cases z : i = j
    · subst z
      rw [if_pos rfl]
      rcases hs with ⟨h, _⟩ | ⟨_, rfl⟩
      · rw [h1] at h; cases h
      · exact ⟨es, rfl⟩
    · rw [if_neg z]; exact ⟨fs', h1⟩
  · rw [gs] at e
    by_cases z : i = j
    · rw [if_pos z] at e
      rcases hs with ⟨_, rfl⟩ | ⟨_, rfl⟩ <;> cases e
    · rw [if_neg z] at e; exact st.bk j fs e
/-! ### a lock -/
theorem lock_cases (s : Sts) (p : PV) : lock s p = s ∨ ∃ i ds, p = .plc i ∧ (s[i]? = some (.lst ds) ∨ s[i]? = some (.io ds)) ∧ lock s p = s.set i (.brw ds) := by
  cases p with
  | fz d => exact .inl rfl
  | shl d => exact .inl rfl
  | tmp ds => exact .inl rfl
  | plc i =>
    simp only [lock]
    cases h : s[i]? with
    | none => exact .inl rfl
    | some sl =>
      cases sl with
      | lst ds => exact .inr ⟨i, ds, rfl, .inl h, rfl⟩
      | io ds => exact .inr ⟨i, ds, rfl, .inr h, rfl⟩
      | _ => exact .inl rfl
theorem brw_get {i : Nat} {ds : List D} (h : s[i]? = some (.lst ds) ∨ s[i]? = some (.io ds)) (j : Nat) : (s.set i (.brw ds))[j]? = if i = j then some (Sl.brw ds) else s[j]? := by
  have hi : i < s.length := by rcases h with h | h <;> exact lt_of_get h
  rw [get_set]; split
  · rename_i e; subst e; rw [if_pos hi]
  · rfl
theorem own_lock {p : PV} {j : Nat} {a : Addr} : Own σ (lock s p) j a ↔ Own σ s j a := by
  rcases lock_cases s p with h | ⟨i, ds, rfl, h, e⟩
  · rw [h]
  · rw [e]
    constructor
    · rintro ⟨h1, es, h2⟩
      rw [brw_get h] at h2
      by_cases z : i = j
      · subst z; exact ⟨h1, ds, h.elim .inl fun h => .inr (.inl h)⟩
      · rw [if_neg z] at h2; exact ⟨h1, es, h2⟩
    · rintro ⟨h1, es, h2⟩
      refine ⟨h1, ?_⟩
      simp only [brw_get h]
      by_cases z : i = j
      · rw [if_pos z]; exact ⟨ds, .inr (.inr rfl)⟩
      · rw [if_neg z]; exact ⟨es, h2⟩
theorem fp_lock {p : PV} {a : Addr} (f : FP σ (lock s p) a) : FP σ s a := by
  rcases lock_cases s p with h | ⟨i, ds, rfl, h, e⟩
  · rw [h] at f; exact f
  · rw [e] at f
    obtain ⟨j, h1, es, h2⟩ := f
    rw [brw_get h] at h2
    by_cases z : i = j
    · rw [if_pos z] at h2; rcases h2 with h2 | h2 <;> cases h2
    · rw [if_neg z] at h2; exact ⟨j, h1, es, h2⟩
theorem StR.lock (r : StR P F H σ s) (p : PV) : StR P F H σ (lock s p) := by
  refine ⟨?_, r.sub, fun j v sl e1 e2 => ?_, fun i j a o1 o2 => r.dis i j a (own_lock.mp o1) (own_lock.mp o2), r.z⟩
  · rcases lock_cases s p with h | ⟨i, ds, rfl, h, e⟩
    · rw [h]; exact r.len
    · rw [e, List.length_set]; exact r.len
  · rcases lock_cases s p with h | ⟨i, ds, rfl, h, e⟩
    · rw [h] at e2; exact r.slot j v sl e1 e2
    · rw [e, brw_get h] at e2
      by_cases z : i = j
      · rw [if_pos z] at e2
        cases e2
        subst z
        rcases h with h | h <;>
        · have q := r.slot i v _ e1 h
          cases v <;> exact q
      · rw [if_neg z] at e2; exact r.slot j v sl e1 e2
theorem lock_keeps {p : PV} {j : Nat} {ds : List D} (h : s[j]? = some (.brw ds)) : (lock s p)[j]? = some (.brw ds) := by
  rcases lock_cases s p with e | ⟨i, es, rfl, h', e⟩
  · rw [e]; exact h
  · rw [e, brw_get h', if_neg (fun z => by subst z; rcases h' with h' | h' <;> rw [h] at h' <;> cases h')]; exact h
/-- what was locked is open again -/
theorem Step.unlock {p : PV} (st : Step P σ F H (lock s p) σ' F' H' s') : Step P σ F H s σ' F' H' (Z.unlock s s' p) := by
  rcases lock_cases s p with h | ⟨i, ds, rfl, h, e⟩
  · have hu : Z.unlock s s' p = s' := by
      cases p with
      | fz d => rfl
      | shl d => rfl
      | tmp ds => rfl
      | plc i =>
        simp only [Z.unlock]
        simp only [Z.lock] at h
        cases q : s[i]? with
        | none => rfl
        | some sl =>
          rw [q] at h
          cases sl with
          | lst ds =>
            exfalso
            have h : s.set i (Sl.brw ds) = s := h
            have this : (s.set i (Sl.brw ds))[i]? = s[i]? := by rw [h]
            rw [List.getElem?_set_self (lt_of_get q), q] at this
            cases this
          | io ds =>
            exfalso
            have h : s.set i (Sl.brw ds) = s := h
            have this : (s.set i (Sl.brw ds))[i]? = s[i]? := by rw [h]
            rw [List.getElem?_set_self (lt_of_get q), q] at this
            cases this
          | _ => rfl
    rw [hu]; rw [h] at st; exact st
  · have hb : (Z.lock s (.plc i))[i]? = some (Sl.brw ds) := by rw [e, brw_get h, if_pos rfl]
    obtain ⟨k1, k2⟩ := st.lk i ds hb
    obtain ⟨t, ht, hu⟩ : ∃ t, ((t = Sl.lst ds ∧ s[i]? = some (.lst ds)) ∨ (t = Sl.io ds ∧ s[i]? = some (.io ds))) ∧ Z.unlock s s' (.plc i) = s'.set i t := by
      rcases h with h | h
      · exact ⟨.lst ds, .inl ⟨rfl, h⟩, by simp only [Z.unlock, h, k1]⟩
      · exact ⟨.io ds, .inr ⟨rfl, h⟩, by simp only [Z.unlock, h, k1]⟩
    rw [hu]
    have hi : i < s'.length := lt_of_get k1
    have gs : ∀ j, (s'.set i t)[j]? = if i = j then some t else s'[j]? := fun j => by
      rw [get_set]; split
      · rename_i e; subst e; rw [if_pos hi]
      · rfl
    have ho : ∀ j a, Own σ' (s'.set i t) j a → Own σ' s' j a := by
      rintro j a ⟨h1, fs, h2⟩
      rw [gs] at h2
      by_cases z : i = j
      · subst z; exact ⟨h1, ds, .inr (.inr k1)⟩
      · rw [if_neg z] at h2; exact ⟨h1, fs, h2⟩
    have lkj : ∀ j, i ≠ j → (Z.lock s (.plc i))[j]? = s[j]? := fun j z => by rw [e, brw_get h, if_neg z]
    refine ⟨⟨by rw [List.length_set]; exact st.str.len, st.str.sub, fun j v sl e1 e2 => ?_, fun j k a o1 o2 => st.str.dis j k a (ho j a o1) (ho k a o2), st.str.z⟩, st.ff, fun a o q n => st.hh a o q fun z => n (fp_lock z), st.dm, fun a o q => ?_, fun a f => ?_, fun j fs q => ?_, fun j fs q => ?_, fun j fs q => ?_⟩
    · rw [gs] at e2
      by_cases z : i = j
      · rw [if_pos z] at e2
        cases e2
        subst z
        have q := st.str.slot i v _ e1 k1
        rcases ht with ⟨rfl, _⟩ | ⟨rfl, _⟩ <;> cases v <;> exact q
      · rw [if_neg z] at e2; exact st.str.slot j v sl e1 e2
    · rcases st.nf a o q with z | z | z
      · exact .inl z
      · exact .inr (.inl z)
      · exact .inr (.inr (fp_lock z))
    · obtain ⟨j, h1, fs, h2⟩ := f
      rw [gs] at h2
      by_cases z : i = j
      · subst z
        rw [k2] at h1
        refine .inl ⟨i, h1, ds, h⟩
      · rw [if_neg z] at h2
        rcases st.np a ⟨j, h1, fs, h2⟩ with q | q
        · exact .inl (fp_lock q)
        · exact .inr q
    · have nj : i ≠ j := fun z => by subst z; rcases h with h | h <;> rw [q] at h <;> cases h
      obtain ⟨q1, q2⟩ := st.lk j fs (lock_keeps q)
      rw [gs, if_neg nj]; exact ⟨q1, q2⟩
    · by_cases z : i = j
      · subst z
        refine ⟨?_, k2⟩
        rw [gs, if_pos rfl]
        rcases ht with ⟨rfl, hl⟩ | ⟨rfl, hl⟩
        · rw [q] at hl; cases hl
        · exact ⟨ds, rfl⟩
      · obtain ⟨⟨fs', q1⟩, q2⟩ := st.li j fs (by rw [lkj j z]; exact q)
        rw [gs, if_neg z]; exact ⟨⟨fs', q1⟩, q2⟩
    · rw [gs] at q
      by_cases z : i = j
      · rw [if_pos z] at q
        rcases ht with ⟨rfl, _⟩ | ⟨rfl, _⟩ <;> cases q
      · rw [if_neg z] at q
        have q1 := st.bk j fs q
        rw [lkj j z] at q1; exact q1
/-! ### wiping -/
theorem wipeS_length (s : Sts) : ∀ vs : List Nat, (wipeS s vs).length = s.length
  | [] => rfl
  | v :: vs => by rw [wipeS, List.length_set, wipeS_length s vs]
theorem wipeS_get (s : Sts) (j : Nat) : ∀ vs : List Nat, (wipeS s vs)[j]? = if j ∈ vs then (if j < s.length then some Sl.non else none) else s[j]?
  | [] => by simp [wipeS]
  | v :: vs => by
    rw [wipeS, get_set, wipeS_get s j vs, wipeS_length]
    by_cases h : v = j
    · subst h; simp
    · rw [if_neg h]
      by_cases h2 : j ∈ vs
      · rw [if_pos h2, if_pos (List.mem_cons_of_mem _ h2)]
      · rw [if_neg h2, if_neg (by rintro h3; rcases List.mem_cons.mp h3 with h3 | h3; exact h h3.symm; exact h2 h3)]
theorem wipeS_idem (s : Sts) (vs : List Nat) : wipeS (wipeS s vs) vs = wipeS s vs := by
  apply List.ext_getElem?
  intro j
  rw [wipeS_get, wipeS_get, wipeS_length]
  split <;> rfl
theorem backS_length (s0 s : Sts) : ∀ vs : List Nat, (backS s0 s vs).length = s.length
  | [] => rfl
  | v :: vs => by rw [backS, List.length_set, backS_length s0 s vs]
theorem backS_get (s0 s : Sts) (hl : s0.length = s.length) (j : Nat) : ∀ vs : List Nat, (backS s0 s vs)[j]? = if j ∈ vs then s0[j]? else s[j]?
  | [] => by simp [backS]
  | v :: vs => by
    rw [backS, get_set, backS_get s0 s hl j vs, backS_length]
    by_cases h : v = j
    · subst h
      rw [if_pos rfl, if_pos List.mem_cons_self]
      by_cases h2 : v < s.length
      · rw [if_pos h2, List.getD_eq_getElem?_getD]
        have : v < s0.length := by omega
        rw [List.getElem?_eq_getElem this]; rfl
      · rw [if_neg h2, List.getElem?_eq_none (by omega)]
    · rw [if_neg h]
      by_cases h2 : j ∈ vs
      · rw [if_pos h2, if_pos (List.mem_cons_of_mem _ h2)]
      · rw [if_neg h2, if_neg (by rintro h3; rcases List.mem_cons.mp h3 with h3 | h3; exact h h3.symm; exact h2 h3)]
theorem wipe_get (σ : St) (j : Nat) : ∀ vs : List Nat, (wipe σ vs)[j]? = if j ∈ vs then (if j < σ.length then some none else none) else σ[j]?
  | [] => by simp [wipe]
  | v :: vs => by
    rw [wipe, get_set, wipe_get σ j vs, wipe_length]
    by_cases h : v = j
    · subst h; simp
    · rw [if_neg h]
      by_cases h2 : j ∈ vs
      · rw [if_pos h2, if_pos (List.mem_cons_of_mem _ h2)]
      · rw [if_neg h2, if_neg (by rintro h3; rcases List.mem_cons.mp h3 with h3 | h3; exact h h3.symm; exact h2 h3)]
/-- σ and σ' agree outside vs -/
def Ag (vs : List Nat) (σ σ' : St) : Prop := σ.length = σ'.length ∧ ∀ j, j ∉ vs → σ[j]? = σ'[j]?
theorem Ag.wipe (vs : List Nat) (σ : St) : Ag vs (L2.wipe σ vs) σ := ⟨wipe_length σ vs, fun j h => by rw [wipe_get, if_neg h]⟩
theorem Ag.of_wipe {vs : List Nat} {σ σ' : St} (h : L2.wipe σ vs = L2.wipe σ' vs) : Ag vs σ σ' := by
  refine ⟨by rw [← wipe_length σ vs, h, wipe_length], fun j hj => ?_⟩
  have this : (L2.wipe σ vs)[j]? = (L2.wipe σ' vs)[j]? := by rw [h]
  rwa [wipe_get, wipe_get, if_neg hj, if_neg hj] at this
theorem Ag.symm {vs : List Nat} {σ σ' : St} (h : Ag vs σ σ') : Ag vs σ' σ := ⟨h.1.symm, fun j hj => (h.2 j hj).symm⟩
theorem Ag.trans {vs : List Nat} {σ σ' σ'' : St} (h : Ag vs σ σ') (k : Ag vs σ' σ'') : Ag vs σ σ'' := ⟨h.1.trans k.1, fun j hj => (h.2 j hj).trans (k.2 j hj)⟩
theorem own_wipe {vs : List Nat} {σ σ' : St} (a : Ag vs σ σ') {j : Nat} {b : Addr} (h : Own σ (wipeS s vs) j b) : j ∉ vs ∧ Own σ' s j b := by
  obtain ⟨h1, es, h2⟩ := h
  rw [wipeS_get] at h2
  by_cases z : j ∈ vs
  · rw [if_pos z] at h2
    split at h2 <;> rcases h2 with h2 | h2 | h2 <;> cases h2
  · rw [if_neg z] at h2; exact ⟨z, by rw [← a.2 j z]; exact h1, es, h2⟩
theorem fp_wipe {vs : List Nat} {σ σ' : St} (a : Ag vs σ σ') {b : Addr} (h : FP σ (wipeS s vs) b) : ∃ j, j ∉ vs ∧ σ'[j]? = some (some (V.ref b)) ∧ ∃ ds : List D, s[j]? = some (Sl.lst ds) ∨ s[j]? = some (Sl.io ds) := by
  obtain ⟨j, h1, es, h2⟩ := h
  rw [wipeS_get] at h2
  by_cases z : j ∈ vs
  · rw [if_pos z] at h2
    split at h2 <;> rcases h2 with h2 | h2 <;> cases h2
  · rw [if_neg z] at h2; exact ⟨j, z, by rw [← a.2 j z]; exact h1, es, h2⟩
theorem fp_unwipe {vs : List Nat} {j : Nat} {b : Addr} (z : j ∉ vs) (h1 : σ[j]? = some (some (V.ref b))) {ds : List D} (h2 : s[j]? = some (Sl.lst ds) ∨ s[j]? = some (Sl.io ds)) : FP σ (wipeS s vs) b :=
  ⟨j, h1, ds, by rw [wipeS_get, if_neg z]; exact h2⟩
theorem StR.wiped (pf : P.Free) (r : StR P F H σ s) {vs : List Nat} (a : Ag vs σ' σ) : StR P F H σ' (wipeS s vs) := by
  refine ⟨by rw [wipeS_length, a.1]; exact r.len, r.sub, fun j v sl e1 e2 => ?_, fun i j b o1 o2 => r.dis i j b (own_wipe a o1).2 (own_wipe a o2).2, pf _⟩
  rw [wipeS_get] at e2
  by_cases z : j ∈ vs
  · rw [if_pos z] at e2
    split at e2 <;> cases e2
    cases v <;> exact trivial
  · rw [if_neg z] at e2
    exact r.slot j v sl (by rw [← a.2 j z]; exact e1) e2
theorem fp_ag {vs : List Nat} {σ σ' : St} (a : Ag vs σ σ') (hs : wipeS s vs = s) {b : Addr} (h : FP σ s b) : FP σ' s b := by
  rw [← hs] at h
  obtain ⟨j, z, h1, ds, h2⟩ := fp_wipe a h
  exact ⟨j, h1, ds, h2⟩
theorem wiped_out {vs : List Nat} (hs : wipeS s vs = s) {j : Nat} {sl : Sl} (h : s[j]? = some sl) (n : sl ≠ .non) : j ∉ vs := by
  intro z
  rw [← hs, wipeS_get, if_pos z] at h
  split at h
  · cases h; exact n rfl
  · cases h
/-- a step of the block, told of the slots without its own -/
theorem Step.wiped {σ1 σ2 τ τ' : St} (pf : P.Free) (st : Step P σ1 F H s σ2 F' H' s') {vs : List Nat} (hs : wipeS s vs = s) (a1 : Ag vs τ σ1) (a2 : Ag vs τ' σ2) : Step P τ F H s τ' F' H' (wipeS s' vs) where
  str := st.str.wiped pf a2
  ff := st.ff
  hh := fun b o e n => st.hh b o e fun f => n (fp_ag a1.symm hs f)
  dm := st.dm
  nf := fun b o e => by
    rcases st.nf b o e with q | q | q
    · exact .inl q
    · exact .inr (.inl q)
    · exact .inr (.inr (fp_ag a1.symm hs q))
  np := fun b f => by
    obtain ⟨j, z, h1, ds, h2⟩ := fp_wipe a2 f
    rcases st.np b ⟨j, h1, ds, h2⟩ with q | q
    · exact .inl (fp_ag a1.symm hs q)
    · exact .inr q
  lk := fun j ds e => by
    have nj := wiped_out hs e (by intro z; cases z)
    obtain ⟨q1, q2⟩ := st.lk j ds e
    rw [wipeS_get, if_neg nj, a1.2 j nj, a2.2 j nj]; exact ⟨q1, q2⟩
  li := fun j ds e => by
    have nj := wiped_out hs e (by intro z; cases z)
    obtain ⟨q1, q2⟩ := st.li j ds e
    rw [wipeS_get, if_neg nj, a1.2 j nj, a2.2 j nj]; exact ⟨q1, q2⟩
  bk := fun j ds e => by
    rw [wipeS_get] at e
    by_cases z : j ∈ vs
    · rw [if_pos z] at e; split at e <;> cases e
    · rw [if_neg z] at e; exact st.bk j ds e
/-- the block's own slots are as they were -/
theorem Step.back {vs : List Nat} (r : StR P F H σ s) (hw : ∀ j ∈ vs, ∀ ds, s[j]? ≠ some (Sl.io ds)) (st : Step P σ F H (wipeS s vs) σ F' H' (wipeS s' vs)) : Step P σ F H s σ F' H' (backS s s' vs) := by
  have hl : s.length = s'.length := by
    have h1 := r.len
    have h2 := st.str.len
    rw [wipeS_length] at h2; omega
  have ag : Ag vs σ σ := ⟨rfl, fun _ _ => rfl⟩
  have fpw : ∀ b, FP σ (wipeS s vs) b → FP σ s b := fun b f => by
    obtain ⟨j, z, h1, ds, h2⟩ := fp_wipe ag f
    exact ⟨j, h1, ds, h2⟩
  have notin : ∀ j a, j ∈ vs → Own σ s j a → ∀ i, ¬ Own σ (wipeS s vs) i a := fun j a hj o i o' => by
    obtain ⟨ni, o2⟩ := own_wipe ag o'
    have := r.dis i j a o2 o
    subst this; exact ni hj
  have nfp : ∀ j a, j ∈ vs → Own σ s j a → ¬ FP σ (wipeS s vs) a := fun j a hj o f => by
    obtain ⟨i, o'⟩ := f.own
    exact notin j a hj o i o'
  have ownB : ∀ j a, Own σ (backS s s' vs) j a → (j ∈ vs ∧ Own σ s j a) ∨ (j ∉ vs ∧ Own σ (wipeS s' vs) j a) := by
    rintro j a ⟨h1, es, h2⟩
    rw [backS_get s s' hl] at h2
    by_cases z : j ∈ vs
    · rw [if_pos z] at h2; exact .inl ⟨z, h1, es, h2⟩
    · rw [if_neg z] at h2; exact .inr ⟨z, h1, es, by rw [wipeS_get, if_neg z]; exact h2⟩
  have ownS : ∀ i a o, H a = some o → (∀ i, ¬ Own σ (wipeS s vs) i a) → ¬ Own σ (wipeS s' vs) i a := fun i a o e n => st.own (F1 := F) (H1 := H) e n i
  refine ⟨⟨by rw [backS_length]; exact (r.len).trans hl, st.str.sub, fun j v sl e1 e2 => ?_, fun i j a o1 o2 => ?_, r.z⟩, st.ff, fun b o e n => st.hh b o e fun f => n (fpw b f), st.dm, fun b o e => ?_, fun b f => ?_, fun j ds e => ?_, fun j ds e => ?_, fun j ds e => ?_⟩
  · rw [backS_get s s' hl] at e2
    by_cases z : j ∈ vs
    · rw [if_pos z] at e2
      have q := r.slot j v sl e1 e2
      have go : ∀ a xs ds, v = some (.ref a) → (sl = .lst ds ∨ sl = .io ds ∨ sl = .brw ds) → F a = none → H a = some (.lst xs) → F' a = none ∧ H' a = some (.lst xs) := by
        rintro a xs ds rfl hs f g
        have o : Own σ s j a := by
          refine ⟨e1, ds, ?_⟩
          rcases hs with rfl | rfl | rfl
          · exact .inl e2
          · exact .inr (.inl e2)
          · exact .inr (.inr e2)
        have n := nfp j a z o
        refine ⟨?_, st.hh a _ g n⟩
        cases q : F' a with
        | none => rfl
        | some u =>
          rcases st.nf a u q with k | k | k
          · rw [f] at k; cases k
          · rw [g] at k; cases k
          · exact absurd k n
      cases v with
      | none => cases sl <;> exact q
      | some v =>
        cases sl with
        | non => exact q
        | fz d => exact Rp.mono st.ff d q
        | lst ds => obtain ⟨a, xs, e, f, g, k⟩ := q; subst e; obtain ⟨f', g'⟩ := go a xs ds rfl (.inl rfl) f g; exact ⟨a, xs, rfl, f', g', RpL.mono st.ff ds k⟩
        | io ds => obtain ⟨a, xs, e, f, g, k⟩ := q; subst e; obtain ⟨f', g'⟩ := go a xs ds rfl (.inr (.inl rfl)) f g; exact ⟨a, xs, rfl, f', g', RpL.mono st.ff ds k⟩
        | brw ds => obtain ⟨a, xs, e, f, g, k⟩ := q; subst e; obtain ⟨f', g'⟩ := go a xs ds rfl (.inr (.inr rfl)) f g; exact ⟨a, xs, rfl, f', g', RpL.mono st.ff ds k⟩
    · rw [if_neg z] at e2
      exact st.str.slot j v sl e1 (by rw [wipeS_get, if_neg z]; exact e2)
  · rcases ownB i a o1 with ⟨hi, q1⟩ | ⟨hi, q1⟩ <;> rcases ownB j a o2 with ⟨hj, q2⟩ | ⟨hj, q2⟩
    · exact r.dis i j a q1 q2
    · obtain ⟨_, xs, g⟩ := q1.out r
      exact absurd q2 (ownS j a _ g (notin i a hi q1))
    · obtain ⟨_, xs, g⟩ := q2.out r
      exact absurd q1 (ownS i a _ g (notin j a hj q2))
    · exact st.str.dis i j a q1 q2
  · rcases st.nf b o e with q | q | q
    · exact .inl q
    · exact .inr (.inl q)
    · exact .inr (.inr (fpw b q))
  · obtain ⟨j, h1, ds, h2⟩ := f
    rw [backS_get s s' hl] at h2
    by_cases z : j ∈ vs
    · rw [if_pos z] at h2; exact .inl ⟨j, h1, ds, h2⟩
    · rw [if_neg z] at h2
      rcases st.np b (fp_unwipe z h1 h2) with q | q
      · exact .inl (fpw b q)
      · exact .inr q
  · rw [backS_get s s' hl]
    by_cases z : j ∈ vs
    · rw [if_pos z]; exact ⟨e, rfl⟩
    · rw [if_neg z]
      obtain ⟨q1, q2⟩ := st.lk j ds (by rw [wipeS_get, if_neg z]; exact e)
      rw [wipeS_get, if_neg z] at q1; exact ⟨q1, q2⟩
  · have z : j ∉ vs := fun z => hw j z ds e
    rw [backS_get s s' hl, if_neg z]
    obtain ⟨q1, q2⟩ := st.li j ds (by rw [wipeS_get, if_neg z]; exact e)
    rw [wipeS_get, if_neg z] at q1; exact ⟨q1, q2⟩
  · rw [backS_get s s' hl] at e
    by_cases z : j ∈ vs
    · rw [if_pos z] at e; exact e
    · rw [if_neg z] at e
      have q := st.bk j ds (by rw [wipeS_get, if_neg z]; exact e)
      rw [wipeS_get, if_neg z] at q; exact q
end
end Z

/-! Z11: targets; what is walked -/
namespace Z
open PySem PySem.Spec PyProof.Rows L2
section
variable {P : Par} {W : WX} {X : Cx} {pos : Pos}
/-! ### targets take frozen data -/
mutual
def tgN : Z.TG → List Nat
  | .var i => [i]
  | .tup ts => tgNs ts
def tgNs : List Z.TG → List Nat
  | [] => []
  | t :: ts => tgN t ++ tgNs ts
end
theorem Ag.refl (vs : List Nat) (σ : St) : Ag vs σ σ := ⟨rfl, fun _ _ => rfl⟩
theorem Ag.more {vs ws : List Nat} {σ σ' : St} (a : Ag vs σ σ') (h : ∀ j ∈ vs, j ∈ ws) : Ag ws σ σ' := ⟨a.1, fun j hj => a.2 j fun z => hj (h j z)⟩
theorem Ag.set {σ : St} {i : Nat} {v : Option V} : Ag [i] (σ.set i v) σ := ⟨by simp, fun j hj => by rw [List.getElem?_set_ne (fun z => hj (by simp [z]))]⟩
theorem Ag.wipes {vs : List Nat} {σ σ' : St} (a : Ag vs σ σ') : L2.wipe σ vs = L2.wipe σ' vs := by
  apply List.ext_getElem?
  intro j
  rw [wipe_get, wipe_get, a.1]
  split
  · rfl
  · rename_i h; exact a.2 j h
/-- a target's reading -/
def tSG (P : Par) (t : Z.TG) : L2.TG := fun v σ H Q => ∃ F s d s', StR P F H σ s ∧ Rp P F d v ∧ asgD t d s = some s' ∧ ∀ σ', Step P σ F H s σ' F H s' → Ag (tgN t) σ' σ → Q σ' H
def tSGs (P : Par) (ts : List Z.TG) : L2.TGs := fun vs σ H Q => ∃ F s ds s', StR P F H σ s ∧ RpL P F ds vs ∧ (ts.length = ds.length ∧ asgL ts ds s = some s') ∧ ∀ σ', Step P σ F H s σ' F H s' → Ag (tgNs ts) σ' σ → Q σ' H
abbrev SG (P : Par) (X : Cx) (tg : Expr) (t : Z.TG) : Prop := PG X tg (tSG P t)
abbrev SGs (P : Par) (X : Cx) (tg : List Expr) (ts : List Z.TG) : Prop := PGs X tg (tSGs P ts)
theorem PG.weak {tg : Expr} {t t' : L2.TG} (h : PG X tg t) (m : ∀ v σ H Q, t' v σ H Q → t v σ H Q) : PG X tg t' := ⟨fun pins s σ H v u Q I r q => h.run pins s σ H v u Q I r (m v σ H Q q)⟩
theorem PGs.weak {tg : List Expr} {t t' : L2.TGs} (h : PGs X tg t) (m : ∀ v σ H Q, t' v σ H Q → t v σ H Q) : PGs X tg t' := ⟨fun pins s σ H v u Q I r q => h.run pins s σ H v u Q I r (m v σ H Q q)⟩
theorem sg_name (pf : P.Free) {i : Nat} {x : Str} (hN : X.N.Nodup) (hi : X.N[i]? = some x) (hx : Loc X.env.scope x) (hf : X.fn x = true ∨ X.env.scope.names.lookup x = some .local) : SG P X (.Name x pos) (.var i) := by
  refine PG.weak (pg_name hN hi hx hf) ?_
  rintro v σ H Q ⟨F, s, d, s', str, r, e, k⟩
  simp only [asgD] at e
  split at e
  · rename_i hfr
    cases e
    exact k _ (Step.setF pf (Step.refl str) hfr r) Ag.set
  · cases e
theorem sgs_nil : SGs P X [] [] := by
  refine PGs.weak pgs_nil ?_
  rintro vs σ H Q ⟨F, s, ds, s', str, r, ⟨el, e⟩, k⟩
  cases ds with
  | nil => simp [asgL] at e; subst e; exact ⟨r, k σ (Step.refl str) (Ag.refl _ _)⟩
  | cons d ds => simp at el
theorem sgs_cons {e : Expr} {es : List Expr} {t : Z.TG} {ts : List Z.TG} (h1 : SG P X e t) (h2 : SGs P X es ts)
    (hs : (assignEach (e :: es) X.env).map (·.2) = assign e X.env :: (assignEach es X.env).map (·.2)) : SGs P X (e :: es) (t :: ts) := by
  refine PGs.weak (pgs_cons h1 h2 hs) ?_
  rintro vs σ H Q ⟨F, s, ds, s', str, r, ⟨el, e⟩, k⟩
  cases ds with
  | nil => simp at el
  | cons d ds =>
    obtain ⟨v, vr, rfl, rv, rr⟩ := r
    simp only [asgL] at e
    cases h : asgD t d s with
    | none => rw [h] at e; cases e
    | some s1 =>
      rw [h] at e
      refine ⟨v, vr, rfl, F, s, d, s1, str, rv, h, fun σ1 st1 a1 => ⟨F, s1, ds, s', st1.str, rr, ⟨by simpa using el, e⟩, fun σ2 st2 a2 => k σ2 (st1.trans st2) ?_⟩⟩
      exact (a2.more fun j hj => by simp [tgNs, hj]).trans (a1.more fun j hj => by simp [tgNs, hj])
theorem sg_tup {es : List Expr} {k : Nat} {ts : List Z.TG} (hK : X.K = P.K) (hc : X.calm = true) (h : SGs P X es ts)
    (hn : (assignEach es X.env).length = ts.length) (hst : (assignEach es X.env).findIdx? (·.1) = none) : SG P X (.Tuple es k pos) (.tup ts) := by
  refine ⟨fun pins s σ H v u Q I r hw => ?_⟩
  obtain ⟨F, sd, d, s', str, rv, e, kk⟩ := hw
  cases d with
  | tup ds =>
    simp only [asgD] at e
    obtain ⟨a, xs, rfl, q, rr⟩ := rv
    split at e
    · rename_i hl
      exact (pg_tup hc h hn hst).run pins s σ H _ u Q I r ⟨a, xs, rfl, hK ▸ sqT_mono str.sub q, by rw [← rr.length, hl], F, sd, ds, s', str, rr, ⟨hl, e⟩, kk⟩
    · cases e
  | lst ds =>
    simp only [asgD] at e
    obtain ⟨a, xs, rfl, q, rr⟩ := rv
    split at e
    · rename_i hl
      exact (pg_lst hc h hn hst).run pins s σ H _ u Q I r ⟨a, xs, rfl, SqL.of (str.sub _ _ q), by rw [← rr.length, hl], F, sd, ds, s', str, rr, ⟨hl, e⟩, kk⟩
    · cases e
  | _ => simp [asgD] at e
/-- a store of what was reckoned: from the step that reckoned it -/
theorem asgP_ok (pf : P.Free) {σ : St} {F H F1 H1 : Hp} {s s1 s2 : Sts} {t : Z.TG} {p : PV} {v : V} {Q : St → Hp → Prop} (st : Step P σ F H s σ F1 H1 s1) (ev : EvR P H F1 H1 σ s1 p v) (e : asgP t p s1 = some s2)
    (k : ∀ σ' F', Step P σ F H s σ' F' H1 s2 → Q σ' H1) :
    (∃ i ds, t = .var i ∧ p = .tmp ds ∧ gName i v σ H1 Q) ∨ tSG P t v σ H1 Q := by
  have gen : (match frz s1 p with | some (d, s3) => asgD t d s3 | none => none) = some s2 → tSG P t v σ H1 Q := by
    intro e
    cases h : frz s1 p with
    | none => rw [h] at e; cases e
    | some x =>
      obtain ⟨d, s3⟩ := x
      rw [h] at e
      obtain ⟨F3, st3, rd3, sub3, _⟩ := frz_ok st ev.w h
      exact ⟨F3, s3, d, s2, st3.str, rd3, e, fun σ' y _ => k σ' F3 (st3.trans y)⟩
  cases t with
  | var i =>
    cases p with
    | tmp ds =>
      simp only [asgP] at e
      split at e
      · rename_i hf
        cases e
        have st2 := Step.setL pf st hf ev
        exact .inl ⟨i, ds, rfl, rfl, k _ _ st2⟩
      · cases e
    | fz d => exact .inr (gen e)
    | plc j => exact .inr (gen e)
    | shl d => exact .inr (gen e)
  | tup ts =>
    cases p with
    | tmp ds => exact .inr (gen e)
    | fz d => exact .inr (gen e)
    | plc j => exact .inr (gen e)
    | shl d => exact .inr (gen e)
/-- what a target takes, by values -/
def tGP (P : Par) (t : Z.TG) : L2.TG := fun v σ H Q => (∃ i, t = .var i ∧ gName i v σ H Q) ∨ tSG P t v σ H Q
theorem gp_name (pf : P.Free) {i : Nat} {x : Str} (hN : X.N.Nodup) (hi : X.N[i]? = some x) (hx : Loc X.env.scope x) (hf : X.fn x = true ∨ X.env.scope.names.lookup x = some .local) : PG X (.Name x pos) (tGP P (.var i)) := by
  refine PG.weak (pg_name hN hi hx hf) ?_
  rintro v σ H Q (⟨j, e, h⟩ | ⟨F, s, d, s', str, r, e, k⟩)
  · cases e; exact h
  · simp only [asgD] at e
    split at e
    · rename_i hfr
      cases e
      exact k _ (Step.setF pf (Step.refl str) hfr r) Ag.set
    · cases e
theorem gp_tup {tg : Expr} {ts : List Z.TG} (h : SG P X tg (.tup ts)) : PG X tg (tGP P (.tup ts)) := by
  refine PG.weak h ?_
  rintro v σ H Q (⟨i, e, _⟩ | h)
  · cases e
  · exact h
end
/-! ### what is walked -/
structure Keep (P : Par) (σ : St) (F1 H1 : Hp) (s1 : Sts) (F2 H2 : Hp) : Prop where
  ff : Sub F1 F2
  sub : Sub F2 H2
  hh : ∀ a o, H1 a = some o → ¬ FP σ s1 a → H2 a = some o
structure Wk (P : Par) (σ : St) (J : It) (ds : List D) (ps : List PV) (F1 H1 : Hp) (s1 : Sts) : Prop where
  ex : ∃ G Y, Walk J ds.length G Y ∧ ∀ F2 H2, Keep P σ F1 H1 (lockL s1 ps) F2 H2 → G H2 ∧ ∀ i x H3 σ2 s2, i < ds.length → Y i H2 x H3 → StR P F2 H2 σ2 s2 →
    ∃ F3 d, Step P σ2 F2 H2 s2 σ2 F3 H3 s2 ∧ ds[i]? = some d ∧ Rp P F3 d x
abbrev RI (P : Par) (σ : St) : Hp → Hp → Hp → Sts → List D × List PV → It → Prop := fun _ F H s x J => Wk P σ J x.1 x.2 F H s
def tSI (P : Par) (W : WX) (c : Sts → Rs (List D × List PV)) : TI := fun σ H R => ∃ F s, StR P F H σ s ∧ GP (RI P σ) P W σ F H s (c s) R
abbrev SI (P : Par) (W : WX) (X : Cx) (tg it : Expr) (c : Sts → Rs (List D × List PV)) : Prop := PI X tg it (tSI P W c)
section
variable {P : Par} {W : WX} {X : Cx} {pos : Pos} {tg : Expr}
theorem PI.weak {it : Expr} {t t' : TI} (h : PI X tg it t) (m : ∀ σ H Q, t' σ H Q → t σ H Q) : PI X tg it t' := ⟨fun pins s σ H Q I q => h.run pins s σ H Q I (m σ H Q q)⟩
theorem lockL_own {σ : St} {s : Sts} : ∀ {ps : List PV} {j : Nat} {a : Addr}, Own σ (lockL s ps) j a ↔ Own σ s j a
  | [], _, _ => Iff.rfl
  | p :: ps, j, a => (lockL_own (s := lock s p) (ps := ps)).trans own_lock
theorem lockL_keeps {j : Nat} {ds : List D} : ∀ {ps : List PV} {s : Sts}, s[j]? = some (.brw ds) → (lockL s ps)[j]? = some (.brw ds)
  | [], _, h => h
  | p :: ps, s, h => lockL_keeps (ps := ps) (lock_keeps (p := p) h)
theorem lock_self {i : Nat} {s : Sts} {ds : List D} (h : s[i]? = some (.lst ds) ∨ s[i]? = some (.io ds) ∨ s[i]? = some (.brw ds)) : (lock s (.plc i))[i]? = some (.brw ds) := by
  rcases h with h | h | h
  · simp only [lock, h]; rw [List.getElem?_set_self (lt_of_get h)]
  · simp only [lock, h]; rw [List.getElem?_set_self (lt_of_get h)]
  · simp only [lock, h]
theorem lock_brw {i : Nat} {s : Sts} {ds : List D} {q : PV} (h : s[i]? = some (.lst ds) ∨ s[i]? = some (.io ds) ∨ s[i]? = some (.brw ds)) : (lock s q)[i]? = some (.lst ds) ∨ (lock s q)[i]? = some (.io ds) ∨ (lock s q)[i]? = some (.brw ds) := by
  rcases lock_cases s q with e | ⟨j, es, rfl, h', e⟩
  · rw [e]; exact h
  · rw [e, brw_get h']
    by_cases z : j = i
    · subst z
      rw [if_pos rfl]
      right; right
      rcases h' with h' | h' <;> rcases h with h | h | h <;> rw [h] at h' <;> cases h' <;> rfl
    · rw [if_neg z]; exact h
theorem lockL_brw {i : Nat} {ds : List D} : ∀ {ps : List PV} {s : Sts}, PV.plc i ∈ ps → s[i]? = some (.lst ds) ∨ s[i]? = some (.io ds) ∨ s[i]? = some (.brw ds) → (lockL s ps)[i]? = some (.brw ds)
  | p :: ps, s, m, h => by
    rcases List.mem_cons.mp m with e | m
    · subst e; exact lockL_keeps (s := Z.lock s (.plc i)) (ps := ps) (lock_self h)
    · exact lockL_brw (ps := ps) m (lock_brw h)
theorem StR.lockL {σ : St} {F H : Hp} : ∀ {s : Sts} (ps : List PV), StR P F H σ s → StR P F H σ (Z.lockL s ps)
  | _, [], r => r
  | s, p :: ps, r => StR.lockL (s := Z.lock s p) ps (r.lock p)
theorem Step.unlockL {σ σ' : St} {F H F' H' : Hp} : ∀ (ps : List PV) {s s' : Sts}, Step P σ F H (Z.lockL s ps) σ' F' H' s' → Step P σ F H s σ' F' H' (Z.unlockL s s' ps)
  | [], _, _, st => st
  | p :: ps, s, s', st => Step.unlock (p := p) (Step.unlockL ps (s := Z.lock s p) st)
/-- a list that is walked stays -/
theorem lst_keep {σ : St} {F1 H1 H0 : Hp} {s1 : Sts} {p : PV} {v : V} {ds : List D} {ps : List PV} (str : StR P F1 H1 σ s1) (ev : EvR P H0 F1 H1 σ s1 p v) (hv : view s1 p = some (.lst ds)) (m : p ∈ ps) :
    ∃ a xs, v = .ref a ∧ RpL P F1 ds xs ∧ H1 a = some (.lst xs) ∧ ∀ F2 H2, Keep P σ F1 H1 (lockL s1 ps) F2 H2 → H2 a = some (.lst xs) := by
  cases p with
  | shl es => cases hv
  | fz d =>
    simp [view] at hv; subst hv
    obtain ⟨a, xs, e, f, r⟩ := ev
    exact ⟨a, xs, e, r, str.sub _ _ f, fun F2 H2 k => k.sub _ _ (k.ff _ _ f)⟩
  | tmp ds' =>
    simp [view] at hv; subst hv
    obtain ⟨a, xs, e, f, g, r, n, o⟩ := ev
    exact ⟨a, xs, e, r, g, fun F2 H2 k => k.hh _ _ g fun q => by obtain ⟨j, q⟩ := q.own; exact o j (lockL_own.mp q)⟩
  | plc i =>
    have ev' : σ[i]? = some (some v) := ev
    simp only [view] at hv
    cases q : s1[i]? with
    | none => rw [q] at hv; cases hv
    | some sl =>
      rw [q] at hv
      have z := str.slot i _ _ ev' q
      have lk : ∀ (ho : s1[i]? = some (.lst ds) ∨ s1[i]? = some (.io ds) ∨ s1[i]? = some (.brw ds)) (a : Addr) (xs : List V), v = .ref a → H1 a = some (.lst xs) → ∀ F2 H2, Keep P σ F1 H1 (lockL s1 ps) F2 H2 → H2 a = some (.lst xs) := by
        intro ho a xs e g F2 H2 k
        refine k.hh _ _ g ?_
        rintro ⟨j, h1, es, h2⟩
        have o1 : Own σ s1 i a := ⟨by rw [ev', e], ds, ho⟩
        have o2 : Own σ s1 j a := lockL_own.mp (show Own σ (lockL s1 ps) j a from ⟨h1, es, h2.elim .inl fun h => .inr (.inl h)⟩)
        have e3 := str.dis i j a o1 o2
        subst e3
        rw [lockL_brw m ho] at h2
        rcases h2 with h2 | h2 <;> cases h2
      cases sl <;> simp at hv
      · subst hv
        obtain ⟨a, xs, e, f, r⟩ := z
        exact ⟨a, xs, e, r, str.sub _ _ f, fun F2 H2 k => k.sub _ _ (k.ff _ _ f)⟩
      all_goals
        subst hv
        obtain ⟨a, xs, e, f, g, r⟩ := z
        refine ⟨a, xs, e, r, g, lk (by simp [q]) a xs e g⟩
theorem tup_keep {σ : St} {F1 H1 H0 : Hp} {s1 : Sts} {p : PV} {v : V} {ds : List D} {ps : List PV} (str : StR P F1 H1 σ s1) (ev : EvR P H0 F1 H1 σ s1 p v) (hv : view s1 p = some (.tup ds)) :
    ∃ a xs, v = .ref a ∧ RpL P F1 ds xs ∧ SqT P.K H1 a xs ∧ ∀ F2 H2, Keep P σ F1 H1 (lockL s1 ps) F2 H2 → SqT P.K H2 a xs := by
  obtain ⟨a, xs, e, q, q', r⟩ := (ev.vw str hv).tup str.sub
  exact ⟨a, xs, e, r, q, fun F2 H2 k => sqT_mono k.sub (sqT_mono k.ff q')⟩
/-- both -/
theorem seq_keep {σ : St} {F1 H1 H0 : Hp} {s1 : Sts} {p : PV} {v : V} {d : D} {ds : List D} {ps : List PV} (str : StR P F1 H1 σ s1) (ev : EvR P H0 F1 H1 σ s1 p v) (hv : view s1 p = some d) (hi : itemsD d = some ds) (m : p ∈ ps) :
    ∃ a xs, v = .ref a ∧ RpL P F1 ds xs ∧ ((SqL P.K H1 a xs ∧ ∀ F2 H2, Keep P σ F1 H1 (lockL s1 ps) F2 H2 → SqL P.K H2 a xs) ∨ (SqT P.K H1 a xs ∧ ∀ F2 H2, Keep P σ F1 H1 (lockL s1 ps) F2 H2 → SqT P.K H2 a xs)) := by
  cases d <;> simp [itemsD] at hi
  · subst hi
    obtain ⟨a, xs, e, r, q, k⟩ := tup_keep (ps := ps) str ev hv
    exact ⟨a, xs, e, r, .inr ⟨q, k⟩⟩
  · subst hi
    obtain ⟨a, xs, e, r, q, k⟩ := lst_keep str ev hv m
    exact ⟨a, xs, e, r, .inl ⟨SqL.of q, fun F2 H2 z => SqL.of (k F2 H2 z)⟩⟩
  · subst hi
    rcases ev.vw str hv with ⟨a, xs, e, q, r⟩ | ⟨a, xs, ds', e, e2, f, g, r⟩
    · exact ⟨a, xs, e, r, .inl ⟨sqL_mono str.sub q, fun F2 H2 k => sqL_mono k.sub (sqL_mono k.ff q)⟩⟩
    · cases e2
/-- what is yielded as it stands -/
theorem wk_at {σ : St} {F1 H1 : Hp} {s1 : Sts} {J : It} {ds : List D} {xs : List V} {ps : List PV} {G : Hp → Prop} (w : Walk J xs.length G (YAt xs)) (r : RpL P F1 ds xs) (k : ∀ F2 H2, Keep P σ F1 H1 (lockL s1 ps) F2 H2 → G H2) : Wk P σ J ds ps F1 H1 s1 := by
  refine ⟨G, YAt xs, by rw [r.length]; exact w, fun F2 H2 kp => ⟨k F2 H2 kp, fun i x H3 σ2 s2 hi y str => ?_⟩⟩
  obtain ⟨rfl, hx⟩ := y
  obtain ⟨d, h1, h2⟩ := r.getV hx
  exact ⟨F2, d, Step.refl str, h1, Rp.mono kp.ff d h2⟩
theorem wk_pair {σ : St} {F1 H1 : Hp} {s1 : Sts} {J : It} {ds : List D} {fx fy : Nat → Option V} {dx dy : Nat → Option D} {ps : List PV} {G : Hp → Prop} (w : Walk J ds.length G (YPair fx fy))
    (hx : ∀ i x, fx i = some x → ∃ d, dx i = some d ∧ Rp P F1 d x) (hy : ∀ i x, fy i = some x → ∃ d, dy i = some d ∧ Rp P F1 d x) (hd : ∀ i x y, dx i = some x → dy i = some y → ds[i]? = some (.tup [x, y])) (k : ∀ F2 H2, Keep P σ F1 H1 (lockL s1 ps) F2 H2 → G H2) : Wk P σ J ds ps F1 H1 s1 := by
  refine ⟨G, YPair fx fy, w, fun F2 H2 kp => ⟨k F2 H2 kp, fun i x H3 σ2 s2 hi y str => ?_⟩⟩
  obtain ⟨T, x, z, rfl, h2, rfl, h4, h5⟩ := y
  obtain ⟨d1, e1, r1⟩ := hx i x h4
  obtain ⟨d2, e2, r2⟩ := hy i z h5
  have rl : RpL P F2 [d1, d2] [x, z] := ⟨_, _, rfl, Rp.mono kp.ff _ r1, _, _, rfl, Rp.mono kp.ff _ r2, rfl⟩
  exact ⟨_, _, (Step.refl str).newF h2, hd i d1 d2 e1 e2, (Step.refl str).newT h2 rl⟩
/-! the ways -/
def seqC (c : Sts → Rs PV) (s : Sts) : Rs (List D × List PV) := (c s).bind fun p s1 => match view s1 p with
    | some d => (lift (itemsD d) s1).bind fun ds s2 => .ok (ds, [p]) s2
    | none => .no
def iSeq (K : PySem.W.Frag) (tl : TE) : TI := fun σ H R => tl σ H fun x H1 => ∃ a xs, x = .ref a ∧ ((SqL K H1 a xs ∧ R (Itl K a) H1) ∨ (SqT K H1 a xs ∧ R (Itt K a) H1))
/-- it is a list or a tuple at each place -/
theorem pi_seq {l : Expr} {tl : TE} (hl : PE X l tl) : PI X tg l (iSeq X.K tl) := by
  refine ⟨fun pins s σ H R I h => ?_⟩
  refine thn (hl.run pins s σ H _ I h) fun v s1 ⟨x, H1, I1, r1, a, xs, e, q⟩ => ?_
  rcases q with ⟨q, r⟩ | ⟨q, r⟩
  · subst e; cases r1
    obtain ⟨is, rv, pl, _⟩ := I1.list q
    refine wpAny_pyIter_list pl.isList ⟨_, [_], _, _, H1, rfl, I1.kept (t' := s1.toks) fun b o => Heap.get?_push_of_some _, turn_list a _, ⟨_, Heap.get?_push_size _ rfl, rfl, rfl⟩, fun b hb => ?_, r⟩
    obtain rfl : b = _ := by simpa using hb
    exact I1.fpOk (Nat.le_refl _) (I1.hok.fresh (Nat.le_refl _))
  · subst e; cases r1
    obtain ⟨is, rv, pl, _⟩ := I1.tuple q
    refine wpAny_pyIter_tuple (show s1.heap.IsTuple a is.toArray from pl) ⟨_, [_], _, _, H1, rfl, I1.kept (t' := s1.toks) fun b o => Heap.get?_push_of_some _, turn_tuple a _, ⟨_, Heap.get?_push_size _ rfl, rfl, rfl⟩, fun b hb => ?_, r⟩
    obtain rfl : b = _ := by simpa using hb
    exact I1.fpOk (Nat.le_refl _) (I1.hok.fresh (Nat.le_refl _))
theorem si_seq (hK : X.K = P.K) {e : Expr} {c : Sts → Rs PV} (h : SE P W X e c) : SI P W X tg e (seqC c) := by
  refine PI.weak (pi_seq h) ?_
  rintro σ H R ⟨F, s, str, g⟩
  refine ⟨F, s, str, GP.bind g fun p s1 e1 g1 v F1 H1 st ev => ?_⟩
  cases hv : view s1 p with
  | none => rw [hv] at g1; exact g1.elim
  | some d =>
    rw [hv] at g1
    cases hd : itemsD d with
    | none => simp only [hd] at g1; exact g1.elim
    | some ds =>
      simp only [hd] at g1
      have g2 : ∀ J, Wk P σ J ds [p] F1 H1 s1 → R J H1 := fun J w => GP.ok (R := RI P σ) g1 st w
      obtain ⟨a, xs, e, r, q⟩ := seq_keep (ps := [p]) st.str ev hv hd (by simp)
      rw [hK]
      refine ⟨a, xs, e, ?_⟩
      rcases q with ⟨q, k⟩ | ⟨q, k⟩
      · exact .inl ⟨q, g2 _ (wk_at walk_list r k)⟩
      · exact .inr ⟨q, g2 _ (wk_at walk_tup r k)⟩
end
end Z

/-! Z12: enumerate over a tuple; the other ways to walk -/
namespace Z
open PySem PySem.Spec PyProof.Rows L2
open Sem (wp)
set_option maxHeartbeats 1000000 in
/-- enumerate(v), by what its walk begins with -/
theorem meets_enum1 {v : Value} {o : Obj} {H : Heap → Prop} (B : Begins v o H) :
    Meets (Builtin.«enumerate.__new__» ⟨[.type "enumerate", v], []⟩) (fun _ R s => H s.heap ∧
      R (.ok (.ret (.ref (s.heap.push o).objs.size))) { s with heap := (s.heap.push o).push { cls := .type "enumerate", data := .fields #[.none, .bool false, .ref s.heap.objs.size, rawInt 0, .none, .none] } }) := by
  refine Meets.of_wp fun pg w A R st h => ?_
  obtain ⟨hp, g, d, tk, os⟩ := st
  obtain ⟨hH, h⟩ := h
  have hsub := sub_enumerate
  have hit : ∀ {A' : Around} {E' : Value → Shared → Prop} {Q' : Value → Shared → Prop}, Q' (.ref hp.objs.size) ⟨hp.push o, g, d, tk, os⟩ → wpAny (model pg w) A' (pyIter v) Q' E' ⟨hp, g, d, tk, os⟩ := fun q => B.iter pg w _ _ ⟨hp, g, d, tk, os⟩ _ hH q
  wp_walk using hit
  refine wpAny_stack_any fun _ => wpAny_pure ?_
  split
  · rename_i c _ _ _ _ _
    cases (c == Value.type "enumerate") <;> (wp_walk using hit; exact ⟨_, rfl, h⟩)
  · wp_walk using hit; exact ⟨_, rfl, h⟩
theorem enum1 {prog : Program} {w : World} {A : Around} {E : Value → Shared → Prop} {s : Shared} {v : Value} {o : Obj} {H : Heap → Prop} {Q : Value → Shared → Prop} (B : Begins v o H) (hH : H s.heap)
    (k : ∀ h', IsEnum h' (s.heap.objs.size + 1) s.heap.objs.size 0 .none → h'.get? s.heap.objs.size = some o → (∀ b o, s.heap.get? b = some o → h'.get? b = some o) → Q (.ref (s.heap.objs.size + 1)) { s with heap := h' }) :
    wpAny (model prog w) A (call (.type "enumerate") [v]) Q E s := by
  refine callType_new F.called_enumerate (by decide) (F.typeCall_enumerate_1 _) (F.newCall_enumerate_1 _) (fun ob => F.args_object_init_2 ob _) F.entry_enumerate_new (meets_enum1 B) ⟨hH, ?_⟩
  have z : (s.heap.push o).objs.size = s.heap.objs.size + 1 := Heap.size_push ..
  show _ ∧ _
  rw [z]
  have q := Heap.get?_push_size (s.heap.push o) (o := { cls := .type "enumerate", data := .fields #[.none, .bool false, .ref s.heap.objs.size, rawInt 0, .none, .none] }) rfl
  rw [z] at q
  exact ⟨⟨_, q, rfl⟩, k _ q (Heap.get?_push_of_some _ (Heap.get?_push_size _ B.free)) fun b u x => Heap.get?_push_of_some _ (Heap.get?_push_of_some _ x)⟩
/-- the tuple at a, each item in a new pair -/
def ItuE (K : PySem.W.Frag) (a : Addr) : It :=
  ⟨fun i H => ∃ (xs : List V) (x : V), SqT K H a xs ∧ xs[i]? = some x, fun i H v H' => ∃ T x, v = .ref T ∧ H T = none ∧ H' = upd H T (.tup [.int (i : Nat), x]) ∧ ∀ xs, SqT K H a xs → xs[i]? = some x, fun i H => ∃ xs : List V, SqT K H a xs ∧ xs.length ≤ i⟩
theorem tup_ne {h : Heap} {it a : Addr} {i : Nat} {its : Array Value} (x : h.IsTupleIter it a i) (y : h.IsTuple a its) : a ≠ it := fun z => by
  subst z
  obtain ⟨o, e, c, d⟩ := x
  obtain ⟨o', e', c', _⟩ := y
  rw [e] at e'; cases e'
  rw [c] at c'
  exact absurd c' (by decide)
theorem tup_neE {h : Heap} {e it a : Addr} {i : Int} {old : Value} {its : Array Value} (x : IsEnum h e it i old) (y : h.IsTuple a its) : e ≠ a := fun z => by
  subst z
  obtain ⟨o', e', c', _⟩ := y
  have q := x.symm.trans e'
  cases q
  injection c' with c'
  exact absurd c' (by decide)
theorem turn_enumU {Pg : Program} {w : World} {K : PySem.W.Frag} {elts : List Expr} {kk : Nat} {tpos : Pos} (a e it : Addr) :
    Turn Pg w K (.Tuple elts kk tpos) (ItuE K a) [e, it] e (fun i h => (∃ old, IsEnum h e it ((i : Nat) : Int) old) ∧ h.IsTupleIter it a i ∧ e ≠ it) where
  mem := by simp
  obj := fun i h st b hb => by
    obtain ⟨⟨old, he⟩, ⟨o, ho, hc, hd⟩, _⟩ := st
    rcases (show b = e ∨ b = it by simpa using hb) with rfl | rfl
    · exact ⟨_, he, fun _ => nofun⟩
    · exact ⟨o, ho, fun v q => by rw [hd] at q; cases q⟩
  keep := fun i h h' st k => ⟨st.1.imp fun _ he => k e (by simp) _ he, st.2.1.at fun o q => k it (by simp) o q, st.2.2⟩
  item := by
    intro X hP hw hK hc i pins s σ H E I hf st hg
    subst hP hw hK
    obtain ⟨⟨old, he⟩, hit, hne⟩ := st
    obtain ⟨xs, x, hq, hx⟩ := hg
    obtain ⟨its, rv, p, _⟩ := I.tuple hq
    obtain ⟨u, hu, ru⟩ := rv.get hx
    have p' : s.heap.IsTuple a its.toArray := p
    have hel := Heap.lt_size he
    have hil : it < s.heap.objs.size := by obtain ⟨_, q, _⟩ := hit; exact Heap.lt_size q
    have Dr := Draws.tuple (prog := X.prog) (w := X.w) (A := X.A.in1) (show X.A.in1.handled = none from I.ok.hd hc) it a (tup_ne hit p') its.toArray
    have hlt : i < its.toArray.size := by
      have := (List.getElem?_eq_some_iff.mp hu).1
      simpa using this
    refine wpAny_pyNext_enum_itemD Dr he ⟨hit, p'⟩ hlt hne (fun z => ?_) fun y h' tk hy ho hs hT hsz hk => ?_
    · rcases (show e = it ∨ e = a by simpa using z) with z | z
      · exact hne z
      · exact tup_neE he p' z
    have hy' : y = u := by
      have hy2 : its[i]? = some y := by simpa using hy
      rw [hu] at hy2; exact (Option.some.inj hy2).symm
    subst hy'
    refine ⟨_, rfl, wpAny_letOwnedTupleGo_enum (s := { s with heap := h', toks := tk + 1 }) ho fun h2 he2 sb => ?_⟩
    have hT2 : h2.get? s.heap.objs.size = some { cls := .type "tuple", data := .seq #[.int i tk, y] } := (sb.2 _ (Nat.ne_of_gt hel)).trans hT
    have nw : ObjOk X.prog X.w (upd H s.heap.objs.size (.tup [.int (i : Nat), x])) h2 s.heap.objs.size (.tup [.int (i : Nat), x]) := ⟨show 2 ≤ sizeLine by decide, [.int i tk, y], .cons ⟨_, rfl⟩ (.cons ru .nil), ⟨_, hT2, rfl, _, rfl⟩⟩
    have I1 : Inv X pins σ (upd H s.heap.objs.size (.tup [.int (i : Nat), x])) { s with heap := h2, toks := tk + 1 } :=
      I.turnedNew (ch := [e, it]) (fun b ob hb q => (sb.2 b fun z => hb (by simp [z])).trans (hk b ob (fun z => hb (by simp [z])) (fun z => hb (by simp [z])) q)) hf (Nat.le_refl _) nw
    refine ⟨.ref s.heap.objs.size, _, I1, rfl, ⟨_, x, rfl, I.hok.fresh (Nat.le_refl _), rfl, fun ys hys => by rw [I.tuple_inj hys hq]; exact hx⟩, ⟨⟨y, ?_⟩, hs.1.at fun o q => (sb.2 it (Ne.symm hne)).trans q, hne⟩, fun b hb => ?_⟩
    · rw [show ((i + 1 : Nat) : Int) = (i : Int) + 1 by omega]; exact he2
    · have hb' : b < s.heap.objs.size := by rcases (show b = e ∨ b = it by simpa using hb) with rfl | rfl <;> assumption
      rw [upd_ne (Nat.ne_of_lt hb')]
      exact (hf b hb).1
  done := by
    intro X hP hw hK hc i pins s σ H E I hf st hg
    subst hP hw hK
    obtain ⟨⟨old, he⟩, hit, hne⟩ := st
    obtain ⟨xs, hq, hx⟩ := hg
    obtain ⟨its, rv, p, _⟩ := I.tuple hq
    have p' : s.heap.IsTuple a its.toArray := p
    obtain ⟨f0, f1, f2, f3, f4, f5⟩ := hf it (by simp)
    unfold pyNext
    refine wpAny_bind (wpAny_attempt (wpAny_callSpecial?_slot (name := Str.ofString "__next__") ⟨_, he, rfl⟩ F.slot_enumerate_next (wpAny_call_entry F.slot_enumerate_next ⟨_, he, rfl⟩ F.entry_enumerate_next ?_ (F.args_enumerate_next_1 _))))
    show wpAny _ _ (field (.ref e) 2 >>= _) _ _ _
    refine wpAny_bind (wpAny_field he rfl (x := .ref it) rfl (wpAny_bind (wpAny_nextOf_tuple_end (A := X.A.in1) (show X.A.in1.handled = none from I.ok.hd hc) hit p' ?_ fun h' x he' hx' => ?_)))
    · have q := rv.length
      have q2 : ¬ i < its.length := by omega
      simp [Nat.le_of_not_lt q2]
    · obtain ⟨o, ho, hcl⟩ := hx'
      refine wpAny_bind (wpAny_isInstance (T := "StopIteration") (b := true) ⟨o, ho, hcl⟩ isSubtype_stop (wpAny_pure ⟨rfl, I.turned (t' := s.toks) (fun b o hb q => he' b o hb q) f0 f1 f3 f4 f5⟩))
  self := fun A i s Q E st h => st.1.elim fun _ he => wpAny_pyIter_enum he h
/-- enumerate(x), x a list or a tuple -/
def iEnumA (K : PySem.W.Frag) (ta : TA) : TI := fun σ H R => ta σ H fun vs H1 => ∃ a xs, vs = [.ref a] ∧ ((SqL K H1 a xs ∧ R (Ite K a) H1) ∨ (SqT K H1 a xs ∧ R (ItuE K a) H1))
theorem pi_enumA {X : Cx} {e : Expr} {ta : TA} {p pos tpos : Pos} {elts : List Expr} {kk : Nat} (hg : Gl X "enumerate") (hm : X.mg "enumerate" = none) (ha : PA X [e] ta) (hs : starEach [e] X.env = [(false, eval e X.env)]) :
    PI X (.Tuple elts kk tpos) (.Call (.Name "enumerate" p) [e] [] pos) (iEnumA X.K ta) := by
  refine ⟨fun pins s σ H R I h => ?_⟩
  refine Call_ (ld_blt I hg hm boot_enumerate (PyProof.Rows.callWith_type1 (thn (ha.run pos pins s σ H _ I h) fun us s1 ⟨vs, H1, I1, r1, a, xs, ex, q1⟩ => ?_) hs rfl))
  subst ex
  have hle : ∀ b, b ∈ [s1.heap.objs.size + 1, s1.heap.objs.size] → FpOk X pins H1 b := fun b hb => by
    have hle : s1.heap.objs.size ≤ b := by rcases (show b = _ ∨ b = _ by simpa using hb) with rfl | rfl <;> omega
    exact I1.fpOk hle (I1.hok.fresh hle)
  cases r1 with
  | cons r rr =>
    cases rr
    cases r
    rcases q1 with ⟨hq, q⟩ | ⟨hq, q⟩
    · obtain ⟨its, rv, p', _⟩ := I1.list hq
      exact call_enumerate_list p'.isList fun h' he hit hsz hk => wpAny_pyIter_enum he ⟨_, [_, _], _, _, H1, rfl, I1.kept (t' := s1.toks) hk, turn_enum a (s1.heap.objs.size + 1) s1.heap.objs.size, ⟨⟨.none, he⟩, hit, Nat.succ_ne_self _⟩, hle, q⟩
    · obtain ⟨its, rv, p', _⟩ := I1.tuple hq
      exact enum1 (begins_tuple a its.toArray) (show s1.heap.IsTuple a its.toArray from p') fun h' he hit hk => wpAny_pyIter_enum he ⟨_, [_, _], _, _, H1, rfl, I1.kept (t' := s1.toks) hk, turn_enumU a (s1.heap.objs.size + 1) s1.heap.objs.size, ⟨⟨.none, he⟩, ⟨_, hit, rfl, rfl⟩, Nat.succ_ne_self _⟩, hle, q⟩
theorem walk_enumU {K : PySem.W.Frag} {a : Addr} {xs : List V} : Walk (ItuE K a) xs.length (fun H => SqT K H a xs) (YPair (fun i => some (.int (i : Nat))) (fun i => xs[i]?)) := by
  refine ⟨fun i _ hi q => ⟨xs, xs[i], q, by simp [hi]⟩, fun _ q => ⟨xs, q, Nat.le_refl _⟩, fun i H v H' _ q y => ?_⟩
  obtain ⟨T, x, e1, e2, e3, e4⟩ := y
  exact ⟨T, .int (i : Nat), x, e1, e2, e3, rfl, e4 xs q⟩
end Z

/-! Z13: walks over ranges, enumerate, zip, reversed -/
namespace Z
open PySem PySem.Spec PyProof.Rows L2
section
variable {P : Par} {W : WX} {X : Cx} {pos p : Pos} {tg a b : Expr} {ca cb : Sts → Rs PV}
/-- the walk over two values -/
theorem two_any {σ : St} {H F : Hp} {s : Sts} {α β : Type} {RR : Hp → Hp → Hp → Sts → α → β → Prop} {f : PV → PV → Sts → Rs α} {Q : β → Hp → Prop} {R : V → V → Hp → Prop} (str : StR P F H σ s)
    (af : ∀ {F1 H1 : Hp} {s1 : Sts} {r : Rs α}, GP RR P W σ F H s r Q → Step P σ F H s σ F1 H1 s1 → GP RR P W σ F1 H1 s1 r Q) (g : GP RR P W σ F H s ((ca s).bind fun p s1 => (cb s1).bind fun q s2 => f p q s2) Q)
    (k : ∀ p q v w F2 H2 s2, GP RR P W σ F H s (f p q s2) Q → Step P σ F H s σ F2 H2 s2 → EvR P H F2 H2 σ s2 p v → EvR P H F2 H2 σ s2 q w → R v w H2) :
    tSE P W ca σ H fun x H1 => tSE P W cb σ H1 fun y H2 => R x y H2 := by
  refine ⟨F, s, str, g.bind fun p s1 e1 g1 v F1 H1 st1 ev1 => ⟨F1, s1, st1.str, ?_⟩⟩
  refine (af g1 st1).bind fun q s2 e2 g2 w F2 H2 st2 ev2 => ?_
  have g3 : GP RR P W σ F H s (f p q s2) Q := by
    rw [e2] at g1; exact g1
  exact k p q v w F2 H2 s2 g3 (st1.trans st2) (ev1.carry st2) (ev2.base st1.dm)
theorem pa_two {t u : TE} (hs : starEach [a, b] X.env = [(false, eval a X.env), (false, eval b X.env)]) (hs2 : starEach [b] X.env = [(false, eval b X.env)]) (ha : PE X a t) (hb : PE X b u) : PA X [a, b] (tCons t (tCons u tNil)) :=
  pa_cons ha (pa_cons hb pa_nil (by rw [hs2]; rfl)) (by rw [hs, hs2])
theorem pa_one {t : TE} (hs : starEach [a] X.env = [(false, eval a X.env)]) (ha : PE X a t) : PA X [a] (tCons t tNil) := pa_cons ha pa_nil (by rw [hs]; rfl)
theorem GP.afterI {σ : St} {F H F1 H1 : Hp} {s s1 : Sts} {r : Rs (List D × List PV)} {Q : It → Hp → Prop} (h : GP (RI P σ) P W σ F H s r Q) (st : Step P σ F H s σ F1 H1 s1) : GP (RI P σ) P W σ F1 H1 s1 r Q := GP.after (R := RI P σ) (fun _ _ _ _ _ _ _ _ q => q) h st
theorem rng_len (i : Int) (n : Nat) : (rngD i n).length = n := by simp [rngD]
theorem rngU_len (i : Int) (n : Nat) : (rngU i n).length = n := by simp [rngU]
theorem rng_get {i : Int} {n k : Nat} (h : k < n) : (rngD i n)[k]? = some (.int (i + k)) := by simp [rngD, List.getElem?_range h]
theorem rngU_get {i : Int} {n k : Nat} (h : k < n) : (rngU i n)[k]? = some (.int (i - k)) := by simp [rngU, List.getElem?_range h]
def rngC (ca cb : Sts → Rs PV) (s : Sts) : Rs (List D × List PV) := (ca s).bind fun p s1 => (cb s1).bind fun q s2 => match view s2 p, view s2 q with
    | some (.int i), some (.int j) => if -(2 ^ 62) ≤ i ∧ i < 2 ^ 62 ∧ -(2 ^ 62) ≤ j ∧ j < 2 ^ 62 then .ok (rngD i (j - i).toNat, []) s2 else .no
    | _, _ => .no
def rngdC (ca cb : Sts → Rs PV) (s : Sts) : Rs (List D × List PV) := (ca s).bind fun p s1 => (cb s1).bind fun q s2 => match view s2 p, view s2 q with
    | some (.int i), some (.int j) => if -(2 ^ 62) ≤ i ∧ i < 2 ^ 62 ∧ -(2 ^ 62) ≤ j ∧ j < 2 ^ 62 then .ok (rngU i (i - j).toNat, []) s2 else .no
    | _, _ => .no
theorem wk_rng {σ : St} {F1 H1 : Hp} {s1 : Sts} {i : Int} {n : Nat} : Wk P σ (Itr i n) (rngD i n) [] F1 H1 s1 := by
  refine ⟨_, _, by rw [rng_len]; exact walk_range, fun F2 H2 kp => ⟨trivial, fun k x H3 σ2 s2 hk y str => ?_⟩⟩
  rw [rng_len] at hk
  obtain ⟨rfl, rfl⟩ := y
  exact ⟨F2, _, Step.refl str, rng_get hk, rfl⟩
theorem wk_rngd {σ : St} {F1 H1 : Hp} {s1 : Sts} {i : Int} {n : Nat} : Wk P σ (Itc i (-1) n) (rngU i n) [] F1 H1 s1 := by
  refine ⟨_, _, by rw [rngU_len]; exact walk_rangeC, fun F2 H2 kp => ⟨trivial, fun k x H3 σ2 s2 hk y str => ?_⟩⟩
  rw [rngU_len] at hk
  obtain ⟨rfl, rfl⟩ := y
  refine ⟨F2, _, Step.refl str, rngU_get hk, ?_⟩
  show V.int _ = V.int _
  congr 1; omega
/-- what two ints give -/
theorem int2 {α : Type} {s : Sts} {p q : PV} {f : Int → Int → Rs α} {β : Type} {R : Hp → Hp → Hp → Sts → α → β → Prop} {σ : St} {F H : Hp} {s0 : Sts} {Q : β → Hp → Prop}
    (g : GP R P W σ F H s0 (match view s p, view s q with | some (.int i), some (.int j) => f i j | _, _ => .no) Q) : ∃ i j, view s p = some (.int i) ∧ view s q = some (.int j) ∧ GP R P W σ F H s0 (f i j) Q := by
  cases h1 : view s p with
  | none => rw [h1] at g; exact g.elim
  | some x =>
    rw [h1] at g
    cases x <;> first | exact g.elim | skip
    cases h2 : view s q with
    | none => rw [h2] at g; exact g.elim
    | some y =>
      rw [h2] at g
      cases y <;> first | exact g.elim | skip
      exact ⟨_, _, rfl, rfl, g⟩
theorem si_rng (hg : Gl X "range") (hm : X.mg "range" = none) (ha : SE P W X a ca) (hb : SE P W X b cb) (hs : starEach [a, b] X.env = [(false, eval a X.env), (false, eval b X.env)]) (hs2 : starEach [b] X.env = [(false, eval b X.env)]) :
    SI P W X tg (.Call (.Name "range" p) [a, b] [] pos) (rngC ca cb) := by
  refine PI.weak (pi_range2 hg hm (pa_two hs hs2 ha hb) hs hs2) ?_
  rintro σ H R ⟨F, s, str, g⟩
  refine two_any str GP.afterI g ?_
  intro p q v w F2 H2 s2 g2 st ep eq
  obtain ⟨i, j, h1, h2, g3⟩ := int2 g2
  split at g3
  · rename_i hz
    exact ⟨i, j, by rw [(ep.vw st.str h1).int, (eq.vw st.str h2).int], hz, GP.ok (R := RI P σ) g3 st wk_rng⟩
  · exact g3.elim
/-- range(b), as range(0, b) -/
theorem si_rng1 (hg : Gl X "range") (hm : X.mg "range" = none) (hb : SE P W X b cb) (hs : starEach [b] X.env = [(false, eval b X.env)]) :
    SI P W X tg (.Call (.Name "range" p) [b] [] pos) (rngC (fun s => .ok (.fz (.int 0)) s) cb) := by
  refine PI.weak (pi_range1 hg hm (pa_one hs hb) hs) ?_
  rintro σ H R ⟨F, s, str, g⟩
  have := two_any (ca := fun s => .ok (.fz (.int 0)) s) (R := fun v w H1 => v = .int 0 → ∃ j : Int, [w] = [.int j] ∧ -(2 ^ 62) ≤ j ∧ j < 2 ^ 62 ∧ R (Itr 0 j.toNat) H1) str GP.afterI g ?_
  · obtain ⟨F0, s0, str0, g0⟩ := this
    obtain ⟨F1, s1, str1, g1⟩ := g0 (.int 0) F0 H (Step.refl str0) rfl
    refine ⟨F1, s1, str1, ?_⟩
    cases h : cb s1 with
    | ok x s' => rw [h] at g1; exact fun b F' H' st ev => g1 b F' H' st ev rfl
    | er x s' => rw [h] at g1; exact g1
    | no => rw [h] at g1; exact g1
  · intro p q v w F2 H2 s2 g2 st ep eq e0
    obtain ⟨i, j, h1, h2, g3⟩ := int2 g2
    split at g3
    · rename_i hz
      have e1 := (ep.vw st.str h1).int
      rw [e0] at e1
      cases e1
      exact ⟨j, by rw [(eq.vw st.str h2).int], hz.2.2.1, hz.2.2.2, GP.ok (R := RI P σ) g3 st (by rw [Int.sub_zero]; exact wk_rng)⟩
    · exact g3.elim
theorem neg_one_rg {i j : Int} (h : -(2 ^ 62) ≤ i ∧ i < 2 ^ 62 ∧ -(2 ^ 62) ≤ j ∧ j < 2 ^ 62) : RgC i j (-1) (i - j).toNat := RgC.neg h.1 h.2.1 h.2.2.1 h.2.2.2
/-- range(a, b, -1) -/
theorem si_rngd {c : Expr} (hg : Gl X "range") (hm : X.mg "range" = none) (ha : SE P W X a ca) (hb : SE P W X b cb) (hc : PE X c (tC (.int (-1)))) (hs : starEach [a, b, c] X.env = (false, eval a X.env) :: starEach [b, c] X.env)
    (hs2 : starEach [b, c] X.env = (false, eval b X.env) :: starEach [c] X.env) (hs3 : starEach [c] X.env = (false, eval c X.env) :: starEach [] X.env) (hpl : (backTo pos (starEach [b, c] X.env)).any (·.1) = false) :
    SI P W X tg (.Call (.Name "range" p) [a, b, c] [] pos) (rngdC ca cb) := by
  refine PI.weak (pi_range3 hg hm (pa_cons ha (pa_cons hb (pa_cons hc pa_nil hs3) hs2) hs) hs hpl) ?_
  rintro σ H R ⟨F, s, str, g⟩
  refine two_any str GP.afterI g ?_
  intro p q v w F2 H2 s2 g2 st ep eq
  obtain ⟨i, j, h1, h2, g3⟩ := int2 g2
  split at g3
  · rename_i hz
    exact ⟨i, j, -1, (i - j).toNat, by rw [(ep.vw st.str h1).int, (eq.vw st.str h2).int], neg_one_rg hz, GP.ok (R := RI P σ) g3 st wk_rngd⟩
  · exact g3.elim
/-! enumerate, reversed: of a list or a tuple -/
def seqF (f : List D → List D) (c : Sts → Rs PV) (s : Sts) : Rs (List D × List PV) := (c s).bind fun p s1 => match view s1 p with
    | some d => (lift (itemsD d) s1).bind fun ds s2 => .ok (f ds, [p]) s2
    | none => .no
theorem seqF_ok {f : List D → List D} {c : Sts → Rs PV} {σ : St} {F H : Hp} {s : Sts} {R : It → Hp → Prop} {J J' : Addr → Nat → It} (str : StR P F H σ s) (g : GP (RI P σ) P W σ F H s (seqF f c s) R)
    (hl : ∀ a xs ds F1 H1 s1 p, RpL P F1 ds xs → (∀ F2 H2, Keep P σ F1 H1 (lockL s1 [p]) F2 H2 → SqL P.K H2 a xs) → Wk P σ (J a xs.length) (f ds) [p] F1 H1 s1)
    (ht : ∀ a xs ds F1 H1 s1 p, RpL P F1 ds xs → (∀ F2 H2, Keep P σ F1 H1 (lockL s1 [p]) F2 H2 → SqT P.K H2 a xs) → Wk P σ (J' a xs.length) (f ds) [p] F1 H1 s1) :
    tSE P W c σ H fun x H1 => ∃ a xs, x = .ref a ∧ ((SqL P.K H1 a xs ∧ R (J a xs.length) H1) ∨ (SqT P.K H1 a xs ∧ R (J' a xs.length) H1)) := by
  refine ⟨F, s, str, GP.bind g fun p s1 e1 g1 v F1 H1 st ev => ?_⟩
  cases hv : view s1 p with
  | none => rw [hv] at g1; exact g1.elim
  | some d =>
    rw [hv] at g1
    cases hd : itemsD d with
    | none => simp only [hd] at g1; exact g1.elim
    | some ds =>
      simp only [hd] at g1
      have g2 : ∀ J, Wk P σ J (f ds) [p] F1 H1 s1 → R J H1 := fun J w => GP.ok (R := RI P σ) g1 st w
      obtain ⟨a, xs, e, r, q⟩ := seq_keep (ps := [p]) st.str ev hv hd (by simp)
      refine ⟨a, xs, e, ?_⟩
      rcases q with ⟨q, k⟩ | ⟨q, k⟩
      · exact .inl ⟨q, g2 _ (hl a xs ds F1 H1 s1 p r k)⟩
      · exact .inr ⟨q, g2 _ (ht a xs ds F1 H1 s1 p r k)⟩
theorem enum_len (ds : List D) : (enumD ds).length = ds.length := by simp [enumD]
theorem wk_enum {σ : St} {F1 H1 : Hp} {s1 : Sts} {J : It} {ds : List D} {xs : List V} {ps : List PV} {G : Hp → Prop} (w : Walk J xs.length G (YPair (fun i => some (.int (i : Nat))) (fun i => xs[i]?))) (r : RpL P F1 ds xs)
    (k : ∀ F2 H2, Keep P σ F1 H1 (lockL s1 ps) F2 H2 → G H2) : Wk P σ J (enumD ds) ps F1 H1 s1 := by
  refine wk_pair (dx := fun i => some (.int (i : Nat))) (dy := fun i => ds[i]?) (by rw [enum_len, r.length]; exact w) (fun i x h => ⟨_, rfl, ?_⟩) (fun i x h => r.getV h) (fun i x y hx hy => ?_) k
  · cases h; rfl
  · cases hx
    simp [enumD, List.getElem?_zipIdx, hy]
theorem si_enum {elts : List Expr} {kk : Nat} {tpos : Pos} {e : Expr} {c : Sts → Rs PV} (hK : X.K = P.K) (hg : Gl X "enumerate") (hm : X.mg "enumerate" = none) (h : SE P W X e c) (hs : starEach [e] X.env = [(false, eval e X.env)]) :
    SI P W X (.Tuple elts kk tpos) (.Call (.Name "enumerate" p) [e] [] pos) (seqF enumD c) := by
  refine PI.weak (pi_enumA hg hm (pa_one hs h) hs) ?_
  rintro σ H R ⟨F, s, str, g⟩
  have := seqF_ok (J := fun a _ => Ite P.K a) (J' := fun a _ => ItuE P.K a) str g (fun a xs ds F1 H1 s1 p r k => wk_enum walk_enum r k) (fun a xs ds F1 H1 s1 p r k => wk_enum walk_enumU r k)
  obtain ⟨F0, s0, str0, g0⟩ := this
  refine ⟨F0, s0, str0, ?_⟩
  revert g0
  generalize c s0 = r
  intro g0
  cases r with
  | ok x s' => exact fun b F' H' st ev => by obtain ⟨a, xs, e1, q⟩ := g0 b F' H' st ev; rw [hK]; exact ⟨a, xs, by rw [e1], q⟩
  | er x s' => exact g0
  | no => exact g0
theorem walk_revT {K : PySem.W.Frag} {a : Addr} {xs : List V} : Walk (RT.ItvT K a xs.length) xs.length (fun H => SqT K H a xs) (fun i H x H' => H' = H ∧ xs[xs.length - 1 - i]? = some x) :=
  ⟨fun i _ hi q => ⟨hi, xs, xs[xs.length - 1 - i]'(by omega), q, by simp [show xs.length - 1 - i < xs.length by omega]⟩, fun _ _ => Nat.le_refl _, fun _ _ _ _ _ q y => ⟨y.1, y.2 xs q⟩⟩
theorem wk_rev {σ : St} {F1 H1 : Hp} {s1 : Sts} {J : It} {ds : List D} {xs : List V} {ps : List PV} {G : Hp → Prop} (w : Walk J xs.length G (fun i H x H' => H' = H ∧ xs[xs.length - 1 - i]? = some x)) (r : RpL P F1 ds xs)
    (k : ∀ F2 H2, Keep P σ F1 H1 (lockL s1 ps) F2 H2 → G H2) : Wk P σ J ds.reverse ps F1 H1 s1 := by
  refine ⟨G, _, by rw [List.length_reverse, r.length]; exact w, fun F2 H2 kp => ⟨k F2 H2 kp, fun i x H3 σ2 s2 hi y str => ?_⟩⟩
  obtain ⟨rfl, hx⟩ := y
  obtain ⟨d, h1, h2⟩ := r.getV hx
  refine ⟨F2, d, Step.refl str, ?_, Rp.mono kp.ff d h2⟩
  rw [List.length_reverse] at hi
  rw [List.getElem?_reverse hi, r.length]; exact h1
theorem si_rev {e : Expr} {c : Sts → Rs PV} (hK : X.K = P.K) (hg : Gl X "reversed") (hm : X.mg "reversed" = none) (h : SE P W X e c) (hs : starEach [e] X.env = (false, eval e X.env) :: starEach [] X.env) :
    SI P W X tg (.Call (.Name "reversed" p) [e] [] pos) (seqF List.reverse c) := by
  refine PI.weak (RT.pi_revA hg hm h hs) ?_
  rintro σ H R ⟨F, s, str, g⟩
  have := seqF_ok (J := fun a n => Itv P.K a n) (J' := fun a n => RT.ItvT P.K a n) str g (fun a xs ds F1 H1 s1 p r k => wk_rev walk_rev r k) (fun a xs ds F1 H1 s1 p r k => wk_rev walk_revT r k)
  rw [hK]; exact this
/-! zip -/
def zipC (ca cb : Sts → Rs PV) (s : Sts) : Rs (List D × List PV) := (ca s).bind fun p s1 => (cb s1).bind fun q s2 => match view s2 p, view s2 q with
    | some (.lst xs), some (.lst ys) => .ok (List.zipWith (fun x y => D.tup [x, y]) xs ys, [p, q]) s2
    | some (.tup xs), some (.tup ys) => .ok (List.zipWith (fun x y => D.tup [x, y]) xs ys, [p, q]) s2
    | _, _ => .no
theorem walk_zipT {K : PySem.W.Frag} {a b : Addr} {xs ys : List V} {n : Nat} (hn : n = min xs.length ys.length) : Walk (RZ.ItzT K a b) n (fun H => SqT K H a xs ∧ SqT K H b ys) (YPair (fun i => xs[i]?) (fun i => ys[i]?)) := by
  subst hn
  refine ⟨fun i _ hi q => ?_, fun _ q => ⟨xs, ys, q.1, q.2, by omega⟩, fun i H v H' _ q y => ?_⟩
  · have l1 : i < xs.length := by omega
    have l2 : i < ys.length := by omega
    exact ⟨xs, ys, xs[i], ys[i], q.1, q.2, by simp [l1], by simp [l2]⟩
  · obtain ⟨T, x, z, e1, e2, e3, e4, e5⟩ := y
    exact ⟨T, x, z, e1, e2, e3, e4 xs q.1, e5 ys q.2⟩
theorem wk_zip {σ : St} {F1 H1 : Hp} {s1 : Sts} {J : It} {ds es : List D} {xs ys : List V} {ps : List PV} {G : Hp → Prop} (w : Walk J (min xs.length ys.length) G (YPair (fun i => xs[i]?) (fun i => ys[i]?))) (r : RpL P F1 ds xs) (r' : RpL P F1 es ys)
    (k : ∀ F2 H2, Keep P σ F1 H1 (lockL s1 ps) F2 H2 → G H2) : Wk P σ J (List.zipWith (fun x y => D.tup [x, y]) ds es) ps F1 H1 s1 := by
  refine wk_pair (dx := fun i => ds[i]?) (dy := fun i => es[i]?) (by rw [List.length_zipWith, r.length, r'.length]; exact w) (fun i x h => r.getV h) (fun i x h => r'.getV h) (fun i x y hx hy => ?_) k
  have hx' : ds[i]? = some x := hx
  have hy' : es[i]? = some y := hy
  simp [List.getElem?_zipWith, hx', hy']
theorem si_zip {elts : List Expr} {kk : Nat} {tpos : Pos} (hK : X.K = P.K) (hg : Gl X "zip") (hm : X.mg "zip" = none) (ha : SE P W X a ca) (hb : SE P W X b cb) (hs : starEach [a, b] X.env = (false, eval a X.env) :: starEach [b] X.env) (hs2 : starEach [b] X.env = (false, eval b X.env) :: starEach [] X.env)
    (hpl : (backTo pos (starEach [b] X.env)).any (·.1) = false) : SI P W X (.Tuple elts kk tpos) (.Call (.Name "zip" p) [a, b] [] pos) (zipC ca cb) := by
  refine PI.weak (RZ.pi_zipA hg hm (pa_cons ha (pa_cons hb pa_nil hs2) hs) hs hpl) ?_
  rintro σ H R ⟨F, s, str, g⟩
  refine two_any str GP.afterI g ?_
  intro p q v w F2 H2 s2 g2 st ep eq
  rw [hK]
  cases h1 : view s2 p with
  | none => rw [h1] at g2; exact g2.elim
  | some x =>
    cases h2 : view s2 q with
    | none => rw [h1, h2] at g2; cases x <;> exact g2.elim
    | some y =>
      rw [h1, h2] at g2
      cases x <;> cases y <;> first | exact g2.elim | skip
      · obtain ⟨a1, xs, e1, r1, q1, k1⟩ := tup_keep (ps := [p, q]) st.str ep h1
        obtain ⟨a2, ys, e2, r2, q2, k2⟩ := tup_keep (ps := [p, q]) st.str eq h2
        exact ⟨a1, a2, xs, ys, by rw [e1, e2], .inr ⟨q1, q2, GP.ok (R := RI P σ) g2 st (wk_zip (walk_zipT rfl) r1 r2 fun F3 H3 z => ⟨k1 F3 H3 z, k2 F3 H3 z⟩)⟩⟩
      · obtain ⟨a1, xs, e1, r1, q1, k1⟩ := lst_keep (ps := [p, q]) st.str ep h1 (by simp)
        obtain ⟨a2, ys, e2, r2, q2, k2⟩ := lst_keep (ps := [p, q]) st.str eq h2 (by simp)
        exact ⟨a1, a2, xs, ys, by rw [e1, e2], .inl ⟨SqL.of q1, SqL.of q2, GP.ok (R := RI P σ) g2 st (wk_zip (walk_zip rfl) r1 r2 fun F3 H3 z => ⟨SqL.of (k1 F3 H3 z), SqL.of (k2 F3 H3 z)⟩)⟩⟩
end
end Z

/-! Z14: comprehensions -/
namespace Z
open PySem PySem.Spec PyProof.Rows L2
section
variable {P : Par} {W : WX} {X : Cx} {pos p : Pos}
theorem lock_io {s : Sts} {p : PV} {j : Nat} {ds : List D} (h : (lock s p)[j]? = some (.io ds)) : s[j]? = some (.io ds) := by
  rcases lock_cases s p with e | ⟨i, es, rfl, h', e⟩
  · rwa [e] at h
  · rw [e, brw_get h'] at h
    split at h
    · cases h
    · exact h
theorem lockL_io {j : Nat} {ds : List D} : ∀ {ps : List PV} {s : Sts}, (lockL s ps)[j]? = some (.io ds) → s[j]? = some (.io ds)
  | [], _, h => h
  | p :: ps, s, h => lock_io (lockL_io (ps := ps) (s := lock s p) h)
theorem unlock_get {s0 s : Sts} {p : PV} {j : Nat} {sl : Sl} (h : (unlock s0 s p)[j]? = some sl) (own : ∃ ds : List D, sl = .lst ds ∨ sl = .io ds ∨ sl = .brw ds) : ∃ ds : List D, s[j]? = some (.lst ds) ∨ s[j]? = some (.io ds) ∨ s[j]? = some (.brw ds) := by
  obtain ⟨ds, own⟩ := own
  have base : s[j]? = some sl → ∃ ds : List D, s[j]? = some (.lst ds) ∨ s[j]? = some (.io ds) ∨ s[j]? = some (.brw ds) := fun h => ⟨ds, by rcases own with e | e | e <;> subst e <;> simp [h]⟩
  cases p with
  | plc i =>
    simp only [unlock] at h
    split at h
    · rename_i es fs h1 h2
      by_cases z : i = j
      · subst z; exact ⟨fs, .inr (.inr h2)⟩
      · rw [List.getElem?_set_ne z] at h; exact base h
    · rename_i es fs h1 h2
      by_cases z : i = j
      · subst z; exact ⟨fs, .inr (.inr h2)⟩
      · rw [List.getElem?_set_ne z] at h; exact base h
    · exact base h
  | _ => exact base h
theorem own_unlock {σ : St} {s0 s : Sts} {p : PV} {j : Nat} {a : Addr} (h : Own σ (unlock s0 s p) j a) : Own σ s j a := by
  obtain ⟨h1, ds, h2⟩ := h
  refine ⟨h1, ?_⟩
  rcases h2 with h2 | h2 | h2
  · exact unlock_get h2 ⟨ds, .inl rfl⟩
  · exact unlock_get h2 ⟨ds, .inr (.inl rfl)⟩
  · exact unlock_get h2 ⟨ds, .inr (.inr rfl)⟩
theorem own_unlockL {σ : St} {s : Sts} {j : Nat} {a : Addr} : ∀ {ps : List PV} {s0 : Sts}, Own σ (unlockL s0 s ps) j a → Own σ s j a
  | [], _, h => h
  | p :: ps, s0, h => own_unlockL (ps := ps) (s0 := lock s0 p) (own_unlock h)
theorem unlock_length {s0 s : Sts} {p : PV} : (unlock s0 s p).length = s.length := by
  cases p with
  | plc i => simp only [unlock]; split <;> simp
  | _ => rfl
def turnC (tg : Z.TG) (ct : Sts → Rs Bool) (ce : Sts → Rs PV) (d : D) (acc : List D) (s : Sts) : Rs (List D) := match asgD tg d s with
  | some s1 => (ct s1).bind fun k s2 => if k = true then (ce s2).bind fun p s3 => (match frz s3 p with
      | some (y, s4) => if acc.length < sizeLine then .ok (acc ++ [y]) s4 else .no
      | none => .no) else .ok acc s2
  | none => .no
def lcC (own : List Nat) (tg : Z.TG) (ci : Sts → Rs (List D × List PV)) (ct : Sts → Rs Bool) (ce : Sts → Rs PV) (s : Sts) : Rs PV := (ci s).bind fun x s1 =>
    if canWipe s1 own then
      (lcL own (turnC tg ct ce) x.1 [] (lockL s1 x.2)).bind fun acc s2 => .ok (.tmp acc) (unlockL s1 (backS (lockL s1 x.2) s2 own) x.2)
    else .no
def tSTs (P : Par) (W : WX) (c : Sts → Rs Bool) : TT := fun σ H Q => ∃ F s, StR P F H σ s ∧ GP RB P W σ F H s (c s) Q
abbrev WN : WX := fun _ _ _ _ => False
theorem canWipe_io {s : Sts} {vs : List Nat} (h : canWipe s vs = true) : ∀ j ∈ vs, ∀ ds, s[j]? ≠ some (Sl.io ds) := by
  intro j hj ds e
  have := List.all_eq_true.mp h j hj
  rw [e] at this
  cases this
/-- what a comprehension asks, from what its parts give -/
theorem lc_weak (pf : P.Free) {own : List Nat} {tg : Z.TG} {ci : Sts → Rs (List D × List PV)} {ct : Sts → Rs Bool} {ce : Sts → Rs PV} (htg : ∀ j ∈ tgN tg, j ∈ own) {σ : St} {H : Hp} {Q : VK} (h : tSE P W (lcC own tg ci ct ce) σ H Q) :
    tLc (tSI P W ci) (tSG P tg) (tSTs P WN ct) (tSE P WN ce) own σ H Q := by
  obtain ⟨F, s, str, g⟩ := h
  refine ⟨F, s, str, GP.bind g fun x s1 e1 g1 J F1 H1 st wk => ?_⟩
  obtain ⟨ds, locks⟩ := x
  simp only at g1 wk
  intro Dn hD
  split at g1
  case isFalse => exact g1.elim
  rename_i hcw
  cases hr : lcL own (turnC tg ct ce) ds [] (lockL s1 locks) with
  | no => rw [hr] at g1; exact g1.elim
  | er x s2 =>
    exfalso
    have : ∀ (ds acc : List D) (s : Sts), ∀ x s2, lcL own (turnC tg ct ce) ds acc s ≠ .er x s2 := by
      intro ds
      induction ds with
      | nil => intro acc s x s2 e; cases e
      | cons d ds ih =>
        intro acc s x s2 e
        simp only [lcL] at e
        split at e
        · exact ih _ _ _ _ e
        · cases e
    exact this _ _ _ _ _ hr
  | ok accf sf =>
    rw [hr] at g1
    obtain ⟨G, Y, w, hk⟩ := wk.ex
    have strL : StR P F1 H1 σ (lockL s1 locks) := st.str.lockL locks
    have strW : StR P F1 H1 (wipe σ own) (wipeS (lockL s1 locks) own) := strL.wiped pf (Ag.wipe own σ)
    have st0 := Step.refl strW
    have noD : ∀ j, ¬ Own (wipe σ own) (wipeS (lockL s1 locks) own) j Dn := fun j o => by
      obtain ⟨_, xs, e⟩ := o.out strW
      rw [hD] at e; cases e
    have fD : F1 Dn = none := by
      cases q : F1 Dn with
      | none => rfl
      | some u => have := strW.sub Dn u q; rw [hD] at this; cases this
    have keepOf : ∀ {F' H' s'}, Step P (wipe σ own) F1 H1 (wipeS (lockL s1 locks) own) (wipe σ own) F' H' s' → Keep P σ F1 H1 (lockL s1 locks) F' H' := fun stp =>
      ⟨stp.ff, stp.str.sub, fun a o e n => stp.hh a o e fun f => n (by
        obtain ⟨j, z, h1, es, h2⟩ := fp_wipe (Ag.wipe own σ) f
        exact ⟨j, h1, es, h2⟩)⟩
    refine lc_it w (fun i H' => ∃ F' s' acc, Step P (wipe σ own) F1 H1 (wipeS (lockL s1 locks) own) (wipe σ own) F' H' (wipeS s' own) ∧
      EvR P H1 F' H' (wipe σ own) (wipeS s' own) (.tmp acc) (.ref Dn) ∧ lcL own (turnC tg ct ce) (ds.drop i) acc s' = .ok accf sf) ?_ ?_ ?_ ?_
    · refine ⟨F1, lockL s1 locks, [], st0.poke hD fD noD, ⟨Dn, [], rfl, fD, upd_same, rfl, hD, noD⟩, by simpa using hr⟩
    · rintro i H' _ ⟨F', s', acc, stp, _, _⟩
      exact (hk F' H' (keepOf stp)).1
    · rintro i x H' H'' hi ⟨F', s', acc, stp, evD, run⟩ y
      obtain ⟨F3, d, stY, hd, rd3⟩ := (hk F' H' (keepOf stp)).2 i x H'' _ _ hi y stp.str
      have hdrop : ds.drop i = d :: ds.drop (i + 1) := by
        have hi' := (List.getElem?_eq_some_iff.mp hd).1
        rw [List.drop_eq_getElem_cons hi']
        congr 1
        exact (List.getElem?_eq_some_iff.mp hd).2
      rw [hdrop] at run
      simp only [lcL] at run
      have idem : wipeS (wipeS s' own) own = wipeS s' own := wipeS_idem s' own
      -- the turn
      cases ha : asgD tg d (wipeS s' own) with
      | none => simp only [turnC, ha] at run; cases run
      | some sa =>
        simp only [turnC, ha] at run
        refine ⟨F3, wipeS s' own, d, sa, stY.str, rd3, ha, fun σ2 stA agA => ?_⟩
        have ag2 : Ag own σ2 (wipe σ own) := agA.more htg
        refine ⟨by rw [ag2.wipes]; exact (Ag.wipe own σ).wipes, F3, sa, stA.str, ?_⟩
        cases hc : ct sa with
        | no => rw [hc] at run; cases run
        | er x s2 => rw [hc] at run; cases run
        | ok k s2 =>
          rw [hc] at run
          rintro b F4 H4 stT rfl
          have whole : ∀ {F5 H5 s5}, Step P σ2 F3 H'' sa σ2 F5 H5 s5 → Step P (wipe σ own) F' H' (wipeS s' own) (wipe σ own) F5 H5 (wipeS s5 own) := fun q =>
            Step.wiped pf ((stY.trans stA).trans q) idem (Ag.refl _ _) ag2.symm
          cases k with
          | false =>
            simp only [Rs.bind, Bool.false_eq_true, if_false] at run
            rw [if_neg (by simp)]
            exact ⟨F4, s2, acc, stp.trans (whole stT), evD.carry (whole stT), run⟩
          | true =>
            simp only [Rs.bind, if_true] at run
            rw [if_pos rfl]
            refine ⟨F4, s2, stT.str, ?_⟩
            cases he : ce s2 with
            | no => rw [he] at run; cases run
            | er x s3 => rw [he] at run; cases run
            | ok p s3 =>
              rw [he] at run
              intro y F5 H5 stE evE
              have stE' := stE
              cases hf : frz s3 p with
              | none => simp only [hf] at run; cases run
              | some z =>
                obtain ⟨yd, s4⟩ := z
                simp only [hf] at run
                obtain ⟨F6, st6, rd6, sub6, _⟩ := frz_ok stE evE.w hf
                by_cases hlen' : acc.length < sizeLine
                case neg => simp only [if_neg hlen'] at run; cases run
                simp only [if_pos hlen'] at run
                have big := whole (stT.trans st6)
                obtain ⟨a, accV, ea, fa, ha', ra, na, oa⟩ := evD.carry big
                cases ea
                refine ⟨accV, ha', by rw [← ra.length]; exact hlen', F6, s4, acc ++ [yd], (stp.trans big).poke hD fa oa, ?_, run⟩
                exact ⟨Dn, accV ++ [y], rfl, fa, upd_same, ra.append (.one rd6), hD, oa⟩
    · rintro H' ⟨F', s', acc, stp, evD, run⟩
      rw [List.drop_eq_nil_of_le (Nat.le_refl _)] at run
      simp only [lcL, Rs.ok.injEq] at run
      obtain ⟨rfl, rfl⟩ := run
      simp only [Rs.bind] at g1
      have stB : Step P σ F1 H1 (wipeS (lockL s1 locks) own) σ F' H' (wipeS s' own) := by
        have := stp.wiped pf (vs := own) (τ := σ) (τ' := σ) (wipeS_idem _ _) (Ag.wipe own σ).symm (Ag.wipe own σ).symm
        rwa [wipeS_idem] at this
      have stC := Step.back (vs := own) strL (fun j hj ds e => canWipe_io hcw j hj ds (lockL_io e)) stB
      have stD := Step.unlockL locks stC
      refine GP.ok (R := RE P σ) g1 (st.trans stD) ?_
      obtain ⟨a, accV, ea, fa, ha', ra, na, oa⟩ := evD
      cases ea
      refine ⟨Dn, accV, rfl, fa, ha', ra, st.dm _ na, fun j o => ?_⟩
      obtain ⟨o1, es, o2⟩ := own_unlockL o
      have hlen : (lockL s1 locks).length = s'.length := by
        have l1 := strL.len
        have l2 := stp.str.len
        rw [wipe_length, wipeS_length] at l2
        omega
      rw [backS_get _ _ hlen] at o2
      by_cases hj : j ∈ own
      · rw [if_pos hj] at o2
        obtain ⟨_, xs, e⟩ := Own.out ⟨o1, es, o2⟩ strL
        rw [hD] at e; cases e
      · rw [if_neg hj] at o2
        refine oa j ⟨?_, es, ?_⟩
        · rw [wipe_get, if_neg hj]; exact o1
        · rw [wipeS_get, if_neg hj]; exact o2
end
end Z

/-! Z15: comprehensions as expressions; methods that change a list; list(range(..)) -/
namespace Z
open PySem PySem.Spec PyProof.Rows L2
section
variable {P : Par} {W : WX} {X : Cx} {pos p : Pos}
theorem se_lc (pf : P.Free) {elt tge iter : Expr} {ifs : List Expr} {scope : Scope} {own : List (Str × Nat)} {tg : Z.TG} {ci : Sts → Rs (List D × List PV)} {ct : Sts → Rs Bool} {ce : Sts → Rs PV} (hc : X.calm = true) (hN : X.N.Nodup) (hi : SI P W X tge iter ci) (ok : BlkOk X.N X.env.scope scope own)
    (hg : ∀ (s : Shared) (H : Hp) (C : Addr) (cl : List (Str × Addr)) (fp : List Addr), SG P (X.blk s H scope (compEnvC scope cl C X.env) fp) tge tg) (ht : ∀ (s : Shared) (H : Hp) (C : Addr) (cl : List (Str × Addr)) (fp : List Addr), PTs (X.blk s H scope (compEnvC scope cl C X.env) fp) ifs (tSTs P WN ct))
    (he : ∀ (s : Shared) (H : Hp) (C : Addr) (cl : List (Str × Addr)) (fp : List Addr), SE P WN (X.blk s H scope (compEnvC scope cl C X.env) fp) elt ce) (hs : ∀ x, foldedSetIterable iter X.env x = pure x) (htg : ∀ j ∈ tgN tg, j ∈ own.map (·.2)) :
    SE P W X (.ListComp elt [⟨tge, iter, ifs, 0⟩] scope pos) (lcC (own.map (·.2)) tg ci ct ce) :=
  PE.weak (pe_lc hc hN hi ok hg ht he hs) fun _ _ _ h => lc_weak pf htg h
/-! tests -/
theorem PTs.weak {ifs : List Expr} {t t' : TT} (h : PTs X ifs t) (m : ∀ σ H Q, t' σ H Q → t σ H Q) : PTs X ifs t' := ⟨fun pins s σ H Q I q => h.run pins s σ H Q I (m σ H Q q)⟩
theorem st_nil : PTs X [] (tSTs P W fun s => .ok true s) := PTs.weak pts_nil (by
  rintro σ H Q ⟨F, s, str, g⟩
  exact g true F H (Step.refl str) rfl)
theorem st_one {c : Expr} {ct : Sts → Rs PV} (h : ST P W X c ct) : PTs X [c] (tSTs P W fun s => (isT (ct s)).bind fun k s1 => if k = true then .ok true s1 else .ok false s1) := PTs.weak (pts_one h) (by
  rintro σ H Q ⟨F, s, str, g⟩
  refine ⟨F, s, str, ?_⟩
  dsimp only at g
  cases h : isT (ct s) with
  | ok k s1 => rw [h] at g; cases k <;> exact g
  | er x s1 => rw [h] at g; exact g
  | no => rw [h] at g; exact g)
/-! methods -/
def mutC (k : Mt) (i : Nat) (ces : Sts → Rs (List PV)) (s : Sts) : Rs PV := (rdL s i).bind fun _ s0 => (ces s0).bind fun ps s1 => match frzL s1 ps with
    | some (ds, s2) => match s2[i]? with
      | some (.lst xs) => match mtD k xs ds with
        | some (d, ys) => .ok (.fz d) (s2.set i (.lst ys))
        | none => .no
      | some (.io xs) => match mtD k xs ds with
        | some (d, ys) => .ok (.fz d) (s2.set i (.io ys))
        | none => .no
      | _ => .no
    | none => .no
def mtRl : Mt → V → List V → Hp → VK → Prop
  | .append => rAppend
  | .pop => rPop
  | .popAt => rPopAt
  | .reverse => rReverse
  | .clear => rClear
  | _ => fun _ _ _ _ => False
theorem ixD_seq {i : Int} {n k : Nat} (h : ixD n i = some k) : seqIndex? i n = some k := by
  have e : seqIndex? i n = if (0 ≤ (if i < 0 then i + (n : Int) else i) && (if i < 0 then i + (n : Int) else i) < n) = true then some (if i < 0 then i + (n : Int) else i).toNat else none := rfl
  rw [e]
  unfold ixD at h
  by_cases h0 : 0 ≤ i
  · have hn : ¬ i < 0 := by omega
    rw [if_pos h0] at h
    by_cases h1 : i < n
    · rw [if_pos h1] at h
      simpa [hn, h0, h1] using h
    · rw [if_neg h1] at h; cases h
  · have hn : i < 0 := by omega
    rw [if_neg h0] at h
    by_cases h1 : -(n : Int) ≤ i
    · rw [if_pos h1] at h
      have h2 : 0 ≤ i + (n : Int) := by omega
      have h3 : i + (n : Int) < n := by omega
      simpa [hn, h2, h3] using h
    · rw [if_neg h1] at h; cases h
theorem mt_ok {k : Mt} {F H : Hp} {xs ys ds : List D} {d : D} {xv vs : List V} {l : Addr} {Q : VK} (e : mtD k xs ds = some (d, ys)) (rx : RpL P F xs xv) (rd : RpL P F ds vs) (hl : H l = some (.lst xv))
    (q : ∀ v yv, Rp P F d v → RpL P F ys yv → Q v (upd H l (.lst yv))) : mtRl k (.ref l) vs H Q := by
  cases k with
  | append =>
    cases ds with
    | nil => simp [mtD] at e
    | cons d' ds =>
      cases ds with
      | nil =>
        obtain ⟨v, r, rfl, h1, h2⟩ := rd
        cases h2
        simp only [mtD] at e
        split at e
        · rename_i hz
          cases e
          exact ⟨l, xv, v, rfl, rfl, hl, by rw [← rx.length]; exact hz, q _ _ rfl (rx.append (.one h1))⟩
        · cases e
      | cons => simp [mtD] at e
  | pop =>
    cases ds with
    | cons => simp [mtD] at e
    | nil =>
      cases rd
      simp only [mtD, Option.map_eq_some_iff] at e
      obtain ⟨y, h1, h2⟩ := e
      cases h2
      obtain ⟨v, h3, h4⟩ := rx.get h1
      exact ⟨l, xv, v, rfl, rfl, hl, by rw [← rx.length]; exact h3, q _ _ h4 rx.dropLast⟩
  | popAt =>
    cases ds with
    | nil => simp [mtD] at e
    | cons d' ds =>
      cases ds with
      | cons => cases d' <;> simp [mtD] at e
      | nil =>
        cases d' <;> simp only [mtD] at e <;> first | (cases e; done) | skip
        rename_i i
        obtain ⟨v, r, rfl, h1, h2⟩ := rd
        cases h2
        cases h1
        split at e
        · rename_i hz
          cases hk : ixD xs.length i with
          | none => rw [hk] at e; cases e
          | some k =>
            rw [hk] at e
            simp only [Option.bind_some, Option.map_eq_some_iff] at e
            obtain ⟨y, h5, h6⟩ := e
            cases h6
            obtain ⟨v, h3, h4⟩ := rx.get h5
            exact ⟨l, xv, i, k, v, rfl, rfl, hl, hz.1, hz.2, by rw [← rx.length]; exact ixD_seq hk, h3, q _ _ h4 (rx.eraseIdx k)⟩
        · cases e
  | reverse =>
    cases ds with
    | cons => simp [mtD] at e
    | nil =>
      cases rd
      simp only [mtD, Option.some.injEq, Prod.mk.injEq] at e
      obtain ⟨rfl, rfl⟩ := e
      exact ⟨l, xv, rfl, rfl, hl, q _ _ rfl rx.reverse⟩
  | clear =>
    cases ds with
    | cons => simp [mtD] at e
    | nil =>
      cases rd
      simp only [mtD, Option.some.injEq, Prod.mk.injEq] at e
      obtain ⟨rfl, rfl⟩ := e
      exact ⟨l, xv, rfl, rfl, hl, q _ _ rfl rfl⟩
  | _ => simp [mtD] at e
/-- what the parts of a method's call ask -/
theorem mut_core {k : Mt} {i : Nat} {ces : Sts → Rs (List PV)} {σ : St} {H : Hp} {Q : VK} (h : tSE P W (mutC k i ces) σ H Q) :
    ∃ a, σ[i]? = some (some (.ref a)) ∧ (∃ xs, SqL P.K H a xs) ∧ tSA P W ces σ H fun vs H2 => mtRl k (.ref a) vs H2 Q := by
  obtain ⟨F, s, str, g⟩ := h
  have hσ : ∀ {sl : Sl} {ds : List D}, s[i]? = some sl → (sl = .lst ds ∨ sl = .io ds) → ∃ a, σ[i]? = some (some (.ref a)) ∧ ∃ xs, SqL P.K H a xs := by
    intro sl ds h1 h2
    have hlt : i < σ.length := by rw [str.len]; exact lt_of_get h1
    have q := str.slot i _ _ (List.getElem?_eq_getElem hlt) h1
    cases hv : σ[i] with
    | none => rw [hv] at q; rcases h2 with rfl | rfl <;> exact q.elim
    | some v =>
      rw [hv] at q
      rcases h2 with rfl | rfl <;>
      · obtain ⟨a, xs, rfl, f, g, r⟩ := q
        exact ⟨a, by rw [List.getElem?_eq_getElem hlt, hv], xs, SqL.of g⟩
  have main : GP (RE P σ) P W σ F H s ((ces s).bind fun ps s1 => match frzL s1 ps with
    | some (ds, s2) => match s2[i]? with
      | some (.lst xs) => match mtD k xs ds with
        | some (d, ys) => .ok (.fz d) (s2.set i (.lst ys))
        | none => .no
      | some (.io xs) => match mtD k xs ds with
        | some (d, ys) => .ok (.fz d) (s2.set i (.io ys))
        | none => .no
      | _ => .no
    | none => .no) Q → ∀ a, σ[i]? = some (some (.ref a)) → tSA P W ces σ H fun vs H2 => mtRl k (.ref a) vs H2 Q := by
    intro g a ha
    refine ⟨F, s, str, g.bind fun ps s1 e1 g1 vs F1 H1 st evs => ?_⟩
    cases h1 : frzL s1 ps with
    | none => rw [h1] at g1; exact g1.elim
    | some y =>
      obtain ⟨ds, s2⟩ := y
      rw [h1] at g1
      simp only at g1
      obtain ⟨F2, st2, hds, _⟩ := frzL_ok st evs.w h1
      have fin : ∀ (xs : List D) (t0 t : List D → Sl), (t0 = Sl.lst ∧ t = Sl.lst ∨ t0 = Sl.io ∧ t = Sl.io) → s2[i]? = some (t0 xs) → GP (RE P σ) P W σ F H s (match mtD k xs ds with
        | some (d, ys) => .ok (.fz d) (s2.set i (t ys))
        | none => .no) Q → mtRl k (.ref a) vs H1 Q := by
        intro xs t0 t ht hs2 g2
        cases hm : mtD k xs ds with
        | none => rw [hm] at g2; exact g2.elim
        | some z =>
          obtain ⟨d, ys⟩ := z
          rw [hm] at g2
          have q := st2.str.slot i _ _ ha hs2
          have q' : ∃ b xv, V.ref a = .ref b ∧ F2 b = none ∧ H1 b = some (.lst xv) ∧ RpL P F2 xs xv := by
            rcases ht with ⟨rfl, _⟩ | ⟨rfl, _⟩ <;> exact q
          obtain ⟨b, xv, eb, fb, hb, rb⟩ := q'
          cases eb
          refine mt_ok hm rb hds hb fun v yv r1 r2 => ?_
          have st3 := Step.change (t := t ys) st2 ha r2 fb (ds := xs) (by rcases ht with ⟨rfl, rfl⟩ | ⟨rfl, rfl⟩; exact .inl ⟨hs2, rfl⟩; exact .inr ⟨hs2, rfl⟩)
          exact GP.ok (R := RE P σ) g2 st3 r1
      cases hs2 : s2[i]? with
      | none => rw [hs2] at g1; exact g1.elim
      | some sl =>
        rw [hs2] at g1
        cases sl with
        | lst xs => exact fin xs Sl.lst Sl.lst (.inl ⟨rfl, rfl⟩) hs2 g1
        | io xs => exact fin xs Sl.io Sl.io (.inr ⟨rfl, rfl⟩) hs2 g1
        | _ => exact g1.elim
  simp only [mutC, rdL] at g
  cases hs : s[i]? with
  | none => rw [hs] at g; exact g.elim
  | some sl =>
    rw [hs] at g
    cases sl with
    | lst ds =>
      obtain ⟨a, ha, hx⟩ := hσ hs (.inl rfl)
      exact ⟨a, ha, hx, main g a ha⟩
    | io ds =>
      obtain ⟨a, ha, hx⟩ := hσ hs (.inr rfl)
      exact ⟨a, ha, hx, main g a ha⟩
    | _ => exact g.elim
/-- the name of a method and its built-in -/
structure MtN (X : Cx) (k : Mt) (name : Str) (id : String) : Prop where
  slot : Slot "list" name id
  ty : typeOf (.builtin id) = pure (.type "method_descriptor")
  run : MtM X id (mtRl k)
theorem mtn_append : MtN X .append "append" "list.append" := ⟨PySem.F.slot_list_append, PySem.F.type_list_append, mt_append⟩
theorem mtn_pop : MtN X .pop "pop" "list.pop" := ⟨PySem.F.slot_list_pop, PySem.F.type_list_pop, mt_pop⟩
theorem mtn_popAt : MtN X .popAt "pop" "list.pop" := ⟨PySem.F.slot_list_pop, PySem.F.type_list_pop, mt_popAt⟩
theorem mtn_reverse : MtN X .reverse "reverse" "list.reverse" := ⟨PySem.F.slot_list_reverse, PySem.F.type_list_reverse, mt_reverse⟩
theorem mtn_clear : MtN X .clear "clear" "list.clear" := ⟨PySem.F.slot_list_clear, PySem.F.type_list_clear, mt_clear⟩
section
variable {i : Nat} {x : Str} {apos cpos : Pos} {k : Mt} {name : Str} {id : String}
theorem se_mut0 (hK : X.K = P.K) (m : MtN X k name id) (hN : X.N[i]? = some x) (hv : Vis X.env.scope x) (hd : (x == ("__debug__" : Str)) = false) (hcd : (x == ("__classdict__" : Str)) = false)
    (hbase : attributeBase (.Name x p) name X.env (eval (.Name x p) X.env) = eval (.Name x p) X.env) (hline : (apos.endLine == cpos.line) = true) :
    SE P W X (.Call (.Attribute (.Name x p) name apos) [] [] cpos) (mutC k i fun s => .ok [] s) := by
  refine PE.weak (pe_bm0 PySem.F.plainAttrs_list m.slot m.ty m.run (pe_var hN hv hd hcd) hbase hline) ?_
  intro σ H Q h
  obtain ⟨a, ha, ⟨xs, hx⟩, F, s, str, g⟩ := mut_core h
  exact ⟨_, ha, .inl ⟨rfl, xs, hK ▸ hx⟩, g [] F H (Step.refl str) rfl⟩
theorem se_mut {e : Expr} {es : List Expr} {ces : Sts → Rs (List PV)} (hK : X.K = P.K) (m : MtN X k name id) (hN : X.N[i]? = some x) (hv : Vis X.env.scope x) (hd : (x == ("__debug__" : Str)) = false) (hcd : (x == ("__classdict__" : Str)) = false) (ha : SA P W X (e :: es) ces)
    (hbase : attributeBase (.Name x p) name X.env (eval (.Name x p) X.env) = eval (.Name x p) X.env)
    (hfew : ((backTo cpos (starEach (e :: es) X.env)).all (fun x => !x.1) && (backToKw cpos (keywordEach [] X.env)).all (fun x => x.1.isSome)
      && decide ((e :: es).length + ([] : List Keyword).length + (if ([] : List Keyword).isEmpty then 0 else 1) < 30)) = true) (hline : (apos.endLine == cpos.line) = true)
    (hs : starEach (e :: es) X.env = (false, eval e X.env) :: starEach es X.env) (hpl : (backTo cpos (starEach es X.env)).any (·.1) = false) :
    SE P W X (.Call (.Attribute (.Name x p) name apos) (e :: es) [] cpos) (mutC k i ces) := by
  refine PE.weak (pe_bm PySem.F.plainAttrs_list m.slot m.ty m.run (pe_var hN hv hd hcd) ha hbase hfew hline hs hpl) ?_
  intro σ H Q h
  obtain ⟨a, ha, ⟨xs, hx⟩, g⟩ := mut_core h
  exact ⟨_, ha, .inl ⟨rfl, xs, hK ▸ hx⟩, g⟩
end
/-! list(range(..)), tuple(range(..)) -/
def rngB (t : Bool) (ca cb : Sts → Rs PV) (s : Sts) : Rs PV := (ca s).bind fun p s1 => (cb s1).bind fun q s2 => match view s2 p, view s2 q with
    | some (.int i), some (.int j) => if -(2 ^ 62) ≤ i ∧ i < 2 ^ 62 ∧ -(2 ^ 62) ≤ j ∧ j < 2 ^ 62 ∧ (j - i).toNat ≤ sizeLine then
        (if t = true then .ok (.fz (.tup (rngD i (j - i).toNat))) s2 else .ok (.tmp (rngD i (j - i).toNat)) s2) else .no
    | _, _ => .no
theorem rgV_rp {F : Hp} {i j : Int} : RpL P F (rngD i (j - i).toNat) (rgV i j) := by
  have e1 : rngD i (j - i).toNat = ((List.range (j - i).toNat).map fun (k : Nat) => i + (k : Int)).map D.int := by simp [rngD]
  have e2 : rgV i j = ((List.range (j - i).toNat).map fun (k : Nat) => i + (k : Int)).map V.int := by simp [rgV]
  rw [e1, e2]; exact RpL.ofInts _
theorem rngB_ok {t : Bool} {ca cb : Sts → Rs PV} {σ : St} {H : Hp} {Q : VK} (h : tSE P W (rngB t ca cb) σ H Q) :
    tSE P W ca σ H fun x H1 => tSE P W cb σ H1 fun y H2 => ∃ i j, x = .int i ∧ y = .int j ∧ RgOk i j ∧ ∀ q, H2 q = none → Q (.ref q) (upd H2 q (if t = true then .tup (rgV i j) else .lst (rgV i j))) := by
  obtain ⟨F, s, str, g⟩ := h
  refine two str g ?_
  intro p q v w F2 H2 s2 g2 st ep eq
  obtain ⟨i, j, h1, h2, g3⟩ := int2 g2
  split at g3
  · rename_i hz
    refine ⟨i, j, (ep.vw st.str h1).int, (eq.vw st.str h2).int, ⟨hz.1, hz.2.1, hz.2.2.1, hz.2.2.2.1, hz.2.2.2.2⟩, fun q hq => ?_⟩
    cases t with
    | true => exact GP.ok (R := RE P σ) g3 (st.newF hq) (st.newT hq rgV_rp)
    | false => exact GP.ok (R := RE P σ) g3 (st.new hq) (st.newL hq rgV_rp)
  · exact g3.elim
variable {a b : Expr} {ca cb : Sts → Rs PV} {pr : Pos}
theorem prg_of {pr pc : Pos} (hgr : Gl X "range") (hmr : X.mg "range" = none) (ha : SE P W X a ca) (hb : SE P W X b cb) (na : starEach [a, b] X.env = (false, eval a X.env) :: starEach [b] X.env) (nb : starEach [b] X.env = (false, eval b X.env) :: starEach [] X.env) (hp : (backTo pc (starEach [b] X.env)).any (·.1) = false) :
    PRg X (.Call (.Name "range" pr) [a, b] [] pc) (tRg2 (tSE P W ca) (tSE P W cb)) := prg_2 hgr hmr ha hb na nb hp
theorem tse_mono {c : Sts → Rs PV} {σ : St} {H : Hp} {Q Q' : VK} (h : tSE P W c σ H Q) (m : ∀ v H, Q v H → Q' v H) : tSE P W c σ H Q' := by
  obtain ⟨F, s, str, g⟩ := h
  refine ⟨F, s, str, ?_⟩
  cases hc : c s with
  | ok x s' => rw [hc] at g; exact fun b F' H' st r => m _ _ (g b F' H' st r)
  | er x s' => rw [hc] at g; exact g
  | no => rw [hc] at g; exact g
theorem se_listRg {pc : Pos} (hc : X.calm = true) (hg : Gl X "list") (hm : X.mg "list" = none) (hgr : Gl X "range") (hmr : X.mg "range" = none) (ha : SE P W X a ca) (hb : SE P W X b cb)
    (na : starEach [a, b] X.env = (false, eval a X.env) :: starEach [b] X.env) (nb : starEach [b] X.env = (false, eval b X.env) :: starEach [] X.env) (hp : (backTo pc (starEach [b] X.env)).any (·.1) = false)
    (nc : starEach [.Call (.Name "range" pr) [a, b] [] pc] X.env = (false, eval (.Call (.Name "range" pr) [a, b] [] pc) X.env) :: starEach [] X.env) :
    SE P W X (.Call (.Name "list" p) [.Call (.Name "range" pr) [a, b] [] pc] [] pos) (rngB false ca cb) := by
  refine PE.weak (pe_listRg hc hg hm (prg_2 hgr hmr ha hb na nb hp) nc) ?_
  intro σ H Q h
  refine tse_mono (rngB_ok h) fun v H1 h1 => tse_mono h1 ?_
  rintro w H2 ⟨i, j, rfl, rfl, ok, q⟩
  exact ⟨i, j, rfl, rfl, ok, q⟩
theorem se_tupRg {pc : Pos} (hc : X.calm = true) (hg : Gl X "tuple") (hm : X.mg "tuple" = none) (hgr : Gl X "range") (hmr : X.mg "range" = none) (ha : SE P W X a ca) (hb : SE P W X b cb)
    (na : starEach [a, b] X.env = (false, eval a X.env) :: starEach [b] X.env) (nb : starEach [b] X.env = (false, eval b X.env) :: starEach [] X.env) (hp : (backTo pc (starEach [b] X.env)).any (·.1) = false)
    (nc : starEach [.Call (.Name "range" pr) [a, b] [] pc] X.env = (false, eval (.Call (.Name "range" pr) [a, b] [] pc) X.env) :: starEach [] X.env) :
    SE P W X (.Call (.Name "tuple" p) [.Call (.Name "range" pr) [a, b] [] pc] [] pos) (rngB true ca cb) := by
  refine PE.weak (pe_tupRg hc hg hm (prg_2 hgr hmr ha hb na nb hp) nc) ?_
  intro σ H Q h
  refine tse_mono (rngB_ok h) fun v H1 h1 => tse_mono h1 ?_
  rintro w H2 ⟨i, j, rfl, rfl, ok, q⟩
  exact ⟨i, j, rfl, rfl, ok, q⟩
/-- range(b) in them, as range(0, b) -/
abbrev zeroC : Sts → Rs PV := fun s => .ok (.fz (.int 0)) s
theorem rngB0_ok {t : Bool} {cb : Sts → Rs PV} {σ : St} {H : Hp} {Q : VK} (h : tSE P W (rngB t zeroC cb) σ H Q) :
    tSE P W cb σ H fun y H2 => ∃ j, y = .int j ∧ RgOk 0 j ∧ ∀ q, H2 q = none → Q (.ref q) (upd H2 q (if t = true then .tup (rgV 0 j) else .lst (rgV 0 j))) := by
  obtain ⟨F0, s0, str0, g0⟩ := rngB_ok h
  obtain ⟨F1, s1, str1, g1⟩ := g0 (.int 0) F0 H (Step.refl str0) rfl
  refine tse_mono ⟨F1, s1, str1, g1⟩ ?_
  rintro w H2 ⟨i, j, e, rfl, ok, q⟩
  cases e
  exact ⟨j, rfl, ok, q⟩
theorem se_listRg1 {pc : Pos} (hc : X.calm = true) (hg : Gl X "list") (hm : X.mg "list" = none) (hgr : Gl X "range") (hmr : X.mg "range" = none) (hb : SE P W X b cb) (nb : starEach [b] X.env = (false, eval b X.env) :: starEach [] X.env)
    (nc : starEach [.Call (.Name "range" pr) [b] [] pc] X.env = (false, eval (.Call (.Name "range" pr) [b] [] pc) X.env) :: starEach [] X.env) :
    SE P W X (.Call (.Name "list" p) [.Call (.Name "range" pr) [b] [] pc] [] pos) (rngB false zeroC cb) := by
  refine PE.weak (pe_listRg hc hg hm (prg_1 hgr hmr hb nb) nc) ?_
  intro σ H Q h
  refine tse_mono (rngB0_ok h) ?_
  rintro w H2 ⟨j, rfl, ok, q⟩
  exact ⟨j, rfl, ok, q⟩
theorem se_tupRg1 {pc : Pos} (hc : X.calm = true) (hg : Gl X "tuple") (hm : X.mg "tuple" = none) (hgr : Gl X "range") (hmr : X.mg "range" = none) (hb : SE P W X b cb) (nb : starEach [b] X.env = (false, eval b X.env) :: starEach [] X.env)
    (nc : starEach [.Call (.Name "range" pr) [b] [] pc] X.env = (false, eval (.Call (.Name "range" pr) [b] [] pc) X.env) :: starEach [] X.env) :
    SE P W X (.Call (.Name "tuple" p) [.Call (.Name "range" pr) [b] [] pc] [] pos) (rngB true zeroC cb) := by
  refine PE.weak (pe_tupRg hc hg hm (prg_1 hgr hmr hb nb) nc) ?_
  intro σ H Q h
  refine tse_mono (rngB0_ok h) ?_
  rintro w H2 ⟨j, rfl, ok, q⟩
  exact ⟨j, rfl, ok, q⟩
end
end Z

/-! Z16: statements -/
namespace Z
open PySem PySem.Spec PyProof.Rows L2
/-- what a statement's end asks -/
def GO (P : Par) (W : WX) (σ : St) (F H : Hp) (s : Sts) (r : Out) (D : Ends) : Prop := match r with
  | .nx s' => ∀ σ' F' H', Step P σ F H s σ' F' H' s' → D.nx σ' H'
  | .rt p s' => ∀ σ' F' H' v, Step P σ F H s σ' F' H' s' → EvR P H F' H' σ' s' p v → D.rt v H'
  | .bk s' => ∀ σ' F' H', Step P σ F H s σ' F' H' s' → D.bk σ' H'
  | .ct s' => ∀ σ' F' H', Step P σ F H s σ' F' H' s' → D.ct σ' H'
  | .er x s' => ∀ cls d σ' F' H', Step P σ F H s σ' F' H' s' → XR P F' x cls d → W cls d σ' H'
  | .no => False
def tSS (P : Par) (W : WX) (c : Sts → Out) : TS := fun D σ H => ∃ F s, StR P F H σ s ∧ GO P W σ F H s (c s) D
abbrev SS (P : Par) (W : WX) (X : Cx) (st : Stmt) (c : Sts → Out) : Prop := PS X st (tSS P W c)
abbrev SSs (P : Par) (W : WX) (X : Cx) (st : List Stmt) (c : Sts → Out) : Prop := PSs X st (tSS P W c)
section
variable {P : Par} {W : WX} {X : Cx} {pos p : Pos}
theorem PS.weak {st : Stmt} {t t' : TS} (h : PS X st t) (m : ∀ D σ H, t' D σ H → t D σ H) : PS X st t' := ⟨fun pins s σ H D I q => h.run pins s σ H D I (m D σ H q)⟩
theorem PSs.weak {st : List Stmt} {t t' : TS} (h : PSs X st t) (m : ∀ D σ H, t' D σ H → t D σ H) : PSs X st t' := ⟨fun pins s σ H D I q => h.run pins s σ H D I (m D σ H q)⟩
section
variable {σ σ1 : St} {F F1 H H1 : Hp} {s s1 : Sts} {D : Ends}
theorem GO.after {r : Out} (h : GO P W σ F H s r D) (st : Step P σ F H s σ1 F1 H1 s1) : GO P W σ1 F1 H1 s1 r D := by
  cases r with
  | nx s' => exact fun σ' F' H' y => h σ' F' H' (st.trans y)
  | rt p s' => exact fun σ' F' H' v y e => h σ' F' H' v (st.trans y) (e.base st.dm)
  | bk s' => exact fun σ' F' H' y => h σ' F' H' (st.trans y)
  | ct s' => exact fun σ' F' H' y => h σ' F' H' (st.trans y)
  | er x s' => exact fun cls d σ' F' H' y q => h cls d σ' F' H' (st.trans y) q
  | no => exact h
theorem GO.bind {α β : Type} {R : Hp → Hp → Hp → Sts → α → β → Prop} {r : Rs α} {f : α → Sts → Out} {Q1 : β → Hp → Prop}
    (h : GO P W σ F H s (r.out f) D) (k : ∀ x s1, r = .ok x s1 → GO P W σ F H s (f x s1) D → ∀ b F1 H1, Step P σ F H s σ F1 H1 s1 → R H F1 H1 s1 x b → Q1 b H1) : GP R P W σ F H s r Q1 := by
  cases r with
  | ok x s1 => exact fun b F1 H1 st q => k x s1 rfl h b F1 H1 st q
  | er x s1 => exact fun cls d F' H' st q => h cls d σ F' H' st q
  | no => exact h
end
/-! blocks -/
theorem sss_nil : SSs P W X [] (fun s => .nx s) := PSs.weak pss_nil (by
  rintro D σ H ⟨F, s, str, g⟩
  exact g σ F H (Step.refl str))
def seqS (c1 c2 : Sts → Out) (s : Sts) : Out := match c1 s with
    | .nx s1 => c2 s1
    | o => o
theorem seq_weak {c1 c2 : Sts → Out} {D : Ends} {σ : St} {H : Hp} (h : tSS P W (seqS c1 c2) D σ H) : tSeq (tSS P W c1) (tSS P W c2) D σ H := by
  obtain ⟨F, s, str, g⟩ := h
  refine ⟨F, s, str, ?_⟩
  unfold seqS at g
  cases h1 : c1 s with
  | nx s1 =>
    rw [h1] at g
    exact fun σ' F' H' st => ⟨F', s1, st.str, GO.after g st⟩
  | rt p s1 => rw [h1] at g; exact g
  | bk s1 => rw [h1] at g; exact g
  | ct s1 => rw [h1] at g; exact g
  | er x s1 => rw [h1] at g; exact g
  | no => rw [h1] at g; exact g
theorem sss_cons {st : Stmt} {rest : List Stmt} {c1 c2 : Sts → Out} (h1 : SS P W X st c1) (h2 : SSs P W X rest c2) : SSs P W X (st :: rest) (seqS c1 c2) := PSs.weak (pss_cons h1 h2) fun _ _ _ => seq_weak
/-! small statements -/
theorem ss_pass : SS P W X (.Pass pos) (fun s => .nx s) := PS.weak ps_pass (by
  rintro D σ H ⟨F, s, str, g⟩
  exact g σ F H (Step.refl str))
theorem ss_break : SS P W X (.Break pos) (fun s => .bk s) := PS.weak ps_break (by
  rintro D σ H ⟨F, s, str, g⟩
  exact g σ F H (Step.refl str))
theorem ss_expr {e : Expr} {c : Sts → Rs PV} (h : SE P W X e c) (hs : swapsWith e none pos.line X.env = pure false) : SS P W X (.Expr e pos) (fun s => (c s).out fun _ s1 => .nx s1) := PS.weak (ps_expr h hs) (by
  rintro D σ H ⟨F, s, str, g⟩
  exact ⟨F, s, str, GO.bind g fun p s1 e1 g1 v F1 H1 st ev => g1 σ F1 H1 st⟩)
theorem ss_ret {e : Expr} {c : Sts → Rs PV} (h : SE P W X e c) : SS P W X (.Return (some e) pos) (fun s => (c s).out fun p s1 => .rt p s1) := PS.weak (ps_ret h) (by
  rintro D σ H ⟨F, s, str, g⟩
  exact ⟨F, s, str, GO.bind g fun p s1 e1 g1 v F1 H1 st ev => g1 σ F1 H1 v st ev⟩)
theorem ss_retN : SS P W X (.Return none pos) (fun s => .rt (.fz .non) s) := PS.weak ps_retN (by
  rintro D σ H ⟨F, s, str, g⟩
  exact g σ F H .non (Step.refl str) rfl)
theorem ss_if {c : Expr} {a b : List Stmt} {cc : Sts → Rs PV} {ca cb : Sts → Out} (hc : ST P W X c cc) (ha : SSs P W X a ca) (hb : SSs P W X b cb) :
    SS P W X (.If c a b pos) (fun s => (isT (cc s)).out fun k s1 => if k = true then ca s1 else cb s1) := PS.weak (ps_if hc ha hb) (by
  rintro D σ H ⟨F, s, str, g⟩
  refine ⟨F, s, str, GO.bind g fun k s1 e1 g1 b F1 H1 st ev => ?_⟩
  cases ev
  cases k with
  | true => exact ⟨F1, s1, st.str, GO.after g1 st⟩
  | false => exact ⟨F1, s1, st.str, GO.after g1 st⟩)
def asgC (t : Z.TG) (c : Sts → Rs PV) (s : Sts) : Out := (c s).out fun p s1 => match asgP t p s1 with
    | some s2 => .nx s2
    | none => .no
theorem asg_weak (pf : P.Free) {t : Z.TG} {c : Sts → Rs PV} {D : Ends} {σ : St} {H : Hp} (h : tSS P W (asgC t c) D σ H) : tAsg (tSE P W c) (tGP P t) D σ H := by
  obtain ⟨F, s, str, g⟩ := h
  refine ⟨F, s, str, GO.bind g fun p s1 e1 g1 v F1 H1 st ev => ?_⟩
  cases h1 : asgP t p s1 with
  | none => rw [h1] at g1; exact g1.elim
  | some s2 =>
    rw [h1] at g1
    rcases asgP_ok pf st ev h1 (Q := D.nx) (fun σ' F' st' => g1 σ' F' H1 st') with ⟨i, ds, e2, _, q⟩ | q
    · exact .inl ⟨i, e2, q⟩
    · exact .inr q
theorem ss_asg (pf : P.Free) {tg e : Expr} {t : Z.TG} {c : Sts → Rs PV} (h : SE P W X e c) (hg : PG X tg (tGP P t)) (hs : swapsWithSole [tg] e pos.line X.env = pure false) (hw : swappedStores [tg] e X.env = pure none)
    (h1 : (assignEach [tg] X.env).map (·.2) = [assign tg X.env]) : SS P W X (.Assign [tg] e pos) (asgC t c) := PS.weak (ps_asg h hg hs hw h1) fun _ _ _ => asg_weak pf
theorem ss_set (pf : P.Free) {i : Nat} {x : Str} {e : Expr} {pos' : Pos} {c : Sts → Rs PV} (hN : X.N.Nodup) (hi : X.N[i]? = some x) (hx : Loc X.env.scope x) (h : SE P W X e c) (hs : swapsWith e (some (.Name x pos')) pos.line X.env = pure false) (hf : X.fn x = true ∨ X.env.scope.names.lookup x = some .local) :
    SS P W X (.Assign [.Name x pos'] e pos) (asgC (.var i) c) := PS.weak (ps_set hN hi hx h hs hf) (by
  intro D σ H h
  obtain ⟨F, s, str, g⟩ := h
  refine ⟨F, s, str, GO.bind g fun p s1 e1 g1 v F1 H1 st ev => ?_⟩
  cases h1 : asgP (.var i) p s1 with
  | none => rw [h1] at g1; exact g1.elim
  | some s2 =>
    rw [h1] at g1
    rcases asgP_ok pf st ev h1 (Q := D.nx) (fun σ' F' st' => g1 σ' F' H1 st') with ⟨j, ds, e2, _, q⟩ | ⟨F2, s3, d, s4, str4, r4, e4, k4⟩
    · cases e2; exact q
    · simp only [asgD] at e4
      split at e4
      · rename_i hfr
        cases e4
        exact k4 _ (Step.setF pf (Step.refl str4) hfr r4) Ag.set
      · cases e4)
/-- name = [..] on one line, the name a local of the frame -/
theorem ss_setLc (pf : P.Free) {i : Nat} {y : Str} {py spos : Pos} {elt tge iter : Expr} {ifs : List Expr} {scope : Scope} {own : List (Str × Nat)} {tg : Z.TG} {ci : Sts → Rs (List D × List PV)} {ct : Sts → Rs Bool} {ce : Sts → Rs PV} (hc : X.calm = true) (hN : X.N.Nodup) (hy : X.N[i]? = some y) (hyl : X.env.scope.names.lookup y = some .local)
    (hsw : swapsWith (.ListComp elt [⟨tge, iter, ifs, 0⟩] scope pos) (some (.Name y py)) spos.line X.env = pure true) (hi : SI P W X tge iter ci) (ok : BlkOk X.N X.env.scope scope own)
    (hg : ∀ (s : Shared) (H : Hp) (C : Addr) (cl : List (Str × Addr)) (fp : List Addr), SG P (X.blk s H scope (compEnvC scope cl C X.env) fp) tge tg) (ht : ∀ (s : Shared) (H : Hp) (C : Addr) (cl : List (Str × Addr)) (fp : List Addr), PTs (X.blk s H scope (compEnvC scope cl C X.env) fp) ifs (tSTs P WN ct))
    (he : ∀ (s : Shared) (H : Hp) (C : Addr) (cl : List (Str × Addr)) (fp : List Addr), SE P WN (X.blk s H scope (compEnvC scope cl C X.env) fp) elt ce) (hs : ∀ x, foldedSetIterable iter X.env x = pure x) (htg : ∀ j ∈ tgN tg, j ∈ own.map (·.2)) :
    SS P W X (.Assign [.Name y py] (.ListComp elt [⟨tge, iter, ifs, 0⟩] scope pos) spos) (asgC (.var i) (lcC (own.map (·.2)) tg ci ct ce)) := by
  refine PS.weak (ps_setLc hc hN hy hyl hsw hi ok hg ht he hs) ?_
  intro D σ H h
  refine lc_weak (W := W) pf htg ?_
  obtain ⟨F, s, str, g⟩ := h
  refine ⟨F, s, str, GO.bind g fun p s1 e1 g1 v F1 H1 st ev => ?_⟩
  cases h1 : asgP (.var i) p s1 with
  | none => rw [h1] at g1; exact g1.elim
  | some s2 =>
    rw [h1] at g1
    rcases asgP_ok pf st ev h1 (Q := D.nx) (fun σ' F' st' => g1 σ' F' H1 st') with ⟨j, ds, e2, _, q⟩ | ⟨F2, s3, d, s4, str4, r4, e4, k4⟩
    · cases e2; exact q
    · simp only [asgD] at e4
      split at e4
      · rename_i hfr
        cases e4
        exact k4 _ (Step.setF pf (Step.refl str4) hfr r4) Ag.set
      · cases e4
def augC (i : Nat) (o : BOp) (c : Sts → Rs PV) (s : Sts) : Out := (rd s i).out fun p s1 => (c s1).out fun q s2 => match p, view s2 q with
    | .fz (.int x), some (.int y) => match augD o x y with
      | some z => if free s2 i then .nx (s2.set i (.fz (.int z))) else .no
      | none => .no
    | _, _ => .no
def AgD (X : Cx) (o : BOp) (op : Operator) : Prop := PIp X op fun x y H Q => ∃ i j k, x = V.int i ∧ y = V.int j ∧ augD o i j = some k ∧ Q (.int k) H
theorem ag_add : AgD X .add .Add := by
  intro pins s σ H x y v u Q I r1 r2 ⟨i, j, k, e1, e2, e3, q⟩
  cases e3
  exact ip_add pins s σ H x y v u Q I r1 r2 ⟨i, j, e1, e2, q⟩
theorem ag_sub : AgD X .sub .Sub := by
  intro pins s σ H x y v u Q I r1 r2 ⟨i, j, k, e1, e2, e3, q⟩
  cases e3
  exact ip_sub pins s σ H x y v u Q I r1 r2 ⟨i, j, e1, e2, q⟩
theorem ss_aug (pf : P.Free) {i : Nat} {x : Str} {e : Expr} {o : BOp} {op : Operator} {pos' : Pos} {c : Sts → Rs PV} (hN : X.N.Nodup) (hi : X.N[i]? = some x) (hx : Loc X.env.scope x) (h : SE P W X e c) (ho : AgD X o op) (hf : X.fn x = true ∨ X.env.scope.names.lookup x = some .local) :
    SS P W X (.AugAssign (.Name x pos') op e pos) (augC i o c) := PS.weak (ps_aug hN hi hx h ho hf) (by
  rintro D σ H ⟨F, s, str, g⟩
  simp only [augC, rd] at g
  have hval : ∀ {sl}, s[i]? = some sl → sl ≠ .non → ∃ v, σ[i]? = some (some v) ∧ SlOk P F H (some v) sl := by
    intro sl h1 h2
    have hlt : i < σ.length := by rw [str.len]; exact lt_of_get h1
    have q := str.slot i _ _ (List.getElem?_eq_getElem hlt) h1
    cases hv : σ[i] with
    | none => rw [hv] at q; cases sl <;> first | exact absurd rfl h2 | exact q.elim
    | some v => rw [hv] at q; exact ⟨v, by rw [List.getElem?_eq_getElem hlt, hv], q⟩
  have rest : ∀ {p0 : PV} {v : V}, σ[i]? = some (some v) → EvR P H F H σ s p0 v → GO P W σ F H s ((c s).out fun q s2 => match p0, view s2 q with
    | .fz (.int x), some (.int y) => match augD o x y with
      | some z => if free s2 i then .nx (s2.set i (.fz (.int z))) else .no
      | none => .no
    | _, _ => .no) D → tAug i (tSE P W c) (fun x y H Q => ∃ i j k, x = V.int i ∧ y = V.int j ∧ augD o i j = some k ∧ Q (.int k) H) D σ H := by
    intro p0 v hσ ev0 g
    refine ⟨v, hσ, F, s, str, GO.bind g fun q s1 e1 g1 w F1 H1 st ev => ?_⟩
    cases p0 with
    | fz d =>
      cases d with
      | int a =>
        cases hv : view s1 q with
        | none => rw [hv] at g1; exact g1.elim
        | some y =>
          rw [hv] at g1
          cases y with
          | int b =>
            simp only at g1
            cases hz : augD o a b with
            | none => simp only [hz] at g1; exact g1.elim
            | some z =>
              simp only [hz] at g1
              split at g1
              · rename_i hfr
                have e0 : v = .int a := ev0
                exact ⟨a, b, z, e0, (ev.vw st.str hv).int, hz, g1 _ F1 H1 (Step.setF pf st hfr rfl)⟩
              · exact g1.elim
          | _ => exact g1.elim
      | _ => exact g1.elim
    | _ => exact g1.elim
  cases hs : s[i]? with
  | none => rw [hs] at g; exact g.elim
  | some sl =>
    rw [hs] at g
    cases sl with
    | non => exact g.elim
    | fz d =>
      obtain ⟨v, h1, h2⟩ := hval hs nofun
      exact rest (p0 := .fz d) h1 h2 g
    | lst d =>
      obtain ⟨v, h1, h2⟩ := hval hs nofun
      exact rest (p0 := .plc i) h1 h1 g
    | io d =>
      obtain ⟨v, h1, h2⟩ := hval hs nofun
      exact rest (p0 := .plc i) h1 h1 g
    | brw d =>
      obtain ⟨v, h1, h2⟩ := hval hs nofun
      exact rest (p0 := .plc i) h1 h1 g)
/-! loops -/
def forC (t : Z.TG) (ci : Sts → Rs (List D × List PV)) (cb : Sts → Out) (s : Sts) : Out := (ci s).out fun x s1 => unlockO s1 x.2 (forL (asgD t) cb x.1 (lockL s1 x.2))
theorem ss_for {tge iter : Expr} {body : List Stmt} {t : Z.TG} {ci : Sts → Rs (List D × List PV)} {cb : Sts → Out} (hp : PassesOwn (model X.prog X.w) X.A X.env X.xe) (hc : X.calm = true) (hi : SI P W X tge iter ci) (hg : SG P X tge t) (hb : SSs P W X body cb)
    (hs : ∀ x, foldedSetIterable iter X.env x = pure x) : SS P W X (.For tge iter body [] pos) (forC t ci cb) := by
  refine PS.weak (ps_for hp hc hi hg hb hs) ?_
  rintro D σ H ⟨F, s, str, g⟩
  refine ⟨F, s, str, GO.bind g fun x s1 e1 g1 J F1 H1 st wk => ?_⟩
  obtain ⟨ds, locks⟩ := x
  simp only at g1 wk
  obtain ⟨G, Y, w, hk⟩ := wk.ex
  have strL : StR P F1 H1 σ (lockL s1 locks) := st.str.lockL locks
  have keepOf : ∀ {σ' F' H' s'}, Step P σ F1 H1 (lockL s1 locks) σ' F' H' s' → Keep P σ F1 H1 (lockL s1 locks) F' H' := fun stp => ⟨stp.ff, stp.str.sub, stp.hh⟩
  have endR : ∀ {σ' F' H' s'}, Step P σ F1 H1 (lockL s1 locks) σ' F' H' s' → Step P σ F H s σ' F' H' (unlockL s1 s' locks) := fun stp => st.trans (Step.unlockL locks stp)
  generalize hrf : forL (asgD t) cb ds (lockL s1 locks) = rf at g1
  refine for_it w (fun i σ' H' => ∃ F' s', Step P σ F1 H1 (lockL s1 locks) σ' F' H' s' ∧ forL (asgD t) cb (ds.drop i) s' = rf) ⟨F1, _, Step.refl strL, by simpa using hrf⟩ ?_ ?_ ?_
  · rintro i σ' H' _ ⟨F', s', stp, _⟩
    exact (hk F' H' (keepOf stp)).1
  · rintro i x σ' H' H'' hi' ⟨F', s', stp, run⟩ y
    obtain ⟨F3, d, stY, hd, rd3⟩ := (hk F' H' (keepOf stp)).2 i x H'' _ _ hi' y stp.str
    have hdrop : ds.drop i = d :: ds.drop (i + 1) := by
      have hl := (List.getElem?_eq_some_iff.mp hd).1
      rw [List.drop_eq_getElem_cons hl]
      congr 1
      exact (List.getElem?_eq_some_iff.mp hd).2
    rw [hdrop] at run
    simp only [forL] at run
    cases ha : asgD t d s' with
    | none => rw [ha] at run; subst run; exact g1.elim
    | some sa =>
      rw [ha] at run
      simp only at run
      refine ⟨F3, s', d, sa, stY.str, rd3, ha, fun σ2 stA _ => ⟨F3, sa, stA.str, ?_⟩⟩
      have whole := stp.trans (stY.trans stA)
      cases hcb : cb sa with
      | nx s2 => rw [hcb] at run; exact fun σ3 F4 H4 q => ⟨F4, s2, whole.trans q, run⟩
      | ct s2 => rw [hcb] at run; exact fun σ3 F4 H4 q => ⟨F4, s2, whole.trans q, run⟩
      | bk s2 => rw [hcb] at run; subst run; exact fun σ3 F4 H4 q => g1 σ3 F4 H4 (endR (whole.trans q))
      | rt p s2 =>
        rw [hcb] at run; subst run
        intro σ3 F4 H4 v q ev
        refine g1 σ3 F4 H4 v (endR (whole.trans q)) ?_
        have ev2 := ev.base (fun a e => st.dm a (whole.dm a e))
        cases p with
        | fz d => exact ev2
        | plc i => exact ev2
        | tmp es => obtain ⟨a, xs, e, f, h4, r, n, o⟩ := ev2; exact ⟨a, xs, e, f, h4, r, n, fun i z => o i (own_unlockL z)⟩
        | shl es => obtain ⟨a, xs, e, f, h4, r, n, o⟩ := ev2; exact ⟨a, xs, e, f, h4, r, n, fun i z => o i (own_unlockL z)⟩
      | er x s2 => rw [hcb] at run; subst run; exact fun cls d σ3 F4 H4 q xr => g1 cls d σ3 F4 H4 (endR (whole.trans q)) xr
      | no => rw [hcb] at run; subst run; exact g1.elim
  · rintro σ' H' ⟨F', s', stp, run⟩
    rw [List.drop_eq_nil_of_le (Nat.le_refl _)] at run
    simp only [forL] at run
    subst run
    exact g1 σ' F' H' (endR stp)
theorem ss_while {c : Expr} {body : List Stmt} {cc : Sts → Rs PV} {cb : Sts → Out} {n : Nat} (hp : PassesOwn (model X.prog X.w) X.A X.env X.xe) (hc : ST P W X c cc) (hb : SSs P W X body cb) :
    SS P W X (.While c body [] pos) (fun s => whlL (fun s => isT (cc s)) cb n s) := by
  refine PS.weak (ps_while hp hc hb) ?_
  rintro D σ H ⟨F, s, str, g⟩
  dsimp only at g
  generalize hrf : whlL (fun s => isT (cc s)) cb n s = rf at g
  refine ⟨fun m σ' H' => ∃ F' s', Step P σ F H s σ' F' H' s' ∧ whlL (fun s => isT (cc s)) cb m s' = rf, ⟨n, F, s, Step.refl str, hrf⟩, ?_⟩
  rintro m σ' H' ⟨F', s', stp, run⟩
  cases m with
  | zero => simp only [whlL] at run; subst run; exact g.elim
  | succ m =>
    simp only [whlL] at run
    refine ⟨F', s', stp.str, ?_⟩
    cases hcc : isT (cc s') with
    | no => rw [hcc] at run; subst run; exact g.elim
    | er x s1 =>
      rw [hcc] at run; subst run
      exact fun cls d F4 H4 q xr => g cls d σ' F4 H4 (stp.trans q) xr
    | ok k s1 =>
      rw [hcc] at run
      rintro b F4 H4 st1 rfl
      cases k with
      | false =>
        simp only at run; subst run
        rw [if_neg (by simp)]
        exact g σ' F4 H4 (stp.trans st1)
      | true =>
        simp only at run
        rw [if_pos rfl]
        refine ⟨fun σ2 H2 => ∃ F2 s2, Step P σ F H s σ2 F2 H2 s2 ∧ whlL (fun s => isT (cc s)) cb m s2 = rf, fun σ2 H2 h => ⟨m, Nat.lt_succ_self m, h⟩, F4, s1, st1.str, ?_⟩
        have whole := stp.trans st1
        cases hcb : cb s1 with
        | nx s2 => rw [hcb] at run; exact fun σ3 F5 H5 q => ⟨F5, s2, whole.trans q, run⟩
        | ct s2 => rw [hcb] at run; exact fun σ3 F5 H5 q => ⟨F5, s2, whole.trans q, run⟩
        | bk s2 => rw [hcb] at run; subst run; exact fun σ3 F5 H5 q => g σ3 F5 H5 (whole.trans q)
        | rt p s2 => rw [hcb] at run; subst run; exact fun σ3 F5 H5 v q ev => g σ3 F5 H5 v (whole.trans q) (ev.base whole.dm)
        | er x s2 => rw [hcb] at run; subst run; exact fun cls d σ3 F5 H5 q xr => g cls d σ3 F5 H5 (whole.trans q) xr
        | no => rw [hcb] at run; subst run; exact g.elim
end
end Z

/-! Z17: calls -/
namespace Z
open PySem PySem.Spec PyProof.Rows L2
/-- a slot of a parameter -/
def parM : Bool → Sl → Prop
  | true, .io _ => True
  | false, .fz _ => True
  | _, _ => False
def modesOk : List Bool → List Sl → Prop
  | [], [] => True
  | b :: bs, a :: as => parM b a ∧ modesOk bs as
  | _, _ => False
/-- what a function of the table promises -/
def spZ (P : Par) (bs : List Bool) (run : List Sl → CR) : Sp := fun vs H Q E => ∃ F as, bs.length = vs.length ∧ modesOk bs as ∧ StR P F H (vs.map some) as ∧
  match run as with
  | .ok p os => ∀ v F' H', Step P (vs.map some) F H as (vs.map some) F' H' os → EvR P H F' H' (vs.map some) os p v → Q v H'
  | .er x os => ∀ cls d F' H', Step P (vs.map some) F H as (vs.map some) F' H' os → XR P F' x cls d → E cls d H'
  | .no => False
theorem modesOk.len : ∀ {bs : List Bool} {as : List Sl}, modesOk bs as → bs.length = as.length
  | [], [], _ => rfl
  | _ :: _, _ :: _, h => by simp [modesOk.len h.2]
  | [], _ :: _, h => h.elim
  | _ :: _, [], h => h.elim
theorem modesOk.get : ∀ {bs : List Bool} {as : List Sl} {i : Nat} {sl : Sl}, modesOk bs as → as[i]? = some sl → ∃ b, bs[i]? = some b ∧ parM b sl
  | [], [], i, _, _, e => by simp at e
  | b :: _, a :: _, 0, _, h, e => by simp at e; subst e; exact ⟨b, rfl, h.1⟩
  | _ :: bs, _ :: as, i + 1, sl, h, e => by
    obtain ⟨b, h1, h2⟩ := modesOk.get (i := i) (sl := sl) h.2 (by simpa using e)
    exact ⟨b, by simpa using h1, h2⟩
  | [], _ :: _, _, _, h, _ => h.elim
  | _ :: _, [], _, _, h, _ => h.elim
section
variable {P : Par} {σ : St} {F H H0 : Hp} {s : Sts}
/-! ### the arguments -/
structure ArgAt (P : Par) (σ : St) (F H H0 : Hp) (s : Sts) (p : PV) (b : Bool) (v : V) (sl : Sl) : Prop where
  ev : EvR P H0 F H σ s p v
  cs : (b = false ∧ ∃ d, sl = .fz d ∧ viewC s p = some d) ∨ (b = true ∧ ∃ i ds, p = .plc i ∧ sl = .io ds ∧ (s[i]? = some (.lst ds) ∨ s[i]? = some (.io ds)))
theorem arg_at : ∀ {ps : List PV} {bs : List Bool} {vs : List V} {as : List Sl}, argS s ps bs = some as → EvRL P H0 F H σ s ps vs → bs.length = vs.length ∧ modesOk bs as ∧ as.length = vs.length ∧
    ∀ (j : Nat) (v : V) (sl : Sl), vs[j]? = some v → as[j]? = some sl → ∃ p b, ps[j]? = some p ∧ bs[j]? = some b ∧ ArgAt P σ F H H0 s p b v sl
  | [], [], vs, as, h, e => by
    cases e
    simp [argS] at h; subst h
    exact ⟨rfl, trivial, rfl, fun j v sl h => by simp at h⟩
  | [], _ :: _, _, _, h, _ => by simp [argS] at h
  | _ :: _, [], _, _, h, _ => by simp [argS] at h
  | p :: ps, true :: bs, vs, as, h, e => by
    obtain ⟨v, r, rfl, ev, er⟩ := e
    cases p with
    | plc i =>
      simp only [argS] at h
      have step : ∀ (ds : List D), (s[i]? = some (.lst ds) ∨ s[i]? = some (.io ds)) → (argS s ps bs).map (Sl.io ds :: ·) = some as → (true :: bs).length = (v :: r).length ∧ modesOk (true :: bs) as ∧ as.length = (v :: r).length ∧
            ∀ (j : Nat) (w : V) (sl : Sl), (v :: r)[j]? = some w → as[j]? = some sl → ∃ p b, (PV.plc i :: ps)[j]? = some p ∧ (true :: bs)[j]? = some b ∧ ArgAt P σ F H H0 s p b w sl := fun ds hs h => by
        cases ha : argS s ps bs with
        | none => rw [ha] at h; cases h
        | some as' =>
          rw [ha] at h
          simp only [Option.map_some, Option.some.injEq] at h
          subst h
          obtain ⟨h1, h2, h3, h4⟩ := arg_at ha er
          refine ⟨by simp [h1], ⟨trivial, h2⟩, by simp [h3], fun j w sl e1 e2 => ?_⟩
          cases j with
          | zero => simp at e1 e2; subst e1 e2; exact ⟨_, _, rfl, rfl, ev, .inr ⟨rfl, i, ds, rfl, rfl, hs⟩⟩
          | succ j => exact h4 j w sl (by simpa using e1) (by simpa using e2)
      cases hs : s[i]? with
      | none => rw [hs] at h; cases h
      | some sl =>
        rw [hs] at h
        cases sl with
        | lst ds => exact step ds (.inl hs) h
        | io ds => exact step ds (.inr hs) h
        | _ => cases h
    | _ => simp [argS] at h
  | p :: ps, false :: bs, vs, as, h, e => by
    obtain ⟨v, r, rfl, ev, er⟩ := e
    have h' : (match viewC s p with | some d => (argS s ps bs).map (.fz d :: ·) | none => none) = some as := by cases p <;> exact h
    cases hv : viewC s p with
    | none => rw [hv] at h'; cases h'
    | some d =>
      rw [hv] at h'
      cases ha : argS s ps bs with
      | none => rw [ha] at h'; cases h'
      | some as' =>
        rw [ha] at h'
        simp only [Option.map_some, Option.some.injEq] at h'
        subst h'
        obtain ⟨h1, h2, h3, h4⟩ := arg_at ha er
        refine ⟨by simp [h1], ⟨trivial, h2⟩, by simp [h3], fun j w sl e1 e2 => ?_⟩
        cases j with
        | zero => simp at e1 e2; subst e1 e2; exact ⟨_, _, rfl, rfl, ev, .inl ⟨rfl, d, rfl, hv⟩⟩
        | succ j => exact h4 j w sl (by simpa using e1) (by simpa using e2)
theorem io_mem : ∀ {ps : List PV} {bs : List Bool} {j i : Nat}, ps[j]? = some (.plc i) → bs[j]? = some true → i ∈ ioIx ps bs
  | p :: ps, b :: bs, 0, i, h1, h2 => by
    simp at h1 h2; subst h1 h2; simp [ioIx]
  | p :: ps, b :: bs, j + 1, i, h1, h2 => by
    have := io_mem (ps := ps) (bs := bs) (j := j) (by simpa using h1) (by simpa using h2)
    cases p <;> cases b <;> simp [ioIx, this]
  | [], _, _, _, h1, _ => by simp at h1
  | _ :: _, [], _, _, _, h2 => by simp at h2
theorem io_inj : ∀ {ps : List PV} {bs : List Bool} {j k i : Nat}, (ioIx ps bs).Nodup → ps[j]? = some (.plc i) → bs[j]? = some true → ps[k]? = some (.plc i) → bs[k]? = some true → j = k
  | p :: ps, b :: bs, 0, 0, i, _, _, _, _, _ => rfl
  | p :: ps, b :: bs, 0, k + 1, i, nd, h1, h2, h3, h4 => by
    simp at h1 h2; subst h1 h2
    have := io_mem (ps := ps) (bs := bs) (j := k) (by simpa using h3) (by simpa using h4)
    simp [ioIx, this] at nd
  | p :: ps, b :: bs, j + 1, 0, i, nd, h3, h4, h1, h2 => by
    simp at h1 h2; subst h1 h2
    have := io_mem (ps := ps) (bs := bs) (j := j) (by simpa using h3) (by simpa using h4)
    simp [ioIx, this] at nd
  | p :: ps, b :: bs, j + 1, k + 1, i, nd, h1, h2, h3, h4 => by
    have nd' : (ioIx ps bs).Nodup := by cases p <;> cases b <;> simp [ioIx] at nd <;> first | exact nd | exact nd.2
    rw [io_inj (ps := ps) (bs := bs) (j := j) (k := k) nd' (by simpa using h1) (by simpa using h2) (by simpa using h3) (by simpa using h4)]
  | [], _, _, _, _, _, h1, _, _, _ => by simp at h1
  | _ :: _, [], _, _, _, _, _, h2, _, _ => by simp at h2
theorem vw_mem : ∀ {ps : List PV} {bs : List Bool} {j i : Nat}, ps[j]? = some (.plc i) → bs[j]? = some false → i ∈ vwIx ps bs
  | p :: ps, b :: bs, 0, i, h1, h2 => by
    simp at h1 h2; subst h1 h2; simp [vwIx]
  | p :: ps, b :: bs, j + 1, i, h1, h2 => by
    have := vw_mem (ps := ps) (bs := bs) (j := j) (by simpa using h1) (by simpa using h2)
    cases p <;> cases b <;> simp [vwIx, this]
  | [], _, _, _, h1, _ => by simp at h1
  | _ :: _, [], _, _, _, h2 => by simp at h2
theorem vw_memE : ∀ {ps : List PV} {bs : List Bool} {j : Nat} {els : List El}, ps[j]? = some (.shl els) → bs[j]? = some false → ∀ i ∈ atIx els, i ∈ vwIx ps bs
  | p :: ps, b :: bs, 0, els, h1, h2, i, hi => by
    simp at h1 h2; subst h1 h2; simp [vwIx, hi]
  | p :: ps, b :: bs, j + 1, els, h1, h2, i, hi => by
    have := vw_memE (ps := ps) (bs := bs) (j := j) (by simpa using h1) (by simpa using h2) i hi
    cases p <;> cases b <;> simp [vwIx, this]
  | [], _, _, _, h1, _, _, _ => by simp at h1
  | _ :: _, [], _, _, _, h2, _, _ => by simp at h2
/-- what is viewed: what the slots own, the new lists -/
def VA (P : Par) (σ : St) (F H H0 : Hp) (s : Sts) (ps : List PV) (bs : List Bool) (a : Addr) : Prop := (∃ i ∈ vwIx ps bs, Own σ s i a) ∨ (H0 a = none ∧ F a = none ∧ (∀ i, ¬ Own σ s i a) ∧ ∃ xs, H a = some (.lst xs))
open Classical in
/-- .. frozen for the while -/
noncomputable def plus (F H : Hp) (A : Addr → Prop) : Hp := fun a => match F a with
  | some u => some u
  | none => if A a then H a else none
theorem plus_sub {A : Addr → Prop} : Sub F (plus F H A) := fun a u e => by simp [plus, e]
theorem plus_in {A : Addr → Prop} (h : Sub F H) : Sub (plus F H A) H := fun a u e => by
  unfold plus at e
  cases q : F a with
  | some w => rw [q] at e; cases e; exact h _ _ q
  | none =>
    rw [q] at e
    simp only at e
    split at e
    · exact e
    · cases e
theorem plus_at {A : Addr → Prop} {a : Addr} (h : A a) (hF : F a = none) : plus F H A a = H a := by simp [plus, hF, h]
theorem plus_no {A : Addr → Prop} {a : Addr} (h : ¬ A a) (hF : F a = none) : plus F H A a = none := by simp [plus, hF, h]
/-- a viewed value, frozen -/
theorem vw_plus (str : StR P F H σ s) {A : Addr → Prop} {p : PV} {v : V} {d : D} (ev : EvR P H0 F H σ s p v) (hv : viewC s p = some d) (hp : ∀ i a, p = .plc i → Own σ s i a → A a) (ht : ∀ a xs, F a = none → H a = some (.lst xs) → H0 a = none → (∀ i, ¬ Own σ s i a) → A a)
    (he : ∀ els, p = .shl els → ∀ i ∈ atIx els, ∀ a, Own σ s i a → A a) : Rp P (plus F H A) d v := by
  have place : ∀ {i : Nat} {v : V} {d : D}, σ[i]? = some (some v) → view s (.plc i) = some d → (∀ a, Own σ s i a → A a) → Rp P (plus F H A) d v := by
    intro i v d hσ hv hA
    simp only [view] at hv
    cases q : s[i]? with
    | none => rw [q] at hv; cases hv
    | some sl =>
      rw [q] at hv
      have z := str.slot i _ _ hσ q
      cases sl <;> simp at hv
      · subst hv; exact Rp.mono plus_sub _ z
      all_goals
        subst hv
        obtain ⟨a, xs, rfl, f, g, r⟩ := z
        refine ⟨a, xs, rfl, ?_, RpL.mono plus_sub _ r⟩
        rw [plus_at (hA a ⟨hσ, _, by simp [q]; rfl⟩) f]; exact g
  cases p with
  | fz d' => simp [viewC, view] at hv; subst hv; exact Rp.mono plus_sub _ ev
  | tmp ds =>
    simp [viewC, view] at hv; subst hv
    obtain ⟨a, xs, rfl, f, g, r, n, o⟩ := ev
    exact ⟨a, xs, rfl, by rw [plus_at (ht a xs f g n o) f]; exact g, RpL.mono plus_sub _ r⟩
  | plc i => exact place ev hv fun a o => hp i a rfl o
  | shl els =>
    simp only [viewC, Option.map_eq_some_iff] at hv
    obtain ⟨ds, h1, rfl⟩ := hv
    obtain ⟨a, xs, rfl, f, g, r, n, o⟩ := ev
    refine ⟨a, xs, rfl, by rw [plus_at (ht a xs f g n o) f]; exact g, ?_⟩
    have he' := he els rfl
    clear he hp ht g f n o
    induction els generalizing ds xs with
    | nil => simp [viewEl] at h1; subst h1; exact r
    | cons e els ih =>
      obtain ⟨v, r', rfl, h2, h3⟩ := r
      cases e with
      | d x =>
        simp only [viewEl, Option.map_eq_some_iff] at h1
        obtain ⟨ds', h4, rfl⟩ := h1
        exact ⟨v, r', rfl, Rp.mono plus_sub x h2, ih _ h4 _ h3 fun i hi => he' i (by simpa [atIx] using hi)⟩
      | «at» i =>
        simp only [viewEl] at h1
        split at h1
        · rename_i d ds' h4 h5
          cases h1
          exact ⟨v, r', rfl, place h2 h4 (he' i (by simp [atIx])), ih _ h5 _ h3 fun j hj => he' j (by simp [atIx, hj])⟩
        · cases h1
end
end Z

/-! Z18: behind a call -/
namespace Z
open PySem PySem.Spec PyProof.Rows L2
/-! ### slots behind a call -/
theorem backIo_len : ∀ {s : Sts} {ps : List PV} {bs : List Bool} {os : List Sl}, (backIo s ps bs os).length = s.length := by
  intro s ps bs os
  fun_induction backIo s ps bs os <;> simp_all
theorem backIo_out : ∀ {ps : List PV} {bs : List Bool} {os : List Sl} {s : Sts} {i : Nat}, i ∉ ioIx ps bs → (backIo s ps bs os)[i]? = s[i]?
  | [], _, _, _, _, _ => by simp [backIo]
  | _ :: _, [], _, _, _, _ => by simp [backIo]
  | _ :: _, _ :: _, [], _, _, _ => by simp [backIo]
  | p :: ps, b :: bs, o :: os, s, i, h => by
    have gen : i ∉ ioIx ps bs → (backIo s ps bs os)[i]? = s[i]? := fun h => backIo_out h
    cases p with
    | plc k =>
      cases b with
      | true =>
        simp only [ioIx, List.mem_cons, not_or] at h
        cases o with
        | io ds =>
          simp only [backIo]
          rw [backIo_out h.2, List.getElem?_set_ne (fun z => h.1 z.symm)]
        | _ => simp only [backIo]; exact gen h.2
      | false => simp only [backIo]; exact gen (by simpa [ioIx] using h)
    | _ => simp only [backIo]; exact gen (by simpa [ioIx] using h)
def newSl (o : Option Sl) (ds : List D) : Sl := match o with
  | some (.io _) => .io ds
  | _ => .lst ds
theorem backIo_in : ∀ {ps : List PV} {bs : List Bool} {os : List Sl} {s : Sts} {i : Nat}, (ioIx ps bs).Nodup → outOk bs os = true → i ∈ ioIx ps bs → i < s.length →
    ∃ (j : Nat) (ds : List D), ps[j]? = some (.plc i) ∧ bs[j]? = some true ∧ os[j]? = some (.io ds) ∧ (backIo s ps bs os)[i]? = some (newSl s[i]? ds)
  | [], _, _, _, _, _, _, h, _ => by simp [ioIx] at h
  | _ :: _, [], _, _, _, _, _, h, _ => by simp [ioIx] at h
  | _ :: _, b :: _, [], _, _, _, ho, _, _ => by cases b <;> simp [outOk] at ho
  | p :: ps, b :: bs, o :: os, s, i, nd, ho, h, hl => by
    have nd' : (ioIx ps bs).Nodup := by cases p <;> cases b <;> simp [ioIx] at nd <;> first | exact nd | exact nd.2
    have ho' : outOk bs os = true := by cases b <;> cases o <;> simp_all [outOk]
    have gen : ∀ {s' : Sts}, s'.length = s.length → i ∈ ioIx ps bs → s'[i]? = s[i]? → ∃ (j : Nat) (ds : List D), (p :: ps)[j]? = some (.plc i) ∧ (b :: bs)[j]? = some true ∧ (o :: os)[j]? = some (.io ds) ∧ (backIo s' ps bs os)[i]? = some (newSl s[i]? ds) := by
      intro s' hl' hi e
      obtain ⟨j, ds, h1, h2, h3, h4⟩ := backIo_in (s := s') nd' ho' hi (by omega)
      exact ⟨j + 1, ds, by simpa using h1, by simpa using h2, by simpa using h3, by rw [h4, e]⟩
    cases p with
    | plc k =>
      cases b with
      | true =>
        cases o with
        | io ds =>
          simp only [backIo]
          simp only [ioIx, List.nodup_cons] at nd
          simp only [ioIx, List.mem_cons] at h
          by_cases z : i = k
          · subst z
            refine ⟨0, ds, rfl, rfl, rfl, ?_⟩
            rw [backIo_out nd.1, List.getElem?_set_self hl]
            rfl
          · rcases h with h | h
            · exact absurd h z
            · exact gen (by simp) h (by rw [List.getElem?_set_ne (fun q => z q.symm)])
        | _ => simp [outOk] at ho
      | false => simp only [backIo]; exact gen rfl (by simpa [ioIx] using h) rfl
    | _ => simp only [backIo]; exact gen rfl (by simpa [ioIx] using h) rfl
theorem frzIx_ok : ∀ {is : List Nat} {s s' : Sts}, frzIx s is = some s' → s'.length = s.length ∧ ∀ i, (i ∉ is → s'[i]? = s[i]?) ∧ (i ∈ is → (∃ ds, s[i]? = some (.lst ds) ∧ s'[i]? = some (.fz (.lst ds))) ∨ ∃ d, s[i]? = some (.fz d) ∧ s'[i]? = some (.fz d))
  | [], s, s', h => by simp [frzIx] at h; subst h; exact ⟨rfl, fun i => ⟨fun _ => rfl, fun h => by simp at h⟩⟩
  | k :: is, s, s', h => by
    simp only [frzIx] at h
    cases hk : s[k]? with
    | none => rw [hk] at h; cases h
    | some sl =>
      rw [hk] at h
      cases sl with
      | lst ds =>
        obtain ⟨h1, h2⟩ := frzIx_ok h
        have hlt := lt_of_get hk
        refine ⟨by simpa using h1, fun i => ⟨fun hi => ?_, fun hi => ?_⟩⟩
        · simp only [List.mem_cons, not_or] at hi
          rw [(h2 i).1 hi.2, List.getElem?_set_ne (fun z => hi.1 z.symm)]
        · by_cases z : i = k
          · subst z
            left
            refine ⟨ds, hk, ?_⟩
            by_cases hm : i ∈ is
            · rcases (h2 i).2 hm with ⟨es, e1, e2⟩ | ⟨d, e1, e2⟩
              · rw [List.getElem?_set_self hlt] at e1; cases e1
              · rw [List.getElem?_set_self hlt] at e1; cases e1; exact e2
            · rw [(h2 i).1 hm, List.getElem?_set_self hlt]
          · have hm : i ∈ is := (List.mem_cons.mp hi).resolve_left z
            have := (h2 i).2 hm
            rwa [List.getElem?_set_ne (fun q => z q.symm)] at this
      | fz d =>
        obtain ⟨h1, h2⟩ := frzIx_ok h
        refine ⟨h1, fun i => ⟨fun hi => (h2 i).1 (fun z => hi (List.mem_cons_of_mem _ z)), fun hi => ?_⟩⟩
        by_cases hm : i ∈ is
        · exact (h2 i).2 hm
        · have z : i = k := (List.mem_cons.mp hi).resolve_right hm
          subst z
          exact .inr ⟨d, hk, by rw [(h2 i).1 hm, hk]⟩
      | _ => cases h
section
variable {P : Par} {W : WX} {σ : St} {F H F1 H1 F' H' : Hp} {s s1 s2 : Sts} {ps : List PV} {bs : List Bool} {vs : List V} {as os : List Sl} {fl : Bool}
/-- what became of slot i -/
inductive Bk (s1 s2 : Sts) (ps : List PV) (bs : List Bool) (os : List Sl) (fl : Bool) (i : Nat) : Prop
  | io (j : Nat) (ds es : List D) (h1 : ps[j]? = some (.plc i)) (h2 : bs[j]? = some true) (h3 : os[j]? = some (.io es)) (h4 : (s1[i]? = some (.lst ds) ∧ s2[i]? = some (.lst es)) ∨ (s1[i]? = some (.io ds) ∧ s2[i]? = some (.io es)))
  | keep (h1 : i ∉ ioIx ps bs) (h2 : s2[i]? = s1[i]?) (h3 : fl = true ∨ i ∉ vwIx ps bs ∨ ∃ d, s1[i]? = some (.fz d))
  | frz (h1 : fl = false) (h2 : i ∈ vwIx ps bs) (ds : List D) (h3 : s1[i]? = some (.lst ds)) (h4 : s2[i]? = some (.fz (.lst ds))) (h5 : i ∉ ioIx ps bs)
theorem back_cases (evs : EvRL P H F1 H1 σ s1 ps vs) (str : StR P F1 H1 σ s1) (ha : argS s1 ps bs = some as) (nd : (ioIx ps bs).Nodup) (hdj : ∀ i ∈ ioIx ps bs, i ∉ vwIx ps bs) (ho : outOk bs os = true) (h : backC fl s1 ps bs os = some s2) : s2.length = s1.length ∧ ∀ i, Bk s1 s2 ps bs os fl i := by
  have isio : ∀ i ∈ ioIx ps bs, ∀ {j : Nat}, ps[j]? = some (.plc i) → bs[j]? = some true → ∃ ds, s1[i]? = some (.lst ds) ∨ s1[i]? = some (.io ds) := by
    intro i hi j h1 h2
    obtain ⟨hb, hm, hl, hat⟩ := arg_at ha evs
    have hj : j < vs.length := by rw [← hb]; exact lt_of_get h2
    obtain ⟨p, b, e1, e2, A⟩ := hat j vs[j] (as[j]'(by omega)) (List.getElem?_eq_getElem hj) (List.getElem?_eq_getElem (by omega))
    rw [h1] at e1; rw [h2] at e2
    cases e1; cases e2
    rcases A.cs with ⟨z, _⟩ | ⟨_, k, ds, ek, _, hs⟩
    · cases z
    · cases ek; exact ⟨ds, hs⟩
  have base : ∀ i, i ∈ ioIx ps bs → ∃ (j : Nat) (ds es : List D), ps[j]? = some (.plc i) ∧ bs[j]? = some true ∧ os[j]? = some (.io es) ∧ ((s1[i]? = some (.lst ds) ∧ (backIo s1 ps bs os)[i]? = some (.lst es)) ∨ (s1[i]? = some (.io ds) ∧ (backIo s1 ps bs os)[i]? = some (.io es))) := by
    intro i hi
    have hlt : i < s1.length := by
      by_cases z : i < s1.length
      · exact z
      · exfalso
        have : ∀ {ps : List PV} {bs : List Bool}, i ∈ ioIx ps bs → ∃ (j : Nat), ps[j]? = some (PV.plc i) ∧ bs[j]? = some true := by
          intro ps
          induction ps with
          | nil => intro bs h; simp [ioIx] at h
          | cons p ps ih =>
            intro bs h
            cases bs with
            | nil => simp [ioIx] at h
            | cons b bs =>
              have tl : i ∈ ioIx ps bs → ∃ (j : Nat), (p :: ps)[j]? = some (PV.plc i) ∧ (b :: bs)[j]? = some true := fun h => by
                obtain ⟨j, h1, h2⟩ := ih h
                exact ⟨j + 1, by simpa using h1, by simpa using h2⟩
              cases p with
              | plc k =>
                cases b with
                | true =>
                  simp only [ioIx, List.mem_cons] at h
                  rcases h with h | h
                  · subst h; exact ⟨0, rfl, rfl⟩
                  · exact tl h
                | false => exact tl (by simpa [ioIx] using h)
              | _ => exact tl (by simpa [ioIx] using h)
        obtain ⟨j, h1, h2⟩ := this hi
        obtain ⟨ds, hs⟩ := isio i hi h1 h2
        rcases hs with hs | hs <;> exact z (lt_of_get hs)
    obtain ⟨j, es, h1, h2, h3, h4⟩ := backIo_in nd ho hi hlt
    obtain ⟨ds, hs⟩ := isio i hi h1 h2
    refine ⟨j, ds, es, h1, h2, h3, ?_⟩
    rcases hs with hs | hs
    · rw [hs] at h4; exact .inl ⟨hs, h4⟩
    · rw [hs] at h4; exact .inr ⟨hs, h4⟩
  unfold backC at h
  split at h
  · rename_i hfl
    cases h
    refine ⟨backIo_len, fun i => ?_⟩
    by_cases hi : i ∈ ioIx ps bs
    · obtain ⟨j, ds, es, h1, h2, h3, h4⟩ := base i hi
      exact .io j ds es h1 h2 h3 h4
    · exact .keep hi (backIo_out hi) (.inl hfl)
  · rename_i hfl
    obtain ⟨h1, h2⟩ := frzIx_ok h
    refine ⟨h1.trans backIo_len, fun i => ?_⟩
    by_cases hi : i ∈ ioIx ps bs
    · obtain ⟨j, ds, es, h3, h4, h5, h6⟩ := base i hi
      have e := (h2 i).1 (hdj i hi)
      exact .io j ds es h3 h4 h5 (by rw [e]; exact h6)
    · by_cases hv : i ∈ vwIx ps bs
      · rcases (h2 i).2 hv with ⟨ds, e1, e2⟩ | ⟨d, e1, e2⟩
        · rw [backIo_out hi] at e1
          exact .frz (by simpa using hfl) hv ds e1 e2 hi
        · rw [backIo_out hi] at e1
          exact .keep hi (by rw [e2, e1]) (.inr (.inr ⟨d, e1⟩))
      · exact .keep hi (by rw [(h2 i).1 hv, backIo_out hi]) (.inr (.inl hv))
/-- the callee's start -/
theorem call_start (pf : P.Free) (str : StR P F1 H1 σ s1) (evs : EvRL P H F1 H1 σ s1 ps vs) (ha : argS s1 ps bs = some as) (nd : (ioIx ps bs).Nodup) (hdj : ∀ i ∈ ioIx ps bs, i ∉ vwIx ps bs) :
    StR P (plus F1 H1 (VA P σ F1 H1 H s1 ps bs)) H1 (vs.map some) as := by
  obtain ⟨hb, hm, hl, hat⟩ := arg_at ha evs
  have noVA : ∀ {i : Nat} {a : Addr}, i ∈ ioIx ps bs → Own σ s1 i a → ¬ VA P σ F1 H1 H s1 ps bs a := by
    rintro i a hi o (⟨k, hk, o2⟩ | ⟨_, _, no, _⟩)
    · exact hdj i hi (by rw [str.dis i k a o o2]; exact hk)
    · exact no i o
  have ioOwn : ∀ {j : Nat} {v : V} {ds : List D} {i : Nat}, EvR P H F1 H1 σ s1 (.plc i) v → (s1[i]? = some (.lst ds) ∨ s1[i]? = some (.io ds)) → ∃ a xs, v = .ref a ∧ Own σ s1 i a ∧ F1 a = none ∧ H1 a = some (.lst xs) ∧ RpL P F1 ds xs := by
    intro j v ds i ev hs
    have hσ : σ[i]? = some (some v) := ev
    have q : ∃ a xs, v = .ref a ∧ F1 a = none ∧ H1 a = some (.lst xs) ∧ RpL P F1 ds xs := by
      rcases hs with hs | hs <;> exact str.slot i _ _ hσ hs
    obtain ⟨a, xs, rfl, f, g, r⟩ := q
    exact ⟨a, xs, rfl, ⟨hσ, ds, hs.elim .inl fun h => .inr (.inl h)⟩, f, g, r⟩
  have getv : ∀ {j : Nat} {v : Option V}, (vs.map some)[j]? = some v → ∃ w, v = some w ∧ vs[j]? = some w := fun {j v} h => by
    rw [List.getElem?_map] at h
    cases q : vs[j]? with
    | none => rw [q] at h; cases h
    | some w => rw [q] at h; cases h; exact ⟨w, rfl, rfl⟩
  have isIo : ∀ {j : Nat} {a : Addr}, Own (vs.map some) as j a → ∃ i, ps[j]? = some (.plc i) ∧ bs[j]? = some true ∧ Own σ s1 i a := by
    rintro j a ⟨h1, ds, h2⟩
    obtain ⟨w, e, hw⟩ := getv h1
    cases e
    have : ∀ sl, as[j]? = some sl → (∀ d, sl ≠ .fz d) → ∃ i, ps[j]? = some (.plc i) ∧ bs[j]? = some true ∧ Own σ s1 i a := by
      intro sl hsl hne
      obtain ⟨p, b, e1, e2, A⟩ := hat j _ _ hw hsl
      rcases A.cs with ⟨_, d, z, _⟩ | ⟨rfl, i, es, rfl, rfl, hs⟩
      · exact absurd z (hne d)
      · obtain ⟨a', xs, e, o, _⟩ := ioOwn (j := j) A.ev hs
        cases e
        exact ⟨i, e1, e2, o⟩
    rcases h2 with h2 | h2 | h2 <;> exact this _ h2 nofun
  refine ⟨by simp [hl], plus_in str.sub, fun j v sl h1 h2 => ?_, fun i j a o1 o2 => ?_, pf _⟩
  · obtain ⟨w, rfl, hw⟩ := getv h1
    obtain ⟨p, b, e1, e2, A⟩ := hat j w sl hw h2
    rcases A.cs with ⟨rfl, d, rfl, hv⟩ | ⟨rfl, i, ds, rfl, rfl, hs⟩
    · refine vw_plus str A.ev hv (fun i a e o => .inl ⟨i, vw_mem (by rw [e1, e]) e2, o⟩) (fun a xs f g n o => .inr ⟨n, f, o, xs, g⟩) fun els e i hi a o => .inl ⟨i, vw_memE (by rw [e1, e]) e2 i hi, o⟩
    · obtain ⟨a, xs, rfl, o, f, g, r⟩ := ioOwn (j := j) A.ev hs
      exact ⟨a, xs, rfl, plus_no (noVA (io_mem e1 e2) o) f, g, RpL.mono plus_sub _ r⟩
  · obtain ⟨k, h1, h2, o1'⟩ := isIo o1
    obtain ⟨l, h3, h4, o2'⟩ := isIo o2
    have e := str.dis k l a o1' o2'
    subst e
    exact io_inj nd h1 h2 h3 h4
open Classical in
/-- what is frozen behind the call -/
noncomputable def FB (fl : Bool) (F1 F' : Hp) (A : Addr → Prop) : Hp := fun a => if fl = true ∧ A a ∧ F1 a = none then none else F' a
theorem flat_of {os : List Sl} {j : Nat} {ds : List D} (h : flatO os = true) (e : os[j]? = some (.io ds)) : D.flatL ds = true := List.all_eq_true.mp h _ (List.mem_of_getElem? e)
theorem call_step (st : Step P σ F H s σ F1 H1 s1) (evs : EvRL P H F1 H1 σ s1 ps vs) (ha : argS s1 ps bs = some as) (nd : (ioIx ps bs).Nodup) (hdj : ∀ i ∈ ioIx ps bs, i ∉ vwIx ps bs)
    (ho : outOk bs os = true) (hb : backC fl s1 ps bs os = some s2) (hfl : fl = true → flatO os = true) (run : Step P (vs.map some) (plus F1 H1 (VA P σ F1 H1 H s1 ps bs)) H1 as (vs.map some) F' H' os) :
    Step P σ F H s σ (FB fl F1 F' (VA P σ F1 H1 H s1 ps bs)) H' s2 ∧ (∀ i a, Own σ s2 i a → Own σ s1 i a) ∧ (fl = true → ∀ d v, d.flat = true → Rp P F' d v → Rp P (FB fl F1 F' (VA P σ F1 H1 H s1 ps bs)) d v) ∧ (fl = true → ∀ d v, D.flatL d = true → RpL P F' d v → RpL P (FB fl F1 F' (VA P σ F1 H1 H s1 ps bs)) d v) := by
  obtain ⟨hbl, hm, hl, hat⟩ := arg_at ha evs
  obtain ⟨hlen, bk⟩ := back_cases evs st.str ha nd hdj ho hb
  generalize hA : VA P σ F1 H1 H s1 ps bs = A at run ⊢
  have str := st.str
  have hVA : ∀ {a : Addr}, A a ↔ (∃ i ∈ vwIx ps bs, Own σ s1 i a) ∨ (H a = none ∧ F1 a = none ∧ (∀ i, ¬ Own σ s1 i a) ∧ ∃ xs, H1 a = some (.lst xs)) := by intro a; rw [← hA]; exact Iff.rfl
  have Alst : ∀ {a : Addr}, A a → F1 a = none → ∃ xs, H1 a = some (.lst xs) := by
    intro a h hF
    rcases hVA.mp h with ⟨i, _, o⟩ | ⟨_, _, _, x⟩
    · exact (o.out str).2
    · exact x
  -- the callee's own
  have fpc : ∀ {a : Addr}, FP (vs.map some) as a → ∃ i, i ∈ ioIx ps bs ∧ Own σ s1 i a ∧ ∃ ds : List D, s1[i]? = some (.lst ds) ∨ s1[i]? = some (.io ds) := by
    rintro a ⟨j, h1, ds, h2⟩
    rw [List.getElem?_map] at h1
    cases q : vs[j]? with
    | none => rw [q] at h1; cases h1
    | some w =>
      rw [q] at h1
      cases h1
      have : ∀ sl, as[j]? = some sl → (∀ d, sl ≠ .fz d) → ∃ i, i ∈ ioIx ps bs ∧ Own σ s1 i a ∧ ∃ ds : List D, s1[i]? = some (.lst ds) ∨ s1[i]? = some (.io ds) := by
        intro sl hsl hne
        obtain ⟨p, b, e1, e2, At⟩ := hat j _ _ q hsl
        rcases At.cs with ⟨_, d, z, _⟩ | ⟨rfl, i, es, rfl, rfl, hs⟩
        · exact absurd z (hne d)
        · exact ⟨i, io_mem e1 e2, ⟨At.ev, es, hs.elim .inl fun h => .inr (.inl h)⟩, es, hs⟩
      rcases h2 with h2 | h2 <;> exact this _ h2 nofun
  have fpc' : ∀ {a : Addr}, FP (vs.map some) as a → FP σ s1 a := fun f => by
    obtain ⟨i, _, o, ds, h⟩ := fpc f
    exact ⟨i, o.1, ds, h⟩
  have sub1 : Sub F1 F' := fun a u e => run.ff a u (plus_sub a u e)
  have fA : Sub F1 (FB fl F1 F' A) := fun a u e => by
    unfold FB; rw [if_neg (fun z => by rw [e] at z; exact absurd z.2.2 nofun)]; exact sub1 a u e
  have fI : Sub (FB fl F1 F' A) F' := fun a u e => by
    unfold FB at e
    split at e
    · cases e
    · exact e
  have fN : ∀ {a : Addr}, F' a = none → FB fl F1 F' A a = none := fun {a} h => by
    cases q : FB fl F1 F' A a with
    | none => rfl
    | some u => have := fI a u q; rw [h] at this; cases this
  have nf' : ∀ {a u}, F' a = some u → F1 a = some u ∨ (A a ∧ F1 a = none) ∨ H1 a = none ∨ FP (vs.map some) as a := by
    intro a u e
    rcases run.nf a u e with q | q | q
    · by_cases hF : F1 a = none
      · by_cases hx : A a
        · exact .inr (.inl ⟨hx, hF⟩)
        · rw [plus_no hx hF] at q; cases q
      · cases q2 : F1 a with
        | none => exact absurd q2 hF
        | some w => exact .inl (by have := plus_sub (H := H1) (A := A) a w q2; rw [q] at this; exact this.symm)
    · exact .inr (.inr (.inl q))
    · exact .inr (.inr (.inr q))
  have fD : ∀ {i : Nat} {a : Addr}, Own σ s1 i a → i ∉ ioIx ps bs → (fl = true ∨ i ∉ vwIx ps bs) → FB fl F1 F' A a = none := by
    intro i a o hi hv
    obtain ⟨f1, xs, h1⟩ := o.out str
    cases q : FB fl F1 F' A a with
    | none => rfl
    | some u =>
      exfalso
      rcases nf' (fI a u q) with z | ⟨z, z2⟩ | z | z
      · rw [f1] at z; cases z
      · rcases hv with hv | hv
        · unfold FB at q; rw [if_pos ⟨hv, z, z2⟩] at q; cases q
        · rcases hVA.mp z with ⟨k, hk, o2⟩ | ⟨_, _, no, _⟩
          · exact hv (by rw [str.dis i k a o o2]; exact hk)
          · exact no i o
      · rw [h1] at z; cases z
      · obtain ⟨k, hk, o2, _⟩ := fpc z
        exact hi (by rw [str.dis i k a o o2]; exact hk)
  have hA' : ∀ {i : Nat} {a : Addr}, Own σ s1 i a → i ∉ ioIx ps bs → ∀ u, H1 a = some u → H' a = some u := by
    intro i a o hi u hu
    refine run.hh a u hu fun f => ?_
    obtain ⟨k, hk, o2, _⟩ := fpc f
    exact hi (by rw [str.dis i k a o o2]; exact hk)
  have sq : fl = true → ∀ a xs, SqT P.K F' a xs → SqT P.K (FB fl F1 F' A) a xs := by
    intro hf a xs q
    have key : ∀ u, F' a = some u → (∀ xs, u ≠ .lst xs) → FB fl F1 F' A a = some u := by
      intro u hu hne
      unfold FB
      rw [if_neg]; exact hu
      rintro ⟨_, h2, h3⟩
      obtain ⟨ys, hy⟩ := Alst h2 h3
      have : F' a = some (.lst ys) := run.ff a _ (by rw [plus_at h2 h3]; exact hy)
      rw [hu] at this; cases this
      exact hne _ rfl
    rcases q with (q | ⟨ob, q⟩) | q
    · exact .inl (.inl (key _ q nofun))
    · exact .inl (.inr ⟨ob, key _ q nofun⟩)
    · exact .inr q
  have lessD : fl = true → ∀ d v, d.flat = true → Rp P F' d v → Rp P (FB fl F1 F' A) d v := fun hf d v h r => Rp.less (sq hf) d h r
  have lessL : fl = true → ∀ d v, D.flatL d = true → RpL P F' d v → RpL P (FB fl F1 F' A) d v := fun hf d v h r => RpL.less (sq hf) d h r
  have back : ∀ {ds : List D} {v : List V}, (fl = true → D.flatL ds = true) → RpL P F' ds v → RpL P (FB fl F1 F' A) ds v := by
    intro ds v h r
    cases hf : fl with
    | true => rw [← hf]; exact lessL hf _ _ (h hf) r
    | false =>
      have : FB false F1 F' A = F' := by funext a; simp [FB]
      rw [this]; exact r
  have ownB : ∀ i a, Own σ s2 i a → Own σ s1 i a := by
    rintro i a ⟨h1, ds, h2⟩
    refine ⟨h1, ?_⟩
    rcases bk i with ⟨j, es, fs, e1, e2, e3, e4⟩ | ⟨e1, e2, e3⟩ | ⟨e1, e2, es, e3, e4, e5⟩
    · rcases e4 with ⟨e4, e5⟩ | ⟨e4, e5⟩
      · exact ⟨es, .inl e4⟩
      · exact ⟨es, .inr (.inl e4)⟩
    · rw [e2] at h2; exact ⟨ds, h2⟩
    · rw [e4] at h2; rcases h2 with h2 | h2 | h2 <;> cases h2
  have fpB : ∀ a, FP σ s2 a → FP σ s1 a := by
    rintro a ⟨i, h1, ds, h2⟩
    refine ⟨i, h1, ?_⟩
    rcases bk i with ⟨j, es, fs, e1, e2, e3, e4⟩ | ⟨e1, e2, e3⟩ | ⟨e1, e2, es, e3, e4, e5⟩
    · rcases e4 with ⟨e4, e5⟩ | ⟨e4, e5⟩
      · exact ⟨es, .inl e4⟩
      · exact ⟨es, .inr e4⟩
    · rw [e2] at h2; exact ⟨ds, h2⟩
    · rw [e4] at h2; rcases h2 with h2 | h2 <;> cases h2
  refine ⟨⟨⟨by rw [hlen]; exact str.len, fun a u e => run.str.sub a u (fI a u e), fun i v sl h1 h2 => ?_, fun i j a o1 o2 => str.dis i j a (ownB i a o1) (ownB j a o2), str.z⟩, fun a u e => fA a u (st.ff a u e), fun a u e n => ?_, fun a e => st.dm a (run.dm a e), fun a u e => ?_, fun a f => st.np a (fpB a f), fun i ds e => ?_, fun i ds e => ?_, fun i ds e => ?_⟩, ownB, lessD, lessL⟩
  · rcases bk i with ⟨j, es, fs, e1, e2, e3, e4⟩ | ⟨e1, e2, e3⟩ | ⟨e1, e2, es, e3, e4, e5⟩
    · -- handed over
      have hj : j < vs.length := by rw [← hbl]; exact lt_of_get e2
      have hja : j < as.length := by omega
      obtain ⟨p, b, g1, g2, At⟩ := hat j vs[j] as[j] (List.getElem?_eq_getElem hj) (List.getElem?_eq_getElem hja)
      rw [e1] at g1; rw [e2] at g2
      cases g1; cases g2
      have hσ : σ[i]? = some (some vs[j]) := At.ev
      rw [hσ] at h1; cases h1
      have q := run.str.slot j (some vs[j]) _ (by rw [List.getElem?_map, List.getElem?_eq_getElem hj]; rfl) e3
      obtain ⟨a, xs, ev, f, g, r⟩ := q
      have r' := back (fun hf => flat_of (hfl hf) e3) r
      rcases e4 with ⟨e4, e5⟩ | ⟨e4, e5⟩
      · rw [e5] at h2; cases h2; exact ⟨a, xs, ev, fN f, g, r'⟩
      · rw [e5] at h2; cases h2; exact ⟨a, xs, ev, fN f, g, r'⟩
    · rw [e2] at h2
      have q := str.slot i v sl h1 h2
      cases v with
      | none => cases sl <;> first | trivial | exact q.elim
      | some v =>
        have own : ∀ {ds : List D}, (sl = .lst ds ∨ sl = .io ds ∨ sl = .brw ds) → (∃ a xs, v = .ref a ∧ F1 a = none ∧ H1 a = some (.lst xs) ∧ RpL P F1 ds xs) → ∃ a xs, v = .ref a ∧ FB fl F1 F' A a = none ∧ H' a = some (.lst xs) ∧ RpL P (FB fl F1 F' A) ds xs := by
          rintro ds hsl ⟨a, xs, rfl, f, g, r⟩
          have o : Own σ s1 i a := ⟨h1, ds, by rcases hsl with rfl | rfl | rfl <;> simp [h2]⟩
          refine ⟨a, xs, rfl, fD o e1 ?_, hA' o e1 _ g, RpL.mono fA _ r⟩
          rcases e3 with e3 | e3 | ⟨d, e3⟩
          · exact .inl e3
          · exact .inr e3
          · rw [h2] at e3; cases e3; rcases hsl with z | z | z <;> cases z
        cases sl with
        | non => trivial
        | fz d => exact Rp.mono fA _ q
        | lst ds => exact own (.inl rfl) q
        | io ds => exact own (.inr (.inl rfl)) q
        | brw ds => exact own (.inr (.inr rfl)) q
    · rw [e4] at h2; cases h2
      cases v with
      | none => exact (str.slot i none _ h1 e3).elim
      | some v =>
        obtain ⟨a, xs, rfl, f, g, r⟩ := str.slot i _ _ h1 e3
        have o : Own σ s1 i a := ⟨h1, es, .inl e3⟩
        have hAa : A a := hVA.mpr (.inl ⟨i, e2, o⟩)
        refine ⟨a, xs, rfl, ?_, RpL.mono fA _ r⟩
        have : F' a = some (.lst xs) := run.ff a _ (by rw [plus_at hAa f]; exact g)
        unfold FB; rw [if_neg (fun z => by rw [e1] at z; exact absurd z.1 nofun)]; exact this
  · -- hh
    have h1 := st.hh a u e n
    exact run.hh a u h1 fun f => st.fp e n (fpc' f)
  · -- nf
    rcases nf' (fI a u e) with z | ⟨z, z2⟩ | z | z
    · exact st.nf a u z
    · cases hf : fl with
      | true => unfold FB at e; rw [if_pos ⟨hf, z, z2⟩] at e; cases e
      | false =>
        rcases hVA.mp z with ⟨k, hk, o⟩ | ⟨n, _, _, _⟩
        · -- the slot must have been frozen
          have : FP σ s1 a := by
            rcases bk k with ⟨j, es, fs, e1, e2, e3, e4⟩ | ⟨e1, e2, e3⟩ | ⟨e1, e2, es, e3, e4, e5⟩
            · rcases e4 with ⟨e4, e5⟩ | ⟨e4, e5⟩
              · exact ⟨k, o.1, es, .inl e4⟩
              · exact ⟨k, o.1, es, .inr e4⟩
            · rcases e3 with e3 | e3 | ⟨d, e3⟩
              · rw [hf] at e3; cases e3
              · exact absurd hk e3
              · obtain ⟨_, es, o2⟩ := o
                rw [e3] at o2; rcases o2 with o2 | o2 | o2 <;> cases o2
            · exact ⟨k, o.1, es, .inl e3⟩
          rcases st.np a this with q | q
          · exact .inr (.inr q)
          · exact .inr (.inl q)
        · exact .inr (.inl n)
    · exact .inr (.inl (st.dm a z))
    · rcases st.np a (fpc' z) with q | q
      · exact .inr (.inr q)
      · exact .inr (.inl q)
  · obtain ⟨h1, h2⟩ := st.lk i ds e
    refine ⟨?_, h2⟩
    rcases bk i with ⟨j, es, fs, e1, e2, e3, e4⟩ | ⟨e1, e2, e3⟩ | ⟨e1, e2, es, e3, e4, e5⟩
    · rcases e4 with ⟨e4, e5⟩ | ⟨e4, e5⟩ <;> rw [h1] at e4 <;> cases e4
    · rw [e2]; exact h1
    · rw [h1] at e3; cases e3
  · obtain ⟨⟨ds1, h1⟩, h2⟩ := st.li i ds e
    refine ⟨?_, h2⟩
    rcases bk i with ⟨j, es, fs, e1, e2, e3, e4⟩ | ⟨e1, e2, e3⟩ | ⟨e1, e2, es, e3, e4, e5⟩
    · rcases e4 with ⟨e4, e5⟩ | ⟨e4, e5⟩
      · rw [h1] at e4; cases e4
      · exact ⟨fs, e5⟩
    · exact ⟨ds1, by rw [e2]; exact h1⟩
    · rw [h1] at e3; cases e3
  · refine st.bk i ds ?_
    rcases bk i with ⟨j, es, fs, e1, e2, e3, e4⟩ | ⟨e1, e2, e3⟩ | ⟨e1, e2, es, e3, e4, e5⟩
    · rcases e4 with ⟨e4, e5⟩ | ⟨e4, e5⟩ <;> rw [e] at e5 <;> cases e5
    · rw [← e2]; exact e
    · rw [e] at e4; cases e4
end
end Z

/-! ZG: promises of defs that are kept where no repr is under way -/
namespace Z
open PySem PySem.Spec PyProof.Rows L2
/-- a def's promise, wherever no repr is under way -/
structure FnG (Pr : Program) (w : World) (K : PySem.W.Frag) (mg : Str → Option Value) (base : Heap) (CX : CXT) (k : Nat) (f : Addr) (fd : FuncData) (ps : List Str) (sp : Sp) : Prop where
  len : ∀ vs H Q E, sp vs H Q E → vs.length = ps.length
  run : ∀ (A : Around) (outer : List PySem.Env) (s : Shared) (H : Hp) (args : Args) (us : List Value) (vs : List V) (Q : VK) (E : XK), A.guards = some [] → Room k A → Env0 Pr w K mg base A outer s H → BindsTo s fd args (ps.zip us) → Vals vs us → sp vs H Q E →
    codeAny (model Pr w) A (.call (.ref f) args) (L2.CR CX outer Pr w H s Q E) s
section
variable {X : Cx} {CX : CXT} {k : Nat} {f : Addr} {fd : FuncData} {ps : List Str} {sp : Sp} {E : St → XK} {x : Str} {p pos : Pos} {e : Expr} {es : List Expr} {t : TA}
theorem run_fnG {pins : List (Addr × Obj)} {σ : St} {H : Hp} {s : Shared} {Q : VK} {us : List Value} {vs : List V} (F : FnG X.prog X.w X.K X.mg X.base CX k f fd ps sp) (hgd : X.A.guards = some []) (hr : Room k X.A) (hb : Binds X.K fd ps []) (hx : PassesAt CX X σ (E σ))
    (I : Inv X pins σ H s) (r : Vals vs us) (h : sp vs H Q (E σ)) : wpAny (model X.prog X.w) X.A (call (.ref f) us) (EP X pins σ Q) X.xe s := by
  have hlen : us.length = ps.length := r.length ▸ F.len _ _ _ _ h
  have bd : BindsTo s fd ⟨us, []⟩ (ps.zip us) := by
    have b := hb s us I.kIn (by simpa using hlen)
    simpa using b
  refine wpAny_call (codeAny_mono (F.run X.A X.stack s H ⟨us, []⟩ us vs Q (E σ) hgd hr I.env0 bd r h) ?_)
  rintro (er | fl) s' hq
  · exact hx pins H s er s' I hq
  · cases fl <;> first | exact I.after hq | exact False.elim hq
theorem pe_callG (F : FnG X.prog X.w X.K X.mg X.base CX k f fd ps sp) (hgd : X.A.guards = some []) (hr : Room k X.A) (hg : Gl X x) (hm : X.mg x = some (.ref f)) (hk : PySem.W.keepIn X.K (.ref f) = true) (hb : Binds X.K fd ps []) (hx : ∀ σ, PassesAt CX X σ (E σ))
    (ha : PA X (e :: es) t) (hdb : (x == ("__debug__" : Str)) = false) (he : starEach (e :: es) X.env = (false, eval e X.env) :: starEach es X.env) (hpl : (backTo pos (starEach es X.env)).any (·.1) = false) :
    PE X (.Call (.Name x p) (e :: es) [] pos) (tCallS sp E t) :=
  ⟨fun pins s σ H Q I h => wpAny_Call_Name_kw (ld_glob I hg hm (PySem.W.callWith_K (h₀ := X.base) I.ok.mod.kin hk (thn (ha.run pos pins s σ H _ I h) fun us s1 ⟨vs, H1, I1, r, q⟩ => ⟨I1.kIn, run_fnG F hgd hr hb (hx σ) I1 r q⟩) he hpl) hdb)⟩
end
theorem fn_ofG {Pr : Program} {w : World} {K : PySem.W.Frag} {mg : Str → Option Value} {base : Heap} {k : Nat} {f : Addr} {x qual : Str} {st : Stmt} {fd : FuncData} {N ps : List Str} {sp : Sp} (Fn : Fun K x qual st f fd) (S : FnScope N ps (defScope st)) (len : ∀ vs H Q E, sp vs H Q E → vs.length = ps.length)
    (hbody : ∀ (cdv : Value) (A : Around) (outer : List PySem.Env) (s : Shared) (H : Hp) (vs : List V) (Q : VK) (E : XK), A.guards = some [] → Room k (A.deeper (envOfC qual (defScope st) s.heap.objs.size f cdv)) → sp vs H Q E →
      ∃ t, PSs (cxOf (L2.CX Pr w) Pr w K mg base N qual (defScope st) f cdv A outer s H E) (defBody st) t ∧ t { nx := fun _ H' => Q .non H', rt := Q } (L2.start N vs) H) : FnG Pr w K mg base (L2.CX Pr w) (k + 1) f fd ps sp := by
  obtain ⟨oc, od, kV, doc, pm, an, cdv, ct, osl, rfl, lk, hcd⟩ := Fn.ex
  refine ⟨len, fun A outer s H args us vs Q E hgd hr e0 hb r hsp => ?_⟩
  have hl := len _ _ _ _ hsp
  have KX : K.In s.heap := e0.mod.kin.keeps fun b o e => (e0.bs b o e).1
  have lim : s.heap.NoLimit := e0.mod.nolimit.keeps fun b o e => (e0.bs b o e).1
  have kinds : ∀ y ∈ ps.zip us, (defScope st).names.lookup y.1 = some .local ∨ ((defScope st).names.lookup y.1 = some .cell ∧ ((cellsFrom (s.heap.objs.size + 1) (defScope st).names []).lookup y.1).isSome = true) := by
    rintro ⟨n, v⟩ hy
    exact (S.par n (List.of_mem_zip hy).1).imp id fun q => ⟨q, PySem.W.cellsFrom_some _ _ _ (.inl q)⟩
  refine codeAny_call_function hr.depth (KX _ _ lk) rfl S.co S.gen rfl (PySem.W.codeRec_of KX hcd) (hb _ _ _ _ (wpAny_newFunctionEnv_cells S.kind kinds fun env he s1 xc => ?_))
  subst he
  refine ⟨lim.keeps xc.toInCall.keep, codeAny_func ?_⟩
  obtain ⟨t, ht, hq⟩ := hbody cdv A outer s H vs Q E hgd (hr.deeper _) hsp
  refine wpAny_mono (ht.run [] s1 (L2.start N vs) H _ (inv_start S hr.hd e0 hl r xc) hq) (fun fl s' hs => ?_) fun _ _ q => q
  cases fl with
  | ret u => obtain ⟨v, σ', H', J, rv, q⟩ := hs; exact ⟨v, H', J.os, J.bare, J.base, J.hok, rv, q⟩
  | next => obtain ⟨σ', H', J, q⟩ := hs; exact ⟨V.non, H', J.os, J.bare, J.base, J.hok, rfl, q⟩
  | brk => obtain ⟨_, _, _, q⟩ := hs; exact q.elim
  | cont => obtain ⟨_, _, _, q⟩ := hs; exact q.elim
/-! the law itself -/
theorem law_callG {Pr : Program} {w : World} {K : PySem.W.Frag} {mg mb : Str → Option Value} {CX : CXT} {k : Nat} {fa a : Addr} {fd : FuncData} {x : Str} {sp : Sp} {s₁ : Shared} {vs : List Value} {ns : List Int}
    (KX : K.In s₁.heap) (hns : s₁.heap.Ns mainGlobals mg) (hb : s₁.heap.Ns builtinsNs mb) (hbb : ∀ x : Str, x ≠ "__name__" → mb x = bootBuiltins x) (hlim : s₁.heap.NoLimit) (hg : s₁.gens = #[])
    (ha : s₁.heap.get? a = some { cls := .type "list", data := .seq vs.toArray }) (hi : IntsAre vs ns) (hl : ns.length ≤ sizeLine) (hr : Room k callerA)
    (F : ∀ base : Heap, K.In base → base.Ns mainGlobals mg → FnG Pr w K mg base CX k fa fd [x] sp) (hbind : ∀ (s : Shared) (u : Value), BindsTo s fd ⟨[u], []⟩ [(x, u)])
    (hsp : ∀ H : Hp, Only H → SqL K H a (ns.map V.int) → sp [.ref a] H (fun v _ => v = .bl true) fun _ _ _ => False)
    (hCX : ∀ H e s', CX [] H s₁ (fun _ _ _ => False) e s' → False) :
    codeAny (model Pr w) callerA (.call (.ref fa) ⟨[.ref a], []⟩) (fun r s' => r = .ok (.ret (.bool true)) ∧ OldK s₁.heap s'.heap ∧ s'.os = s₁.os ∧ AllBare s'.gens) s₁ := by
  -- at most the script is tracked
  suffices go : ∀ H : Hp, Only H → SqL K H a (ns.map V.int) → HOk Pr w H s₁.heap → (∀ b, H b ≠ none → b = a ∧ K.lookup a = none) →
      codeAny (model Pr w) callerA (.call (.ref fa) ⟨[.ref a], []⟩) (fun r s' => r = .ok (.ret (.bool true)) ∧ OldK s₁.heap s'.heap ∧ s'.os = s₁.os ∧ AllBare s'.gens) s₁ by
    have rv := vals_ints hi
    have hz : (ns.map V.int).length ≤ sizeLine := by rw [List.length_map]; exact hl
    cases hk : K.lookup a with
    | some o =>
      have e := KX a o hk
      rw [ha] at e
      cases e
      have hsz : vs.toArray.size ≤ sizeLine := by rw [List.size_toArray, hi.length]; exact hl
      exact go (fun _ => none) (fun _ => .inl rfl) (.inr ⟨_, vs.toArray, _, hk, rfl, rfl, rfl, hsz, by simpa using rv⟩) (fun b u z => nomatch (show (none : Option HO) = some u from z)) fun b z => absurd rfl z
    | none =>
      have at_ : ∀ b u, (if b = a then some (HO.frz { cls := .type "list", data := .seq vs.toArray } (.lst (ns.map V.int))) else none) = some u → b = a ∧ u = HO.frz { cls := .type "list", data := .seq vs.toArray } (.lst (ns.map V.int)) := by
        intro b u z
        split at z
        · rename_i h; cases z; exact ⟨h, rfl⟩
        · cases z
      refine go (fun b => if b = a then some (HO.frz { cls := .type "list", data := .seq vs.toArray } (.lst (ns.map V.int))) else none) (fun b => ?_) (.inl (.inr ⟨{ cls := .type "list", data := .seq vs.toArray }, if_pos rfl⟩)) (fun b u z => ?_) fun b z => ?_
      · by_cases h : b = a
        · exact .inr ⟨_, _, if_pos h⟩
        · exact .inl (if_neg h)
      · obtain ⟨h1, h2⟩ := at_ b u z
        subst h1 h2
        exact ⟨ha, hz, vs, _, rv, ha⟩
      · by_cases h : b = a
        · exact ⟨h, hk⟩
        · exact absurd (if_neg h) z
  intro H hO hS hok hA
  have off : ∀ {b : Addr}, (b = a → K.lookup a = none → False) → H b = none := fun {b} h => by
    cases q : H b with
    | none => rfl
    | some u => obtain ⟨e1, e2⟩ := hA b (fun z => by rw [q] at z; cases z); exact (h e1 e2).elim
  have nsK : ∀ {b : Addr} {m : Str → Option Value}, s₁.heap.Ns b m → (hidT s₁.heap H).Ns b m := by
    rintro b m ⟨o, es, ep, e, d, r⟩
    refine ⟨o, es, ep, hidT_get e (off fun z _ => ?_), d, r⟩
    subst z
    rw [ha] at e; cases e
    exact nomatch (show Data.seq vs.toArray _ = Data.dict es ep from d)
  have hKb : K.In (hidT s₁.heap H) := fun b o e => hidT_get (KX b o e) (off fun z1 z2 => by subst z1; rw [z2] at e; cases e)
  have e0 : Env0 Pr w K mg (hidT s₁.heap H) callerA [] s₁ H := by
    refine ⟨rfl, ⟨hKb, nsK hns, ⟨mb, nsK hb, hbb⟩, ?_⟩, fun b o e => of_hidT e, Nat.le_of_eq (hidT_size _ _), trivial, fun b hb => ?_, hok, .of_eq hg⟩
    · obtain ⟨mc, h1, h2⟩ := hlim; exact ⟨mc, nsK h1, h2⟩
    · exact nomatch (show b ∈ ([] : List Addr) from hb)
  refine codeAny_mono ((F _ hKb (nsK hns)).run callerA [] s₁ H ⟨[.ref a], []⟩ [.ref a] [.ref a] _ _ rfl hr e0 (hbind s₁ (.ref a)) (.cons rfl .nil) (hsp H hO hS)) ?_
  rintro (er | fl) s' h
  · exact (hCX H er s' h).elim
  cases fl with
  | next => exact False.elim h
  | brk => exact False.elim h
  | cont => exact False.elim h
  | ret u =>
    obtain ⟨v, H', os, bare, un, hok', r', q⟩ := h
    obtain rfl : v = .bl true := q
    obtain rfl : u = Value.bool true := r'
    refine ⟨rfl, OldK.of_keep fun b o e => ?_, os, bare⟩
    cases q : H b with
    | none => exact un.keep b o e q (fun z => nomatch (show b ∈ ([] : List Addr) from z)) (by simp)
    | some u =>
      rcases hO b with z | ⟨ob, xs, z⟩
      · rw [q] at z; cases z
      · obtain ⟨e1, _⟩ := hok b _ z
        obtain ⟨e2, _⟩ := hok' b _ (un.frzs b ob _ z)
        rw [e] at e1; cases e1
        exact e2
theorem walk_ofG {l : PySem.W.OpenLaw} {n k : Nat} {q : Program} {loose : List Str} {XP : (Str → Option Value) → Heap → Prop} {YP : World → Heap → Prop} {d : DefRec} {K : Params → PySem.W.Frag} {CX : World → CXT} {sp : World → Sp} {x : Str}
    (hn : l.most = some n) (hn2 : n ≤ sizeLine) (hdf : d.params.defaults = []) (hr : Room k callerA)
    (hY : ∀ (w : World) (h : Heap), YP w h → (K w.params).In h)
    (F : ∀ (w : World) (mg : Str → Option Value) (fa : Addr) (h : Heap), (K w.params).In h → h.Ns mainGlobals mg → mg d.name = some (.ref fa) →
      ∃ fd : FuncData, (∀ (s : Shared) (u : Value), BindsTo s fd ⟨[u], []⟩ [(x, u)]) ∧
        ∀ base : Heap, (K w.params).In base → base.Ns mainGlobals mg → FnG l.prog w (K w.params) mg base (CX w) k fa fd [x] (sp w))
    (hsp : ∀ (w : World) (H : Hp) (a : Addr) (ns : List Int), ns.length ≤ n → Only H → SqL (K w.params) H a (ns.map V.int) → sp w [.ref a] H (fun v _ => v = .bl true) fun _ _ _ => False)
    (hCX : ∀ (w : World) (H : Hp) (s : Shared) (e : Value) (s' : Shared), CX w [] H s (fun _ _ _ => False) e s' → False) :
    PySem.W.WalkO q loose XP YP l.row.toRowW d [] (fun f vs => PySem.call f vs) := by
  refine Att.attach_call hn hdf fun w s₀ s₁ mg mb fa o pm cd doc a vs ns G Y ho hd hcd hmg hobj hints hlen hg => ?_
  obtain ⟨fd, hb, hF⟩ := F w mg fa _ (hY w _ Y) G.T.g hmg
  exact law_callG (hY w _ Y) G.T.g G.T.b G.T.builtins G.T.nolimit hg hobj hints (Nat.le_trans hlen hn2) hr hF hb (fun H hO hS => hsp w H a ns hlen hO hS) fun H e s' => hCX w H s₁ e s'
end Z

/-! Z19: calls as expressions; functions by their bodies -/
namespace Z
open PySem PySem.Spec PyProof.Rows L2
section
variable {P : Par} {W : WX} {X : Cx} {pos p p0 : Pos}
theorem FB_no {F1 F' : Hp} {A : Addr → Prop} : FB false F1 F' A = F' := by funext a; simp [FB]
theorem callR_ok (pf : P.Free) {bs : List Bool} {run : List Sl → CR} {σ : St} {F H F1 H1 : Hp} {s s1 : Sts} {ps : List PV} {vs : List V} {Q : VK} (st : Step P σ F H s σ F1 H1 s1) (evs : EvRL P H F1 H1 σ s1 ps vs)
    (g : GP (RE P σ) P W σ F H s (callR bs run ps s1) Q) : spZ P bs run vs H1 Q (WE W σ) := by
  unfold callR at g
  cases ha : argS s1 ps bs with
  | none => rw [ha] at g; exact g.elim
  | some as =>
    rw [ha] at g
    simp only at g
    split at g
    case isFalse => exact g.elim
    rename_i hc
    obtain ⟨nd, hdj⟩ := hc
    obtain ⟨hb, hm, hl, hat⟩ := arg_at ha evs
    refine ⟨_, as, hb, hm, call_start pf st.str evs ha nd hdj, ?_⟩
    cases hr : run as with
    | no => rw [hr] at g; exact g.elim
    | er x os =>
      rw [hr] at g
      simp only at g
      split at g
      case isFalse => exact g.elim
      rename_i ho
      cases hbk : backC (flatO os) s1 ps bs os with
      | none => rw [hbk] at g; exact g.elim
      | some s2 =>
        rw [hbk] at g
        intro cls d F' H' stp xr
        obtain ⟨stq, _⟩ := call_step st evs ha nd hdj ho hbk (fun h => h) stp
        refine g cls d _ H' stq ?_
        cases x with
        | exc c v => cases v with
          | nil => exact xr
          | cons => exact xr
        | _ => exact xr
    | ok p os =>
      rw [hr] at g
      simp only at g
      split at g
      case isFalse => exact g.elim
      rename_i ho
      simp only [Bool.and_eq_true] at ho
      cases hbk : backC (flatP p && flatO os) s1 ps bs os with
      | none => rw [hbk] at g; exact g.elim
      | some s2 =>
        rw [hbk] at g
        intro v F' H' stp ev
        obtain ⟨stq, hown, hD, hL⟩ := call_step st evs ha nd hdj ho.1 hbk (fun h => by simp at h; exact h.2) stp
        refine GP.ok (R := RE P σ) g stq ?_
        cases p with
        | plc i => cases ho.2
        | shl i => cases ho.2
        | fz d =>
          cases hf : (flatP (.fz d) && flatO os) with
          | true =>
            have h1 : d.flat = true := by simp [flatP] at hf; exact hf.1
            have := hD hf d v h1 ev
            rw [hf] at this; exact this
          | false => rw [FB_no]; exact ev
        | tmp ds =>
          obtain ⟨a, xs, rfl, f, g', r, n, o⟩ := ev
          refine ⟨a, xs, rfl, ?_, g', ?_, st.dm a n, fun i z => ?_⟩
          · unfold FB; split
            · rfl
            · exact f
          · cases hf : (flatP (.tmp ds) && flatO os) with
            | true =>
              have h1 : D.flatL ds = true := by simp [flatP] at hf; exact hf.1
              have := hL hf ds xs h1 r
              rw [hf] at this; exact this
            | false => rw [FB_no]; exact r
          · obtain ⟨_, ys, e⟩ := (hown i a z).out st.str
            rw [n] at e; cases e
def callC (bs : List Bool) (run : List Sl → CR) (ces : Sts → Rs (List PV)) (s : Sts) : Rs PV := (ces s).bind fun ps s1 => callR bs run ps s1
theorem callC_ok (pf : P.Free) {bs : List Bool} {run : List Sl → CR} {ces : Sts → Rs (List PV)} {σ : St} {H : Hp} {Q : VK} (h : tSE P W (callC bs run ces) σ H Q) : tSA P W ces σ H fun vs H1 => spZ P bs run vs H1 Q (WE W σ) := by
  obtain ⟨F, s, str, g⟩ := h
  exact ⟨F, s, str, GP.bind g fun ps s1 e1 g1 vs F1 H1 st evs => callR_ok pf st evs g1⟩
/-- what stands at a function's place -/
structure FnAt (X : Cx) (P : Par) (k : Nat) (a : Addr) (bs : List Bool) (run : List Sl → CR) : Prop where
  ex : ∃ fd ps, FnG X.prog X.w X.K X.mg X.base (L2.CX X.prog X.w) k a fd ps (spZ P bs run) ∧ PySem.W.keepIn X.K (.ref a) = true ∧ Binds X.K fd ps []
theorem se_call (pf : P.Free) {k : Nat} {a : Addr} {x : Str} {e : Expr} {es : List Expr} {bs : List Bool} {run : List Sl → CR} {ces : Sts → Rs (List PV)} (tk : Takes X W) (hgd : X.A.guards = some []) (hr : Room k X.A) (F : FnAt X P k a bs run) (hg : Gl X x) (hm : X.mg x = some (.ref a)) (ha : SA P W X (e :: es) ces)
    (hdb : (x == ("__debug__" : Str)) = false) (he : starEach (e :: es) X.env = (false, eval e X.env) :: starEach es X.env) (hpl : (backTo pos (starEach es X.env)).any (·.1) = false) :
    SE P W X (.Call (.Name x p) (e :: es) [] pos) (callC bs run ces) := by
  obtain ⟨fd, ps, F, hk, hb⟩ := F.ex
  exact PE.weak (pe_callG F hgd hr hg hm hk hb (fun σ => passAt tk σ) ha hdb he hpl) fun σ H Q h => callC_ok pf h
theorem pe_glob {x : Str} {a : Addr} (hg : Gl X x) (hm : X.mg x = some (.ref a)) (hdb : (x == ("__debug__" : Str)) = false) : PE X (.Name x p) (tC (.ref a)) := ⟨fun pins s σ H Q I h => ld_glob I hg hm ⟨.ref a, H, I, rfl, h⟩ hdb⟩
def calldC (G : Env) (cf : Sts → Rs PV) (ces : Sts → Rs (List PV)) (s : Sts) : Rs PV := (cf s).bind fun p s1 => match p with
    | .fz (.fn f) => match G f with
      | some (bs, run) => (ces s1).bind fun ps s2 => callR bs run ps s2
      | none => .no
    | _ => .no
/-- a function that an item of a list or a tuple names -/
theorem se_calld (pf : P.Free) {k : Nat} {l i e : Expr} {es : List Expr} {G : Env} {cf : Sts → Rs PV} {ces : Sts → Rs (List PV)} (tk : Takes X W) (hgd : X.A.guards = some []) (hr : Room k X.A) (hG : ∀ f bs run a, G f = some (bs, run) → P.fa f a → FnAt X P k a bs run) (hf : SE P W X (.Subscript l i p0) cf) (ha : SA P W X (e :: es) ces)
    (he : starEach (e :: es) X.env = (false, eval e X.env) :: starEach es X.env) (hpl : (backTo pos (starEach es X.env)).any (·.1) = false) :
    SE P W X (.Call (.Subscript l i p0) (e :: es) [] pos) (calldC G cf ces) := by
  refine ⟨fun pins s σ H Q I h => ?_⟩
  rw [show eval (.Call (.Subscript l i p0) (e :: es) [] pos) X.env = (do callWith pos (← eval (.Subscript l i p0) X.env) [] (backTo pos (starEach (e :: es) X.env)) (backToKw pos (keywordEach [] X.env))) from rfl]
  have h1 : tSE P W cf σ H fun v H1 => ∃ a fd ps bs run, v = .ref a ∧ FnG X.prog X.w X.K X.mg X.base (L2.CX X.prog X.w) k a fd ps (spZ P bs run) ∧ PySem.W.keepIn X.K (.ref a) = true ∧ Binds X.K fd ps [] ∧ tSA P W ces σ H1 fun vs H2 => spZ P bs run vs H2 Q (WE W σ) := by
    obtain ⟨F, s, str, g⟩ := h
    refine ⟨F, s, str, GP.bind g fun p s1 e1 g1 v F1 H1 st ev => ?_⟩
    cases p with
    | fz d =>
      cases d with
      | fn f =>
        simp only at g1
        cases hGf : G f with
        | none => rw [hGf] at g1; exact g1.elim
        | some z =>
          obtain ⟨bs, run⟩ := z
          rw [hGf] at g1
          simp only at g1
          obtain ⟨a, rfl, hfa⟩ := ev
          obtain ⟨fd, ps, Fk, hk, hb⟩ := (hG f bs run a hGf hfa).ex
          exact ⟨a, fd, ps, bs, run, rfl, Fk, hk, hb, callC_ok pf ⟨F1, s1, st.str, GP.afterE g1 st⟩⟩
      | _ => exact g1.elim
    | _ => exact g1.elim
  refine wpAny_bind (thn (hf.run pins s σ H _ I h1) fun u s1 ⟨v, H1, I1, r1, a, fd, ps, bs, run, ev, Fk, hk, hb, h2⟩ => ?_)
  subst ev
  cases r1
  refine PySem.W.callWith_K (h₀ := X.base) I1.ok.mod.kin hk (thn (ha.run pos pins s1 σ H1 _ I1 h2) fun us s2 ⟨vs, H2, I2, r, q⟩ => ⟨I2.kIn, ?_⟩) he hpl
  exact run_fnG Fk hgd hr hb (passAt tk σ) I2 r q
end
/-! ### a function, by its body -/
section
variable {P : Par}
theorem outs_get : ∀ {as s : Sts} {i : Nat}, as.length ≤ s.length → (outs as s)[i]? = match as[i]?, s[i]? with | some (.io _), some b => some b | some a, some _ => some a | _, _ => none
  | [], _, i, _ => by simp [outs]
  | a :: as, [], i, h => by simp at h
  | a :: as, b :: s, 0, _ => by cases a <;> simp [outs]
  | a :: as, b :: s, i + 1, h => by
    have := outs_get (as := as) (s := s) (i := i) (by simpa using h)
    simpa [outs] using this
theorem outs_len {as s : Sts} (h : as.length ≤ s.length) : (outs as s).length = as.length := by simp [outs]; omega
/-- a run of the body, told of the parameters alone -/
theorem body_step {bs : List Bool} {as s' : Sts} {vs : List V} {F H F' H' : Hp} {m n : Nat} {σ' : St} (pf : P.Free) (hm : modesOk bs as) (str : StR P F H (vs.map some) as) (hlen : as.length ≤ s'.length)
    (st : Step P (vs.map some ++ List.replicate m none) F H (as ++ List.replicate n .non) σ' F' H' s') : Step P (vs.map some) F H as (vs.map some) F' H' (outs as s') ∧ (∀ i a, Own (vs.map some) (outs as s') i a → Own σ' s' i a) ∧
      (∀ (i : Nat) (a : Addr), FP (vs.map some) as a → σ'[i]? = some (some (V.ref a)) → ∀ ds : List D, s'[i]? ≠ some (Sl.lst ds)) ∧ ∀ a, FP (vs.map some ++ List.replicate m none) (as ++ List.replicate n .non) a → FP (vs.map some) as a := by
  have hl : vs.length = as.length := by have := str.len; simpa using this
  have g1 : ∀ i, i < as.length → (as ++ List.replicate n Sl.non)[i]? = as[i]? := fun i h => List.getElem?_append_left h
  have g2 : ∀ i, i < as.length → (vs.map some ++ List.replicate m none)[i]? = (vs.map some)[i]? := fun i h => List.getElem?_append_left (by simpa [hl] using h)
  have shape : ∀ (i : Nat) (sl : Sl), as[i]? = some sl → (∃ d, sl = .fz d) ∨ ∃ ds, sl = .io ds := fun i sl h => by
    obtain ⟨b, _, hp⟩ := hm.get h
    cases sl <;> cases b <;> simp [parM] at hp
    · exact .inl ⟨_, rfl⟩
    · exact .inr ⟨_, rfl⟩
  have fp1 : ∀ a, FP (vs.map some ++ List.replicate m none) (as ++ List.replicate n .non) a → FP (vs.map some) as a := by
    rintro a ⟨i, h1, ds, h2⟩
    by_cases hi : i < as.length
    · rw [g1 i hi] at h2; rw [g2 i hi] at h1; exact ⟨i, h1, ds, h2⟩
    · rw [List.getElem?_append_right (by omega), List.getElem?_replicate] at h2
      split at h2 <;> rcases h2 with h2 | h2 <;> cases h2
  have fp2 : ∀ a, FP (vs.map some) as a → FP (vs.map some ++ List.replicate m none) (as ++ List.replicate n .non) a := by
    rintro a ⟨i, h1, ds, h2⟩
    have hi : i < as.length := by rcases h2 with h2 | h2 <;> exact lt_of_get h2
    exact ⟨i, by rw [g2 i hi]; exact h1, ds, by rw [g1 i hi]; exact h2⟩
  have io : ∀ (i : Nat) (ds : List D), as[i]? = some (.io ds) → (∃ es, s'[i]? = some (.io es) ∧ (outs as s')[i]? = some (.io es)) ∧ σ'[i]? = (vs.map some)[i]? := by
    intro i ds h
    have hi := lt_of_get h
    obtain ⟨⟨es, h1⟩, h2⟩ := st.li i ds (by rw [g1 i hi]; exact h)
    refine ⟨⟨es, h1, ?_⟩, by rw [h2, g2 i hi]⟩
    rw [outs_get hlen, h, h1]
  have fz : ∀ (i : Nat) (d : D), as[i]? = some (.fz d) → (outs as s')[i]? = some (.fz d) := by
    intro i d h
    have hi := lt_of_get h
    rw [outs_get hlen, h, List.getElem?_eq_getElem (by omega)]
  have out : ∀ (i : Nat) (sl : Sl), (outs as s')[i]? = some sl → (∃ d, sl = .fz d ∧ as[i]? = some (.fz d)) ∨ ∃ ds es, sl = .io es ∧ as[i]? = some (.io ds) ∧ s'[i]? = some (.io es) ∧ σ'[i]? = (vs.map some)[i]? := by
    intro i sl h
    have hi : i < as.length := by rw [← outs_len hlen]; exact lt_of_get h
    rcases shape i _ (List.getElem?_eq_getElem hi) with ⟨d, e⟩ | ⟨ds, e⟩
    · have e' : as[i]? = some (.fz d) := by rw [List.getElem?_eq_getElem hi, e]
      rw [fz i d e'] at h; cases h
      exact .inl ⟨d, rfl, e'⟩
    · have e' : as[i]? = some (.io ds) := by rw [List.getElem?_eq_getElem hi, e]
      obtain ⟨⟨es, h1, h2⟩, h3⟩ := io i ds e'
      rw [h2] at h; cases h
      exact .inr ⟨ds, es, rfl, e', h1, h3⟩
  have ownO : ∀ i a, Own (vs.map some) (outs as s') i a → Own σ' s' i a := by
    rintro i a ⟨h1, ds, h2⟩
    have : ∀ sl, (outs as s')[i]? = some sl → (∀ d, sl ≠ .fz d) → Own σ' s' i a := fun sl h hne => by
      rcases out i sl h with ⟨d, e, _⟩ | ⟨ds', es, e, e1, e2, e3⟩
      · exact absurd e (hne d)
      · exact ⟨by rw [e3]; exact h1, es, .inr (.inl e2)⟩
    rcases h2 with h2 | h2 | h2 <;> exact this _ h2 nofun
  refine ⟨⟨⟨by rw [outs_len hlen]; simpa using hl, st.str.sub, fun i v sl h1 h2 => ?_, fun i j a o1 o2 => st.str.dis i j a (ownO i a o1) (ownO j a o2), pf _⟩, st.ff, fun a u e k => st.hh a u e fun f => k (fp1 a f), st.dm, fun a u e => ?_, ?_, fun i ds e => ?_, fun i ds e => ?_, fun i ds e => ?_⟩, ownO, ?_, fp1⟩
  · rcases out i sl h2 with ⟨d, rfl, e⟩ | ⟨ds, es, rfl, e1, e2, e3⟩
    · have q := str.slot i v _ h1 e
      cases v with
      | none => exact q.elim
      | some v => exact Rp.mono st.ff d q
    · exact st.str.slot i v _ (by rw [e3]; exact h1) e2
  · rcases st.nf a u e with q | q | q
    · exact .inl q
    · exact .inr (.inl q)
    · exact .inr (.inr (fp1 a q))
  · rintro a ⟨i, h1, ds, h2⟩
    have : ∀ sl, (outs as s')[i]? = some sl → (∀ d, sl ≠ .fz d) → FP (vs.map some) as a := fun sl h hne => by
      rcases out i sl h with ⟨d, e, _⟩ | ⟨ds', es, e, e1, e2, e3⟩
      · exact absurd e (hne d)
      · exact ⟨i, h1, ds', .inr e1⟩
    rcases h2 with h2 | h2 <;> exact .inl (this _ h2 nofun)
  · rcases shape i _ e with ⟨d, z⟩ | ⟨es, z⟩ <;> cases z
  · obtain ⟨⟨es, h1, h2⟩, h3⟩ := io i ds e
    exact ⟨⟨es, h2⟩, rfl⟩
  · rcases out i _ e with ⟨d, z, _⟩ | ⟨_, es, z, _⟩ <;> cases z
  · rintro i a ⟨j, h1, ds, h2⟩ hσ es hs
    have hj : ∃ ds, as[j]? = some (.io ds) := by
      rcases h2 with h2 | h2
      · rcases shape j _ h2 with ⟨d, z⟩ | ⟨fs, z⟩ <;> cases z
      · exact ⟨ds, h2⟩
    obtain ⟨ds, hj⟩ := hj
    obtain ⟨⟨fs, e1, e2⟩, e3⟩ := io j ds hj
    have o1 : Own σ' s' j a := ⟨by rw [e3]; exact h1, fs, .inr (.inl e1)⟩
    have o2 : Own σ' s' i a := ⟨hσ, es, .inl hs⟩
    have e := st.str.dis i j a o2 o1
    subst e
    rw [hs] at e1; cases e1
theorem start_str {bs : List Bool} {as : Sts} {vs : List V} {F H : Hp} {n : Nat} (pf : P.Free) (str : StR P F H (vs.map some) as) : StR P F H (vs.map some ++ List.replicate n none) (as ++ List.replicate n .non) := by
  have hl : vs.length = as.length := by have := str.len; simpa using this
  have g1 : ∀ i, i < as.length → (as ++ List.replicate n Sl.non)[i]? = as[i]? := fun i h => List.getElem?_append_left h
  have g2 : ∀ i, i < as.length → (vs.map some ++ List.replicate n none)[i]? = (vs.map some)[i]? := fun i h => List.getElem?_append_left (by simpa [hl] using h)
  have ow : ∀ i a, Own (vs.map some ++ List.replicate n none) (as ++ List.replicate n .non) i a → Own (vs.map some) as i a := by
    rintro i a ⟨h1, ds, h2⟩
    by_cases hi : i < as.length
    · rw [g1 i hi] at h2; rw [g2 i hi] at h1; exact ⟨h1, ds, h2⟩
    · rw [List.getElem?_append_right (by omega), List.getElem?_replicate] at h2
      split at h2 <;> rcases h2 with h2 | h2 | h2 <;> cases h2
  refine ⟨by simp [hl], str.sub, fun i v sl h1 h2 => ?_, fun i j a o1 o2 => str.dis i j a (ow i a o1) (ow j a o2), pf _⟩
  by_cases hi : i < as.length
  · rw [g1 i hi] at h2; rw [g2 i hi] at h1; exact str.slot i v sl h1 h2
  · rw [List.getElem?_append_right (by omega), List.getElem?_replicate] at h2
    split at h2
    · cases h2; cases v <;> trivial
    · cases h2
/-- THE RULE of a function of the table: its body keeps its promise -/
theorem fn_ok {Pr : Program} {w : World} {K : PySem.W.Frag} {mg : Str → Option Value} {base : Heap} {k : Nat} {x qual : Str} {st : Stmt} {f : Addr} {fd : FuncData} {N ps : List Str} {bs : List Bool} {c : Sts → Out} (pf : P.Free) (Fn : Fun K x qual st f fd) (S : FnScope N ps (defScope st)) (hbs : bs.length = ps.length)
    (hbody : ∀ (cdv : Value) (A : Around) (outer : List PySem.Env) (s : Shared) (H : Hp) (E : XK), A.guards = some [] → Room k (A.deeper (envOfC qual (defScope st) s.heap.objs.size f cdv)) →
      SSs P (fun cls d _ H => E cls d H) (cxOf (L2.CX Pr w) Pr w K mg base N qual (defScope st) f cdv A outer s H E) (defBody st) c) :
    FnG Pr w K mg base (L2.CX Pr w) (k + 1) f fd ps (spZ P bs fun as => if bs.length = as.length then endC as (c (as ++ List.replicate (N.length - as.length) .non)) else .no) := by
  refine fn_ofG Fn S (fun vs H Q E h => by obtain ⟨_, _, h, _⟩ := h; omega) fun cdv A outer s H vs Q E hgd hr hsp => ⟨_, hbody cdv A outer s H E hgd hr, ?_⟩
  obtain ⟨F, as, hb, hm, str, q⟩ := hsp
  have hl : vs.length = as.length := by have := str.len; simpa using this
  have hl2 : bs.length = as.length := by omega
  dsimp only at q
  rw [if_pos hl2] at q
  refine ⟨F, as ++ List.replicate (N.length - as.length) .non, ?_, ?_⟩
  · have := start_str (n := N.length - as.length) (bs := bs) pf str
    unfold L2.start
    rw [hl]; exact this
  · have hst : L2.start N vs = vs.map some ++ List.replicate (N.length - as.length) none := by unfold L2.start; rw [hl]
    rw [hst]
    generalize hc : c (as ++ List.replicate (N.length - as.length) .non) = r at q ⊢
    unfold endC at q
    by_cases hlen : lenOk as.length r = true
    case neg => rw [if_neg hlen] at q; exact q.elim
    rw [if_pos hlen] at q
    cases r with
    | no => cases hlen
    | bk s' => cases hlen
    | ct s' => cases hlen
    | nx s' =>
      intro σ' F' H' stp
      obtain ⟨h1, h2, h3, h4⟩ := body_step pf hm str (by simpa [lenOk] using hlen) stp
      exact q .non F' H' h1 rfl
    | er x s' =>
      intro cls d σ' F' H' stp xr
      obtain ⟨h1, h2, h3, h4⟩ := body_step pf hm str (by simpa [lenOk] using hlen) stp
      exact q cls d F' H' h1 xr
    | rt p s' =>
      intro σ' F' H' v stp ev
      obtain ⟨h1, h2, h3, h4⟩ := body_step pf hm str (by simpa [lenOk] using hlen) stp
      cases p with
      | fz d => exact q v F' H' h1 ev
      | tmp ds =>
        obtain ⟨a, xs, rfl, f, g, r, n, o⟩ := ev
        exact q _ F' H' h1 ⟨a, xs, rfl, f, g, r, n, fun i z => o i (h2 i a z)⟩
      | shl es => exact q.elim
      | plc i =>
        have hσ : σ'[i]? = some (some v) := ev
        simp only [endC0] at q
        cases hs : s'[i]? with
        | none => rw [hs] at q; exact q.elim
        | some sl =>
          rw [hs] at q
          have z := stp.str.slot i _ _ hσ hs
          cases sl with
          | fz d => exact q v F' H' h1 z
          | lst ds =>
            obtain ⟨a, xs, rfl, f, g, r⟩ := z
            refine q _ F' H' h1 ⟨a, xs, rfl, f, g, r, ?_, fun j z => ?_⟩
            · rcases stp.np a ⟨i, hσ, ds, .inl hs⟩ with e | e
              · exact absurd hs (h3 i a (h4 a e) hσ ds)
              · exact e
            · have o := h2 j a z
              have e := stp.str.dis i j a ⟨hσ, ds, .inl hs⟩ o
              subst e
              obtain ⟨_, es, z2⟩ := z
              have : ∃ fs, as[i]? = some (.io fs) := by
                have hi : i < as.length := by
                  rw [← outs_len (by simpa [lenOk] using hlen : as.length ≤ s'.length)]
                  rcases z2 with z2 | z2 | z2 <;> exact lt_of_get z2
                obtain ⟨b, _, hp⟩ := hm.get (List.getElem?_eq_getElem hi)
                cases hsl : as[i] with
                | io fs => exact ⟨fs, by rw [List.getElem?_eq_getElem hi, hsl]⟩
                | fz d =>
                  rw [outs_get (by simpa [lenOk] using hlen), List.getElem?_eq_getElem hi, hsl, hs] at z2
                  rcases z2 with z2 | z2 | z2 <;> cases z2
                | _ => rw [hsl] at hp; cases b <;> exact hp.elim
              obtain ⟨fs, hio⟩ := this
              have hi := lt_of_get hio
              obtain ⟨⟨es', e1⟩, e2⟩ := stp.li i fs (by rw [List.getElem?_append_left hi]; exact hio)
              rw [hs] at e1; cases e1
          | _ => exact q.elim
end
end Z

/-! Z20: raise, try, what a suite says -/
namespace Z
open PySem PySem.Spec PyProof.Rows L2
/-! ### another wish about the slots -/
section
variable {P : Par} {z : St → Prop}
mutual
theorem Rp.zz {F : Hp} : ∀ (d : D) {v : V}, Rp { P with z := z } F d v ↔ Rp P F d v
  | .non, _ => Iff.rfl
  | .bl _, _ => Iff.rfl
  | .int _, _ => Iff.rfl
  | .str _, _ => Iff.rfl
  | .tup ds, v => ⟨fun ⟨a, xs, e, q, r⟩ => ⟨a, xs, e, q, (RpL.zz ds).mp r⟩, fun ⟨a, xs, e, q, r⟩ => ⟨a, xs, e, q, (RpL.zz ds).mpr r⟩⟩
  | .lst ds, v => ⟨fun ⟨a, xs, e, q, r⟩ => ⟨a, xs, e, q, (RpL.zz ds).mp r⟩, fun ⟨a, xs, e, q, r⟩ => ⟨a, xs, e, q, (RpL.zz ds).mpr r⟩⟩
  | .fn _, _ => Iff.rfl
  | .exc _ _, _ => Iff.rfl
  | .gvn ds, v => ⟨fun ⟨a, xs, e, q, r⟩ => ⟨a, xs, e, q, (RpL.zz ds).mp r⟩, fun ⟨a, xs, e, q, r⟩ => ⟨a, xs, e, q, (RpL.zz ds).mpr r⟩⟩
  | .emp, v => Iff.rfl
theorem RpL.zz {F : Hp} : ∀ (ds : List D) {v : List V}, RpL { P with z := z } F ds v ↔ RpL P F ds v
  | [], _ => Iff.rfl
  | d :: ds, v => ⟨fun ⟨w, r, e, q, x⟩ => ⟨w, r, e, (Rp.zz d).mp q, (RpL.zz ds).mp x⟩, fun ⟨w, r, e, q, x⟩ => ⟨w, r, e, (Rp.zz d).mpr q, (RpL.zz ds).mpr x⟩⟩
end
theorem SlOk.zz {F H : Hp} {v : Option V} {sl : Sl} : SlOk { P with z := z } F H v sl ↔ SlOk P F H v sl := by
  cases v with
  | none => cases sl <;> exact Iff.rfl
  | some v =>
    cases sl with
    | non => exact Iff.rfl
    | fz d => exact Rp.zz d
    | _ => exact ⟨fun ⟨a, xs, e, f, g, r⟩ => ⟨a, xs, e, f, g, (RpL.zz _).mp r⟩, fun ⟨a, xs, e, f, g, r⟩ => ⟨a, xs, e, f, g, (RpL.zz _).mpr r⟩⟩
theorem StR.unz {F H : Hp} {σ : St} {s : Sts} (r : StR { P with z := z } F H σ s) (h : P.z σ) : StR P F H σ s := ⟨r.len, r.sub, fun i v sl a b => SlOk.zz.mp (r.slot i v sl a b), r.dis, h⟩
theorem StR.toz {F H : Hp} {σ : St} {s : Sts} (r : StR P F H σ s) (h : z σ) : StR { P with z := z } F H σ s := ⟨r.len, r.sub, fun i v sl a b => SlOk.zz.mpr (r.slot i v sl a b), r.dis, h⟩
theorem Step.unz {F H F' H' : Hp} {σ σ' : St} {s s' : Sts} (x : Step { P with z := z } σ F H s σ' F' H' s') (h : P.z σ') : Step P σ F H s σ' F' H' s' := ⟨x.str.unz h, x.ff, x.hh, x.dm, x.nf, x.np, x.lk, x.li, x.bk⟩
theorem ElL.unz {F : Hp} {σ : St} : ∀ {es : List El} {vs : List V}, ElL { P with z := z } F σ es vs → ElL P F σ es vs
  | [], _, h => h
  | e :: _, _, ⟨v, r, e1, q, x⟩ => ⟨v, r, e1, (by cases e with
    | d y => exact (Rp.zz y).mp q
    | «at» i => exact q), ElL.unz x⟩
theorem EvR.unz {H0 F H : Hp} {σ : St} {s : Sts} {p : PV} {v : V} (x : EvR { P with z := z } H0 F H σ s p v) : EvR P H0 F H σ s p v := by
  cases p with
  | fz d => exact (Rp.zz d).mp x
  | plc i => exact x
  | tmp ds => obtain ⟨a, xs, e, f, g, r, n, o⟩ := x; exact ⟨a, xs, e, f, g, (RpL.zz ds).mp r, n, o⟩
  | shl ds => obtain ⟨a, xs, e, f, g, r, n, o⟩ := x; exact ⟨a, xs, e, f, g, r.unz, n, o⟩
end
section
variable {P : Par} {W : WX} {X : Cx} {pos p : Pos}
/-- a name takes what the evaluator does not follow -/
theorem Step.setN {σ σ' : St} {F H F' H' : Hp} {s s' : Sts} (pf : P.Free) (st : Step P σ F H s σ' F' H' s') {i : Nat} {v : Option V} (hf : free s' i = true) : Step P σ F H s (σ'.set i v) F' H' (s'.set i .non) := by
  have gs := fun j => get_set s' i j Sl.non
  have gσ := fun j => get_set σ' i j v
  have hlt := free_lt hf
  have own : ∀ j a, Own (σ'.set i v) (s'.set i .non) j a → i ≠ j ∧ Own σ' s' j a := by
    rintro j a ⟨h1, ds, h2⟩
    rw [gs] at h2; rw [gσ] at h1
    by_cases e : i = j
    · subst e; rw [if_pos rfl, if_pos hlt] at h2; rcases h2 with h2 | h2 | h2 <;> cases h2
    · rw [if_neg e] at h1 h2; exact ⟨e, h1, ds, h2⟩
  refine ⟨⟨by rw [List.length_set, List.length_set]; exact st.str.len, st.str.sub, fun j w sl e1 e2 => ?_, fun j k a o1 o2 => st.str.dis j k a (own j a o1).2 (own k a o2).2, pf _⟩, st.ff, st.hh, st.dm, st.nf, ?_, fun j ds e => ?_, fun j ds e => ?_, fun j ds e => ?_⟩
  · rw [gs] at e2; rw [gσ] at e1
    by_cases e : i = j
    · subst e; rw [if_pos rfl, if_pos hlt] at e2; cases e2; cases w <;> trivial
    · rw [if_neg e] at e1 e2; exact st.str.slot j w sl e1 e2
  · rintro a ⟨j, h1, ds, h2⟩
    rw [gs] at h2; rw [gσ] at h1
    by_cases e : i = j
    · subst e; rw [if_pos rfl, if_pos hlt] at h2; rcases h2 with h2 | h2 <;> cases h2
    · rw [if_neg e] at h1 h2; exact st.np a ⟨j, h1, ds, h2⟩
  · obtain ⟨h1, h2⟩ := st.lk j ds e
    have ne : i ≠ j := fun z => by subst z; exact (free_io hf).2 h1
    rw [gs, gσ, if_neg ne, if_neg ne]; exact ⟨h1, h2⟩
  · obtain ⟨⟨es, h1⟩, h2⟩ := st.li j ds e
    have ne : i ≠ j := fun z => by subst z; exact (free_io hf).1 h1
    rw [gs, gσ, if_neg ne, if_neg ne]; exact ⟨⟨es, h1⟩, h2⟩
  · rw [gs] at e
    by_cases z : i = j
    · subst z; rw [if_pos rfl, if_pos hlt] at e; cases e
    · rw [if_neg z] at e; exact st.bk j ds e
/-! ### raise -/
theorem ss_raise {e : Expr} {c : Nat} {C : Addr} (hc : X.calm = true) (tk : Takes X W) (hC : P.ca c C) (h : PMk X e fun _ H Q => Q (.ref C) none H) : SS P W X (.Raise (some e) none pos) (fun s => .er (.exc c []) s) := by
  refine PS.weak (ps_raise hc tk h) ?_
  rintro D σ H ⟨F, s, str, g⟩
  exact g (.ref C) none σ F H (Step.refl str) ⟨C, hC, rfl, rfl⟩
/-! ### try -/
def hdsC (cs : List (Nat × (Nat → Sts → Out))) (x : D) (s : Sts) : Out := match cs with
  | [] => .er x s
  | (c, f) :: r => match x with
    | .exc k [] => if (k == c || c == 0) = true then noEr (f k s) else hdsC r x s
    | _ => .no
/-- the exception's class is one of the table's -/
def tsC (P : Par) (f : Nat → Sts → Out) : Addr → Value → Option Addr → TS := fun _ cls d D σ H => ∃ k C, cls = .ref C ∧ P.ca k C ∧ d = none ∧ tSS P WN (f k) D σ H
/-- which classes a clause takes -/
def ExM (K : PySem.W.Frag) (ca : Nat → Addr → Prop) : Prop := ∀ k C c C', ca k C → ca c C' → PySem.W.exmOne K (.ref C) (.ref C') = some (k == c || c == 0)
theorem GO.noEr {σ : St} {F H : Hp} {s : Sts} {r : Out} {D : Ends} {W' : WX} (g : GO P W σ F H s (Z.noEr r) D) : GO P W' σ F H s r D := by
  cases r with
  | er x s => exact g.elim
  | nx s => exact g
  | rt p s => exact g
  | bk s => exact g
  | ct s => exact g
  | no => exact g
theorem many_ok (hM : ExM X.K P.ca) {σ : St} {F H : Hp} {s s1 : Sts} {De : Ends} {x : D} : ∀ {cs : List (Nat × (Nat → Sts → Out))} {Cs : List Addr}, (∀ q ∈ cs.zip Cs, P.ca q.1.1 q.2) → cs.length = Cs.length → ∀ {cls : Value} {d : Option Addr} {σ' : St} {F' H' : Hp},
    GO P W σ F H s (hdsC cs x s1) De → Step P σ F H s σ' F' H' s1 → XR P F' x cls d → wMany X.K W De ((cs.zip Cs).map fun q => (.ref q.2, tsC P q.1.2)) cls d σ' H'
  | [], _, _, _, cls, d, σ', F', H', g, st, xr => by
    simp only [List.zip_nil_left, List.map_nil, wMany]
    exact g cls d σ' F' H' st xr
  | (c, f) :: cs, [], _, hl, _, _, _, _, _, _, _, _ => by simp at hl
  | (c, f) :: cs, C' :: Cs, hC, hl, cls, d, σ', F', H', g, st, xr => by
    have hx : ∃ k, x = .exc k [] ∧ ∃ C, P.ca k C ∧ cls = .ref C ∧ d = none := by
      cases x with
      | exc k v => cases v with
        | nil => exact ⟨k, rfl, xr⟩
        | cons => exact xr.elim
      | _ => exact xr.elim
    obtain ⟨k, rfl, C, h1, rfl, rfl⟩ := hx
    have hc : P.ca c C' := hC ((c, f), C') (by simp)
    simp only [List.zip_cons_cons, List.map_cons, wMany]
    refine ⟨(k == c || c == 0), hM k C c C' h1 hc, fun hb a ha => ?_, fun hb => ?_⟩
    · simp only [hdsC] at g
      rw [if_pos hb] at g
      exact ⟨k, C, rfl, h1, rfl, F', s1, st.str, GO.after (GO.noEr g) st⟩
    · simp only [hdsC] at g
      rw [if_neg (by rw [hb]; simp)] at g
      exact many_ok hM (fun q hq => hC q (by simp [hq])) (by simpa using hl) g st ⟨C, h1, rfl, rfl⟩
/-- try: body, except A: .., except B: .. -/
theorem ss_try {body : List Stmt} {h₀ : ExceptHandler} {hds : List ExceptHandler} {cb : Sts → Out} {cs : List (Nat × (Nat → Sts → Out))} {Cs : List Addr} (hM : ExM X.K P.ca) (hs : X.stack = X.env :: X.outer) (hf : X.env.frame = some X.env.locals) (tk : Takes X W)
    (hC : ∀ q ∈ cs.zip Cs, P.ca q.1.1 q.2) (hl : cs.length = Cs.length)
    (hb : ∀ (W : WX) (pn : List (Addr × Obj)) (xe : Value → Shared → Prop), Takes (X.tr pn xe) W → PassesOwn (model X.prog X.w) X.A X.env xe → SSs P W (X.tr pn xe) body cb)
    (hh : HdsOk X (h₀ :: hds) ((cs.zip Cs).map fun q => (.ref q.2, tsC P q.1.2))) : SS P W X (.Try body (h₀ :: hds) [] [] pos) (tryC cb (hdsC cs)) := by
  refine PS.weak (ps_try_many (tb := fun W => tSS P W cb) hs hf tk hb hh) ?_
  rintro D σ H ⟨F, s, str, g⟩
  refine ⟨F, s, str, ?_⟩
  unfold tryC at g
  cases hcb : cb s with
  | er x s1 =>
    rw [hcb] at g
    exact fun cls d σ' F' H' st xr => many_ok hM hC hl g st xr
  | nx s1 => rw [hcb] at g; exact g
  | rt p s1 => rw [hcb] at g; exact g
  | bk s1 => rw [hcb] at g; exact g
  | ct s1 => rw [hcb] at g; exact g
  | no => rw [hcb] at g; exact g
/-! ### try: .., except x as n: return .. -/
abbrev Par.at (P : Par) (i : Nat) (a : Addr) : Par := { P with z := fun σ => σ[i]? = some (some (.ref a)) }
def tsA (P : Par) (i : Nat) (f : Nat → Sts → Out) : Addr → Value → Option Addr → TS := fun a cls d D σ H => ∃ k C, cls = .ref C ∧ P.ca k C ∧ d = none ∧ tSS (P.at i a) WN (f k) D σ H
theorem ss_tryAs {body suite : List Stmt} {b₀ : Stmt} {x n : Str} {np pos' : Pos} {i c : Nat} {C' : Addr} {cb : Sts → Out} {f : Nat → Sts → Out} (pf : P.Free) (hM : ExM X.K P.ca) (hs : X.stack = X.env :: X.outer) (hf : X.env.frame = some X.env.locals) (hN : X.N.Nodup) (hi : X.N[i]? = some n) (hln : X.env.kindOf n = some .local)
    (hn : Names X x (.ref C')) (hC : P.ca c C') (tk : Takes X W)
    (hb : ∀ (W : WX) (pn : List (Addr × Obj)) (xe : Value → Shared → Prop), Takes (X.tr pn xe) W → PassesOwn (model X.prog X.w) X.A X.env xe → SSs P W (X.tr pn xe) body cb)
    (hsu : ∀ (k : Nat) (C a : Addr) (oe : Obj) (pn : List (Addr × Obj)), P.ca k C → Zc (.ref C) none oe → (∃ vs, oe.data = .fields vs) → SSs (P.at i a) WN (X.suite a ((a, oe) :: pn)) (b₀ :: suite) (f k)) :
    SS P W X (.Try body [.ExceptHandler (some (.Name x np)) (some n) (b₀ :: suite) pos'] [] [] pos) (tryC cb (asC c i f)) := by
  refine PS.weak (ps_try_as (tb := fun W => tSS P W cb) (ts := tsA P i f) hs hf hN hi hln hn tk hb fun a oe cls d pn hz hd => ⟨fun pins s σ H D I h => ?_⟩) ?_
  · obtain ⟨k, C, rfl, hk, rfl, h⟩ := h
    exact (hsu k C a oe pn hk hz hd).run pins s σ H D I h
  · rintro D σ H ⟨F, s, str, g⟩
    refine ⟨F, s, str, ?_⟩
    unfold tryC at g
    cases hcb : cb s with
    | er x s1 =>
      rw [hcb] at g
      intro cls d σ' F' H' st xr
      have hx : ∃ k, x = .exc k [] ∧ ∃ C, P.ca k C ∧ cls = .ref C ∧ d = none := by
        cases x with
        | exc k v => cases v with
          | nil => exact ⟨k, rfl, xr⟩
          | cons => exact xr.elim
        | _ => exact xr.elim
      obtain ⟨k, rfl, C, h1, rfl, rfl⟩ := hx
      refine ⟨(k == c || c == 0), hM k C c C' h1 hC, fun hb a ha => ?_, fun hb => ?_⟩
      · simp only [asC] at g
        rw [if_pos hb] at g
        split at g
        case isFalse => exact g.elim
        rename_i hfr
        have st2 := st.setN pf (v := some (.ref a)) hfr
        have hz : (σ'.set i (some (V.ref a)))[i]? = some (some (.ref a)) := by
          have hl : i < σ'.length := by rw [st.str.len]; exact free_lt hfr
          rw [List.getElem?_set_self hl]
        refine ⟨k, C, rfl, h1, rfl, F', s1.set i .non, st2.str.toz hz, ?_⟩
        cases hfk : f k (s1.set i .non) with
        | rt p s2 =>
          rw [hfk] at g
          intro σ2 F2 H2 v st3 ev
          exact g σ2 F2 H2 v (st2.trans (st3.unz (pf _))) (ev.unz.base st2.dm)
        | _ => rw [hfk] at g; exact g.elim
      · simp only [asC] at g
        rw [if_neg (by rw [hb]; simp)] at g
        exact g _ _ σ' F' H' st ⟨C, h1, rfl, rfl⟩
    | nx s1 => rw [hcb] at g; exact g
    | rt p s1 => rw [hcb] at g; exact g
    | bk s1 => rw [hcb] at g; exact g
    | ct s1 => rw [hcb] at g; exact g
    | no => rw [hcb] at g; exact g
end
end Z

/-! ZF: a def that is called within a suite with the exception itself: it tells the exception's classes -/
namespace Z
open PySem PySem.Spec PyProof.Rows L2
open L2H (RoomH PinOk cxH inv_startH)
abbrev Pin := Addr × Obj
/-- a promise that hangs on the exception at hand -/
structure FnF (Pr : Program) (w : World) (K : PySem.W.Frag) (mg : Str → Option Value) (base : Heap) (CX : CXT) (k : Nat) (f : Addr) (fd : FuncData) (ps : List Str) (sp : Pin → Sp) : Prop where
  len : ∀ p vs H Q E, sp p vs H Q E → vs.length = ps.length
  run : ∀ (A : Around) (outer : List PySem.Env) (s : Shared) (H : Hp) (args : Args) (us : List Value) (vs : List V) (Q : VK) (E : XK) (p : Pin), A.guards = some [] → RoomH k A → PinOk outer H s p → Env0 Pr w K mg base A outer s H → BindsTo s fd args (ps.zip us) → Vals vs us → sp p vs H Q E →
    codeAny (model Pr w) A (.call (.ref f) args) (L2.CR CX outer Pr w H s Q E) s
theorem fn_ofF {CX : CXT} {Pr : Program} {w : World} {K : PySem.W.Frag} {mg : Str → Option Value} {base : Heap} {k : Nat} {f : Addr} {x qual : Str} {st : Stmt} {fd : FuncData} {N ps : List Str} {sp : Pin → Sp} (Fn : Fun K x qual st f fd) (S : FnScope N ps (defScope st)) (len : ∀ p vs H Q E, sp p vs H Q E → vs.length = ps.length)
    (hbody : ∀ (cdv : Value) (A : Around) (outer : List PySem.Env) (s : Shared) (H : Hp) (vs : List V) (Q : VK) (E : XK) (p : Pin), A.guards = some [] → RoomH k (A.deeper (envOfC qual (defScope st) s.heap.objs.size f cdv)) → sp p vs H Q E →
      ∃ t, PSs (cxH CX Pr w K mg base N qual (defScope st) f cdv A outer s H E p) (defBody st) t ∧ t { nx := fun _ H' => Q .non H', rt := Q } (L2.start N vs) H) : FnF Pr w K mg base CX (k + 1) f fd ps sp := by
  obtain ⟨oc, od, kV, doc, pm, an, cdv, ct, osl, rfl, lk, hcd⟩ := Fn.ex
  refine ⟨len, fun A outer s H args us vs Q E p hgd hr hpin e0 hb r hsp => ?_⟩
  have hl := len _ _ _ _ _ hsp
  have KX : K.In s.heap := e0.mod.kin.keeps fun b o e => (e0.bs b o e).1
  have lim : s.heap.NoLimit := e0.mod.nolimit.keeps fun b o e => (e0.bs b o e).1
  have kinds : ∀ y ∈ ps.zip us, (defScope st).names.lookup y.1 = some .local ∨ ((defScope st).names.lookup y.1 = some .cell ∧ ((cellsFrom (s.heap.objs.size + 1) (defScope st).names []).lookup y.1).isSome = true) := by
    rintro ⟨n, v⟩ hy
    exact (S.par n (List.of_mem_zip hy).1).imp id fun q => ⟨q, PySem.W.cellsFrom_some _ _ _ (.inl q)⟩
  refine codeAny_call_function hr.depth (KX _ _ lk) rfl S.co S.gen rfl (PySem.W.codeRec_of KX hcd) (hb _ _ _ _ (wpAny_newFunctionEnv_cells S.kind kinds fun env he s1 xc => ?_))
  subst he
  refine ⟨lim.keeps xc.toInCall.keep, codeAny_func ?_⟩
  obtain ⟨t, ht, hq⟩ := hbody cdv A outer s H vs Q E p hgd (hr.deeper _) hsp
  refine wpAny_mono (ht.run [] s1 (L2.start N vs) H _ (inv_startH S hpin e0 hl r xc) hq) (fun fl s' hs => ?_) fun _ _ q => q
  cases fl with
  | ret u => obtain ⟨v, σ', H', J, rv, q⟩ := hs; exact ⟨v, H', J.os, J.bare, J.base, J.hok, rv, q⟩
  | next => obtain ⟨σ', H', J, q⟩ := hs; exact ⟨V.non, H', J.os, J.bare, J.base, J.hok, rfl, q⟩
  | brk => obtain ⟨_, _, _, q⟩ := hs; exact q.elim
  | cont => obtain ⟨_, _, _, q⟩ := hs; exact q.elim
/-- which of the classes it is -/
def flagsD (j : Nat) (cs : List Nat) : List D := cs.map fun c => .bl (j == c || c == 0)
def spF (P : Par) (cs : List Nat) : Pin → Sp := fun p vs H Q E => ∃ j C, P.ca j C ∧ vs = [.ref p.1] ∧ Zc (.ref C) none p.2 ∧ (∃ xs, p.2.data = .fields xs) ∧ spZ P [] (fun _ => .ok (.tmp (flagsD j cs)) []) [] H Q E
section
variable {P : Par} {W : WX} {X : Cx} {pos p : Pos}
theorem ElL.toz {z : St → Prop} {F : Hp} {σ : St} : ∀ {es : List El} {vs : List V}, ElL P F σ es vs → ElL { P with z := z } F σ es vs
  | [], _, h => h
  | e :: _, _, ⟨v, r, e1, q, x⟩ => ⟨v, r, e1, (by cases e with
    | d y => exact (Rp.zz y).mpr q
    | «at» i => exact q), ElL.toz x⟩
/-- a reading without the wish about the slots -/
theorem tse_unz {z : St → Prop} {c : Sts → Rs PV} {σ : St} {H : Hp} {Q : VK} (pf : P.Free) (h : tSE { P with z := z } W c σ H Q) : tSE P W c σ H Q := by
  obtain ⟨F, s, str, g⟩ := h
  refine ⟨F, s, str.unz (pf σ), ?_⟩
  have tz : ∀ {F' H' s'}, Step P σ F H s σ F' H' s' → Step { P with z := z } σ F H s σ F' H' s' := fun st => ⟨st.str.toz str.z, st.ff, st.hh, st.dm, st.nf, st.np, st.lk, st.li, st.bk⟩
  cases hc : c s with
  | no => rw [hc] at g; exact g
  | er x s' =>
    rw [hc] at g
    intro cls d F' H' st xr
    refine g cls d F' H' (tz st) ?_
    cases x with
    | exc k v => cases v with
      | nil => exact xr
      | cons => exact xr
    | _ => exact xr
  | ok p s' =>
    rw [hc] at g
    intro v F' H' st ev
    refine g v F' H' (tz st) ?_
    cases p with
    | fz d => exact (Rp.zz d).mpr ev
    | plc i => exact ev
    | tmp ds => obtain ⟨a, xs, e, f, g, r, n, o⟩ := ev; exact ⟨a, xs, e, f, g, (RpL.zz ds).mpr r, n, o⟩
    | shl es =>
      obtain ⟨a, xs, e, f, g, r, n, o⟩ := ev
      exact ⟨a, xs, e, f, g, ElL.toz r, n, o⟩
theorem flatL_flags (j : Nat) : ∀ cs : List Nat, D.flatL (flagsD j cs) = true
  | [] => rfl
  | c :: cs => by
    have := flatL_flags j cs
    simp only [flagsD, List.map_cons, D.flatL, D.flat, Bool.true_and] at this ⊢
    exact this
theorem call_none (j : Nat) (cs : List Nat) (s : Sts) : callR [] (fun _ => .ok (.tmp (flagsD j cs)) []) [] s = .ok (.tmp (flagsD j cs)) s := by
  have h := flatL_flags j cs
  simp [callR, argS, ioIx, vwIx, outOk, isVal, backC, flatP, flatO, h, backIo]
/-- what stands where the def of the classes is named -/
structure FlAt (X : Cx) (P : Par) (a : Addr) (cs : List Nat) : Prop where
  ex : ∃ fd x, FnF X.prog X.w X.K X.mg X.base (L2.CX X.prog X.w) 1 a fd [x] (spF P cs) ∧ PySem.W.keepIn X.K (.ref a) = true ∧ Binds X.K fd [x] []
theorem se_flags {z : St → Prop} (pf : P.Free) {x y : Str} {a ea C : Addr} {oe : Obj} {i j : Nat} {cs : List Nat} (hgd : X.A.guards = some []) (hr : RoomH 1 X.A) (tk : Takes X W) (F : FlAt X P a cs) (hg : Gl X x) (hm : X.mg x = some (.ref a)) (hdb : (x == ("__debug__" : Str)) = false) (hv : PE X (.Name y p) (tVar i))
    (hz : ∀ σ, z σ → σ[i]? = some (some (V.ref ea))) (hC : P.ca j C) (hp : (ea, oe) ∈ X.pn) (hzc : Zc (.ref C) none oe) (hf : ∃ xs, oe.data = .fields xs) {q : Pos} :
    SE { P with z := z } W X (.Call (.Name x q) [.Name y p] [] pos) (fun s => .ok (.tmp (flagsD j cs)) s) := by
  obtain ⟨fd, px, Ff, hk, hb⟩ := F.ex
  refine ⟨fun pins s σ H Q I h => ?_⟩
  have hσ : σ[i]? = some (some (V.ref ea)) := by obtain ⟨_, _, str, _⟩ := h; exact hz σ str.z
  have h' : tSE P W (fun s => .ok (.tmp (flagsD j cs)) s) σ H Q := tse_unz pf h
  have hsp : spZ P [] (fun _ => .ok (.tmp (flagsD j cs)) []) [] H Q (WE W σ) := by
    obtain ⟨F0, s0, str0, g0⟩ := h'
    refine callR_ok pf (Step.refl str0) (ps := []) (vs := []) rfl ?_
    rw [call_none]; exact g0
  refine wpAny_Call_Name_kw (ld_glob I hg hm ?_ hdb)
  have ha : PA X [.Name y p] (tCons (tVar i) tNil) := pa_cons hv pa_nil rfl
  refine PySem.W.callWith_K (h₀ := X.base) I.ok.mod.kin hk (thn (ha.run pos pins s σ H (fun vs H1 => vs = [V.ref ea] ∧ H = H1) I ⟨_, hσ, rfl, rfl⟩) fun us s1 hh => ?_) rfl rfl
  obtain ⟨vs, H1, I1, r1, ev, eH⟩ := hh
  subst ev
  subst eH
  refine ⟨I1.kIn, ?_⟩
  have hl : us.length = [px].length := by rw [← r1.length]; rfl
  have b := hb s1 us I1.kIn (by rw [List.append_nil]; exact hl)
  rw [List.append_nil] at b
  have P1 := I1.pin (ea, oe) (List.mem_append_left _ hp)
  have hpin : PinOk X.stack H s1 (ea, oe) := ⟨P1.1, P1.2.1, fun hm => (List.mem_cons.mp (I1.stkSub ea hm)).elim P1.2.2.1 P1.2.2.2.1, P1.2.2.2.2⟩
  refine wpAny_call (codeAny_mono (Ff.run X.A X.stack s1 H ⟨us, []⟩ us [.ref ea] Q (WE W σ) (ea, oe) hgd hr hpin I1.env0 b r1 ⟨j, C, hC, rfl, hzc, hf, hsp⟩) fun r s' hq => ?_)
  cases r with
  | error e => exact passAt tk σ pins H s1 e s' I1 hq
  | ok fl =>
    cases fl with
    | ret u => exact I1.after hq
    | next => exact False.elim hq
    | brk => exact False.elim hq
    | cont => exact False.elim hq
end
end Z

/-! Z21: from the program's text to the small language -/
namespace Z
open PySem PySem.Spec PyProof.Rows L2
inductive Gv where
  | fn (i : Nat) | exc (c : Nat) | con (d : D) | blt | fl (cs : List Nat)
structure CE where
  N : List Str
  sc : Scope
  ts : Scope
  gl : List (Str × Gv)
  calm : Bool
  hx : Option (Nat × Nat)
def slotIx : List Str → Str → Option Nat
  | [], _ => none
  | y :: ys, x => if y = x then some 0 else (slotIx ys x).map (· + 1)
theorem slotIx_get : ∀ {N : List Str} {x : Str} {i : Nat}, slotIx N x = some i → N[i]? = some x
  | y :: ys, x, i, h => by
    simp only [slotIx] at h
    split at h
    · cases h; simp_all
    · simp only [Option.map_eq_some_iff] at h
      obtain ⟨j, h1, rfl⟩ := h
      simpa using slotIx_get h1
def visB (sc : Scope) (x : Str) : Bool := match sc.names.lookup x with
  | some .local => true
  | some .cell => true
  | some .free => true
  | _ => false
def okName (x : Str) : Bool := !(x == ("__debug__" : Str)) && !(x == ("__classdict__" : Str))
def CE.glV (ce : CE) (x : Str) : Option Gv := if ce.sc.names.lookup x = some .globalImplicit then ce.gl.lookup x else none
/-- a comprehension's scope within sc -/
def rlb (scope sc : Scope) : Scope := { scope with names := scope.names.map fun (n, k) => if (k == .free && sc.kind == .function && sc.names.lookup n == some .cell) then (n, .cell) else (n, k) }
theorem rlb_get {scope sc : Scope} {x : Str} {k : NameKind} (hk : k ≠ .free) (h : scope.names.lookup x = some k) : (rlb scope sc).names.lookup x = some k := by
  unfold rlb
  dsimp only
  generalize scope.names = ns at h
  induction ns with
  | nil => simp at h
  | cons y ys ih =>
    obtain ⟨n, j⟩ := y
    simp only [List.lookup_cons, List.map_cons] at h ⊢
    by_cases hx : (x == n) = true
    · rw [hx] at h
      simp only [Option.some.injEq] at h
      subst h
      have : (j == NameKind.free) = false := by cases j <;> first | rfl | exact absurd rfl hk
      rw [this, Bool.false_and, Bool.false_and, if_neg (by simp), List.lookup_cons, hx]
    · have hx' : (x == n) = false := by simpa using hx
      rw [hx'] at h
      have h' := ih h
      split <;> simp only [List.lookup_cons, hx'] <;> exact h'
def CE.blk (ce : CE) (scope : Scope) : CE := { ce with sc := rlb scope ce.sc, ts := scope, hx := none }
def CE.isBlt (ce : CE) (x : Str) : Bool := match ce.glV x with
  | some .blt => true
  | _ => false
def conD : Const → Option D
  | .none => some .non
  | .bool b => some (.bl b)
  | .int i => some (.int i)
  | .str x => some (.str x)
  | _ => none
def bopOf : Operator → Option BOp
  | .Add => some .add
  | .Sub => some .sub
  | .Mult => some .mul
  | .FloorDiv => some .fdiv
  | .Mod => some .mod
  | .Pow => some .pow
  | _ => none
def copOf : CmpOp → COp
  | .Eq => .eq
  | .NotEq => .ne
  | .Lt => .lt
  | .LtE => .le
  | .Gt => .gt
  | .GtE => .ge
  | .Is => .is
  | .IsNot => .isn
  | .In => .inn
  | .NotIn => .nin
def starB : Expr → Bool
  | .Starred _ _ => true
  | _ => false
def sliceB : Expr → Bool
  | .Slice _ _ _ _ => true
  | _ => false
def setB : Expr → Bool
  | .Set _ _ _ => true
  | _ => false
def bltOf (x : Str) : Option Bl :=
  if x = "len" then some .len else if x = "abs" then some .abs else if x = "int" then some .int else if x = "sum" then some .sum else if x = "max" then some .max else
  if x = "min" then some .min else if x = "all" then some .all else if x = "any" then some .any else if x = "list" then some .list else if x = "tuple" then some .tuple else if x = "sorted" then some .sorted else if x = "repr" then some .repr else none
def tyOf (x : Str) : Option String :=
  if x = "int" then some "int" else if x = "bool" then some "bool" else if x = "str" then some "str" else if x = "tuple" then some "tuple" else if x = "list" then some "list" else if x = "dict" then some "dict" else none
def mtOf (x : Str) (n : Nat) : Option Mt :=
  if n = 0 then (if x = "pop" then some .pop else if x = "reverse" then some .reverse else if x = "clear" then some .clear else none) else
  if n = 1 then (if x = "append" then some .append else if x = "pop" then some .popAt else none) else none
def calmBl : Bl → Bool
  | .sum => true
  | .max => true
  | .min => true
  | .all => true
  | .any => true
  | _ => false
def ownOf (N : List Str) : List (Str × NameKind) → List (Str × Nat)
  | [] => []
  | (x, k) :: r => match (k == .local || k == .cell), slotIx N x with
    | true, some i => (x, i) :: ownOf N r
    | _, _ => ownOf N r
def blkB (N : List Str) (sc scope : Scope) (own : List (Str × Nat)) : Bool := decide (scope.kind = .function) && scope.names.all (fun y => decide (scope.names.lookup y.1 = some y.2)) && own.all (fun p => decide (N[p.2]? = some p.1)) &&
  scope.names.all (fun y => !decide (y.2 = .free) || decide (sc.names.lookup y.1 = some .cell) || decide (sc.names.lookup y.1 = some .free)) &&
  scope.names.all (fun y => !(decide (y.2 = .local) || decide (y.2 = .cell)) || decide (y.1 ∈ own.map (·.1)) || decide (y.1 ∉ N))
theorem blkB_ok {N : List Str} {sc scope : Scope} {own : List (Str × Nat)} (h : blkB N sc scope own = true) : BlkOk N sc scope own := by
  simp only [blkB, Bool.and_eq_true, List.all_eq_true, decide_eq_true_eq, Bool.or_eq_true, Bool.not_eq_true', decide_eq_false_iff_not] at h
  obtain ⟨⟨⟨⟨h1, h2⟩, h3⟩, h4⟩, h5⟩ := h
  refine ⟨h1, fun y hy => h2 y hy, fun p hp => h3 p hp, fun y hy e => ?_, fun y hy e => ?_⟩
  · rcases h4 y hy with (h | h) | h
    · exact absurd e h
    · exact .inl h
    · exact .inr h
  · rcases h5 y hy with (h | h) | h
    · rcases e with e | e <;> simp [e] at h
    · exact .inl h
    · exact .inr h
mutual
/-- targets -/
def cT (ce : CE) : Expr → Option TG
  | .Name x _ => if ce.ts.names.lookup x = some .local ∨ ce.ts.names.lookup x = some .cell then (slotIx ce.N x).map .var else none
  | .Tuple es _ _ => if ce.calm then (cTs ce es).map .tup else none
  | _ => none
def cTs (ce : CE) : List Expr → Option (List TG)
  | [] => some []
  | e :: es => if starB e then none else match cT ce e, cTs ce es with
    | some t, some ts => some (t :: ts)
    | _, _ => none
end
mutual
def cE : Nat → CE → Expr → Option IE
  | 0, _, _ => none
  | n + 1, ce, e => match e with
    | .Name x _ => if okName x = true then (if visB ce.sc x = true then (slotIx ce.N x).map .var else match ce.glV x with
        | some (.fn i) => some (.con (.fn i))
        | some (.con d) => some (.con d)
        | _ => none) else none
    | .Constant c _ _ => (conD c).map .con
    | .BinOp a op b _ => match bopOf op, cE n ce a, cE n ce b with
      | some o, some x, some y => some (.bin o x y)
      | _, _, _ => none
    | .UnaryOp .Not a _ => (cE n ce a).map .not
    | .UnaryOp .USub a _ => (cE n ce a).map .neg
    | .BoolOp _ [a] _ => cE n ce a
    | .BoolOp .And (a :: b :: r) pos => match cE n ce a, cE n ce (.BoolOp .And (b :: r) pos) with
      | some x, some y => some (.and x y)
      | _, _ => none
    | .BoolOp .Or (a :: b :: r) pos => match cE n ce a, cE n ce (.BoolOp .Or (b :: r) pos) with
      | some x, some y => some (.or x y)
      | _, _ => none
    | .Compare a [op] [b] _ => if behindInMarks op b = true then none else match cE n ce a, cE n ce b with
      | some x, some y => some (.cmp (copOf op) x y)
      | _, _ => none
    | .Compare a [op, op'] [b, c] _ => if lastMarks [op, op'] [b, c] = true then none else match cE n ce a, cE n ce b, cE n ce c with
      | some x, some y, some z => some (.cmp2 (copOf op) (copOf op') x y z)
      | _, _, _ => none
    | .IfExp c a b _ => match cE n ce c, cE n ce a, cE n ce b with
      | some x, some y, some z => some (.ife x y z)
      | _, _, _ => none
    | .Tuple es _ _ => (cL n ce es).map .tup
    | .List (.Starred a _ :: es) _ => match cE n ce a, cL n ce es with
      | some x, some xs => some (.bin .add (.blt .list [x]) (.lst xs))
      | _, _ => none
    | .List es _ => (cL n ce es).map .lst
    | .Subscript a (.Slice none none (some (.UnaryOp .USub (.Constant (.int 1) _ _) _)) _) _ => (cE n ce a).map fun i => .blt .rev [i]
    | .Dict [] [] _ => some (.blt .emp [])
    | .Subscript a (.Slice lo hi none _) _ => match cE n ce a, cO n ce lo, cO n ce hi with
      | some x, some l, some h => some (.slc x l h)
      | _, _, _ => none
    | .Subscript a i _ => if sliceB i = true then none else match cE n ce a, cE n ce i with
      | some x, some y => some (.sub x y)
      | _, _ => none
    | .ListComp elt [⟨tge, iter, ifs, 0⟩] scope _ => cLc n ce elt tge iter ifs scope
    | .Call f args [] pos => cCall n ce f args pos
    | _ => none
def cLc : Nat → CE → Expr → Expr → Expr → List Expr → Scope → Option IE
  | 0, _, _, _, _, _, _ => none
  | n + 1, ce, elt, tge, iter, ifs, scope => if ce.calm = true ∧ blkB ce.N ce.sc scope (ownOf ce.N scope.names) = true ∧ setB iter = false then
      match cI n ce tge iter, cT (ce.blk scope) tge, cIfs n (ce.blk scope) ifs, cE n (ce.blk scope) elt with
      | some it, some tg, some is, some e => if (tgN tg).all (fun j => ((ownOf ce.N scope.names).map (·.2)).contains j) = true then some (.lc ((ownOf ce.N scope.names).map (·.2)) tg it is e) else none
      | _, _, _, _ => none
    else none
def cIfs : Nat → CE → List Expr → Option (List IE)
  | 0, _, _ => none
  | n + 1, ce, es => match es with
    | [] => some []
    | [c] => (cE n ce c).map fun i => [i]
    | _ => none
def cL : Nat → CE → List Expr → Option (List IE)
  | 0, _, _ => none
  | n + 1, ce, es => match es with
    | [] => some []
    | e :: es => if starB e = true then none else match cE n ce e, cL n ce es with
      | some x, some xs => some (x :: xs)
      | _, _ => none
/-- a call's arguments: lists there may share -/
def cA : Nat → CE → List Expr → Option (List IE)
  | 0, _, _ => none
  | n + 1, ce, es => match es with
    | [] => some []
    | .List xs _ :: es => match cL n ce xs, cA n ce es with
      | some ys, some xs => some (.shl ys :: xs)
      | _, _ => none
    | e :: es => if starB e = true then none else match cE n ce e, cA n ce es with
      | some x, some xs => some (x :: xs)
      | _, _ => none
def cO : Nat → CE → Option Expr → Option (Option IE)
  | 0, _, _ => none
  | n + 1, ce, o => match o with
    | none => some none
    | some e => (cE n ce e).map some
def cCall : Nat → CE → Expr → List Expr → Pos → Option IE
  | 0, _, _, _, _ => none
  | n + 1, ce, f, args, pos => match f with
    | .Name x _ => if okName x = true then match ce.glV x with
        | some (.fn i) => if ce.calm = true then match cA n ce args with
            | some (y :: ys) => some (.call i (y :: ys))
            | _ => none else none
        | some .blt => cBlt n ce x args
        | some (.fl cs) => (match args, ce.hx with
          | [.Name e _], some (i, j) => if okName e = true ∧ visB ce.sc e = true ∧ slotIx ce.N e = some i ∧ cs.length ≤ 1000 then some (.lst (cs.map fun c => .con (.bl (j == c || c == 0)))) else none
          | _, _ => none)
        | _ => none else none
    | .Attribute (.Name x _) name apos => if okName x = true ∧ visB ce.sc x = true ∧ (apos.endLine == pos.line) = true ∧ ce.calm = true then match slotIx ce.N x, mtOf name args.length, cL n ce args with
        | some i, some k, some is => some (.mut k i is)
        | _, _, _ => none else none
    | .Subscript l i p0 => if ce.calm = true ∧ sliceB i = false then match cE n ce (.Subscript l i p0), cA n ce args with
        | some cf, some (y :: ys) => some (.calld cf (y :: ys))
        | _, _ => none else none
    | _ => none
def cBlt : Nat → CE → Str → List Expr → Option IE
  | 0, _, _, _ => none
  | n + 1, ce, x, args => match args with
    | [.Call (.Name y _) [a] [] _] =>
      if x = "list" ∧ y = "reversed" ∧ ce.isBlt y = true ∧ ce.calm = true ∧ starB a = false then (cE n ce a).map fun i => .blt .revlist [i]
      else if x = "tuple" ∧ y = "reversed" ∧ ce.isBlt y = true ∧ ce.calm = true ∧ starB a = false then (cE n ce a).map fun i => .blt .revtup [i]
      else if x = "len" ∧ y = "set" ∧ ce.isBlt y = true ∧ ce.calm = true ∧ starB a = false then (cE n ce a).map fun i => .blt .lenset [i]
      else if x = "list" ∧ y = "range" ∧ ce.isBlt y = true ∧ ce.calm = true ∧ starB a = false then (cE n ce a).map fun i => .rng false (.con (.int 0)) i
      else if x = "tuple" ∧ y = "range" ∧ ce.isBlt y = true ∧ ce.calm = true ∧ starB a = false then (cE n ce a).map fun i => .rng true (.con (.int 0)) i
      else cBl1 n ce x args
    | [.Call (.Name y _) [a, b] [] _] =>
      if x = "list" ∧ y = "range" ∧ ce.isBlt y = true ∧ ce.calm = true ∧ starB a = false ∧ starB b = false then (match cE n ce a, cE n ce b with | some i, some j => some (.rng false i j) | _, _ => none)
      else if x = "tuple" ∧ y = "range" ∧ ce.isBlt y = true ∧ ce.calm = true ∧ starB a = false ∧ starB b = false then (match cE n ce a, cE n ce b with | some i, some j => some (.rng true i j) | _, _ => none)
      else cBl1 n ce x args
    | [a, .Name y _] => if x = "isinstance" ∧ starB a = false then (if ce.isBlt y = true then (match tyOf y, cE n ce a with
          | some t, some i => some (.isi i [.ty t])
          | _, _ => none) else (match ce.glV y, ce.hx, a with
          | some (.exc c), some (i, k), .Name e _ => if okName e = true ∧ okName y = true ∧ visB ce.sc e = true ∧ slotIx ce.N e = some i then some (.con (.bl (k == c || c == 0))) else none
          | _, _, _ => none)) else cBl1 n ce x args
    | _ => cBl1 n ce x args
def cBl1 : Nat → CE → Str → List Expr → Option IE
  | 0, _, _, _ => none
  | n + 1, ce, x, args => match bltOf x with
    | some b => if (calmBl b = true → ce.calm = true) then match cL n ce args with
        | some (y :: ys) => some (.blt b (y :: ys))
        | _ => none else none
    | none => none
/-- what is walked; tg: the target -/
def cI : Nat → CE → Expr → Expr → Option II
  | 0, _, _, _ => none
  | n + 1, ce, tg, it => match it with
    | .Call (.Name x _) args [] pos => if ce.isBlt x = true ∧ okName x = true then
        (match args with
        | [b] => if starB b = true then none else if x = "range" then (cE n ce b).map fun j => .rng (.con (.int 0)) j else if x = "enumerate" then (match tg with
            | .Tuple _ _ _ => (cE n ce b).map .enum
            | _ => none) else if x = "reversed" then (cE n ce b).map .rev else (cE n ce it).map .seq
        | [a, b] => if starB a = true ∨ starB b = true then none else if x = "range" then (match cE n ce a, cE n ce b with | some i, some j => some (.rng i j) | _, _ => none) else if x = "zip" then (match tg with
            | .Tuple _ _ _ => (match cE n ce a, cE n ce b with | some i, some j => some (.zip i j) | _, _ => none)
            | _ => none) else (cE n ce it).map .seq
        | [a, b, .UnaryOp .USub (.Constant (.int 1) _ _) _] => if starB a = true ∨ starB b = true then none else if x = "range" then (match cE n ce a, cE n ce b with | some i, some j => some (.rngd i j) | _, _ => none) else none
        | _ => none) else (cE n ce it).map .seq
    | _ => (cE n ce it).map .seq
end
end Z

/-! ZS: items of lists are stored; two names at once -/
namespace Z
open PySem PySem.Spec PyProof.Rows L2
section
variable {P : Par} {W : WX} {X : Cx} {pos : Pos}
abbrev RU : Hp → Hp → Hp → Sts → Unit → Unit → Prop := fun _ _ _ _ _ _ => True
theorem GP.afterU {σ : St} {F H F1 H1 : Hp} {s s1 : Sts} {r : Rs Unit} {Q : Unit → Hp → Prop} (h : GP RU P W σ F H s r Q) (st : Step P σ F H s σ F1 H1 s1) : GP RU P W σ F1 H1 s1 r Q := GP.after (R := RU) (fun _ _ _ _ _ _ _ _ q => q) h st
theorem stP_ok {σ : St} {F H F1 H1 : Hp} {s s1 s2 : Sts} {i : Nat} {j : Int} {d : D} {v : V} {a : Addr} (st : Step P σ F H s σ F1 H1 s1) (ha : σ[i]? = some (some (.ref a))) (r : Rp P F1 d v) (e : stP i j d s1 = some s2) :
    ∃ xs n, H1 a = some (.lst xs) ∧ ixN xs.length j = some n ∧ Step P σ F H s σ F1 (upd H1 a (.lst (xs.set n v))) s2 := by
  have fin : ∀ (xs : List D) (t0 : List D → Sl), (t0 = Sl.lst ∨ t0 = Sl.io) → s1[i]? = some (t0 xs) → (ixD xs.length j).map (fun n => s1.set i (t0 (xs.set n d))) = some s2 → ∃ xs n, H1 a = some (.lst xs) ∧ ixN xs.length j = some n ∧ Step P σ F H s σ F1 (upd H1 a (.lst (xs.set n v))) s2 := by
    intro xs t0 ht hs e
    simp only [Option.map_eq_some_iff] at e
    obtain ⟨n, hn, rfl⟩ := e
    have q := st.str.slot i _ _ ha hs
    have q' : ∃ b xv, V.ref a = .ref b ∧ F1 b = none ∧ H1 b = some (.lst xv) ∧ RpL P F1 xs xv := by
      rcases ht with rfl | rfl <;> exact q
    obtain ⟨b, xv, eb, fb, hb, rb⟩ := q'
    cases eb
    refine ⟨xv, n, hb, by rw [← rb.length]; exact hn, ?_⟩
    exact Step.change (t := t0 (xs.set n d)) st ha (RpL.set n rb r) fb (ds := xs) (by rcases ht with rfl | rfl; exact .inl ⟨hs, rfl⟩; exact .inr ⟨hs, rfl⟩)
  unfold stP at e
  cases hs : s1[i]? with
  | none => rw [hs] at e; cases e
  | some sl =>
    rw [hs] at e
    cases sl with
    | lst xs => exact fin xs Sl.lst (.inl rfl) hs e
    | io xs => exact fin xs Sl.io (.inr rfl) hs e
    | _ => cases e
/-- a list that may be changed stands there -/
theorem rdL_ref {σ : St} {F H : Hp} {s s' : Sts} {i : Nat} (str : StR P F H σ s) (h : rdL s i = .ok () s') : s' = s ∧ ∃ a, σ[i]? = some (some (.ref a)) := by
  unfold rdL at h
  cases hs : s[i]? with
  | none => rw [hs] at h; cases h
  | some sl =>
    have hlt : i < σ.length := by rw [str.len]; exact lt_of_get hs
    have q := str.slot i _ _ (List.getElem?_eq_getElem hlt) hs
    rw [hs] at h
    cases sl with
    | lst ds =>
      cases h
      cases hv : σ[i] with
      | none => rw [hv] at q; exact q.elim
      | some v => rw [hv] at q; obtain ⟨a, xs, rfl, f, g, r⟩ := q; exact ⟨rfl, a, by rw [List.getElem?_eq_getElem hlt, hv]⟩
    | io ds =>
      cases h
      cases hv : σ[i] with
      | none => rw [hv] at q; exact q.elim
      | some v => rw [hv] at q; obtain ⟨a, xs, rfl, f, g, r⟩ := q; exact ⟨rfl, a, by rw [List.getElem?_eq_getElem hlt, hv]⟩
    | _ => cases h
theorem rdL_cases (s : Sts) (i : Nat) : rdL s i = .ok () s ∨ rdL s i = .no := by
  unfold rdL
  split <;> simp
/-- what stores ask -/
def tSTs' (P : Par) (W : WX) (c : List D → Sts → Rs Unit) : L2.TGs := fun vs σ H Q => ∃ F s ds, StR P F H σ s ∧ RpL P F ds vs ∧ GP RU P W σ F H s (c ds s) (fun _ H' => Q σ H')
/-- one store, then others: by values -/
theorem st_core {ck : Sts → Rs PV} {i : Nat} {c : List D → Sts → Rs Unit} {σ : St} {F H : Hp} {s : Sts} {d : D} {ds : List D} {v : V} {vs : List V} {Q : St → Hp → Prop} (str : StR P F H σ s) (rv : Rp P F d v) (rs : RpL P F ds vs)
    (g : GP RU P W σ F H s ((stI ck i s).bind fun j s1 => match stP i j d s1 with | some s2 => c ds s2 | none => .no) (fun _ H' => Q σ H')) :
    gSub (fun σ H Q => ∃ v, σ[i]? = some (some v) ∧ Q v H) (tSE P W ck) rSetL v σ H fun σ1 H1 => tSTs' P W c vs σ1 H1 Q := by
  rcases rdL_cases s i with h1 | h1
  · obtain ⟨_, a, ha⟩ := rdL_ref str h1
    refine ⟨_, ha, F, s, str, ?_⟩
    simp only [stI, h1, Rs.bind] at g
    have g : GP RU P W σ F H s ((ck s).bind fun q s1 => (match view s1 q with | some (.int j) => (Rs.ok j s1 : Rs Int) | _ => .no).bind fun j s1 => match stP i j d s1 with | some s2 => c ds s2 | none => .no) (fun _ H' => Q σ H') := by
      cases hc : ck s with
      | ok q s1 => rw [hc] at g; exact g
      | er x s1 => rw [hc] at g; exact g
      | no => rw [hc] at g; exact g
    refine GP.bind g fun q s1 e1 g1 w F1 H1 st ev => ?_
    cases hv : view s1 q with
    | none => rw [hv] at g1; exact g1.elim
    | some x =>
      rw [hv] at g1
      cases x with
      | int j =>
        have hw := (ev.vw st.str hv).int
        subst hw
        simp only [Rs.bind] at g1
        cases hp : stP i j d s1 with
        | none => rw [hp] at g1; exact g1.elim
        | some s2 =>
          rw [hp] at g1
          obtain ⟨xs, n, hx, hn, st2⟩ := stP_ok st ha (Rp.mono st.ff d rv) hp
          exact ⟨a, xs, j, n, rfl, rfl, hx, hn, F1, s2, ds, st2.str, RpL.mono st.ff ds rs, GP.afterU g1 st2⟩
      | _ => exact g1.elim
  · simp only [stI, h1, Rs.bind] at g
    exact g.elim
theorem pgs_st0 {G : Env} : PGs X [] (tSTs' P W fun ds s => stC G [] [] ds s) := by
  refine PGs.weak pgs_nil ?_
  rintro vs σ H Q ⟨F, s, ds, str, r, g⟩
  cases ds with
  | nil =>
    cases r
    exact ⟨rfl, g () F H (Step.refl str) trivial⟩
  | cons d ds => exact g.elim
section
variable {G : Env} {i : Nat} {x : Str} {ix : Expr} {k : IE} {px tp : Pos}
theorem pg_one (hN : X.N[i]? = some x) (hv : Vis X.env.scope x) (hd : (x == ("__debug__" : Str)) = false) (hcd : (x == ("__classdict__" : Str)) = false) (hsl : sliceB ix = false) (hk : SE P W X ix (evE G k false)) :
    PG X (.Subscript (.Name x px) ix tp) (gSub (fun σ H Q => ∃ v, σ[i]? = some (some v) ∧ Q v H) (tSE P W (evE G k false)) rSetL) := pg_sub (pe_var hN hv hd hcd) hk set_list (by intro v; cases ix <;> first | rfl | cases hsl)
theorem pgs_st {es : List Expr} {is : List Nat} {ks : List IE} (hN : X.N[i]? = some x) (hv : Vis X.env.scope x) (hd : (x == ("__debug__" : Str)) = false) (hcd : (x == ("__classdict__" : Str)) = false) (hsl : sliceB ix = false) (hk : SE P W X ix (evE G k false)) (h : PGs X es (tSTs' P W fun ds s => stC G is ks ds s)) :
    PGs X (.Subscript (.Name x px) ix tp :: es) (tSTs' P W fun ds s => stC G (i :: is) (k :: ks) ds s) := by
  refine PGs.weak (pgs_cons (pg_one hN hv hd hcd hsl hk) h rfl) ?_
  rintro vs σ H Q ⟨F, s, ds, str, r, g⟩
  cases ds with
  | nil => exact g.elim
  | cons d ds =>
    obtain ⟨v, vr, rfl, rv, rr⟩ := r
    exact ⟨v, vr, rfl, st_core (c := fun ds s => stC G is ks ds s) str rv rr g⟩
end
theorem go_gp {σ : St} {F H : Hp} {s : Sts} {r : Rs Unit} {D : Ends} (h : GO P W σ F H s (r.out fun _ s3 => .nx s3) D) : GP RU P W σ F H s r (fun _ H' => D.nx σ H') := by
  cases r with
  | ok x s1 => exact fun b F' H' st _ => h σ F' H' st
  | er x s1 => exact fun cls d F' H' y q => h cls d σ F' H' y q
  | no => exact h
theorem gsub_mono {to ti : TE} {v : V} {σ : St} {H : Hp} {Q Q' : St → Hp → Prop} {ck : Sts → Rs PV} {i : Nat} (h : gSub (fun σ H Q => ∃ v, σ[i]? = some (some v) ∧ Q v H) (tSE P W ck) rSetL v σ H Q) (m : ∀ H, Q σ H → Q' σ H) : gSub (fun σ H Q => ∃ v, σ[i]? = some (some v) ∧ Q v H) (tSE P W ck) rSetL v σ H Q' := by
  obtain ⟨w, hw, q⟩ := h
  exact ⟨w, hw, tse_mono q fun iv H2 h => by
    obtain ⟨p, xs, k, j, rfl, rfl, h1, h2, h3⟩ := h
    exact ⟨p, xs, k, j, rfl, rfl, h1, h2, m _ h3⟩⟩
section
variable {G : Env} {m : Nat} {i j : Nat} {x y : Str} {ix iy e : Expr} {k l je : IE} {px py tp tp2 pt : Pos} {kk : Nat}
/-- xs[i] = v -/
theorem ss_asub1 (hN : X.N[i]? = some x) (hv : Vis X.env.scope x) (hd : (x == ("__debug__" : Str)) = false) (hcd : (x == ("__classdict__" : Str)) = false) (hsl : sliceB ix = false) (hk : SE P W X ix (evE G k false)) (he : SE P W X e (evE G je false))
    (hs : swapsWith e (some (.Subscript (.Name x px) ix tp)) pos.line X.env = pure false) : SS P W X (.Assign [.Subscript (.Name x px) ix tp] e pos) (evS m G (.asubs true [i] [k] je)) := by
  refine PS.weak (ps_asg he (pg_one hN hv hd hcd hsl hk) hs (by cases e <;> rfl) rfl) ?_
  rintro D σ H ⟨F, s, str, g⟩
  refine ⟨F, s, str, GO.bind g fun p s1 e1 g1 v F1 H1 st ev => ?_⟩
  cases h1 : frz s1 p with
  | none => rw [h1] at g1; exact g1.elim
  | some z =>
    obtain ⟨d, s2⟩ := z
    rw [h1] at g1
    obtain ⟨F2, st2, rd, _⟩ := frz_ok st ev.w h1
    have g2 := GP.afterU (go_gp g1) st2
    refine gsub_mono (to := fun _ _ _ => True) (ti := fun _ _ _ => True) (st_core (c := fun ds s => stC G [] [] ds s) (ds := []) (vs := []) st2.str rd rfl g2) ?_
    rintro H3 ⟨F3, s3, ds, str3, r3, g3⟩
    cases ds with
    | nil => exact g3 () F3 H3 (Step.refl str3) trivial
    | cons d ds => exact g3.elim
theorem sw_subs {env : PySem.Env} : swappedStores [.Tuple [.Subscript (.Name x px) ix tp, .Subscript (.Name y py) iy tp2] kk pt] e env = pure none := by
  unfold swappedStores
  cases e <;> first | rfl | skip
  simp only []
  split
  · rfl
  · split
    · rfl
    · simp
/-- xs[i], ys[j] = v, w -/
theorem ss_asub2 (hK : X.K = P.K) (hc : X.calm = true) (hN : X.N[i]? = some x) (hv : Vis X.env.scope x) (hd : (x == ("__debug__" : Str)) = false) (hcd : (x == ("__classdict__" : Str)) = false) (hsl : sliceB ix = false) (hk : SE P W X ix (evE G k false))
    (hN2 : X.N[j]? = some y) (hv2 : Vis X.env.scope y) (hd2 : (y == ("__debug__" : Str)) = false) (hcd2 : (y == ("__classdict__" : Str)) = false) (hsl2 : sliceB iy = false) (hl : SE P W X iy (evE G l false)) (he : SE P W X e (evE G je false))
    (hs : swapsWith e (some (.Tuple [.Subscript (.Name x px) ix tp, .Subscript (.Name y py) iy tp2] kk pt)) pos.line X.env = pure false) :
    SS P W X (.Assign [.Tuple [.Subscript (.Name x px) ix tp, .Subscript (.Name y py) iy tp2] kk pt] e pos) (evS m G (.asubs false [i, j] [k, l] je)) := by
  refine PS.weak (ps_asg he (pg_tup (n := 2) hc (pgs_st hN hv hd hcd hsl hk (pgs_st hN2 hv2 hd2 hcd2 hsl2 hl pgs_st0)) rfl rfl) hs sw_subs rfl) ?_
  rintro D σ H ⟨F, s, str, g⟩
  refine ⟨F, s, str, GO.bind g fun p s1 e1 g1 v F1 H1 st ev => ?_⟩
  cases h1 : frz s1 p with
  | none => rw [h1] at g1; exact g1.elim
  | some z =>
    obtain ⟨d, s2⟩ := z
    rw [h1] at g1
    obtain ⟨F2, st2, rd, _⟩ := frz_ok st ev.w h1
    cases d with
    | tup ds =>
      obtain ⟨a, xs, rfl, q, rr⟩ := rd
      simp only [Bool.false_eq_true, if_false] at g1
      split at g1
      · rename_i hn
        have g2 := GP.afterU (go_gp g1) st2
        exact ⟨a, xs, rfl, hK ▸ sqT_mono st2.str.sub q, by rw [← rr.length, hn]; rfl, F2, s2, ds, st2.str, rr, g2⟩
      · exact g1.elim
    | _ => exact g1.elim
end
/-! x, y = v, w -/
theorem GO.next {α β : Type} {R : Hp → Hp → Hp → Sts → α → β → Prop} {σ : St} {F H F1 H1 : Hp} {s s1 : Sts} {D : Ends} {r : Rs α} {f : α → Sts → Out} {Q1 : β → Hp → Prop}
    (h : GO P W σ F H s (r.out f) D) (st : Step P σ F H s σ F1 H1 s1) (k : ∀ x s2, r = .ok x s2 → GO P W σ F H s (f x s2) D → ∀ b F2 H2, Step P σ F1 H1 s1 σ F2 H2 s2 → R H1 F2 H2 s2 x b → Q1 b H2) : GP R P W σ F1 H1 s1 r Q1 := by
  cases r with
  | ok x s2 => exact fun b F2 H2 st2 q => k x s2 rfl h b F2 H2 st2 q
  | er x s2 => exact fun cls d F' H' y q => h cls d σ F' H' (st.trans y) q
  | no => exact h
theorem free_set {s : Sts} {i j : Nat} {x : Sl} (hx : x = .non ∨ (∃ d, x = .fz d) ∨ ∃ ds, x = .lst ds) (h : free s j = true) : free (s.set i x) j = true := by
  have hl := free_lt h
  unfold free
  rw [get_set]
  by_cases e : i = j
  · subst e
    rw [if_pos rfl, if_pos hl]
    rcases hx with rfl | ⟨d, rfl⟩ | ⟨d, rfl⟩ <;> rfl
  · rw [if_neg e]; exact h
theorem own_setx {σ : St} {s : Sts} {i j : Nat} {v : V} {x : Sl} {a : Addr} (o : Own (σ.set i (some v)) (s.set i x) j a) : (i = j ∧ v = .ref a ∧ ¬ ∃ d, x = .fz d) ∨ Own σ s j a := by
  obtain ⟨h1, es, h2⟩ := o
  rw [get_set] at h1 h2
  by_cases e : i = j
  · subst e
    rw [if_pos rfl] at h1 h2
    left
    split at h1
    · cases h1
      refine ⟨rfl, rfl, ?_⟩
      rintro ⟨d, rfl⟩
      split at h2 <;> rcases h2 with h2 | h2 | h2 <;> cases h2
    · cases h1
  · rw [if_neg e] at h1 h2
    exact .inr ⟨h1, es, h2⟩
theorem ss_par (pf : P.Free) {i j : Nat} {x y : Str} {a b : Expr} {ja jb : IE} {G : Env} {m : Nat} {px py pt pt2 : Pos} {kt k2 : Nat} (hc : X.calm = true) (hN : X.N.Nodup) (hi : X.N[i]? = some x) (hj : X.N[j]? = some y) (hij : i ≠ j) (hx : X.env.scope.names.lookup x = some .local) (hy : X.env.scope.names.lookup y = some .local)
    (hw : swappedStores [.Tuple [.Name x px, .Name y py] kt pt] (.Tuple [a, b] k2 pt2) X.env = pure (some [x, y])) (ha : SE P W X a (evE G ja false)) (hb : SE P W X b (evE G jb false)) (sa : starB a = false) (sb : starB b = false) :
    SS P W X (.Assign [.Tuple [.Name x px, .Name y py] kt pt] (.Tuple [a, b] k2 pt2) pos) (evS m G (.par i j ja jb)) := by
  have e1 : starEach [b] X.env = (false, eval b X.env) :: starEach [] X.env := by cases b <;> first | rfl | cases sb
  have e2 : starEach [a, b] X.env = (false, eval a X.env) :: starEach [b] X.env := by cases a <;> first | rfl | cases sa
  refine PS.weak (ps_par hc hN hi hj hij hx hy (pa_cons ha (pa_cons hb pa_nil e1) e2) hw) ?_
  rintro D σ H ⟨F, s, str, g⟩
  refine ⟨F, s, str, GO.bind g fun p s1 e1 g1 v F1 H1 st ev => ⟨F1, s1, st.str, GO.next g1 st fun q s2 e2 g2 w F2 H2 st2 ev2 => ⟨v, w, rfl, ?_⟩⟩⟩
  have T := st.trans st2
  have ev1 := ev.carry st2
  have ev3 := EvR.base st.dm ev2
  cases p with
  | fz d =>
    cases q with
    | fz d' =>
      simp only at g2
      split at g2
      · rename_i hf
        exact g2 _ _ _ (Step.setF pf (Step.setF pf T hf.1 ev1) (free_set (.inr (.inl ⟨_, rfl⟩)) hf.2) ev3)
      · exact g2.elim
    | tmp ds' =>
      simp only at g2
      split at g2
      · rename_i hf
        obtain ⟨a2, xs, rfl, f0, g0, r0, n0, o0⟩ := ev3
        refine g2 _ _ _ (Step.setL pf (Step.setF pf T hf.1 ev1) (free_set (.inr (.inl ⟨_, rfl⟩)) hf.2) ⟨a2, xs, rfl, f0, g0, r0, n0, fun l o => ?_⟩)
        rcases own_setx o with ⟨_, _, q⟩ | o
        · exact q ⟨_, rfl⟩
        · exact o0 l o
      · exact g2.elim
    | _ => exact g2.elim
  | tmp ds =>
    cases q with
    | fz d' =>
      simp only at g2
      split at g2
      · rename_i hf
        exact g2 _ _ _ (Step.setF pf (Step.setL pf T hf.1 ev1) (free_set (.inr (.inr ⟨_, rfl⟩)) hf.2) ev3)
      · exact g2.elim
    | tmp ds' =>
      simp only at g2
      split at g2
      · rename_i hf
        obtain ⟨a1, xs1, rfl, f1, h1, r1, n1, o1⟩ := ev
        obtain ⟨a2, xs, rfl, f0, g0, r0, n0, o0⟩ := ev2
        refine g2 _ _ _ (Step.setL pf (Step.setL pf T hf.1 ev1) (free_set (.inr (.inr ⟨_, rfl⟩)) hf.2) ⟨a2, xs, rfl, f0, g0, r0, st.dm _ n0, fun l o => ?_⟩)
        rcases own_setx o with ⟨_, q, _⟩ | o
        · cases q; rw [h1] at n0; cases n0
        · exact o0 l o
      · exact g2.elim
    | _ => exact g2.elim
  | _ => cases q <;> exact g2.elim
/-- two names at once: by the interpreter's exchange -/
def parB (ce : CE) (x y : Str) (px py : Pos) (a b : Expr) : Bool := decide (ce.sc.names.lookup x = some .local) && decide (ce.sc.names.lookup y = some .local) && !decide (x = y) && (px.line == px.line) && (py.line == px.line) && !starB a && !starB b && !(foldedForSure 8 a && foldedForSure 8 b) && !(constantsAlone 8 a && constantsAlone 8 b)
theorem sw_par {ce : CE} {env : PySem.Env} {x y : Str} {px py pt pt2 : Pos} {kt k2 : Nat} {a b : Expr} (h : parB ce x y px py a b = true) (hs : env.scope = ce.sc) (hk : env.blockKind = .function) : swappedStores [.Tuple [.Name x px, .Name y py] kt pt] (.Tuple [a, b] k2 pt2) env = pure (some [x, y]) := by
  simp only [parB, Bool.and_eq_true, decide_eq_true_eq, Bool.not_eq_true', decide_eq_false_iff_not, Bool.and_eq_false_iff] at h
  obtain ⟨⟨⟨⟨⟨⟨⟨⟨h1, h2⟩, h3⟩, h4⟩, h5⟩, h6⟩, h7⟩, h8⟩, h9⟩ := h
  have e1 : env.kindOf x = some .local := by unfold Env.kindOf; rw [hs]; exact h1
  have e2 : env.kindOf y = some .local := by unfold Env.kindOf; rw [hs]; exact h2
  have hyx : (y == x) = false := by simpa using fun e => h3 e.symm
  have n1 : (match a with | .Starred .. => true | _ => false) = false := by cases a <;> first | rfl | cases h6
  have n2 : (match b with | .Starred .. => true | _ => false) = false := by cases b <;> first | rfl | cases h7
  have f1 : [a, b].all (foldedForSure 8) = false := by simp only [List.all_cons, List.all_nil, Bool.and_true, Bool.and_eq_false_iff]; exact h8
  have f2 : [a, b].all (constantsAlone 8) = false := by simp only [List.all_cons, List.all_nil, Bool.and_true, Bool.and_eq_false_iff]; exact h9
  have px1 : (Expr.Name x px).pos.line = px.line := rfl
  unfold swappedStores
  simp [hk, e1, e2, px1, h5, n1, n2, f1, f2, List.filterMap, List.eraseDups_cons, h3, hyx]
  rintro (q | q)
  · exact absurd q (by clear n1 n2 f1 f2 h8 h9 q; cases a <;> first | (cases h6; done) | simp)
  · exact absurd q (by clear n1 n2 f1 f2 h8 h9 q; cases b <;> first | (cases h7; done) | simp)
end
end Z

/-! ZU: two names at once by way of a tuple; a list display that starts with a starred part -/
namespace Z
open PySem PySem.Spec PyProof.Rows L2
section
variable {P : Par} {W : WX} {X : Cx} {pos p : Pos}
theorem ss_parC (pf : P.Free) {i j : Nat} {x y : Str} {a b : Expr} {ja jb : IE} {G : Env} {m : Nat} {px py pt pt2 : Pos} {kt k2 : Nat} (hc : X.calm = true) (hN : X.N.Nodup) (hi : X.N[i]? = some x) (hj : X.N[j]? = some y) (hij : i ≠ j)
    (hx : Loc X.env.scope x) (hfx : X.fn x = true ∨ X.env.scope.names.lookup x = some .local) (hy : Loc X.env.scope y) (hfy : X.fn y = true ∨ X.env.scope.names.lookup y = some .local)
    (hs : swapsWithSole [.Tuple [.Name x px, .Name y py] kt pt] (.Tuple [a, b] k2 pt2) pos.line X.env = pure false)
    (hw : swappedStores [.Tuple [.Name x px, .Name y py] kt pt] (.Tuple [a, b] k2 pt2) X.env = pure none) (ha : SE P W X a (evE G ja false)) (hb : SE P W X b (evE G jb false)) (sa : starB a = false) (sb : starB b = false) :
    SS P W X (.Assign [.Tuple [.Name x px, .Name y py] kt pt] (.Tuple [a, b] k2 pt2) pos) (evS m G (.par i j ja jb)) := by
  have e1 : starEach [b] X.env = (false, eval b X.env) :: starEach [] X.env := by cases b <;> first | rfl | cases sb
  have e2 : starEach [a, b] X.env = (false, eval a X.env) :: starEach [b] X.env := by cases a <;> first | rfl | cases sa
  refine PS.weak (ps_asg (pe_tup (x1 := k2) (pos := pt2) (pa_cons ha (pa_cons hb pa_nil e1) e2)) (pg_tup (n := 2) (k := kt) (pos := pt) hc (pgs_cons (pg_name (pos := px) hN hi hx hfx) (pgs_cons (pg_name (pos := py) hN hj hy hfy) pgs_nil))) hs hw) ?_
  rintro D σ H ⟨F, s, str, g⟩
  refine ⟨F, s, str, GO.bind g fun p s1 e1 g1 v F1 H1 st ev => ⟨F1, s1, st.str, GO.next g1 st fun q s2 e2 g2 w F2 H2 st2 ev2 => ⟨by show 2 ≤ sizeLine; decide, fun t ht => ⟨t, [v, w], rfl, SqT.of upd_same, rfl, v, [w], rfl, w, [], rfl, rfl, ?_⟩⟩⟩⟩
  have T := (st.trans st2).new (o := .tup [v, w]) ht
  have ev1 := ev.carry st2
  have ev3 := EvR.base st.dm ev2
  have up : ∀ (a : Addr) (u : HO), H2 a = some u → upd H2 t (.tup [v, w]) a = some u := fun a u e => by rw [upd_ne (fun z => by subst z; rw [ht] at e; cases e)]; exact e
  show D.nx ((σ.set i (some v)).set j (some w)) _
  cases p with
  | fz d =>
    cases q with
    | fz d' =>
      simp only at g2
      split at g2
      · rename_i hf
        exact g2 _ _ _ (Step.setF pf (Step.setF pf T hf.1 ev1) (free_set (.inr (.inl ⟨_, rfl⟩)) hf.2) ev3)
      · exact g2.elim
    | tmp ds' =>
      simp only at g2
      split at g2
      · rename_i hf
        obtain ⟨a2, xs, rfl, f0, g0, r0, n0, o0⟩ := ev3
        refine g2 _ _ _ (Step.setL pf (Step.setF pf T hf.1 ev1) (free_set (.inr (.inl ⟨_, rfl⟩)) hf.2) ⟨a2, xs, rfl, f0, up _ _ g0, r0, n0, fun l o => ?_⟩)
        rcases own_setx o with ⟨_, _, q⟩ | o
        · exact q ⟨_, rfl⟩
        · exact o0 l o
      · exact g2.elim
    | _ => exact g2.elim
  | tmp ds =>
    cases q with
    | fz d' =>
      simp only at g2
      split at g2
      · rename_i hf
        obtain ⟨a2, xs, rfl, f0, g0, r0, n0, o0⟩ := ev1
        exact g2 _ _ _ (Step.setF pf (Step.setL pf T hf.1 ⟨a2, xs, rfl, f0, up _ _ g0, r0, n0, o0⟩) (free_set (.inr (.inr ⟨_, rfl⟩)) hf.2) ev3)
      · exact g2.elim
    | tmp ds' =>
      simp only at g2
      split at g2
      · rename_i hf
        obtain ⟨a3, xs3, rfl, f3, h3, r3, n3, o3⟩ := ev1
        obtain ⟨a1, xs1, e5, f1, h1, r1, n1, o1⟩ := ev
        cases e5
        obtain ⟨a2, xs, rfl, f0, g0, r0, n0, o0⟩ := ev2
        refine g2 _ _ _ (Step.setL pf (Step.setL pf T hf.1 ⟨a3, xs3, rfl, f3, up _ _ h3, r3, n3, o3⟩) (free_set (.inr (.inr ⟨_, rfl⟩)) hf.2) ⟨a2, xs, rfl, f0, up _ _ g0, r0, st.dm _ n0, fun l o => ?_⟩)
        rcases own_setx o with ⟨_, q, _⟩ | o
        · cases q; rw [h1] at n0; cases n0
        · exact o0 l o
      · exact g2.elim
    | _ => exact g2.elim
  | _ => cases q <;> exact g2.elim
/-- two names, of which one is no plain local: by way of a tuple -/
def parN (ce : CE) (x y : Str) (a b : Expr) : Bool := !starB a && !starB b && !decide (x = y) && (!decide (ce.sc.names.lookup x = some .local) || !decide (ce.sc.names.lookup y = some .local))
theorem sw_parN {ce : CE} {env : PySem.Env} {x y : Str} {px py pt pt2 : Pos} {kt k2 : Nat} {a b : Expr} (h : parN ce x y a b = true) (hs : env.scope = ce.sc) : swappedStores [.Tuple [.Name x px, .Name y py] kt pt] (.Tuple [a, b] k2 pt2) env = pure none := by
  simp only [parN, Bool.and_eq_true, Bool.or_eq_true, decide_eq_true_eq, Bool.not_eq_true', decide_eq_false_iff_not] at h
  obtain ⟨⟨⟨h6, h7⟩, _⟩, h1⟩ := h
  have n1 : (match a with | .Starred .. => true | _ => false) = false := by cases a <;> first | rfl | cases h6
  have n2 : (match b with | .Starred .. => true | _ => false) = false := by cases b <;> first | rfl | cases h7
  have hl : ∀ z, (ce.sc.names.lookup z = some .local) ↔ ((env.kindOf z == some .local) = true) := fun z => by unfold Env.kindOf; rw [hs]; simp
  unfold swappedStores
  by_cases e1 : env.kindOf x = some .local
  · by_cases e2 : env.kindOf y = some .local
    · rcases h1 with h1 | h1
      · exact absurd ((hl x).mpr (by simp [e1])) h1
      · exact absurd ((hl y).mpr (by simp [e2])) h1
    · have e2' : (env.kindOf y == some .local) = false := by simpa using e2
      simp [List.filterMap, e1, e2']
      intro _ _ _ hl
      exfalso
      split at hl <;> simp at hl
  · have e1' : (env.kindOf x == some .local) = false := by simpa using e1
    simp [List.filterMap, e1']
    intro _ _ _ hl
    exfalso
    split at hl <;> simp at hl
/-! [*a, b, ..] -/
def stlC (ca : Sts → Rs PV) (ces : Sts → Rs (List PV)) (s : Sts) : Rs PV := (bltC .list (one ca) s).bind fun p s1 => (lstC ces s1).bind fun q s2 => match view s2 p, view s2 q with
  | some x, some y => lift (bop .add x y) s2
  | _, _ => .no
theorem se_stl {a : Expr} {es : List Expr} {ca : Sts → Rs PV} {ces : Sts → Rs (List PV)} {sp : Pos} (hK : X.K = P.K) (ha : SE P W X a ca) (hes : SA P W X es ces) : SE P W X (.List (.Starred a sp :: es) pos) (stlC ca ces) := by
  refine PE.weak (pe_lst (StX.pa_star ha hes)) ?_
  rintro σ H Q ⟨F, s, str, g⟩
  unfold stlC bltC at g
  rw [bind_assoc, bind_assoc] at g
  refine ⟨F, s, str, GP.bind g fun p s1 e1 g1 v F1 H1 st ev => ?_⟩
  simp only [Rs.bind, views] at g1
  cases hv : view s1 p with
  | none => rw [hv] at g1; exact g1.elim
  | some d =>
    rw [hv] at g1
    simp only at g1
    cases hb : blD .list [d] with
    | none => simp only [hb] at g1; exact g1.elim
    | some q =>
      simp only [hb] at g1
      have hw := ev.vw st.str hv
      obtain ⟨t, us, xs, rfl, hq, hr, rfl⟩ : ∃ (t : Addr) (us : List V) (xs : List D), v = .ref t ∧ (SqT X.K H1 t us ∨ SqL X.K H1 t us) ∧ RpL P F1 xs us ∧ q = .tmp xs := by
        cases d <;> simp only [blD] at hb <;> first | (cases hb; done) | skip
        · cases hb
          obtain ⟨t, us, rfl, q1, f1, r1⟩ := hw.tup st.str.sub
          exact ⟨t, us, _, rfl, .inl (hK ▸ q1), r1, rfl⟩
        · cases hb
          obtain ⟨t, us, rfl, q1, r1⟩ := hw.lstF st.str.sub
          exact ⟨t, us, _, rfl, .inr (SqL.of q1), r1, rfl⟩
      refine ⟨t, us, rfl, hq, F1, s1, st.str, ?_⟩
      have g1' : GP (RE P σ) P W σ F H s ((lstC ces s1).bind fun q s2 => match some (D.lst xs), view s2 q with
        | some x, some y => lift (bop .add x y) s2
        | _, _ => .no) Q := g1
      have g2 := GP.afterE g1' st
      unfold lstC at g2
      rw [bind_assoc] at g2
      refine GP.bind g2 fun ps s2 e2 g3 vs F2 H2 st2 evs => ?_
      cases h1 : frzL s2 ps with
      | none => rw [h1] at g3; exact g3.elim
      | some y =>
        obtain ⟨ds, s3⟩ := y
        rw [h1] at g3
        simp only at g3
        obtain ⟨F3, st3, hds, _⟩ := frzL_ok st2 evs.w h1
        split at g3
        case isFalse => exact g3.elim
        rename_i hz
        simp only [Rs.bind, view, bop] at g3
        split at g3
        case isFalse => exact g3.elim
        rename_i hz2
        have r3 := (RpL.mono st3.ff _ hr).append hds
        exact ⟨by rw [← r3.length, List.length_append]; exact hz2, fun p hp => GP.ok (R := RE P σ) g3 (st3.new hp) (st3.newL hp r3)⟩
end
end Z

/-! Z22: the small language is what the text means: expressions -/
namespace Z
open PySem PySem.Spec PyProof.Rows L2
def GvOk (P : Par) (X : Cx) (G : Env) (x : Str) : Gv → Prop
  | .fn i => (∃ a, X.mg x = some (.ref a) ∧ P.fa i a) ∧ ∃ bs run, G i = some (bs, run)
  | .exc c => ∃ a, X.mg x = some (.ref a) ∧ P.ca c a
  | .con d => ∃ v u, X.mg x = some u ∧ RelV v u ∧ ∀ F, Rp P F d v
  | .blt => X.mg x = none
  | .fl cs => ∃ a, X.mg x = some (.ref a) ∧ FlAt X { P with z := fun _ => True } a cs
structure CtxOk (P : Par) (W : WX) (X : Cx) (G : Env) (k : Nat) (ce : CE) : Prop where
  sc : X.env.scope = ce.sc
  N : X.N = ce.N
  nd : X.N.Nodup
  K : X.K = P.K
  calm : ce.calm = true → X.calm = true
  pf : ce.calm = true → P.Free
  room : ce.calm = true → Room k X.A
  un : X.A.units + 65 < cLine
  gd : X.A.guards = some []
  tk : Takes X W
  rh : (∃ x cs, ce.gl.lookup x = some (.fl cs)) → L2H.RoomH 1 X.A
  tl : ∀ x, ce.ts.names.lookup x = some .local → X.env.scope.names.lookup x = some .local
  tc : ∀ x, ce.ts.names.lookup x = some .cell → X.env.scope.names.lookup x = some .cell ∧ X.fn x = true
  gl : ∀ x g, ce.gl.lookup x = some g → GvOk P X G x g
  hx : ∀ i j, ce.hx = some (i, j) → ∃ (a C : Addr) (oe : Obj), (∀ σ, P.z σ → σ[i]? = some (some (V.ref a))) ∧ P.ca j C ∧ (a, oe) ∈ X.pn ∧ Zc (.ref C) none oe ∧ (∃ vs, oe.data = .fields vs) ∧ ExcC X.K C ∧ ∀ c C', P.ca c C' → PySem.W.kitOne X.K (.ref C) (.ref C') = some (j == c || c == 0)
  fa : ce.calm = true → ∀ f bs run a, G f = some (bs, run) → P.fa f a → FnAt X P k a bs run
section
variable {P : Par} {W : WX} {X : Cx} {G : Env} {k : Nat} {ce : CE} {pos p : Pos}
/-- isinstance of the exception that is pinned -/
theorem is_E {a D : Addr} {oe : Obj} (C : ExcC X.K D) (hp : (a, oe) ∈ X.pn) (hz : Zc (.ref D) none oe) (hf : ∃ vs, oe.data = .fields vs) : CallR X (.builtin "isinstance") (rIsE X.K D a) := by
  intro pins s σ H xs us Q I r h
  obtain ⟨c, cv, b, rfl, hcv, e, q⟩ := h
  cases r with
  | cons rx rr =>
    cases rr with
    | cons rt rr =>
      cases rr
      cases rx
      cases hcv _ rt
      obtain ⟨hget, _⟩ := I.pin (a, oe) (List.mem_append.mpr (.inl hp))
      obtain ⟨vs, hv⟩ := hf
      have J : PySem.W.InstAt s.heap a oe D none := by
        obtain ⟨oc, od, oda, osl⟩ := oe
        obtain ⟨z1, z2⟩ := hz
        dsimp only at z1 z2 hv
        subst z1 z2 hv
        exact ⟨hget, rfl, rfl, trivial⟩
      exact PySem.W.kia_one (PySem.W.handS_kitx_exc C.hg C.hk C.hs C.hd C.ha C.hn C.ht C.hm) I.kIn J e nofun fun tk => ⟨.bl b, H, I.kept (t' := tk) fun _ _ z => z, rfl, q⟩
theorem CtxOk.blk (C : CtxOk P W X G k ce) (scope : Scope) (s : Shared) (H : Hp) (Ca : Addr) (cl : List (Str × Addr)) (fp : List Addr) : CtxOk P WN (X.blk s H scope (compEnvC scope cl Ca X.env) fp) G k (ce.blk scope) where
  sc := by rw [show (X.blk s H scope (compEnvC scope cl Ca X.env) fp).env.scope = rlb scope X.env.scope from rfl, C.sc]; rfl
  N := C.N
  nd := C.nd
  K := C.K
  calm := C.calm
  pf := C.pf
  room := C.room
  un := C.un
  gd := C.gd
  tk := takes0
  rh := C.rh
  tl := fun x h => rlb_get (by decide) h
  tc := fun x h => ⟨rlb_get (by decide) h, by
    have h : scope.names.lookup x = some .cell := h
    show (scope.names.lookup x == some .cell) = true
    rw [h]; decide⟩
  gl := fun x g h => by
    have q := C.gl x g h
    cases g with
    | fl cs => obtain ⟨a, h1, h2⟩ := q; exact ⟨a, h1, ⟨h2.ex⟩⟩
    | fn i => exact q
    | exc c => exact q
    | con d => exact q
    | blt => exact q
  hx := nofun
  fa := fun hc f bs run a h1 h2 => ⟨(C.fa hc f bs run a h1 h2).ex⟩
theorem CtxOk.glo (C : CtxOk P W X G k ce) {x : Str} {g : Gv} (h : ce.glV x = some g) : Gl X x ∧ GvOk P X G x g := by
  unfold CE.glV at h
  split at h
  · rename_i h1
    exact ⟨by unfold Gl Env.kindOf; rw [C.sc]; exact h1, C.gl x g h⟩
  · cases h
theorem CtxOk.blt (C : CtxOk P W X G k ce) {x : Str} (h : ce.isBlt x = true) : Gl X x ∧ X.mg x = none := by
  unfold CE.isBlt at h
  split at h
  · rename_i h1; exact C.glo h1
  · cases h
theorem CtxOk.vis (C : CtxOk P W X G k ce) {x : Str} (h : visB ce.sc x = true) : Vis X.env.scope x := by
  unfold visB at h
  unfold Vis
  rw [C.sc]
  split at h
  · rename_i h1; exact .inl h1
  · rename_i h1; exact .inr (.inl h1)
  · rename_i h1; exact .inr (.inr h1)
  · cases h
theorem okN {x : Str} (h : okName x = true) : (x == ("__debug__" : Str)) = false ∧ (x == ("__classdict__" : Str)) = false := by
  simpa [okName] using h
theorem star_cons {e : Expr} {es : List Expr} {env : PySem.Env} (h : starB e = false) : starEach (e :: es) env = (false, eval e env) :: starEach es env := by
  cases e <;> first | rfl | cases h
theorem star_any {pos : Pos} {env : PySem.Env} : ∀ {es : List Expr}, (∀ e ∈ es, starB e = false) → (backTo pos (starEach es env)).any (·.1) = false
  | [], _ => rfl
  | e :: es, h => by
    rw [star_cons (h e (by simp))]
    have := star_any (pos := pos) (env := env) (es := es) fun e he => h e (by simp [he])
    simpa [backTo] using this
theorem star_all {pos : Pos} {env : PySem.Env} : ∀ {es : List Expr}, (∀ e ∈ es, starB e = false) → (backTo pos (starEach es env)).all (fun x => !x.1) = true
  | [], _ => rfl
  | e :: es, h => by
    rw [star_cons (h e (by simp))]
    have := star_all (pos := pos) (env := env) (es := es) fun e he => h e (by simp [he])
    simpa [backTo] using this
theorem cL_star {ce : CE} : ∀ {n : Nat} {es : List Expr} {is : List IE}, cL n ce es = some is → ∀ e ∈ es, starB e = false
  | 0, _, _, h => by simp [cL] at h
  | n + 1, [], _, _ => by simp
  | n + 1, e :: es, is, h => by
    simp only [cL] at h
    split at h
    · cases h
    · rename_i hs
      split at h
      · rename_i h1 h2
        intro x hx
        rcases List.mem_cons.mp hx with rfl | hx
        · simpa using hs
        · exact cL_star h2 x hx
      · cases h
theorem cA_star {ce : CE} : ∀ {n : Nat} {es : List Expr} {is : List IE}, cA n ce es = some is → ∀ e ∈ es, starB e = false
  | 0, _, _, h => by simp [cA] at h
  | n + 1, [], _, _ => by simp
  | n + 1, e :: es, is, h => by
    have gen : starB e = false → (∃ js, cA n ce es = some js) → ∀ x ∈ e :: es, starB x = false := by
      rintro hs ⟨js, h2⟩ x hx
      rcases List.mem_cons.mp hx with rfl | hx
      · exact hs
      · exact cA_star h2 x hx
    unfold cA at h
    split at h
    · simp at *
    · rename_i heq
      cases heq
      split at h
      · rename_i h2; exact gen rfl ⟨_, h2⟩
      · cases h
    · rename_i heq
      cases heq
      split at h
      · cases h
      · rename_i hs
        split at h
        · rename_i h2; exact gen (by simpa using hs) ⟨_, h2⟩
        · cases h
/-- what is said of an expression -/
structure SEB (P : Par) (W : WX) (X : Cx) (G : Env) (e : Expr) (i : IE) : Prop where
  val : SE P W X e (evE G i false)
  tst : ST P W X e (evE G i true)
  bop : ∀ op vs pos, e = .BoolOp op vs pos → SW P W X e (evE G i true)
/-- as most are -/
theorem SEB.of (C : CtxOk P W X G k ce) {e : Expr} {i : IE} (h : SE P W X e (evE G i false)) (he : ∀ whole, isTrue e X.env whole = (do let v ← whole; standAt e.pos; holding [v] (truthy v))) (hf : evE G i true = fun s => fin true (evE G i false s)) (hb : ∀ op vs pos, e ≠ .BoolOp op vs pos) : SEB P W X G e i :=
  ⟨h, by rw [hf]; exact st_truth C.K h he, fun op vs pos z => absurd z (hb op vs pos)⟩
theorem cop_ok (C : CtxOk P W X G k ce) (op : CmpOp) : ∃ r, OpR X (compareOp op) r ∧ CpD P (cop (copOf op)) r := cmp_rule C.un C.K (by cases op <;> simp [copOf])
theorem cO_none {n : Nat} {ce : CE} {o : Option IE} (h : cO n ce none = some o) : o = none := by
  cases n with
  | zero => simp [cO] at h
  | succ n => simp [cO] at h; exact h.symm
theorem asg_cons {e : Expr} {es : List Expr} {env : PySem.Env} (h : starB e = false) : assignEach (e :: es) env = (false, assign e env) :: assignEach es env := by
  cases e <;> first | rfl | cases h
theorem asg_len {env : PySem.Env} : ∀ {es : List Expr}, (∀ e ∈ es, starB e = false) → (assignEach es env).length = es.length ∧ (assignEach es env).findIdx? (·.1) = none
  | [], _ => ⟨rfl, rfl⟩
  | e :: es, h => by
    rw [asg_cons (h e (by simp))]
    obtain ⟨h1, h2⟩ := asg_len (env := env) (es := es) fun e he => h e (by simp [he])
    refine ⟨by simp [h1], ?_⟩
    rw [List.findIdx?_cons]
    simp [h2]
theorem name_ok (pf : P.Free) (C : CtxOk P W X G k ce) {x : Str} {p : Pos} {t : Z.TG} (h : cT ce (.Name x p) = some t) : ∃ i, t = .var i ∧ X.N[i]? = some x ∧ Loc X.env.scope x ∧ (X.fn x = true ∨ X.env.scope.names.lookup x = some .local) := by
  simp only [cT] at h
  split at h
  · rename_i hl
    simp only [Option.map_eq_some_iff] at h
    obtain ⟨i, h1, rfl⟩ := h
    have hN : X.N[i]? = some x := by rw [C.N]; exact slotIx_get h1
    rcases hl with hl | hl
    · exact ⟨i, rfl, hN, .inl (C.tl x hl), .inr (C.tl x hl)⟩
    · exact ⟨i, rfl, hN, .inr (C.tc x hl).1, .inl (C.tc x hl).2⟩
  · cases h
mutual
/-- targets -/
theorem cT_ok (pf : P.Free) (C : CtxOk P W X G k ce) : ∀ (e : Expr) {t : Z.TG}, cT ce e = some t → SG P X e t
  | .Name x p, t, h => by
    obtain ⟨i, rfl, h1, h2, h3⟩ := name_ok pf C h
    exact sg_name pf C.nd h1 h2 h3
  | .Tuple es kk p, t, h => by
    simp only [cT] at h
    split at h
    · rename_i hc
      simp only [Option.map_eq_some_iff] at h
      obtain ⟨ts, h1, rfl⟩ := h
      obtain ⟨h2, h3, h4⟩ := cTs_ok pf C es h1
      obtain ⟨h5, h6⟩ := asg_len (env := X.env) h3
      exact sg_tup C.K (C.calm hc) h2 (by rw [h5, h4]) h6
    · cases h
  | .BoolOp _ _ _, _, h => by simp [cT] at h
  | .NamedExpr _ _ _, _, h => by simp [cT] at h
  | .BinOp _ _ _ _, _, h => by simp [cT] at h
  | .UnaryOp _ _ _, _, h => by simp [cT] at h
  | .Lambda _ _ _ _, _, h => by simp [cT] at h
  | .IfExp _ _ _ _, _, h => by simp [cT] at h
  | .Dict _ _ _, _, h => by simp [cT] at h
  | .Set _ _ _, _, h => by simp [cT] at h
  | .ListComp _ _ _ _, _, h => by simp [cT] at h
  | .SetComp _ _ _ _, _, h => by simp [cT] at h
  | .DictComp _ _ _ _ _, _, h => by simp [cT] at h
  | .GeneratorExp _ _ _ _, _, h => by simp [cT] at h
  | .Await _ _, _, h => by simp [cT] at h
  | .Yield _ _, _, h => by simp [cT] at h
  | .YieldFrom _ _, _, h => by simp [cT] at h
  | .Compare _ _ _ _, _, h => by simp [cT] at h
  | .Call _ _ _ _, _, h => by simp [cT] at h
  | .FormattedValue _ _ _ _, _, h => by simp [cT] at h
  | .JoinedStr _ _, _, h => by simp [cT] at h
  | .Constant _ _ _, _, h => by simp [cT] at h
  | .Attribute _ _ _, _, h => by simp [cT] at h
  | .Subscript _ _ _, _, h => by simp [cT] at h
  | .Starred _ _, _, h => by simp [cT] at h
  | .List _ _, _, h => by simp [cT] at h
  | .Slice _ _ _ _, _, h => by simp [cT] at h
theorem cTs_ok (pf : P.Free) (C : CtxOk P W X G k ce) : ∀ (es : List Expr) {ts : List Z.TG}, cTs ce es = some ts → SGs P X es ts ∧ (∀ e ∈ es, starB e = false) ∧ es.length = ts.length
  | [], ts, h => by simp [cTs] at h; subst h; exact ⟨sgs_nil, by simp, rfl⟩
  | e :: es, ts, h => by
    simp only [cTs] at h
    split at h
    · cases h
    · rename_i hs
      split at h
      · rename_i t ts' h1 h2
        cases h
        have hs' : starB e = false := by simpa using hs
        obtain ⟨a, b, c⟩ := cTs_ok pf C es h2
        refine ⟨sgs_cons (cT_ok pf C e h1) a (by rw [asg_cons hs']; rfl), fun x hx => ?_, by simp [c]⟩
        rcases List.mem_cons.mp hx with rfl | hx
        · exact hs'
        · exact b x hx
      · cases h
end
end
end Z

/-! Z23: .. all expressions -/
namespace Z
open PySem PySem.Spec PyProof.Rows L2
abbrev FinI (G : Env) (i : IE) : Prop := evE G i true = fun s => fin true (evE G i false s)
structure LcOk (P : Par) (W : WX) (X : Cx) (G : Env) (elt tge iter : Expr) (ifs : List Expr) (scope : Scope) (i : IE) : Prop where
  ex : ∃ (own : List (Str × Nat)) (tg : Z.TG) (it : II) (is : List IE) (e : IE), i = .lc (own.map (·.2)) tg it is e ∧ X.calm = true ∧ P.Free ∧ X.N.Nodup ∧ SI P W X tge iter (evI G it) ∧ BlkOk X.N X.env.scope scope own ∧
    (∀ (s : Shared) (H : Hp) (C : Addr) (cl : List (Str × Addr)) (fp : List Addr), SG P (X.blk s H scope (compEnvC scope cl C X.env) fp) tge tg) ∧ (∀ (s : Shared) (H : Hp) (C : Addr) (cl : List (Str × Addr)) (fp : List Addr), PTs (X.blk s H scope (compEnvC scope cl C X.env) fp) ifs (tSTs P WN (evTs G is))) ∧
    (∀ (s : Shared) (H : Hp) (C : Addr) (cl : List (Str × Addr)) (fp : List Addr), SE P WN (X.blk s H scope (compEnvC scope cl C X.env) fp) elt (evE G e false)) ∧ (∀ x, foldedSetIterable iter X.env x = pure x) ∧ ∀ j ∈ tgN tg, j ∈ own.map (·.2)
structure Snd (P : Par) (G : Env) (k n : Nat) : Prop where
  e : ∀ {W X ce e i}, CtxOk P W X G k ce → cE n ce e = some i → SEB P W X G e i
  l : ∀ {W X ce es is}, CtxOk P W X G k ce → cL n ce es = some is → SA P W X es (evL G is)
  a : ∀ {W X ce es is}, CtxOk P W X G k ce → cA n ce es = some is → SA P W X es (evL G is)
  o : ∀ {W X ce o i}, CtxOk P W X G k ce → cO n ce o = some i → SO P W X o (evO G i)
  w : ∀ {W X ce tg it i}, CtxOk P W X G k ce → cI n ce tg it = some i → SI P W X tg it (evI G i)
  s : ∀ {W X ce es is}, CtxOk P W X G k ce → cIfs n ce es = some is → PTs X es (tSTs P W (evTs G is))
  lc : ∀ {W X ce elt tge iter ifs scope i}, CtxOk P W X G k ce → cLc n ce elt tge iter ifs scope = some i → LcOk P W X G elt tge iter ifs scope i
  call : ∀ {W X ce f args pos i}, CtxOk P W X G k ce → cCall n ce f args pos = some i → SE P W X (.Call f args [] pos) (evE G i false) ∧ FinI G i
  blt : ∀ {W X ce x args i}, CtxOk P W X G k ce → Gl X x → X.mg x = none → cBlt n ce x args = some i → (∀ p pos, SE P W X (.Call (.Name x p) args [] pos) (evE G i false)) ∧ FinI G i
  bl1 : ∀ {W X ce x args i}, CtxOk P W X G k ce → Gl X x → X.mg x = none → cBl1 n ce x args = some i → (∀ p pos, SE P W X (.Call (.Name x p) args [] pos) (evE G i false)) ∧ FinI G i
section
variable {P : Par} {W : WX} {X : Cx} {G : Env} {k n : Nat} {ce : CE} {pos p : Pos}
theorem se_and1 {a : Expr} {op : BoolOp} {i : IE} (h : SEB P W X G a i) : SEB P W X G (.BoolOp op [a] pos) i := by
  refine ⟨?_, ?_, fun op' vs pos' e => ?_⟩
  · cases op <;> exact ⟨fun pins s σ H Q I q => h.val.run pins s σ H Q I q⟩
  · cases op
    · exact (pw_and1 h.tst).pt
    · exact (pw_or1 h.tst).pt
  · cases op
    · exact pw_and1 h.tst
    · exact pw_or1 h.tst
set_option maxHeartbeats 4000000 in
theorem snd_bl1 (S : Snd P G k n) (C : CtxOk P W X G k ce) {x : Str} {args : List Expr} {i : IE} (hg : Gl X x) (hm : X.mg x = none) (h : cBl1 (n + 1) ce x args = some i) : (∀ p pos, SE P W X (.Call (.Name x p) args [] pos) (evE G i false)) ∧ FinI G i := by
  simp only [cBl1] at h
  split at h
  case h_2 => cases h
  rename_i b hb
  split at h
  case isFalse => cases h
  rename_i hc
  split at h
  case h_2 => cases h
  rename_i y ys hl
  cases h
  have hst := cL_star hl
  have sa := S.l C hl
  cases args with
  | nil =>
    cases n with
    | zero => simp [cL] at hl
    | succ n => simp [cL] at hl
  | cons e es =>
    refine ⟨fun p pos => ?_, rfl⟩
    refine blt_name C.gd C.un (b := b) ?_ C.K hg hm ?_ sa (star_cons (hst e (by simp))) (star_any fun x hx => hst x (by simp [hx]))
    · by_cases h : calmBl b = true
      · exact .inl (C.calm (hc h))
      · right
        cases b <;> simp [calmBl] at h ⊢
    · unfold bltOf at hb
      split at hb
      · rename_i h; cases hb; exact .inl ⟨h, rfl⟩
      split at hb
      · rename_i h; cases hb; exact .inr (.inl ⟨h, rfl⟩)
      split at hb
      · rename_i h; cases hb; exact .inr (.inr (.inl ⟨h, rfl⟩))
      split at hb
      · rename_i h; cases hb; exact .inr (.inr (.inr (.inl ⟨h, rfl⟩)))
      split at hb
      · rename_i h; cases hb; exact .inr (.inr (.inr (.inr (.inl ⟨h, rfl⟩))))
      split at hb
      · rename_i h; cases hb; exact .inr (.inr (.inr (.inr (.inr (.inl ⟨h, rfl⟩)))))
      split at hb
      · rename_i h; cases hb; exact .inr (.inr (.inr (.inr (.inr (.inr (.inl ⟨h, rfl⟩))))))
      split at hb
      · rename_i h; cases hb; exact .inr (.inr (.inr (.inr (.inr (.inr (.inr (.inl ⟨h, rfl⟩)))))))
      split at hb
      · rename_i h; cases hb; exact .inr (.inr (.inr (.inr (.inr (.inr (.inr (.inr (.inl ⟨h, rfl⟩))))))))
      split at hb
      · rename_i h; cases hb; exact .inr (.inr (.inr (.inr (.inr (.inr (.inr (.inr (.inr (.inl ⟨h, rfl⟩)))))))))
      split at hb
      · rename_i h; cases hb; exact .inr (.inr (.inr (.inr (.inr (.inr (.inr (.inr (.inr (.inr (.inl ⟨h, rfl⟩))))))))))
      split at hb
      · rename_i h; cases hb; exact .inr (.inr (.inr (.inr (.inr (.inr (.inr (.inr (.inr (.inr (.inr (⟨h, rfl⟩)))))))))))
      cases hb
theorem snd_calm (S : Snd P G k n) (C : CtxOk P W X G k ce) {a : Expr} {i : IE} (h : cE n ce a = some i) : SE P W X a (evE G i false) := (S.e C h).val
theorem snd_blt (S : Snd P G k n) (C : CtxOk P W X G k ce) {x : Str} {args : List Expr} {i : IE} (hg : Gl X x) (hm : X.mg x = none) (h : cBlt (n + 1) ce x args = some i) : (∀ p pos, SE P W X (.Call (.Name x p) args [] pos) (evE G i false)) ∧ FinI G i := by
  simp only [cBlt] at h
  split at h
  · -- f(g(a))
    rename_i y py a pc
    repeat' split at h
    · rename_i hc
      obtain ⟨rfl, rfl, h1, h2, h3⟩ := hc
      simp only [Option.map_eq_some_iff] at h
      obtain ⟨j, h4, rfl⟩ := h
      obtain ⟨g1, g2⟩ := C.blt h1
      exact ⟨fun p pos => se_revlist hg hm g1 g2 (C.calm h2) (star_cons h3) (snd_calm S C h4), rfl⟩
    · rename_i hc
      obtain ⟨rfl, rfl, h1, h2, h3⟩ := hc
      simp only [Option.map_eq_some_iff] at h
      obtain ⟨j, h4, rfl⟩ := h
      obtain ⟨g1, g2⟩ := C.blt h1
      exact ⟨fun p pos => se_revtup hg hm g1 g2 (C.calm h2) (star_cons h3) (snd_calm S C h4), rfl⟩
    · rename_i hc
      obtain ⟨rfl, rfl, h1, h2, h3⟩ := hc
      simp only [Option.map_eq_some_iff] at h
      obtain ⟨j, h4, rfl⟩ := h
      obtain ⟨g1, g2⟩ := C.blt h1
      exact ⟨fun p pos => se_lenset C.K hg hm g1 g2 (C.calm h2) (star_cons h3) (snd_calm S C h4), rfl⟩
    · rename_i hc
      obtain ⟨rfl, rfl, h1, h2, h3⟩ := hc
      simp only [Option.map_eq_some_iff] at h
      obtain ⟨j, h4, rfl⟩ := h
      obtain ⟨g1, g2⟩ := C.blt h1
      exact ⟨fun p pos => se_listRg1 (C.calm h2) hg hm g1 g2 (snd_calm S C h4) (star_cons h3) rfl, rfl⟩
    · rename_i hc
      obtain ⟨rfl, rfl, h1, h2, h3⟩ := hc
      simp only [Option.map_eq_some_iff] at h
      obtain ⟨j, h4, rfl⟩ := h
      obtain ⟨g1, g2⟩ := C.blt h1
      exact ⟨fun p pos => se_tupRg1 (C.calm h2) hg hm g1 g2 (snd_calm S C h4) (star_cons h3) rfl, rfl⟩
    · exact S.bl1 C hg hm h
  · rename_i y py a b pc
    repeat' split at h
    · rename_i hc _ _ i1 i2 h4 h5
      obtain ⟨rfl, rfl, h1, h2, h3, h3'⟩ := hc
      cases h
      obtain ⟨g1, g2⟩ := C.blt h1
      exact ⟨fun p pos => se_listRg (C.calm h2) hg hm g1 g2 (snd_calm S C h4) (snd_calm S C h5) (star_cons h3) (star_cons h3') (star_any fun x hx => by simp at hx; subst hx; exact h3') rfl, rfl⟩
    · cases h
    · rename_i hc _ _ i1 i2 h4 h5
      obtain ⟨rfl, rfl, h1, h2, h3, h3'⟩ := hc
      cases h
      obtain ⟨g1, g2⟩ := C.blt h1
      exact ⟨fun p pos => se_tupRg (C.calm h2) hg hm g1 g2 (snd_calm S C h4) (snd_calm S C h5) (star_cons h3) (star_cons h3') (star_any fun x hx => by simp at hx; subst hx; exact h3') rfl, rfl⟩
    · cases h
    · exact S.bl1 C hg hm h
  · rename_i a y py _
    split at h
    · rename_i hc
      obtain ⟨rfl, h3⟩ := hc
      split at h
      · rename_i h1
        obtain ⟨g1, g2⟩ := C.blt h1
        split at h
        · rename_i t j ht hj
          cases h
          refine ⟨fun p pos => se_isi (n := t) C.K hg hm ?_ (star_cons h3) (snd_calm S C hj), rfl⟩
          unfold tyOf at ht
          repeat' split at ht
          all_goals first
            | (cases ht; rename_i h; subst h; first
              | exact pe_bltn g1 g2 PyProof.Rows.boot_int rfl (by decide) (by decide)
              | exact pe_bltn g1 g2 PyProof.Rows.boot_bool rfl (by decide) (by decide)
              | exact pe_bltn g1 g2 PyProof.Rows.boot_str rfl (by decide) (by decide)
              | exact pe_bltn g1 g2 PyProof.Rows.boot_tuple rfl (by decide) (by decide)
              | exact pe_bltn g1 g2 PyProof.Rows.boot_list rfl (by decide) (by decide)
              | exact pe_bltn g1 g2 PyProof.Rows.boot_dict rfl (by decide) (by decide))
            | cases ht
        · cases h
      · split at h
        · rename_i c i j e pe hgv hhx
          split at h
          · rename_i hc
            cases h
            obtain ⟨hn, hny, hv, hsl⟩ := hc
            obtain ⟨gy, ⟨C', hmy, hca⟩⟩ := C.glo hgv
            obtain ⟨ax, Cx, oe, hz, hk, hp, hzc, hfl, hec, hkit⟩ := C.hx _ _ hhx
            refine ⟨fun p pos => PE.weak (pe_callB (is_E hec hp hzc hfl) hg hm boot_isinstance (pa_cons (pe_var (i := i) (by rw [C.N]; exact slotIx_get hsl) (C.vis hv) (okN hn).1 (okN hn).2) (pa_cons (L2.pe_glob (v := .ref C') gy hmy rfl (okN hny).1) pa_nil rfl) rfl) (by decide) (by decide) rfl rfl) ?_, rfl⟩
            rintro σ H Q ⟨F, s, str, g⟩
            exact ⟨_, hz σ str.z, .ref C', .ref C', _, rfl, fun u r => r, hkit c C' hca, g (.bl _) F H (Step.refl str) rfl⟩
          · cases h
        · cases h
    · exact S.bl1 C hg hm h
  · exact S.bl1 C hg hm h
end
end Z

/-! Z24: .. put together -/
namespace Z
open PySem PySem.Spec PyProof.Rows L2
theorem evL_flags (G : Env) (s : Sts) (j : Nat) : ∀ cs : List Nat, evL G (cs.map fun c => .con (.bl (j == c || c == 0))) s = .ok ((flagsD j cs).map .fz) s
  | [] => rfl
  | c :: cs => by
    simp only [List.map_cons, flagsD, evL, evE, fin, Rs.bind]
    rw [evL_flags G s j cs]
    rfl
theorem frzL_fz (s : Sts) : ∀ ds : List D, frzL s (ds.map .fz) = some (ds, s)
  | [] => rfl
  | d :: ds => by simp [frzL, frz, frz0, frzL_fz s ds]
theorem ev_flags {G : Env} {j : Nat} {cs : List Nat} (h : cs.length ≤ 1000) : evE G (.lst (cs.map fun c => .con (.bl (j == c || c == 0)))) false = fun s => .ok (.tmp (flagsD j cs)) s := by
  funext s
  have hz : (flagsD j cs).length ≤ sizeLine := by
    simp only [flagsD, List.length_map]
    exact Nat.le_trans h (by decide)
  simp only [evE, fin, evL_flags, Rs.bind, frzL_fz, if_pos hz]
section
variable {P : Par} {W : WX} {X : Cx} {G : Env} {k n : Nat} {ce : CE} {pos p : Pos}
theorem snd_l (S : Snd P G k n) (C : CtxOk P W X G k ce) {es : List Expr} {is : List IE} (h : cL (n + 1) ce es = some is) : SA P W X es (evL G is) := by
  cases es with
  | nil => simp [cL] at h; subst h; exact sa_nil
  | cons e es =>
    simp only [cL] at h
    split at h
    · cases h
    · rename_i hs
      split at h
      · rename_i h1 h2
        cases h
        exact sa_cons (S.e C h1).val (S.l C h2) (star_cons (by simpa using hs))
      · cases h
theorem snd_a (S : Snd P G k n) (C : CtxOk P W X G k ce) {es : List Expr} {is : List IE} (h : cA (n + 1) ce es = some is) : SA P W X es (evL G is) := by
  unfold cA at h
  split at h
  · cases h; exact sa_nil
  · rename_i heq
    split at h
    · rename_i h1 h2
      cases h
      exact sa_cons (se_shl (S.l C h1)) (S.a C h2) rfl
    · cases h
  · split at h
    · cases h
    · rename_i hs
      split at h
      · rename_i h1 h2
        cases h
        exact sa_cons (S.e C h1).val (S.a C h2) (star_cons (by simpa using hs))
      · cases h
theorem snd_o (S : Snd P G k n) (C : CtxOk P W X G k ce) {o : Option Expr} {i : Option IE} (h : cO (n + 1) ce o = some i) : SO P W X o (evO G i) := by
  cases o with
  | none => simp [cO] at h; subst h; exact so_none
  | some e =>
    simp only [cO, Option.map_eq_some_iff] at h
    obtain ⟨j, h1, rfl⟩ := h
    exact so_some (S.e C h1).val
theorem snd_s (S : Snd P G k n) (C : CtxOk P W X G k ce) {es : List Expr} {is : List IE} (h : cIfs (n + 1) ce es = some is) : PTs X es (tSTs P W (evTs G is)) := by
  unfold cIfs at h
  split at h
  · cases h; exact st_nil
  · simp only [Option.map_eq_some_iff] at h
    obtain ⟨j, h1, rfl⟩ := h
    exact st_one (S.e C h1).tst
  · cases h
theorem snd_lc (S : Snd P G k n) (C : CtxOk P W X G k ce) {elt tge iter : Expr} {ifs : List Expr} {scope : Scope} {i : IE} (h : cLc (n + 1) ce elt tge iter ifs scope = some i) : LcOk P W X G elt tge iter ifs scope i := by
  simp only [cLc] at h
  split at h
  case isFalse => cases h
  rename_i hc
  obtain ⟨h1, h2, h3⟩ := hc
  split at h
  case h_2 => cases h
  rename_i it tg is e g1 g2 g3 g4
  split at h
  case isFalse => cases h
  rename_i hk
  cases h
  refine ⟨_, tg, it, is, e, rfl, C.calm h1, C.pf h1, C.nd, S.w C g1, by rw [C.N, C.sc]; exact blkB_ok h2, fun s H Ca cl fp => cT_ok (C.pf h1) (C.blk scope s H Ca cl fp) _ g2, fun s H Ca cl fp => S.s (C.blk scope s H Ca cl fp) g3, fun s H Ca cl fp => (S.e (C.blk scope s H Ca cl fp) g4).val, fun x => ?_, fun j hj => ?_⟩
  · cases iter <;> first | rfl | cases h3
  · have := List.all_eq_true.mp hk j hj
    simpa using this
theorem snd_call (S : Snd P G k n) (C : CtxOk P W X G k ce) {f : Expr} {args : List Expr} {i : IE} (h : cCall (n + 1) ce f args pos = some i) : SE P W X (.Call f args [] pos) (evE G i false) ∧ FinI G i := by
  unfold cCall at h
  split at h
  · rename_i x px
    split at h
    case isFalse => cases h
    rename_i hn
    split at h
    · rename_i f hgv
      obtain ⟨hg, ⟨a, hm, hfa⟩, bs, run, hG⟩ := C.glo hgv
      split at h
      case isFalse => cases h
      rename_i hc
      split at h
      case h_2 => cases h
      rename_i y ys ha
      cases h
      have hst := cA_star ha
      cases args with
      | nil => cases n <;> simp [cA] at ha
      | cons e es =>
        have := se_call (p := px) (pos := pos) (C.pf hc) C.tk C.gd (C.room hc) (C.fa hc f bs run a hG hfa) hg hm (S.a C ha) (okN hn).1 (star_cons (hst e (by simp))) (star_any fun x hx => hst x (by simp [hx]))
        refine ⟨?_, rfl⟩
        have e0 : evE G (.call f (y :: ys)) false = callC bs run (evL G (y :: ys)) := by
          funext s
          show ((evL G (y :: ys) s).bind fun ps s1 => match G f with | some (bs, run) => callR bs run ps s1 | none => .no) = _
          rw [hG]; rfl
        rw [e0]; exact this
    · rename_i hgv
      obtain ⟨hg, hm⟩ := C.glo hgv
      obtain ⟨h1, h2⟩ := S.blt C hg hm h
      exact ⟨h1 _ _, h2⟩
    · rename_i cs hgv
      obtain ⟨hg, a, hm, hF⟩ := C.glo hgv
      split at h
      · rename_i e pe i j hhx
        split at h
        · rename_i hc
          cases h
          obtain ⟨hne, hv, hsl, hlen⟩ := hc
          obtain ⟨ax, Cx, oe, hz, hk, hp, hzc, hfl, _, _⟩ := C.hx _ _ hhx
          have r := se_flags (P := { P with z := fun _ => True }) (z := P.z) (W := W) (pos := pos) (q := px) (p := pe) (i := i) (fun _ => trivial) C.gd (C.rh ⟨x, cs, by unfold CE.glV at hgv; split at hgv; exact hgv; cases hgv⟩) C.tk hF hg hm (okN hn).1 (pe_var (by rw [C.N]; exact slotIx_get hsl) (C.vis hv) (okN hne).1 (okN hne).2) hz hk hp hzc hfl
          refine ⟨?_, rfl⟩
          rw [ev_flags hlen]
          exact r
        · cases h
      · cases h
    · cases h
  · rename_i x px name apos
    split at h
    case isFalse => cases h
    rename_i hc
    obtain ⟨hn, hv, hline, hcalm⟩ := hc
    split at h
    case h_2 => cases h
    rename_i i km is h1 h2 h3
    cases h
    have hN : X.N[i]? = some x := by rw [C.N]; exact slotIx_get h1
    have hst := cL_star h3
    refine ⟨?_, rfl⟩
    unfold mtOf at h2
    have base : attributeBase (.Name x px) name X.env (eval (.Name x px) X.env) = eval (.Name x px) X.env := rfl
    cases args with
    | nil =>
      have hi : is = [] := by cases n <;> simp [cL] at h3; exact h3
      subst hi
      simp only [List.length_nil, if_true] at h2
      have go : ∀ {name : Str} {id : String} {km : Mt}, MtN X km name id → SE P W X (.Call (.Attribute (.Name x px) name apos) [] [] pos) (evE G (.mut km i []) false) := fun m =>
        se_mut0 C.K m hN (C.vis hv) (okN hn).1 (okN hn).2 rfl hline
      repeat' split at h2
      · cases h2; rename_i e; subst e; exact go mtn_pop
      · cases h2; rename_i e; subst e; exact go mtn_reverse
      · cases h2; rename_i e; subst e; exact go mtn_clear
      · cases h2
    | cons e es =>
      cases es with
      | cons e2 es => simp at h2
      | nil =>
        simp only [List.length_cons, List.length_nil] at h2
        have he := hst e (by simp)
        have go : ∀ {name : Str} {id : String} {km : Mt}, MtN X km name id → SE P W X (.Call (.Attribute (.Name x px) name apos) [e] [] pos) (evE G (.mut km i is) false) := fun m =>
          se_mut C.K m hN (C.vis hv) (okN hn).1 (okN hn).2 (S.l C h3) rfl (by rw [star_all (es := [e]) (fun x hx => by simp at hx; subst hx; exact he)]; rfl) hline (star_cons he) rfl
        repeat' split at h2
        all_goals first
          | (cases h2; done)
          | (cases h2; rename_i e; subst e; first | exact go mtn_append | exact go mtn_popAt)
          | (exfalso; omega)
  · rename_i l i' p0
    split at h
    case isFalse => cases h
    rename_i hc
    split at h
    case h_2 => cases h
    rename_i cf y ys h1 h2
    cases h
    have hst := cA_star h2
    cases args with
    | nil => cases n <;> simp [cA] at h2
    | cons e es =>
      exact ⟨se_calld (C.pf hc.1) C.tk C.gd (C.room hc.1) (C.fa hc.1) (S.e C h1).val (S.a C h2) (star_cons (hst e (by simp))) (star_any fun x hx => hst x (by simp [hx])), rfl⟩
  · cases h
theorem snd_w (S : Snd P G k n) (C : CtxOk P W X G k ce) {tg it : Expr} {i : II} (h : cI (n + 1) ce tg it = some i) : SI P W X tg it (evI G i) := by
  have seq : (cE n ce it).map II.seq = some i → SI P W X tg it (evI G i) := by
    intro h
    simp only [Option.map_eq_some_iff] at h
    obtain ⟨j, h1, rfl⟩ := h
    exact si_seq C.K (S.e C h1).val
  unfold cI at h
  split at h
  · rename_i x px args pc
    split at h
    case isFalse => exact seq h
    rename_i hc
    obtain ⟨hg, hm⟩ := C.blt hc.1
    split at h
    · rename_i b
      split at h
      · cases h
      rename_i hs
      have hs' : starB b = false := by simpa using hs
      split at h
      · rename_i e; subst e
        simp only [Option.map_eq_some_iff] at h
        obtain ⟨j, h1, rfl⟩ := h
        exact si_rng1 hg hm (S.e C h1).val (star_cons hs')
      split at h
      · rename_i e; subst e
        split at h
        · simp only [Option.map_eq_some_iff] at h
          obtain ⟨j, h1, rfl⟩ := h
          exact si_enum C.K hg hm (S.e C h1).val (star_cons hs')
        · cases h
      split at h
      · rename_i e; subst e
        simp only [Option.map_eq_some_iff] at h
        obtain ⟨j, h1, rfl⟩ := h
        exact si_rev C.K hg hm (S.e C h1).val (star_cons hs')
      · exact seq h
    · rename_i a b
      split at h
      · cases h
      rename_i hs
      simp only [not_or, Bool.not_eq_true] at hs
      split at h
      · rename_i e; subst e
        split at h
        · rename_i h1 h2
          cases h
          exact si_rng hg hm (S.e C h1).val (S.e C h2).val (by rw [star_cons hs.1, star_cons hs.2]; rfl) (star_cons hs.2)
        · cases h
      split at h
      · rename_i e; subst e
        split at h
        · split at h
          · rename_i h1 h2
            cases h
            exact si_zip C.K hg hm (S.e C h1).val (S.e C h2).val (star_cons hs.1) (star_cons hs.2) (star_any fun x hx => by simp at hx; subst hx; exact hs.2)
          · cases h
        · cases h
      · exact seq h
    · rename_i a b _ _ _
      split at h
      · cases h
      rename_i hs
      simp only [not_or, Bool.not_eq_true] at hs
      split at h
      · rename_i e; subst e
        split at h
        · rename_i h1 h2
          cases h
          refine si_rngd hg hm (S.e C h1).val (S.e C h2).val ?_ (star_cons hs.1) (star_cons hs.2) rfl (star_any fun x hx => ?_)
          · exact PE.weak (pe_un un_neg pe_int) fun σ H Q h => ⟨1, rfl, h⟩
          · simp at hx
            rcases hx with rfl | rfl
            · exact hs.2
            · rfl
        · cases h
      · cases h
    · cases h
  · exact seq h
theorem snd_e (S : Snd P G k n) (C : CtxOk P W X G k ce) {e : Expr} {i : IE} (h : cE (n + 1) ce e = some i) : SEB P W X G e i := by
  unfold cE at h
  split at h
  · -- a name
    rename_i x px
    split at h
    case isFalse => cases h
    rename_i hn
    split at h
    · rename_i hv
      simp only [Option.map_eq_some_iff] at h
      obtain ⟨j, h1, rfl⟩ := h
      exact SEB.of C (se_var (by rw [C.N]; exact slotIx_get h1) (C.vis hv) (okN hn).1 (okN hn).2) (fun _ => rfl) rfl nofun
    · split at h
      · rename_i f hgv
        cases h
        obtain ⟨hg, ⟨a, hm, hfa⟩, _⟩ := C.glo hgv
        exact SEB.of C (se_con (v := .ref a) (L2.pe_glob hg hm rfl (okN hn).1) fun F => ⟨a, rfl, hfa⟩) (fun _ => rfl) rfl nofun
      · rename_i d hgv
        cases h
        obtain ⟨hg, v, u, hm, r, hr⟩ := C.glo hgv
        exact SEB.of C (se_con (L2.pe_glob hg hm r (okN hn).1) hr) (fun _ => rfl) rfl nofun
      · cases h
  · rename_i c kk pc
    simp only [Option.map_eq_some_iff] at h
    obtain ⟨d, h1, rfl⟩ := h
    cases c <;> simp only [conD] at h1 <;> first | (cases h1; done) | skip
    all_goals cases h1
    · exact SEB.of C (se_con pe_non fun F => rfl) (fun _ => rfl) rfl nofun
    · exact SEB.of C (se_con pe_bl fun F => rfl) (fun _ => rfl) rfl nofun
    · exact SEB.of C (se_con pe_int fun F => rfl) (fun _ => rfl) rfl nofun
    · exact SEB.of C (se_con pe_str fun F => rfl) (fun _ => rfl) rfl nofun
  · rename_i a op b pb
    split at h
    case h_2 => cases h
    rename_i o x y h1 h2 h3
    cases h
    refine SEB.of C (se_bop C.K ?_ (S.e C h2).val (S.e C h3).val) (fun _ => rfl) rfl nofun
    cases op <;> simp only [bopOf] at h1 <;> cases h1 <;> simp
  · simp only [Option.map_eq_some_iff] at h
    obtain ⟨j, h1, rfl⟩ := h
    exact ⟨se_not C.K (S.e C h1).val, st_not (S.e C h1).tst, nofun⟩
  · simp only [Option.map_eq_some_iff] at h
    obtain ⟨j, h1, rfl⟩ := h
    exact SEB.of C (se_neg (S.e C h1).val) (fun _ => rfl) rfl nofun
  · exact se_and1 (S.e C h)
  · split at h
    case h_2 => cases h
    rename_i x y h1 h2
    cases h
    have A := S.e C h1
    have B := S.e C h2
    have w := st_and A.tst (B.bop _ _ _ rfl)
    exact ⟨se_and C.K A.val B.val, w.pt, fun _ _ _ _ => w⟩
  · split at h
    case h_2 => cases h
    rename_i x y h1 h2
    cases h
    have A := S.e C h1
    have B := S.e C h2
    have w := st_or A.tst (B.bop _ _ _ rfl)
    exact ⟨se_or C.K A.val B.val, w.pt, fun _ _ _ _ => w⟩
  · rename_i a op b pc
    split at h
    · cases h
    rename_i hm
    split at h
    case h_2 => cases h
    rename_i x y h1 h2
    cases h
    obtain ⟨r, ho, hr⟩ := cop_ok C op
    obtain ⟨q1, q2⟩ := se_cmp (pos := pc) ho hr (by simpa using hm) (S.e C h1).val (S.e C h2).val
    exact ⟨q1, q2, nofun⟩
  · rename_i a op op' b c pc
    split at h
    · cases h
    rename_i hm
    split at h
    case h_2 => cases h
    rename_i x y z h1 h2 h3
    cases h
    obtain ⟨r, ho, hr⟩ := cop_ok C op
    obtain ⟨r', ho', hr'⟩ := cop_ok C op'
    obtain ⟨q1, q2⟩ := se_cmp2 (pos := pc) ho hr ho' hr' (by simpa using hm) (S.e C h1).val (S.e C h2).val (S.e C h3).val
    exact ⟨q1, q2, nofun⟩
  · split at h
    case h_2 => cases h
    rename_i x y z h1 h2 h3
    cases h
    refine ⟨se_ife (S.e C h1).tst (S.e C h2).val (S.e C h3).val, ⟨fun pins s σ H Q I h => ?_⟩, nofun⟩
    obtain ⟨F, s', str, g⟩ := h
    exact g.elim
  · simp only [Option.map_eq_some_iff] at h
    obtain ⟨js, h1, rfl⟩ := h
    exact SEB.of C (se_tup (S.l C h1)) (fun _ => rfl) rfl nofun
  · split at h
    case h_2 => cases h
    rename_i x xs h1 h2
    cases h
    have e : evE G (.bin .add (.blt .list [x]) (.lst xs)) false = stlC (evE G x false) (evL G xs) := by
      funext s
      show ((((evE G x false s).bind fun p s1 => ((.ok [] s1 : Rs (List PV)).bind fun ps s2 => .ok (p :: ps) s2)).bind fun ps s1 => match views s1 ps with | some ds => lift (blD .list ds) s1 | none => .no).bind fun p s1 => (lstC (evL G xs) s1).bind fun q s2 => match view s2 p, view s2 q with | some x, some y => lift (bop .add x y) s2 | _, _ => .no) = _
      rfl
    refine SEB.of C (by rw [e]; exact se_stl C.K (S.e C h1).val (S.l C h2)) (fun _ => rfl) rfl nofun
  · simp only [Option.map_eq_some_iff] at h
    obtain ⟨js, h1, rfl⟩ := h
    exact SEB.of C (se_lst (S.l C h1)) (fun _ => rfl) rfl nofun
  · simp only [Option.map_eq_some_iff] at h
    obtain ⟨j, h1, rfl⟩ := h
    exact SEB.of C (se_revA C.K (S.e C h1).val) (fun _ => rfl) rfl nofun
  · cases h
    exact SEB.of C se_emp (fun _ => rfl) rfl nofun
  · split at h
    case h_2 => cases h
    rename_i x l hh h1 h2 h3
    cases h
    exact SEB.of C (se_slc C.K (S.e C h1).val (S.o C h2) (S.o C h3)) (fun _ => rfl) rfl nofun
  · rename_i a i' pc _ _
    split at h
    · cases h
    rename_i hs
    split at h
    case h_2 => cases h
    rename_i x y h1 h2
    cases h
    refine SEB.of C (se_sub C.K (S.e C h1).val (S.e C h2).val ?_) (fun _ => rfl) rfl nofun
    intro o i
    cases i' <;> first | rfl | exact absurd rfl hs
  · obtain ⟨own, tg, it, is, e, rfl, c1, c2, c3, c4, c5, c6, c7, c8, c9, c10⟩ := (S.lc C h).ex
    exact SEB.of C (se_lc c2 c1 c3 c4 c5 c6 c7 c8 c9 c10) (fun _ => rfl) rfl nofun
  · rename_i f args pc
    obtain ⟨h1, h2⟩ := S.call C h
    refine SEB.of C h1 (fun whole => ?_) h2 nofun
    rfl
  · cases h
theorem snd_all (P : Par) (G : Env) (k : Nat) : ∀ n, Snd P G k n
  | 0 => by
    constructor
    all_goals first
      | (intro W X ce e i C h; simp [cE] at h; done)
      | (intro W X ce e i C h; simp [cL] at h; done)
      | (intro W X ce e i C h; simp [cA] at h; done)
      | (intro W X ce e i C h; simp [cO] at h; done)
      | (intro W X ce e i j C h; simp [cI] at h; done)
      | (intro W X ce e i C h; simp [cIfs] at h; done)
      | (intro W X ce a b c d e i C h; simp [cLc] at h; done)
      | (intro W X ce f a p i C h; simp [cCall] at h; done)
      | (intro W X ce f a i C _ _ h; simp [cBlt] at h; done)
      | (intro W X ce f a i C _ _ h; simp [cBl1] at h; done)
  | n + 1 => have S := snd_all P G k n
    { e := fun C h => snd_e S C h, l := fun C h => snd_l S C h, a := fun C h => snd_a S C h, o := fun C h => snd_o S C h, w := fun C h => snd_w S C h, s := fun C h => snd_s S C h, lc := fun C h => snd_lc S C h,
      call := fun C h => snd_call S C h, blt := fun C hg hm h => snd_blt S C hg hm h, bl1 := fun C hg hm h => snd_bl1 S C hg hm h }
end
end Z

/-! Z25: statements from the text -/
namespace Z
open PySem PySem.Spec PyProof.Rows L2
def compB : Expr → Bool
  | .ListComp _ _ _ _ => true
  | .SetComp _ _ _ _ => true
  | .DictComp _ _ _ _ _ => true
  | _ => false
def dispB : Expr → Bool
  | .Tuple _ _ _ => true
  | .List _ _ => true
  | _ => false
def docB : Expr → Bool
  | .Constant (.str _) _ _ => true
  | _ => false
def CE.suite (ce : CE) (h : Option (Nat × Nat)) : CE := { ce with calm := false, hx := h }
mutual
def cS : Nat → CE → Stmt → Option IS
  | 0, _, _ => none
  | n + 1, ce, st => match st with
    | .Assign [.Name x px] e _ => if ce.calm = true then (match cT ce (.Name x px) with
        | some (.var i) => (match e with
          | .ListComp elt [⟨tge, iter, ifs, 0⟩] scope _ => (cLc n ce elt tge iter ifs scope).map (.asg (.var i))
          | e => if compB e = true then none else (cE n ce e).map (.asg (.var i)))
        | _ => none) else none
    | .Assign [.Subscript (.Name x px) ix tp] e _ => if ce.calm = true ∧ compB e = false ∧ okName x = true ∧ visB ce.sc x = true ∧ sliceB ix = false then (match slotIx ce.N x, cE n ce ix, cE n ce e with
        | some i, some k, some j => some (.asubs true [i] [k] j)
        | _, _, _ => none) else none
    | .Assign [.Tuple [.Subscript (.Name x px) ix tp, .Subscript (.Name y py) iy tp2] kk pt] e _ => if ce.calm = true ∧ compB e = false ∧ (okName x = true ∧ visB ce.sc x = true ∧ sliceB ix = false) ∧ okName y = true ∧ visB ce.sc y = true ∧ sliceB iy = false then (match slotIx ce.N x, cE n ce ix, slotIx ce.N y, cE n ce iy, cE n ce e with
        | some i, some k, some i2, some k2, some j => some (.asubs false [i, i2] [k, k2] j)
        | _, _, _, _, _ => none) else none
    | .Assign [.Tuple [.Name x px, .Name y py] kk pt] (.Tuple [a, b] k2 pt2) _ => if ce.calm = true ∧ parB ce x y px py a b = true then (match slotIx ce.N x, slotIx ce.N y, cE n ce a, cE n ce b with
        | some i, some j, some ja, some jb => some (.par i j ja jb)
        | _, _, _, _ => none) else if ce.calm = true ∧ parN ce x y a b = true then (match cT ce (.Name x px), cT ce (.Name y py), cE n ce a, cE n ce b with
        | some (.var i), some (.var j), some ja, some jb => some (.par i j ja jb)
        | _, _, _, _ => none) else none
    | .Assign [.Tuple es kk pt] e _ => if ce.calm = true ∧ compB e = false ∧ dispB e = false then (match cT ce (.Tuple es kk pt), cE n ce e with
        | some (.tup ts), some i => some (.asg (.tup ts) i)
        | _, _ => none) else none
    | .AugAssign (.Name x px) op e _ => if ce.calm = true then (match cT ce (.Name x px), op, cE n ce e with
        | some (.var i), .Add, some j => some (.aug i .add j)
        | some (.var i), .Sub, some j => some (.aug i .sub j)
        | _, _, _ => none) else none
    | .Expr e _ => if docB e = true then some .pass else if compB e = true then none else (cE n ce e).map .expr
    | .Return (some e) _ => (cE n ce e).map .ret
    | .Return none _ => some (.ret (.con .non))
    | .If c a b _ => match cE n ce c, cB n ce a, cB n ce b with
      | some x, some y, some z => some (.ife x y z)
      | _, _, _ => none
    | .For tg it b [] _ => if ce.calm = true ∧ setB it = false then (match cT ce tg, cI n ce tg it, cB n ce b with
        | some t, some x, some y => some (.for_ t x y)
        | _, _, _ => none) else none
    | .While c b [] _ => if ce.calm = true then (match cE n ce c, cB n ce b with
        | some x, some y => some (.whl x y)
        | _, _ => none) else none
    | .Pass _ => some .pass
    | .Break _ => some .brk
    | .Raise (some (.Call (.Name x _) [.Constant (.str _) _ _] [] _)) none _ => if ce.calm = true ∧ okName x = true then (match ce.glV x with
        | some (.exc c) => if c = 5 then none else some (.raise c)
        | _ => none) else none
    | .Try b [.ExceptHandler (some (.Name x _)) (some y) (s₀ :: su) _] [] [] _ => if ce.calm = true ∧ okName x = true ∧ ce.sc.names.lookup y = some .local then (match ce.glV x, slotIx ce.N y, cB n ce b with
        | some (.exc c), some i, some b' => (match cB n (ce.suite (some (i, 0))) (s₀ :: su), cB n (ce.suite (some (i, 1))) (s₀ :: su), cB n (ce.suite (some (i, 2))) (s₀ :: su), cB n (ce.suite (some (i, 3))) (s₀ :: su), cB n (ce.suite (some (i, 4))) (s₀ :: su), cB n (ce.suite (some (i, 5))) (s₀ :: su) with
          | some s0, some s1, some s2, some s3, some s4, some s5 => some (.tryAs b' c i [s0, s1, s2, s3, s4, s5])
          | _, _, _, _, _, _ => none)
        | _, _, _ => none) else none
    | .Try b (h₀ :: hds) [] [] _ => if ce.calm = true then (match cB n ce b, cHs n ce (h₀ :: hds) with
        | some b', some hs => some (.try_ b' hs)
        | _, _ => none) else none
    | _ => none
def cHs : Nat → CE → List ExceptHandler → Option (List IH)
  | 0, _, _ => none
  | n + 1, ce, hs => match hs with
    | [] => some []
    | .ExceptHandler (some (.Name x _)) none (s₀ :: su) _ :: hs => if okName x = true then (match ce.glV x, cB n (ce.suite none) (s₀ :: su), cHs n ce hs with
        | some (.exc c), some b, some r => some (.mk c b :: r)
        | _, _, _ => none) else none
    | _ => none
def cB : Nat → CE → List Stmt → Option (List IS)
  | 0, _, _ => none
  | n + 1, ce, sts => match sts with
    | [] => some []
    | st :: sts => match cB n ce sts with
      | some xs => some ((match cS n ce st with | some x => x | none => .stuck) :: xs)
      | none => none
end
/-- an own class whose call raises -/
def RaiseK (K : PySem.W.Frag) (C : Addr) : Prop := ∃ (B newId initId : String) (bmB : List Value), PySem.ExcBaseFacts B newId initId bmB ∧ PySem.W.excIn K C bmB newId = true ∧ PySem.W.keepIn K (.ref C) = true ∧ PySem.W.subIn K (.ref C) (.type "BaseException") = some true ∧ PySem.W.typeIn K (.ref C) = some (.type "type")
structure StOk (P : Par) (W : WX) (X : Cx) (G : Env) (k : Nat) (ce : CE) : Prop where
  c : CtxOk P W X G k ce
  kf : X.env.scope.kind = .function
  po : ce.calm = true → PassesOwn (model X.prog X.w) X.A X.env X.xe
  hs : X.stack = X.env :: X.outer
  hf : X.env.frame = some X.env.locals
  hM : ExM X.K P.ca
  rk : ∀ c C, c ≠ 5 → P.ca c C → RaiseK X.K C
  six : ∀ c C, P.ca c C → c < 6
  ek : ∀ c C, P.ca c C → ExcC X.K C
  ik : ∀ j C c C', P.ca j C → P.ca c C' → PySem.W.kitOne X.K (.ref C) (.ref C') = some (j == c || c == 0)
section
variable {P : Par} {W : WX} {X : Cx} {G : Env} {k n : Nat} {ce : CE} {pos p : Pos}
theorem GvOk.tr {pn : List (Addr × Obj)} {xe : Value → Shared → Prop} {x : Str} {g : Gv} (h : GvOk P X G x g) : GvOk P (X.tr pn xe) G x g := by
  cases g with
  | con d => exact h
  | fn i => exact h
  | exc c => exact h
  | blt => exact h
  | fl cs => obtain ⟨a, h1, h2⟩ := h; exact ⟨a, h1, ⟨h2.ex⟩⟩
/-- within a try's body -/
theorem StOk.tr (C : StOk P W X G k ce) (hc : ce.calm = true) {W' : WX} {pn : List (Addr × Obj)} {xe : Value → Shared → Prop} (hh : ce.hx = none) (tk : Takes (X.tr pn xe) W') (po : PassesOwn (model X.prog X.w) X.A X.env xe) : StOk P W' (X.tr pn xe) G k ce where
  c := { sc := C.c.sc, N := C.c.N, nd := C.c.nd, K := C.c.K, calm := C.c.calm, pf := C.c.pf, room := C.c.room, un := C.c.un, gd := C.c.gd, rh := C.c.rh, tk := tk, tl := C.c.tl, tc := C.c.tc, gl := fun x g h => (C.c.gl x g h).tr, hx := fun i j e => (by rw [hh] at e; cases e), fa := fun hc f bs run a h1 h2 => ⟨(C.c.fa hc f bs run a h1 h2).ex⟩ }
  kf := C.kf
  po := fun _ => po
  hs := C.hs
  hf := C.hf
  hM := C.hM
  rk := C.rk
  six := C.six
  ek := C.ek
  ik := C.ik
theorem GvOk.zz {z : St → Prop} {x : Str} {g : Gv} (h : GvOk P X G x g) : GvOk { P with z := z } X G x g := by
  cases g with
  | con d => obtain ⟨v, u, h1, h2, h3⟩ := h; exact ⟨v, u, h1, h2, fun F => (Rp.zz d).mpr (h3 F)⟩
  | fn i => exact h
  | exc c => exact h
  | blt => exact h
  | fl cs => exact h
theorem GvOk.su {a : Addr} {pn : List (Addr × Obj)} {x : Str} {g : Gv} (h : GvOk P X G x g) : GvOk P (X.suite a pn) G x g := by
  cases g with
  | con d => exact h
  | fn i => exact h
  | exc c => exact h
  | blt => exact h
  | fl cs => obtain ⟨a, h1, h2⟩ := h; exact ⟨a, h1, ⟨h2.ex⟩⟩
/-- within an except suite -/
theorem StOk.suite (C : StOk P W X G k ce) {z : St → Prop} {a : Addr} {oe : Obj} {pn : List (Addr × Obj)} {Cl : Addr} {h : Option (Nat × Nat)} (hz : Zc (.ref Cl) none oe) (hd : ∃ vs, oe.data = .fields vs)
    (hh : ∀ i j, h = some (i, j) → (∀ σ, z σ → σ[i]? = some (some (V.ref a))) ∧ P.ca j Cl) : StOk { P with z := z } WN (X.suite a ((a, oe) :: pn)) G k (ce.suite h) where
  c := { sc := C.c.sc, N := C.c.N, nd := C.c.nd, K := C.c.K, calm := nofun, pf := nofun, room := nofun, un := C.c.un, gd := C.c.gd, rh := fun h => ⟨(C.c.rh h).dp, (C.c.rh h).un⟩, tk := takes0, tl := C.c.tl, tc := C.c.tc, gl := fun x g e => ((C.c.gl x g e).zz (z := z)).su, fa := nofun,
         hx := fun i j e => ⟨a, Cl, oe, (hh i j e).1, (hh i j e).2, List.mem_cons_self, hz, hd, C.ek j Cl (hh i j e).2, fun c C' hc => C.ik j Cl c C' (hh i j e).2 hc⟩ }
  kf := C.kf
  po := nofun
  hs := C.hs
  hf := C.hf
  hM := C.hM
  rk := C.rk
  six := C.six
  ek := C.ek
  ik := C.ik
theorem sw_no {e : Expr} {t : Option Expr} {l : Nat} {env : PySem.Env} (h : compB e = false) : swapsWith e t l env = pure false := by
  cases e <;> first | rfl | cases h
theorem raise_ok (C : StOk P W X G k ce) {x m : Str} {c j : Nat} {p p2 pc : Pos} (hc : ce.calm = true) (hg : Gl X x) (hn : okName x = true) {Ca : Addr} (hm : X.mg x = some (.ref Ca)) (hca : P.ca c Ca) (h5 : c ≠ 5) :
    SS P W X (.Raise (some (.Call (.Name x p) [.Constant (.str m) j p2] [] pc)) none pos) (fun s => .er (.exc c []) s) := by
  obtain ⟨B, nid, iid, bm, F, q, kC, s1, s2⟩ := C.rk c Ca h5 hca
  exact ss_raise (C.c.calm hc) C.c.tk hca (pmk_own F q hm kC (raises_own s1 s2) hg (okN hn).1)
theorem fst_some {α : Type} {b : Bool} (x : α) : (pure b : Sem Bool) = pure b := rfl
/-- name = a comprehension -/
theorem asg_lc (C : StOk P W X G k ce) {x : Str} {px lp spos : Pos} {elt tge iter : Expr} {ifs : List Expr} {scope : Scope} {i : Nat} {e : IE} (pf : P.Free) (hN : X.N[i]? = some x) (hx : Loc X.env.scope x) (hf : X.fn x = true ∨ X.env.scope.names.lookup x = some .local) (L : LcOk P W X G elt tge iter ifs scope e) :
    SS P W X (.Assign [.Name x px] (.ListComp elt [⟨tge, iter, ifs, 0⟩] scope lp) spos) (asgC (.var i) (evE G e false)) := by
  obtain ⟨own, tg, it, is, e, rfl, c2, c1, c3, c4, c5, c6, c7, c8, c9, c10⟩ := L.ex
  have e0 : evE G (.lc (own.map (·.2)) tg it is e) false = lcC (own.map (·.2)) tg (evI G it) (evTs G is) (evE G e false) := rfl
  rw [e0]
  have hk : X.env.blockKind = .function := by unfold Env.blockKind; rw [C.kf]; rfl
  have hsw : swapsWith (.ListComp elt [⟨tge, iter, ifs, 0⟩] scope lp) (some (.Name x px)) spos.line X.env = pure (X.env.blockKind == .function && X.env.kindOf x == some .local && px.line == (Expr.ListComp elt [⟨tge, iter, ifs, 0⟩] scope lp).pos.line && !(scope.names.any fun (n, k) => n == x && (k == .local || k == .cell))) := rfl
  cases hb : (X.env.blockKind == .function && X.env.kindOf x == some .local && px.line == (Expr.ListComp elt [⟨tge, iter, ifs, 0⟩] scope lp).pos.line && !(scope.names.any fun (n, k) => n == x && (k == .local || k == .cell))) with
  | true =>
    rw [hb] at hsw
    have hl : X.env.scope.names.lookup x = some .local := by
      simp only [Bool.and_eq_true, beq_iff_eq] at hb
      exact hb.1.1.2
    exact ss_setLc pf c2 C.c.nd hN hl hsw c4 c5 c6 c7 c8 c9 c10
  | false =>
    rw [hb] at hsw
    exact ss_set pf C.c.nd hN hx (se_lc pf c2 c3 c4 c5 c6 c7 c8 c9 c10) hsw hf
structure Snt (P : Par) (G : Env) (k n m : Nat) : Prop where
  s : ∀ {z W X ce st i}, StOk { P with z := z } W X G k ce → (ce.hx = none ∨ ce.calm = false) → cS n ce st = some i → SS { P with z := z } W X st (evS m G i)
  b : ∀ {z W X ce sts is}, StOk { P with z := z } W X G k ce → (ce.hx = none ∨ ce.calm = false) → cB n ce sts = some is → SSs { P with z := z } W X sts (evB m G is)
  h : ∀ {z W X ce hs is}, StOk { P with z := z } W X G k ce → ce.calm = true → cHs n ce hs = some is → ∃ (cs : List (Nat × (Nat → Sts → Out))) (Cs : List Addr), evHs m G is = hdsC cs ∧ cs.length = Cs.length ∧ (∀ q ∈ cs.zip Cs, P.ca q.1.1 q.2) ∧ HdsOk X hs ((cs.zip Cs).map fun q => (.ref q.2, tsC { P with z := z } q.1.2))
theorem snt_b {m : Nat} (S : Snt P G k n m) {z : St → Prop} (C : StOk { P with z := z } W X G k ce) (hh : ce.hx = none ∨ ce.calm = false) {sts : List Stmt} {is : List IS} (h : cB (n + 1) ce sts = some is) : SSs { P with z := z } W X sts (evB m G is) := by
  cases sts with
  | nil => simp [cB] at h; subst h; exact sss_nil
  | cons st sts =>
    simp only [cB] at h
    split at h
    · rename_i xs h2
      cases h
      cases h1 : cS n ce st with
      | some x => exact sss_cons (S.s C hh h1) (S.b C hh h2)
      | none => exact sss_cons (c1 := evS m G .stuck) ⟨fun pins s σ H D I h => by obtain ⟨F, s', str, g⟩ := h; exact g.elim⟩ (S.b C hh h2)
    · cases h
theorem evHs_cons {m : Nat} {c : Nat} {b : List IS} {r : List IH} {cs : List (Nat × (Nat → Sts → Out))} (h : evHs m G r = hdsC cs) : evHs m G (.mk c b :: r) = hdsC ((c, fun _ => evB m G b) :: cs) := by
  funext x s
  cases x with
  | exc k v =>
    cases v with
    | nil => simp only [evHs, hdsC]; split <;> simp [h]
    | cons => rfl
  | _ => rfl
theorem snt_h {m : Nat} (S : Snt P G k n m) {z : St → Prop} (C : StOk { P with z := z } W X G k ce) (hc : ce.calm = true) {hs : List ExceptHandler} {is : List IH} (h : cHs (n + 1) ce hs = some is) :
    ∃ (cs : List (Nat × (Nat → Sts → Out))) (Cs : List Addr), evHs m G is = hdsC cs ∧ cs.length = Cs.length ∧ (∀ q ∈ cs.zip Cs, P.ca q.1.1 q.2) ∧ HdsOk X hs ((cs.zip Cs).map fun q => (.ref q.2, tsC { P with z := z } q.1.2)) := by
  unfold cHs at h
  split at h
  · cases h
    refine ⟨[], [], ?_, rfl, by simp, .nil⟩
    funext x s; rfl
  · rename_i x px s₀ su ps hs'
    split at h
    case isFalse => cases h
    rename_i hn
    split at h
    case h_2 => cases h
    rename_i c b r hgv hb hr
    cases h
    obtain ⟨hg, Ca, hm, hca⟩ := C.c.glo hgv
    obtain ⟨cs, Cs, e1, e2, e3, e4⟩ := S.h C hc hr
    refine ⟨(c, fun _ => evB m G b) :: cs, Ca :: Cs, evHs_cons e1, by simp [e2], fun q hq => ?_, ?_⟩
    · simp only [List.zip_cons_cons, List.mem_cons] at hq
      rcases hq with rfl | hq
      · exact hca
      · exact e3 q hq
    · simp only [List.zip_cons_cons, List.map_cons]
      refine HdsOk.cons ⟨hg, (okN hn).1, .inl hm⟩ (fun a oe cls d pn hz hd => ⟨fun pins s σ H D I q => ?_⟩) e4
      obtain ⟨kk, Cl, rfl, hk, rfl, q⟩ := q
      exact (S.b (C.suite (h := none) hz hd nofun) (.inr rfl) hb).run pins s σ H D I q
  · cases h
theorem evBs_get {m : Nat} {s0 s1 s2 s3 s4 s5 : List IS} {j : Nat} (h : j < 6) : evBs m G [s0, s1, s2, s3, s4, s5] j = evB m G (if j = 0 then s0 else if j = 1 then s1 else if j = 2 then s2 else if j = 3 then s3 else if j = 4 then s4 else s5) := by
  have : j = 0 ∨ j = 1 ∨ j = 2 ∨ j = 3 ∨ j = 4 ∨ j = 5 := by omega
  rcases this with rfl | rfl | rfl | rfl | rfl | rfl <;> rfl
theorem snt_s {m : Nat} (S : Snt P G k n m) {z : St → Prop} (C : StOk { P with z := z } W X G k ce) (hh : ce.hx = none ∨ ce.calm = false) {st : Stmt} {i : IS} (h : cS (n + 1) ce st = some i) : SS { P with z := z } W X st (evS m G i) := by
  have E := snd_all { P with z := z } G k n
  unfold cS at h
  split at h
  · -- name =
    rename_i x px e sp
    split at h
    case isFalse => cases h
    rename_i hc
    have pf := C.c.pf hc
    split at h
    case h_2 => cases h
    rename_i i hT
    obtain ⟨i', e0, hN, hx, hf⟩ := name_ok pf C.c hT
    cases e0
    split at h
    · simp only [Option.map_eq_some_iff] at h
      obtain ⟨j, h1, rfl⟩ := h
      exact asg_lc C pf hN hx hf (E.lc C.c h1)
    · split at h
      · cases h
      rename_i hcp
      simp only [Option.map_eq_some_iff] at h
      obtain ⟨j, h1, rfl⟩ := h
      exact ss_set pf C.c.nd hN hx (E.e C.c h1).val (sw_no (by simpa using hcp)) hf
  · -- xs[i] =
    rename_i x px ix tp e sp
    split at h
    case isFalse => cases h
    rename_i hc
    obtain ⟨hc, h1, h2, h3, h4⟩ := hc
    split at h
    case h_2 => cases h
    rename_i i k j hi hk hj
    cases h
    exact ss_asub1 (by rw [C.c.N]; exact slotIx_get hi) (C.c.vis h3) (okN h2).1 (okN h2).2 h4 (E.e C.c hk).val (E.e C.c hj).val (sw_no h1)
  · -- xs[i], ys[j] =
    rename_i x px ix tp y py iy tp2 kk pt e sp
    split at h
    case isFalse => cases h
    rename_i hc
    obtain ⟨hc, h1, ⟨h2, h3, h4⟩, h5, h6, h7⟩ := hc
    split at h
    case h_2 => cases h
    rename_i i k i2 k2 j hi hk hi2 hk2 hj
    cases h
    exact ss_asub2 C.c.K (C.c.calm hc) (by rw [C.c.N]; exact slotIx_get hi) (C.c.vis h3) (okN h2).1 (okN h2).2 h4 (E.e C.c hk).val (by rw [C.c.N]; exact slotIx_get hi2) (C.c.vis h6) (okN h5).1 (okN h5).2 h7 (E.e C.c hk2).val (E.e C.c hj).val (sw_no h1)
  · -- x, y = v, w
    rename_i x px y py kk pt a b k2 pt2 sp
    split at h
    case isFalse =>
      split at h
      case isFalse => cases h
      rename_i _ hc
      obtain ⟨hc, hp⟩ := hc
      split at h
      case h_2 => cases h
      rename_i i j ja jb hi hj ha hb
      cases h
      have pf := C.c.pf hc
      obtain ⟨i', ei, hi1, hi2, hi3⟩ := name_ok pf C.c hi
      obtain ⟨j', ej, hj1, hj2, hj3⟩ := name_ok pf C.c hj
      cases ei
      cases ej
      have hp2 := hp
      simp only [parN, Bool.and_eq_true, Bool.or_eq_true, decide_eq_true_eq, Bool.not_eq_true', decide_eq_false_iff_not] at hp2
      obtain ⟨⟨⟨h6, h7⟩, h3⟩, _⟩ := hp2
      exact ss_parC pf (C.c.calm hc) C.c.nd hi1 hj1 (fun e => by subst e; rw [hi1] at hj1; exact h3 (Option.some.inj hj1)) hi2 hi3 hj2 hj3 rfl (sw_parN hp C.c.sc) (E.e C.c ha).val (E.e C.c hb).val h6 h7
    rename_i hc
    obtain ⟨hc, hp⟩ := hc
    split at h
    case h_2 => cases h
    rename_i i j ja jb hi hj ha hb
    cases h
    have hp2 := hp
    simp only [parB, Bool.and_eq_true, decide_eq_true_eq, Bool.not_eq_true', decide_eq_false_iff_not, Bool.and_eq_false_iff] at hp2
    obtain ⟨⟨⟨⟨⟨⟨⟨⟨h1, h2⟩, h3⟩, h4⟩, h5⟩, h6⟩, h7⟩, h8⟩, h9⟩ := hp2
    have hi' : X.N[i]? = some x := by rw [C.c.N]; exact slotIx_get hi
    have hj' : X.N[j]? = some y := by rw [C.c.N]; exact slotIx_get hj
    have hk : X.env.blockKind = .function := by unfold Env.blockKind; rw [C.kf]; rfl
    exact ss_par (C.c.pf hc) (C.c.calm hc) C.c.nd hi' hj' (fun e => by subst e; rw [hi'] at hj'; exact h3 (Option.some.inj hj')) (by rw [C.c.sc]; exact h1) (by rw [C.c.sc]; exact h2) (sw_par hp C.c.sc hk) (E.e C.c ha).val (E.e C.c hb).val h6 h7
  · rename_i es kk pt e sp _ _
    split at h
    case isFalse => cases h
    rename_i hc
    obtain ⟨hc, h1, h2⟩ := hc
    split at h
    case h_2 => cases h
    rename_i ts j hT hE
    cases h
    have pf := C.c.pf hc
    refine ss_asg pf (E.e C.c hE).val (gp_tup (cT_ok pf C.c _ hT)) (show swapsWithSole [Expr.Tuple es kk pt] e sp.line X.env = pure false from (sw_no h1 : swapsWith e (some (.Tuple es kk pt)) sp.line X.env = pure false)) ?_ rfl
    cases e <;> first | rfl | cases h2
  · rename_i x px op e sp
    split at h
    case isFalse => cases h
    rename_i hc
    have pf := C.c.pf hc
    split at h
    · rename_i i j hT hE
      cases h
      obtain ⟨i', e0, hN, hx, hf⟩ := name_ok pf C.c hT
      cases e0
      exact ss_aug pf C.c.nd hN hx (E.e C.c hE).val ag_add hf
    · rename_i i j hT hE
      cases h
      obtain ⟨i', e0, hN, hx, hf⟩ := name_ok pf C.c hT
      cases e0
      exact ss_aug pf C.c.nd hN hx (E.e C.c hE).val ag_sub hf
    · cases h
  · rename_i e sp
    split at h
    · rename_i hd
      cases h
      cases e with
      | Constant c kk pc =>
        cases c with
        | str x => exact PS.weak ps_doc (by
            rintro D σ H ⟨F, s, str, g⟩
            exact g σ F H (Step.refl str))
        | _ => cases hd
      | _ => cases hd
    · split at h
      · cases h
      rename_i hcp
      simp only [Option.map_eq_some_iff] at h
      obtain ⟨j, h1, rfl⟩ := h
      exact ss_expr (E.e C.c h1).val (sw_no (by simpa using hcp))
  · simp only [Option.map_eq_some_iff] at h
    obtain ⟨j, h1, rfl⟩ := h
    exact ss_ret (E.e C.c h1).val
  · cases h
    exact ss_retN
  · split at h
    case h_2 => cases h
    rename_i x y zz h1 h2 h3
    cases h
    exact ss_if (E.e C.c h1).tst (S.b C hh h2) (S.b C hh h3)
  · rename_i tg it b sp
    split at h
    case isFalse => cases h
    rename_i hc
    split at h
    case h_2 => cases h
    rename_i t x y h1 h2 h3
    cases h
    refine ss_for (C.po hc.1) (C.c.calm hc.1) (E.w C.c h2) (cT_ok (C.c.pf hc.1) C.c _ h1) (S.b C hh h3) fun x => ?_
    have hs := hc.2
    cases it <;> first | rfl | cases hs
  · split at h
    case isFalse => cases h
    rename_i hc
    split at h
    case h_2 => cases h
    rename_i x y h1 h2
    cases h
    exact ss_while (C.po hc) (E.e C.c h1).tst (S.b C hh h2)
  · cases h; exact ss_pass
  · cases h; exact ss_break
  · split at h
    case isFalse => cases h
    rename_i hc
    split at h
    case h_2 => cases h
    rename_i c hgv
    split at h
    · cases h
    rename_i h5
    cases h
    obtain ⟨hg, Ca, hm, hca⟩ := C.c.glo hgv
    exact raise_ok C hc.1 hg hc.2 hm hca h5
  · rename_i b x px y s₀ su ps sp
    split at h
    case isFalse => cases h
    rename_i hc
    obtain ⟨hcalm, hn, hloc⟩ := hc
    split at h
    case h_2 => cases h
    rename_i c i b' hgv hsl hb
    split at h
    case h_2 => cases h
    rename_i s0 s1 s2 s3 s4 s5 g0 g1 g2 g3 g4 g5
    cases h
    obtain ⟨hg, Ca, hm, hca⟩ := C.c.glo hgv
    have hx0 : ce.hx = none := hh.resolve_right (by rw [hcalm]; simp)
    have hN : X.N[i]? = some y := by rw [C.c.N]; exact slotIx_get hsl
    refine ss_tryAs (C.c.pf hcalm) C.hM C.hs C.hf C.c.nd hN (by unfold Env.kindOf; rw [C.c.sc]; exact hloc) ⟨hg, (okN hn).1, .inl hm⟩ hca C.c.tk (fun W' pn xe tk po => S.b (C.tr hcalm hx0 tk po) (.inl hx0) hb) fun j Cl a oe pn hj hz hd => ?_
    have hlt := C.six j Cl hj
    rw [evBs_get hlt]
    have go : ∀ {t : List IS}, cB n (ce.suite (some (i, j))) (s₀ :: su) = some t → SSs (Par.at { P with z := z } i a) WN (X.suite a ((a, oe) :: pn)) (s₀ :: su) (evB m G t) := fun {t} h =>
      S.b (C.suite (z := fun σ => σ[i]? = some (some (V.ref a))) (h := some (i, j)) hz hd fun i' j' e => by cases e; exact ⟨fun σ h => h, hj⟩) (.inr rfl) h
    have : j = 0 ∨ j = 1 ∨ j = 2 ∨ j = 3 ∨ j = 4 ∨ j = 5 := by omega
    rcases this with rfl | rfl | rfl | rfl | rfl | rfl
    · exact go g0
    · exact go g1
    · exact go g2
    · exact go g3
    · exact go g4
    · exact go g5
  · rename_i b h₀ hds sp _
    split at h
    case isFalse => cases h
    rename_i hc
    split at h
    case h_2 => cases h
    rename_i b' hs' hb hH
    cases h
    have hx0 : ce.hx = none := hh.resolve_right (by rw [hc]; simp)
    obtain ⟨cs, Cs, e1, e2, e3, e4⟩ := S.h C hc hH
    have e0 : evS m G (.try_ b' hs') = tryC (evB m G b') (hdsC cs) := by
      funext s
      show tryC (evB m G b') (evHs m G hs') s = _
      rw [e1]
    rw [e0]
    exact ss_try C.hM C.hs C.hf C.c.tk e3 e2 (fun W' pn xe tk po => S.b (C.tr hc hx0 tk po) (.inl hx0) hb) e4
  · cases h
theorem snt_all (P : Par) (G : Env) (k m : Nat) : ∀ n, Snt P G k n m
  | 0 => ⟨fun _ _ h => by simp [cS] at h, fun _ _ h => by simp [cB] at h, fun _ _ h => by simp [cHs] at h⟩
  | n + 1 => have S := snt_all P G k m n
    ⟨fun C hh h => snt_s S C hh h, fun C hh h => snt_b S C hh h, fun C hc h => snt_h S C hc h⟩
end
end Z

/-! Z26: a table of functions -/
namespace Z
open PySem PySem.Spec PyProof.Rows L2
/-- a def of the text with its row in the table -/
structure Row where
  name : Str
  qual : Str
  st : Stmt
  N : List Str
  ps : List Str
  fn : Fn
/-- what is checked of a def's text: its scope, its names, its body -/
def rowB (fuel : Nat) (gl : List (Str × Gv)) (r : Row) : Bool := decide ((defScope r.st).kind = .function) && !(defScope r.st).isCoroutine && !(defScope r.st).isGenerator && decide r.N.Nodup && decide (r.N.take r.ps.length = r.ps) &&
  r.ps.all (fun x => decide ((defScope r.st).names.lookup x = some .local) || decide ((defScope r.st).names.lookup x = some .cell)) && (defScope r.st).names.all (fun y => !decide (y.2 = .free)) && decide (r.fn.ns = r.N.length) && decide (r.fn.modes.length = r.ps.length)
theorem rowB_scope {fuel : Nat} {gl : List (Str × Gv)} {r : Row} (h : rowB fuel gl r = true) : FnScope r.N r.ps (defScope r.st) ∧ r.fn.ns = r.N.length ∧ r.fn.modes.length = r.ps.length := by
  simp only [rowB, Bool.and_eq_true, decide_eq_true_eq, Bool.not_eq_true', List.all_eq_true, Bool.or_eq_true, decide_eq_false_iff_not] at h
  obtain ⟨⟨⟨⟨⟨⟨⟨⟨h1, h2⟩, h3⟩, h4⟩, h5⟩, h6⟩, h7⟩, h8⟩, h9⟩ := h
  exact ⟨⟨h1, h2, h3, h4, h5, fun x hx => h6 x hx, fun y hy => h7 y hy⟩, h8, h9⟩
def Row.ce (r : Row) (gl : List (Str × Gv)) : CE := ⟨r.N, defScope r.st, defScope r.st, gl, true, none⟩
/-- the parameters of a row's world: where things stand -/
def mkP (K : PySem.W.Frag) (fs cs : List Addr) : Par := ⟨K, fun i a => fs[i]? = some a, fun _ _ _ => False, fun c a => cs[c]? = some a, fun _ => True⟩
/-- a def that tells a caught exception's classes -/
structure FlRow where
  name : Str
  qual : Str
  st : Stmt
  N : List Str
  x : Str
  cs : List Nat
def FlRow.ce (r : FlRow) (g0 : List (Str × Gv)) (j : Nat) : CE := ⟨r.N, defScope r.st, defScope r.st, g0, false, some (0, j)⟩
def flB (fuel : Nat) (g0 : List (Str × Gv)) (r : FlRow) : Bool := rowB fuel [] ⟨r.name, r.qual, r.st, r.N, [r.x], ⟨[false], r.N.length, []⟩⟩ && decide (r.cs.length ≤ 1000)
/-- what the written part says of the defs and the classes -/
structure Wr (K : PySem.W.Frag) (mg : Str → Option Value) (gl g0 : List (Str × Gv)) (rows : List Row) (fl : List FlRow) (fs cs : List Addr) : Prop where
  len : fs.length = rows.length
  fns : ∀ (i : Nat) (r : Row) (a : Addr), rows[i]? = some r → fs[i]? = some a → ∃ fd, Fun K r.name r.qual r.st a fd ∧ Binds K fd r.ps []
  gl : ∀ x g, gl.lookup x = some g → match g with
    | .fn i => ∃ a, mg x = some (.ref a) ∧ fs[i]? = some a
    | .exc c => ∃ a, mg x = some (.ref a) ∧ cs[c]? = some a
    | .con d => ∃ v u, mg x = some u ∧ RelV v u ∧ ∀ F, Rp (mkP K fs cs) F d v
    | .blt => mg x = none
    | .fl ks => ∃ a r, mg x = some (.ref a) ∧ r ∈ fl ∧ r.cs = ks ∧ ∃ fd, Fun K r.name r.qual r.st a fd ∧ Binds K fd [r.x] []
  g0 : ∀ x g, g0.lookup x = some g → match g with
    | .exc c => ∃ a, mg x = some (.ref a) ∧ cs[c]? = some a
    | .blt => mg x = none
    | _ => False
  hM : ∀ (k : Nat) (C : Addr) (c : Nat) (C' : Addr), cs[k]? = some C → cs[c]? = some C' → PySem.W.exmOne K (.ref C) (.ref C') = some (k == c || c == 0)
  rk : ∀ (c : Nat) (C : Addr), c ≠ 5 → cs[c]? = some C → RaiseK K C
  six : cs.length ≤ 6
  ek : ∀ (c : Nat) (C : Addr), cs[c]? = some C → ExcC K C
  ik : ∀ (j : Nat) (C : Addr) (c : Nat) (C' : Addr), cs[j]? = some C → cs[c]? = some C' → PySem.W.kitOne K (.ref C) (.ref C') = some (j == c || c == 0)
section
variable {Pr : Program} {w : World} {K : PySem.W.Frag} {mg : Str → Option Value} {base : Heap} {gl g0 : List (Str × Gv)} {rows : List Row} {fl : List FlRow} {fs cs : List Addr} {fuel m : Nat}
theorem six_of (Wk : Wr K mg gl g0 rows fl fs cs) (c : Nat) (C : Addr) (h : cs[c]? = some C) : c < 6 := by
  have := lt_of_get h
  have := Wk.six
  omega
theorem fl_ok (Wk : Wr K mg gl g0 rows fl fs cs) {r : FlRow} {a : Addr} {fd : FuncData} (hrow : flB fuel g0 r = true) (hbody : ∀ j, j < 6 → cB fuel (r.ce g0 j) (defBody r.st) = some [.ret (.lst (r.cs.map fun c => .con (.bl (j == c || c == 0))))]) (F : Fun K r.name r.qual r.st a fd) :
    FnF Pr w K mg base (L2.CX Pr w) 1 a fd [r.x] (spF (mkP K fs cs) r.cs) := by
  simp only [flB, Bool.and_eq_true, decide_eq_true_eq] at hrow
  obtain ⟨S, _, _⟩ := rowB_scope hrow.1
  refine fn_ofF F S (fun p vs H Q E h => by obtain ⟨_, _, _, rfl, _⟩ := h; rfl) fun cdv A outer s H vs Q E p hgd hr h => ?_
  obtain ⟨j, C, hC, rfl, hz, hf, F0, as, _, hm, str, q⟩ := h
  have hj := six_of Wk j C hC
  cases as with
  | cons => exact hm.elim
  | nil =>
    let G : Env := fun _ => none
    let z : St → Prop := fun σ => σ[0]? = some (some (V.ref p.1))
    have hN : 1 ≤ r.N.length := by
      have := congrArg List.length S.pre
      simp at this
      omega
    have hst : L2.start r.N [V.ref p.1] = some (V.ref p.1) :: List.replicate (r.N.length - 1) none := rfl
    refine ⟨tSS { mkP K fs cs with z := z } WN (evB 0 G [.ret (.lst (r.cs.map fun c => .con (.bl (j == c || c == 0))))]), ?_, ?_⟩
    · refine (snt_all (mkP K fs cs) G 0 0 fuel).b (z := z) (ce := r.ce g0 j) ?_ (.inr rfl) (hbody j hj)
      refine { c := ?_, kf := S.kind, po := nofun, hs := rfl, hf := rfl, hM := Wk.hM, rk := Wk.rk, six := six_of Wk, ek := Wk.ek, ik := Wk.ik }
      refine { sc := rfl, N := rfl, nd := S.nd, K := rfl, calm := nofun, pf := nofun, room := nofun, un := ?_, gd := hgd, rh := ?_, tk := takes0, tl := fun x h => h, tc := fun x h => ⟨h, rfl⟩, gl := fun x g h => ?_, hx := fun i k e => ?_, fa := nofun }
      · have q := hr.un
        show (A.deeper (envOfC r.qual (defScope r.st) s.heap.objs.size a cdv)).units + 65 < cLine
        omega
      · rintro ⟨x, ks, h⟩
        exact (Wk.g0 x _ h).elim
      · have q := Wk.g0 x g h
        cases g with
        | exc c => exact q
        | blt => exact q
        | _ => exact q.elim
      · cases e
        exact ⟨p.1, C, p.2, fun σ h => h, hC, List.mem_singleton.mpr rfl, hz, hf, Wk.ek j C hC, fun c C' hc => Wk.ik j C c C' hC hc⟩
    · refine ⟨F0, List.replicate r.N.length .non, ⟨by rw [hst]; simp; omega, str.sub, fun i v sl h1 h2 => ?_, fun i k b o1 o2 => ?_, rfl⟩, ?_⟩
      · rw [List.getElem?_replicate] at h2
        split at h2
        · cases h2; cases v <;> trivial
        · cases h2
      · obtain ⟨_, ds, o1⟩ := o1
        rw [List.getElem?_replicate] at o1
        split at o1 <;> rcases o1 with o1 | o1 | o1 <;> cases o1
      · have e : evB 0 G [.ret (.lst (r.cs.map fun c => .con (.bl (j == c || c == 0))))] (List.replicate r.N.length .non) = .rt (.tmp (flagsD j r.cs)) (List.replicate r.N.length .non) := by
          show (match evS 0 G (.ret (.lst (r.cs.map fun c => .con (.bl (j == c || c == 0))))) (List.replicate r.N.length .non) with | .nx s1 => evB 0 G [] s1 | o => o) = _
          have e2 : evS 0 G (.ret (.lst (r.cs.map fun c => .con (.bl (j == c || c == 0))))) (List.replicate r.N.length .non) = .rt (.tmp (flagsD j r.cs)) (List.replicate r.N.length .non) := by
            show (evE G (.lst (r.cs.map fun c => .con (.bl (j == c || c == 0)))) false (List.replicate r.N.length .non)).out (fun p s1 => .rt p s1) = _
            rw [ev_flags hrow.2]; rfl
          rw [e2]
        rw [e]
        intro σ' F' H' v st ev
        have nofp : ∀ {σ : St} {b : Addr}, ¬ FP σ (List.replicate r.N.length Sl.non) b := by
          rintro σ b ⟨i, _, ds, o1⟩
          rw [List.getElem?_replicate] at o1
          split at o1 <;> rcases o1 with o1 | o1 <;> cases o1
        refine q v F' H' ⟨⟨rfl, st.str.sub, fun i v sl h => by simp at h, fun i k b o => by obtain ⟨o, _⟩ := o; simp at o, trivial⟩, st.ff, fun b u e _ => st.hh b u e nofp, st.dm, fun b u e => ?_, fun b f => ?_, fun i ds h => by simp at h, fun i ds h => by simp at h, fun i ds h => by simp at h⟩ ?_
        · rcases st.nf b u e with q | q | q
          · exact .inl q
          · exact .inr (.inl q)
          · exact absurd q nofp
        · obtain ⟨i, f, _⟩ := f
          simp at f
        · obtain ⟨b, xs, e1, e2, e3, e4, e5, e6⟩ := ev
          exact ⟨b, xs, e1, e2, e3, (RpL.zz _).mp e4, e5, fun i o => by obtain ⟨o, _⟩ := o; simp at o⟩
/-- THE TABLE: each def keeps its row's promise, at every depth -/
theorem tab_ok (Wk : Wr K mg gl g0 rows fl fs cs) (hfl : ∀ r ∈ fl, flB fuel g0 r = true ∧ ∀ j, j < 6 → cB fuel (r.ce g0 j) (defBody r.st) = some [.ret (.lst (r.cs.map fun c => .con (.bl (j == c || c == 0))))]) (hrow : ∀ r ∈ rows, rowB fuel gl r = true) (hbody : ∀ r ∈ rows, cB fuel (r.ce gl) (defBody r.st) = some r.fn.body) : ∀ (d i : Nat) (r : Row) (a : Addr) (fd : FuncData), rows[i]? = some r → fs[i]? = some a → Fun K r.name r.qual r.st a fd →
    FnG Pr w K mg base (L2.CX Pr w) (d + 3) a fd r.ps (spZ (mkP K fs cs) r.fn.modes (runF (rows.map Row.fn) m d i))
  | 0, i, r, a, fd, hi, ha, F => by
    have hm : r ∈ rows := List.mem_of_getElem? hi
    obtain ⟨S, h1, h2⟩ := rowB_scope (hrow r hm)
    refine ⟨fun vs H Q E h => ?_, fun A outer s H args us vs Q E _ _ _ _ _ h => ?_⟩
    · obtain ⟨_, _, _, _, _, q⟩ := h
      exact q.elim
    · obtain ⟨_, _, _, _, _, q⟩ := h
      exact q.elim
  | d + 1, i, r, a, fd, hi, ha, F => by
    have hm : r ∈ rows := List.mem_of_getElem? hi
    obtain ⟨S, h1, h2⟩ := rowB_scope (hrow r hm)
    have pf : (mkP K fs cs).Free := fun _ => trivial
    have ih := tab_ok Wk hfl hrow hbody d
    have e0 : (rows.map Row.fn)[i]? = some r.fn := by rw [List.getElem?_map, hi]; rfl
    let G : Env := fun g => ((rows.map Row.fn)[g]?).map fun F => (F.modes, runF (rows.map Row.fn) m d g)
    have key := fn_ok (Pr := Pr) (w := w) (mg := mg) (base := base) (k := d + 3) (bs := r.fn.modes) (c := evB m G r.fn.body) pf F S h2 fun cdv A outer s H E hgd hr => ?_
    · have e1 : runF (rows.map Row.fn) m (d + 1) i = fun as => if r.fn.modes.length = as.length then endC as (evB m G r.fn.body (as ++ List.replicate (r.N.length - as.length) Sl.non)) else CR.no := by
        funext as
        show (match (rows.map Row.fn)[i]? with | some F => if F.modes.length = as.length then endC as (evB m G F.body (as ++ List.replicate (F.ns - as.length) Sl.non)) else CR.no | none => CR.no) = _
        rw [e0]
        simp only [h1]
      rw [e1]
      exact key
    · refine (snt_all (mkP K fs cs) G (d + 3) m fuel).b (z := fun _ => True) (ce := r.ce gl) ?_ (.inl rfl) (hbody r hm)
      refine { c := ?_, kf := S.kind, po := fun _ => passes_of rfl, hs := rfl, hf := rfl, hM := Wk.hM, rk := Wk.rk, six := six_of Wk, ek := Wk.ek, ik := Wk.ik }
      · refine { sc := rfl, N := rfl, nd := S.nd, K := rfl, calm := fun _ => rfl, pf := fun _ => pf, room := fun _ => hr, un := ?_, gd := hgd, rh := ?_, tk := takes_of rfl rfl rfl rfl, tl := fun x h => h, tc := fun x h => ⟨h, rfl⟩, gl := fun x g h => ?_, hx := nofun, fa := fun _ f bs run a' h1 h2 => ?_ }
        · have q := hr.un
          show (A.deeper (envOfC r.qual (defScope r.st) s.heap.objs.size a cdv)).units + 65 < cLine
          omega
        · have q := hr.un
          have q2 := hr.dp
          exact fun _ => ⟨by show (A.deeper (envOfC r.qual (defScope r.st) s.heap.objs.size a cdv)).depth + 3 * 1 + 5 < _; omega, by show (A.deeper (envOfC r.qual (defScope r.st) s.heap.objs.size a cdv)).units + 16 * 1 + 200 < _; omega⟩
        · have q := Wk.gl x g h
          cases g with
          | fl ks =>
            obtain ⟨a', r', h3, h4, h5, fd', F', hb'⟩ := q
            subst h5
            obtain ⟨g1, g2⟩ := hfl r' h4
            exact ⟨a', h3, ⟨fd', r'.x, fl_ok Wk g1 g2 F', F'.kp, hb'⟩⟩
          | fn f =>
            obtain ⟨a', h3, h4⟩ := q
            refine ⟨⟨a', h3, h4⟩, ?_⟩
            have hl : f < rows.length := by rw [← Wk.len]; exact lt_of_get h4
            exact ⟨_, _, by show ((rows.map Row.fn)[f]?).map _ = _; rw [List.getElem?_map, List.getElem?_eq_getElem hl]; rfl⟩
          | exc c => exact q
          | con dd => exact q
          | blt => exact q
        · -- a callee
          have hl : f < rows.length := by rw [← Wk.len]; exact lt_of_get h2
          have e2 : G f = some (rows[f].fn.modes, runF (rows.map Row.fn) m d f) := by
            show ((rows.map Row.fn)[f]?).map _ = _
            rw [List.getElem?_map, List.getElem?_eq_getElem hl]; rfl
          rw [e2] at h1
          cases h1
          obtain ⟨fd', F', hb'⟩ := Wk.fns f rows[f] a' (List.getElem?_eq_getElem hl) h2
          exact ⟨⟨fd', _, ih f rows[f] a' fd' (List.getElem?_eq_getElem hl) h2 F', F'.kp, hb'⟩⟩
/-- the law itself: its run on the script tells True -/
theorem law_sp {K : PySem.W.Frag} {fs cs : List Addr} {run : List Sl → CR} {n : Nat} (h : ∀ ns : List Int, ns.length ≤ n → ∃ os, run [.fz (.gvn (ns.map D.int))] = .ok (.fz (.bl true)) os) {H : Hp} {a : Addr} {ns : List Int} (hn : ns.length ≤ n)
    (hH : SqL K H a (ns.map V.int)) : spZ (mkP K fs cs) [false] run [.ref a] H (fun v _ => v = .bl true) fun _ _ _ => False := by
  obtain ⟨os, e⟩ := h ns hn
  refine ⟨H, [.fz (.gvn (ns.map D.int))], rfl, ⟨trivial, trivial⟩, ⟨rfl, fun _ _ h => h, fun i v sl h1 h2 => ?_, fun i j b o1 o2 => ?_, trivial⟩, ?_⟩
  · cases i with
    | zero => cases h1; cases h2; exact ⟨a, _, rfl, hH, RpL.ofInts ns⟩
    | succ i => simp at h1
  · obtain ⟨_, ds, o1⟩ := o1
    cases i with
    | zero => simp at o1
    | succ i => simp at o1
  · rw [e]
    exact fun v F' H' st ev => ev
/-- the same, wherever the defs and the classes stand -/
def spLaw (K : PySem.W.Frag) (run : List Sl → CR) : Sp := fun vs H Q E => vs.length = 1 ∧ ∀ fs cs : List Addr, spZ (mkP K fs cs) [false] run vs H Q E
theorem fn_law {k : Nat} {f : Addr} {fd : FuncData} {x : Str} {run : List Sl → CR} (F : FnG Pr w K mg base (L2.CX Pr w) k f fd [x] (spZ (mkP K fs cs) [false] run)) : FnG Pr w K mg base (L2.CX Pr w) k f fd [x] (spLaw K run) :=
  ⟨fun vs H Q E h => h.1, fun A outer s H args us vs Q E hgd hr e0 hb r h => F.run A outer s H args us vs Q E hgd hr e0 hb r (h.2 fs cs)⟩
/-- a class, as it must be for raise, except and isinstance -/
def clsB (K : PySem.W.Frag) (C : Addr) : Bool := decide (PySem.W.findIn K (.ref C) "__getattribute__" = some (some (.builtin "BaseException.__getattribute__"))) && decide (PySem.W.findIn K (.ref C) "__getattr__" = some none) && decide (PySem.W.subIn K (.ref C) (.type "BaseException") = some true) && PySem.W.hasDictIn K C &&
  decide (PySem.W.findIn K (.ref C) "__class__" = some (some (.builtin "object.__class__"))) && decide (PySem.W.mroIn K C (.type "object") = some true) && decide (PySem.W.typeIn K (.ref C) = some (.type "type")) && PySem.W.keepIn K (.ref C)
def getB (K : PySem.W.Frag) : Bool := decide (PySem.W.specialIn K (.builtin "object.__class__") "__get__" = some (some (.builtin "getset_descriptor.__get__"))) && decide (PySem.W.takesIn K (.builtin "object.__class__") = some true)
def pairB (K : PySem.W.Frag) (cs : List Addr) : Bool := (List.range cs.length).all fun i => (List.range cs.length).all fun j => decide (PySem.W.exmOne K (.ref (cs.getD i 0)) (.ref (cs.getD j 0)) = some (i == j || j == 0)) && decide (PySem.W.kitOne K (.ref (cs.getD i 0)) (.ref (cs.getD j 0)) = some (i == j || j == 0))
def excB (K : PySem.W.Frag) (cs : List Addr) : Bool := (List.range cs.length).all fun i => i == 5 || PySem.W.excIn K (cs.getD i 0) [.type "ValueError", .type "Exception", .type "BaseException", .type "object"] "ValueError.__new__"
def clsAllB (K : PySem.W.Frag) (cs : List Addr) : Bool := decide (cs.length ≤ 6) && cs.all (clsB K) && getB K && pairB K cs && excB K cs
theorem getD_of {cs : List Addr} {i : Nat} {C : Addr} (h : cs[i]? = some C) : cs.getD i 0 = C := by simp [List.getD, h]
structure ClsOk (K : PySem.W.Frag) (cs : List Addr) : Prop where
  hM : ∀ (k : Nat) (C : Addr) (c : Nat) (C' : Addr), cs[k]? = some C → cs[c]? = some C' → PySem.W.exmOne K (.ref C) (.ref C') = some (k == c || c == 0)
  rk : ∀ (c : Nat) (C : Addr), c ≠ 5 → cs[c]? = some C → RaiseK K C
  six : cs.length ≤ 6
  ek : ∀ (c : Nat) (C : Addr), cs[c]? = some C → ExcC K C
  ik : ∀ (j : Nat) (C : Addr) (c : Nat) (C' : Addr), cs[j]? = some C → cs[c]? = some C' → PySem.W.kitOne K (.ref C) (.ref C') = some (j == c || c == 0)
theorem cls_ok {cs : List Addr} (h : clsAllB K cs = true) : ClsOk K cs := by
  simp only [clsAllB, Bool.and_eq_true, decide_eq_true_eq, List.all_eq_true] at h
  obtain ⟨⟨⟨⟨h1, h2⟩, h3⟩, h4⟩, h5⟩ := h
  simp only [getB, Bool.and_eq_true, decide_eq_true_eq] at h3
  have pr : ∀ (i : Nat) (C : Addr) (j : Nat) (C' : Addr), cs[i]? = some C → cs[j]? = some C' → PySem.W.exmOne K (.ref C) (.ref C') = some (i == j || j == 0) ∧ PySem.W.kitOne K (.ref C) (.ref C') = some (i == j || j == 0) := by
    intro i C j C' e1 e2
    have q := List.all_eq_true.mp (List.all_eq_true.mp h4 i (List.mem_range.mpr (lt_of_get e1))) j (List.mem_range.mpr (lt_of_get e2))
    simp only [Bool.and_eq_true, decide_eq_true_eq, getD_of e1, getD_of e2] at q
    exact q
  have one : ∀ (c : Nat) (C : Addr), cs[c]? = some C → clsB K C = true := fun c C e => h2 C (List.mem_of_getElem? e)
  refine ⟨fun k C c C' e1 e2 => (pr k C c C' e1 e2).1, fun c C h5' e => ?_, h1, fun c C e => ?_, fun j C c C' e1 e2 => (pr j C c C' e1 e2).2⟩
  · have q := one c C e
    simp only [clsB, Bool.and_eq_true, decide_eq_true_eq] at q
    obtain ⟨⟨⟨⟨⟨⟨⟨q1, q2⟩, q3⟩, q4⟩, q5⟩, q6⟩, q7⟩, q8⟩ := q
    have x := List.all_eq_true.mp h5 c (List.mem_range.mpr (lt_of_get e))
    simp only [Bool.or_eq_true, beq_iff_eq, getD_of e] at x
    exact ⟨_, _, _, _, PySem.F.excBase_ValueError, x.resolve_left h5', q8, q3, q7⟩
  · have q := one c C e
    simp only [clsB, Bool.and_eq_true, decide_eq_true_eq] at q
    obtain ⟨⟨⟨⟨⟨⟨⟨q1, q2⟩, q3⟩, q4⟩, q5⟩, q6⟩, q7⟩, q8⟩ := q
    exact ⟨q1, q2, q3, q4, q5, h3.1, h3.2, q6⟩
/-! ### lists of facts -/
def AllP {α : Type} (f : α → Prop) : List α → Prop
  | [] => True
  | x :: xs => f x ∧ AllP f xs
theorem AllP.mem {α : Type} {f : α → Prop} : ∀ {l : List α}, AllP f l → ∀ x ∈ l, f x
  | y :: ys, h, x, hx => by
    rcases List.mem_cons.mp hx with rfl | hx
    · exact h.1
    · exact AllP.mem h.2 x hx
theorem AllP.look {f : Str × Gv → Prop} {x : Str} {g : Gv} : ∀ {l : List (Str × Gv)}, AllP f l → l.lookup x = some g → f (x, g)
  | [], _, h => by simp at h
  | (y, k) :: ys, h, e => by
    rw [List.lookup_cons] at e
    split at e
    · rename_i hy
      cases e
      have : x = y := by simpa using hy
      subst this; exact h.1
    · exact AllP.look h.2 e
def All2 {α β : Type} (f : α → β → Prop) : List α → List β → Prop
  | [], [] => True
  | x :: xs, y :: ys => f x y ∧ All2 f xs ys
  | _, _ => False
theorem All2.len {α β : Type} {f : α → β → Prop} : ∀ {l : List α} {m : List β}, All2 f l m → l.length = m.length
  | [], [], _ => rfl
  | _ :: _, _ :: _, h => by simp [All2.len h.2]
  | [], _ :: _, h => h.elim
  | _ :: _, [], h => h.elim
theorem All2.get {α β : Type} {f : α → β → Prop} : ∀ {l : List α} {m : List β} {i : Nat} {x : α} {y : β}, All2 f l m → l[i]? = some x → m[i]? = some y → f x y
  | _ :: _, _ :: _, 0, _, _, h, h1, h2 => by simp at h1 h2; subst h1 h2; exact h.1
  | _ :: _, _ :: _, i + 1, _, _, h, h1, h2 => All2.get (i := i) h.2 (by simpa using h1) (by simpa using h2)
  | [], [], _, _, _, _, h1, _ => by simp at h1
  | [], _ :: _, _, _, _, h, _, _ => h.elim
  | _ :: _, [], _, _, _, h, _, _ => h.elim
def glFact (K : PySem.W.Frag) (mg : Str → Option Value) (fl : List FlRow) (fs cs : List Addr) (p : Str × Gv) : Prop := match p.2 with
  | .fn i => ∃ a, mg p.1 = some (.ref a) ∧ fs[i]? = some a
  | .exc c => ∃ a, mg p.1 = some (.ref a) ∧ cs[c]? = some a
  | .con d => ∃ v u, mg p.1 = some u ∧ RelV v u ∧ ∀ F, Rp (mkP K fs cs) F d v
  | .blt => mg p.1 = none
  | .fl ks => ∃ a r, mg p.1 = some (.ref a) ∧ r ∈ fl ∧ r.cs = ks ∧ ∃ fd, Fun K r.name r.qual r.st a fd ∧ Binds K fd [r.x] []
def g0Fact (mg : Str → Option Value) (cs : List Addr) (p : Str × Gv) : Prop := match p.2 with
  | .exc c => ∃ a, mg p.1 = some (.ref a) ∧ cs[c]? = some a
  | .blt => mg p.1 = none
  | _ => False
theorem wr_mk (hf : All2 (fun (r : Row) a => ∃ fd, Fun K r.name r.qual r.st a fd ∧ Binds K fd r.ps []) rows fs) (hg : AllP (glFact K mg fl fs cs) gl) (h0 : AllP (g0Fact mg cs) g0) (hc : clsAllB K cs = true) : Wr K mg gl g0 rows fl fs cs where
  len := hf.len.symm
  fns := fun i r a h1 h2 => hf.get h1 h2
  gl := fun x g h => by have q := AllP.look hg h; cases g <;> exact q
  g0 := fun x g h => by have q := AllP.look h0 h; cases g <;> exact q
  hM := (cls_ok hc).hM
  rk := (cls_ok hc).rk
  six := (cls_ok hc).six
  ek := (cls_ok hc).ek
  ik := (cls_ok hc).ik
theorem cx_none {Pr : Program} {w : World} {H : Hp} {s s' : Shared} {e : Value} (h : L2.CX Pr w [] H s (fun _ _ _ => False) e s') : False := by
  obtain ⟨_, _, _, _, _, _, _, _, _, _, _, _, z⟩ := h
  exact z.elim
end
end Z

/-! PL0: the evaluator, step by step, as equations to reckon with -/
namespace Z
open PySem
/-- a comprehension's turn -/
def lcT (G : Env) (tg : TG) (ifs : List IE) (e : IE) (d : D) (acc : List D) (s : Sts) : Rs (List D) := match asgD tg d s with
        | some s1 => (evTs G ifs s1).bind fun k s2 => if k = true then (evE G e false s2).bind fun p s3 => (match frz s3 p with
            | some (y, s4) => if acc.length < sizeLine then .ok (acc ++ [y]) s4 else .no
            | none => .no) else .ok acc s2
        | none => .no
section
variable {G : Env} {m : Bool} {s : Sts}
@[simp] theorem xVar (i : Nat) : evE G (.var i) m s = fin m (rd s i) := (rfl)
@[simp] theorem xCon (d : D) : evE G (.con d) m s = fin m (.ok (.fz d) s) := (rfl)
theorem xBin (o : BOp) (a b : IE) : evE G (.bin o a b) m s = fin m ((evE G a false s).bind fun p s1 => (evE G b false s1).bind fun q s2 => match view s2 p, view s2 q with | some x, some y => lift (bop o x y) s2 | _, _ => .no) := (rfl)
@[simp] theorem xNeg (a : IE) : evE G (.neg a) m s = fin m ((evE G a false s).bind fun p s1 => match view s1 p with | some (.int i) => .ok (.fz (.int (-i))) s1 | _ => .no) := (rfl)
@[simp] theorem xNotT (a : IE) : evE G (.not a) true s = (isT (evE G a true s)).bind fun b s1 => .ok (.fz (.bl (!b))) s1 := (rfl)
@[simp] theorem xNotF (a : IE) : evE G (.not a) false s = (truthR (evE G a false s)).bind fun b s1 => .ok (.fz (.bl (!b))) s1 := (rfl)
@[simp] theorem xCmp (o : COp) (a b : IE) : evE G (.cmp o a b) m s = (evE G a false s).bind fun p s1 => (evE G b false s1).bind fun q s2 => match view s2 p, view s2 q with | some x, some y => (lift (cop o x y) s2).bind fun b s3 => .ok (.fz (.bl b)) s3 | _, _ => .no := (rfl)
@[simp] theorem xCmp2 (o o' : COp) (a b c : IE) : evE G (.cmp2 o o' a b c) m s = (evE G a false s).bind fun p s1 => (evE G b false s1).bind fun q s2 => match view s2 p, view s2 q with
    | some x, some y => (lift (cop o x y) s2).bind fun k s3 => if k = true then (evE G c false s3).bind fun r s4 => match view s4 q, view s4 r with
        | some y, some z => (lift (cop o' y z) s4).bind fun b s5 => .ok (.fz (.bl b)) s5
        | _, _ => .no
      else .ok (.fz (.bl false)) s3
    | _, _ => .no := (rfl)
@[simp] theorem xAndF (a b : IE) : evE G (.and a b) false s = (evE G a false s).bind fun p s1 => (match view s1 p with | some d => lift d.truth s1 | none => .no).bind fun k s2 => if k = true then evE G b false s2 else .ok p s2 := (rfl)
@[simp] theorem xAndT (a b : IE) : evE G (.and a b) true s = (isT (evE G a true s)).bind fun k s1 => if k = true then evE G b true s1 else .ok (.fz (.bl false)) s1 := (rfl)
@[simp] theorem xOrF (a b : IE) : evE G (.or a b) false s = (evE G a false s).bind fun p s1 => (match view s1 p with | some d => lift d.truth s1 | none => .no).bind fun k s2 => if k = true then .ok p s2 else evE G b false s2 := (rfl)
@[simp] theorem xOrT (a b : IE) : evE G (.or a b) true s = (isT (evE G a true s)).bind fun k s1 => if k = true then .ok (.fz (.bl true)) s1 else evE G b true s1 := (rfl)
@[simp] theorem xIfe (c a b : IE) : evE G (.ife c a b) false s = (isT (evE G c true s)).bind fun k s1 => if k = true then evE G a false s1 else evE G b false s1 := (rfl)
@[simp] theorem xTup (es : List IE) : evE G (.tup es) m s = fin m ((evL G es s).bind fun ps s1 => match frzL s1 ps with | some (ds, s2) => if ds.length ≤ sizeLine then .ok (.fz (.tup ds)) s2 else .no | none => .no) := (rfl)
@[simp] theorem xLst (es : List IE) : evE G (.lst es) m s = fin m ((evL G es s).bind fun ps s1 => match frzL s1 ps with | some (ds, s2) => if ds.length ≤ sizeLine then .ok (.tmp ds) s2 else .no | none => .no) := (rfl)
@[simp] theorem xShl (es : List IE) : evE G (.shl es) m s = fin m ((evL G es s).bind fun ps s1 => if ps.any isPlc then (match shlL s1 ps with
      | some (els, s2) => if els.length ≤ sizeLine then .ok (.shl els) s2 else .no
      | none => .no)
    else match frzL s1 ps with
    | some (ds, s2) => if ds.length ≤ sizeLine then .ok (.tmp ds) s2 else .no
    | none => .no) := (rfl)
@[simp] theorem xSub (a i : IE) : evE G (.sub a i) m s = fin m ((evE G a false s).bind fun p s1 => (evE G i false s1).bind fun q s2 => match view s2 p, view s2 q with | some x, some y => (lift (subD x y) s2).bind fun d s3 => .ok (.fz d) s3 | _, _ => .no) := (rfl)
@[simp] theorem xSlc (a : IE) (lo hi : Option IE) : evE G (.slc a lo hi) m s = fin m ((evE G a false s).bind fun p s1 => (evO G lo s1).bind fun l s2 => (evO G hi s2).bind fun h s3 => match view s3 p with | some x => lift (slcD l h x) s3 | none => .no) := (rfl)
@[simp] theorem xCall (f : Nat) (es : List IE) : evE G (.call f es) m s = fin m ((evL G es s).bind fun ps s1 => match G f with | some (bs, run) => callR bs run ps s1 | none => .no) := (rfl)
@[simp] theorem xCalld (f : IE) (es : List IE) : evE G (.calld f es) m s = fin m ((evE G f false s).bind fun p s1 => match p with
    | .fz (.fn f) => match G f with
      | some (bs, run) => (evL G es s1).bind fun ps s2 => callR bs run ps s2
      | none => .no
    | _ => .no) := (rfl)
@[simp] theorem xBlt (b : Bl) (es : List IE) : evE G (.blt b es) m s = fin m ((evL G es s).bind fun ps s1 => match views s1 ps with | some ds => lift (blD b ds) s1 | none => .no) := (rfl)
@[simp] theorem xIsi (a : IE) (c : Cls) : evE G (.isi a [c]) m s = fin m ((evE G a false s).bind fun p s1 => match view s1 p with | some d => (lift (isClsOf d c) s1).bind fun b s2 => .ok (.fz (.bl b)) s2 | none => .no) := (rfl)
theorem xMut (k : Mt) (i : Nat) (es : List IE) : evE G (.mut k i es) m s = fin m ((rdL s i).bind fun _ s0 => (evL G es s0).bind fun ps s1 => match frzL s1 ps with
    | some (ds, s2) => match s2[i]? with
      | some (.lst xs) => match mtD k xs ds with
        | some (d, ys) => .ok (.fz d) (s2.set i (.lst ys))
        | none => .no
      | some (.io xs) => match mtD k xs ds with
        | some (d, ys) => .ok (.fz d) (s2.set i (.io ys))
        | none => .no
      | _ => .no
    | none => .no) := (rfl)
theorem xRng (t : Bool) (a b : IE) : evE G (.rng t a b) m s = fin m ((evE G a false s).bind fun p s1 => (evE G b false s1).bind fun q s2 => match view s2 p, view s2 q with
    | some (.int i), some (.int j) => if -(2 ^ 62) ≤ i ∧ i < 2 ^ 62 ∧ -(2 ^ 62) ≤ j ∧ j < 2 ^ 62 ∧ (j - i).toNat ≤ sizeLine then
        (if t = true then .ok (.fz (.tup (rngD i (j - i).toNat))) s2 else .ok (.tmp (rngD i (j - i).toNat)) s2) else .no
    | _, _ => .no) := (rfl)
@[simp] theorem xLc (own : List Nat) (tg : TG) (it : II) (ifs : List IE) (e : IE) : evE G (.lc own tg it ifs e) m s = fin m ((evI G it s).bind fun x s1 =>
    if canWipe s1 own then (lcL own (lcT G tg ifs e) x.1 [] (lockL s1 x.2)).bind fun acc s2 => .ok (.tmp acc) (unlockL s1 (backS (lockL s1 x.2) s2 own) x.2) else .no) := (rfl)
@[simp] theorem xLnil : evL G [] s = .ok [] s := (rfl)
@[simp] theorem xLcons (e : IE) (es : List IE) : evL G (e :: es) s = (evE G e false s).bind fun p s1 => (evL G es s1).bind fun ps s2 => .ok (p :: ps) s2 := (rfl)
@[simp] theorem xTsnil : evTs G [] s = .ok true s := (rfl)
@[simp] theorem xTscons (c : IE) (cs : List IE) : evTs G (c :: cs) s = (isT (evE G c true s)).bind fun k s1 => if k = true then evTs G cs s1 else .ok false s1 := (rfl)
@[simp] theorem xOn : evO G none s = .ok none s := (rfl)
@[simp] theorem xOs (e : IE) : evO G (some e) s = (evE G e false s).bind fun p s1 => match view s1 p with | some (.int i) => .ok (some i) s1 | _ => .no := (rfl)
@[simp] theorem xIseq (e : IE) : evI G (.seq e) s = (evE G e false s).bind fun p s1 => match view s1 p with | some d => (lift (itemsD d) s1).bind fun ds s2 => .ok (ds, [p]) s2 | none => .no := (rfl)
@[simp] theorem xIenum (e : IE) : evI G (.enum e) s = (evE G e false s).bind fun p s1 => match view s1 p with | some d => (lift (itemsD d) s1).bind fun ds s2 => .ok (enumD ds, [p]) s2 | none => .no := (rfl)
@[simp] theorem xIrev (e : IE) : evI G (.rev e) s = (evE G e false s).bind fun p s1 => match view s1 p with | some d => (lift (itemsD d) s1).bind fun ds s2 => .ok (ds.reverse, [p]) s2 | none => .no := (rfl)
theorem xIrng (a b : IE) : evI G (.rng a b) s = (evE G a false s).bind fun p s1 => (evE G b false s1).bind fun q s2 => match view s2 p, view s2 q with
    | some (.int i), some (.int j) => if -(2 ^ 62) ≤ i ∧ i < 2 ^ 62 ∧ -(2 ^ 62) ≤ j ∧ j < 2 ^ 62 then .ok (rngD i (j - i).toNat, []) s2 else .no
    | _, _ => .no := (rfl)
/-! statements -/
variable {n : Nat}
@[simp] theorem yAsg (t : TG) (e : IE) : evS n G (.asg t e) s = (evE G e false s).out fun p s1 => match asgP t p s1 with | some s2 => .nx s2 | none => .no := (rfl)
@[simp] theorem yExpr (e : IE) : evS n G (.expr e) s = (evE G e false s).out fun _ s1 => .nx s1 := (rfl)
@[simp] theorem yRet (e : IE) : evS n G (.ret e) s = (evE G e false s).out fun p s1 => .rt p s1 := (rfl)
@[simp] theorem yIf (c : IE) (a b : List IS) : evS n G (.ife c a b) s = (isT (evE G c true s)).out fun k s1 => if k = true then evB n G a s1 else evB n G b s1 := (rfl)
@[simp] theorem yFor (t : TG) (it : II) (b : List IS) : evS n G (.for_ t it b) s = (evI G it s).out fun x s1 => unlockO s1 x.2 (forL (asgD t) (evB n G b) x.1 (lockL s1 x.2)) := (rfl)
@[simp] theorem yAsubs (one : Bool) (is : List Nat) (ks : List IE) (e : IE) : evS n G (.asubs one is ks e) s = (evE G e false s).out fun p s1 => match frz s1 p with
    | some (d, s2) => if one = true then (stC G is ks [d] s2).out fun _ s3 => .nx s3 else match d with
      | .tup ds => if ds.length = is.length then (stC G is ks ds s2).out fun _ s3 => .nx s3 else .no
      | _ => .no
    | none => .no := (rfl)
@[simp] theorem yAugs (i : Nat) (k : IE) (o : BOp) (e : IE) : evS n G (.augs i k o e) s = (stI (evE G k false) i s).out fun j s1 => match gtP i j s1 with
    | some (.int x) => (evE G e false s1).out fun p s2 => match view s2 p with
      | some (.int y) => match augD o x y with
        | some z => match stP i j (.int z) s2 with
          | some s3 => .nx s3
          | none => .no
        | none => .no
      | _ => .no
    | _ => .no := (rfl)
@[simp] theorem yPar (i j : Nat) (a b : IE) : evS n G (.par i j a b) s = (evE G a false s).out fun p s1 => (evE G b false s1).out fun q s2 => match p, q with
    | .fz d, .fz d' => if free s2 i = true ∧ free s2 j = true then .nx ((s2.set i (.fz d)).set j (.fz d')) else .no
    | .tmp ds, .fz d' => if free s2 i = true ∧ free s2 j = true then .nx ((s2.set i (.lst ds)).set j (.fz d')) else .no
    | .fz d, .tmp ds' => if free s2 i = true ∧ free s2 j = true then .nx ((s2.set i (.fz d)).set j (.lst ds')) else .no
    | .tmp ds, .tmp ds' => if free s2 i = true ∧ free s2 j = true then .nx ((s2.set i (.lst ds)).set j (.lst ds')) else .no
    | _, _ => .no := (rfl)
@[simp] theorem stI_eq (ck : Sts → Rs PV) (i : Nat) : stI ck i s = (rdL s i).bind fun _ s0 => (ck s0).bind fun q s1 => match view s1 q with
  | some (.int j) => .ok j s1
  | _ => .no := (rfl)
@[simp] theorem stC_nil : stC G [] [] [] s = .ok () s := (rfl)
@[simp] theorem stC_cons (i : Nat) (is : List Nat) (k : IE) (ks : List IE) (d : D) (ds : List D) : stC G (i :: is) (k :: ks) (d :: ds) s = (stI (evE G k false) i s).bind fun j s1 => match stP i j d s1 with
    | some s2 => stC G is ks ds s2
    | none => .no := (rfl)
theorem yWhl (c : IE) (b : List IS) : evS n G (.whl c b) s = whlL (fun s => isT (evE G c true s)) (evB n G b) n s := (rfl)
@[simp] theorem yRaise (c : Nat) : evS n G (.raise c) s = .er (.exc c []) s := (rfl)
theorem yTry (b : List IS) (hs : List IH) : evS n G (.try_ b hs) s = tryC (evB n G b) (evHs n G hs) s := (rfl)
theorem yTryAs (b : List IS) (c i : Nat) (bs : List (List IS)) : evS n G (.tryAs b c i bs) s = tryC (evB n G b) (asC c i (evBs n G bs)) s := (rfl)
theorem yNil : evB n G [] s = .nx s := (rfl)
theorem yCons (x : IS) (xs : List IS) : evB n G (x :: xs) s = match evS n G x s with | .nx s1 => evB n G xs s1 | o => o := (rfl)
@[simp] theorem yPass : evS n G .pass s = .nx s := (rfl)
@[simp] theorem yBrk : evS n G .brk s = .bk s := (rfl)
end
section
variable {α β : Type} {s : Sts}
@[simp] theorem bOk (x : α) (f : α → Sts → Rs β) : (Rs.ok x s).bind f = f x s := (rfl)
@[simp] theorem bNo (f : α → Sts → Rs β) : (Rs.no : Rs α).bind f = .no := (rfl)
@[simp] theorem oNo (f : α → Sts → Out) : (Rs.no : Rs α).out f = .no := (rfl)
@[simp] theorem bEr (x : D) (f : α → Sts → Rs β) : (Rs.er x s).bind f = .er x s := (rfl)
@[simp] theorem oOk (x : α) (f : α → Sts → Out) : (Rs.ok x s).out f = f x s := (rfl)
@[simp] theorem oEr (x : D) (f : α → Sts → Out) : (Rs.er x s : Rs α).out f = .er x s := (rfl)
@[simp] theorem lSome (x : α) : lift (some x) s = .ok x s := (rfl)
@[simp] theorem isTb (b : Bool) : isT (.ok (.fz (.bl b)) s) = .ok b s := (rfl)
@[simp] theorem isTe (x : D) : isT (.er x s) = .er x s := (rfl)
@[simp] theorem finF (r : Rs PV) : fin false r = r := (rfl)
@[simp] theorem finT (r : Rs PV) : fin true r = (truthR r).bind fun b s => .ok (.fz (.bl b)) s := (rfl)
@[simp] theorem tbl (b : Bool) : truthR (.ok (.fz (.bl b)) s) = .ok b s := (rfl)
@[simp] theorem vFz (d : D) : view s (.fz d) = some d := (rfl)
@[simp] theorem vTmp (ds : List D) : view s (.tmp ds) = some (.lst ds) := (rfl)
@[simp] theorem vsNil : views s [] = some [] := (rfl)
@[simp] theorem vsFz (d : D) (ps : List PV) : views s (.fz d :: ps) = (views s ps).map (d :: ·) := by simp only [views, vFz]; cases views s ps <;> rfl
@[simp] theorem vsTmp (d : List D) (ps : List PV) : views s (.tmp d :: ps) = (views s ps).map (.lst d :: ·) := by simp only [views, vTmp]; cases views s ps <;> rfl
@[simp] theorem vsPlc (i : Nat) (ps : List PV) : views s (.plc i :: ps) = (view s (.plc i)).bind fun d => (views s ps).map (d :: ·) := by simp only [views]; cases view s (.plc i) <;> cases views s ps <;> rfl
end
end Z

/-! M0: the evaluator is monotone: a slot that is known less gives no other answer -/
namespace Z
open PySem
/-- a slot that may be stored over -/
def frS : Sl → Bool
  | .non => true
  | .fz _ => true
  | .lst _ => true
  | _ => false
def Le1 (a b : Option Sl) : Prop := a = b ∨ (a = some .non ∧ ∃ y, b = some y ∧ frS y = true)
/-- s is t, but for slots of which s knows nothing -/
def Le (s t : Sts) : Prop := ∀ i : Nat, Le1 (s[i]?) (t[i]?)
theorem Le.rfl {s : Sts} : Le s s := fun _ => .inl (Eq.refl _)
theorem Le.len {s t : Sts} (h : Le s t) : s.length = t.length := by
  apply Nat.le_antisymm
  · rcases Nat.lt_or_ge t.length s.length with q | q
    · rcases h t.length with e | ⟨_, y, e, _⟩
      · rw [List.getElem?_eq_none (Nat.le_refl _), List.getElem?_eq_getElem q] at e; cases e
      · rw [List.getElem?_eq_none (Nat.le_refl _)] at e; cases e
    · exact q
  · rcases Nat.lt_or_ge s.length t.length with q | q
    · rcases h s.length with e | ⟨e, _⟩
      · rw [List.getElem?_eq_none (Nat.le_refl _), List.getElem?_eq_getElem q] at e; cases e
      · rw [List.getElem?_eq_none (Nat.le_refl _)] at e; cases e
    · exact q
theorem Le.trans {s t u : Sts} (h : Le s t) (h2 : Le t u) : Le s u := fun i => by
  rcases h i with e | ⟨e, y, e1, e2⟩
  · rw [e]; exact h2 i
  · rcases h2 i with q | ⟨q, z, q1, q2⟩
    · exact .inr ⟨e, y, q ▸ e1, e2⟩
    · exact .inr ⟨e, z, q1, q2⟩
/-- what is known -/
theorem Le.get {s t : Sts} (h : Le s t) {i : Nat} {x : Sl} (e : s[i]? = some x) (hx : x ≠ .non) : t[i]? = some x := by
  rcases h i with q | ⟨q, _⟩
  · rw [← q]; exact e
  · rw [q] at e; cases e; exact absurd (Eq.refl _) hx
theorem Le.set2 {s t : Sts} (h : Le s t) {i : Nat} {x y : Sl} (hx : Le1 (some x) (some y)) : Le (s.set i x) (t.set i y) := fun j => by
  rw [List.getElem?_set, List.getElem?_set, h.len]
  split
  · split
    · exact hx
    · exact .inl (Eq.refl _)
  · exact h j
theorem Le.set {s t : Sts} (h : Le s t) {i : Nat} {x : Sl} : Le (s.set i x) (t.set i x) := h.set2 (.inl (Eq.refl _))
theorem Le.fr {s t : Sts} (h : Le s t) {i : Nat} (e : free s i = true) : free t i = true := by
  unfold free at *
  rcases h i with q | ⟨q, y, q1, q2⟩
  · rw [← q]; exact e
  · rw [q1]; cases y <;> first | rfl | cases q2
def RLe {a : Type} (r r' : Rs a) : Prop := match r with
  | .ok x s => ∃ t, r' = .ok x t ∧ Le s t
  | .er x s => ∃ t, r' = .er x t ∧ Le s t
  | .no => True
def OLe (r r' : Out) : Prop := match r with
  | .nx s => ∃ t, r' = .nx t ∧ Le s t
  | .rt p s => ∃ t, r' = .rt p t ∧ Le s t
  | .bk s => ∃ t, r' = .bk t ∧ Le s t
  | .ct s => ∃ t, r' = .ct t ∧ Le s t
  | .er x s => ∃ t, r' = .er x t ∧ Le s t
  | .no => True
theorem RLe.ok {a : Type} {x : a} {s t : Sts} (h : Le s t) : RLe (.ok x s) (.ok x t) := ⟨t, rfl, h⟩
theorem RLe.er {a : Type} {x : D} {s t : Sts} (h : Le s t) : RLe (.er x s : Rs a) (.er x t) := ⟨t, rfl, h⟩
theorem RLe.no {a : Type} {r : Rs a} : RLe .no r := trivial
theorem RLe.rfl {a : Type} {r : Rs a} : RLe r r := by cases r <;> first | exact ⟨_, Eq.refl _, Le.rfl⟩ | trivial
theorem OLe.rfl {r : Out} : OLe r r := by cases r <;> first | exact ⟨_, Eq.refl _, Le.rfl⟩ | trivial
theorem OLe.trans {a b c : Out} (h : OLe a b) (h2 : OLe b c) : OLe a c := by
  cases a <;> first | trivial | (obtain ⟨t, rfl, h1⟩ := h; obtain ⟨u, rfl, h3⟩ := h2; exact ⟨u, Eq.refl _, h1.trans h3⟩)
theorem RLe.bind {a b : Type} {r r' : Rs a} {f f' : a → Sts → Rs b} (h : RLe r r') (hf : ∀ x s t, Le s t → RLe (f x s) (f' x t)) : RLe (r.bind f) (r'.bind f') := by
  cases r with
  | ok x s => obtain ⟨t, rfl, h⟩ := h; exact hf x s t h
  | er x s => obtain ⟨t, rfl, h⟩ := h; exact .er h
  | no => trivial
theorem RLe.out {a : Type} {r r' : Rs a} {f f' : a → Sts → Out} (h : RLe r r') (hf : ∀ x s t, Le s t → OLe (f x s) (f' x t)) : OLe (r.out f) (r'.out f') := by
  cases r with
  | ok x s => obtain ⟨t, rfl, h⟩ := h; exact hf x s t h
  | er x s => obtain ⟨t, rfl, h⟩ := h; exact ⟨t, Eq.refl _, h⟩
  | no => trivial
section
variable {s t : Sts}
theorem lift_le {a : Type} {o : Option a} (h : Le s t) : RLe (lift o s) (lift o t) := by cases o <;> first | trivial | exact .ok h
theorem rd_le {i : Nat} (h : Le s t) : RLe (rd s i) (rd t i) := by
  unfold rd
  cases e : s[i]? with
  | none => trivial
  | some x => cases x <;> first | trivial | (rw [h.get e (by simp)]; exact .ok h)
theorem rdL_le {i : Nat} (h : Le s t) : RLe (rdL s i) (rdL t i) := by
  unfold rdL
  cases e : s[i]? with
  | none => trivial
  | some x => cases x <;> first | trivial | (rw [h.get e (by simp)]; exact .ok h)
theorem view_le {p : PV} {d : D} (h : Le s t) (e : view s p = some d) : view t p = some d := by
  cases p with
  | plc i =>
    simp only [view] at e ⊢
    cases q : s[i]? with
    | none => rw [q] at e; cases e
    | some x => rw [q] at e; cases x <;> first | cases e; done | (rw [h.get q (by simp)]; exact e)
  | _ => exact e
theorem viewEl_le (h : Le s t) : ∀ {es : List El} {ds : List D}, viewEl s es = some ds → viewEl t es = some ds
  | [], _, e => e
  | .d x :: es, ds, e => by
    simp only [viewEl, Option.map_eq_some_iff] at e ⊢
    obtain ⟨a, e1, e2⟩ := e
    exact ⟨a, viewEl_le h e1, e2⟩
  | .at i :: es, ds, e => by
    simp only [viewEl] at e ⊢
    cases q : view s (.plc i) with
    | none => rw [q] at e; cases e
    | some d =>
      cases q2 : viewEl s es with
      | none => rw [q, q2] at e; cases e
      | some es' => rw [q, q2] at e; rw [view_le h q, viewEl_le h q2]; exact e
theorem viewC_le {p : PV} {d : D} (h : Le s t) (e : viewC s p = some d) : viewC t p = some d := by
  cases p with
  | shl els =>
    simp only [viewC, Option.map_eq_some_iff] at e ⊢
    obtain ⟨a, e1, e2⟩ := e
    exact ⟨a, viewEl_le h e1, e2⟩
  | fz d => exact view_le (p := .fz d) h e
  | tmp d => exact view_le (p := .tmp d) h e
  | plc i => exact view_le (p := .plc i) h e
theorem views_le (h : Le s t) : ∀ {ps : List PV} {ds : List D}, views s ps = some ds → views t ps = some ds
  | [], _, e => e
  | p :: ps, ds, e => by
    simp only [views] at e ⊢
    cases q : view s p with
    | none => rw [q] at e; cases e
    | some d =>
      cases q2 : views s ps with
      | none => rw [q, q2] at e; cases e
      | some es' => rw [q, q2] at e; rw [view_le h q, views_le h q2]; exact e
def PLe {a : Type} (o o' : Option (a × Sts)) : Prop := match o with
  | some (x, s) => ∃ t, o' = some (x, t) ∧ Le s t
  | none => True
def SLe (o o' : Option Sts) : Prop := match o with
  | some s => ∃ t, o' = some t ∧ Le s t
  | none => True
theorem frz0_le {p : PV} (h : Le s t) : PLe (frz0 s p) (frz0 t p) := by
  cases p with
  | plc i =>
    simp only [frz0]
    cases q : s[i]? with
    | none => trivial
    | some x => cases x <;> first | trivial | (rw [h.get q (by simp)]; first | exact ⟨_, rfl, h.set⟩ | exact ⟨_, rfl, h⟩)
  | shl _ => trivial
  | _ => exact ⟨_, rfl, h⟩
theorem frzE_le : ∀ {es : List El} {s t : Sts}, Le s t → PLe (frzE s es) (frzE t es)
  | [], s, t, h => ⟨_, rfl, h⟩
  | .d x :: es, s, t, h => by
    simp only [frzE]
    have q := frzE_le (es := es) h
    cases e : frzE s es with
    | none => trivial
    | some w => rw [e] at q; obtain ⟨u, e2, h2⟩ := q; rw [e2]; exact ⟨u, rfl, h2⟩
  | .at i :: es, s, t, h => by
    simp only [frzE]
    have q := frz0_le (p := .plc i) h
    cases e : frz0 s (.plc i) with
    | none => trivial
    | some w =>
      rw [e] at q; obtain ⟨u, e2, h2⟩ := q; rw [e2]
      have q := frzE_le (es := es) h2
      dsimp only
      cases e : frzE w.2 es with
      | none => trivial
      | some w => rw [e] at q; obtain ⟨u, e2, h2⟩ := q; rw [e2]; exact ⟨u, rfl, h2⟩
theorem frz_le {p : PV} (h : Le s t) : PLe (frz s p) (frz t p) := by
  cases p with
  | shl els =>
    simp only [frz]
    have q := frzE_le (es := els) h
    cases e : frzE s els with
    | none => trivial
    | some w => rw [e] at q; obtain ⟨u, e2, h2⟩ := q; rw [e2]; exact ⟨u, rfl, h2⟩
  | fz d => exact frz0_le (p := .fz d) h
  | tmp d => exact frz0_le (p := .tmp d) h
  | plc i => exact frz0_le (p := .plc i) h
theorem frzL_le : ∀ {ps : List PV} {s t : Sts}, Le s t → PLe (frzL s ps) (frzL t ps)
  | [], s, t, h => ⟨_, rfl, h⟩
  | p :: ps, s, t, h => by
    simp only [frzL]
    have q := frz_le (p := p) h
    cases e : frz s p with
    | none => trivial
    | some w =>
      rw [e] at q; obtain ⟨u, e2, h2⟩ := q; rw [e2]
      have q := frzL_le (ps := ps) h2
      dsimp only
      cases e : frzL w.2 ps with
      | none => trivial
      | some w => rw [e] at q; obtain ⟨u, e2, h2⟩ := q; rw [e2]; exact ⟨u, rfl, h2⟩
theorem shlL_le : ∀ {ps : List PV} {s t : Sts}, Le s t → PLe (shlL s ps) (shlL t ps)
  | [], s, t, h => ⟨_, rfl, h⟩
  | .plc i :: ps, s, t, h => by
    simp only [shlL]
    have q := shlL_le (ps := ps) h
    cases e : shlL s ps with
    | none => trivial
    | some w => rw [e] at q; obtain ⟨u, e2, h2⟩ := q; rw [e2]; exact ⟨u, rfl, h2⟩
  | .fz d :: ps, s, t, h => by
    simp only [shlL]
    have q := frz_le (p := .fz d) h
    cases e : frz s (.fz d) with
    | none => trivial
    | some w =>
      rw [e] at q; obtain ⟨u, e2, h2⟩ := q; rw [e2]
      have q := shlL_le (ps := ps) h2
      dsimp only
      cases e : shlL w.2 ps with
      | none => trivial
      | some w => rw [e] at q; obtain ⟨u, e2, h2⟩ := q; rw [e2]; exact ⟨u, rfl, h2⟩
  | .tmp d :: ps, s, t, h => by
    simp only [shlL]
    have q := frz_le (p := .tmp d) h
    cases e : frz s (.tmp d) with
    | none => trivial
    | some w =>
      rw [e] at q; obtain ⟨u, e2, h2⟩ := q; rw [e2]
      have q := shlL_le (ps := ps) h2
      dsimp only
      cases e : shlL w.2 ps with
      | none => trivial
      | some w => rw [e] at q; obtain ⟨u, e2, h2⟩ := q; rw [e2]; exact ⟨u, rfl, h2⟩
  | .shl d :: ps, s, t, h => by
    simp only [shlL]
    have q := frz_le (p := .shl d) h
    cases e : frz s (.shl d) with
    | none => trivial
    | some w =>
      rw [e] at q; obtain ⟨u, e2, h2⟩ := q; rw [e2]
      have q := shlL_le (ps := ps) h2
      dsimp only
      cases e : shlL w.2 ps with
      | none => trivial
      | some w => rw [e] at q; obtain ⟨u, e2, h2⟩ := q; rw [e2]; exact ⟨u, rfl, h2⟩
mutual
theorem asgD_le : ∀ (g : TG) {d : D} {s t : Sts}, Le s t → SLe (asgD g d s) (asgD g d t)
  | .var i, d, s, t, h => by
    simp only [asgD]
    by_cases e : free s i = true
    · rw [if_pos e, if_pos (h.fr e)]; exact ⟨_, rfl, h.set⟩
    · rw [if_neg e]; trivial
  | .tup ts, d, s, t, h => by
    cases d with
    | tup ds =>
      simp only [asgD]
      by_cases e : ts.length = ds.length
      · rw [if_pos e, if_pos e]; exact asgL_le ts h
      · rw [if_neg e]; trivial
    | lst ds =>
      simp only [asgD]
      by_cases e : ts.length = ds.length
      · rw [if_pos e, if_pos e]; exact asgL_le ts h
      · rw [if_neg e]; trivial
    | _ => trivial
theorem asgL_le : ∀ (gs : List TG) {ds : List D} {s t : Sts}, Le s t → SLe (asgL gs ds s) (asgL gs ds t)
  | [], ds, s, t, h => by simp only [asgL]; exact ⟨_, rfl, h⟩
  | g :: gs, [], s, t, h => by simp only [asgL]; exact ⟨_, rfl, h⟩
  | g :: gs, d :: ds, s, t, h => by
    simp only [asgL]
    have q := asgD_le g (d := d) h
    cases e : asgD g d s with
    | none => trivial
    | some w => rw [e] at q; obtain ⟨u, e2, h2⟩ := q; rw [e2]; exact asgL_le gs h2
end
theorem asgF_le {g : TG} {p : PV} (h : Le s t) : SLe (match frz s p with | some (d, s1) => asgD g d s1 | none => none) (match frz t p with | some (d, s1) => asgD g d s1 | none => none) := by
  have q := frz_le (p := p) h
  cases e : frz s p with
  | none => trivial
  | some w => rw [e] at q; obtain ⟨u, e2, h2⟩ := q; rw [e2]; exact asgD_le g h2
theorem asgP_le {g : TG} {p : PV} (h : Le s t) : SLe (asgP g p s) (asgP g p t) := by
  cases g with
  | var i =>
    cases p with
    | tmp ds =>
      simp only [asgP]
      by_cases e : free s i = true
      · rw [if_pos e, if_pos (h.fr e)]; exact ⟨_, rfl, h.set⟩
      · rw [if_neg e]; trivial
    | fz d => exact asgF_le (g := .var i) (p := .fz d) h
    | plc j => exact asgF_le (g := .var i) (p := .plc j) h
    | shl d => exact asgF_le (g := .var i) (p := .shl d) h
  | tup ts => exact asgF_le (g := .tup ts) h
theorem lock_le {p : PV} (h : Le s t) (hp : (view s p).isSome = true) : Le (lock s p) (lock t p) := by
  cases p with
  | plc i =>
    simp only [lock]
    cases q : s[i]? with
    | none => simp [view, q] at hp
    | some x => cases x <;> first | (simp [view, q] at hp; done) | (rw [h.get q (by simp)]; first | exact h.set | exact h)
  | _ => exact h
theorem unlock_le {s0 t0 : Sts} {p : PV} (h0 : Le s0 t0) (h : Le s t) (hp : (view s0 p).isSome = true) : Le (unlock s0 s p) (unlock t0 t p) := by
  cases p with
  | plc i =>
    simp only [unlock]
    cases q : s0[i]? with
    | none => simp [view, q] at hp
    | some x =>
      cases x with
      | non => simp [view, q] at hp
      | fz d => rw [h0.get q (by simp)]; exact h
      | brw d => rw [h0.get q (by simp)]; exact h
      | lst d =>
        rw [h0.get q (by simp)]
        rcases h i with e | ⟨e, y, e1, e2⟩
        · rw [← e]
          cases e3 : s[i]? with
          | none => exact h
          | some x => cases x <;> first | exact h | exact h.set
        · rw [e, e1]
          cases y <;> first | exact h | cases e2
      | io d =>
        rw [h0.get q (by simp)]
        rcases h i with e | ⟨e, y, e1, e2⟩
        · rw [← e]
          cases e3 : s[i]? with
          | none => exact h
          | some x => cases x <;> first | exact h | exact h.set
        · rw [e, e1]
          cases y <;> first | exact h | cases e2
  | _ => exact h
theorem view_lock {p q : PV} (h : (view s q).isSome = true) : (view (lock s p) q).isSome = true := by
  cases p with
  | plc i =>
    cases q with
    | plc j =>
      simp only [lock, view] at *
      by_cases hij : i = j
      · subst hij
        cases e : s[i]? with
        | none => rw [e] at h; cases h
        | some x =>
          have hl : i < s.length := (List.getElem?_eq_some_iff.mp e).1
          rw [e] at h
          cases x <;> first | cases h; done | (simp only [e]; simp [hl]; done) | (simp only [e]; rfl)
      · cases e : s[i]? with
        | none => exact h
        | some x => cases x <;> simp only [] <;> first | exact h | (rw [List.getElem?_set_ne hij]; exact h)
    | _ => exact h
  | _ => exact h
theorem lockL_le : ∀ {ps : List PV} {s t : Sts}, Le s t → (∀ p ∈ ps, (view s p).isSome = true) → Le (lockL s ps) (lockL t ps)
  | [], s, t, h, _ => h
  | p :: ps, s, t, h, hp => lockL_le (ps := ps) (lock_le h (hp p (by simp))) fun q hq => view_lock (hp q (by simp [hq]))
theorem unlockL_le : ∀ {ps : List PV} {s0 t0 s t : Sts}, Le s0 t0 → Le s t → (∀ p ∈ ps, (view s0 p).isSome = true) → Le (unlockL s0 s ps) (unlockL t0 t ps)
  | [], s0, t0, s, t, _, h, _ => h
  | p :: ps, s0, t0, s, t, h0, h, hp => unlock_le h0 (unlockL_le (ps := ps) (lock_le h0 (hp p (by simp))) h fun q hq => view_lock (hp q (by simp [hq]))) (hp p (by simp))
theorem wipeS_le : ∀ {vs : List Nat} {s t : Sts}, Le s t → Le (wipeS s vs) (wipeS t vs)
  | [], s, t, h => h
  | v :: vs, s, t, h => (wipeS_le (vs := vs) h).set
theorem backS_le {s0 t0 : Sts} (h0 : Le s0 t0) (h : Le s t) : ∀ {vs : List Nat}, Le (backS s0 s vs) (backS t0 t vs)
  | [] => h
  | v :: vs => (backS_le h0 h (vs := vs)).set2 (by
      rcases h0 v with e | ⟨e, y, e1, e2⟩
      · rw [List.getD_eq_getElem?_getD, List.getD_eq_getElem?_getD, e]; exact .inl rfl
      · rw [List.getD_eq_getElem?_getD, List.getD_eq_getElem?_getD, e, e1]; exact .inr ⟨rfl, y, rfl, e2⟩)
theorem canWipe_le (h : Le s t) {vs : List Nat} (e : canWipe s vs = true) : canWipe t vs = true := by
  simp only [canWipe, List.all_eq_true] at *
  intro v hv
  have q := e v hv
  rcases h v with e1 | ⟨e1, y, e2, e3⟩
  · rw [← e1]; exact q
  · rw [e2]; cases y <;> first | rfl | cases e3
theorem argS_le (h : Le s t) : ∀ {ps : List PV} {bs : List Bool} {as : List Sl}, argS s ps bs = some as → argS t ps bs = some as
  | [], [], as, e => e
  | [], _ :: _, as, e => by simp [argS] at e
  | _ :: _, [], as, e => by simp [argS] at e
  | p :: ps, true :: bs, as, e => by
    cases p with
    | plc i =>
      simp only [argS] at e ⊢
      cases q : s[i]? with
      | none => rw [q] at e; cases e
      | some x =>
        rw [q] at e
        cases x <;> first | cases e; done | (
          rw [h.get q (by simp)]
          simp only [Option.map_eq_some_iff] at e ⊢
          obtain ⟨a, e1, e2⟩ := e
          exact ⟨a, argS_le h e1, e2⟩)
    | _ => simp [argS] at e
  | p :: ps, false :: bs, as, e => by
    simp only [argS] at e ⊢
    cases q : viewC s p with
    | none => rw [q] at e; cases e
    | some d =>
      rw [q] at e; rw [viewC_le h q]
      simp only [Option.map_eq_some_iff] at e ⊢
      obtain ⟨a, e1, e2⟩ := e
      exact ⟨a, argS_le h e1, e2⟩
theorem backIo_le : ∀ {ps : List PV} {bs : List Bool} {os : List Sl} {s t : Sts}, Le s t → Le (backIo s ps bs os) (backIo t ps bs os)
  | [], bs, os, s, t, h => by simpa [backIo] using h
  | p :: ps, [], os, s, t, h => by simpa [backIo] using h
  | p :: ps, true :: bs, [], s, t, h => by simpa [backIo] using h
  | p :: ps, false :: bs, [], s, t, h => by simpa [backIo] using h
  | p :: ps, false :: bs, o :: os, s, t, h => by
    have := backIo_le (ps := ps) (bs := bs) (os := os) h
    cases p <;> simpa [backIo] using this
  | p :: ps, true :: bs, o :: os, s, t, h => by
    have := backIo_le (ps := ps) (bs := bs) (os := os) h
    cases p with
    | plc i =>
      cases o with
      | io ds =>
        simp only [backIo]
        apply backIo_le (ps := ps)
        rcases h i with e1 | ⟨e1, y, e2, e3⟩
        · rw [e1]; exact h.set
        · rw [e1, e2]; cases y <;> first | exact h.set | cases e3
      | _ => simpa [backIo] using this
    | _ => cases o <;> simpa [backIo] using this
theorem frzIx_le : ∀ {is : List Nat} {s t : Sts}, Le s t → SLe (frzIx s is) (frzIx t is)
  | [], s, t, h => ⟨_, rfl, h⟩
  | i :: is, s, t, h => by
    simp only [frzIx]
    cases q : s[i]? with
    | none => trivial
    | some x => cases x <;> first | trivial | (rw [h.get q (by simp)]; first | exact frzIx_le h.set | exact frzIx_le h)
theorem backC_le {fl : Bool} {ps : List PV} {bs : List Bool} {os : List Sl} (h : Le s t) : SLe (backC fl s ps bs os) (backC fl t ps bs os) := by
  unfold backC
  split
  · exact ⟨_, rfl, backIo_le h⟩
  · exact frzIx_le (backIo_le h)
theorem callR_le {bs : List Bool} {run : List Sl → CR} {ps : List PV} (h : Le s t) : RLe (callR bs run ps s) (callR bs run ps t) := by
  unfold callR
  cases e : argS s ps bs with
  | none => trivial
  | some as =>
    rw [argS_le h e]
    dsimp only
    split
    · split
      · split
        · rename_i p os _ _
          have q := backC_le (fl := flatP p && flatO os) (ps := ps) (bs := bs) (os := os) h
          cases e : backC (flatP p && flatO os) s ps bs os with
          | none => trivial
          | some w => rw [e] at q; obtain ⟨u, e2, h2⟩ := q; rw [e2]; exact .ok h2
        · trivial
      · split
        · rename_i p os _ _
          have q := backC_le (fl := flatO os) (ps := ps) (bs := bs) (os := os) h
          cases e : backC (flatO os) s ps bs os with
          | none => trivial
          | some w => rw [e] at q; obtain ⟨u, e2, h2⟩ := q; rw [e2]; exact .er h2
        · trivial
      · trivial
    · trivial
end
theorem truthR_le {r r' : Rs PV} (h : RLe r r') : RLe (truthR r) (truthR r') := by
  cases r with
  | ok p s =>
    obtain ⟨t, rfl, h⟩ := h
    simp only [truthR]
    cases q : view s p with
    | none => trivial
    | some d => rw [view_le h q]; exact lift_le h
  | er x s => obtain ⟨t, rfl, h⟩ := h; exact .er h
  | no => trivial
theorem fin_le {m : Bool} {r r' : Rs PV} (h : RLe r r') : RLe (fin m r) (fin m r') := by
  cases m with
  | false => exact h
  | true => exact (truthR_le h).bind fun b s t h => .ok h
theorem isT_le {r r' : Rs PV} (h : RLe r r') : RLe (isT r) (isT r') := by
  refine h.bind fun p s t h => ?_
  split
  · exact .ok h
  · trivial
/-- two looks -/
theorem v1_le {a : Type} {s t : Sts} {p : PV} {f : D → Sts → Rs a} (h : Le s t) (hf : ∀ x, RLe (f x s) (f x t)) : RLe (match view s p with | some x => f x s | none => .no) (match view t p with | some x => f x t | none => .no) := by
  cases q : view s p with
  | none => trivial
  | some x => rw [view_le h q]; exact hf x
theorem vs_le {a : Type} {s t : Sts} {p : List PV} {f : List D → Sts → Rs a} (h : Le s t) (hf : ∀ x, RLe (f x s) (f x t)) : RLe (match views s p with | some x => f x s | none => .no) (match views t p with | some x => f x t | none => .no) := by
  cases q : views s p with
  | none => trivial
  | some x => rw [views_le h q]; exact hf x
theorem v2_le {a : Type} {s t : Sts} {p p' : PV} {f : D → D → Sts → Rs a} (h : Le s t) (hf : ∀ x y, RLe (f x y s) (f x y t)) : RLe (match view s p, view s p' with | some x, some y => f x y s | _, _ => .no) (match view t p, view t p' with | some x, some y => f x y t | _, _ => .no) := by
  cases q : view s p with
  | none => trivial
  | some x =>
    cases q2 : view s p' with
    | none => trivial
    | some y => rw [view_le h q, view_le h q2]; exact hf x y
end Z

/-! M1: the evaluator is monotone: expressions and statements -/
namespace Z
open PySem
theorem lcL_le {own : List Nat} {turn turn' : D → List D → Sts → Rs (List D)} (ht : ∀ d acc s t, Le s t → RLe (turn d acc s) (turn' d acc t)) : ∀ (ds acc : List D) {s t : Sts}, Le s t → RLe (lcL own turn ds acc s) (lcL own turn' ds acc t)
  | [], acc, s, t, h => .ok h
  | d :: ds, acc, s, t, h => by
    simp only [lcL]
    have q := ht d acc _ _ (wipeS_le (vs := own) h)
    cases e : turn d acc (wipeS s own) with
    | ok x s1 => rw [e] at q; obtain ⟨t1, e1, h1⟩ := q; rw [e1]; exact lcL_le ht ds x h1
    | er x s1 => trivial
    | no => trivial
/-- what is walked stands somewhere -/
theorem evI_view {G : Env} {it : II} {s s1 : Sts} {x : List D × List PV} (h : evI G it s = .ok x s1) : ∀ p ∈ x.2, (view s1 p).isSome = true := by
  have one : ∀ {r : Rs PV} {f : D → List D}, (r.bind fun p s1 => match view s1 p with | some d => (lift (itemsD d) s1).bind fun ds s2 => .ok (f (.lst ds), [p]) s2 | none => .no) = .ok x s1 → ∀ p ∈ x.2, (view s1 p).isSome = true := by
    intro r f e
    cases r with
    | ok p s2 =>
      simp only [Rs.bind] at e
      cases q : view s2 p with
      | none => rw [q] at e; cases e
      | some d =>
        rw [q] at e
        dsimp only at e
        cases q2 : itemsD d with
        | none => rw [q2] at e; cases e
        | some ds =>
          rw [q2] at e; cases e
          intro p' hp
          rw [List.mem_singleton.mp hp, q]; rfl
    | er x s2 => cases e
    | no => cases e
  cases it with
  | seq e => exact one (f := fun d => match d with | .lst ds => ds | _ => []) h
  | enum e => exact one (f := fun d => match d with | .lst ds => enumD ds | _ => []) h
  | rev e => exact one (f := fun d => match d with | .lst ds => ds.reverse | _ => []) h
  | rng a b =>
    simp only [evI] at h
    cases e1 : evE G a false s with
    | ok p s2 =>
      rw [e1] at h; simp only [Rs.bind] at h
      cases e2 : evE G b false s2 with
      | ok q s3 =>
        rw [e2] at h; dsimp only at h
        split at h
        · split at h
          · cases h; intro p hp; cases hp
          · cases h
        · cases h
      | er x s3 => rw [e2] at h; cases h
      | no => rw [e2] at h; cases h
    | er x s3 => rw [e1] at h; cases h
    | no => rw [e1] at h; cases h
  | rngd a b =>
    simp only [evI] at h
    cases e1 : evE G a false s with
    | ok p s2 =>
      rw [e1] at h; simp only [Rs.bind] at h
      cases e2 : evE G b false s2 with
      | ok q s3 =>
        rw [e2] at h; dsimp only at h
        split at h
        · split at h
          · cases h; intro p hp; cases hp
          · cases h
        · cases h
      | er x s3 => rw [e2] at h; cases h
      | no => rw [e2] at h; cases h
    | er x s3 => rw [e1] at h; cases h
    | no => rw [e1] at h; cases h
  | zip a b =>
    simp only [evI] at h
    cases e1 : evE G a false s with
    | ok p s2 =>
      rw [e1] at h; simp only [Rs.bind] at h
      cases e2 : evE G b false s2 with
      | ok q s3 =>
        rw [e2] at h; dsimp only at h
        split at h
        · rename_i w1 w2
          cases h; intro p' hp
          simp only [List.mem_cons, List.not_mem_nil, or_false] at hp
          rcases hp with rfl | rfl
          · rw [w1]; rfl
          · rw [w2]; rfl
        · rename_i w1 w2
          cases h; intro p' hp
          simp only [List.mem_cons, List.not_mem_nil, or_false] at hp
          rcases hp with rfl | rfl
          · rw [w1]; rfl
          · rw [w2]; rfl
        · cases h
      | er x s3 => rw [e2] at h; cases h
      | no => rw [e2] at h; cases h
    | er x s3 => rw [e1] at h; cases h
    | no => rw [e1] at h; cases h
  | zip3 a b c => cases h
theorem frzR_le {a : Type} {s t : Sts} {p : PV} {f : D → Sts → Rs a} (h : Le s t) (hf : ∀ d s t, Le s t → RLe (f d s) (f d t)) : RLe (match frz s p with | some (d, s2) => f d s2 | none => .no) (match frz t p with | some (d, s2) => f d s2 | none => .no) := by
  have q := frz_le (p := p) h
  cases e : frz s p with
  | none => trivial
  | some w => rw [e] at q; obtain ⟨u, e2, h2⟩ := q; rw [e2]; exact hf _ _ _ h2
theorem frzLR_le {a : Type} {s t : Sts} {p : List PV} {f : List D → Sts → Rs a} (h : Le s t) (hf : ∀ d s t, Le s t → RLe (f d s) (f d t)) : RLe (match frzL s p with | some (d, s2) => f d s2 | none => .no) (match frzL t p with | some (d, s2) => f d s2 | none => .no) := by
  have q := frzL_le (ps := p) h
  cases e : frzL s p with
  | none => trivial
  | some w => rw [e] at q; obtain ⟨u, e2, h2⟩ := q; rw [e2]; exact hf _ _ _ h2
theorem shlLR_le {a : Type} {s t : Sts} {p : List PV} {f : List El → Sts → Rs a} (h : Le s t) (hf : ∀ d s t, Le s t → RLe (f d s) (f d t)) : RLe (match shlL s p with | some (d, s2) => f d s2 | none => .no) (match shlL t p with | some (d, s2) => f d s2 | none => .no) := by
  have q := shlL_le (ps := p) h
  cases e : shlL s p with
  | none => trivial
  | some w => rw [e] at q; obtain ⟨u, e2, h2⟩ := q; rw [e2]; exact hf _ _ _ h2
theorem ite_le {a : Type} {c : Prop} [Decidable c] {r r' q q' : Rs a} (h : RLe r r') (h2 : RLe q q') : RLe (if c then r else q) (if c then r' else q') := by
  split
  · exact h
  · exact h2
theorem callM_le {s t : Sts} {ps : List PV} (h : Le s t) (o : Option (List Bool × (List Sl → CR))) : RLe (match o with | some (bs, run) => callR bs run ps s | none => .no) (match o with | some (bs, run) => callR bs run ps t | none => .no) := by
  cases o with
  | none => trivial
  | some w => exact callR_le h
mutual
theorem evE_le (G : Env) : ∀ (e : IE) (m : Bool) {s t : Sts}, Le s t → RLe (evE G e m s) (evE G e m t)
  | .var i, m, s, t, h => by rw [xVar, xVar]; exact fin_le (rd_le h)
  | .con d, m, s, t, h => by rw [xCon, xCon]; exact fin_le (.ok h)
  | .bin o a b, m, s, t, h => by rw [xBin, xBin]; exact fin_le ((evE_le G a false h).bind fun p s t h => (evE_le G b false h).bind fun q s t h => v2_le h fun x y => lift_le h)
  | .neg a, m, s, t, h => by
    rw [xNeg, xNeg]
    refine fin_le ((evE_le G a false h).bind fun p s t h => ?_)
    cases q : view s p with
    | none => trivial
    | some x => rw [view_le h q]; cases x <;> first | trivial | exact .ok h
  | .not a, true, s, t, h => by rw [xNotT, xNotT]; exact (isT_le (evE_le G a true h)).bind fun b s t h => .ok h
  | .not a, false, s, t, h => by rw [xNotF, xNotF]; exact (truthR_le (evE_le G a false h)).bind fun b s t h => .ok h
  | .cmp o a b, m, s, t, h => by rw [xCmp, xCmp]; exact (evE_le G a false h).bind fun p s t h => (evE_le G b false h).bind fun q s t h => v2_le (f := fun x y s2 => (lift (cop o x y) s2).bind fun b s3 => .ok (PV.fz (.bl b)) s3) h fun x y => (lift_le h).bind fun b s t h => .ok h
  | .cmp2 o o' a b c, m, s, t, h => by
    rw [xCmp2, xCmp2]
    refine (evE_le G a false h).bind fun p s t h => (evE_le G b false h).bind fun q s t h => v2_le (f := fun x y s2 => (lift (cop o x y) s2).bind fun k s3 => if k = true then (evE G c false s3).bind fun r s4 => match view s4 q, view s4 r with
        | some y, some z => (lift (cop o' y z) s4).bind fun b s5 => .ok (PV.fz (.bl b)) s5
        | _, _ => .no
      else .ok (PV.fz (.bl false)) s3) h fun x y => (lift_le h).bind fun k s t h => ite_le ?_ (.ok h)
    exact (evE_le G c false h).bind fun r s t h => v2_le (f := fun x y s2 => (lift (cop o' x y) s2).bind fun b s3 => .ok (PV.fz (.bl b)) s3) h fun x y => (lift_le h).bind fun b s t h => .ok h
  | .and a b, false, s, t, h => by rw [xAndF, xAndF]; exact (evE_le G a false h).bind fun p s t h => (v1_le (f := fun d s => lift d.truth s) h fun d => lift_le h).bind fun k s t h => ite_le (evE_le G b false h) (.ok h)
  | .and a b, true, s, t, h => by rw [xAndT, xAndT]; exact (isT_le (evE_le G a true h)).bind fun k s t h => ite_le (evE_le G b true h) (.ok h)
  | .or a b, false, s, t, h => by rw [xOrF, xOrF]; exact (evE_le G a false h).bind fun p s t h => (v1_le (f := fun d s => lift d.truth s) h fun d => lift_le h).bind fun k s t h => ite_le (.ok h) (evE_le G b false h)
  | .or a b, true, s, t, h => by rw [xOrT, xOrT]; exact (isT_le (evE_le G a true h)).bind fun k s t h => ite_le (.ok h) (evE_le G b true h)
  | .ife c a b, false, s, t, h => by rw [xIfe, xIfe]; exact (isT_le (evE_le G c true h)).bind fun k s t h => ite_le (evE_le G a false h) (evE_le G b false h)
  | .ife _ _ _, true, s, t, h => trivial
  | .tup es, m, s, t, h => by rw [xTup, xTup]; exact fin_le ((evL_le G es h).bind fun ps s t h => frzLR_le (f := fun ds s2 => if ds.length ≤ sizeLine then .ok (PV.fz (.tup ds)) s2 else .no) h fun d s t h => ite_le (.ok h) .no)
  | .lst es, m, s, t, h => by rw [xLst, xLst]; exact fin_le ((evL_le G es h).bind fun ps s t h => frzLR_le (f := fun ds s2 => if ds.length ≤ sizeLine then .ok (PV.tmp ds) s2 else .no) h fun d s t h => ite_le (.ok h) .no)
  | .shl es, m, s, t, h => by rw [xShl, xShl]; exact fin_le ((evL_le G es h).bind fun ps s t h => ite_le (shlLR_le (f := fun els s2 => if els.length ≤ sizeLine then .ok (PV.shl els) s2 else .no) h fun d s t h => ite_le (.ok h) .no) (frzLR_le (f := fun ds s2 => if ds.length ≤ sizeLine then .ok (PV.tmp ds) s2 else .no) h fun d s t h => ite_le (.ok h) .no))
  | .sub a i, m, s, t, h => by rw [xSub, xSub]; exact fin_le ((evE_le G a false h).bind fun p s t h => (evE_le G i false h).bind fun q s t h => v2_le (f := fun x y s2 => (lift (subD x y) s2).bind fun d s3 => .ok (PV.fz d) s3) h fun x y => (lift_le h).bind fun b s t h => .ok h)
  | .slc a lo hi, m, s, t, h => by rw [xSlc, xSlc]; exact fin_le ((evE_le G a false h).bind fun p s t h => (evO_le G lo h).bind fun l s t h => (evO_le G hi h).bind fun q s t h => v1_le (f := fun x s3 => lift (slcD l q x) s3) h fun d => lift_le h)
  | .call f es, m, s, t, h => by rw [xCall, xCall]; exact fin_le ((evL_le G es h).bind fun ps s t h => callM_le h (G f))
  | .calld f es, m, s, t, h => by
    rw [xCalld, xCalld]
    refine fin_le ((evE_le G f false h).bind fun p s t h => ?_)
    cases p with
    | fz d =>
      cases d with
      | fn g =>
        dsimp only
        cases G g with
        | none => trivial
        | some w => exact (evL_le G es h).bind fun ps s t h => callR_le h
      | _ => trivial
    | _ => trivial
  | .blt b es, m, s, t, h => by rw [xBlt, xBlt]; exact fin_le ((evL_le G es h).bind fun ps s t h => vs_le (f := fun ds s1 => lift (blD b ds) s1) h fun d => lift_le h)
  | .isi a cs, m, s, t, h => by
    match cs with
    | [c] => rw [xIsi, xIsi]; exact fin_le ((evE_le G a false h).bind fun p s t h => v1_le (f := fun d s1 => (lift (isClsOf d c) s1).bind fun b s2 => .ok (PV.fz (.bl b)) s2) h fun d => (lift_le h).bind fun b s t h => .ok h)
    | [] =>
      refine fin_le ((evE_le G a false h).bind fun p s t h => ?_)
      cases q : view s p <;> trivial
    | _ :: _ :: _ =>
      refine fin_le ((evE_le G a false h).bind fun p s t h => ?_)
      cases q : view s p <;> trivial
  | .mut k i es, m, s, t, h => by
    rw [xMut, xMut]
    refine fin_le ((rdL_le h).bind fun _ s t h => (evL_le G es h).bind fun ps s t h => ?_)
    have q := frzL_le (ps := ps) h
    cases e : frzL s ps with
    | none => trivial
    | some w =>
      rw [e] at q; obtain ⟨u, e2, h2⟩ := q; rw [e2]
      dsimp only
      cases q : w.2[i]? with
      | none => trivial
      | some x =>
        cases x with
        | lst xs =>
          rw [h2.get q (by simp)]
          dsimp only
          cases mtD k xs w.1 with
          | none => trivial
          | some z => exact .ok h2.set
        | io xs =>
          rw [h2.get q (by simp)]
          dsimp only
          cases mtD k xs w.1 with
          | none => trivial
          | some z => exact .ok h2.set
        | _ => trivial
  | .pm k a es, m, s, t, h => by
    refine fin_le ((evE_le G a false h).bind fun p s t h => (evL_le G es h).bind fun ps s t h => ?_)
    cases q : view s p with
    | none => trivial
    | some x =>
      cases q2 : views s ps with
      | none => trivial
      | some y => rw [view_le h q, views_le h q2]; exact lift_le h
  | .rng k a b, m, s, t, h => by
    rw [xRng, xRng]
    refine fin_le ((evE_le G a false h).bind fun p s t h => (evE_le G b false h).bind fun q s t h => ?_)
    cases e : view s p with
    | none => trivial
    | some x =>
      cases e2 : view s q with
      | none => cases x <;> trivial
      | some y =>
        rw [view_le h e, view_le h e2]
        cases x <;> first | trivial | (cases y <;> first | trivial | exact ite_le (ite_le (.ok h) (.ok h)) .no)
  | .lc own tg it ifs e, m, s, t, h => by
    rw [xLc, xLc]
    refine fin_le ?_
    have q := evI_le G it h
    cases e1 : evI G it s with
    | no => trivial
    | er x s1 => rw [e1] at q; obtain ⟨t1, e2, h2⟩ := q; rw [e2]; exact .er h2
    | ok x s1 =>
      have hv := evI_view e1
      rw [e1] at q; obtain ⟨t1, e2, h2⟩ := q; rw [e2]
      simp only [bOk]
      by_cases hc : canWipe s1 own = true
      · rw [if_pos hc, if_pos (canWipe_le h2 hc)]
        have hl := lockL_le (ps := x.2) h2 hv
        refine (lcL_le (fun d acc s t h => ?_) x.1 [] hl).bind fun acc s t h => .ok (unlockL_le h2 (backS_le hl h) hv)
        unfold lcT
        have q := asgD_le tg (d := d) h
        cases e3 : asgD tg d s with
        | none => trivial
        | some s2 =>
          rw [e3] at q; obtain ⟨t2, e4, h4⟩ := q; rw [e4]
          exact (evTs_le G ifs h4).bind fun k s t h => ite_le ((evE_le G e false h).bind fun p s t h => frzR_le (f := fun y s4 => if acc.length < sizeLine then .ok (acc ++ [y]) s4 else .no) h fun d s t h => ite_le (.ok h) .no) (.ok h)
      · rw [if_neg hc]; trivial
  | .lc2 own tg it ifs own1 tg1 it1 ifs1 e, m, s, t, h => trivial
theorem evTs_le (G : Env) : ∀ (es : List IE) {s t : Sts}, Le s t → RLe (evTs G es s) (evTs G es t)
  | [], s, t, h => .ok h
  | c :: cs, s, t, h => by rw [xTscons, xTscons]; exact (isT_le (evE_le G c true h)).bind fun k s t h => ite_le (evTs_le G cs h) (.ok h)
theorem evL_le (G : Env) : ∀ (es : List IE) {s t : Sts}, Le s t → RLe (evL G es s) (evL G es t)
  | [], s, t, h => .ok h
  | c :: cs, s, t, h => by rw [xLcons, xLcons]; exact (evE_le G c false h).bind fun k s t h => (evL_le G cs h).bind fun ps s t h => .ok h
theorem evO_le (G : Env) : ∀ (o : Option IE) {s t : Sts}, Le s t → RLe (evO G o s) (evO G o t)
  | none, s, t, h => .ok h
  | some e, s, t, h => by
    rw [xOs, xOs]
    refine (evE_le G e false h).bind fun p s t h => ?_
    cases q : view s p with
    | none => trivial
    | some x => rw [view_le h q]; cases x <;> first | trivial | exact .ok h
theorem evI_le (G : Env) : ∀ (it : II) {s t : Sts}, Le s t → RLe (evI G it s) (evI G it t)
  | .seq e, s, t, h => by rw [xIseq, xIseq]; exact (evE_le G e false h).bind fun p s t h => v1_le (f := fun d s1 => (lift (itemsD d) s1).bind fun ds s2 => .ok (ds, [p]) s2) h fun d => (lift_le h).bind fun b s t h => .ok h
  | .enum e, s, t, h => by rw [xIenum, xIenum]; exact (evE_le G e false h).bind fun p s t h => v1_le (f := fun d s1 => (lift (itemsD d) s1).bind fun ds s2 => .ok (enumD ds, [p]) s2) h fun d => (lift_le h).bind fun b s t h => .ok h
  | .rev e, s, t, h => by rw [xIrev, xIrev]; exact (evE_le G e false h).bind fun p s t h => v1_le (f := fun d s1 => (lift (itemsD d) s1).bind fun ds s2 => .ok (ds.reverse, [p]) s2) h fun d => (lift_le h).bind fun b s t h => .ok h
  | .rng a b, s, t, h => by
    rw [xIrng, xIrng]
    refine (evE_le G a false h).bind fun p s t h => (evE_le G b false h).bind fun q s t h => ?_
    cases e : view s p with
    | none => trivial
    | some x =>
      cases e2 : view s q with
      | none => cases x <;> trivial
      | some y =>
        rw [view_le h e, view_le h e2]
        cases x <;> first | trivial | (cases y <;> first | trivial | exact ite_le (.ok h) .no)
  | .rngd a b, s, t, h => by
    refine RLe.bind (evE_le G a false h) fun p s t h => (evE_le G b false h).bind fun q s t h => ?_
    cases e : view s p with
    | none => trivial
    | some x =>
      cases e2 : view s q with
      | none => cases x <;> trivial
      | some y =>
        rw [view_le h e, view_le h e2]
        cases x <;> first | trivial | (cases y <;> first | trivial | exact ite_le (.ok h) .no)
  | .zip a b, s, t, h => by
    refine RLe.bind (evE_le G a false h) fun p s t h => (evE_le G b false h).bind fun q s t h => ?_
    cases e : view s p with
    | none => trivial
    | some x =>
      cases e2 : view s q with
      | none => cases x <;> trivial
      | some y =>
        rw [view_le h e, view_le h e2]
        cases x <;> first | trivial | (cases y <;> first | trivial | exact .ok h)
  | .zip3 a b c, s, t, h => trivial
end
/-! statements -/
theorem forL_le {asg : D → Sts → Option Sts} {body : Sts → Out} (ha : ∀ d s t, Le s t → SLe (asg d s) (asg d t)) (hb : ∀ s t, Le s t → OLe (body s) (body t)) : ∀ (ds : List D) {s t : Sts}, Le s t → OLe (forL asg body ds s) (forL asg body ds t)
  | [], s, t, h => ⟨_, rfl, h⟩
  | d :: ds, s, t, h => by
    simp only [forL]
    have q := ha d _ _ h
    cases e : asg d s with
    | none => trivial
    | some s1 =>
      rw [e] at q; obtain ⟨t1, e1, h1⟩ := q; rw [e1]
      dsimp only
      have q := hb _ _ h1
      cases e : body s1 <;> rw [e] at q
      case no => trivial
      all_goals obtain ⟨t2, e2, h2⟩ := q; rw [e2]
      case nx => exact forL_le ha hb ds h2
      case ct => exact forL_le ha hb ds h2
      all_goals exact ⟨_, rfl, h2⟩
theorem whlL_le {c : Sts → Rs Bool} {body : Sts → Out} (ha : ∀ s t, Le s t → RLe (c s) (c t)) (hb : ∀ s t, Le s t → OLe (body s) (body t)) : ∀ (n : Nat) {s t : Sts}, Le s t → OLe (whlL c body n s) (whlL c body n t)
  | 0, s, t, h => trivial
  | n + 1, s, t, h => by
    simp only [whlL]
    have q := ha _ _ h
    cases e : c s with
    | no => trivial
    | er x s1 => rw [e] at q; obtain ⟨t1, e1, h1⟩ := q; rw [e1]; exact ⟨_, rfl, h1⟩
    | ok b s1 =>
      rw [e] at q; obtain ⟨t1, e1, h1⟩ := q; rw [e1]
      cases b with
      | false => exact ⟨_, rfl, h1⟩
      | true =>
        dsimp only
        have q := hb _ _ h1
        cases e : body s1 <;> rw [e] at q
        case no => trivial
        all_goals obtain ⟨t2, e2, h2⟩ := q; rw [e2]
        case nx => exact whlL_le ha hb n h2
        case ct => exact whlL_le ha hb n h2
        all_goals exact ⟨_, rfl, h2⟩
theorem unlockO_le {s0 t0 : Sts} {ps : List PV} {o o' : Out} (h0 : Le s0 t0) (h : OLe o o') (hp : ∀ p ∈ ps, (view s0 p).isSome = true) : OLe (unlockO s0 ps o) (unlockO t0 ps o') := by
  cases o <;> first | trivial | (obtain ⟨t, rfl, h⟩ := h; exact ⟨_, rfl, unlockL_le h0 h hp⟩)
theorem iteO_le {c : Prop} [Decidable c] {r r' q q' : Out} (h : OLe r r') (h2 : OLe q q') : OLe (if c then r else q) (if c then r' else q') := by
  split
  · exact h
  · exact h2
theorem tryC_le {cb cb' : Sts → Out} {hs hs' : D → Sts → Out} {s t : Sts} (hb : OLe (cb s) (cb' t)) (hh : ∀ x s t, Le s t → OLe (hs x s) (hs' x t)) : OLe (tryC cb hs s) (tryC cb' hs' t) := by
  unfold tryC
  cases e : cb s <;> rw [e] at hb
  case no => trivial
  all_goals obtain ⟨t2, e2, h2⟩ := hb; rw [e2]
  case er => exact hh _ _ _ h2
  all_goals exact ⟨_, rfl, h2⟩
theorem noEr_le {o o' : Out} (h : OLe o o') : OLe (noEr o) (noEr o') := by
  cases o <;> first | trivial | (obtain ⟨t, rfl, h⟩ := h; first | exact ⟨_, rfl, h⟩ | trivial)
theorem onRt_le {o o' : Out} (h : OLe o o') : OLe (onRt o) (onRt o') := by
  cases o <;> first | trivial | (obtain ⟨t, rfl, h⟩ := h; first | exact ⟨_, rfl, h⟩ | trivial)
theorem asC_le {c i : Nat} {f f' : Nat → Sts → Out} {x : D} {s t : Sts} (h : Le s t) (hf : ∀ k s t, Le s t → OLe (f k s) (f' k t)) : OLe (asC c i f x s) (asC c i f' x t) := by
  unfold asC
  cases x with
  | exc k v =>
    cases v with
    | nil =>
      dsimp only
      split
      · by_cases e : free s i = true
        · rw [if_pos e, if_pos (h.fr e)]; exact onRt_le (hf _ _ _ h.set)
        · rw [if_neg e]; trivial
      · exact ⟨_, rfl, h⟩
    | cons _ _ => trivial
  | _ => trivial
theorem stP_le {i : Nat} {j : Int} {d : D} {s t : Sts} (h : Le s t) : SLe (stP i j d s) (stP i j d t) := by
  unfold stP
  cases q : s[i]? with
  | none => trivial
  | some x =>
    cases x with
    | lst xs =>
      rw [h.get q (by simp)]
      dsimp only
      cases ixD xs.length j with
      | none => trivial
      | some n => exact ⟨_, rfl, h.set⟩
    | io xs =>
      rw [h.get q (by simp)]
      dsimp only
      cases ixD xs.length j with
      | none => trivial
      | some n => exact ⟨_, rfl, h.set⟩
    | _ => trivial
theorem gtP_le {i : Nat} {j : Int} {d : D} {s t : Sts} (h : Le s t) (e : gtP i j s = some d) : gtP i j t = some d := by
  unfold gtP at *
  cases q : s[i]? with
  | none => rw [q] at e; cases e
  | some x => cases x <;> first | (rw [q] at e; cases e; done) | (rw [h.get q (by simp)]; rw [q] at e; exact e)
theorem stI_le {G : Env} {k : IE} {i : Nat} {s t : Sts} (h : Le s t) : RLe (stI (evE G k false) i s) (stI (evE G k false) i t) := by
  unfold stI
  refine (rdL_le h).bind fun _ s t h => (evE_le G k false h).bind fun q s t h => ?_
  cases e : view s q with
  | none => trivial
  | some x => rw [view_le h e]; cases x <;> first | trivial | exact .ok h
theorem stC_le {G : Env} : ∀ (is : List Nat) (ks : List IE) (ds : List D) {s t : Sts}, Le s t → RLe (stC G is ks ds s) (stC G is ks ds t)
  | [], [], [], s, t, h => .ok h
  | i :: is, k :: ks, d :: ds, s, t, h => by
    rw [stC_cons, stC_cons]
    refine (stI_le h).bind fun j s t h => ?_
    have q := stP_le (i := i) (j := j) (d := d) h
    cases e : stP i j d s with
    | none => trivial
    | some w => rw [e] at q; obtain ⟨u, e2, h2⟩ := q; rw [e2]; exact stC_le is ks ds h2
  | [], [], _ :: _, s, t, h => trivial
  | [], _ :: _, _, s, t, h => by cases ‹List D› <;> trivial
  | _ :: _, [], _, s, t, h => by cases ‹List D› <;> trivial
  | _ :: _, _ :: _, [], s, t, h => trivial
mutual
theorem evS_le (n : Nat) (G : Env) : ∀ (x : IS) {s t : Sts}, Le s t → OLe (evS n G x s) (evS n G x t)
  | .asg g e, s, t, h => by
    rw [yAsg, yAsg]
    refine (evE_le G e false h).out fun p s t h => ?_
    have q := asgP_le (g := g) (p := p) h
    cases e : asgP g p s with
    | none => trivial
    | some w => rw [e] at q; obtain ⟨u, e2, h2⟩ := q; rw [e2]; exact ⟨_, rfl, h2⟩
  | .asub i k e, s, t, h => trivial
  | .asubs one is ks e, s, t, h => by
    rw [yAsubs, yAsubs]
    refine (evE_le G e false h).out fun p s t h => ?_
    have q := frz_le (p := p) h
    cases e1 : frz s p with
    | none => trivial
    | some w =>
      rw [e1] at q; obtain ⟨u, e2, h2⟩ := q; rw [e2]
      dsimp only
      refine iteO_le ((stC_le is ks _ h2).out fun _ s t h => ⟨_, rfl, h⟩) ?_
      cases w.1 with
      | tup ds => exact iteO_le ((stC_le is ks _ h2).out fun _ s t h => ⟨_, rfl, h⟩) trivial
      | _ => trivial
  | .augs i k o e, s, t, h => by
    rw [yAugs, yAugs]
    refine (stI_le h).out fun j s t h => ?_
    cases e1 : gtP i j s with
    | none => trivial
    | some d =>
      rw [gtP_le h e1]
      cases d with
      | int x =>
        dsimp only
        refine (evE_le G e false h).out fun p s t h => ?_
        cases e2 : view s p with
        | none => trivial
        | some y =>
          rw [view_le h e2]
          cases y with
          | int y =>
            dsimp only
            cases augD o x y with
            | none => trivial
            | some z =>
              dsimp only
              have q := stP_le (i := i) (j := j) (d := .int z) h
              cases e : stP i j (.int z) s with
              | none => trivial
              | some w => rw [e] at q; obtain ⟨u, e2, h2⟩ := q; rw [e2]; exact ⟨_, rfl, h2⟩
          | _ => trivial
      | _ => trivial
  | .par i j a b, s, t, h => by
    rw [yPar, yPar]
    refine (evE_le G a false h).out fun p s t h => (evE_le G b false h).out fun q s t h => ?_
    have one : ∀ x y : Sl, OLe (if free s i = true ∧ free s j = true then .nx ((s.set i x).set j y) else .no) (if free t i = true ∧ free t j = true then .nx ((t.set i x).set j y) else .no) := by
      intro x y
      by_cases e : free s i = true ∧ free s j = true
      · rw [if_pos e, if_pos ⟨h.fr e.1, h.fr e.2⟩]; exact ⟨_, rfl, h.set.set⟩
      · rw [if_neg e]; trivial
    cases p <;> cases q <;> first | trivial | exact one _ _
  | .aug i o e, s, t, h => by
    refine RLe.out (rd_le h) fun p s t h => (evE_le G e false h).out fun q s t h => ?_
    cases p with
    | fz d =>
      cases d with
      | int x =>
        cases e2 : view s q with
        | none => trivial
        | some y =>
          rw [view_le h e2]
          cases y with
          | int y =>
            dsimp only
            cases augD o x y with
            | none => trivial
            | some z =>
              dsimp only
              by_cases e : free s i = true
              · rw [if_pos e, if_pos (h.fr e)]; exact ⟨_, rfl, h.set⟩
              · rw [if_neg e]; trivial
          | _ => trivial
      | _ => trivial
    | _ => trivial
  | .expr e, s, t, h => by rw [yExpr, yExpr]; exact (evE_le G e false h).out fun p s t h => ⟨_, rfl, h⟩
  | .ret e, s, t, h => by rw [yRet, yRet]; exact (evE_le G e false h).out fun p s t h => ⟨_, rfl, h⟩
  | .pass, s, t, h => ⟨_, rfl, h⟩
  | .brk, s, t, h => ⟨_, rfl, h⟩
  | .ife c a b, s, t, h => by rw [yIf, yIf]; exact (isT_le (evE_le G c true h)).out fun p s t h => iteO_le (evB_le n G a h) (evB_le n G b h)
  | .for_ g it b, s, t, h => by
    rw [yFor, yFor]
    have q := evI_le G it h
    cases e1 : evI G it s with
    | no => trivial
    | er x s1 => rw [e1] at q; obtain ⟨t1, e2, h2⟩ := q; rw [e2]; exact ⟨_, rfl, h2⟩
    | ok x s1 =>
      have hv := evI_view e1
      rw [e1] at q; obtain ⟨t1, e2, h2⟩ := q; rw [e2]
      simp only [oOk]
      exact unlockO_le h2 (forL_le (asg := asgD g) (body := evB n G b) (fun d s t h => asgD_le g h) (fun s t h => evB_le n G b h) x.1 (lockL_le h2 hv)) hv
  | .whl c b, s, t, h => by rw [yWhl, yWhl]; exact whlL_le (c := fun s => isT (evE G c true s)) (body := evB n G b) (fun s t h => isT_le (evE_le G c true h)) (fun s t h => evB_le n G b h) n h
  | .raise c, s, t, h => ⟨_, rfl, h⟩
  | .stuck, s, t, h => trivial
  | .try_ b hs, s, t, h => by rw [yTry, yTry]; exact tryC_le (evB_le n G b h) fun x s t h => evHs_le n G hs x h
  | .tryAs b c i bs, s, t, h => by rw [yTryAs, yTryAs]; exact tryC_le (evB_le n G b h) fun x s t h => asC_le h fun k s t h => evBs_le n G bs k h
theorem evHs_le (n : Nat) (G : Env) : ∀ (hs : List IH) (x : D) {s t : Sts}, Le s t → OLe (evHs n G hs x s) (evHs n G hs x t)
  | [], x, s, t, h => ⟨_, rfl, h⟩
  | .mk c b :: hs, x, s, t, h => by
    simp only [evHs]
    cases x with
    | exc k v =>
      cases v with
      | nil => exact iteO_le (noEr_le (evB_le n G b h)) (evHs_le n G hs _ h)
      | cons _ _ => trivial
    | _ => trivial
theorem evBs_le (n : Nat) (G : Env) : ∀ (bs : List (List IS)) (k : Nat) {s t : Sts}, Le s t → OLe (evBs n G bs k s) (evBs n G bs k t)
  | [], k, s, t, h => trivial
  | b :: bs, 0, s, t, h => evB_le n G b h
  | b :: bs, k + 1, s, t, h => by simp only [evBs]; exact evBs_le n G bs k h
theorem evB_le (n : Nat) (G : Env) : ∀ (xs : List IS) {s t : Sts}, Le s t → OLe (evB n G xs s) (evB n G xs t)
  | [], s, t, h => ⟨_, rfl, h⟩
  | x :: xs, s, t, h => by
    rw [yCons, yCons]
    have q := evS_le n G x h
    cases e : evS n G x s <;> rw [e] at q
    case no => trivial
    all_goals obtain ⟨t2, e2, h2⟩ := q; rw [e2]
    case nx => exact evB_le n G xs h2
    all_goals exact ⟨_, rfl, h2⟩
end
end Z

/-! M2: reckoning with the evaluator: what a suite comes to, told with slots of which nothing is known -/
namespace Z
open PySem
/-- o comes to something (of which less may be told) that Q takes -/
def Wp (o : Out) (Q : Out → Prop) : Prop := ∃ o2, o2 ≠ .no ∧ OLe o2 o ∧ Q o2
theorem Wp.weak {o : Out} {Q Q' : Out → Prop} (h : Wp o Q) (hq : ∀ o, o ≠ .no → Q o → Q' o) : Wp o Q' := by
  obtain ⟨o2, h1, h2, h3⟩ := h
  exact ⟨o2, h1, h2, hq _ h1 h3⟩
theorem Wp.mono {o o' : Out} {Q : Out → Prop} (h : Wp o Q) (ho : OLe o o') : Wp o' Q := by
  obtain ⟨o2, h1, h2, h3⟩ := h
  exact ⟨o2, h1, h2.trans ho, h3⟩
theorem Wp.nx {s t : Sts} {Q : Out → Prop} (hl : Le s t) (h : Q (.nx s)) : Wp (.nx t) Q := ⟨.nx s, nofun, ⟨t, rfl, hl⟩, h⟩
theorem Wp.ct {s t : Sts} {Q : Out → Prop} (hl : Le s t) (h : Q (.ct s)) : Wp (.ct t) Q := ⟨.ct s, nofun, ⟨t, rfl, hl⟩, h⟩
theorem Wp.bk {s t : Sts} {Q : Out → Prop} (hl : Le s t) (h : Q (.bk s)) : Wp (.bk t) Q := ⟨.bk s, nofun, ⟨t, rfl, hl⟩, h⟩
theorem Wp.it {o : Out} {Q : Out → Prop} (hn : o ≠ .no) (h : Q o) : Wp o Q := ⟨o, hn, OLe.rfl, h⟩
theorem Wp.nx0 {s : Sts} {Q : Out → Prop} (h : Q (.nx s)) : Wp (.nx s) Q := .it nofun h
theorem Wp.rt {p : PV} {s : Sts} {Q : Out → Prop} (h : Q (.rt p s)) : Wp (.rt p s) Q := .it nofun h
theorem Wp.er {p : D} {s : Sts} {Q : Out → Prop} (h : Q (.er p s)) : Wp (.er p s) Q := .it nofun h
theorem Wp.eq {o o' : Out} {Q : Out → Prop} (h : Wp o' Q) (e : o = o') : Wp o Q := e ▸ h
theorem OLe.no_of {o : Out} (h : OLe o .no) : o = .no := by
  cases o <;> first | rfl | (obtain ⟨_, e, _⟩ := h; cases e)
theorem OLe.inv {o o' : Out} (h : OLe o o') (hn : o ≠ .no) : o' ≠ .no := by
  rintro rfl; exact hn h.no_of
/-- what stands behind a statement -/
def sq (n : Nat) (G : Env) (xs : List IS) (Q : Out → Prop) (o : Out) : Prop := match o with
  | .nx s => Wp (evB n G xs s) Q
  | o => Q o
@[simp] theorem wNil {n : Nat} {G : Env} {s : Sts} : evB n G [] s = .nx s := rfl
@[simp] theorem wCons {n : Nat} {G : Env} {x : IS} {xs : List IS} {s : Sts} {Q : Out → Prop} : Wp (evB n G (x :: xs) s) Q ↔ Wp (evS n G x s) (sq n G xs Q) := by
  rw [yCons]
  constructor
  · rintro ⟨o, h1, h2, h3⟩
    cases e : evS n G x s with
    | nx t => rw [e] at h2; exact ⟨.nx t, nofun, OLe.rfl, ⟨o, h1, h2, h3⟩⟩
    | no => rw [e] at h2; exact absurd h2.no_of h1
    | _ =>
      rw [e] at h2
      refine ⟨o, h1, h2, ?_⟩
      cases o <;> first | exact h3 | (obtain ⟨_, q, _⟩ := h2; cases q)
  · rintro ⟨o, h1, h2, h3⟩
    cases o with
    | no => exact absurd rfl h1
    | nx s1 =>
      obtain ⟨t, e, hl⟩ := h2
      rw [e]
      exact Wp.mono h3 (evB_le n G xs hl)
    | _ => obtain ⟨t, e, hl⟩ := h2; rw [e]; exact ⟨_, h1, ⟨t, rfl, hl⟩, h3⟩
@[simp] theorem wSeqN {n : Nat} {G : Env} {xs : List IS} {s : Sts} {Q : Out → Prop} : Wp (.nx s) (sq n G xs Q) ↔ Wp (evB n G xs s) Q := by
  constructor
  · rintro ⟨o, h1, h2, h3⟩
    cases o with
    | nx s1 => obtain ⟨t, e, hl⟩ := h2; cases e; exact Wp.mono h3 (evB_le n G xs hl)
    | no => exact absurd rfl h1
    | _ => obtain ⟨_, q, _⟩ := h2; cases q
  · exact fun h => .nx0 h
@[simp] theorem wSeqR {n : Nat} {G : Env} {xs : List IS} {p : PV} {s : Sts} {Q : Out → Prop} : Wp (.rt p s) (sq n G xs Q) ↔ Wp (.rt p s) Q := by
  constructor <;> rintro ⟨o, h1, h2, h3⟩ <;> refine ⟨o, h1, h2, ?_⟩ <;> cases o <;> first | exact h3 | (obtain ⟨_, q, _⟩ := h2; cases q)
@[simp] theorem wSeqE {n : Nat} {G : Env} {xs : List IS} {p : D} {s : Sts} {Q : Out → Prop} : Wp (.er p s) (sq n G xs Q) ↔ Wp (.er p s) Q := by
  constructor <;> rintro ⟨o, h1, h2, h3⟩ <;> refine ⟨o, h1, h2, ?_⟩ <;> cases o <;> first | exact h3 | (obtain ⟨_, q, _⟩ := h2; cases q)
@[simp] theorem wSeqB {n : Nat} {G : Env} {xs : List IS} {s : Sts} {Q : Out → Prop} : Wp (.bk s) (sq n G xs Q) ↔ Wp (.bk s) Q := by
  constructor <;> rintro ⟨o, h1, h2, h3⟩ <;> refine ⟨o, h1, h2, ?_⟩ <;> cases o <;> first | exact h3 | (obtain ⟨_, q, _⟩ := h2; cases q)
/-! less is told -/
theorem le_nil : Le [] [] := Le.rfl
theorem Le.cons {a b : Sl} {s t : Sts} (h : a = b ∨ (a = .non ∧ frS b = true)) (h2 : Le s t) : Le (a :: s) (b :: t) := fun i => by
  cases i with
  | zero => rcases h with rfl | ⟨rfl, h⟩
            · exact .inl (Eq.refl _)
            · exact .inr ⟨Eq.refl _, _, Eq.refl _, h⟩
  | succ i => exact h2 i
@[simp] theorem le_cons_eq {a : Sl} {s t : Sts} (h : Le s t) : Le (a :: s) (a :: t) := .cons (.inl rfl) h
theorem le_cons_non {b : Sl} {s t : Sts} (hb : frS b = true) (h : Le s t) : Le (.non :: s) (b :: t) := .cons (.inr ⟨rfl, hb⟩) h
/-! functions -/
def keepO : List Sl → Sts → Bool
  | [], _ => true
  | .io _ :: as, .non :: s => false
  | _ :: as, _ :: s => keepO as s
  | _ :: _, [] => true
theorem outs_le : ∀ {as s t : List Sl}, Le s t → keepO as s = true → outs as s = outs as t
  | [], s, t, _, _ => by simp [outs]
  | a :: as, [], t, h, _ => by
    have := h.len
    cases t with
    | nil => rfl
    | cons _ _ => simp at this
  | a :: as, x :: s, [], h, _ => by have := h.len; simp at this
  | a :: as, x :: s, y :: t, h, hk => by
    have h2 : Le s t := fun i => h (i + 1)
    have h0 := h 0
    have e : keepO as s = true := by
      cases a <;> cases x <;> first | exact hk | (simp [keepO] at hk)
    have := outs_le h2 e
    simp only [outs, List.zipWith_cons_cons] at this ⊢
    rw [this]
    congr 1
    cases a with
    | io ds =>
      rcases h0 with h0 | ⟨h0, _⟩
      · simpa using h0
      · simp at h0; subst h0; simp [keepO] at hk
    | _ => rfl
theorem lenOk_le {n : Nat} {o o' : Out} (h : OLe o o') (hn : o ≠ .no) : lenOk n o' = lenOk n o := by
  cases o <;> first | exact absurd rfl hn | (obtain ⟨t, rfl, hl⟩ := h; simp only [lenOk, hl.len])
theorem endC0_le {as : List Sl} {o o' : Out} {r : CR} (h : OLe o o') (hr : endC0 as o = r) (hn : r ≠ .no) (hk : ∀ s, (o = .nx s ∨ (∃ p, o = .rt p s) ∨ ∃ x, o = .er x s) → keepO as s = true) : endC0 as o' = r := by
  cases o with
  | nx s =>
    obtain ⟨t, rfl, hl⟩ := h
    rw [← hr]; simp only [endC0, outs_le hl (hk s (.inl rfl))]
  | rt p s =>
    obtain ⟨t, rfl, hl⟩ := h
    have ho := outs_le hl (hk s (.inr (.inl ⟨p, rfl⟩)))
    cases p with
    | fz d => rw [← hr]; simp only [endC0, ho]
    | tmp d => rw [← hr]; simp only [endC0, ho]
    | plc i =>
      simp only [endC0] at hr ⊢
      cases e : s[i]? with
      | none => rw [e] at hr; exact absurd hr.symm hn
      | some x => rw [e] at hr; cases x <;> first | exact absurd hr.symm hn | (rw [hl.get e (by simp), ← hr]; simp only [ho])
    | shl d => exact absurd hr.symm hn
  | er x s =>
    obtain ⟨t, rfl, hl⟩ := h
    rw [← hr]; simp only [endC0, outs_le hl (hk s (.inr (.inr ⟨x, rfl⟩)))]
  | bk s => exact absurd hr.symm hn
  | ct s => exact absurd hr.symm hn
  | no => exact absurd hr.symm hn
theorem endC_le {as : List Sl} {o o' : Out} {r : CR} (h : OLe o o') (hr : endC as o = r) (hn : r ≠ .no) (hk : ∀ s, (o = .nx s ∨ (∃ p, o = .rt p s) ∨ ∃ x, o = .er x s) → keepO as s = true) : endC as o' = r := by
  unfold endC at *
  by_cases hc : lenOk as.length o = true
  · have ho : o ≠ .no := by rintro rfl; cases hc
    rw [if_pos hc] at hr
    rw [lenOk_le h ho, if_pos hc]
    exact endC0_le h hr hn hk
  · rw [if_neg hc] at hr; exact absurd hr.symm hn
/-- a function's end: what its body comes to -/
def Fin (as : List Sl) (r : CR) (o : Out) : Prop := endC as o = r ∧ match o with
  | .nx s => keepO as s = true
  | .rt _ s => keepO as s = true
  | .er _ s => keepO as s = true
  | _ => True
/-- the functions at hand -/
def envT (T : List Fn) (m k : Nat) : Env := fun g => (T[g]?).map fun F => (F.modes, runF T m k g)
theorem envT_at {T : List Fn} {m k f : Nat} {F : Fn} (h : T[f]? = some F) : envT T m k f = some (F.modes, runF T m k f) := by
  simp only [envT, h, Option.map_some]
theorem runF_wp {T : List Fn} {m k f : Nat} {F : Fn} {as : List Sl} {r : CR} (h : T[f]? = some F) (hl : F.modes.length = as.length) (hn : r ≠ .no)
    (hw : Wp (evB m (envT T m k) F.body (as ++ List.replicate (F.ns - as.length) .non)) (Fin as r)) : runF T m (k + 1) f as = r := by
  simp only [runF, h, if_pos hl]
  obtain ⟨o, h1, h2, h3, h4⟩ := hw
  refine endC_le h2 h3 hn fun s hs => ?_
  rcases hs with rfl | ⟨p, rfl⟩ | ⟨x, rfl⟩ <;> exact h4
/-- R takes each end of a function that P takes -/
structure FinR (as : List Sl) (P : CR → Prop) (R : Out → Prop) : Prop where
  go : ∀ o r, P r → Fin as r o → R o
theorem FinR.ret {as : List Sl} {P : CR → Prop} {R : Out → Prop} {p : PV} {s : Sts} (h : FinR as P R) (hk : keepO as s = true) (hp : P (endC as (.rt p s))) : Wp (.rt p s) R := .rt (h.go _ _ hp ⟨rfl, hk⟩)
theorem FinR.end_ {as : List Sl} {P : CR → Prop} {R : Out → Prop} {s : Sts} (h : FinR as P R) (hk : keepO as s = true) (hp : P (endC as (.nx s))) : Wp (.nx s) R := .nx0 (h.go _ _ hp ⟨rfl, hk⟩)
theorem FinR.err {as : List Sl} {P : CR → Prop} {R : Out → Prop} {x : D} {s : Sts} (h : FinR as P R) (hk : keepO as s = true) (hp : P (endC as (.er x s))) : Wp (.er x s) R := .er (h.go _ _ hp ⟨rfl, hk⟩)
theorem runF_ex {T : List Fn} {m k f : Nat} {F : Fn} {as : List Sl} {P : CR → Prop} (h : T[f]? = some F) (hl : F.modes.length = as.length) (hn : ∀ r, P r → r ≠ .no)
    (hw : ∀ R, FinR as P R → Wp (evB m (envT T m k) F.body (as ++ List.replicate (F.ns - as.length) .non)) R) : P (runF T m (k + 1) f as) := by
  obtain ⟨o, h1, h2, r, h3, h4⟩ := hw (fun o => ∃ r, P r ∧ Fin as r o) ⟨fun o r h1 h2 => ⟨r, h1, h2⟩⟩
  rw [runF_wp h hl (hn r h3) ⟨o, h1, h2, h4⟩]
  exact h3
/-! loops -/
/-- where a turn of a loop leads -/
def tn (I : Sts → Prop) (Q : Out → Prop) (o : Out) : Prop := match o with
  | .nx s => I s
  | .ct s => I s
  | .bk s => Q (.nx s)
  | o => Q o
theorem wp_for {asg : D → Sts → Option Sts} {body : Sts → Out} (ha : ∀ d s t, Le s t → SLe (asg d s) (asg d t)) (hb : ∀ s t, Le s t → OLe (body s) (body t)) {Q : Out → Prop} (I : Nat → Sts → Prop) : ∀ (ds : List D) (i : Nat) (s : Sts), I i s →
    (∀ (j : Nat) (d : D) (s : Sts), ds[j]? = some d → I (i + j) s → ∃ s1, asg d s = some s1 ∧ Wp (body s1) (tn (I (i + j + 1)) Q)) →
    (∀ s, I (i + ds.length) s → Q (.nx s)) → Wp (forL asg body ds s) Q
  | [], i, s, h, _, he => .nx0 (he s h)
  | d :: ds, i, s, h, hs, he => by
    obtain ⟨s1, e1, o, hn, ho, hq⟩ := hs 0 d s rfl h
    simp only [forL, e1]
    have step : ∀ s2 t2, Le s2 t2 → I (i + 0 + 1) s2 → Wp (forL asg body ds t2) Q := fun s2 t2 hl h2 => by
      refine Wp.mono (wp_for ha hb I ds (i + 1) s2 h2 (fun j x s' hx hI => ?_) fun s' hs' => he s' ?_) (forL_le ha hb ds hl)
      · have := hs (j + 1) x s' (by simpa using hx) (by rw [show i + (j + 1) = i + 1 + j by omega]; exact hI)
        rw [show i + (j + 1) + 1 = i + 1 + j + 1 by omega] at this
        exact this
      · rw [show i + (d :: ds).length = i + 1 + ds.length by simp; omega]; exact hs'
    cases o with
    | no => exact absurd rfl hn
    | nx s2 => obtain ⟨t2, e2, hl⟩ := ho; rw [e2]; exact step s2 t2 hl hq
    | ct s2 => obtain ⟨t2, e2, hl⟩ := ho; rw [e2]; exact step s2 t2 hl hq
    | bk s2 => obtain ⟨t2, e2, hl⟩ := ho; rw [e2]; exact .nx hl hq
    | rt p s2 => obtain ⟨t2, e2, hl⟩ := ho; rw [e2]; exact ⟨.rt p s2, nofun, ⟨t2, Eq.refl _, hl⟩, hq⟩
    | er p s2 => obtain ⟨t2, e2, hl⟩ := ho; rw [e2]; exact ⟨.er p s2, nofun, ⟨t2, Eq.refl _, hl⟩, hq⟩
/-- R takes what a turn may come to -/
structure Tn (I : Sts → Prop) (Q R : Out → Prop) : Prop where
  nx : ∀ s, I s → R (.nx s)
  ct : ∀ s, I s → R (.ct s)
  bk : ∀ s, Q (.nx s) → R (.bk s)
  rt : ∀ p s, Q (.rt p s) → R (.rt p s)
  er : ∀ x s, Q (.er x s) → R (.er x s)
theorem Tn.mk' {I : Sts → Prop} {Q : Out → Prop} : Tn I Q (tn I Q) := ⟨fun _ h => h, fun _ h => h, fun _ h => h, fun _ _ h => h, fun _ _ h => h⟩
theorem Tn.next {I : Sts → Prop} {Q R : Out → Prop} (h : Tn I Q R) {s t : Sts} (hl : Le s t) (hi : I s) : Wp (.nx t) R := .nx hl (h.nx s hi)
theorem Tn.cont {I : Sts → Prop} {Q R : Out → Prop} (h : Tn I Q R) {s t : Sts} (hl : Le s t) (hi : I s) : Wp (.ct t) R := .ct hl (h.ct s hi)
theorem Tn.ret {I : Sts → Prop} {Q R : Out → Prop} (h : Tn I Q R) {p : PV} {s : Sts} (hi : Q (.rt p s)) : Wp (.rt p s) R := .rt (h.rt p s hi)
theorem Tn.brk {I : Sts → Prop} {Q R : Out → Prop} (h : Tn I Q R) {s t : Sts} (hl : Le s t) (hi : Q (.nx s)) : Wp (.bk t) R := .bk hl (h.bk s hi)
theorem Tn.err {I : Sts → Prop} {Q R : Out → Prop} (h : Tn I Q R) {x : D} {s : Sts} (hi : Q (.er x s)) : Wp (.er x s) R := .er (h.er x s hi)
/-- a for over what is walked; I tells of the state ahead of each turn -/
theorem wFor {n : Nat} {G : Env} {tg : TG} {b : List IS} {s0 s1 : Sts} {ps : List PV} {ds : List D} {Q : Out → Prop} (I : Nat → Sts → Prop) (hv : ∀ p ∈ ps, (view s0 p).isSome = true) (h0 : I 0 s1)
    (hs : ∀ (j : Nat) (d : D) (s : Sts), ds[j]? = some d → I j s → ∀ R, Tn (I (j + 1)) (fun o => Wp (unlockO s0 ps o) Q) R → ∃ s1, asgD tg d s = some s1 ∧ Wp (evB n G b s1) R)
    (he : ∀ s, I ds.length s → Wp (unlockO s0 ps (.nx s)) Q) : Wp (unlockO s0 ps (forL (asgD tg) (evB n G b) ds s1)) Q := by
  have := wp_for (asg := asgD tg) (body := evB n G b) (fun d s t h => asgD_le tg h) (fun s t h => evB_le n G b h) (Q := fun o => Wp (unlockO s0 ps o) Q) I ds 0 s1 h0 (fun j d s hd hI => by simpa using hs j d s hd (by simpa using hI) _ Tn.mk') (fun s hs => he s (by simpa using hs))
  obtain ⟨o, h1, h2, h3⟩ := this
  exact Wp.mono h3 (unlockO_le Le.rfl h2 hv)
/-- a while: a measure that falls -/
theorem wp_whl {c : Sts → Rs Bool} {body : Sts → Out} (ha : ∀ s t, Le s t → RLe (c s) (c t)) (hb : ∀ s t, Le s t → OLe (body s) (body t)) {Q : Out → Prop} (I : Nat → Sts → Prop)
    (hs : ∀ (k : Nat) (s : Sts), I k s → (∃ s1, c s = .ok false s1 ∧ Q (.nx s1)) ∨ ∃ s1, c s = .ok true s1 ∧ 0 < k ∧ Wp (body s1) (tn (fun s => ∃ k', k' < k ∧ I k' s) Q)) : ∀ (n k : Nat) (s : Sts), k < n → I k s → Wp (whlL c body n s) Q
  | 0, k, s, h, _ => absurd h (by omega)
  | n + 1, k, s, h, hI => by
    simp only [whlL]
    rcases hs k s hI with ⟨s1, e1, hq⟩ | ⟨s1, e1, hk, o, hn, ho, hq⟩
    · rw [e1]; exact .nx0 hq
    · rw [e1]
      dsimp only
      have step : ∀ s2 t2, Le s2 t2 → (∃ k', k' < k ∧ I k' s2) → Wp (whlL c body n t2) Q := fun s2 t2 hl ⟨k', hk', h2⟩ =>
        Wp.mono (wp_whl ha hb I hs n k' s2 (by omega) h2) (whlL_le ha hb n hl)
      cases o with
      | no => exact absurd rfl hn
      | nx s2 => obtain ⟨t2, e2, hl⟩ := ho; rw [e2]; exact step s2 t2 hl hq
      | ct s2 => obtain ⟨t2, e2, hl⟩ := ho; rw [e2]; exact step s2 t2 hl hq
      | bk s2 => obtain ⟨t2, e2, hl⟩ := ho; rw [e2]; exact .nx hl hq
      | rt p s2 => obtain ⟨t2, e2, hl⟩ := ho; rw [e2]; exact ⟨.rt p s2, nofun, ⟨t2, Eq.refl _, hl⟩, hq⟩
      | er p s2 => obtain ⟨t2, e2, hl⟩ := ho; rw [e2]; exact ⟨.er p s2, nofun, ⟨t2, Eq.refl _, hl⟩, hq⟩
theorem wWhl {n : Nat} {G : Env} {c : IE} {b : List IS} {s : Sts} {Q : Out → Prop} (I : Nat → Sts → Prop) (k : Nat) (hk : k < n) (h0 : I k s)
    (hs : ∀ (k : Nat) (s : Sts), I k s → (∃ s1, isT (evE G c true s) = .ok false s1 ∧ Q (.nx s1)) ∨ ∃ s1, isT (evE G c true s) = .ok true s1 ∧ 0 < k ∧ ∀ R, Tn (fun s => ∃ k', k' < k ∧ I k' s) Q R → Wp (evB n G b s1) R) : Wp (evS n G (.whl c b) s) Q := by
  rw [yWhl]
  refine wp_whl (c := fun s => isT (evE G c true s)) (body := evB n G b) (fun s t h => isT_le (evE_le G c true h)) (fun s t h => evB_le n G b h) I (fun k s h => ?_) n k s hk h0
  rcases hs k s h with h | ⟨s1, e, hk, h⟩
  · exact .inl h
  · exact .inr ⟨s1, e, hk, h _ Tn.mk'⟩
/-! comprehensions -/
theorem wipeS_len : ∀ (s : Sts) (vs : List Nat), (wipeS s vs).length = s.length
  | s, [] => rfl
  | s, v :: vs => by simp [wipeS, wipeS_len s vs]
theorem wipeS_at : ∀ (s : Sts) (vs : List Nat) (j : Nat), (wipeS s vs)[j]? = if j ∈ vs ∧ j < s.length then some .non else s[j]?
  | s, [], j => by simp [wipeS]
  | s, v :: vs, j => by
    simp only [wipeS, List.getElem?_set, wipeS_len, wipeS_at s vs j, List.mem_cons]
    by_cases h : v = j
    · subst h
      by_cases hl : v < s.length
      · simp [hl]
      · simp [hl, List.getElem?_eq_none (Nat.le_of_not_lt hl)]
    · have h' : ¬ j = v := fun e => h e.symm
      simp [h, h']
theorem backS_len : ∀ (s0 s : Sts) (vs : List Nat), (backS s0 s vs).length = s.length
  | s0, s, [] => rfl
  | s0, s, v :: vs => by simp [backS, backS_len s0 s vs]
theorem backS_at : ∀ (s0 s : Sts) (vs : List Nat) (j : Nat), (backS s0 s vs)[j]? = if j ∈ vs ∧ j < s.length then some (s0.getD j .non) else s[j]?
  | s0, s, [], j => by simp [backS]
  | s0, s, v :: vs, j => by
    simp only [backS, List.getElem?_set, backS_len, backS_at s0 s vs j, List.mem_cons]
    by_cases h : v = j
    · subst h
      by_cases hl : v < s.length
      · simp [hl]
      · simp [hl, List.getElem?_eq_none (Nat.le_of_not_lt hl)]
    · have h' : ¬ j = v := fun e => h e.symm
      simp [h, h']
/-- only what stands outside the comprehension's own names matters -/
theorem backS_wipe {s0 s t : Sts} {own : List Nat} (h : wipeS s own = wipeS t own) : backS s0 s own = backS s0 t own := by
  have hl : s.length = t.length := by have := congrArg List.length h; simpa [wipeS_len] using this
  apply List.ext_getElem?
  intro j
  rw [backS_at, backS_at, hl]
  split
  · rfl
  · rename_i hj
    have := congrArg (fun l : Sts => l[j]?) h
    simp only [wipeS_at, hl, if_neg hj] at this
    exact this
/-- a comprehension: a(cc) goes from turn to turn; g tells what a turn adds -/
theorem lc_fold {α : Type} {own : List Nat} {turn : D → List D → Sts → Rs (List D)} (S : α → Sts) (nx : α → D → α) (g : α → D → List D) (P : α → Prop) (N : Nat) :
    ∀ (ds acc : List D) (a : α) (s : Sts), P a → wipeS s own = S a → acc.length + ds.length ≤ N →
    (∀ d ∈ ds, ∀ (acc : List D) (a : α), P a → acc.length < N → (g a d).length ≤ 1 ∧ P (nx a d) ∧ ∃ s', turn d acc (S a) = .ok (acc ++ g a d) s' ∧ wipeS s' own = S (nx a d)) →
    ∃ sf, lcL own turn ds acc s = .ok (acc ++ (ds.foldl (fun (x : α × List D) d => (nx x.1 d, x.2 ++ g x.1 d)) (a, [])).2) sf ∧ wipeS sf own = S (ds.foldl nx a) ∧ P (ds.foldl nx a)
  | [], acc, a, s, hp, hw, _, _ => ⟨s, by simp [lcL], hw, hp⟩
  | d :: ds, acc, a, s, hp, hw, hl, h => by
    simp only [List.length_cons] at hl
    obtain ⟨h1, hp', s', e, hw'⟩ := h d (by simp) acc a hp (by omega)
    obtain ⟨sf, e2, hf, hpf⟩ := lc_fold S nx g P N ds (acc ++ g a d) (nx a d) s' hp' hw' (by simp; omega) fun x hx a ha => h x (by simp [hx]) a ha
    refine ⟨sf, ?_, hf, hpf⟩
    simp only [lcL, hw, e]
    rw [e2]
    have key : ∀ (l : List D) (b : α) (x : List D), (l.foldl (fun (x : α × List D) d => (nx x.1 d, x.2 ++ g x.1 d)) (b, x)).2 = x ++ (l.foldl (fun (x : α × List D) d => (nx x.1 d, x.2 ++ g x.1 d)) (b, [])).2 := by
      intro l
      induction l with
      | nil => simp
      | cons y ys ih => intro b x; simp only [List.foldl_cons]; rw [ih _ (x ++ _), ih _ ([] ++ _)]; simp
    simp only [List.foldl_cons]
    rw [key ds _ ([] ++ g a d)]
    simp
/-- .. that leaves the state as it is -/
theorem lc_pure {own : List Nat} {turn : D → List D → Sts → Rs (List D)} {s w : Sts} (g : D → List D) (ds : List D) (hw : wipeS s own = w) (hl : ds.length ≤ sizeLine)
    (h : ∀ d ∈ ds, ∀ (acc : List D), acc.length < sizeLine → (g d).length ≤ 1 ∧ ∃ s', turn d acc w = .ok (acc ++ g d) s' ∧ wipeS s' own = w) :
    ∃ sf, lcL own turn ds [] s = .ok (ds.flatMap g) sf ∧ ∀ s0, backS s0 sf own = backS s0 w own := by
  obtain ⟨sf, e, hf, _⟩ := lc_fold (α := Unit) (own := own) (turn := turn) (fun _ => w) (fun a _ => a) (fun _ d => g d) (fun _ => True) sizeLine ds [] () s trivial hw (by simpa using hl) (fun d hd acc a _ ha => by
    obtain ⟨h1, s', e, h2⟩ := h d hd acc ha
    exact ⟨h1, trivial, s', e, h2⟩)
  have key : ∀ (l : List D) (x : List D), (l.foldl (fun (x : Unit × List D) d => (x.1, x.2 ++ g d)) ((), x)).2 = x ++ l.flatMap g := by
    intro l
    induction l with
    | nil => simp
    | cons y ys ih => intro x; simp only [List.foldl_cons]; rw [ih]; simp
  refine ⟨sf, ?_, fun s0 => backS_wipe ?_⟩
  · rw [e, List.nil_append]; congr 1; have := key ds []; simpa using this
  · rw [hf, ← hw]
    apply List.ext_getElem?
    intro j
    simp only [wipeS_at, wipeS_len]
    split <;> rfl
end Z

/-! M3: the set of equations that simp reckons with -/
namespace Z
open PySem
/-! operators with great bounds: by names that nothing unfolds -/
theorem mtO_ex : ∃ f : Mt → List D → List D → Option (D × List D), f = mtD := ⟨_, rfl⟩
noncomputable def mtO : Mt → List D → List D → Option (D × List D) := Classical.choose mtO_ex
theorem mtO_eq : mtO = mtD := Classical.choose_spec mtO_ex
theorem bopO_ex : ∃ f : BOp → D → D → Option PV, f = bop := ⟨_, rfl⟩
noncomputable def bopO : BOp → D → D → Option PV := Classical.choose bopO_ex
theorem bopO_eq : bopO = bop := Classical.choose_spec bopO_ex
@[simp] theorem vMut {G : Env} {m : Bool} {s : Sts} (k : Mt) (i : Nat) (es : List IE) : evE G (.mut k i es) m s = fin m ((rdL s i).bind fun _ s0 => (evL G es s0).bind fun ps s1 => match frzL s1 ps with
    | some (ds, s2) => match s2[i]? with
      | some (.lst xs) => match mtO k xs ds with
        | some (d, ys) => .ok (.fz d) (s2.set i (.lst ys))
        | none => .no
      | some (.io xs) => match mtO k xs ds with
        | some (d, ys) => .ok (.fz d) (s2.set i (.io ys))
        | none => .no
      | _ => .no
    | none => .no) := by rw [mtO_eq]; exact xMut k i es
@[simp] theorem vBin {G : Env} {m : Bool} {s : Sts} (o : BOp) (a b : IE) : evE G (.bin o a b) m s = fin m ((evE G a false s).bind fun p s1 => (evE G b false s1).bind fun q s2 => match view s2 p, view s2 q with | some x, some y => lift (bopO o x y) s2 | _, _ => .no) := by rw [bopO_eq]; exact xBin o a b
section
variable {s : Sts} {T : List Fn} {m k : Nat}
@[simp] theorem rd_eq (i : Nat) : rd s i = match s[i]? with | some (.fz d) => .ok (.fz d) s | some (.lst _) => .ok (.plc i) s | some (.io _) => .ok (.plc i) s | some (.brw _) => .ok (.plc i) s | _ => .no := (rfl)
@[simp] theorem rdL_eq (i : Nat) : rdL s i = match s[i]? with | some (.lst _) => .ok () s | some (.io _) => .ok () s | _ => .no := (rfl)
@[simp] theorem view_plc (i : Nat) : view s (.plc i) = match s[i]? with | some (.fz d) => some d | some (.lst ds) => some (.lst ds) | some (.io ds) => some (.lst ds) | some (.brw ds) => some (.lst ds) | _ => none := (rfl)
@[simp] theorem free_eq (i : Nat) : free s i = match s[i]? with | some .non => true | some (.fz _) => true | some (.lst _) => true | _ => false := (rfl)
@[simp] theorem viewEl_nil : viewEl s [] = some [] := (rfl)
@[simp] theorem viewEl_d (x : D) (es : List El) : viewEl s (.d x :: es) = (viewEl s es).map (x :: ·) := (rfl)
@[simp] theorem viewEl_at (i : Nat) (es : List El) : viewEl s (.at i :: es) = match view s (.plc i), viewEl s es with | some d, some ds => some (d :: ds) | _, _ => none := (rfl)
@[simp] theorem viewC_fz (d : D) : viewC s (.fz d) = some d := (rfl)
@[simp] theorem viewC_tmp (ds : List D) : viewC s (.tmp ds) = some (.lst ds) := (rfl)
@[simp] theorem viewC_plc (i : Nat) : viewC s (.plc i) = view s (.plc i) := (rfl)
@[simp] theorem viewC_shl (els : List El) : viewC s (.shl els) = (viewEl s els).map .lst := (rfl)
@[simp] theorem frz0_fz (d : D) : frz0 s (.fz d) = some (d, s) := (rfl)
@[simp] theorem frz0_tmp (ds : List D) : frz0 s (.tmp ds) = some (.lst ds, s) := (rfl)
@[simp] theorem frz0_plc (i : Nat) : frz0 s (.plc i) = match s[i]? with | some (.fz d) => some (d, s) | some (.lst ds) => some (.lst ds, s.set i (.fz (.lst ds))) | _ => none := (rfl)
@[simp] theorem frz_fz (d : D) : frz s (.fz d) = some (d, s) := (rfl)
@[simp] theorem frz_tmp (ds : List D) : frz s (.tmp ds) = some (.lst ds, s) := (rfl)
@[simp] theorem frz_plc (i : Nat) : frz s (.plc i) = frz0 s (.plc i) := (rfl)
@[simp] theorem frz_shl (els : List El) : frz s (.shl els) = match frzE s els with | some (ds, s2) => some (.lst ds, s2) | none => none := (rfl)
@[simp] theorem frzL_nil : frzL s [] = some ([], s) := (rfl)
@[simp] theorem frzL_cons (p : PV) (ps : List PV) : frzL s (p :: ps) = match frz s p with | some (d, s1) => (match frzL s1 ps with | some (ds, s2) => some (d :: ds, s2) | none => none) | none => none := (rfl)
@[simp] theorem shlL_nil : shlL s [] = some ([], s) := (rfl)
@[simp] theorem shlL_plc (i : Nat) (ps : List PV) : shlL s (.plc i :: ps) = match shlL s ps with | some (es, s2) => some (.at i :: es, s2) | none => none := (rfl)
@[simp] theorem shlL_fz (d : D) (ps : List PV) : shlL s (.fz d :: ps) = match frz s (.fz d) with | some (d, s1) => (match shlL s1 ps with | some (es, s2) => some (.d d :: es, s2) | none => none) | none => none := (rfl)
@[simp] theorem shlL_tmp (d : List D) (ps : List PV) : shlL s (.tmp d :: ps) = match frz s (.tmp d) with | some (d, s1) => (match shlL s1 ps with | some (es, s2) => some (.d d :: es, s2) | none => none) | none => none := (rfl)
@[simp] theorem isPlc_fz (d : D) : isPlc (.fz d) = false := (rfl)
@[simp] theorem isPlc_tmp (d : List D) : isPlc (.tmp d) = false := (rfl)
@[simp] theorem isPlc_plc (d : Nat) : isPlc (.plc d) = true := (rfl)
@[simp] theorem asgD_var (i : Nat) (d : D) : asgD (.var i) d s = if free s i = true then some (s.set i (.fz d)) else none := (rfl)
@[simp] theorem asgD_tt (ts : List TG) (ds : List D) : asgD (.tup ts) (.tup ds) s = if ts.length = ds.length then asgL ts ds s else none := by cases ts <;> rfl
@[simp] theorem asgD_tl (ts : List TG) (ds : List D) : asgD (.tup ts) (.lst ds) s = if ts.length = ds.length then asgL ts ds s else none := by cases ts <;> rfl
@[simp] theorem asgL_nil (ds : List D) : asgL [] ds s = some s := (rfl)
@[simp] theorem asgL_cons (t : TG) (ts : List TG) (d : D) (ds : List D) : asgL (t :: ts) (d :: ds) s = match asgD t d s with | some s1 => asgL ts ds s1 | none => none := (rfl)
@[simp] theorem asgP_tmp (i : Nat) (ds : List D) : asgP (.var i) (.tmp ds) s = if free s i = true then some (s.set i (.lst ds)) else none := (rfl)
@[simp] theorem asgP_fz (i : Nat) (d : D) : asgP (.var i) (.fz d) s = asgD (.var i) d s := (rfl)
@[simp] theorem asgP_plc (i j : Nat) : asgP (.var i) (.plc j) s = match frz s (.plc j) with | some (d, s1) => asgD (.var i) d s1 | none => none := (rfl)
@[simp] theorem asgP_shl (i : Nat) (j : List El) : asgP (.var i) (.shl j) s = match frz s (.shl j) with | some (d, s1) => asgD (.var i) d s1 | none => none := (rfl)
@[simp] theorem asgP_tup (ts : List TG) (p : PV) : asgP (.tup ts) p s = match frz s p with | some (d, s1) => asgD (.tup ts) d s1 | none => none := (rfl)
@[simp] theorem lockL_nil : lockL s [] = s := (rfl)
@[simp] theorem lockL_cons (p : PV) (ps : List PV) : lockL s (p :: ps) = lockL (lock s p) ps := (rfl)
@[simp] theorem lock_plc (i : Nat) : lock s (.plc i) = match s[i]? with | some (.lst ds) => s.set i (.brw ds) | some (.io ds) => s.set i (.brw ds) | _ => s := (rfl)
@[simp] theorem lock_fz (d : D) : lock s (.fz d) = s := (rfl)
@[simp] theorem lock_tmp (d : List D) : lock s (.tmp d) = s := (rfl)
@[simp] theorem unlock_plc (s0 : Sts) (i : Nat) : unlock s0 s (.plc i) = match s0[i]?, s[i]? with | some (.lst _), some (.brw ds) => s.set i (.lst ds) | some (.io _), some (.brw ds) => s.set i (.io ds) | _, _ => s := (rfl)
@[simp] theorem unlock_fz (s0 : Sts) (d : D) : unlock s0 s (.fz d) = s := (rfl)
@[simp] theorem unlock_tmp (s0 : Sts) (d : List D) : unlock s0 s (.tmp d) = s := (rfl)
@[simp] theorem unlockL_nil (s0 : Sts) : unlockL s0 s [] = s := (rfl)
@[simp] theorem unlockL_cons (s0 : Sts) (p : PV) (ps : List PV) : unlockL s0 s (p :: ps) = unlock s0 (unlockL (lock s0 p) s ps) p := (rfl)
@[simp] theorem unlockO_nx (s0 : Sts) (ps : List PV) : unlockO s0 ps (.nx s) = .nx (unlockL s0 s ps) := (rfl)
@[simp] theorem unlockO_rt (s0 : Sts) (ps : List PV) (q : PV) : unlockO s0 ps (.rt q s) = .rt q (unlockL s0 s ps) := (rfl)
@[simp] theorem unlockO_er (s0 : Sts) (ps : List PV) (q : D) : unlockO s0 ps (.er q s) = .er q (unlockL s0 s ps) := (rfl)
@[simp] theorem wipe_nil : wipeS s [] = s := (rfl)
@[simp] theorem wipe_cons (v : Nat) (vs : List Nat) : wipeS s (v :: vs) = (wipeS s vs).set v .non := (rfl)
@[simp] theorem back_nil (s0 : Sts) (x : Sl) : backS s0 (x :: s) [] = x :: s := (rfl)
@[simp] theorem back_cons (s0 : Sts) (x : Sl) (v : Nat) (vs : List Nat) : backS s0 (x :: s) (v :: vs) = (backS s0 (x :: s) vs).set v (s0.getD v .non) := (rfl)
@[simp] theorem canWipe_eq (vs : List Nat) : canWipe s vs = vs.all fun v => match s[v]? with | some (.io _) => false | some (.brw _) => false | _ => true := (rfl)
@[simp] theorem argS_nil : argS s [] [] = some [] := (rfl)
@[simp] theorem argS_f (p : PV) (ps : List PV) (bs : List Bool) : argS s (p :: ps) (false :: bs) = match viewC s p with | some d => (argS s ps bs).map (.fz d :: ·) | none => none := (rfl)
@[simp] theorem argS_t (i : Nat) (ps : List PV) (bs : List Bool) : argS s (.plc i :: ps) (true :: bs) = match s[i]? with | some (.lst ds) => (argS s ps bs).map (.io ds :: ·) | some (.io ds) => (argS s ps bs).map (.io ds :: ·) | _ => none := (rfl)
@[simp] theorem ioIx_nil (bs : List Bool) : ioIx [] bs = [] := by cases bs <;> rfl
@[simp] theorem ioIx_t (i : Nat) (ps : List PV) (bs : List Bool) : ioIx (.plc i :: ps) (true :: bs) = i :: ioIx ps bs := (rfl)
@[simp] theorem ioIx_f (p : PV) (ps : List PV) (bs : List Bool) : ioIx (p :: ps) (false :: bs) = ioIx ps bs := by cases p <;> rfl
@[simp] theorem vwIx_nil (bs : List Bool) : vwIx [] bs = [] := by cases bs <;> rfl
@[simp] theorem vwIx_t (p : PV) (ps : List PV) (bs : List Bool) : vwIx (p :: ps) (true :: bs) = vwIx ps bs := by cases p <;> rfl
@[simp] theorem vwIx_plc (i : Nat) (ps : List PV) (bs : List Bool) : vwIx (.plc i :: ps) (false :: bs) = i :: vwIx ps bs := (rfl)
@[simp] theorem vwIx_shl (i : List El) (ps : List PV) (bs : List Bool) : vwIx (.shl i :: ps) (false :: bs) = atIx i ++ vwIx ps bs := (rfl)
@[simp] theorem vwIx_fz (i : D) (ps : List PV) (bs : List Bool) : vwIx (.fz i :: ps) (false :: bs) = vwIx ps bs := (rfl)
@[simp] theorem vwIx_tmp (i : List D) (ps : List PV) (bs : List Bool) : vwIx (.tmp i :: ps) (false :: bs) = vwIx ps bs := (rfl)
@[simp] theorem atIx_nil : atIx [] = [] := (rfl)
@[simp] theorem atIx_d (d : D) (es : List El) : atIx (.d d :: es) = atIx es := (rfl)
@[simp] theorem atIx_at (i : Nat) (es : List El) : atIx (.at i :: es) = i :: atIx es := (rfl)
@[simp] theorem backIo_nil (bs : List Bool) (os : List Sl) : backIo s [] bs os = s := by cases bs <;> cases os <;> simp [backIo]
@[simp] theorem backIo_t (i : Nat) (ps : List PV) (bs : List Bool) (ds : List D) (os : List Sl) : backIo s (.plc i :: ps) (true :: bs) (.io ds :: os) = backIo (s.set i (match s[i]? with | some (.io _) => .io ds | _ => .lst ds)) ps bs os := (rfl)
@[simp] theorem backIo_f (p : PV) (ps : List PV) (bs : List Bool) (o : Sl) (os : List Sl) : backIo s (p :: ps) (false :: bs) (o :: os) = backIo s ps bs os := by cases p <;> rfl
@[simp] theorem frzIx_nil : frzIx s [] = some s := (rfl)
@[simp] theorem frzIx_cons (i : Nat) (is : List Nat) : frzIx s (i :: is) = match s[i]? with | some (.lst ds) => frzIx (s.set i (.fz (.lst ds))) is | some (.fz _) => frzIx s is | _ => none := (rfl)
@[simp] theorem backC_eq (fl : Bool) (ps : List PV) (bs : List Bool) (os : List Sl) : backC fl s ps bs os = if fl = true then some (backIo s ps bs os) else frzIx (backIo s ps bs os) (vwIx ps bs) := (rfl)
@[simp] theorem flatP_fz (d : D) : flatP (.fz d) = d.flat := (rfl)
@[simp] theorem flatP_tmp (d : List D) : flatP (.tmp d) = D.flatL d := (rfl)
@[simp] theorem flatO_nil : flatO [] = true := (rfl)
@[simp] theorem flatO_io (d : List D) (os : List Sl) : flatO (.io d :: os) = (D.flatL d && flatO os) := (rfl)
@[simp] theorem flatO_fz (d : D) (os : List Sl) : flatO (.fz d :: os) = flatO os := (rfl)
@[simp] theorem outOk_nil : outOk [] [] = true := (rfl)
@[simp] theorem outOk_t (bs : List Bool) (d : List D) (os : List Sl) : outOk (true :: bs) (.io d :: os) = outOk bs os := (rfl)
@[simp] theorem outOk_f (bs : List Bool) (d : D) (os : List Sl) : outOk (false :: bs) (.fz d :: os) = outOk bs os := (rfl)
@[simp] theorem isVal_fz (d : D) : isVal (.fz d) = true := (rfl)
@[simp] theorem isVal_tmp (d : List D) : isVal (.tmp d) = true := (rfl)
@[simp] theorem callR_eq (bs : List Bool) (run : List Sl → CR) (ps : List PV) : callR bs run ps s = match argS s ps bs with
  | none => .no
  | some as =>
    if (ioIx ps bs).Nodup ∧ (∀ i ∈ ioIx ps bs, i ∉ vwIx ps bs) then
      match run as with
      | .ok p os => if outOk bs os && isVal p then (match backC (flatP p && flatO os) s ps bs os with
          | some s' => .ok p s'
          | none => .no) else .no
      | .er x os => if outOk bs os then (match backC (flatO os) s ps bs os with
          | some s' => .er x s'
          | none => .no) else .no
      | .no => .no
    else .no := (rfl)
@[simp] theorem flat_non : D.flat .non = true := by simp only [D.flat]
@[simp] theorem flat_bl (b : Bool) : D.flat (.bl b) = true := by simp only [D.flat]
@[simp] theorem flat_int (b : Int) : D.flat (.int b) = true := by simp only [D.flat]
@[simp] theorem flat_str (b : Str) : D.flat (.str b) = true := by simp only [D.flat]
@[simp] theorem flat_tup (b : List D) : D.flat (.tup b) = D.flatL b := by simp only [D.flat]
@[simp] theorem flat_lst (b : List D) : D.flat (.lst b) = false := by simp only [D.flat]
@[simp] theorem flatL_nil : D.flatL [] = true := by simp only [D.flatL]
@[simp] theorem flatL_cons (d : D) (ds : List D) : D.flatL (d :: ds) = (d.flat && D.flatL ds) := by simp only [D.flatL]
@[simp] theorem truth_non : D.truth .non = some false := (rfl)
@[simp] theorem truth_bl (b : Bool) : D.truth (.bl b) = some b := (rfl)
@[simp] theorem truth_int (b : Int) : D.truth (.int b) = some (b != 0) := (rfl)
@[simp] theorem truth_tup (b : List D) : D.truth (.tup b) = some !b.isEmpty := (rfl)
@[simp] theorem truth_lst (b : List D) : D.truth (.lst b) = some !b.isEmpty := (rfl)
theorem eq_int (i j : Int) : (D.int i).eq (.int j) = some (i == j) := by
  simp only [D.eq, D.ok, Bool.and_self, if_true, D.pd]
  congr 1
@[simp] theorem cop_eqi (i j : Int) : cop .eq (.int i) (.int j) = some (i == j) := eq_int i j
@[simp] theorem cop_nei (i j : Int) : cop .ne (.int i) (.int j) = some (!(i == j)) := by show ((D.int i).eq (.int j)).map (!·) = _; rw [eq_int]; rfl
@[simp] theorem cop_eqb (i j : Bool) : cop .eq (.bl i) (.bl j) = some (i == j) := by cases i <;> cases j <;> rfl
@[simp] theorem cop_neb (i j : Bool) : cop .ne (.bl i) (.bl j) = some (!(i == j)) := by cases i <;> cases j <;> rfl
@[simp] theorem cop_lt (i j : Int) : cop .lt (.int i) (.int j) = some (decide (i < j)) := (rfl)
@[simp] theorem cop_le (i j : Int) : cop .le (.int i) (.int j) = some (decide (i ≤ j)) := (rfl)
@[simp] theorem cop_gt (i j : Int) : cop .gt (.int i) (.int j) = some (decide (j < i)) := (rfl)
@[simp] theorem cop_ge (i j : Int) : cop .ge (.int i) (.int j) = some (decide (j ≤ i)) := (rfl)
@[simp] theorem cop_is_non : cop .is .non .non = some true := (rfl)
@[simp] theorem cop_is_bl (x : Bool) : cop .is (.bl x) .non = some false := (rfl)
@[simp] theorem cop_is_int (x : Int) : cop .is (.int x) .non = some false := (rfl)
@[simp] theorem cop_is_str (x : Str) : cop .is (.str x) .non = some false := (rfl)
@[simp] theorem cop_is_tup (x : List D) : cop .is (.tup x) .non = some false := (rfl)
@[simp] theorem cop_is_lst (x : List D) : cop .is (.lst x) .non = some false := (rfl)
@[simp] theorem cop_isn_non : cop .isn .non .non = some false := (rfl)
@[simp] theorem cop_isn_bl (x : Bool) : cop .isn (.bl x) .non = some true := (rfl)
@[simp] theorem cop_isn_int (x : Int) : cop .isn (.int x) .non = some true := (rfl)
@[simp] theorem cop_isn_str (x : Str) : cop .isn (.str x) .non = some true := (rfl)
@[simp] theorem cop_isn_tup (x : List D) : cop .isn (.tup x) .non = some true := (rfl)
@[simp] theorem cop_isn_lst (x : List D) : cop .isn (.lst x) .non = some true := (rfl)
@[simp] theorem bop_add (i j : Int) : bopO .add (.int i) (.int j) = some (.fz (.int (i + j))) := by rw [bopO_eq]; rfl
@[simp] theorem bop_sub (i j : Int) : bopO .sub (.int i) (.int j) = some (.fz (.int (i - j))) := by rw [bopO_eq]; rfl
@[simp] theorem bop_mod {i j : Int} (h : 0 < j) : bopO .mod (.int i) (.int j) = some (.fz (.int (i % j))) := by simp [bopO_eq, bop, h]
@[simp] theorem bop_fdiv {i j : Int} (h : 0 < j) (h2 : j < 1073741824) : bopO .fdiv (.int i) (.int j) = some (.fz (.int (i / j))) := by rw [bopO_eq]; simp only [bop]; rw [if_pos ⟨h, h2⟩]
theorem bop_mul {i j : Int} (h : -big < i ∧ i < big) : bopO .mul (.int i) (.int j) = some (.fz (.int (i * j))) := by rw [bopO_eq]; simp only [bop]; rw [if_pos (by simp [h])]
theorem bop_mul2 {i j : Int} (h : -big < j ∧ j < big) : bopO .mul (.int i) (.int j) = some (.fz (.int (i * j))) := by rw [bopO_eq]; simp only [bop]; rw [if_pos (by simp [h])]
theorem bop_tup {xs ys : List D} (h : xs.length + ys.length ≤ sizeLine) : bopO .add (.tup xs) (.tup ys) = some (.fz (.tup (xs ++ ys))) := by rw [bopO_eq]; simp only [bop, if_pos h]
theorem bop_lst {xs ys : List D} (h : xs.length + ys.length ≤ sizeLine) : bopO .add (.lst xs) (.lst ys) = some (.tmp (xs ++ ys)) := by rw [bopO_eq]; simp only [bop, if_pos h]
@[simp] theorem bl_len_tup (xs : List D) : blD .len [.tup xs] = some (.fz (.int xs.length)) := (rfl)
@[simp] theorem bl_len_gvn (xs : List D) : blD .len [.gvn xs] = some (.fz (.int xs.length)) := (rfl)
@[simp] theorem bl_len_lst (xs : List D) : blD .len [.lst xs] = some (.fz (.int xs.length)) := (rfl)
@[simp] theorem bl_int (i : Int) : blD .int [.int i] = some (.fz (.int i)) := (rfl)
@[simp] theorem bl_abs (i : Int) : blD .abs [.int i] = some (.fz (.int (if i < 0 then -i else i))) := (rfl)
@[simp] theorem bl_list_l (xs : List D) : blD .list [.lst xs] = some (.tmp xs) := (rfl)
@[simp] theorem bl_list_t (xs : List D) : blD .list [.tup xs] = some (.tmp xs) := (rfl)
@[simp] theorem bl_tuple_l (xs : List D) : blD .tuple [.lst xs] = some (.fz (.tup xs)) := (rfl)
@[simp] theorem bl_tuple_t (xs : List D) : blD .tuple [.tup xs] = some (.fz (.tup xs)) := (rfl)
@[simp] theorem bl_rev (xs : List D) : blD .revlist [.lst xs] = some (.tmp xs.reverse) := (rfl)
@[simp] theorem bl_all (xs : List D) : blD .all [.lst xs] = (boolsD xs).map fun bs => .fz (.bl (bs.all id)) := (rfl)
@[simp] theorem bl_any (xs : List D) : blD .any [.lst xs] = (boolsD xs).map fun bs => .fz (.bl (bs.any id)) := (rfl)
@[simp] theorem bl_sum_l (xs : List D) : blD .sum [.lst xs] = (intsD xs).map fun ns => .fz (.int ns.sum) := (rfl)
@[simp] theorem bl_sum_t (xs : List D) : blD .sum [.tup xs] = (intsD xs).map fun ns => .fz (.int ns.sum) := (rfl)
@[simp] theorem bl_max2 (i j : Int) : blD .max [.int i, .int j] = some (.fz (.int (if j > i then j else i))) := (rfl)
@[simp] theorem bl_min2 (i j : Int) : blD .min [.int i, .int j] = some (.fz (.int (if j < i then j else i))) := (rfl)
@[simp] theorem items_lst (xs : List D) : itemsD (.lst xs) = some xs := (rfl)
@[simp] theorem items_tup (xs : List D) : itemsD (.tup xs) = some xs := (rfl)
@[simp] theorem items_gvn (xs : List D) : itemsD (.gvn xs) = some xs := (rfl)
@[simp] theorem mt_append {xs : List D} {d : D} (h : xs.length < sizeLine) : mtO .append xs [d] = some (.non, xs ++ [d]) := by rw [mtO_eq]; simp only [mtD, if_pos h]
@[simp] theorem augD_add (x y : Int) : augD .add x y = some (x + y) := (rfl)
@[simp] theorem augD_sub (x y : Int) : augD .sub x y = some (x - y) := (rfl)
@[simp] theorem yAug {n : Nat} {G : Env} (i : Nat) (o : BOp) (e : IE) : evS n G (.aug i o e) s = (rd s i).out fun p s1 => (evE G e false s1).out fun q s2 => match p, view s2 q with
    | .fz (.int x), some (.int y) => match augD o x y with
      | some z => if free s2 i then .nx (s2.set i (.fz (.int z))) else .no
      | none => .no
    | _, _ => .no := (rfl)
@[simp] theorem isi_non_int  : isClsOf .non (.ty "int") = some false := (rfl)
@[simp] theorem isi_non_bool  : isClsOf .non (.ty "bool") = some false := (rfl)
@[simp] theorem isi_non_str  : isClsOf .non (.ty "str") = some false := (rfl)
@[simp] theorem isi_non_tuple  : isClsOf .non (.ty "tuple") = some false := (rfl)
@[simp] theorem isi_non_list  : isClsOf .non (.ty "list") = some false := (rfl)
@[simp] theorem isi_non_dict  : isClsOf .non (.ty "dict") = some false := (rfl)
@[simp] theorem isi_bl_int (x : Bool) : isClsOf (.bl x) (.ty "int") = some true := (rfl)
@[simp] theorem isi_bl_bool (x : Bool) : isClsOf (.bl x) (.ty "bool") = some true := (rfl)
@[simp] theorem isi_bl_str (x : Bool) : isClsOf (.bl x) (.ty "str") = some false := (rfl)
@[simp] theorem isi_bl_tuple (x : Bool) : isClsOf (.bl x) (.ty "tuple") = some false := (rfl)
@[simp] theorem isi_bl_list (x : Bool) : isClsOf (.bl x) (.ty "list") = some false := (rfl)
@[simp] theorem isi_bl_dict (x : Bool) : isClsOf (.bl x) (.ty "dict") = some false := (rfl)
@[simp] theorem isi_int_int (x : Int) : isClsOf (.int x) (.ty "int") = some true := (rfl)
@[simp] theorem isi_int_bool (x : Int) : isClsOf (.int x) (.ty "bool") = some false := (rfl)
@[simp] theorem isi_int_str (x : Int) : isClsOf (.int x) (.ty "str") = some false := (rfl)
@[simp] theorem isi_int_tuple (x : Int) : isClsOf (.int x) (.ty "tuple") = some false := (rfl)
@[simp] theorem isi_int_list (x : Int) : isClsOf (.int x) (.ty "list") = some false := (rfl)
@[simp] theorem isi_int_dict (x : Int) : isClsOf (.int x) (.ty "dict") = some false := (rfl)
@[simp] theorem isi_str_int (x : Str) : isClsOf (.str x) (.ty "int") = some false := (rfl)
@[simp] theorem isi_str_bool (x : Str) : isClsOf (.str x) (.ty "bool") = some false := (rfl)
@[simp] theorem isi_str_str (x : Str) : isClsOf (.str x) (.ty "str") = some true := (rfl)
@[simp] theorem isi_str_tuple (x : Str) : isClsOf (.str x) (.ty "tuple") = some false := (rfl)
@[simp] theorem isi_str_list (x : Str) : isClsOf (.str x) (.ty "list") = some false := (rfl)
@[simp] theorem isi_str_dict (x : Str) : isClsOf (.str x) (.ty "dict") = some false := (rfl)
@[simp] theorem isi_tup_int (x : List D) : isClsOf (.tup x) (.ty "int") = some false := (rfl)
@[simp] theorem isi_tup_bool (x : List D) : isClsOf (.tup x) (.ty "bool") = some false := (rfl)
@[simp] theorem isi_tup_str (x : List D) : isClsOf (.tup x) (.ty "str") = some false := (rfl)
@[simp] theorem isi_tup_tuple (x : List D) : isClsOf (.tup x) (.ty "tuple") = some true := (rfl)
@[simp] theorem isi_tup_list (x : List D) : isClsOf (.tup x) (.ty "list") = some false := (rfl)
@[simp] theorem isi_tup_dict (x : List D) : isClsOf (.tup x) (.ty "dict") = some false := (rfl)
@[simp] theorem isi_lst_int (x : List D) : isClsOf (.lst x) (.ty "int") = some false := (rfl)
@[simp] theorem isi_lst_bool (x : List D) : isClsOf (.lst x) (.ty "bool") = some false := (rfl)
@[simp] theorem isi_lst_str (x : List D) : isClsOf (.lst x) (.ty "str") = some false := (rfl)
@[simp] theorem isi_lst_tuple (x : List D) : isClsOf (.lst x) (.ty "tuple") = some false := (rfl)
@[simp] theorem isi_lst_list (x : List D) : isClsOf (.lst x) (.ty "list") = some true := (rfl)
@[simp] theorem isi_lst_dict (x : List D) : isClsOf (.lst x) (.ty "dict") = some false := (rfl)
@[simp] theorem isi_emp_int : isClsOf .emp (.ty "int") = some false := (rfl)
@[simp] theorem isi_emp_bool : isClsOf .emp (.ty "bool") = some false := (rfl)
@[simp] theorem isi_emp_str : isClsOf .emp (.ty "str") = some false := (rfl)
@[simp] theorem isi_emp_tuple : isClsOf .emp (.ty "tuple") = some false := (rfl)
@[simp] theorem isi_emp_list : isClsOf .emp (.ty "list") = some false := (rfl)
@[simp] theorem isi_emp_dict : isClsOf .emp (.ty "dict") = some true := (rfl)
@[simp] theorem bl_revtup (xs : List D) : blD .revtup [.lst xs] = some (.fz (.tup xs.reverse)) := (rfl)
@[simp] theorem bl_revT (xs : List D) : blD .rev [.tup xs] = some (.fz (.tup xs.reverse)) := (rfl)
@[simp] theorem bl_revL (xs : List D) : blD .rev [.lst xs] = some (.tmp xs.reverse) := (rfl)
@[simp] theorem bl_emp : blD .emp [] = some (.fz .emp) := (rfl)
theorem bl_repr {d : D} (h : reprB d = true) : blD .repr [d] = some (.fz (.str d.pd.shown)) := by
  show reprD d = _
  rw [reprD, if_pos h]
/-! the end of a function -/
@[simp] theorem keepO_nil : keepO [] s = true := (rfl)
@[simp] theorem keepO_fz (d : D) (as : List Sl) (x : Sl) : keepO (.fz d :: as) (x :: s) = keepO as s := by cases x <;> rfl
@[simp] theorem keepO_io (d : List D) (as : List Sl) (x : List D) : keepO (.io d :: as) (.io x :: s) = keepO as s := (rfl)
@[simp] theorem outs_nil : outs [] s = [] := (rfl)
@[simp] theorem outs_io (d : List D) (as : List Sl) (x : Sl) : outs (.io d :: as) (x :: s) = x :: outs as s := (rfl)
@[simp] theorem outs_fz (d : D) (as : List Sl) (x : Sl) : outs (.fz d :: as) (x :: s) = .fz d :: outs as s := (rfl)
theorem wp_fin {o : Out} {as : List Sl} {r : CR} (hr : r ≠ .no) (h : Wp o (Fin as r)) : endC as o = r := by
  obtain ⟨o2, h1, h2, h3, h4⟩ := h
  refine endC_le h2 h3 hr fun s hs => ?_
  rcases hs with rfl | ⟨p, rfl⟩ | ⟨x, rfl⟩ <;> exact h4
@[simp] theorem fin_rt {p q : PV} {as os : List Sl} (hk : keepO as s = true) : Wp (.rt p s) (Fin as (.ok q os)) ↔ as.length ≤ s.length ∧ endC0 as (.rt p s) = .ok q os := by
  constructor
  · intro h
    have := wp_fin (r := .ok q os) nofun h
    unfold endC at this
    split at this
    · rename_i hc
      exact ⟨by simpa [lenOk] using hc, this⟩
    · cases this
  · rintro ⟨h1, h2⟩
    exact .rt ⟨by unfold endC; rw [if_pos (by simpa [lenOk] using h1)]; exact h2, hk⟩
@[simp] theorem fin_nx {q : PV} {as os : List Sl} (hk : keepO as s = true) : Wp (.nx s) (Fin as (.ok q os)) ↔ as.length ≤ s.length ∧ endC0 as (.nx s) = .ok q os := by
  constructor
  · intro h
    have := wp_fin (r := .ok q os) nofun h
    unfold endC at this
    split at this
    · rename_i hc
      exact ⟨by simpa [lenOk] using hc, this⟩
    · cases this
  · rintro ⟨h1, h2⟩
    exact .nx0 ⟨by unfold endC; rw [if_pos (by simpa [lenOk] using h1)]; exact h2, hk⟩
@[simp] theorem fin_er {x y : D} {as os : List Sl} (hk : keepO as s = true) : Wp (.er x s) (Fin as (.er y os)) ↔ as.length ≤ s.length ∧ endC0 as (.er x s) = .er y os := by
  constructor
  · intro h
    have := wp_fin (r := .er y os) nofun h
    unfold endC at this
    split at this
    · rename_i hc
      exact ⟨by simpa [lenOk] using hc, this⟩
    · cases this
  · rintro ⟨h1, h2⟩
    exact .er ⟨by unfold endC; rw [if_pos (by simpa [lenOk] using h1)]; exact h2, hk⟩
@[simp] theorem endC0_nx (as : List Sl) : endC0 as (.nx s) = .ok (.fz .non) (outs as s) := (rfl)
@[simp] theorem endC0_fz (as : List Sl) (d : D) : endC0 as (.rt (.fz d) s) = .ok (.fz d) (outs as s) := (rfl)
@[simp] theorem endC0_tmp (as : List Sl) (d : List D) : endC0 as (.rt (.tmp d) s) = .ok (.tmp d) (outs as s) := (rfl)
@[simp] theorem endC0_plc (as : List Sl) (i : Nat) : endC0 as (.rt (.plc i) s) = match s[i]? with | some (.lst ds) => .ok (.tmp ds) (outs as s) | some (.fz d) => .ok (.fz d) (outs as s) | _ => .no := (rfl)
@[simp] theorem endC0_er (as : List Sl) (x : D) : endC0 as (.er x s) = .er x (outs as s) := (rfl)
end
/-! lists of ints -/
def iD (ns : List Int) : List D := ns.map D.int
@[simp] theorem iD_nil : iD [] = [] := (rfl)
theorem iD_cons (n : Int) (ns : List Int) : iD (n :: ns) = .int n :: iD ns := (rfl)
@[simp] theorem iD_len (ns : List Int) : (iD ns).length = ns.length := by simp [iD]
@[simp] theorem iD_append (ns ms : List Int) : iD ns ++ iD ms = iD (ns ++ ms) := by simp [iD]
@[simp] theorem iD_append1 (ns : List Int) (n : Int) : iD ns ++ [.int n] = iD (ns ++ [n]) := by simp [iD]
@[simp] theorem iD_rev (ns : List Int) : (iD ns).reverse = iD ns.reverse := by simp [iD]
@[simp] theorem ints_iD : ∀ (ns : List Int), intsD (iD ns) = some ns
  | [] => rfl
  | n :: ns => by rw [iD_cons, intsD, ints_iD ns]; rfl
@[simp] theorem flat_iD : ∀ (ns : List Int), D.flatL (iD ns) = true
  | [] => by simp
  | n :: ns => by rw [iD_cons, flatL_cons, flat_iD ns]; simp
@[simp] theorem bl_sorted (ns : List Int) : blD .sorted [.lst (iD ns)] = some (.tmp (iD (sortI ns))) := by simp only [blD, ints_iD]; rfl
@[simp] theorem bl_sortedT (ns : List Int) : blD .sorted [.tup (iD ns)] = some (.tmp (iD (sortI ns))) := by simp only [blD, ints_iD]; rfl
theorem iD_inj {ns ms : List Int} (h : iD ns = iD ms) : ns = ms := by
  have := congrArg intsD h
  simpa using this
theorem iD_get (ns : List Int) (j : Nat) : (iD ns)[j]? = (ns[j]?).map .int := by simp [iD]
theorem sub_tup {ds : List D} {j : Nat} {d : D} (h : ds[j]? = some d) : subD (.tup ds) (.int j) = some d := by
  have hl : j < ds.length := (List.getElem?_eq_some_iff.mp h).1
  have h1 : (j : Int) < ds.length := by omega
  simp only [subD, ixD, if_pos (Int.natCast_nonneg j), if_pos h1, Option.bind_some, Int.toNat_natCast, h]
theorem sub_lst {ds : List D} {j : Nat} {d : D} (h : ds[j]? = some d) : subD (.lst ds) (.int j) = some d := by
  have hl : j < ds.length := (List.getElem?_eq_some_iff.mp h).1
  have h1 : (j : Int) < ds.length := by omega
  simp only [subD, ixD, if_pos (Int.natCast_nonneg j), if_pos h1, Option.bind_some, Int.toNat_natCast, h]
theorem sub_iD {ts : List Int} {j : Nat} {x : Int} (h : ts[j]? = some x) : subD (.lst (iD ts)) (.int j) = some (.int x) := sub_lst (by rw [iD_get, h]; rfl)
theorem sub_tD {ts : List Int} {j : Nat} {x : Int} (h : ts[j]? = some x) : subD (.tup (iD ts)) (.int j) = some (.int x) := sub_tup (by rw [iD_get, h]; rfl)
@[simp] theorem enumD_len (ds : List D) : (enumD ds).length = ds.length := by simp [enumD]
theorem enum_get {ds : List D} {j : Nat} {d : D} (h : (enumD ds)[j]? = some d) : ∃ x, ds[j]? = some x ∧ d = .tup [.int j, x] := by
  simp only [enumD, List.getElem?_map, List.getElem?_zipIdx, Option.map_map, Option.map_eq_some_iff] at h
  obtain ⟨x, h1, rfl⟩ := h
  exact ⟨x, h1, by simp⟩
@[simp] theorem rngD_len (i : Int) (n : Nat) : (rngD i n).length = n := by simp [rngD]
theorem rngD_get {i : Int} {n j : Nat} {d : D} (h : (rngD i n)[j]? = some d) : j < n ∧ d = .int (i + j) := by
  simp only [rngD, List.getElem?_map, Option.map_eq_some_iff] at h
  obtain ⟨x, h1, rfl⟩ := h
  have hl := (List.getElem?_eq_some_iff.mp h1).1
  rw [List.getElem?_range (by simpa using hl)] at h1
  cases h1
  exact ⟨by simpa using hl, rfl⟩
/-- 0 to n - 1 -/
def rg (n : Nat) : List Int := (List.range n).map fun (k : Nat) => (k : Int)
@[simp] theorem rg_len (n : Nat) : (rg n).length = n := by simp [rg]
theorem rg_iD (n : Nat) : rngD 0 n = iD (rg n) := by simp [rngD, rg, iD]
theorem rg_get {n j : Nat} (h : j < n) : (rg n)[j]? = some (j : Int) := by simp [rg, h]
theorem iD_getS {ns : List Int} {j : Nat} {d : D} (h : (iD ns)[j]? = some d) : ∃ x, ns[j]? = some x ∧ d = .int x := by
  rw [iD_get, Option.map_eq_some_iff] at h
  obtain ⟨x, h1, rfl⟩ := h
  exact ⟨x, h1, rfl⟩
@[simp] theorem boolsD_mapF {α : Type} (f : α → Bool) : ∀ xs : List α, boolsD (xs.map fun x => .bl (f x)) = some (xs.map f)
  | [] => rfl
  | x :: xs => by simp [boolsD, boolsD_mapF f xs]
/-- what a range needs -/
structure rB (i : Int) : Prop where
  lo : -(2 ^ 62) ≤ i
  hi : i < 2 ^ 62
noncomputable instance (i : Int) : Decidable (rB i) := Classical.propDecidable _
theorem rB_iff (i : Int) : rB i ↔ -(2 ^ 62) ≤ i ∧ i < 2 ^ 62 := ⟨fun h => ⟨h.lo, h.hi⟩, fun h => ⟨h.1, h.2⟩⟩
theorem rB_of {i : Int} (h : -1000000000 ≤ i) (h2 : i ≤ 1000000000) : rB i := ⟨by omega, by omega⟩
theorem if_rB {a : Type} {i j : Int} {x y : a} : (if -(2 ^ 62) ≤ i ∧ i < 2 ^ 62 ∧ -(2 ^ 62) ≤ j ∧ j < 2 ^ 62 then x else y) = if rB i ∧ rB j then x else y := by
  by_cases h : rB i ∧ rB j
  · rw [if_pos h, if_pos ⟨h.1.lo, h.1.hi, h.2.lo, h.2.hi⟩]
  · rw [if_neg h, if_neg]; rintro ⟨a, b, c, d⟩; exact h ⟨⟨a, b⟩, ⟨c, d⟩⟩
theorem if_rB2 {a : Type} {i j : Int} {p : Prop} [Decidable p] {x y : a} : (if -(2 ^ 62) ≤ i ∧ i < 2 ^ 62 ∧ -(2 ^ 62) ≤ j ∧ j < 2 ^ 62 ∧ p then x else y) = if rB i ∧ rB j ∧ p then x else y := by
  by_cases h : rB i ∧ rB j ∧ p
  · rw [if_pos h, if_pos ⟨h.1.lo, h.1.hi, h.2.1.lo, h.2.1.hi, h.2.2⟩]
  · rw [if_neg h, if_neg]; rintro ⟨a, b, c, d, e⟩; exact h ⟨⟨a, b⟩, ⟨c, d⟩, e⟩
@[simp] theorem vIrng {G : Env} {s : Sts} (a b : IE) : evI G (.rng a b) s = (evE G a false s).bind fun p s1 => (evE G b false s1).bind fun q s2 => match view s2 p, view s2 q with
    | some (.int i), some (.int j) => if rB i ∧ rB j then .ok (rngD i (j - i).toNat, []) s2 else .no
    | _, _ => .no := by
  rw [xIrng]
  congr 1; funext p s1; congr 1; funext q s2
  cases view s2 p with
  | none => rfl
  | some x => cases x <;> first | rfl | (cases view s2 q with
    | none => rfl
    | some y => cases y <;> first | rfl | exact if_rB)
@[simp] theorem vErng {G : Env} {m : Bool} {s : Sts} (t : Bool) (a b : IE) : evE G (.rng t a b) m s = fin m ((evE G a false s).bind fun p s1 => (evE G b false s1).bind fun q s2 => match view s2 p, view s2 q with
    | some (.int i), some (.int j) => if rB i ∧ rB j ∧ (j - i).toNat ≤ sizeLine then (if t = true then .ok (.fz (.tup (rngD i (j - i).toNat))) s2 else .ok (.tmp (rngD i (j - i).toNat)) s2) else .no
    | _, _ => .no) := by
  rw [xRng]
  congr 1; congr 1; funext p s1; congr 1; funext q s2
  cases view s2 p with
  | none => rfl
  | some x => cases x <;> first | rfl | (cases view s2 q with
    | none => rfl
    | some y => cases y <;> first | rfl | exact if_rB2)
@[simp] theorem wTnR {I : Sts → Prop} {Q : Out → Prop} {p : PV} {s : Sts} : Wp (.rt p s) (tn I Q) ↔ Wp (.rt p s) Q := by
  constructor <;> rintro ⟨o, h1, h2, h3⟩ <;> refine ⟨o, h1, h2, ?_⟩ <;> cases o <;> first | exact h3 | (obtain ⟨_, q, _⟩ := h2; cases q)
@[simp] theorem wTnE {I : Sts → Prop} {Q : Out → Prop} {p : D} {s : Sts} : Wp (.er p s) (tn I Q) ↔ Wp (.er p s) Q := by
  constructor <;> rintro ⟨o, h1, h2, h3⟩ <;> refine ⟨o, h1, h2, ?_⟩ <;> cases o <;> first | exact h3 | (obtain ⟨_, q, _⟩ := h2; cases q)
@[simp] theorem wUnR {s0 : Sts} {ps : List PV} {Q : Out → Prop} {p : PV} {s : Sts} (hv : ∀ p ∈ ps, (view s0 p).isSome = true) : Wp (.rt p s) (fun o => Wp (unlockO s0 ps o) Q) ↔ Wp (.rt p (unlockL s0 s ps)) Q := by
  constructor
  · rintro ⟨o, h1, h2, h3⟩
    exact Wp.mono h3 (unlockO_le Le.rfl h2 hv)
  · exact fun h => .rt h
@[simp] theorem wUnE {s0 : Sts} {ps : List PV} {Q : Out → Prop} {p : D} {s : Sts} (hv : ∀ p ∈ ps, (view s0 p).isSome = true) : Wp (.er p s) (fun o => Wp (unlockO s0 ps o) Q) ↔ Wp (.er p (unlockL s0 s ps)) Q := by
  constructor
  · rintro ⟨o, h1, h2, h3⟩
    exact Wp.mono h3 (unlockO_le Le.rfl h2 hv)
  · exact fun h => .er h
@[simp] theorem le_cons_iff {a b : Sl} {s t : Sts} : Le (a :: s) (b :: t) ↔ (a = b ∨ (a = .non ∧ frS b = true)) ∧ Le s t := by
  constructor
  · intro h
    refine ⟨?_, fun i => h (i + 1)⟩
    rcases h 0 with q | ⟨q, y, q1, q2⟩
    · exact .inl (by simpa using q)
    · simp at q q1; subst q q1; exact .inr ⟨rfl, q2⟩
  · exact fun h => .cons h.1 h.2
@[simp] theorem le_nil_iff : Le [] [] := Le.rfl
@[simp] theorem frS_non : frS .non = true := (rfl)
@[simp] theorem frS_fz (d : D) : frS (.fz d) = true := (rfl)
@[simp] theorem frS_lst (d : List D) : frS (.lst d) = true := (rfl)
theorem wipe_wipe (s : Sts) (own : List Nat) : wipeS (wipeS s own) own = wipeS s own := by
  apply List.ext_getElem?
  intro j
  simp only [wipeS_at, wipeS_len]
  split <;> rfl
theorem back_of_wipe {s0 sf w : Sts} {own : List Nat} (h : wipeS sf own = w) : backS s0 sf own = backS s0 w own := by
  subst h
  exact backS_wipe (wipe_wipe sf own).symm
/-- a comprehension, told by what holds ahead of each turn -/
theorem lc_inv {own : List Nat} {turn : D → List D → Sts → Rs (List D)} (I : Nat → List D → Sts → Prop) : ∀ (ds : List D) (i : Nat) (acc : List D) (s : Sts), I i acc (wipeS s own) →
    (∀ (j : Nat) (d : D) (acc : List D) (w : Sts), ds[j]? = some d → I (i + j) acc w → ∃ acc' s', turn d acc w = .ok acc' s' ∧ I (i + j + 1) acc' (wipeS s' own)) →
    ∃ acc' sf, lcL own turn ds acc s = .ok acc' sf ∧ I (i + ds.length) acc' (wipeS sf own)
  | [], i, acc, s, h, _ => ⟨acc, s, rfl, h⟩
  | d :: ds, i, acc, s, h, hs => by
    obtain ⟨acc1, s1, e1, h1⟩ := hs 0 d acc _ rfl h
    obtain ⟨acc2, s2, e2, h2⟩ := lc_inv I ds (i + 1) acc1 s1 (by simpa using h1) fun j x a w hx hI => by
      have := hs (j + 1) x a w (by simpa using hx) (by rw [show i + (j + 1) = i + 1 + j by omega]; exact hI)
      rw [show i + (j + 1) + 1 = i + 1 + j + 1 by omega] at this
      exact this
    refine ⟨acc2, s2, ?_, by rw [show i + (d :: ds).length = i + 1 + ds.length by simp; omega]; exact h2⟩
    simp only [lcL, e1]
    exact e2
/-- simp looks at what a suite comes to, not at what is asked of it -/
theorem wp_congr {o o' : Out} {Q : Out → Prop} (h : o = o') : Wp o Q = Wp o' Q := by rw [h]
theorem ix_nat {n i : Nat} (h : i < n) : ixD n (i : Int) = some i := by
  have h1 : (i : Int) < n := by omega
  simp only [ixD, if_pos (Int.natCast_nonneg i), if_pos h1, Int.toNat_natCast]
theorem in63 {i : Nat} (h : i < 1000000000) : -(2 ^ 63) ≤ (i : Int) ∧ (i : Int) < 2 ^ 63 := by omega
theorem mt_popAt {xs : List D} {i : Int} : mtD .popAt xs [.int i] = if -(2 ^ 63) ≤ i ∧ i < 2 ^ 63 then (ixD xs.length i).bind fun k => (xs[k]?).map fun y => (y, xs.eraseIdx k) else none := by
  simp only [mtD]
theorem mt_popAt2 {xs : List D} {i : Int} (h : -(2 ^ 63) ≤ i ∧ i < 2 ^ 63) : mtD .popAt xs [.int i] = (ixD xs.length i).bind fun k => (xs[k]?).map fun y => (y, xs.eraseIdx k) := by
  rw [mt_popAt, if_pos h]
theorem popAt_ok {xs : List D} {i : Nat} {y : D} (h : xs[i]? = some y) (hl : i < 1000000000) : mtO .popAt xs [.int i] = some (y, xs.eraseIdx i) := by
  rw [mtO_eq, mt_popAt2 (in63 hl), ix_nat (List.getElem?_eq_some_iff.mp h).1]
  simp only [Option.bind_some, h, Option.map_some]
def cutI (xs : List Int) (lo hi : Option Int) : List Int := (xs.drop (sixD xs.length 0 lo)).take (sixD xs.length xs.length hi - sixD xs.length 0 lo)
@[simp] theorem cut_iD (xs : List Int) (lo hi : Option Int) : cutD (iD xs) lo hi = iD (cutI xs lo hi) := by
  simp only [cutD, cutI, iD_len, iD, List.map_drop, List.map_take, List.length_map]
@[simp] theorem slc_tup (xs : List D) (lo hi : Option Int) : slcD lo hi (.tup xs) = some (.fz (.tup (cutD xs lo hi))) := rfl
@[simp] theorem slc_lst (xs : List D) (lo hi : Option Int) : slcD lo hi (.lst xs) = some (.tmp (cutD xs lo hi)) := rfl
theorem cutI_take {xs : List Int} {i : Nat} (h : i ≤ xs.length) : cutI xs none (some (i : Int)) = xs.take i := by
  have : ¬ (i : Int) < 0 := by omega
  simp [cutI, sixD, this, Nat.min_eq_left h]
theorem cutI_drop {xs : List Int} {i : Nat} (h : i ≤ xs.length) : cutI xs (some (i : Int)) none = xs.drop i := by
  have : ¬ (i : Int) < 0 := by omega
  simp [cutI, sixD, this, Nat.min_eq_left h]
  exact List.take_of_length_le (by simp)
theorem bop_mul_tup {xs : List D} {k : Int} (h : 0 < xs.length ∧ 1 ≤ k ∧ k ≤ 1000 ∧ xs.length ≤ 1000) : bopO .mul (.tup xs) (.int k) = some (.fz (.tup (List.replicate k.toNat xs).flatten)) := by
  rw [bopO_eq]; simp only [bop, if_pos h]
theorem bop_mul_lst0 {xs : List D} {k : Int} : bop .mul (.lst xs) (.int k) = if -(2 ^ 63) ≤ k ∧ k < 2 ^ 63 ∧ xs.length * k.toNat ≤ sizeLine then some (.tmp (List.replicate k.toNat xs).flatten) else none := by simp only [bop]
theorem bop_mul_lst {xs : List D} {k : Nat} (hk : k < 1000000000) (h : xs.length * k ≤ sizeLine) : bopO .mul (.lst xs) (.int k) = some (.tmp (List.replicate k xs).flatten) := by
  rw [bopO_eq, bop_mul_lst0, if_pos ⟨(in63 hk).1, (in63 hk).2, by simpa using h⟩, Int.toNat_natCast]
theorem iD_erase (xs : List Int) (i : Nat) : (iD xs).eraseIdx i = iD (xs.eraseIdx i) := by
  induction xs generalizing i with
  | nil => rfl
  | cons x xs ih => cases i with
    | zero => rfl
    | succ i => simp only [iD_cons, List.eraseIdx_cons_succ, ih]
theorem big_of {i : Int} (h : -1000000000 ≤ i ∧ i ≤ 1000000000) : -big < i ∧ i < big := by unfold big; omega
/-! try -/
def tq (hs : D → Sts → Out) (Q : Out → Prop) (o : Out) : Prop := match o with
  | .er x s => Wp (hs x s) Q
  | o => Q o
theorem wTry0 {cb : Sts → Out} {hs : D → Sts → Out} {s : Sts} {Q : Out → Prop} (hh : ∀ x s t, Le s t → OLe (hs x s) (hs x t)) : Wp (tryC cb hs s) Q ↔ Wp (cb s) (tq hs Q) := by
  unfold tryC
  constructor
  · rintro ⟨o, h1, h2, h3⟩
    cases e : cb s with
    | er x t => rw [e] at h2; exact ⟨.er x t, nofun, OLe.rfl, ⟨o, h1, h2, h3⟩⟩
    | no => rw [e] at h2; exact absurd h2.no_of h1
    | _ =>
      rw [e] at h2
      refine ⟨o, h1, h2, ?_⟩
      cases o <;> first | exact h3 | (obtain ⟨_, q, _⟩ := h2; cases q)
  · rintro ⟨o, h1, h2, h3⟩
    cases o with
    | no => exact absurd rfl h1
    | er x s1 => obtain ⟨t, e, hl⟩ := h2; rw [e]; exact Wp.mono h3 (hh _ _ _ hl)
    | _ => obtain ⟨t, e, hl⟩ := h2; rw [e]; exact ⟨_, h1, ⟨t, rfl, hl⟩, h3⟩
@[simp] theorem wTryAs {n : Nat} {G : Env} {b : List IS} {c i : Nat} {bs : List (List IS)} {s : Sts} {Q : Out → Prop} : Wp (evS n G (.tryAs b c i bs) s) Q ↔ Wp (evB n G b s) (tq (asC c i (evBs n G bs)) Q) := by
  rw [yTryAs]; exact wTry0 fun x s t h => asC_le h fun k s t h => evBs_le n G bs k h
@[simp] theorem wTry {n : Nat} {G : Env} {b : List IS} {hs : List IH} {s : Sts} {Q : Out → Prop} : Wp (evS n G (.try_ b hs) s) Q ↔ Wp (evB n G b s) (tq (evHs n G hs) Q) := by
  rw [yTry]; exact wTry0 fun x s t h => evHs_le n G hs x h
@[simp] theorem wTqR {hs : D → Sts → Out} {Q : Out → Prop} {p : PV} {s : Sts} : Wp (.rt p s) (tq hs Q) ↔ Wp (.rt p s) Q := by
  constructor <;> rintro ⟨o, h1, h2, h3⟩ <;> refine ⟨o, h1, h2, ?_⟩ <;> cases o <;> first | exact h3 | (obtain ⟨_, q, _⟩ := h2; cases q)
@[simp] theorem wTqN {hs : D → Sts → Out} {Q : Out → Prop} {s : Sts} : Wp (.nx s) (tq hs Q) ↔ Wp (.nx s) Q := by
  constructor <;> rintro ⟨o, h1, h2, h3⟩ <;> refine ⟨o, h1, h2, ?_⟩ <;> cases o <;> first | exact h3 | (obtain ⟨_, q, _⟩ := h2; cases q)
theorem wTqE0 {hs : D → Sts → Out} {Q : Out → Prop} {x : D} {s : Sts} (hh : ∀ x s t, Le s t → OLe (hs x s) (hs x t)) : Wp (.er x s) (tq hs Q) ↔ Wp (hs x s) Q := by
  constructor
  · rintro ⟨o, h1, h2, h3⟩
    cases o with
    | er y s1 => obtain ⟨t, e, hl⟩ := h2; cases e; exact Wp.mono h3 (hh _ _ _ hl)
    | no => exact absurd rfl h1
    | _ => obtain ⟨_, q, _⟩ := h2; cases q
  · exact fun h => .er h
@[simp] theorem wTqEA {n : Nat} {G : Env} {c i : Nat} {bs : List (List IS)} {Q : Out → Prop} {x : D} {s : Sts} : Wp (.er x s) (tq (asC c i (evBs n G bs)) Q) ↔ Wp (asC c i (evBs n G bs) x s) Q := wTqE0 fun x s t h => asC_le h fun k s t h => evBs_le n G bs k h
@[simp] theorem wTqEH {n : Nat} {G : Env} {hs : List IH} {Q : Out → Prop} {x : D} {s : Sts} : Wp (.er x s) (tq (evHs n G hs) Q) ↔ Wp (evHs n G hs x s) Q := wTqE0 fun x s t h => evHs_le n G hs x h
@[simp] theorem asC_exc {c i k : Nat} {f : Nat → Sts → Out} {s : Sts} : asC c i f (.exc k []) s = if (k == c || c == 0) = true then (if free s i = true then onRt (f k (s.set i .non)) else .no) else .er (.exc k []) s := rfl
@[simp] theorem evBs_0 {n : Nat} {G : Env} {b : List IS} {bs : List (List IS)} {s : Sts} : evBs n G (b :: bs) 0 s = evB n G b s := rfl
@[simp] theorem evBs_s {n k : Nat} {G : Env} {b : List IS} {bs : List (List IS)} {s : Sts} : evBs n G (b :: bs) (k + 1) s = evBs n G bs k s := rfl
@[simp] theorem evHs_exc {n k c : Nat} {G : Env} {b : List IS} {hs : List IH} {s : Sts} : evHs n G (.mk c b :: hs) (.exc k []) s = if (k == c || c == 0) = true then noEr (evB n G b s) else evHs n G hs (.exc k []) s := rfl
@[simp] theorem evHs_nil {n : Nat} {G : Env} {x : D} {s : Sts} : evHs n G [] x s = .er x s := rfl
def rq (Q : Out → Prop) (o : Out) : Prop := match o with
  | .rt p s => Q (.rt p s)
  | _ => False
def nq (Q : Out → Prop) (o : Out) : Prop := match o with
  | .er _ _ => False
  | o => Q o
@[simp] theorem wOnRt {o : Out} {Q : Out → Prop} : Wp (onRt o) Q ↔ Wp o (rq Q) := by
  constructor
  · rintro ⟨o2, h1, h2, h3⟩
    cases o with
    | rt p s =>
      refine ⟨o2, h1, h2, ?_⟩
      cases o2 <;> first | exact h3 | exact absurd rfl h1 | (obtain ⟨_, q, _⟩ := h2; cases q)
    | _ => exact absurd h2.no_of h1
  · rintro ⟨o2, h1, h2, h3⟩
    cases o2 with
    | rt p s => obtain ⟨t, rfl, hl⟩ := h2; exact ⟨.rt p s, h1, ⟨t, rfl, hl⟩, h3⟩
    | _ => exact h3.elim
@[simp] theorem wRq {Q : Out → Prop} {p : PV} {s : Sts} : Wp (.rt p s) (rq Q) ↔ Wp (.rt p s) Q := by
  constructor <;> rintro ⟨o, h1, h2, h3⟩ <;> refine ⟨o, h1, h2, ?_⟩ <;> cases o <;> first | exact h3 | exact h3.elim | exact absurd rfl h1 | (obtain ⟨_, q, _⟩ := h2; cases q)
@[simp] theorem wNoEr {o : Out} {Q : Out → Prop} : Wp (noEr o) Q ↔ Wp o (nq Q) := by
  constructor
  · rintro ⟨o2, h1, h2, h3⟩
    cases o with
    | er x s => exact absurd h2.no_of h1
    | no => exact absurd h2.no_of h1
    | _ =>
      refine ⟨o2, h1, h2, ?_⟩
      cases o2 <;> first | exact h3 | (obtain ⟨_, q, _⟩ := h2; cases q)
  · rintro ⟨o2, h1, h2, h3⟩
    cases o2 with
    | er x s => exact h3.elim
    | no => exact absurd rfl h1
    | _ => obtain ⟨t, rfl, hl⟩ := h2; exact ⟨_, h1, ⟨t, rfl, hl⟩, h3⟩
@[simp] theorem wNqR {Q : Out → Prop} {p : PV} {s : Sts} : Wp (.rt p s) (nq Q) ↔ Wp (.rt p s) Q := by
  constructor <;> rintro ⟨o, h1, h2, h3⟩ <;> refine ⟨o, h1, h2, ?_⟩ <;> cases o <;> first | exact h3 | exact h3.elim | (obtain ⟨_, q, _⟩ := h2; cases q)
@[simp] theorem wNqN {Q : Out → Prop} {s : Sts} : Wp (.nx s) (nq Q) ↔ Wp (.nx s) Q := by
  constructor <;> rintro ⟨o, h1, h2, h3⟩ <;> refine ⟨o, h1, h2, ?_⟩ <;> cases o <;> first | exact h3 | exact h3.elim | (obtain ⟨_, q, _⟩ := h2; cases q)
@[simp] theorem sub_lst_0 (x0 : D) (ds : List D) : subD (.lst (x0 :: ds)) (.int 0) = some x0 := by
  have := sub_lst (ds := x0 :: ds) (j := 0) rfl
  exact this
@[simp] theorem sub_lst_1 (x0 x1 : D) (ds : List D) : subD (.lst (x0 :: x1 :: ds)) (.int 1) = some x1 := by
  have := sub_lst (ds := x0 :: x1 :: ds) (j := 1) rfl
  exact this
@[simp] theorem sub_lst_2 (x0 x1 x2 : D) (ds : List D) : subD (.lst (x0 :: x1 :: x2 :: ds)) (.int 2) = some x2 := by
  have := sub_lst (ds := x0 :: x1 :: x2 :: ds) (j := 2) rfl
  exact this
@[simp] theorem sub_lst_3 (x0 x1 x2 x3 : D) (ds : List D) : subD (.lst (x0 :: x1 :: x2 :: x3 :: ds)) (.int 3) = some x3 := by
  have := sub_lst (ds := x0 :: x1 :: x2 :: x3 :: ds) (j := 3) rfl
  exact this
@[simp] theorem sub_lst_4 (x0 x1 x2 x3 x4 : D) (ds : List D) : subD (.lst (x0 :: x1 :: x2 :: x3 :: x4 :: ds)) (.int 4) = some x4 := by
  have := sub_lst (ds := x0 :: x1 :: x2 :: x3 :: x4 :: ds) (j := 4) rfl
  exact this
@[simp] theorem sub_lst_5 (x0 x1 x2 x3 x4 x5 : D) (ds : List D) : subD (.lst (x0 :: x1 :: x2 :: x3 :: x4 :: x5 :: ds)) (.int 5) = some x5 := by
  have := sub_lst (ds := x0 :: x1 :: x2 :: x3 :: x4 :: x5 :: ds) (j := 5) rfl
  exact this
@[simp] theorem sub_lst_6 (x0 x1 x2 x3 x4 x5 x6 : D) (ds : List D) : subD (.lst (x0 :: x1 :: x2 :: x3 :: x4 :: x5 :: x6 :: ds)) (.int 6) = some x6 := by
  have := sub_lst (ds := x0 :: x1 :: x2 :: x3 :: x4 :: x5 :: x6 :: ds) (j := 6) rfl
  exact this
@[simp] theorem sub_lst_7 (x0 x1 x2 x3 x4 x5 x6 x7 : D) (ds : List D) : subD (.lst (x0 :: x1 :: x2 :: x3 :: x4 :: x5 :: x6 :: x7 :: ds)) (.int 7) = some x7 := by
  have := sub_lst (ds := x0 :: x1 :: x2 :: x3 :: x4 :: x5 :: x6 :: x7 :: ds) (j := 7) rfl
  exact this
@[simp] theorem sub_tup_0 (x0 : D) (ds : List D) : subD (.tup (x0 :: ds)) (.int 0) = some x0 := by
  have := sub_tup (ds := x0 :: ds) (j := 0) rfl
  exact this
@[simp] theorem sub_tup_1 (x0 x1 : D) (ds : List D) : subD (.tup (x0 :: x1 :: ds)) (.int 1) = some x1 := by
  have := sub_tup (ds := x0 :: x1 :: ds) (j := 1) rfl
  exact this
@[simp] theorem sub_tup_2 (x0 x1 x2 : D) (ds : List D) : subD (.tup (x0 :: x1 :: x2 :: ds)) (.int 2) = some x2 := by
  have := sub_tup (ds := x0 :: x1 :: x2 :: ds) (j := 2) rfl
  exact this
@[simp] theorem sub_tup_3 (x0 x1 x2 x3 : D) (ds : List D) : subD (.tup (x0 :: x1 :: x2 :: x3 :: ds)) (.int 3) = some x3 := by
  have := sub_tup (ds := x0 :: x1 :: x2 :: x3 :: ds) (j := 3) rfl
  exact this
@[simp] theorem sub_tup_4 (x0 x1 x2 x3 x4 : D) (ds : List D) : subD (.tup (x0 :: x1 :: x2 :: x3 :: x4 :: ds)) (.int 4) = some x4 := by
  have := sub_tup (ds := x0 :: x1 :: x2 :: x3 :: x4 :: ds) (j := 4) rfl
  exact this
@[simp] theorem sub_tup_5 (x0 x1 x2 x3 x4 x5 : D) (ds : List D) : subD (.tup (x0 :: x1 :: x2 :: x3 :: x4 :: x5 :: ds)) (.int 5) = some x5 := by
  have := sub_tup (ds := x0 :: x1 :: x2 :: x3 :: x4 :: x5 :: ds) (j := 5) rfl
  exact this
@[simp] theorem sub_tup_6 (x0 x1 x2 x3 x4 x5 x6 : D) (ds : List D) : subD (.tup (x0 :: x1 :: x2 :: x3 :: x4 :: x5 :: x6 :: ds)) (.int 6) = some x6 := by
  have := sub_tup (ds := x0 :: x1 :: x2 :: x3 :: x4 :: x5 :: x6 :: ds) (j := 6) rfl
  exact this
@[simp] theorem sub_tup_7 (x0 x1 x2 x3 x4 x5 x6 x7 : D) (ds : List D) : subD (.tup (x0 :: x1 :: x2 :: x3 :: x4 :: x5 :: x6 :: x7 :: ds)) (.int 7) = some x7 := by
  have := sub_tup (ds := x0 :: x1 :: x2 :: x3 :: x4 :: x5 :: x6 :: x7 :: ds) (j := 7) rfl
  exact this
@[simp] theorem sub_gvn_0 (x0 : D) (ds : List D) : subD (.gvn (x0 :: ds)) (.int 0) = some x0 := by
  have := sub_lst (ds := x0 :: ds) (j := 0) rfl
  exact this
@[simp] theorem sub_gvn_1 (x0 x1 : D) (ds : List D) : subD (.gvn (x0 :: x1 :: ds)) (.int 1) = some x1 := by
  have := sub_lst (ds := x0 :: x1 :: ds) (j := 1) rfl
  exact this
theorem sL {n : Nat} (h : n ≤ 100000) : n ≤ sizeLine := Nat.le_trans h (by decide)
theorem sLt {n : Nat} (h : n ≤ 100000) : n < sizeLine := Nat.lt_of_le_of_lt h (by decide)
end Z

namespace Z
open PySem
def g_is_within : Nat := 0
def g_are_ascending : Nat := 1
def g_is_state : Nat := 2
def g_check_state : Nat := 3
def g_fits : Nat := 4
def g_behind : Nat := 5
def g_thrown : Nat := 6
def g_check_both : Nat := 7
def g_does_reach : Nat := 8
def g_gap_of : Nat := 9
def g_way_of : Nat := 10
def g_is_way : Nat := 11
def g_need : Nat := 12
def g_is_state_v2 : Nat := 13
def g_step : Nat := 14
def g_end_of : Nat := 15
def g_takes_way : Nat := 16
def g_law_draws_v2 : Nat := 17
def g_law_take : Nat := 18
def g_law_pick : Nat := 19
def g_law_shuffled : Nat := 20
def g_law_same_v2 : Nat := 21
def g_law_step : Nat := 22
def g_law_end : Nat := 23
def g_law_state : Nat := 24
def g_law_fits : Nat := 25
def g_law_told_v5 : Nat := 26
def g_law_two : Nat := 27
def g_law_is_way_told : Nat := 28
def g_law_k25 : Nat := 29
def g_is_row : Nat := 1000
def g_land : Nat := 1001
def g_is_pattern : Nat := 1002
def g_check_row : Nat := 1003
def g_check_pattern : Nat := 1004
def g_landings : Nat := 1005
def g_clash_of : Nat := 1006
def g_count_balls : Nat := 1007
def g_balls_of : Nat := 1008
def g_law_draws : Nat := 1009
def g_law_same : Nat := 1010
def g_law_mixed : Nat := 1011
def g_law_row : Nat := 1012
def g_law_pattern : Nat := 1013
def g_law_clash : Nat := 1014
def g_law_told : Nat := 1015
def g_law_of_length : Nat := 1016
def g_law_pattern_v2 : Nat := 1017
def g_can_throw : Nat := 1018
def g_next_state : Nat := 1019
def g_ground : Nat := 1020
def g_row_back : Nat := 1021
def g_law_is_state : Nat := 1022
def g_law_near : Nat := 1023
def g_law_told_v4 : Nat := 1024
def g_law_behind : Nat := 1025
def g_law_run : Nat := 1026
def B_is_within : List IS := [.ret (.and (.isi (.var 0) [.ty "int"]) (.and (.not (.isi (.var 0) [.ty "bool"])) (.cmp2 .le .le (.var 1) (.var 0) (.var 2))))]
/-- 0:value 1:low 2:high -/
def F_is_within : Fn := ⟨[false, false, false], 3, B_is_within⟩
class C_is_within (T : List Fn) : Prop where at_is_within : T[g_is_within]? = some F_is_within
@[simp] theorem env_is_within {T : List Fn} {m k : Nat} [C_is_within T] : envT T m k g_is_within = some ([false, false, false], runF T m k g_is_within) := envT_at (F := F_is_within) C_is_within.at_is_within
theorem go_is_within {T : List Fn} {m k : Nat} {as : List Sl} {r : CR} [C_is_within T] (hl : as.length = 3) (hn : r ≠ .no) (hw : Wp (evB m (envT T m k) B_is_within (as ++ List.replicate (3 - as.length) .non)) (Fin as r)) : runF T m (k + 1) g_is_within as = r := runF_wp (F := F_is_within) C_is_within.at_is_within hl.symm hn hw
theorem gox_is_within {T : List Fn} {m k : Nat} {as : List Sl} {P : CR → Prop} [C_is_within T] (hl : as.length = 3) (hn : ∀ r, P r → r ≠ .no) (hw : ∀ R, FinR as P R → Wp (evB m (envT T m k) B_is_within (as ++ List.replicate (3 - as.length) .non)) R) : P (runF T m (k + 1) g_is_within as) := runF_ex (F := F_is_within) C_is_within.at_is_within hl.symm hn hw
def are_ascending_C1 : IE := .cmp .lt (.var 1) (.var 2)
def B_are_ascending : List IS := [.ret (.blt .all [.lc [1, 2] (.tup [.var 1, .var 2]) (.zip (.var 0) (.slc (.var 0) (some (.con (.int 1))) none)) [] are_ascending_C1])]
/-- 0:values 1:one 2:other -/
def F_are_ascending : Fn := ⟨[false], 3, B_are_ascending⟩
class C_are_ascending (T : List Fn) : Prop where at_are_ascending : T[g_are_ascending]? = some F_are_ascending
@[simp] theorem env_are_ascending {T : List Fn} {m k : Nat} [C_are_ascending T] : envT T m k g_are_ascending = some ([false], runF T m k g_are_ascending) := envT_at (F := F_are_ascending) C_are_ascending.at_are_ascending
theorem go_are_ascending {T : List Fn} {m k : Nat} {as : List Sl} {r : CR} [C_are_ascending T] (hl : as.length = 1) (hn : r ≠ .no) (hw : Wp (evB m (envT T m k) B_are_ascending (as ++ List.replicate (3 - as.length) .non)) (Fin as r)) : runF T m (k + 1) g_are_ascending as = r := runF_wp (F := F_are_ascending) C_are_ascending.at_are_ascending hl.symm hn hw
theorem gox_are_ascending {T : List Fn} {m k : Nat} {as : List Sl} {P : CR → Prop} [C_are_ascending T] (hl : as.length = 1) (hn : ∀ r, P r → r ≠ .no) (hw : ∀ R, FinR as P R → Wp (evB m (envT T m k) B_are_ascending (as ++ List.replicate (3 - as.length) .non)) R) : P (runF T m (k + 1) g_are_ascending as) := runF_ex (F := F_are_ascending) C_are_ascending.at_are_ascending hl.symm hn hw
def is_state_C1 : IE := .call g_is_within [.var 1, .con (.int 0), .con (.int 60)]
def B_is_state : List IS := [.ife (.or (.not (.isi (.var 0) [.ty "tuple"])) (.cmp .gt (.blt .len [.var 0]) (.con (.int 60)))) [.ret (.con (.bl false))] [], .ret (.and (.blt .all [.lc [1] (.var 1) (.seq (.var 0)) [] is_state_C1]) (.call g_are_ascending [.var 0]))]
/-- 0:value 1:one -/
def F_is_state : Fn := ⟨[false], 2, B_is_state⟩
class C_is_state (T : List Fn) : Prop extends C_is_within T, C_are_ascending T where at_is_state : T[g_is_state]? = some F_is_state
@[simp] theorem env_is_state {T : List Fn} {m k : Nat} [C_is_state T] : envT T m k g_is_state = some ([false], runF T m k g_is_state) := envT_at (F := F_is_state) C_is_state.at_is_state
theorem go_is_state {T : List Fn} {m k : Nat} {as : List Sl} {r : CR} [C_is_state T] (hl : as.length = 1) (hn : r ≠ .no) (hw : Wp (evB m (envT T m k) B_is_state (as ++ List.replicate (2 - as.length) .non)) (Fin as r)) : runF T m (k + 1) g_is_state as = r := runF_wp (F := F_is_state) C_is_state.at_is_state hl.symm hn hw
theorem gox_is_state {T : List Fn} {m k : Nat} {as : List Sl} {P : CR → Prop} [C_is_state T] (hl : as.length = 1) (hn : ∀ r, P r → r ≠ .no) (hw : ∀ R, FinR as P R → Wp (evB m (envT T m k) B_is_state (as ++ List.replicate (2 - as.length) .non)) R) : P (runF T m (k + 1) g_is_state as) := runF_ex (F := F_is_state) C_is_state.at_is_state hl.symm hn hw
def B_check_state : List IS := [.ife (.not (.call g_is_state [.var 0])) [.raise 1] []]
/-- 0:state -/
def F_check_state : Fn := ⟨[false], 1, B_check_state⟩
class C_check_state (T : List Fn) : Prop extends C_is_state T where at_check_state : T[g_check_state]? = some F_check_state
@[simp] theorem env_check_state {T : List Fn} {m k : Nat} [C_check_state T] : envT T m k g_check_state = some ([false], runF T m k g_check_state) := envT_at (F := F_check_state) C_check_state.at_check_state
theorem go_check_state {T : List Fn} {m k : Nat} {as : List Sl} {r : CR} [C_check_state T] (hl : as.length = 1) (hn : r ≠ .no) (hw : Wp (evB m (envT T m k) B_check_state (as ++ List.replicate (1 - as.length) .non)) (Fin as r)) : runF T m (k + 1) g_check_state as = r := runF_wp (F := F_check_state) C_check_state.at_check_state hl.symm hn hw
theorem gox_check_state {T : List Fn} {m k : Nat} {as : List Sl} {P : CR → Prop} [C_check_state T] (hl : as.length = 1) (hn : ∀ r, P r → r ≠ .no) (hw : ∀ R, FinR as P R → Wp (evB m (envT T m k) B_check_state (as ++ List.replicate (1 - as.length) .non)) R) : P (runF T m (k + 1) g_check_state as) := runF_ex (F := F_check_state) C_check_state.at_check_state hl.symm hn hw
def B_fits : List IS := [.ife (.cmp .eq (.var 1) (.con (.int 0))) [.ret (.cmp .nin (.con (.int 0)) (.var 0))] [], .ret (.and (.cmp .gt (.var 1) (.con (.int 0))) (.and (.cmp .inn (.con (.int 0)) (.var 0)) (.cmp .nin (.var 1) (.var 0))))]
/-- 0:state 1:h -/
def F_fits : Fn := ⟨[false, false], 2, B_fits⟩
class C_fits (T : List Fn) : Prop where at_fits : T[g_fits]? = some F_fits
@[simp] theorem env_fits {T : List Fn} {m k : Nat} [C_fits T] : envT T m k g_fits = some ([false, false], runF T m k g_fits) := envT_at (F := F_fits) C_fits.at_fits
theorem go_fits {T : List Fn} {m k : Nat} {as : List Sl} {r : CR} [C_fits T] (hl : as.length = 2) (hn : r ≠ .no) (hw : Wp (evB m (envT T m k) B_fits (as ++ List.replicate (2 - as.length) .non)) (Fin as r)) : runF T m (k + 1) g_fits as = r := runF_wp (F := F_fits) C_fits.at_fits hl.symm hn hw
theorem gox_fits {T : List Fn} {m k : Nat} {as : List Sl} {P : CR → Prop} [C_fits T] (hl : as.length = 2) (hn : ∀ r, P r → r ≠ .no) (hw : ∀ R, FinR as P R → Wp (evB m (envT T m k) B_fits (as ++ List.replicate (2 - as.length) .non)) R) : P (runF T m (k + 1) g_fits as) := runF_ex (F := F_fits) C_fits.at_fits hl.symm hn hw
def behind_C1 : IE := .bin .sub (.var 3) (.con (.int 1))
def B_behind : List IS := [.asg (.var 2) (.lc [3] (.var 3) (.seq (.var 0)) [.cmp .gt (.var 3) (.con (.int 0))] behind_C1), .ret (.ife (.cmp .gt (.var 1) (.con (.int 0))) (.blt .tuple [.blt .sorted [.bin .add (.var 2) (.lst [.bin .sub (.var 1) (.con (.int 1))])]]) (.blt .tuple [.var 2]))]
/-- 0:state 1:h 2:left 3:one -/
def F_behind : Fn := ⟨[false, false], 4, B_behind⟩
class C_behind (T : List Fn) : Prop where at_behind : T[g_behind]? = some F_behind
@[simp] theorem env_behind {T : List Fn} {m k : Nat} [C_behind T] : envT T m k g_behind = some ([false, false], runF T m k g_behind) := envT_at (F := F_behind) C_behind.at_behind
theorem go_behind {T : List Fn} {m k : Nat} {as : List Sl} {r : CR} [C_behind T] (hl : as.length = 2) (hn : r ≠ .no) (hw : Wp (evB m (envT T m k) B_behind (as ++ List.replicate (4 - as.length) .non)) (Fin as r)) : runF T m (k + 1) g_behind as = r := runF_wp (F := F_behind) C_behind.at_behind hl.symm hn hw
theorem gox_behind {T : List Fn} {m k : Nat} {as : List Sl} {P : CR → Prop} [C_behind T] (hl : as.length = 2) (hn : ∀ r, P r → r ≠ .no) (hw : ∀ R, FinR as P R → Wp (evB m (envT T m k) B_behind (as ++ List.replicate (4 - as.length) .non)) R) : P (runF T m (k + 1) g_behind as) := runF_ex (F := F_behind) C_behind.at_behind hl.symm hn hw
def thrown_L1 : List IS := [.ife (.not (.call g_fits [.var 0, .var 2])) [.ret (.con .non)] [], .asg (.var 0) (.call g_behind [.var 0, .var 2])]
def B_thrown : List IS := [.for_ (.var 2) (.seq (.var 1)) thrown_L1, .ret (.var 0)]
/-- 0:state 1:heights 2:h -/
def F_thrown : Fn := ⟨[false, false], 3, B_thrown⟩
class C_thrown (T : List Fn) : Prop extends C_fits T, C_behind T where at_thrown : T[g_thrown]? = some F_thrown
@[simp] theorem env_thrown {T : List Fn} {m k : Nat} [C_thrown T] : envT T m k g_thrown = some ([false, false], runF T m k g_thrown) := envT_at (F := F_thrown) C_thrown.at_thrown
theorem go_thrown {T : List Fn} {m k : Nat} {as : List Sl} {r : CR} [C_thrown T] (hl : as.length = 2) (hn : r ≠ .no) (hw : Wp (evB m (envT T m k) B_thrown (as ++ List.replicate (3 - as.length) .non)) (Fin as r)) : runF T m (k + 1) g_thrown as = r := runF_wp (F := F_thrown) C_thrown.at_thrown hl.symm hn hw
theorem gox_thrown {T : List Fn} {m k : Nat} {as : List Sl} {P : CR → Prop} [C_thrown T] (hl : as.length = 2) (hn : ∀ r, P r → r ≠ .no) (hw : ∀ R, FinR as P R → Wp (evB m (envT T m k) B_thrown (as ++ List.replicate (3 - as.length) .non)) R) : P (runF T m (k + 1) g_thrown as) := runF_ex (F := F_thrown) C_thrown.at_thrown hl.symm hn hw
def B_check_both : List IS := [.expr (.call g_check_state [.var 0]), .expr (.call g_check_state [.var 1]), .ife (.cmp .ne (.blt .len [.var 0]) (.blt .len [.var 1])) [.raise 2] []]
/-- 0:state 1:other -/
def F_check_both : Fn := ⟨[false, false], 2, B_check_both⟩
class C_check_both (T : List Fn) : Prop extends C_check_state T where at_check_both : T[g_check_both]? = some F_check_both
@[simp] theorem env_check_both {T : List Fn} {m k : Nat} [C_check_both T] : envT T m k g_check_both = some ([false, false], runF T m k g_check_both) := envT_at (F := F_check_both) C_check_both.at_check_both
theorem go_check_both {T : List Fn} {m k : Nat} {as : List Sl} {r : CR} [C_check_both T] (hl : as.length = 2) (hn : r ≠ .no) (hw : Wp (evB m (envT T m k) B_check_both (as ++ List.replicate (2 - as.length) .non)) (Fin as r)) : runF T m (k + 1) g_check_both as = r := runF_wp (F := F_check_both) C_check_both.at_check_both hl.symm hn hw
theorem gox_check_both {T : List Fn} {m k : Nat} {as : List Sl} {P : CR → Prop} [C_check_both T] (hl : as.length = 2) (hn : ∀ r, P r → r ≠ .no) (hw : ∀ R, FinR as P R → Wp (evB m (envT T m k) B_check_both (as ++ List.replicate (2 - as.length) .non)) R) : P (runF T m (k + 1) g_check_both as) := runF_ex (F := F_check_both) C_check_both.at_check_both hl.symm hn hw
def does_reach_C1 : IE := .cmp .inn (.bin .sub (.var 3) (.var 2)) (.var 1)
def B_does_reach : List IS := [.ret (.blt .all [.lc [3] (.var 3) (.seq (.var 0)) [.cmp .ge (.var 3) (.var 2)] does_reach_C1])]
/-- 0:state 1:other 2:length 3:one -/
def F_does_reach : Fn := ⟨[false, false, false], 4, B_does_reach⟩
class C_does_reach (T : List Fn) : Prop where at_does_reach : T[g_does_reach]? = some F_does_reach
@[simp] theorem env_does_reach {T : List Fn} {m k : Nat} [C_does_reach T] : envT T m k g_does_reach = some ([false, false, false], runF T m k g_does_reach) := envT_at (F := F_does_reach) C_does_reach.at_does_reach
theorem go_does_reach {T : List Fn} {m k : Nat} {as : List Sl} {r : CR} [C_does_reach T] (hl : as.length = 3) (hn : r ≠ .no) (hw : Wp (evB m (envT T m k) B_does_reach (as ++ List.replicate (4 - as.length) .non)) (Fin as r)) : runF T m (k + 1) g_does_reach as = r := runF_wp (F := F_does_reach) C_does_reach.at_does_reach hl.symm hn hw
theorem gox_does_reach {T : List Fn} {m k : Nat} {as : List Sl} {P : CR → Prop} [C_does_reach T] (hl : as.length = 3) (hn : ∀ r, P r → r ≠ .no) (hw : ∀ R, FinR as P R → Wp (evB m (envT T m k) B_does_reach (as ++ List.replicate (4 - as.length) .non)) R) : P (runF T m (k + 1) g_does_reach as) := runF_ex (F := F_does_reach) C_does_reach.at_does_reach hl.symm hn hw
def gap_of_L1 : List IS := [.aug 2 .add (.con (.int 1))]
def B_gap_of : List IS := [.expr (.call g_check_both [.var 0, .var 1]), .asg (.var 2) (.con (.int 0)), .whl (.not (.call g_does_reach [.var 0, .var 1, .var 2])) gap_of_L1, .ret (.var 2)]
/-- 0:state 1:other 2:length -/
def F_gap_of : Fn := ⟨[false, false], 3, B_gap_of⟩
class C_gap_of (T : List Fn) : Prop extends C_check_both T, C_does_reach T where at_gap_of : T[g_gap_of]? = some F_gap_of
@[simp] theorem env_gap_of {T : List Fn} {m k : Nat} [C_gap_of T] : envT T m k g_gap_of = some ([false, false], runF T m k g_gap_of) := envT_at (F := F_gap_of) C_gap_of.at_gap_of
theorem go_gap_of {T : List Fn} {m k : Nat} {as : List Sl} {r : CR} [C_gap_of T] (hl : as.length = 2) (hn : r ≠ .no) (hw : Wp (evB m (envT T m k) B_gap_of (as ++ List.replicate (3 - as.length) .non)) (Fin as r)) : runF T m (k + 1) g_gap_of as = r := runF_wp (F := F_gap_of) C_gap_of.at_gap_of hl.symm hn hw
theorem gox_gap_of {T : List Fn} {m k : Nat} {as : List Sl} {P : CR → Prop} [C_gap_of T] (hl : as.length = 2) (hn : ∀ r, P r → r ≠ .no) (hw : ∀ R, FinR as P R → Wp (evB m (envT T m k) B_gap_of (as ++ List.replicate (3 - as.length) .non)) R) : P (runF T m (k + 1) g_gap_of as) := runF_ex (F := F_gap_of) C_gap_of.at_gap_of hl.symm hn hw
def way_of_L1 : List IS := [.expr (.mut .append 4 [.ife (.cmp .inn (.var 5) (.var 0)) (.bin .sub (.mut .pop 3 []) (.var 5)) (.con (.int 0))])]
def way_of_C1 : IE := .bin .add (.var 6) (.var 2)
def B_way_of : List IS := [.expr (.call g_check_both [.var 0, .var 1]), .ife (.or (.cmp .lt (.var 2) (.con (.int 0))) (.not (.call g_does_reach [.var 0, .var 1, .var 2]))) [.raise 3] [], .asg (.var 3) (.lc [6] (.var 6) (.seq (.var 1)) [.cmp .nin (.bin .add (.var 6) (.var 2)) (.var 0)] way_of_C1), .asg (.var 4) (.lst []), .for_ (.var 5) (.rng (.con (.int 0)) (.var 2)) way_of_L1, .ret (.blt .tuple [.var 4])]
/-- 0:state 1:other 2:length 3:open_ones 4:heights 5:beat 6:one -/
def F_way_of : Fn := ⟨[false, false, false], 7, B_way_of⟩
class C_way_of (T : List Fn) : Prop extends C_check_both T, C_does_reach T where at_way_of : T[g_way_of]? = some F_way_of
@[simp] theorem env_way_of {T : List Fn} {m k : Nat} [C_way_of T] : envT T m k g_way_of = some ([false, false, false], runF T m k g_way_of) := envT_at (F := F_way_of) C_way_of.at_way_of
theorem go_way_of {T : List Fn} {m k : Nat} {as : List Sl} {r : CR} [C_way_of T] (hl : as.length = 3) (hn : r ≠ .no) (hw : Wp (evB m (envT T m k) B_way_of (as ++ List.replicate (7 - as.length) .non)) (Fin as r)) : runF T m (k + 1) g_way_of as = r := runF_wp (F := F_way_of) C_way_of.at_way_of hl.symm hn hw
theorem gox_way_of {T : List Fn} {m k : Nat} {as : List Sl} {P : CR → Prop} [C_way_of T] (hl : as.length = 3) (hn : ∀ r, P r → r ≠ .no) (hw : ∀ R, FinR as P R → Wp (evB m (envT T m k) B_way_of (as ++ List.replicate (7 - as.length) .non)) R) : P (runF T m (k + 1) g_way_of as) := runF_ex (F := F_way_of) C_way_of.at_way_of hl.symm hn hw
def B_is_way : List IS := [.expr (.call g_check_both [.var 0, .var 1]), .ret (.cmp .eq (.call g_thrown [.var 0, .var 2]) (.var 1))]
/-- 0:state 1:other 2:heights -/
def F_is_way : Fn := ⟨[false, false, false], 3, B_is_way⟩
class C_is_way (T : List Fn) : Prop extends C_check_both T, C_thrown T where at_is_way : T[g_is_way]? = some F_is_way
@[simp] theorem env_is_way {T : List Fn} {m k : Nat} [C_is_way T] : envT T m k g_is_way = some ([false, false, false], runF T m k g_is_way) := envT_at (F := F_is_way) C_is_way.at_is_way
theorem go_is_way {T : List Fn} {m k : Nat} {as : List Sl} {r : CR} [C_is_way T] (hl : as.length = 3) (hn : r ≠ .no) (hw : Wp (evB m (envT T m k) B_is_way (as ++ List.replicate (3 - as.length) .non)) (Fin as r)) : runF T m (k + 1) g_is_way as = r := runF_wp (F := F_is_way) C_is_way.at_is_way hl.symm hn hw
theorem gox_is_way {T : List Fn} {m k : Nat} {as : List Sl} {P : CR → Prop} [C_is_way T] (hl : as.length = 3) (hn : ∀ r, P r → r ≠ .no) (hw : ∀ R, FinR as P R → Wp (evB m (envT T m k) B_is_way (as ++ List.replicate (3 - as.length) .non)) R) : P (runF T m (k + 1) g_is_way as) := runF_ex (F := F_is_way) C_is_way.at_is_way hl.symm hn hw
def B_need : List IS := [.ife (.not (.var 0)) [.raise 1] []]
/-- 0:is_right -/
def F_need : Fn := ⟨[false], 1, B_need⟩
class C_need (T : List Fn) : Prop where at_need : T[g_need]? = some F_need
@[simp] theorem env_need {T : List Fn} {m k : Nat} [C_need T] : envT T m k g_need = some ([false], runF T m k g_need) := envT_at (F := F_need) C_need.at_need
theorem go_need {T : List Fn} {m k : Nat} {as : List Sl} {r : CR} [C_need T] (hl : as.length = 1) (hn : r ≠ .no) (hw : Wp (evB m (envT T m k) B_need (as ++ List.replicate (1 - as.length) .non)) (Fin as r)) : runF T m (k + 1) g_need as = r := runF_wp (F := F_need) C_need.at_need hl.symm hn hw
theorem gox_need {T : List Fn} {m k : Nat} {as : List Sl} {P : CR → Prop} [C_need T] (hl : as.length = 1) (hn : ∀ r, P r → r ≠ .no) (hw : ∀ R, FinR as P R → Wp (evB m (envT T m k) B_need (as ++ List.replicate (1 - as.length) .non)) R) : P (runF T m (k + 1) g_need as) := runF_ex (F := F_need) C_need.at_need hl.symm hn hw
def is_state_v2_C1 : IE := .call g_is_within [.var 1, .con (.int 0), .con (.int 60)]
def B_is_state_v2 : List IS := [.ife (.or (.not (.isi (.var 0) [.ty "tuple"])) (.or (.cmp .gt (.blt .len [.var 0]) (.con (.int 60))) (.not (.blt .all [.lc [1] (.var 1) (.seq (.var 0)) [] is_state_v2_C1])))) [.ret (.con (.bl false))] [], .ret (.call g_are_ascending [.var 0])]
/-- 0:value 1:one -/
def F_is_state_v2 : Fn := ⟨[false], 2, B_is_state_v2⟩
class C_is_state_v2 (T : List Fn) : Prop extends C_is_within T, C_are_ascending T where at_is_state_v2 : T[g_is_state_v2]? = some F_is_state_v2
@[simp] theorem env_is_state_v2 {T : List Fn} {m k : Nat} [C_is_state_v2 T] : envT T m k g_is_state_v2 = some ([false], runF T m k g_is_state_v2) := envT_at (F := F_is_state_v2) C_is_state_v2.at_is_state_v2
theorem go_is_state_v2 {T : List Fn} {m k : Nat} {as : List Sl} {r : CR} [C_is_state_v2 T] (hl : as.length = 1) (hn : r ≠ .no) (hw : Wp (evB m (envT T m k) B_is_state_v2 (as ++ List.replicate (2 - as.length) .non)) (Fin as r)) : runF T m (k + 1) g_is_state_v2 as = r := runF_wp (F := F_is_state_v2) C_is_state_v2.at_is_state_v2 hl.symm hn hw
theorem gox_is_state_v2 {T : List Fn} {m k : Nat} {as : List Sl} {P : CR → Prop} [C_is_state_v2 T] (hl : as.length = 1) (hn : ∀ r, P r → r ≠ .no) (hw : ∀ R, FinR as P R → Wp (evB m (envT T m k) B_is_state_v2 (as ++ List.replicate (2 - as.length) .non)) R) : P (runF T m (k + 1) g_is_state_v2 as) := runF_ex (F := F_is_state_v2) C_is_state_v2.at_is_state_v2 hl.symm hn hw
def step_C1 : IE := .bin .sub (.var 3) (.con (.int 1))
def B_step : List IS := [.ife (.or (.cmp .lt (.var 1) (.con (.int 0))) (.or (.cmp .inn (.var 1) (.var 0)) (.cmp .eq (.cmp .eq (.var 1) (.con (.int 0))) (.cmp .inn (.con (.int 0)) (.var 0))))) [.ret (.con .non)] [], .asg (.var 2) (.lc [3] (.var 3) (.seq (.var 0)) [.cmp .gt (.var 3) (.con (.int 0))] step_C1), .ret (.ife (.cmp .gt (.var 1) (.con (.int 0))) (.blt .tuple [.blt .sorted [.bin .add (.blt .list [.var 2]) (.lst [.bin .sub (.var 1) (.con (.int 1))])]]) (.blt .tuple [.var 2]))]
/-- 0:state 1:height 2:left 3:one -/
def F_step : Fn := ⟨[false, false], 4, B_step⟩
class C_step (T : List Fn) : Prop where at_step : T[g_step]? = some F_step
@[simp] theorem env_step {T : List Fn} {m k : Nat} [C_step T] : envT T m k g_step = some ([false, false], runF T m k g_step) := envT_at (F := F_step) C_step.at_step
theorem go_step {T : List Fn} {m k : Nat} {as : List Sl} {r : CR} [C_step T] (hl : as.length = 2) (hn : r ≠ .no) (hw : Wp (evB m (envT T m k) B_step (as ++ List.replicate (4 - as.length) .non)) (Fin as r)) : runF T m (k + 1) g_step as = r := runF_wp (F := F_step) C_step.at_step hl.symm hn hw
theorem gox_step {T : List Fn} {m k : Nat} {as : List Sl} {P : CR → Prop} [C_step T] (hl : as.length = 2) (hn : ∀ r, P r → r ≠ .no) (hw : ∀ R, FinR as P R → Wp (evB m (envT T m k) B_step (as ++ List.replicate (4 - as.length) .non)) R) : P (runF T m (k + 1) g_step as) := runF_ex (F := F_step) C_step.at_step hl.symm hn hw
def end_of_L1 : List IS := [.asg (.var 0) (.call g_step [.var 0, .var 2]), .ife (.cmp .is (.var 0) (.con .non)) [.ret (.con .non)] []]
def B_end_of : List IS := [.for_ (.var 2) (.seq (.var 1)) end_of_L1, .ret (.var 0)]
/-- 0:state 1:heights 2:height -/
def F_end_of : Fn := ⟨[false, false], 3, B_end_of⟩
class C_end_of (T : List Fn) : Prop extends C_step T where at_end_of : T[g_end_of]? = some F_end_of
@[simp] theorem env_end_of {T : List Fn} {m k : Nat} [C_end_of T] : envT T m k g_end_of = some ([false, false], runF T m k g_end_of) := envT_at (F := F_end_of) C_end_of.at_end_of
theorem go_end_of {T : List Fn} {m k : Nat} {as : List Sl} {r : CR} [C_end_of T] (hl : as.length = 2) (hn : r ≠ .no) (hw : Wp (evB m (envT T m k) B_end_of (as ++ List.replicate (3 - as.length) .non)) (Fin as r)) : runF T m (k + 1) g_end_of as = r := runF_wp (F := F_end_of) C_end_of.at_end_of hl.symm hn hw
theorem gox_end_of {T : List Fn} {m k : Nat} {as : List Sl} {P : CR → Prop} [C_end_of T] (hl : as.length = 2) (hn : ∀ r, P r → r ≠ .no) (hw : ∀ R, FinR as P R → Wp (evB m (envT T m k) B_end_of (as ++ List.replicate (3 - as.length) .non)) R) : P (runF T m (k + 1) g_end_of as) := runF_ex (F := F_end_of) C_end_of.at_end_of hl.symm hn hw
def B_takes_way : List IS := [.expr (.call g_need [.and (.call g_is_state_v2 [.var 0]) (.call g_is_state_v2 [.var 1])]), .ret (.cmp .eq (.call g_end_of [.var 0, .var 2]) (.var 1))]
/-- 0:state 1:other 2:heights -/
def F_takes_way : Fn := ⟨[false, false, false], 3, B_takes_way⟩
class C_takes_way (T : List Fn) : Prop extends C_need T, C_is_state_v2 T, C_end_of T where at_takes_way : T[g_takes_way]? = some F_takes_way
@[simp] theorem env_takes_way {T : List Fn} {m k : Nat} [C_takes_way T] : envT T m k g_takes_way = some ([false, false, false], runF T m k g_takes_way) := envT_at (F := F_takes_way) C_takes_way.at_takes_way
theorem go_takes_way {T : List Fn} {m k : Nat} {as : List Sl} {r : CR} [C_takes_way T] (hl : as.length = 3) (hn : r ≠ .no) (hw : Wp (evB m (envT T m k) B_takes_way (as ++ List.replicate (3 - as.length) .non)) (Fin as r)) : runF T m (k + 1) g_takes_way as = r := runF_wp (F := F_takes_way) C_takes_way.at_takes_way hl.symm hn hw
theorem gox_takes_way {T : List Fn} {m k : Nat} {as : List Sl} {P : CR → Prop} [C_takes_way T] (hl : as.length = 3) (hn : ∀ r, P r → r ≠ .no) (hw : ∀ R, FinR as P R → Wp (evB m (envT T m k) B_takes_way (as ++ List.replicate (3 - as.length) .non)) R) : P (runF T m (k + 1) g_takes_way as) := runF_ex (F := F_takes_way) C_takes_way.at_takes_way hl.symm hn hw
def law_draws_v2_L3 : List IS := [.asg (.var 3) (.bin .mod (.blt .int [.bin .add (.bin .mul (.var 3) (.con (.int 48271))) (.con (.int 69621))]) (.con (.int 2147483647))), .expr (.mut .append 1 [.bin .fdiv (.var 3) (.con (.int 5))])]
def law_draws_v2_L2 : List IS := [.ife (.cmp .gt (.var 5) (.con (.int 0))) [.expr (.mut .append 1 [.bin .mod (.blt .int [.var 5]) (.con (.int 997))]), .asg (.var 5) (.bin .fdiv (.var 5) (.con (.int 997)))] []]
def law_draws_v2_L1 : List IS := [.asg (.var 5) (.blt .abs [.var 2]), .ife (.cmp .lt (.var 5) (.bin .pow (.con (.int 10)) (.con (.int 18)))) [.asg (.var 6) (.bin .mod (.blt .int [.bin .add (.bin .mul (.var 5) (.con (.int 48271))) (.con (.int 11))]) (.con (.int 2147483647))), .expr (.mut .append 1 [.bin .mod (.blt .int [.bin .add (.bin .mul (.var 6) (.con (.int 69621))) (.var 5)]) (.con (.int 2147483629))]), .expr (.mut .append 1 [.bin .mod (.blt .int [.bin .add (.var 6) (.bin .fdiv (.var 5) (.con (.int 7)))]) (.con (.int 1000003))]), .asg (.var 5) (.con (.int 0))] [], .for_ (.var 4) (.rng (.con (.int 0)) (.con (.int 60))) law_draws_v2_L2]
def B_law_draws_v2 : List IS := [.asg (.var 1) (.lst []), .for_ (.var 2) (.seq (.var 0)) law_draws_v2_L1, .asg (.var 3) (.con (.int 1)), .ife (.cmp .gt (.blt .len [.var 0]) (.con (.int 0))) [.asg (.var 3) (.bin .add (.con (.int 1)) (.blt .abs [.sub (.var 0) (.con (.int 0))]))] [], .for_ (.var 4) (.rng (.con (.int 0)) (.con (.int 9000))) law_draws_v2_L3, .ret (.blt .revlist [.var 1])]
/-- 0:script 1:draws 2:cell 3:seed 4:k 5:number 6:first -/
def F_law_draws_v2 : Fn := ⟨[false], 7, B_law_draws_v2⟩
class C_law_draws_v2 (T : List Fn) : Prop where at_law_draws_v2 : T[g_law_draws_v2]? = some F_law_draws_v2
@[simp] theorem env_law_draws_v2 {T : List Fn} {m k : Nat} [C_law_draws_v2 T] : envT T m k g_law_draws_v2 = some ([false], runF T m k g_law_draws_v2) := envT_at (F := F_law_draws_v2) C_law_draws_v2.at_law_draws_v2
theorem go_law_draws_v2 {T : List Fn} {m k : Nat} {as : List Sl} {r : CR} [C_law_draws_v2 T] (hl : as.length = 1) (hn : r ≠ .no) (hw : Wp (evB m (envT T m k) B_law_draws_v2 (as ++ List.replicate (7 - as.length) .non)) (Fin as r)) : runF T m (k + 1) g_law_draws_v2 as = r := runF_wp (F := F_law_draws_v2) C_law_draws_v2.at_law_draws_v2 hl.symm hn hw
theorem gox_law_draws_v2 {T : List Fn} {m k : Nat} {as : List Sl} {P : CR → Prop} [C_law_draws_v2 T] (hl : as.length = 1) (hn : ∀ r, P r → r ≠ .no) (hw : ∀ R, FinR as P R → Wp (evB m (envT T m k) B_law_draws_v2 (as ++ List.replicate (7 - as.length) .non)) R) : P (runF T m (k + 1) g_law_draws_v2 as) := runF_ex (F := F_law_draws_v2) C_law_draws_v2.at_law_draws_v2 hl.symm hn hw
def B_law_take : List IS := [.ife (.cmp .eq (.blt .len [.var 0]) (.con (.int 0))) [.ret (.con (.int 0))] [], .ret (.bin .mod (.blt .int [.mut .pop 0 []]) (.var 1))]
/-- 0:draws 1:bound -/
def F_law_take : Fn := ⟨[true, false], 2, B_law_take⟩
class C_law_take (T : List Fn) : Prop where at_law_take : T[g_law_take]? = some F_law_take
@[simp] theorem env_law_take {T : List Fn} {m k : Nat} [C_law_take T] : envT T m k g_law_take = some ([true, false], runF T m k g_law_take) := envT_at (F := F_law_take) C_law_take.at_law_take
theorem go_law_take {T : List Fn} {m k : Nat} {as : List Sl} {r : CR} [C_law_take T] (hl : as.length = 2) (hn : r ≠ .no) (hw : Wp (evB m (envT T m k) B_law_take (as ++ List.replicate (2 - as.length) .non)) (Fin as r)) : runF T m (k + 1) g_law_take as = r := runF_wp (F := F_law_take) C_law_take.at_law_take hl.symm hn hw
theorem gox_law_take {T : List Fn} {m k : Nat} {as : List Sl} {P : CR → Prop} [C_law_take T] (hl : as.length = 2) (hn : ∀ r, P r → r ≠ .no) (hw : ∀ R, FinR as P R → Wp (evB m (envT T m k) B_law_take (as ++ List.replicate (2 - as.length) .non)) R) : P (runF T m (k + 1) g_law_take as) := runF_ex (F := F_law_take) C_law_take.at_law_take hl.symm hn hw
def B_law_pick : List IS := [.ret (.sub (.var 1) (.call g_law_take [.var 0, .blt .len [.var 1]]))]
/-- 0:draws 1:some -/
def F_law_pick : Fn := ⟨[true, false], 2, B_law_pick⟩
class C_law_pick (T : List Fn) : Prop extends C_law_take T where at_law_pick : T[g_law_pick]? = some F_law_pick
@[simp] theorem env_law_pick {T : List Fn} {m k : Nat} [C_law_pick T] : envT T m k g_law_pick = some ([true, false], runF T m k g_law_pick) := envT_at (F := F_law_pick) C_law_pick.at_law_pick
theorem go_law_pick {T : List Fn} {m k : Nat} {as : List Sl} {r : CR} [C_law_pick T] (hl : as.length = 2) (hn : r ≠ .no) (hw : Wp (evB m (envT T m k) B_law_pick (as ++ List.replicate (2 - as.length) .non)) (Fin as r)) : runF T m (k + 1) g_law_pick as = r := runF_wp (F := F_law_pick) C_law_pick.at_law_pick hl.symm hn hw
theorem gox_law_pick {T : List Fn} {m k : Nat} {as : List Sl} {P : CR → Prop} [C_law_pick T] (hl : as.length = 2) (hn : ∀ r, P r → r ≠ .no) (hw : ∀ R, FinR as P R → Wp (evB m (envT T m k) B_law_pick (as ++ List.replicate (2 - as.length) .non)) R) : P (runF T m (k + 1) g_law_pick as) := runF_ex (F := F_law_pick) C_law_pick.at_law_pick hl.symm hn hw
def law_shuffled_L1 : List IS := [.expr (.mut .append 3 [.mut .popAt 2 [.call g_law_take [.var 0, .blt .len [.var 2]]]])]
def B_law_shuffled : List IS := [.asg (.var 2) (.blt .list [.var 1]), .asg (.var 3) (.lst []), .for_ (.var 4) (.rng (.con (.int 0)) (.blt .len [.var 1])) law_shuffled_L1, .ret (.var 3)]
/-- 0:draws 1:items 2:waiting 3:found 4:k -/
def F_law_shuffled : Fn := ⟨[true, false], 5, B_law_shuffled⟩
class C_law_shuffled (T : List Fn) : Prop extends C_law_take T where at_law_shuffled : T[g_law_shuffled]? = some F_law_shuffled
@[simp] theorem env_law_shuffled {T : List Fn} {m k : Nat} [C_law_shuffled T] : envT T m k g_law_shuffled = some ([true, false], runF T m k g_law_shuffled) := envT_at (F := F_law_shuffled) C_law_shuffled.at_law_shuffled
theorem go_law_shuffled {T : List Fn} {m k : Nat} {as : List Sl} {r : CR} [C_law_shuffled T] (hl : as.length = 2) (hn : r ≠ .no) (hw : Wp (evB m (envT T m k) B_law_shuffled (as ++ List.replicate (5 - as.length) .non)) (Fin as r)) : runF T m (k + 1) g_law_shuffled as = r := runF_wp (F := F_law_shuffled) C_law_shuffled.at_law_shuffled hl.symm hn hw
theorem gox_law_shuffled {T : List Fn} {m k : Nat} {as : List Sl} {P : CR → Prop} [C_law_shuffled T] (hl : as.length = 2) (hn : ∀ r, P r → r ≠ .no) (hw : ∀ R, FinR as P R → Wp (evB m (envT T m k) B_law_shuffled (as ++ List.replicate (5 - as.length) .non)) R) : P (runF T m (k + 1) g_law_shuffled as) := runF_ex (F := F_law_shuffled) C_law_shuffled.at_law_shuffled hl.symm hn hw
def law_same_v2_C2 : IE := .call g_law_same_v2 [.sub (.var 0) (.var 3), .sub (.var 1) (.var 3)]
def law_same_v2_C1 : IE := .call g_law_same_v2 [.sub (.var 0) (.var 2), .sub (.var 1) (.var 2)]
def B_law_same_v2 : List IS := [.ife (.isi (.var 1) [.ty "dict"]) [.ife (.or (.not (.isi (.var 0) [.ty "dict"])) (.cmp .ne (.blt .sorted [.blt .list [.var 0]]) (.blt .sorted [.blt .list [.var 1]]))) [.ret (.con (.bl false))] [], .ret (.blt .all [.lc [2] (.var 2) (.seq (.var 1)) [] law_same_v2_C1])] [], .ife (.or (.isi (.var 1) [.ty "tuple"]) (.isi (.var 1) [.ty "list"])) [.ife (.or (.cmp .ne (.isi (.var 1) [.ty "tuple"]) (.isi (.var 0) [.ty "tuple"])) (.cmp .ne (.isi (.var 1) [.ty "list"]) (.isi (.var 0) [.ty "list"]))) [.ret (.con (.bl false))] [], .ret (.and (.cmp .eq (.blt .len [.var 0]) (.blt .len [.var 1])) (.blt .all [.lc [3] (.var 3) (.rng (.con (.int 0)) (.blt .len [.var 1])) [] law_same_v2_C2]))] [], .ife (.cmp .is (.var 1) (.con .non)) [.ret (.cmp .is (.var 0) (.con .non))] [], .ife (.cmp .ne (.isi (.var 1) [.ty "bool"]) (.isi (.var 0) [.ty "bool"])) [.ret (.con (.bl false))] [], .ife (.or (.cmp .ne (.isi (.var 1) [.ty "int"]) (.isi (.var 0) [.ty "int"])) (.cmp .ne (.isi (.var 1) [.ty "str"]) (.isi (.var 0) [.ty "str"]))) [.ret (.con (.bl false))] [], .ret (.cmp .eq (.var 0) (.var 1))]
/-- 0:told 1:due 2:key 3:k -/
def F_law_same_v2 : Fn := ⟨[false, false], 4, B_law_same_v2⟩
class C_law_same_v2 (T : List Fn) : Prop where at_law_same_v2 : T[g_law_same_v2]? = some F_law_same_v2
@[simp] theorem env_law_same_v2 {T : List Fn} {m k : Nat} [C_law_same_v2 T] : envT T m k g_law_same_v2 = some ([false, false], runF T m k g_law_same_v2) := envT_at (F := F_law_same_v2) C_law_same_v2.at_law_same_v2
theorem go_law_same_v2 {T : List Fn} {m k : Nat} {as : List Sl} {r : CR} [C_law_same_v2 T] (hl : as.length = 2) (hn : r ≠ .no) (hw : Wp (evB m (envT T m k) B_law_same_v2 (as ++ List.replicate (4 - as.length) .non)) (Fin as r)) : runF T m (k + 1) g_law_same_v2 as = r := runF_wp (F := F_law_same_v2) C_law_same_v2.at_law_same_v2 hl.symm hn hw
theorem gox_law_same_v2 {T : List Fn} {m k : Nat} {as : List Sl} {P : CR → Prop} [C_law_same_v2 T] (hl : as.length = 2) (hn : ∀ r, P r → r ≠ .no) (hw : ∀ R, FinR as P R → Wp (evB m (envT T m k) B_law_same_v2 (as ++ List.replicate (4 - as.length) .non)) R) : P (runF T m (k + 1) g_law_same_v2 as) := runF_ex (F := F_law_same_v2) C_law_same_v2.at_law_same_v2 hl.symm hn hw
def law_step_C1 : IE := .bin .sub (.var 3) (.con (.int 1))
def B_law_step : List IS := [.ife (.or (.cmp .lt (.var 1) (.con (.int 0))) (.or (.cmp .eq (.cmp .eq (.var 1) (.con (.int 0))) (.cmp .inn (.con (.int 0)) (.var 0))) (.and (.cmp .gt (.var 1) (.con (.int 0))) (.cmp .inn (.var 1) (.var 0))))) [.ret (.con .non)] [], .asg (.var 2) (.lc [3] (.var 3) (.seq (.var 0)) [.cmp .gt (.var 3) (.con (.int 0))] law_step_C1), .ife (.cmp .gt (.var 1) (.con (.int 0))) [.expr (.mut .append 2 [.bin .sub (.var 1) (.con (.int 1))])] [], .ret (.blt .tuple [.blt .sorted [.var 2]])]
/-- 0:state 1:height 2:left 3:one -/
def F_law_step : Fn := ⟨[false, false], 4, B_law_step⟩
class C_law_step (T : List Fn) : Prop where at_law_step : T[g_law_step]? = some F_law_step
@[simp] theorem env_law_step {T : List Fn} {m k : Nat} [C_law_step T] : envT T m k g_law_step = some ([false, false], runF T m k g_law_step) := envT_at (F := F_law_step) C_law_step.at_law_step
theorem go_law_step {T : List Fn} {m k : Nat} {as : List Sl} {r : CR} [C_law_step T] (hl : as.length = 2) (hn : r ≠ .no) (hw : Wp (evB m (envT T m k) B_law_step (as ++ List.replicate (4 - as.length) .non)) (Fin as r)) : runF T m (k + 1) g_law_step as = r := runF_wp (F := F_law_step) C_law_step.at_law_step hl.symm hn hw
theorem gox_law_step {T : List Fn} {m k : Nat} {as : List Sl} {P : CR → Prop} [C_law_step T] (hl : as.length = 2) (hn : ∀ r, P r → r ≠ .no) (hw : ∀ R, FinR as P R → Wp (evB m (envT T m k) B_law_step (as ++ List.replicate (4 - as.length) .non)) R) : P (runF T m (k + 1) g_law_step as) := runF_ex (F := F_law_step) C_law_step.at_law_step hl.symm hn hw
def law_end_L1 : List IS := [.ife (.cmp .isn (.var 0) (.con .non)) [.asg (.var 0) (.call g_law_step [.var 0, .var 2])] []]
def B_law_end : List IS := [.for_ (.var 2) (.seq (.var 1)) law_end_L1, .ret (.var 0)]
/-- 0:state 1:heights 2:height -/
def F_law_end : Fn := ⟨[false, false], 3, B_law_end⟩
class C_law_end (T : List Fn) : Prop extends C_law_step T where at_law_end : T[g_law_end]? = some F_law_end
@[simp] theorem env_law_end {T : List Fn} {m k : Nat} [C_law_end T] : envT T m k g_law_end = some ([false, false], runF T m k g_law_end) := envT_at (F := F_law_end) C_law_end.at_law_end
theorem go_law_end {T : List Fn} {m k : Nat} {as : List Sl} {r : CR} [C_law_end T] (hl : as.length = 2) (hn : r ≠ .no) (hw : Wp (evB m (envT T m k) B_law_end (as ++ List.replicate (3 - as.length) .non)) (Fin as r)) : runF T m (k + 1) g_law_end as = r := runF_wp (F := F_law_end) C_law_end.at_law_end hl.symm hn hw
theorem gox_law_end {T : List Fn} {m k : Nat} {as : List Sl} {P : CR → Prop} [C_law_end T] (hl : as.length = 2) (hn : ∀ r, P r → r ≠ .no) (hw : ∀ R, FinR as P R → Wp (evB m (envT T m k) B_law_end (as ++ List.replicate (3 - as.length) .non)) R) : P (runF T m (k + 1) g_law_end as) := runF_ex (F := F_law_end) C_law_end.at_law_end hl.symm hn hw
def B_law_state : List IS := [.ret (.blt .tuple [.blt .sorted [.slc (.call g_law_shuffled [.var 0, .rng false (.con (.int 0)) (.var 1)]) none (some (.var 2))]])]
/-- 0:draws 1:most 2:balls -/
def F_law_state : Fn := ⟨[true, false, false], 3, B_law_state⟩
class C_law_state (T : List Fn) : Prop extends C_law_shuffled T where at_law_state : T[g_law_state]? = some F_law_state
@[simp] theorem env_law_state {T : List Fn} {m k : Nat} [C_law_state T] : envT T m k g_law_state = some ([true, false, false], runF T m k g_law_state) := envT_at (F := F_law_state) C_law_state.at_law_state
theorem go_law_state {T : List Fn} {m k : Nat} {as : List Sl} {r : CR} [C_law_state T] (hl : as.length = 3) (hn : r ≠ .no) (hw : Wp (evB m (envT T m k) B_law_state (as ++ List.replicate (3 - as.length) .non)) (Fin as r)) : runF T m (k + 1) g_law_state as = r := runF_wp (F := F_law_state) C_law_state.at_law_state hl.symm hn hw
theorem gox_law_state {T : List Fn} {m k : Nat} {as : List Sl} {P : CR → Prop} [C_law_state T] (hl : as.length = 3) (hn : ∀ r, P r → r ≠ .no) (hw : ∀ R, FinR as P R → Wp (evB m (envT T m k) B_law_state (as ++ List.replicate (3 - as.length) .non)) R) : P (runF T m (k + 1) g_law_state as) := runF_ex (F := F_law_state) C_law_state.at_law_state hl.symm hn hw
def law_fits_C1 : IE := .cmp .inn (.bin .sub (.var 3) (.var 2)) (.var 1)
def B_law_fits : List IS := [.ret (.blt .all [.lc [3] (.var 3) (.seq (.var 0)) [.cmp .ge (.var 3) (.var 2)] law_fits_C1])]
/-- 0:state 1:other 2:length 3:one -/
def F_law_fits : Fn := ⟨[false, false, false], 4, B_law_fits⟩
class C_law_fits (T : List Fn) : Prop where at_law_fits : T[g_law_fits]? = some F_law_fits
@[simp] theorem env_law_fits {T : List Fn} {m k : Nat} [C_law_fits T] : envT T m k g_law_fits = some ([false, false, false], runF T m k g_law_fits) := envT_at (F := F_law_fits) C_law_fits.at_law_fits
theorem go_law_fits {T : List Fn} {m k : Nat} {as : List Sl} {r : CR} [C_law_fits T] (hl : as.length = 3) (hn : r ≠ .no) (hw : Wp (evB m (envT T m k) B_law_fits (as ++ List.replicate (4 - as.length) .non)) (Fin as r)) : runF T m (k + 1) g_law_fits as = r := runF_wp (F := F_law_fits) C_law_fits.at_law_fits hl.symm hn hw
theorem gox_law_fits {T : List Fn} {m k : Nat} {as : List Sl} {P : CR → Prop} [C_law_fits T] (hl : as.length = 3) (hn : ∀ r, P r → r ≠ .no) (hw : ∀ R, FinR as P R → Wp (evB m (envT T m k) B_law_fits (as ++ List.replicate (4 - as.length) .non)) R) : P (runF T m (k + 1) g_law_fits as) := runF_ex (F := F_law_fits) C_law_fits.at_law_fits hl.symm hn hw
def B_law_told_v5 : List IS := [.try_ [.ret (.call g_way_of [.var 0, .var 1, .var 2])] [.mk 3 [.ret (.tup [.con (.str (PySem.Str.ofString "refused")), .con (.str (PySem.Str.ofString "no answer"))])]]]
/-- 0:state 1:other 2:length -/
def F_law_told_v5 : Fn := ⟨[false, false, false], 3, B_law_told_v5⟩
class C_law_told_v5 (T : List Fn) : Prop extends C_way_of T where at_law_told_v5 : T[g_law_told_v5]? = some F_law_told_v5
@[simp] theorem env_law_told_v5 {T : List Fn} {m k : Nat} [C_law_told_v5 T] : envT T m k g_law_told_v5 = some ([false, false, false], runF T m k g_law_told_v5) := envT_at (F := F_law_told_v5) C_law_told_v5.at_law_told_v5
theorem go_law_told_v5 {T : List Fn} {m k : Nat} {as : List Sl} {r : CR} [C_law_told_v5 T] (hl : as.length = 3) (hn : r ≠ .no) (hw : Wp (evB m (envT T m k) B_law_told_v5 (as ++ List.replicate (3 - as.length) .non)) (Fin as r)) : runF T m (k + 1) g_law_told_v5 as = r := runF_wp (F := F_law_told_v5) C_law_told_v5.at_law_told_v5 hl.symm hn hw
theorem gox_law_told_v5 {T : List Fn} {m k : Nat} {as : List Sl} {P : CR → Prop} [C_law_told_v5 T] (hl : as.length = 3) (hn : ∀ r, P r → r ≠ .no) (hw : ∀ R, FinR as P R → Wp (evB m (envT T m k) B_law_told_v5 (as ++ List.replicate (3 - as.length) .non)) R) : P (runF T m (k + 1) g_law_told_v5 as) := runF_ex (F := F_law_told_v5) C_law_told_v5.at_law_told_v5 hl.symm hn hw
def law_two_C1 : IE := .var 7
def law_two_L1 : List IS := [.asg (.var 6) (.ife (.cmp .inn (.con (.int 0)) (.var 4)) (.lc [7] (.var 7) (.rng (.con (.int 1)) (.con (.int 61))) [.cmp .nin (.var 7) (.var 4)] law_two_C1) (.lst [.con (.int 0)])), .asg (.var 4) (.call g_law_step [.var 4, .call g_law_pick [.var 0, .var 6]])]
def B_law_two : List IS := [.asg (.var 1) (.call g_law_pick [.var 0, .shl [.con (.int 0), .con (.int 1), .con (.int 3), .con (.int 8), .con (.int 30), .con (.int 60)]]), .asg (.var 2) (.blt .max [.var 1, .call g_law_pick [.var 0, .shl [.var 1, .bin .add (.var 1) (.con (.int 1)), .bin .add (.var 1) (.con (.int 3)), .con (.int 61)]]]), .asg (.var 3) (.call g_law_state [.var 0, .blt .min [.con (.int 61), .var 2], .var 1]), .asg (.var 4) (.call g_law_state [.var 0, .blt .min [.con (.int 61), .var 2], .var 1]), .ife (.cmp .eq (.call g_law_take [.var 0, .con (.int 2)]) (.con (.int 0))) [.asg (.var 4) (.var 3), .for_ (.var 5) (.rng (.con (.int 0)) (.call g_law_pick [.var 0, .shl [.con (.int 1), .con (.int 2), .con (.int 9)]])) law_two_L1] [], .ret (.tup [.var 3, .var 4])]
/-- 0:draws 1:balls 2:most 3:state 4:other 5:turn 6:free 7:h -/
def F_law_two : Fn := ⟨[true], 8, B_law_two⟩
class C_law_two (T : List Fn) : Prop extends C_law_pick T, C_law_state T, C_law_take T, C_law_step T where at_law_two : T[g_law_two]? = some F_law_two
@[simp] theorem env_law_two {T : List Fn} {m k : Nat} [C_law_two T] : envT T m k g_law_two = some ([true], runF T m k g_law_two) := envT_at (F := F_law_two) C_law_two.at_law_two
theorem go_law_two {T : List Fn} {m k : Nat} {as : List Sl} {r : CR} [C_law_two T] (hl : as.length = 1) (hn : r ≠ .no) (hw : Wp (evB m (envT T m k) B_law_two (as ++ List.replicate (8 - as.length) .non)) (Fin as r)) : runF T m (k + 1) g_law_two as = r := runF_wp (F := F_law_two) C_law_two.at_law_two hl.symm hn hw
theorem gox_law_two {T : List Fn} {m k : Nat} {as : List Sl} {P : CR → Prop} [C_law_two T] (hl : as.length = 1) (hn : ∀ r, P r → r ≠ .no) (hw : ∀ R, FinR as P R → Wp (evB m (envT T m k) B_law_two (as ++ List.replicate (8 - as.length) .non)) R) : P (runF T m (k + 1) g_law_two as) := runF_ex (F := F_law_two) C_law_two.at_law_two hl.symm hn hw
def law_is_way_told_L1 : List IS := [.ife (.cmp .ne (.var 5) (.lst [])) [.par 9 10 (.call g_law_take [.var 0, .blt .len [.var 5]]) (.call g_law_take [.var 0, .blt .len [.var 5]]), .asg (.var 8) (.call g_law_take [.var 0, .con (.int 3)]), .ife (.cmp .eq (.var 8) (.con (.int 0))) [.asubs false [5, 5] [.var 9, .var 10] (.tup [.bin .sub (.bin .add (.sub (.var 5) (.var 10)) (.var 10)) (.var 9), .bin .sub (.bin .add (.sub (.var 5) (.var 9)) (.var 9)) (.var 10)])] [.ife (.cmp .eq (.var 8) (.con (.int 1))) [.asubs true [5] [.var 9] (.bin .add (.sub (.var 5) (.var 9)) (.call g_law_pick [.var 0, .shl [.con (.int 1), .neg (.con (.int 1))]]))] [.expr (.mut .popAt 5 [.var 9])]]] [], .asg (.var 7) (.cmp .eq (.call g_law_end [.var 1, .var 5]) (.var 2)), .ife (.not (.call g_law_same_v2 [.shl [.call g_is_way [.var 1, .var 2, .blt .tuple [.var 5]], .call g_takes_way [.var 1, .var 2, .blt .tuple [.var 5]]], .shl [.var 7, .var 7]])) [.ret (.con (.bl false))] []]
def law_is_way_told_C1 : IE := .and (.isi (.var 11) [.ty "int"]) (.not (.isi (.var 11) [.ty "bool"]))
def B_law_is_way_told : List IS := [.asg (.var 4) (.call g_law_told_v5 [.var 1, .var 2, .var 3]), .ife (.not (.call g_law_fits [.var 1, .var 2, .var 3])) [.ret (.cmp .eq (.var 4) (.tup [.con (.str (PySem.Str.ofString "refused")), .con (.str (PySem.Str.ofString "no answer"))]))] [], .ife (.or (.not (.isi (.var 4) [.ty "tuple"])) (.not (.blt .all [.lc [11] (.var 11) (.seq (.var 4)) [] law_is_way_told_C1]))) [.ret (.con (.bl false))] [], .ife (.or (.cmp .ne (.blt .len [.var 4]) (.var 3)) (.cmp .ne (.call g_law_end [.var 1, .var 4]) (.var 2))) [.ret (.con (.bl false))] [], .asg (.var 5) (.blt .list [.var 4]), .for_ (.var 6) (.rng (.con (.int 0)) (.con (.int 3))) law_is_way_told_L1, .ret (.call g_law_same_v2 [.shl [.call g_is_way [.var 1, .var 2, .var 4], .call g_takes_way [.var 1, .var 2, .var 4]], .shl [.con (.bl true), .con (.bl true)]])]
/-- 0:draws 1:state 2:other 3:length 4:told 5:bent 6:again 7:due 8:kind 9:j 10:k 11:h -/
def F_law_is_way_told : Fn := ⟨[true, false, false, false], 12, B_law_is_way_told⟩
class C_law_is_way_told (T : List Fn) : Prop extends C_law_told_v5 T, C_law_fits T, C_law_end T, C_law_take T, C_law_pick T, C_law_same_v2 T, C_is_way T, C_takes_way T where at_law_is_way_told : T[g_law_is_way_told]? = some F_law_is_way_told
@[simp] theorem env_law_is_way_told {T : List Fn} {m k : Nat} [C_law_is_way_told T] : envT T m k g_law_is_way_told = some ([true, false, false, false], runF T m k g_law_is_way_told) := envT_at (F := F_law_is_way_told) C_law_is_way_told.at_law_is_way_told
theorem go_law_is_way_told {T : List Fn} {m k : Nat} {as : List Sl} {r : CR} [C_law_is_way_told T] (hl : as.length = 4) (hn : r ≠ .no) (hw : Wp (evB m (envT T m k) B_law_is_way_told (as ++ List.replicate (12 - as.length) .non)) (Fin as r)) : runF T m (k + 1) g_law_is_way_told as = r := runF_wp (F := F_law_is_way_told) C_law_is_way_told.at_law_is_way_told hl.symm hn hw
theorem gox_law_is_way_told {T : List Fn} {m k : Nat} {as : List Sl} {P : CR → Prop} [C_law_is_way_told T] (hl : as.length = 4) (hn : ∀ r, P r → r ≠ .no) (hw : ∀ R, FinR as P R → Wp (evB m (envT T m k) B_law_is_way_told (as ++ List.replicate (12 - as.length) .non)) R) : P (runF T m (k + 1) g_law_is_way_told as) := runF_ex (F := F_law_is_way_told) C_law_is_way_told.at_law_is_way_told hl.symm hn hw
def law_k25_L2 : List IS := [.ife (.not (.call g_law_is_way_told [.var 1, .var 7, .var 8, .var 6])) [.ret (.con (.bl false))] []]
def law_k25_C2 : IE := .var 6
def law_k25_C1 : IE := .call g_law_pick [.var 1, .shl [.sub (.lc [6] (.var 6) (.rng (.con (.int 0)) (.con (.int 62))) [.call g_law_fits [.var 11, .var 12, .var 6]] law_k25_C2) (.con (.int 0))]]
def law_k25_L1 : List IS := [.asg (.tup [.var 7, .var 8]) (.call g_law_two [.var 1]), .asg (.var 3) (.blt .repr [.lst [.var 7, .var 8]]), .asg (.var 4) (.lc [11, 12] (.tup [.var 11, .var 12]) (.seq (.lst [.tup [.var 7, .var 8], .tup [.var 8, .var 7]])) [] law_k25_C1), .ife (.not (.call g_law_same_v2 [.shl [.call g_gap_of [.var 7, .var 8], .call g_gap_of [.var 8, .var 7]], .var 4])) [.ret (.con (.bl false))] [], .asg (.var 5) (.bin .add (.blt .max [.bin .add (.lst [.con (.int 0)]) (.blt .list [.var 7])]) (.con (.int 1))), .for_ (.var 6) (.seq (.lst [.con (.int 0), .sub (.var 4) (.con (.int 0)), .blt .max [.con (.int 0), .bin .sub (.sub (.var 4) (.con (.int 0))) (.con (.int 1))], .var 5, .bin .add (.var 5) (.call g_law_take [.var 1, .con (.int 70)]), .call g_law_take [.var 1, .bin .add (.var 5) (.con (.int 1))]])) law_k25_L2, .par 9 10 (.call g_law_told_v5 [.var 7, .var 8, .sub (.var 4) (.con (.int 0))]) (.call g_law_told_v5 [.var 8, .var 7, .sub (.var 4) (.con (.int 1))]), .ife (.or (.cmp .ne (.call g_law_end [.var 7, .bin .add (.var 9) (.var 10)]) (.var 7)) (.not (.call g_law_same_v2 [.shl [.call g_is_way [.var 7, .var 7, .bin .add (.var 9) (.var 10)], .call g_gap_of [.var 7, .var 7]], .shl [.con (.bl true), .con (.int 0)]]))) [.ret (.con (.bl false))] [], .ife (.cmp .ne (.blt .repr [.lst [.var 7, .var 8]]) (.var 3)) [.ret (.con (.bl false))] []]
def B_law_k25 : List IS := [.asg (.var 1) (.call g_law_draws_v2 [.var 0]), .for_ (.var 2) (.rng (.con (.int 0)) (.con (.int 4))) law_k25_L1, .ret (.con (.bl true))]
/-- 0:script 1:draws 2:turn 3:kept 4:gaps 5:above 6:length 7:state 8:other 9:there 10:back 11:one 12:two -/
def F_law_k25 : Fn := ⟨[false], 13, B_law_k25⟩
class C_law_k25 (T : List Fn) : Prop extends C_law_draws_v2 T, C_law_two T, C_law_pick T, C_law_fits T, C_law_same_v2 T, C_gap_of T, C_law_take T, C_law_is_way_told T, C_law_told_v5 T, C_law_end T, C_is_way T where at_law_k25 : T[g_law_k25]? = some F_law_k25
@[simp] theorem env_law_k25 {T : List Fn} {m k : Nat} [C_law_k25 T] : envT T m k g_law_k25 = some ([false], runF T m k g_law_k25) := envT_at (F := F_law_k25) C_law_k25.at_law_k25
theorem go_law_k25 {T : List Fn} {m k : Nat} {as : List Sl} {r : CR} [C_law_k25 T] (hl : as.length = 1) (hn : r ≠ .no) (hw : Wp (evB m (envT T m k) B_law_k25 (as ++ List.replicate (13 - as.length) .non)) (Fin as r)) : runF T m (k + 1) g_law_k25 as = r := runF_wp (F := F_law_k25) C_law_k25.at_law_k25 hl.symm hn hw
theorem gox_law_k25 {T : List Fn} {m k : Nat} {as : List Sl} {P : CR → Prop} [C_law_k25 T] (hl : as.length = 1) (hn : ∀ r, P r → r ≠ .no) (hw : ∀ R, FinR as P R → Wp (evB m (envT T m k) B_law_k25 (as ++ List.replicate (13 - as.length) .non)) R) : P (runF T m (k + 1) g_law_k25 as) := runF_ex (F := F_law_k25) C_law_k25.at_law_k25 hl.symm hn hw
def is_row_C1 : IE := .call g_is_within [.var 1, .con (.int 0), .con (.int 60)]
def B_is_row : List IS := [.ife (.or (.not (.isi (.var 0) [.ty "tuple"])) (.not (.cmp2 .le .le (.con (.int 1)) (.blt .len [.var 0]) (.con (.int 40))))) [.ret (.con (.bl false))] [], .ret (.blt .all [.lc [1] (.var 1) (.seq (.var 0)) [] is_row_C1])]
/-- 0:value 1:height -/
def F_is_row : Fn := ⟨[false], 2, B_is_row⟩
class C_is_row (T : List Fn) : Prop extends C_is_within T where at_is_row : T[g_is_row]? = some F_is_row
@[simp] theorem env_is_row {T : List Fn} {m k : Nat} [C_is_row T] : envT T m k g_is_row = some ([false], runF T m k g_is_row) := envT_at (F := F_is_row) C_is_row.at_is_row
theorem go_is_row {T : List Fn} {m k : Nat} {as : List Sl} {r : CR} [C_is_row T] (hl : as.length = 1) (hn : r ≠ .no) (hw : Wp (evB m (envT T m k) B_is_row (as ++ List.replicate (2 - as.length) .non)) (Fin as r)) : runF T m (k + 1) g_is_row as = r := runF_wp (F := F_is_row) C_is_row.at_is_row hl.symm hn hw
theorem gox_is_row {T : List Fn} {m k : Nat} {as : List Sl} {P : CR → Prop} [C_is_row T] (hl : as.length = 1) (hn : ∀ r, P r → r ≠ .no) (hw : ∀ R, FinR as P R → Wp (evB m (envT T m k) B_is_row (as ++ List.replicate (2 - as.length) .non)) R) : P (runF T m (k + 1) g_is_row as) := runF_ex (F := F_is_row) C_is_row.at_is_row hl.symm hn hw
def land_C1 : IE := .bin .mod (.bin .add (.var 1) (.var 2)) (.blt .len [.var 0])
def B_land : List IS := [.ret (.lc [1, 2] (.tup [.var 1, .var 2]) (.enum (.var 0)) [] land_C1)]
/-- 0:row 1:at 2:height -/
def F_land : Fn := ⟨[false], 3, B_land⟩
class C_land (T : List Fn) : Prop where at_land : T[g_land]? = some F_land
@[simp] theorem env_land {T : List Fn} {m k : Nat} [C_land T] : envT T m k g_land = some ([false], runF T m k g_land) := envT_at (F := F_land) C_land.at_land
theorem go_land {T : List Fn} {m k : Nat} {as : List Sl} {r : CR} [C_land T] (hl : as.length = 1) (hn : r ≠ .no) (hw : Wp (evB m (envT T m k) B_land (as ++ List.replicate (3 - as.length) .non)) (Fin as r)) : runF T m (k + 1) g_land as = r := runF_wp (F := F_land) C_land.at_land hl.symm hn hw
theorem gox_land {T : List Fn} {m k : Nat} {as : List Sl} {P : CR → Prop} [C_land T] (hl : as.length = 1) (hn : ∀ r, P r → r ≠ .no) (hw : ∀ R, FinR as P R → Wp (evB m (envT T m k) B_land (as ++ List.replicate (3 - as.length) .non)) R) : P (runF T m (k + 1) g_land as) := runF_ex (F := F_land) C_land.at_land hl.symm hn hw
def B_is_pattern : List IS := [.ret (.and (.call g_is_row [.var 0]) (.cmp .eq (.blt .lenset [.call g_land [.var 0]]) (.blt .len [.var 0])))]
/-- 0:value -/
def F_is_pattern : Fn := ⟨[false], 1, B_is_pattern⟩
class C_is_pattern (T : List Fn) : Prop extends C_is_row T, C_land T where at_is_pattern : T[g_is_pattern]? = some F_is_pattern
@[simp] theorem env_is_pattern {T : List Fn} {m k : Nat} [C_is_pattern T] : envT T m k g_is_pattern = some ([false], runF T m k g_is_pattern) := envT_at (F := F_is_pattern) C_is_pattern.at_is_pattern
theorem go_is_pattern {T : List Fn} {m k : Nat} {as : List Sl} {r : CR} [C_is_pattern T] (hl : as.length = 1) (hn : r ≠ .no) (hw : Wp (evB m (envT T m k) B_is_pattern (as ++ List.replicate (1 - as.length) .non)) (Fin as r)) : runF T m (k + 1) g_is_pattern as = r := runF_wp (F := F_is_pattern) C_is_pattern.at_is_pattern hl.symm hn hw
theorem gox_is_pattern {T : List Fn} {m k : Nat} {as : List Sl} {P : CR → Prop} [C_is_pattern T] (hl : as.length = 1) (hn : ∀ r, P r → r ≠ .no) (hw : ∀ R, FinR as P R → Wp (evB m (envT T m k) B_is_pattern (as ++ List.replicate (1 - as.length) .non)) R) : P (runF T m (k + 1) g_is_pattern as) := runF_ex (F := F_is_pattern) C_is_pattern.at_is_pattern hl.symm hn hw
def B_check_row : List IS := [.ife (.not (.call g_is_row [.var 0])) [.raise 1] []]
/-- 0:row -/
def F_check_row : Fn := ⟨[false], 1, B_check_row⟩
class C_check_row (T : List Fn) : Prop extends C_is_row T where at_check_row : T[g_check_row]? = some F_check_row
@[simp] theorem env_check_row {T : List Fn} {m k : Nat} [C_check_row T] : envT T m k g_check_row = some ([false], runF T m k g_check_row) := envT_at (F := F_check_row) C_check_row.at_check_row
theorem go_check_row {T : List Fn} {m k : Nat} {as : List Sl} {r : CR} [C_check_row T] (hl : as.length = 1) (hn : r ≠ .no) (hw : Wp (evB m (envT T m k) B_check_row (as ++ List.replicate (1 - as.length) .non)) (Fin as r)) : runF T m (k + 1) g_check_row as = r := runF_wp (F := F_check_row) C_check_row.at_check_row hl.symm hn hw
theorem gox_check_row {T : List Fn} {m k : Nat} {as : List Sl} {P : CR → Prop} [C_check_row T] (hl : as.length = 1) (hn : ∀ r, P r → r ≠ .no) (hw : ∀ R, FinR as P R → Wp (evB m (envT T m k) B_check_row (as ++ List.replicate (1 - as.length) .non)) R) : P (runF T m (k + 1) g_check_row as) := runF_ex (F := F_check_row) C_check_row.at_check_row hl.symm hn hw
def B_check_pattern : List IS := [.ife (.not (.call g_is_pattern [.var 0])) [.raise 1] []]
/-- 0:pattern -/
def F_check_pattern : Fn := ⟨[false], 1, B_check_pattern⟩
class C_check_pattern (T : List Fn) : Prop extends C_is_pattern T where at_check_pattern : T[g_check_pattern]? = some F_check_pattern
@[simp] theorem env_check_pattern {T : List Fn} {m k : Nat} [C_check_pattern T] : envT T m k g_check_pattern = some ([false], runF T m k g_check_pattern) := envT_at (F := F_check_pattern) C_check_pattern.at_check_pattern
theorem go_check_pattern {T : List Fn} {m k : Nat} {as : List Sl} {r : CR} [C_check_pattern T] (hl : as.length = 1) (hn : r ≠ .no) (hw : Wp (evB m (envT T m k) B_check_pattern (as ++ List.replicate (1 - as.length) .non)) (Fin as r)) : runF T m (k + 1) g_check_pattern as = r := runF_wp (F := F_check_pattern) C_check_pattern.at_check_pattern hl.symm hn hw
theorem gox_check_pattern {T : List Fn} {m k : Nat} {as : List Sl} {P : CR → Prop} [C_check_pattern T] (hl : as.length = 1) (hn : ∀ r, P r → r ≠ .no) (hw : ∀ R, FinR as P R → Wp (evB m (envT T m k) B_check_pattern (as ++ List.replicate (1 - as.length) .non)) R) : P (runF T m (k + 1) g_check_pattern as) := runF_ex (F := F_check_pattern) C_check_pattern.at_check_pattern hl.symm hn hw
def B_landings : List IS := [.expr (.call g_check_row [.var 0]), .ret (.call g_land [.var 0])]
/-- 0:row -/
def F_landings : Fn := ⟨[false], 1, B_landings⟩
class C_landings (T : List Fn) : Prop extends C_check_row T, C_land T where at_landings : T[g_landings]? = some F_landings
@[simp] theorem env_landings {T : List Fn} {m k : Nat} [C_landings T] : envT T m k g_landings = some ([false], runF T m k g_landings) := envT_at (F := F_landings) C_landings.at_landings
theorem go_landings {T : List Fn} {m k : Nat} {as : List Sl} {r : CR} [C_landings T] (hl : as.length = 1) (hn : r ≠ .no) (hw : Wp (evB m (envT T m k) B_landings (as ++ List.replicate (1 - as.length) .non)) (Fin as r)) : runF T m (k + 1) g_landings as = r := runF_wp (F := F_landings) C_landings.at_landings hl.symm hn hw
theorem gox_landings {T : List Fn} {m k : Nat} {as : List Sl} {P : CR → Prop} [C_landings T] (hl : as.length = 1) (hn : ∀ r, P r → r ≠ .no) (hw : ∀ R, FinR as P R → Wp (evB m (envT T m k) B_landings (as ++ List.replicate (1 - as.length) .non)) R) : P (runF T m (k + 1) g_landings as) := runF_ex (F := F_landings) C_landings.at_landings hl.symm hn hw
def clash_of_L2 : List IS := [.ife (.cmp .eq (.sub (.var 1) (.var 4)) (.var 3)) [.ret (.tup [.var 2, .var 4])] []]
def clash_of_L1 : List IS := [.for_ (.var 4) (.rng (.bin .add (.var 2) (.con (.int 1))) (.blt .len [.var 1])) clash_of_L2]
def B_clash_of : List IS := [.expr (.call g_check_row [.var 0]), .asg (.var 1) (.call g_land [.var 0]), .for_ (.tup [.var 2, .var 3]) (.enum (.var 1)) clash_of_L1, .ret (.con .non)]
/-- 0:row 1:there 2:one 3:place 4:other -/
def F_clash_of : Fn := ⟨[false], 5, B_clash_of⟩
class C_clash_of (T : List Fn) : Prop extends C_check_row T, C_land T where at_clash_of : T[g_clash_of]? = some F_clash_of
@[simp] theorem env_clash_of {T : List Fn} {m k : Nat} [C_clash_of T] : envT T m k g_clash_of = some ([false], runF T m k g_clash_of) := envT_at (F := F_clash_of) C_clash_of.at_clash_of
theorem go_clash_of {T : List Fn} {m k : Nat} {as : List Sl} {r : CR} [C_clash_of T] (hl : as.length = 1) (hn : r ≠ .no) (hw : Wp (evB m (envT T m k) B_clash_of (as ++ List.replicate (5 - as.length) .non)) (Fin as r)) : runF T m (k + 1) g_clash_of as = r := runF_wp (F := F_clash_of) C_clash_of.at_clash_of hl.symm hn hw
theorem gox_clash_of {T : List Fn} {m k : Nat} {as : List Sl} {P : CR → Prop} [C_clash_of T] (hl : as.length = 1) (hn : ∀ r, P r → r ≠ .no) (hw : ∀ R, FinR as P R → Wp (evB m (envT T m k) B_clash_of (as ++ List.replicate (5 - as.length) .non)) R) : P (runF T m (k + 1) g_clash_of as) := runF_ex (F := F_clash_of) C_clash_of.at_clash_of hl.symm hn hw
def B_count_balls : List IS := [.ret (.bin .fdiv (.blt .sum [.var 0]) (.blt .len [.var 0]))]
/-- 0:row -/
def F_count_balls : Fn := ⟨[false], 1, B_count_balls⟩
class C_count_balls (T : List Fn) : Prop where at_count_balls : T[g_count_balls]? = some F_count_balls
@[simp] theorem env_count_balls {T : List Fn} {m k : Nat} [C_count_balls T] : envT T m k g_count_balls = some ([false], runF T m k g_count_balls) := envT_at (F := F_count_balls) C_count_balls.at_count_balls
theorem go_count_balls {T : List Fn} {m k : Nat} {as : List Sl} {r : CR} [C_count_balls T] (hl : as.length = 1) (hn : r ≠ .no) (hw : Wp (evB m (envT T m k) B_count_balls (as ++ List.replicate (1 - as.length) .non)) (Fin as r)) : runF T m (k + 1) g_count_balls as = r := runF_wp (F := F_count_balls) C_count_balls.at_count_balls hl.symm hn hw
theorem gox_count_balls {T : List Fn} {m k : Nat} {as : List Sl} {P : CR → Prop} [C_count_balls T] (hl : as.length = 1) (hn : ∀ r, P r → r ≠ .no) (hw : ∀ R, FinR as P R → Wp (evB m (envT T m k) B_count_balls (as ++ List.replicate (1 - as.length) .non)) R) : P (runF T m (k + 1) g_count_balls as) := runF_ex (F := F_count_balls) C_count_balls.at_count_balls hl.symm hn hw
def B_balls_of : List IS := [.expr (.call g_check_pattern [.var 0]), .ret (.call g_count_balls [.var 0])]
/-- 0:pattern -/
def F_balls_of : Fn := ⟨[false], 1, B_balls_of⟩
class C_balls_of (T : List Fn) : Prop extends C_check_pattern T, C_count_balls T where at_balls_of : T[g_balls_of]? = some F_balls_of
@[simp] theorem env_balls_of {T : List Fn} {m k : Nat} [C_balls_of T] : envT T m k g_balls_of = some ([false], runF T m k g_balls_of) := envT_at (F := F_balls_of) C_balls_of.at_balls_of
theorem go_balls_of {T : List Fn} {m k : Nat} {as : List Sl} {r : CR} [C_balls_of T] (hl : as.length = 1) (hn : r ≠ .no) (hw : Wp (evB m (envT T m k) B_balls_of (as ++ List.replicate (1 - as.length) .non)) (Fin as r)) : runF T m (k + 1) g_balls_of as = r := runF_wp (F := F_balls_of) C_balls_of.at_balls_of hl.symm hn hw
theorem gox_balls_of {T : List Fn} {m k : Nat} {as : List Sl} {P : CR → Prop} [C_balls_of T] (hl : as.length = 1) (hn : ∀ r, P r → r ≠ .no) (hw : ∀ R, FinR as P R → Wp (evB m (envT T m k) B_balls_of (as ++ List.replicate (1 - as.length) .non)) R) : P (runF T m (k + 1) g_balls_of as) := runF_ex (F := F_balls_of) C_balls_of.at_balls_of hl.symm hn hw
def law_draws_L3 : List IS := [.asg (.var 2) (.bin .mod (.blt .int [.bin .add (.bin .mul (.var 2) (.con (.int 48271))) (.con (.int 69621))]) (.con (.int 2147483647))), .expr (.mut .append 1 [.bin .fdiv (.var 2) (.con (.int 5))])]
def law_draws_L2 : List IS := [.ife (.cmp .gt (.var 5) (.con (.int 0))) [.expr (.mut .append 1 [.bin .mod (.blt .int [.var 5]) (.con (.int 997))]), .asg (.var 5) (.bin .fdiv (.var 5) (.con (.int 997)))] []]
def law_draws_L1 : List IS := [.asg (.var 5) (.blt .abs [.blt .int [.var 3]]), .asg (.var 2) (.bin .mod (.blt .int [.bin .add (.bin .add (.bin .mul (.var 2) (.con (.int 48271))) (.var 5)) (.con (.int 1))]) (.con (.int 2147483647))), .ife (.cmp .lt (.var 5) (.bin .pow (.con (.int 10)) (.con (.int 18)))) [.expr (.mut .append 1 [.bin .mod (.blt .int [.var 5]) (.con (.int 997))]), .expr (.mut .append 1 [.bin .mod (.blt .int [.var 2]) (.con (.int 65521))]), .asg (.var 5) (.con (.int 0))] [], .for_ (.var 4) (.rng (.con (.int 0)) (.con (.int 60))) law_draws_L2]
def B_law_draws : List IS := [.asg (.var 1) (.lst []), .asg (.var 2) (.con (.int 11)), .for_ (.var 3) (.seq (.var 0)) law_draws_L1, .for_ (.var 4) (.rng (.con (.int 0)) (.con (.int 700))) law_draws_L3, .ret (.blt .revlist [.var 1])]
/-- 0:script 1:draws 2:seed 3:cell 4:k 5:number -/
def F_law_draws : Fn := ⟨[false], 6, B_law_draws⟩
class C_law_draws (T : List Fn) : Prop where at_law_draws : T[g_law_draws]? = some F_law_draws
@[simp] theorem env_law_draws {T : List Fn} {m k : Nat} [C_law_draws T] : envT T m k g_law_draws = some ([false], runF T m k g_law_draws) := envT_at (F := F_law_draws) C_law_draws.at_law_draws
theorem go_law_draws {T : List Fn} {m k : Nat} {as : List Sl} {r : CR} [C_law_draws T] (hl : as.length = 1) (hn : r ≠ .no) (hw : Wp (evB m (envT T m k) B_law_draws (as ++ List.replicate (6 - as.length) .non)) (Fin as r)) : runF T m (k + 1) g_law_draws as = r := runF_wp (F := F_law_draws) C_law_draws.at_law_draws hl.symm hn hw
theorem gox_law_draws {T : List Fn} {m k : Nat} {as : List Sl} {P : CR → Prop} [C_law_draws T] (hl : as.length = 1) (hn : ∀ r, P r → r ≠ .no) (hw : ∀ R, FinR as P R → Wp (evB m (envT T m k) B_law_draws (as ++ List.replicate (6 - as.length) .non)) R) : P (runF T m (k + 1) g_law_draws as) := runF_ex (F := F_law_draws) C_law_draws.at_law_draws hl.symm hn hw
def law_same_L1 : List IS := [.ife (.not (.call g_law_same [.sub (.var 0) (.var 2), .sub (.var 1) (.var 2)])) [.ret (.con (.bl false))] []]
def B_law_same : List IS := [.ife (.cmp .is (.var 1) (.con .non)) [.ret (.cmp .is (.var 0) (.con .non))] [], .ife (.or (.isi (.var 1) [.ty "tuple"]) (.isi (.var 1) [.ty "list"])) [.ife (.or (.cmp .ne (.isi (.var 1) [.ty "tuple"]) (.isi (.var 0) [.ty "tuple"])) (.cmp .ne (.isi (.var 1) [.ty "list"]) (.isi (.var 0) [.ty "list"]))) [.ret (.con (.bl false))] [], .ife (.cmp .ne (.blt .len [.var 0]) (.blt .len [.var 1])) [.ret (.con (.bl false))] [], .for_ (.var 2) (.rng (.con (.int 0)) (.blt .len [.var 1])) law_same_L1, .ret (.con (.bl true))] [], .ife (.cmp .ne (.isi (.var 1) [.ty "bool"]) (.isi (.var 0) [.ty "bool"])) [.ret (.con (.bl false))] [], .ife (.or (.cmp .ne (.isi (.var 1) [.ty "int"]) (.isi (.var 0) [.ty "int"])) (.cmp .ne (.isi (.var 1) [.ty "str"]) (.isi (.var 0) [.ty "str"]))) [.ret (.con (.bl false))] [], .ret (.cmp .eq (.var 0) (.var 1))]
/-- 0:actual 1:due 2:k -/
def F_law_same : Fn := ⟨[false, false], 3, B_law_same⟩
class C_law_same (T : List Fn) : Prop where at_law_same : T[g_law_same]? = some F_law_same
@[simp] theorem env_law_same {T : List Fn} {m k : Nat} [C_law_same T] : envT T m k g_law_same = some ([false, false], runF T m k g_law_same) := envT_at (F := F_law_same) C_law_same.at_law_same
theorem go_law_same {T : List Fn} {m k : Nat} {as : List Sl} {r : CR} [C_law_same T] (hl : as.length = 2) (hn : r ≠ .no) (hw : Wp (evB m (envT T m k) B_law_same (as ++ List.replicate (3 - as.length) .non)) (Fin as r)) : runF T m (k + 1) g_law_same as = r := runF_wp (F := F_law_same) C_law_same.at_law_same hl.symm hn hw
theorem gox_law_same {T : List Fn} {m k : Nat} {as : List Sl} {P : CR → Prop} [C_law_same T] (hl : as.length = 2) (hn : ∀ r, P r → r ≠ .no) (hw : ∀ R, FinR as P R → Wp (evB m (envT T m k) B_law_same (as ++ List.replicate (3 - as.length) .non)) R) : P (runF T m (k + 1) g_law_same as) := runF_ex (F := F_law_same) C_law_same.at_law_same hl.symm hn hw
def law_mixed_L1 : List IS := [.expr (.mut .append 3 [.mut .popAt 2 [.call g_law_take [.var 0, .blt .len [.var 2]]]])]
def B_law_mixed : List IS := [.asg (.var 2) (.blt .list [.var 1]), .asg (.var 3) (.lst []), .for_ (.var 4) (.rng (.con (.int 0)) (.blt .len [.var 1])) law_mixed_L1, .ret (.var 3)]
/-- 0:draws 1:some 2:left 3:found 4:k -/
def F_law_mixed : Fn := ⟨[true, false], 5, B_law_mixed⟩
class C_law_mixed (T : List Fn) : Prop extends C_law_take T where at_law_mixed : T[g_law_mixed]? = some F_law_mixed
@[simp] theorem env_law_mixed {T : List Fn} {m k : Nat} [C_law_mixed T] : envT T m k g_law_mixed = some ([true, false], runF T m k g_law_mixed) := envT_at (F := F_law_mixed) C_law_mixed.at_law_mixed
theorem go_law_mixed {T : List Fn} {m k : Nat} {as : List Sl} {r : CR} [C_law_mixed T] (hl : as.length = 2) (hn : r ≠ .no) (hw : Wp (evB m (envT T m k) B_law_mixed (as ++ List.replicate (5 - as.length) .non)) (Fin as r)) : runF T m (k + 1) g_law_mixed as = r := runF_wp (F := F_law_mixed) C_law_mixed.at_law_mixed hl.symm hn hw
theorem gox_law_mixed {T : List Fn} {m k : Nat} {as : List Sl} {P : CR → Prop} [C_law_mixed T] (hl : as.length = 2) (hn : ∀ r, P r → r ≠ .no) (hw : ∀ R, FinR as P R → Wp (evB m (envT T m k) B_law_mixed (as ++ List.replicate (5 - as.length) .non)) R) : P (runF T m (k + 1) g_law_mixed as) := runF_ex (F := F_law_mixed) C_law_mixed.at_law_mixed hl.symm hn hw
def law_row_C1 : IE := .call g_law_pick [.var 0, .shl [.call g_law_take [.var 0, .bin .add (.var 2) (.con (.int 1))], .call g_law_take [.var 0, .bin .add (.var 2) (.con (.int 1))], .var 2, .con (.int 0)]]
def B_law_row : List IS := [.asg (.var 2) (.call g_law_pick [.var 0, .shl [.con (.int 1), .con (.int 3), .con (.int 9), .con (.int 9), .con (.int 35), .con (.int 60)]]), .ret (.blt .tuple [.lc [3] (.var 3) (.rng (.con (.int 0)) (.var 1)) [] law_row_C1])]
/-- 0:draws 1:n 2:most 3:k -/
def F_law_row : Fn := ⟨[true, false], 4, B_law_row⟩
class C_law_row (T : List Fn) : Prop extends C_law_pick T, C_law_take T where at_law_row : T[g_law_row]? = some F_law_row
@[simp] theorem env_law_row {T : List Fn} {m k : Nat} [C_law_row T] : envT T m k g_law_row = some ([true, false], runF T m k g_law_row) := envT_at (F := F_law_row) C_law_row.at_law_row
theorem go_law_row {T : List Fn} {m k : Nat} {as : List Sl} {r : CR} [C_law_row T] (hl : as.length = 2) (hn : r ≠ .no) (hw : Wp (evB m (envT T m k) B_law_row (as ++ List.replicate (4 - as.length) .non)) (Fin as r)) : runF T m (k + 1) g_law_row as = r := runF_wp (F := F_law_row) C_law_row.at_law_row hl.symm hn hw
theorem gox_law_row {T : List Fn} {m k : Nat} {as : List Sl} {P : CR → Prop} [C_law_row T] (hl : as.length = 2) (hn : ∀ r, P r → r ≠ .no) (hw : ∀ R, FinR as P R → Wp (evB m (envT T m k) B_law_row (as ++ List.replicate (4 - as.length) .non)) R) : P (runF T m (k + 1) g_law_row as) := runF_ex (F := F_law_row) C_law_row.at_law_row hl.symm hn hw
def law_pattern_L1 : List IS := [.asg (.var 6) (.bin .mod (.blt .int [.bin .sub (.sub (.var 3) (.var 5)) (.var 5)]) (.var 1)), .expr (.mut .append 4 [.bin .add (.var 6) (.bin .mul (.var 1) (.call g_law_take [.var 0, .bin .add (.con (.int 1)) (.blt .max [.con (.int 0), .bin .fdiv (.bin .sub (.var 2) (.var 6)) (.var 1)])]))])]
def B_law_pattern : List IS := [.asg (.var 3) (.call g_law_mixed [.var 0, .rng false (.con (.int 0)) (.var 1)]), .asg (.var 4) (.lst []), .for_ (.var 5) (.rng (.con (.int 0)) (.var 1)) law_pattern_L1, .ret (.blt .tuple [.var 4])]
/-- 0:draws 1:n 2:most 3:goals 4:row 5:i 6:height -/
def F_law_pattern : Fn := ⟨[true, false, false], 7, B_law_pattern⟩
class C_law_pattern (T : List Fn) : Prop extends C_law_mixed T, C_law_take T where at_law_pattern : T[g_law_pattern]? = some F_law_pattern
@[simp] theorem env_law_pattern {T : List Fn} {m k : Nat} [C_law_pattern T] : envT T m k g_law_pattern = some ([true, false, false], runF T m k g_law_pattern) := envT_at (F := F_law_pattern) C_law_pattern.at_law_pattern
theorem go_law_pattern {T : List Fn} {m k : Nat} {as : List Sl} {r : CR} [C_law_pattern T] (hl : as.length = 3) (hn : r ≠ .no) (hw : Wp (evB m (envT T m k) B_law_pattern (as ++ List.replicate (7 - as.length) .non)) (Fin as r)) : runF T m (k + 1) g_law_pattern as = r := runF_wp (F := F_law_pattern) C_law_pattern.at_law_pattern hl.symm hn hw
theorem gox_law_pattern {T : List Fn} {m k : Nat} {as : List Sl} {P : CR → Prop} [C_law_pattern T] (hl : as.length = 3) (hn : ∀ r, P r → r ≠ .no) (hw : ∀ R, FinR as P R → Wp (evB m (envT T m k) B_law_pattern (as ++ List.replicate (7 - as.length) .non)) R) : P (runF T m (k + 1) g_law_pattern as) := runF_ex (F := F_law_pattern) C_law_pattern.at_law_pattern hl.symm hn hw
def law_clash_L2 : List IS := [.ife (.cmp .eq (.bin .mod (.blt .int [.bin .sub (.bin .sub (.bin .add (.sub (.var 0) (.var 1)) (.var 1)) (.sub (.var 0) (.var 2))) (.var 2)]) (.blt .len [.var 0])) (.con (.int 0))) [.ret (.tup [.var 1, .var 2])] []]
def law_clash_L1 : List IS := [.for_ (.var 2) (.rng (.bin .add (.var 1) (.con (.int 1))) (.blt .len [.var 0])) law_clash_L2]
def B_law_clash : List IS := [.for_ (.var 1) (.rng (.con (.int 0)) (.blt .len [.var 0])) law_clash_L1, .ret (.con .non)]
/-- 0:row 1:i 2:j -/
def F_law_clash : Fn := ⟨[false], 3, B_law_clash⟩
class C_law_clash (T : List Fn) : Prop where at_law_clash : T[g_law_clash]? = some F_law_clash
@[simp] theorem env_law_clash {T : List Fn} {m k : Nat} [C_law_clash T] : envT T m k g_law_clash = some ([false], runF T m k g_law_clash) := envT_at (F := F_law_clash) C_law_clash.at_law_clash
theorem go_law_clash {T : List Fn} {m k : Nat} {as : List Sl} {r : CR} [C_law_clash T] (hl : as.length = 1) (hn : r ≠ .no) (hw : Wp (evB m (envT T m k) B_law_clash (as ++ List.replicate (3 - as.length) .non)) (Fin as r)) : runF T m (k + 1) g_law_clash as = r := runF_wp (F := F_law_clash) C_law_clash.at_law_clash hl.symm hn hw
theorem gox_law_clash {T : List Fn} {m k : Nat} {as : List Sl} {P : CR → Prop} [C_law_clash T] (hl : as.length = 1) (hn : ∀ r, P r → r ≠ .no) (hw : ∀ R, FinR as P R → Wp (evB m (envT T m k) B_law_clash (as ++ List.replicate (3 - as.length) .non)) R) : P (runF T m (k + 1) g_law_clash as) := runF_ex (F := F_law_clash) C_law_clash.at_law_clash hl.symm hn hw
def B_law_told : List IS := [.tryAs [.ret (.calld (.sub (.lst [.con (.fn g_landings), .con (.fn g_clash_of), .con (.fn g_balls_of)]) (.var 0)) [.var 1])] 0 2 [[.ret (.lst [.con (.bl false), .con (.bl false), .con (.bl false), .con (.bl false), .con (.bl false)])], [.ret (.lst [.con (.bl true), .con (.bl false), .con (.bl false), .con (.bl false), .con (.bl false)])], [.ret (.lst [.con (.bl false), .con (.bl true), .con (.bl false), .con (.bl false), .con (.bl false)])], [.ret (.lst [.con (.bl false), .con (.bl false), .con (.bl true), .con (.bl false), .con (.bl false)])], [.ret (.lst [.con (.bl false), .con (.bl false), .con (.bl false), .con (.bl true), .con (.bl false)])], [.ret (.lst [.con (.bl false), .con (.bl false), .con (.bl false), .con (.bl false), .con (.bl true)])]]]
/-- 0:which 1:value 2:e -/
def F_law_told : Fn := ⟨[false, false], 3, B_law_told⟩
class C_law_told (T : List Fn) : Prop extends C_landings T, C_clash_of T, C_balls_of T where at_law_told : T[g_law_told]? = some F_law_told
@[simp] theorem env_law_told {T : List Fn} {m k : Nat} [C_law_told T] : envT T m k g_law_told = some ([false, false], runF T m k g_law_told) := envT_at (F := F_law_told) C_law_told.at_law_told
theorem go_law_told {T : List Fn} {m k : Nat} {as : List Sl} {r : CR} [C_law_told T] (hl : as.length = 2) (hn : r ≠ .no) (hw : Wp (evB m (envT T m k) B_law_told (as ++ List.replicate (3 - as.length) .non)) (Fin as r)) : runF T m (k + 1) g_law_told as = r := runF_wp (F := F_law_told) C_law_told.at_law_told hl.symm hn hw
theorem gox_law_told {T : List Fn} {m k : Nat} {as : List Sl} {P : CR → Prop} [C_law_told T] (hl : as.length = 2) (hn : ∀ r, P r → r ≠ .no) (hw : ∀ R, FinR as P R → Wp (evB m (envT T m k) B_law_told (as ++ List.replicate (3 - as.length) .non)) R) : P (runF T m (k + 1) g_law_told as) := runF_ex (F := F_law_told) C_law_told.at_law_told hl.symm hn hw
def law_of_length_L1 : List IS := [.asg (.var 7) (.bin .mod (.blt .int [.bin .sub (.sub (.var 3) (.var 6)) (.var 6)]) (.var 1)), .asg (.var 8) (.blt .min [.var 4, .bin .fdiv (.bin .sub (.var 2) (.var 7)) (.var 1)]), .expr (.mut .append 5 [.bin .add (.var 7) (.bin .mul (.var 1) (.call g_law_take [.var 0, .bin .add (.var 8) (.con (.int 1))]))])]
def B_law_of_length : List IS := [.asg (.var 3) (.call g_law_shuffled [.var 0, .rng false (.con (.int 0)) (.var 1)]), .asg (.var 4) (.call g_law_pick [.var 0, .shl [.con (.int 0), .con (.int 1), .con (.int 1), .con (.int 2), .con (.int 99)]]), .asg (.var 5) (.lst []), .for_ (.var 6) (.rng (.con (.int 0)) (.var 1)) law_of_length_L1, .ret (.blt .tuple [.var 5])]
/-- 0:draws 1:count 2:high 3:goals 4:wide 5:found 6:k 7:height 8:more -/
def F_law_of_length : Fn := ⟨[true, false, false], 9, B_law_of_length⟩
class C_law_of_length (T : List Fn) : Prop extends C_law_shuffled T, C_law_pick T, C_law_take T where at_law_of_length : T[g_law_of_length]? = some F_law_of_length
@[simp] theorem env_law_of_length {T : List Fn} {m k : Nat} [C_law_of_length T] : envT T m k g_law_of_length = some ([true, false, false], runF T m k g_law_of_length) := envT_at (F := F_law_of_length) C_law_of_length.at_law_of_length
theorem go_law_of_length {T : List Fn} {m k : Nat} {as : List Sl} {r : CR} [C_law_of_length T] (hl : as.length = 3) (hn : r ≠ .no) (hw : Wp (evB m (envT T m k) B_law_of_length (as ++ List.replicate (9 - as.length) .non)) (Fin as r)) : runF T m (k + 1) g_law_of_length as = r := runF_wp (F := F_law_of_length) C_law_of_length.at_law_of_length hl.symm hn hw
theorem gox_law_of_length {T : List Fn} {m k : Nat} {as : List Sl} {P : CR → Prop} [C_law_of_length T] (hl : as.length = 3) (hn : ∀ r, P r → r ≠ .no) (hw : ∀ R, FinR as P R → Wp (evB m (envT T m k) B_law_of_length (as ++ List.replicate (9 - as.length) .non)) R) : P (runF T m (k + 1) g_law_of_length as) := runF_ex (F := F_law_of_length) C_law_of_length.at_law_of_length hl.symm hn hw
def B_law_pattern_v2 : List IS := [.asg (.var 3) (.bin .add (.con (.int 1)) (.call g_law_take [.var 0, .var 1])), .ret (.call g_law_of_length [.var 0, .var 3, .blt .max [.var 2, .bin .sub (.var 3) (.con (.int 1))]])]
/-- 0:draws 1:most 2:high 3:count -/
def F_law_pattern_v2 : Fn := ⟨[true, false, false], 4, B_law_pattern_v2⟩
class C_law_pattern_v2 (T : List Fn) : Prop extends C_law_take T, C_law_of_length T where at_law_pattern_v2 : T[g_law_pattern_v2]? = some F_law_pattern_v2
@[simp] theorem env_law_pattern_v2 {T : List Fn} {m k : Nat} [C_law_pattern_v2 T] : envT T m k g_law_pattern_v2 = some ([true, false, false], runF T m k g_law_pattern_v2) := envT_at (F := F_law_pattern_v2) C_law_pattern_v2.at_law_pattern_v2
theorem go_law_pattern_v2 {T : List Fn} {m k : Nat} {as : List Sl} {r : CR} [C_law_pattern_v2 T] (hl : as.length = 3) (hn : r ≠ .no) (hw : Wp (evB m (envT T m k) B_law_pattern_v2 (as ++ List.replicate (4 - as.length) .non)) (Fin as r)) : runF T m (k + 1) g_law_pattern_v2 as = r := runF_wp (F := F_law_pattern_v2) C_law_pattern_v2.at_law_pattern_v2 hl.symm hn hw
theorem gox_law_pattern_v2 {T : List Fn} {m k : Nat} {as : List Sl} {P : CR → Prop} [C_law_pattern_v2 T] (hl : as.length = 3) (hn : ∀ r, P r → r ≠ .no) (hw : ∀ R, FinR as P R → Wp (evB m (envT T m k) B_law_pattern_v2 (as ++ List.replicate (4 - as.length) .non)) R) : P (runF T m (k + 1) g_law_pattern_v2 as) := runF_ex (F := F_law_pattern_v2) C_law_pattern_v2.at_law_pattern_v2 hl.symm hn hw
def B_can_throw : List IS := [.expr (.call g_check_state [.var 0]), .ret (.and (.cmp .le (.var 1) (.con (.int 60))) (.call g_fits [.var 0, .var 1]))]
/-- 0:state 1:h -/
def F_can_throw : Fn := ⟨[false, false], 2, B_can_throw⟩
class C_can_throw (T : List Fn) : Prop extends C_check_state T, C_fits T where at_can_throw : T[g_can_throw]? = some F_can_throw
@[simp] theorem env_can_throw {T : List Fn} {m k : Nat} [C_can_throw T] : envT T m k g_can_throw = some ([false, false], runF T m k g_can_throw) := envT_at (F := F_can_throw) C_can_throw.at_can_throw
theorem go_can_throw {T : List Fn} {m k : Nat} {as : List Sl} {r : CR} [C_can_throw T] (hl : as.length = 2) (hn : r ≠ .no) (hw : Wp (evB m (envT T m k) B_can_throw (as ++ List.replicate (2 - as.length) .non)) (Fin as r)) : runF T m (k + 1) g_can_throw as = r := runF_wp (F := F_can_throw) C_can_throw.at_can_throw hl.symm hn hw
theorem gox_can_throw {T : List Fn} {m k : Nat} {as : List Sl} {P : CR → Prop} [C_can_throw T] (hl : as.length = 2) (hn : ∀ r, P r → r ≠ .no) (hw : ∀ R, FinR as P R → Wp (evB m (envT T m k) B_can_throw (as ++ List.replicate (2 - as.length) .non)) R) : P (runF T m (k + 1) g_can_throw as) := runF_ex (F := F_can_throw) C_can_throw.at_can_throw hl.symm hn hw
def B_next_state : List IS := [.ife (.not (.call g_can_throw [.var 0, .var 1])) [.raise 2] [], .ret (.call g_behind [.var 0, .var 1])]
/-- 0:state 1:h -/
def F_next_state : Fn := ⟨[false, false], 2, B_next_state⟩
class C_next_state (T : List Fn) : Prop extends C_can_throw T, C_behind T where at_next_state : T[g_next_state]? = some F_next_state
@[simp] theorem env_next_state {T : List Fn} {m k : Nat} [C_next_state T] : envT T m k g_next_state = some ([false, false], runF T m k g_next_state) := envT_at (F := F_next_state) C_next_state.at_next_state
theorem go_next_state {T : List Fn} {m k : Nat} {as : List Sl} {r : CR} [C_next_state T] (hl : as.length = 2) (hn : r ≠ .no) (hw : Wp (evB m (envT T m k) B_next_state (as ++ List.replicate (2 - as.length) .non)) (Fin as r)) : runF T m (k + 1) g_next_state as = r := runF_wp (F := F_next_state) C_next_state.at_next_state hl.symm hn hw
theorem gox_next_state {T : List Fn} {m k : Nat} {as : List Sl} {P : CR → Prop} [C_next_state T] (hl : as.length = 2) (hn : ∀ r, P r → r ≠ .no) (hw : ∀ R, FinR as P R → Wp (evB m (envT T m k) B_next_state (as ++ List.replicate (2 - as.length) .non)) R) : P (runF T m (k + 1) g_next_state as) := runF_ex (F := F_next_state) C_next_state.at_next_state hl.symm hn hw
def B_ground : List IS := [.ife (.not (.call g_is_within [.var 0, .con (.int 0), .con (.int 60)])) [.raise 1] [], .ret (.rng true (.con (.int 0)) (.var 0))]
/-- 0:b -/
def F_ground : Fn := ⟨[false], 1, B_ground⟩
class C_ground (T : List Fn) : Prop extends C_is_within T where at_ground : T[g_ground]? = some F_ground
@[simp] theorem env_ground {T : List Fn} {m k : Nat} [C_ground T] : envT T m k g_ground = some ([false], runF T m k g_ground) := envT_at (F := F_ground) C_ground.at_ground
theorem go_ground {T : List Fn} {m k : Nat} {as : List Sl} {r : CR} [C_ground T] (hl : as.length = 1) (hn : r ≠ .no) (hw : Wp (evB m (envT T m k) B_ground (as ++ List.replicate (1 - as.length) .non)) (Fin as r)) : runF T m (k + 1) g_ground as = r := runF_wp (F := F_ground) C_ground.at_ground hl.symm hn hw
theorem gox_ground {T : List Fn} {m k : Nat} {as : List Sl} {P : CR → Prop} [C_ground T] (hl : as.length = 1) (hn : ∀ r, P r → r ≠ .no) (hw : ∀ R, FinR as P R → Wp (evB m (envT T m k) B_ground (as ++ List.replicate (1 - as.length) .non)) R) : P (runF T m (k + 1) g_ground as) := runF_ex (F := F_ground) C_ground.at_ground hl.symm hn hw
def row_back_L1 : List IS := [.asg (.var 0) (.call g_next_state [.var 0, .var 2])]
def B_row_back : List IS := [.expr (.call g_check_state [.var 0]), .for_ (.var 2) (.seq (.var 1)) row_back_L1, .ret (.var 0)]
/-- 0:state 1:heights 2:h -/
def F_row_back : Fn := ⟨[false, false], 3, B_row_back⟩
class C_row_back (T : List Fn) : Prop extends C_check_state T, C_next_state T where at_row_back : T[g_row_back]? = some F_row_back
@[simp] theorem env_row_back {T : List Fn} {m k : Nat} [C_row_back T] : envT T m k g_row_back = some ([false, false], runF T m k g_row_back) := envT_at (F := F_row_back) C_row_back.at_row_back
theorem go_row_back {T : List Fn} {m k : Nat} {as : List Sl} {r : CR} [C_row_back T] (hl : as.length = 2) (hn : r ≠ .no) (hw : Wp (evB m (envT T m k) B_row_back (as ++ List.replicate (3 - as.length) .non)) (Fin as r)) : runF T m (k + 1) g_row_back as = r := runF_wp (F := F_row_back) C_row_back.at_row_back hl.symm hn hw
theorem gox_row_back {T : List Fn} {m k : Nat} {as : List Sl} {P : CR → Prop} [C_row_back T] (hl : as.length = 2) (hn : ∀ r, P r → r ≠ .no) (hw : ∀ R, FinR as P R → Wp (evB m (envT T m k) B_row_back (as ++ List.replicate (3 - as.length) .non)) R) : P (runF T m (k + 1) g_row_back as) := runF_ex (F := F_row_back) C_row_back.at_row_back hl.symm hn hw
def law_is_state_C2 : IE := .cmp .lt (.sub (.var 0) (.var 1)) (.sub (.var 0) (.bin .add (.var 1) (.con (.int 1))))
def law_is_state_C1 : IE := .and (.isi (.var 2) [.ty "int"]) (.and (.not (.isi (.var 2) [.ty "bool"])) (.and (.cmp .ge (.var 2) (.con (.int 0))) (.cmp .le (.var 2) (.con (.int 60)))))
def B_law_is_state : List IS := [.ife (.or (.not (.isi (.var 0) [.ty "tuple"])) (.cmp .gt (.blt .len [.var 0]) (.con (.int 60)))) [.ret (.con (.bl false))] [], .ife (.not (.blt .all [.lc [2] (.var 2) (.seq (.var 0)) [] law_is_state_C1])) [.ret (.con (.bl false))] [], .ret (.blt .all [.lc [1] (.var 1) (.rng (.con (.int 0)) (.bin .sub (.blt .len [.var 0]) (.con (.int 1)))) [] law_is_state_C2])]
/-- 0:value 1:k 2:one -/
def F_law_is_state : Fn := ⟨[false], 3, B_law_is_state⟩
class C_law_is_state (T : List Fn) : Prop where at_law_is_state : T[g_law_is_state]? = some F_law_is_state
@[simp] theorem env_law_is_state {T : List Fn} {m k : Nat} [C_law_is_state T] : envT T m k g_law_is_state = some ([false], runF T m k g_law_is_state) := envT_at (F := F_law_is_state) C_law_is_state.at_law_is_state
theorem go_law_is_state {T : List Fn} {m k : Nat} {as : List Sl} {r : CR} [C_law_is_state T] (hl : as.length = 1) (hn : r ≠ .no) (hw : Wp (evB m (envT T m k) B_law_is_state (as ++ List.replicate (3 - as.length) .non)) (Fin as r)) : runF T m (k + 1) g_law_is_state as = r := runF_wp (F := F_law_is_state) C_law_is_state.at_law_is_state hl.symm hn hw
theorem gox_law_is_state {T : List Fn} {m k : Nat} {as : List Sl} {P : CR → Prop} [C_law_is_state T] (hl : as.length = 1) (hn : ∀ r, P r → r ≠ .no) (hw : ∀ R, FinR as P R → Wp (evB m (envT T m k) B_law_is_state (as ++ List.replicate (3 - as.length) .non)) R) : P (runF T m (k + 1) g_law_is_state as) := runF_ex (F := F_law_is_state) C_law_is_state.at_law_is_state hl.symm hn hw
def B_law_near : List IS := [.asg (.var 2) (.blt .list [.var 1]), .asg (.var 3) (.call g_law_take [.var 0, .con (.int 7)]), .ife (.cmp .eq (.var 3) (.con (.int 0))) [.ret (.var 2)] [], .ife (.cmp .eq (.var 3) (.con (.int 1))) [.ret (.blt .revtup [.var 2])] [], .ife (.cmp .eq (.var 3) (.con (.int 2))) [.ret (.blt .tuple [.bin .add (.var 2) (.slc (.var 2) (some (.neg (.con (.int 1)))) none)])] [], .ife (.cmp .eq (.var 3) (.con (.int 3))) [.ret (.blt .tuple [.bin .add (.var 2) (.lst [.call g_law_pick [.var 0, .shl [.con (.int 60), .con (.int 61), .con (.int 59), .con (.int 99)]]])])] [], .ife (.cmp .eq (.var 3) (.con (.int 4))) [.ret (.blt .tuple [.bin .add (.lst [.call g_law_pick [.var 0, .shl [.neg (.con (.int 1)), .con (.int 0), .con (.bl true), .con .non, .con (.str (PySem.Str.ofString "0"))]]]) (.var 2)])] [], .ife (.cmp .eq (.var 3) (.con (.int 5))) [.ret (.call g_law_pick [.var 0, .shl [.con .non, .con (.int 7), .con (.str (PySem.Str.ofString "01")), .rng true (.con (.int 0)) (.con (.int 61)), .rng true (.con (.int 1)) (.con (.int 61)), .rng true (.con (.int 0)) (.con (.int 60)), .tup [.tup [.con (.int 0)]], .blt .emp []]])] [], .ret (.blt .tuple [.var 2])]
/-- 0:draws 1:state 2:found 3:kind -/
def F_law_near : Fn := ⟨[true, false], 4, B_law_near⟩
class C_law_near (T : List Fn) : Prop extends C_law_take T, C_law_pick T where at_law_near : T[g_law_near]? = some F_law_near
@[simp] theorem env_law_near {T : List Fn} {m k : Nat} [C_law_near T] : envT T m k g_law_near = some ([true, false], runF T m k g_law_near) := envT_at (F := F_law_near) C_law_near.at_law_near
theorem go_law_near {T : List Fn} {m k : Nat} {as : List Sl} {r : CR} [C_law_near T] (hl : as.length = 2) (hn : r ≠ .no) (hw : Wp (evB m (envT T m k) B_law_near (as ++ List.replicate (4 - as.length) .non)) (Fin as r)) : runF T m (k + 1) g_law_near as = r := runF_wp (F := F_law_near) C_law_near.at_law_near hl.symm hn hw
theorem gox_law_near {T : List Fn} {m k : Nat} {as : List Sl} {P : CR → Prop} [C_law_near T] (hl : as.length = 2) (hn : ∀ r, P r → r ≠ .no) (hw : ∀ R, FinR as P R → Wp (evB m (envT T m k) B_law_near (as ++ List.replicate (4 - as.length) .non)) R) : P (runF T m (k + 1) g_law_near as) := runF_ex (F := F_law_near) C_law_near.at_law_near hl.symm hn hw
def B_law_told_v4 : List IS := [.try_ [.ife (.cmp .eq (.var 0) (.con (.int 0))) [.ret (.call g_can_throw [.var 1, .var 2])] [], .ife (.cmp .eq (.var 0) (.con (.int 1))) [.ret (.call g_next_state [.var 1, .var 2])] [], .ife (.cmp .eq (.var 0) (.con (.int 2))) [.ret (.call g_row_back [.var 1, .var 2])] [], .ret (.call g_ground [.var 2])] [.mk 1 [.ret (.tup [.con (.str (PySem.Str.ofString "refused")), .con (.str (PySem.Str.ofString "not right"))])], .mk 2 [.ret (.tup [.con (.str (PySem.Str.ofString "refused")), .con (.str (PySem.Str.ofString "not there"))])], .mk 0 [.ret (.tup [.con (.str (PySem.Str.ofString "refused")), .con (.str (PySem.Str.ofString "other"))])]]]
/-- 0:which 1:state 2:value -/
def F_law_told_v4 : Fn := ⟨[false, false, false], 3, B_law_told_v4⟩
class C_law_told_v4 (T : List Fn) : Prop extends C_can_throw T, C_next_state T, C_row_back T, C_ground T where at_law_told_v4 : T[g_law_told_v4]? = some F_law_told_v4
@[simp] theorem env_law_told_v4 {T : List Fn} {m k : Nat} [C_law_told_v4 T] : envT T m k g_law_told_v4 = some ([false, false, false], runF T m k g_law_told_v4) := envT_at (F := F_law_told_v4) C_law_told_v4.at_law_told_v4
theorem go_law_told_v4 {T : List Fn} {m k : Nat} {as : List Sl} {r : CR} [C_law_told_v4 T] (hl : as.length = 3) (hn : r ≠ .no) (hw : Wp (evB m (envT T m k) B_law_told_v4 (as ++ List.replicate (3 - as.length) .non)) (Fin as r)) : runF T m (k + 1) g_law_told_v4 as = r := runF_wp (F := F_law_told_v4) C_law_told_v4.at_law_told_v4 hl.symm hn hw
theorem gox_law_told_v4 {T : List Fn} {m k : Nat} {as : List Sl} {P : CR → Prop} [C_law_told_v4 T] (hl : as.length = 3) (hn : ∀ r, P r → r ≠ .no) (hw : ∀ R, FinR as P R → Wp (evB m (envT T m k) B_law_told_v4 (as ++ List.replicate (3 - as.length) .non)) R) : P (runF T m (k + 1) g_law_told_v4 as) := runF_ex (F := F_law_told_v4) C_law_told_v4.at_law_told_v4 hl.symm hn hw
def B_law_behind : List IS := [.asg (.var 2) (.call g_law_step [.var 0, .var 1]), .ret (.ife (.or (.cmp .is (.var 2) (.con .non)) (.cmp .gt (.var 1) (.con (.int 60)))) (.tup [.con (.str (PySem.Str.ofString "refused")), .con (.str (PySem.Str.ofString "not there"))]) (.var 2))]
/-- 0:state 1:height 2:found -/
def F_law_behind : Fn := ⟨[false, false], 3, B_law_behind⟩
class C_law_behind (T : List Fn) : Prop extends C_law_step T where at_law_behind : T[g_law_behind]? = some F_law_behind
@[simp] theorem env_law_behind {T : List Fn} {m k : Nat} [C_law_behind T] : envT T m k g_law_behind = some ([false, false], runF T m k g_law_behind) := envT_at (F := F_law_behind) C_law_behind.at_law_behind
theorem go_law_behind {T : List Fn} {m k : Nat} {as : List Sl} {r : CR} [C_law_behind T] (hl : as.length = 2) (hn : r ≠ .no) (hw : Wp (evB m (envT T m k) B_law_behind (as ++ List.replicate (3 - as.length) .non)) (Fin as r)) : runF T m (k + 1) g_law_behind as = r := runF_wp (F := F_law_behind) C_law_behind.at_law_behind hl.symm hn hw
theorem gox_law_behind {T : List Fn} {m k : Nat} {as : List Sl} {P : CR → Prop} [C_law_behind T] (hl : as.length = 2) (hn : ∀ r, P r → r ≠ .no) (hw : ∀ R, FinR as P R → Wp (evB m (envT T m k) B_law_behind (as ++ List.replicate (3 - as.length) .non)) R) : P (runF T m (k + 1) g_law_behind as) := runF_ex (F := F_law_behind) C_law_behind.at_law_behind hl.symm hn hw
def law_run_C1 : IE := .var 5
def law_run_L1 : List IS := [.asg (.var 4) (.ife (.cmp .inn (.con (.int 0)) (.var 1)) (.lc [5] (.var 5) (.rng (.con (.int 1)) (.con (.int 61))) [.cmp .nin (.var 5) (.var 1)] law_run_C1) (.lst [.con (.int 0)])), .expr (.mut .append 2 [.call g_law_pick [.var 0, .bin .add (.var 4) (.bin .mul (.slc (.var 4) none (some (.con (.int 1)))) (.con (.int 9)))]]), .asg (.var 1) (.call g_law_step [.var 1, .sub (.var 2) (.neg (.con (.int 1)))])]
def B_law_run : List IS := [.asg (.var 2) (.lst []), .for_ (.var 3) (.rng (.con (.int 0)) (.call g_law_pick [.var 0, .shl [.con (.int 0), .con (.int 1), .con (.int 3), .con (.int 12), .con (.int 60)]])) law_run_L1, .ret (.tup [.var 2, .var 1])]
/-- 0:draws 1:state 2:found 3:turn 4:free 5:h -/
def F_law_run : Fn := ⟨[true, false], 6, B_law_run⟩
class C_law_run (T : List Fn) : Prop extends C_law_pick T, C_law_step T where at_law_run : T[g_law_run]? = some F_law_run
@[simp] theorem env_law_run {T : List Fn} {m k : Nat} [C_law_run T] : envT T m k g_law_run = some ([true, false], runF T m k g_law_run) := envT_at (F := F_law_run) C_law_run.at_law_run
theorem go_law_run {T : List Fn} {m k : Nat} {as : List Sl} {r : CR} [C_law_run T] (hl : as.length = 2) (hn : r ≠ .no) (hw : Wp (evB m (envT T m k) B_law_run (as ++ List.replicate (6 - as.length) .non)) (Fin as r)) : runF T m (k + 1) g_law_run as = r := runF_wp (F := F_law_run) C_law_run.at_law_run hl.symm hn hw
theorem gox_law_run {T : List Fn} {m k : Nat} {as : List Sl} {P : CR → Prop} [C_law_run T] (hl : as.length = 2) (hn : ∀ r, P r → r ≠ .no) (hw : ∀ R, FinR as P R → Wp (evB m (envT T m k) B_law_run (as ++ List.replicate (6 - as.length) .non)) R) : P (runF T m (k + 1) g_law_run as) := runF_ex (F := F_law_run) C_law_run.at_law_run hl.symm hn hw
end Z

/-! P1: rows -/
namespace Z
open PySem
variable {T : List Fn} {m k : Nat}
def withinD (a b : Int) : D → Bool
  | .int i => decide (a ≤ i) && decide (i ≤ b)
  | _ => false
/-- what a caller may hand over to be looked at -/
def plainD : D → Bool
  | .fn _ => false
  | .exc _ _ => false
  | .gvn _ => false
  | _ => true
@[simp] theorem plain_int (i : Int) : plainD (.int i) = true := rfl
@[simp] theorem plain_tup (i : List D) : plainD (.tup i) = true := rfl
theorem within_ok [C_is_within T] (d : D) (a b : Int) (hd : plainD d = true) :
    runF T m (k + 1) g_is_within [.fz d, .fz (.int a), .fz (.int b)] = .ok (.fz (.bl (withinD a b d))) [.fz d, .fz (.int a), .fz (.int b)] := by
  refine go_is_within rfl nofun ?_
  cases d with
  | int i =>
    by_cases h1 : a ≤ i
    · simp [B_is_within, withinD, h1]
    · simp [B_is_within, withinD, h1]
  | fn i => cases hd
  | exc c v => cases hd
  | gvn v => cases hd
  | _ => simp [B_is_within, withinD]
def rowD : D → Bool
  | .tup xs => decide (1 ≤ xs.length ∧ xs.length ≤ 40) && xs.all (withinD 0 60)
  | _ => false
def plainR (d : D) : Prop := plainD d = true ∧ ∀ xs, d = .tup xs → ∀ x ∈ xs, plainD x = true
@[simp] theorem plainR_iD (hs : List Int) : plainR (.tup (iD hs)) := ⟨rfl, fun xs e x hx => by cases e; obtain ⟨i, _, rfl⟩ := List.mem_map.mp hx; rfl⟩
theorem row_ok [C_is_row T] (d : D) (hd : plainR d) :
    runF T m (k + 2) g_is_row [.fz d] = .ok (.fz (.bl (rowD d))) [.fz d] := by
  refine go_is_row rfl nofun ?_
  obtain ⟨hd, hx⟩ := hd
  cases d with
  | fn i => cases hd
  | exc c v => cases hd
  | gvn v => cases hd
  | tup xs =>
    by_cases h1 : (1 : Int) ≤ xs.length
    · by_cases h2 : (xs.length : Int) ≤ 40
      · obtain ⟨sf, e1, e2⟩ := lc_pure (own := [1]) (turn := lcT (envT T m (k + 1)) (.var 1) [] is_row_C1) (s := [.fz (.tup xs), .non]) (fun x => [.bl (withinD 0 60 x)]) xs rfl (sL (by omega)) fun x hm acc ha => by
          simp [lcT, is_row_C1, within_ok _ _ _ (hx xs rfl x hm), ha]
        simp [B_is_row, h1, h2, e1, e2, ← List.map_eq_flatMap, rowD]
        omega
      · simp [B_is_row, h1, h2, rowD]; omega
    · simp [B_is_row, h1, rowD]; omega
  | _ => simp [B_is_row, rowD]
def landI (hs : List Int) : List Int := hs.zipIdx.map fun x => ((x.2 : Int) + x.1) % hs.length
@[simp] theorem landI_len (hs : List Int) : (landI hs).length = hs.length := by simp [landI]
theorem landI_get (hs : List Int) (i : Nat) : (landI hs)[i]? = (hs[i]?).map fun h => ((i : Int) + h) % hs.length := by
  simp only [landI, List.getElem?_map, List.getElem?_zipIdx, Option.map_map, Nat.zero_add]
  rfl
theorem land_ok [C_land T] (hs : List Int) (h1 : hs.length ≤ 1000) :
    runF T m (k + 1) g_land [.fz (.tup (iD hs))] = .ok (.tmp (iD (landI hs))) [.fz (.tup (iD hs))] := by
  refine go_land rfl nofun ?_
  obtain ⟨sf, e1, e2⟩ := lc_pure (own := [1, 2]) (turn := lcT (envT T m k) (.tup [(.var 1), (.var 2)]) [] land_C1) (s := [.fz (.tup (iD hs)), .non, .non])
    (fun x => match x with | .tup [.int i, .int h] => [.int ((i + h) % hs.length)] | _ => []) (enumD (iD hs)) rfl (sL (by simp; omega)) fun x hm acc ha => by
      obtain ⟨j, hj⟩ := List.mem_iff_getElem?.mp hm
      obtain ⟨d, h2, rfl⟩ := enum_get hj
      obtain ⟨x, h3, rfl⟩ := iD_getS h2
      have hp : 0 < hs.length := by have := (List.getElem?_eq_some_iff.mp h3).1; omega
      simp [lcT, land_C1, ha, hp]
  have e : (enumD (iD hs)).flatMap (fun x => match x with | .tup [.int i, .int h] => [.int ((i + h) % hs.length)] | _ => []) = iD (landI hs) := by
    simp [enumD, iD, landI, List.zipIdx_map, List.flatMap_map, List.map_map, Function.comp_def, ← List.map_eq_flatMap]
  rw [e] at e1
  simp [B_land, e1, e2]
theorem within_int {d : D} {a b : Int} (h : withinD a b d = true) : ∃ i, d = .int i ∧ a ≤ i ∧ i ≤ b := by
  cases d <;> simp [withinD] at h
  exact ⟨_, rfl, h.1, h.2⟩
theorem all_ints {a b : Int} : ∀ {xs : List D}, (∀ x ∈ xs, withinD a b x = true) → ∃ hs : List Int, xs = iD hs ∧ ∀ h ∈ hs, a ≤ h ∧ h ≤ b
  | [], _ => ⟨[], rfl, by simp⟩
  | x :: xs, h => by
    obtain ⟨i, rfl, h1, h2⟩ := within_int (h x (by simp))
    obtain ⟨hs, rfl, h3⟩ := all_ints (xs := xs) fun y hy => h y (by simp [hy])
    refine ⟨i :: hs, rfl, fun z hz => ?_⟩
    rcases List.mem_cons.mp hz with rfl | hz
    · exact ⟨h1, h2⟩
    · exact h3 z hz
/-- a row, as ints -/
def rowI (hs : List Int) : Prop := 1 ≤ hs.length ∧ hs.length ≤ 40 ∧ ∀ h ∈ hs, 0 ≤ h ∧ h ≤ 60
theorem rowD_ints {d : D} (h : rowD d = true) : ∃ hs : List Int, d = .tup (iD hs) ∧ rowI hs := by
  cases d <;> simp [rowD] at h
  rename_i xs
  obtain ⟨hs, rfl, h3⟩ := all_ints (xs := xs) h.2
  rw [iD_len] at h
  exact ⟨hs, rfl, h.1.1, h.1.2, h3⟩
theorem rowD_iD {hs : List Int} : rowD (.tup (iD hs)) = true ↔ rowI hs := by
  simp [rowD, rowI, iD, withinD, and_assoc]
@[simp] theorem rowD_of {hs : List Int} (h : rowI hs) : rowD (.tup (iD hs)) = true := rowD_iD.mpr h
/-- the landings are different ones -/
def patI (hs : List Int) : Bool := (dd (landI hs)).length == hs.length
def patD : D → Bool
  | .tup xs => rowD (.tup xs) && (match intsD xs with | some hs => patI hs | none => false)
  | _ => false
theorem patD_row {d : D} (h : rowD d = false) : patD d = false := by
  cases d <;> simp [patD]
  rename_i xs
  rw [h]; simp
@[simp] theorem patD_iD {hs : List Int} (h : rowI hs) : patD (.tup (iD hs)) = patI hs := by simp [patD, h]
theorem lenset_lst {ns : List Int} (h : ns.length ≤ 4000) : blD .lenset [.lst (iD ns)] = some (.fz (.int (dd ns).length)) := by
  have : (iD ns).length + 1 < 4096 := by rw [iD_len]; omega
  simp only [blD, if_pos this, ints_iD]; rfl
theorem lenset_tup {ns : List Int} (h : ns.length ≤ 4000) : blD .lenset [.tup (iD ns)] = some (.fz (.int (dd ns).length)) := by
  have : (iD ns).length + 1 < 4096 := by rw [iD_len]; omega
  simp only [blD, if_pos this, ints_iD]; rfl
@[simp] theorem beq_natCast (i j : Nat) : ((i : Int) == (j : Int)) = (i == j) := by
  rw [Bool.eq_iff_iff, beq_iff_eq, beq_iff_eq]; omega
theorem pat_ok [C_is_pattern T] (d : D) (hd : plainR d) :
    runF T m (k + 3) g_is_pattern [.fz d] = .ok (.fz (.bl (patD d))) [.fz d] := by
  refine go_is_pattern rfl nofun ?_
  cases hrow : rowD d with
  | false => simp [B_is_pattern, row_ok d hd, hrow, patD_row hrow]
  | true =>
    obtain ⟨hs, rfl, hr⟩ := rowD_ints hrow
    simp [B_is_pattern, row_ok _ hd, land_ok hs (by have := hr.2.1; omega), hr, patI, lenset_lst (show (landI hs).length ≤ 4000 by simp; have := hr.2.1; omega)]
theorem check_row_ok [C_check_row T] (d : D) (hd : plainR d) :
    runF T m (k + 3) g_check_row [.fz d] = if rowD d = true then .ok (.fz .non) [.fz d] else .er (.exc 1 []) [.fz d] := by
  refine go_check_row rfl (by split <;> nofun) ?_
  cases h : rowD d <;> simp [B_check_row, row_ok d hd, h]
theorem check_pattern_ok [C_check_pattern T] (d : D) (hd : plainR d) :
    runF T m (k + 4) g_check_pattern [.fz d] = if patD d = true then .ok (.fz .non) [.fz d] else .er (.exc 1 []) [.fz d] := by
  refine go_check_pattern rfl (by split <;> nofun) ?_
  cases h : patD d <;> simp [B_check_pattern, pat_ok d hd, h]
theorem landings_er [C_landings T] (d : D) (hd : plainR d) (h : rowD d = false) :
    runF T m (k + 4) g_landings [.fz d] = .er (.exc 1 []) [.fz d] := by
  refine go_landings rfl nofun ?_
  simp [B_landings, check_row_ok d hd, h]
theorem landings_ok [C_landings T] (hs : List Int) (h : rowI hs) :
    runF T m (k + 4) g_landings [.fz (.tup (iD hs))] = .ok (.tmp (iD (landI hs))) [.fz (.tup (iD hs))] := by
  refine go_landings rfl nofun ?_
  simp [B_landings, check_row_ok, land_ok hs (by have := h.2.1; omega), h]
end Z

/-! P2: searches; clash_of, balls_of -/
namespace Z
open PySem
variable {T : List Fn} {m k : Nat}
theorem rf_some {α : Type} {f : Nat → Option α} {x : α} {i : Nat} : ∀ {n : Nat}, i < n → (∀ j, j < i → f j = none) → f i = some x → (List.range n).findSome? f = some x
  | 0, h, _, _ => absurd h (by omega)
  | n + 1, h, h1, h2 => by
    rw [List.range_succ, List.findSome?_append]
    by_cases hi : i < n
    · rw [rf_some hi h1 h2]; rfl
    · have : i = n := by omega
      subst this
      rw [List.findSome?_eq_none_iff.mpr fun j hj => h1 j (List.mem_range.mp hj)]
      simp [h2]
theorem rf_none {α : Type} {f : Nat → Option α} {n : Nat} (h : ∀ j, j < n → f j = none) : (List.range n).findSome? f = none :=
  List.findSome?_eq_none_iff.mpr fun j hj => h j (List.mem_range.mp hj)
/-- the first pair of places that q takes -/
def fp (q : Nat → Nat → Bool) (n : Nat) : Option (Nat × Nat) := (List.range n).findSome? fun i => (List.range n).findSome? fun j => if i < j ∧ q i j = true then some (i, j) else none
theorem fp_some {q : Nat → Nat → Bool} {n i j : Nat} (hij : i < j) (hj : j < n) (h : q i j = true) (h1 : ∀ i', i' < i → ∀ j', i' < j' → j' < n → q i' j' = false) (h2 : ∀ j', i < j' → j' < j → q i j' = false) : fp q n = some (i, j) := by
  refine rf_some (i := i) (by omega) (fun i' hi' => rf_none fun j' hj' => ?_) (rf_some (i := j) hj (fun j' hj' => ?_) ?_)
  · rw [if_neg]; rintro ⟨a, b⟩; rw [h1 i' hi' j' a hj'] at b; cases b
  · rw [if_neg]; rintro ⟨a, b⟩; rw [h2 j' a hj'] at b; cases b
  · rw [if_pos ⟨hij, h⟩]
theorem fp_none {q : Nat → Nat → Bool} {n : Nat} (h : ∀ i j, i < j → j < n → q i j = false) : fp q n = none :=
  rf_none fun i hi => rf_none fun j hj => by rw [if_neg]; rintro ⟨a, b⟩; rw [h i j a hj] at b; cases b
theorem fp_none_iff {q : Nat → Nat → Bool} {n : Nat} : fp q n = none ↔ ∀ i j, i < j → j < n → q i j = false := by
  refine ⟨fun h i j hij hj => ?_, fp_none⟩
  have h1 := List.findSome?_eq_none_iff.mp h i (List.mem_range.mpr (by omega))
  have h2 := List.findSome?_eq_none_iff.mp h1 j (List.mem_range.mpr hj)
  cases e : q i j with
  | false => rfl
  | true => rw [if_pos ⟨hij, e⟩] at h2; cases h2
theorem fp_congr {q q' : Nat → Nat → Bool} {n : Nat} (h : ∀ i j, i < j → j < n → q i j = q' i j) : fp q n = fp q' n := by
  cases e : fp q' n with
  | none => exact fp_none fun i j h1 h2 => by rw [h i j h1 h2]; exact fp_none_iff.mp e i j h1 h2
  | some x =>
    unfold fp at e ⊢
    rw [← e]
    congr 1; funext i
    have : ∀ j, j < n → (if i < j ∧ q i j = true then some (i, j) else none) = (if i < j ∧ q' i j = true then some (i, j) else none) := fun j hj => by
      by_cases hij : i < j
      · rw [h i j hij hj]
      · simp [hij]
    have key : ∀ l : List Nat, (∀ j ∈ l, j < n) → (l.findSome? fun j => if i < j ∧ q i j = true then some (i, j) else none) = l.findSome? fun j => if i < j ∧ q' i j = true then some (i, j) else none := by
      intro l
      induction l with
      | nil => intro _; rfl
      | cons a l ih => intro hl; simp only [List.findSome?_cons]; rw [this a (hl a (by simp)), ih fun j hj => hl j (by simp [hj])]
    exact key _ fun j hj => List.mem_range.mp hj
def pairD : Option (Nat × Nat) → D
  | none => .non
  | some (i, j) => .tup [.int i, .int j]
/-- the landings at two places are the same -/
def sameL (ts : List Int) (i j : Nat) : Bool := ts.getD j 0 == ts.getD i 0
theorem getD_of_some {ts : List Int} {j : Nat} {x : Int} (h : ts[j]? = some x) : ts.getD j 0 = x := by simp [List.getD, h]
theorem clash_ok [C_clash_of T] (hs : List Int) (h : rowI hs) :
    runF T m (k + 4) g_clash_of [.fz (.tup (iD hs))] = .ok (.fz (pairD (fp (sameL (landI hs)) hs.length))) [.fz (.tup (iD hs))] := by
  refine go_clash_of rfl nofun ?_
  have hb := h.2.1
  simp [B_clash_of, check_row_ok, land_ok hs (by omega), h]
  have hl := landI_len hs
  generalize landI hs = ts at *
  refine wFor (fun i s => s = [.fz (.tup (iD hs)), .brw (iD ts), .non, .non, .non] ∧ ∀ i', i' < i → ∀ j', i' < j' → j' < hs.length → sameL ts i' j' = false) (by simp) ⟨rfl, nofun⟩ ?_ ?_
  · rintro i d _ hd ⟨rfl, hn⟩ R hR
    obtain ⟨_, hx0, rfl⟩ := enum_get hd
    obtain ⟨x, hx, rfl⟩ := iD_getS hx0
    clear hx0 hd
    have hi : i < hs.length := by rw [← hl]; exact (List.getElem?_eq_some_iff.mp hx).1
    refine ⟨_, by simp; rfl, ?_⟩
    simp [clash_of_L1, rB_of (show -1000000000 ≤ (i : Int) + 1 by omega) (by omega), rB_of (show -1000000000 ≤ (ts.length : Int) by omega) (by omega)]
    refine wFor (fun t s => s = [.fz (.tup (iD hs)), .brw (iD ts), .fz (.int i), .fz (.int x), .non] ∧ ∀ j', i < j' → j' < i + 1 + t → sameL ts i j' = false) (by simp) ⟨rfl, fun j' h1 h2 => by omega⟩ ?_ ?_
    · rintro t d _ hd ⟨rfl, hn2⟩ R2 hR2
      obtain ⟨ht, rfl⟩ := rngD_get hd
      clear hd
      have hj : i + 1 + t < ts.length := by omega
      obtain ⟨y, hy⟩ : ∃ y, ts[i + 1 + t]? = some y := ⟨_, List.getElem?_eq_getElem hj⟩
      have es : subD (.lst (iD ts)) (.int ((i : Int) + 1 + t)) = some (.int y) := by simpa using sub_iD hy
      have eq : sameL ts i (i + 1 + t) = (y == x) := by simp only [sameL, getD_of_some hx, getD_of_some hy]
      refine ⟨_, by simp; rfl, ?_⟩
      by_cases hq : y = x
      · have ep := fp_some (q := sameL ts) (n := hs.length) (i := i) (j := i + 1 + t) (by omega) (by omega) (by rw [eq]; simpa using hq) hn fun j' h1 h2 => hn2 j' h1 (by omega)
        simp [clash_of_L2, es, hq, sL]
        refine hR2.ret ?_
        simp
        refine hR.ret ?_
        simp [ep, pairD]
      · simp [clash_of_L2, es, hq]
        refine hR2.next (s := [.fz (.tup (iD hs)), .brw (iD ts), .fz (.int i), .fz (.int x), .non]) (by simp) ⟨rfl, fun j' h1 h2 => ?_⟩
        by_cases e : j' = i + 1 + t
        · rw [e, eq]; simpa using hq
        · exact hn2 j' h1 (by omega)
    · rintro _ ⟨rfl, hn2⟩
      simp
      refine hR.next (s := [.fz (.tup (iD hs)), .brw (iD ts), .non, .non, .non]) (by simp) ⟨rfl, fun i' h1 j' h2 h3 => ?_⟩
      by_cases e : i' = i
      · subst e; exact hn2 j' h2 (by simp; omega)
      · exact hn i' (by omega) j' h2 h3
  · rintro _ ⟨rfl, hn⟩
    simp [fp_none (q := sameL ts) (n := hs.length) fun i j h1 h2 => hn i (by rw [enumD_len, iD_len, hl]; omega) j h1 h2, pairD]
end Z

/-! P3: draws -/
namespace Z
open PySem
variable {T : List Fn} {m k : Nat}
/-- what is taken -/
def tk (ns : List Int) (b : Int) : Int := (ns.getLast?.getD 0) % b
theorem tk_lo {ns : List Int} {b : Int} (h : 0 < b) : 0 ≤ tk ns b := Int.emod_nonneg _ (by omega)
theorem tk_hi {ns : List Int} {b : Int} (h : 0 < b) : tk ns b < b := Int.emod_lt_of_pos _ h
theorem mt_pop_iD {ns : List Int} (h : ns ≠ []) : mtO .pop (iD ns) [] = some (.int (ns.getLast?.getD 0), iD ns.dropLast) := by
  rw [mtO_eq]
  obtain ⟨a, ms, rfl⟩ : ∃ ms a, ns = ms ++ [a] := ⟨_, _, (List.dropLast_concat_getLast h).symm⟩
  simp [mtD, iD]
theorem take_ok [C_law_take T] (ns : List Int) (b : Int) (hb : 0 < b) :
    runF T m (k + 1) g_law_take [.io (iD ns), .fz (.int b)] = .ok (.fz (.int (tk ns b))) [.io (iD ns.dropLast), .fz (.int b)] := by
  refine go_law_take rfl nofun ?_
  by_cases hn : ns = []
  · subst hn
    simp [B_law_take, tk]
  · have hl : ¬ (ns.length : Int) = 0 := by have := List.length_pos_iff.mpr hn; omega
    simp [B_law_take, tk, hn, mt_pop_iD hn, hb]
theorem take_ok1 [C_law_take T] (ns : List Int) (b : Nat) (hb : 0 < b) :
    runF T m (k + 1) g_law_take [.io (iD ns), .fz (.int b)] = .ok (.fz (.int (tk ns b))) [.io (iD ns.dropLast), .fz (.int b)] := take_ok ns b (by omega)
theorem sub_at {ds : List D} {v : Int} (h0 : 0 ≤ v) (h1 : v < ds.length) : subD (.lst ds) (.int v) = some (ds.getD v.toNat .non) := by
  have hl : v.toNat < ds.length := by omega
  simp only [subD, ixD, if_pos h0, if_pos h1, Option.bind_some, List.getElem?_eq_getElem hl, List.getD_eq_getElem?_getD, Option.getD_some]
theorem pick_ok [C_law_pick T] (ns : List Int) (ds : List D) (hd : 0 < ds.length) :
    runF T m (k + 2) g_law_pick [.io (iD ns), .fz (.lst ds)] = .ok (.fz (ds.getD (tk ns ds.length).toNat .non)) [.io (iD ns.dropLast), .fz (.lst ds)] := by
  refine go_law_pick rfl nofun ?_
  simp [B_law_pick, take_ok1 ns ds.length hd, sub_at (tk_lo (ns := ns) (b := ds.length) (by omega)) (tk_hi (by omega))]
theorem pick_mem (ns : List Int) {ds : List D} (hd : 0 < ds.length) : ds.getD (tk ns ds.length).toNat .non ∈ ds := by
  have h1 := tk_lo (ns := ns) (b := ds.length) (by omega)
  have h2 := tk_hi (ns := ns) (b := ds.length) (by omega)
  have h3 : (tk ns ds.length).toNat < ds.length := by omega
  rw [List.getD_eq_getElem?_getD, List.getElem?_eq_getElem h3]
  exact List.getElem_mem h3
/-- one of some integers is picked -/
theorem pick_int [C_law_pick T] (ns : List Int) (vs : List Int) (hd : 0 < vs.length) :
    ∃ v ∈ vs, ∀ m k, runF T m (k + 2) g_law_pick [.io (iD ns), .fz (.lst (iD vs))] = .ok (.fz (.int v)) [.io (iD ns.dropLast), .fz (.lst (iD vs))] := by
  have h := pick_mem ns (ds := iD vs) (by simpa using hd)
  obtain ⟨v, hv, e⟩ := List.mem_map.mp h
  refine ⟨v, hv, fun m k => ?_⟩
  rw [pick_ok ns _ (by simpa using hd), ← e]
/-- one of some things is picked -/
theorem pick_any [C_law_pick T] (ns : List Int) (ds : List D) (hd : 0 < ds.length) :
    ∃ d ∈ ds, ∀ m k, runF T m (k + 2) g_law_pick [.io (iD ns), .fz (.lst ds)] = .ok (.fz d) [.io (iD ns.dropLast), .fz (.lst ds)] :=
  ⟨_, pick_mem ns hd, fun m k => pick_ok ns ds hd⟩
@[simp] theorem pow18 : bopO .pow (.int 10) (.int 18) = some (.fz (.int 1000000000000000000)) := by simp [bopO_eq, bop]
@[simp] theorem mul48271 (i : Int) : bopO .mul (.int i) (.int 48271) = some (.fz (.int (i * 48271))) := bop_mul2 (big_of (by omega))
theorem rB_nat {n : Nat} (h : n ≤ 1000000000) : rB (n : Int) := rB_of (by omega) (by omega)
theorem rB_0 : rB 0 := rB_of (by omega) (by omega)
theorem rB_lit {n : Int} (h : 0 ≤ n ∧ n ≤ 1000000000) : rB n := rB_of (by omega) (by omega)
theorem draws_ok [C_law_draws T] (ns : List Int) (hn : ns.length ≤ 63) :
    ∃ ds : List Int, runF T m (k + 1) g_law_draws [.fz (.gvn (iD ns))] = .ok (.tmp (iD ds)) [.fz (.gvn (iD ns))] := by
  refine gox_law_draws (P := fun r => ∃ ds : List Int, r = .ok (.tmp (iD ds)) [.fz (.gvn (iD ns))]) rfl (by rintro _ ⟨_, rfl⟩; nofun) fun R hR => ?_
  simp [B_law_draws]
  refine wFor (fun j s => ∃ (ds : List Int) (seed : Int), ds.length ≤ j * 62 ∧ s = [.fz (.gvn (iD ns)), .lst (iD ds), .fz (.int seed), .non, .non, .non]) (by simp) ⟨[], 11, by simp, rfl⟩ ?_ ?_
  · rintro j d _ hd ⟨ds, seed, hl, rfl⟩ R2 hR2
    obtain ⟨c, hc, rfl⟩ := iD_getS hd
    have hj : j < 63 := Nat.lt_of_lt_of_le (List.getElem?_eq_some_iff.mp hc).1 hn
    refine ⟨_, by simp; rfl, ?_⟩
    have inner : ∀ (ds : List Int) (seed num : Int) (s1 : Sts), s1 = [.fz (.gvn (iD ns)), .lst (iD ds), .fz (.int seed), .fz (.int c), .non, .fz (.int num)] → ds.length ≤ j * 62 + 2 → Wp (unlockO s1 [] (forL (asgD (.var 4)) (evB m (envT T m k) law_draws_L2) (rngD 0 60) s1)) (sq m (envT T m k) [] R2) := by
      rintro ds seed num _ rfl hl
      refine wFor (fun t s => ∃ (ds : List Int) (num : Int), ds.length ≤ j * 62 + 2 + t ∧ s = [.fz (.gvn (iD ns)), .lst (iD ds), .fz (.int seed), .fz (.int c), .non, .fz (.int num)]) (by simp) ⟨ds, num, hl, rfl⟩ ?_ ?_
      · rintro t d _ hd ⟨ds, num, hl, rfl⟩ R3 hR3
        obtain ⟨ht, rfl⟩ := rngD_get hd
        have h0 : ds.length < sizeLine := sLt (by omega)
        refine ⟨_, by simp; rfl, ?_⟩
        by_cases hp : 0 < num
        · simp [law_draws_L2, hp, h0]
          exact hR3.next (by simp <;> rfl) ⟨ds ++ [num % 997], num / 997, by simp; omega, rfl⟩
        · simp [law_draws_L2, hp]
          exact hR3.next (by simp <;> rfl) ⟨ds, num, by omega, rfl⟩
      · rintro _ ⟨ds, num, hl, rfl⟩
        simp at hl ⊢
        exact hR2.next (by simp <;> rfl) ⟨ds, seed, by omega, rfl⟩
    have h0 : ds.length < sizeLine := sLt (by omega)
    have h1 : ds.length + 1 < sizeLine := sLt (by omega)
    by_cases hs : (if c < 0 then -c else c) < 1000000000000000000
    · simp [law_draws_L1, hs, h0, h1, rB_0, rB_lit]
      exact inner _ _ _ _ rfl (by simp; omega)
    · simp [law_draws_L1, hs, h0, h1, rB_0, rB_lit]
      exact inner _ _ _ _ rfl (by omega)
  · rintro _ ⟨ds, seed, hl, rfl⟩
    simp [rB_0, rB_lit]
    refine wFor (fun j s => ∃ (ds : List Int) (seed : Int), ds.length ≤ 63 * 62 + j ∧ s = [.fz (.gvn (iD ns)), .lst (iD ds), .fz (.int seed), .non, .non, .non]) (by simp) ⟨ds, seed, by rw [iD_len] at hl; omega, rfl⟩ ?_ ?_
    · rintro j d _ hd ⟨ds, seed, hl, rfl⟩ R2 hR2
      obtain ⟨ht, rfl⟩ := rngD_get hd
      have h0 : ds.length < sizeLine := sLt (by omega)
      refine ⟨_, by simp; rfl, ?_⟩
      simp [law_draws_L3, h0]
      exact hR2.next (by simp) ⟨ds ++ [(seed * 48271 + 69621) % 2147483647 / 5], (seed * 48271 + 69621) % 2147483647, by simp; omega, rfl⟩
    · rintro _ ⟨ds, seed, hl, rfl⟩
      simp
      exact hR.ret rfl ⟨ds.reverse, rfl⟩
theorem mixed_ok [C_law_mixed T] (ns xs : List Int) (hx : xs.length ≤ 10000) :
    ∃ ms ns' : List Int, ms.Perm xs ∧ runF T m (k + 2) g_law_mixed [.io (iD ns), .fz (.lst (iD xs))] = .ok (.tmp (iD ms)) [.io (iD ns'), .fz (.lst (iD xs))] := by
  refine gox_law_mixed (P := fun r => ∃ ms ns' : List Int, ms.Perm xs ∧ r = .ok (.tmp (iD ms)) [.io (iD ns'), .fz (.lst (iD xs))]) rfl (by rintro _ ⟨_, _, _, rfl⟩; nofun) fun R hR => ?_
  simp [B_law_mixed, rB_0, rB_nat (show xs.length ≤ 1000000000 by omega)]
  refine wFor (fun j s => ∃ ns' left found : List Int, (found ++ left).Perm xs ∧ found.length = j ∧ s = [.io (iD ns'), .fz (.lst (iD xs)), .lst (iD left), .lst (iD found), .non]) (by simp) ⟨ns, xs, [], by simp, rfl, rfl⟩ ?_ ?_
  · rintro j d _ hd ⟨ns', left, found, hp, hf, rfl⟩ R2 hR2
    obtain ⟨ht, rfl⟩ := rngD_get hd
    have hlen := hp.length_eq
    simp at hlen ht
    have hl : 0 < left.length := by omega
    have h0 : found.length < sizeLine := sLt (by omega)
    refine ⟨_, by simp; rfl, ?_⟩
    have a1 := tk_lo (ns := ns') (b := left.length) (by omega)
    have a2 := tk_hi (ns := ns') (b := left.length) (by omega)
    generalize htk : tk ns' left.length = v at *
    obtain ⟨i, rfl⟩ := Int.eq_ofNat_of_zero_le a1
    have hi : i < left.length := by omega
    obtain ⟨y, hy⟩ : ∃ y, left[i]? = some y := ⟨_, List.getElem?_eq_getElem hi⟩
    have hm := popAt_ok (xs := iD left) (i := i) (y := .int y) (by rw [iD_get, hy]; rfl) (by omega)
    rw [iD_erase] at hm
    simp [law_mixed_L1, take_ok1 ns' left.length hl, htk, hm, h0]
    refine hR2.next (by simp <;> rfl) ⟨ns'.dropLast, left.eraseIdx i, found ++ [y], ?_, by simp [hf], rfl⟩
    refine List.Perm.trans ?_ hp
    rw [List.append_assoc]
    refine List.Perm.append_left _ ?_
    have e : left[i] = y := by have := List.getElem?_eq_getElem hi; rw [hy] at this; exact (Option.some.inj this).symm
    have h2 : left = left.take i ++ y :: left.drop (i + 1) := by rw [← e, ← List.drop_eq_getElem_cons hi, List.take_append_drop]
    rw [List.eraseIdx_eq_take_drop_succ]
    conv => rhs; rw [h2]
    simpa using List.perm_middle.symm
  · rintro _ ⟨ns', left, found, hp, hf, rfl⟩
    simp at hf
    have hlen := hp.length_eq
    simp [hf] at hlen
    subst hlen
    simp
    exact hR.ret rfl ⟨found, ns', by simpa using hp, rfl⟩
end Z

/-! P4: _law_same: what is the same is told to be -/
namespace Z
open PySem
variable {T : List Fn} {m k : Nat}
/-- data that _law_same looks through -/
def gd : Nat → D → Bool
  | _, .non => true
  | _, .bl _ => true
  | _, .int _ => true
  | _, .str x => PyData.strOk x
  | n + 1, .tup xs => xs.all (gd n) && decide (xs.length ≤ 100000)
  | n + 1, .lst xs => xs.all (gd n) && decide (xs.length ≤ 100000)
  | _, _ => false
theorem gd_up : ∀ {n : Nat} {d : D}, gd n d = true → gd (n + 1) d = true
  | n, .non, _ => rfl
  | n, .bl _, _ => rfl
  | n, .int _, _ => rfl
  | n, .str x, h => by simpa [gd] using h
  | n + 1, .tup xs, h => by
    simp only [gd, Bool.and_eq_true, List.all_eq_true] at h ⊢
    exact ⟨fun x hx => gd_up (h.1 x hx), h.2⟩
  | n + 1, .lst xs, h => by
    simp only [gd, Bool.and_eq_true, List.all_eq_true] at h ⊢
    exact ⟨fun x hx => gd_up (h.1 x hx), h.2⟩
  | 0, .tup _, h => by simp [gd] at h
  | 0, .lst _, h => by simp [gd] at h
  | n, .fn _, h => by cases n <;> simp [gd] at h
  | n, .exc _ _, h => by cases n <;> simp [gd] at h
  | n, .gvn _, h => by cases n <;> simp [gd] at h
  | n, .emp, h => by cases n <;> simp [gd] at h
theorem gd_le {n n' : Nat} {d : D} (h : gd n d = true) (hn : n ≤ n') : gd n' d = true := by
  induction hn with
  | refl => exact h
  | step _ ih => exact gd_up ih
@[simp] theorem gd_non (n : Nat) : gd n .non = true := by cases n <;> rfl
@[simp] theorem gd_bl (n : Nat) (b : Bool) : gd n (.bl b) = true := by cases n <;> rfl
@[simp] theorem gd_int (n : Nat) (b : Int) : gd n (.int b) = true := by cases n <;> rfl
theorem gd_iD (n : Nat) (xs : List Int) : (iD xs).all (gd n) = true := by
  rw [List.all_eq_true]; rintro x hx; obtain ⟨i, _, rfl⟩ := List.mem_map.mp hx; simp
@[simp] theorem gd_tD {n : Nat} {xs : List Int} (h : xs.length ≤ 100000) : gd (n + 1) (.tup (iD xs)) = true := by simp [gd, gd_iD, h]
@[simp] theorem gd_lD {n : Nat} {xs : List Int} (h : xs.length ≤ 100000) : gd (n + 1) (.lst (iD xs)) = true := by simp [gd, gd_iD, h]
theorem eq_self {d : D} (h : gd 0 d = true) : cop .eq d d = some true := by
  cases d with
  | str x =>
    simp only [gd] at h
    show (D.str x).eq (.str x) = some true
    simp only [D.eq, D.ok, h, Bool.and_self, if_true, D.pd]
    congr 1
    simp [PyData.eqv]
  | non => rfl
  | bl b => simp
  | int i => simp
  | _ => simp [gd] at h
theorem same_0 [C_law_same T] {d : D} (h : gd 0 d = true) : runF T m (k + 1) g_law_same [.fz d, .fz d] = .ok (.fz (.bl true)) [.fz d, .fz d] := by
  refine go_law_same rfl nofun ?_
  have he := eq_self h
  cases d <;> first | (simp [gd] at h; done) | simp [B_law_same, he]
theorem same_ok [C_law_same T] : ∀ (n : Nat) (d : D), gd n d = true → runF T m (k + n + 1) g_law_same [.fz d, .fz d] = .ok (.fz (.bl true)) [.fz d, .fz d] := by
  intro n
  induction n with
  | zero =>
    intro d h
    exact same_0 h
  | succ n ih =>
    intro d h
    have seq : ∀ (xs : List D) (tl : Bool), xs.all (gd n) = true → xs.length ≤ 100000 → ∀ (d : D), d = (if tl = true then .tup xs else .lst xs) → runF T m (k + (n + 1) + 1) g_law_same [.fz d, .fz d] = .ok (.fz (.bl true)) [.fz d, .fz d] := by
      intro xs tl ha hl d hd
      refine go_law_same rfl nofun ?_
      have hsub : ∀ (j : Nat) (x : D), xs[j]? = some x → subD d (.int j) = some x := by
        intro j x hj; subst hd; cases tl
        · exact sub_lst hj
        · exact sub_tup hj
      have run : ∀ Q : Out → Prop, Q (.rt (.fz (.bl true)) [.fz d, .fz d, .non]) → Wp (unlockO [.fz d, .fz d, .non] [] (forL (asgD (.var 2)) (evB m (envT T m (k + n + 1)) law_same_L1) (rngD 0 xs.length) [.fz d, .fz d, .non])) (sq m (envT T m (k + n + 1)) [.ret (.con (.bl true))] Q) := by
        intro Q hQ
        refine wFor (fun j s => s = [.fz d, .fz d, .non]) (by simp) rfl ?_ ?_
        · rintro j _ _ hj0 rfl R hR
          obtain ⟨hj, rfl⟩ := rngD_get hj0
          obtain ⟨x, hx⟩ : ∃ x, xs[j]? = some x := ⟨_, List.getElem?_eq_getElem hj⟩
          have h1 := hsub j x hx
          have h2 := ih x (List.all_eq_true.mp ha x (List.mem_of_getElem? hx))
          refine ⟨_, by simp; rfl, ?_⟩
          simp [law_same_L1, h1, h2]
          exact hR.next (by simp) rfl
        · rintro _ rfl
          simp
          exact .rt hQ
      cases tl with
      | true =>
        simp only [if_true] at hd
        subst hd
        simp [B_law_same, rB_0, rB_nat (show xs.length ≤ 1000000000 by omega)]
        exact run _ ⟨by simp [endC, lenOk], rfl⟩
      | false =>
        simp only [Bool.false_eq_true, if_false] at hd
        subst hd
        simp [B_law_same, rB_0, rB_nat (show xs.length ≤ 1000000000 by omega)]
        exact run _ ⟨by simp [endC, lenOk], rfl⟩
    cases d with
    | tup xs =>
      simp only [gd, Bool.and_eq_true, decide_eq_true_eq] at h
      exact seq xs true h.1 h.2 _ rfl
    | lst xs =>
      simp only [gd, Bool.and_eq_true, decide_eq_true_eq] at h
      exact seq xs false h.1 h.2 _ rfl
    | non => exact same_0 (by simp)
    | bl _ => exact same_0 (by simp)
    | int _ => exact same_0 (by simp)
    | str _ => exact same_0 (by simpa [gd] using h)
    | fn _ => simp [gd] at h
    | exc _ _ => simp [gd] at h
    | gvn _ => simp [gd] at h
    | emp => simp [gd] at h
end Z

/-! P5: rows and patterns that are drawn -/
namespace Z
open PySem
variable {T : List Fn} {m k : Nat}
theorem row_drawn [C_law_row T] (ns : List Int) (n : Nat) (hn : n ≤ 1000) :
    ∃ hs ns' : List Int, hs.length = n ∧ (∀ h ∈ hs, 0 ≤ h ∧ h ≤ 60) ∧ runF T m (k + 3) g_law_row [.io (iD ns), .fz (.int n)] = .ok (.fz (.tup (iD hs))) [.io (iD ns'), .fz (.int n)] := by
  refine gox_law_row (P := fun r => ∃ hs ns' : List Int, hs.length = n ∧ (∀ h ∈ hs, 0 ≤ h ∧ h ≤ 60) ∧ r = .ok (.fz (.tup (iD hs))) [.io (iD ns'), .fz (.int n)]) rfl (by rintro _ ⟨_, _, _, _, rfl⟩; nofun) fun R hR => ?_
  obtain ⟨most, hm, e⟩ := pick_int (T := T) ns [1, 3, 9, 9, 35, 60] (by simp)
  have hm2 : 0 ≤ most ∧ most ≤ 60 := by simp at hm; omega
  simp [iD_cons] at e
  obtain ⟨acc, sf, e1, hs, ns', rfl, h1, h2, h3⟩ := lc_inv (own := [3]) (turn := lcT (envT T m (k + 2)) (.var 3) [] law_row_C1) (fun j acc w => ∃ hs ns' : List Int, acc = iD hs ∧ hs.length = j ∧ (∀ h ∈ hs, 0 ≤ h ∧ h ≤ 60) ∧ w = [.io (iD ns'), .fz (.int n), .fz (.int most), .non])
    (rngD 0 n) 0 [] [.io (iD ns.dropLast), .fz (.int n), .fz (.int most), .non] ⟨[], ns.dropLast, rfl, rfl, by simp, rfl⟩ (by
      rintro j d _ _ hd ⟨hs, ns', rfl, h1, h2, rfl⟩
      obtain ⟨hj, rfl⟩ := rngD_get hd
      have ha : hs.length < sizeLine := sLt (by omega)
      obtain ⟨v, hv, e2⟩ := pick_int (T := T) ns'.dropLast.dropLast [tk ns' (most + 1), tk ns'.dropLast (most + 1), most, 0] (by simp)
      have t1 := tk_lo (ns := ns') (b := most + 1) (by omega)
      have t2 := tk_hi (ns := ns') (b := most + 1) (by omega)
      have t3 := tk_lo (ns := ns'.dropLast) (b := most + 1) (by omega)
      have t4 := tk_hi (ns := ns'.dropLast) (b := most + 1) (by omega)
      simp [iD_cons] at e2 hv
      refine ⟨iD (hs ++ [v]), [.io (iD ns'.dropLast.dropLast.dropLast), .fz (.int n), .fz (.int most), .fz (.int j)], ?_, hs ++ [v], ns'.dropLast.dropLast.dropLast, rfl, by simp; omega, ?_, by simp⟩
      · simp [lcT, law_row_C1, take_ok (T := T) _ (most + 1) (by omega), sL, e2, ha]
      · intro h hh
        rcases List.mem_append.mp hh with hh | hh
        · exact h2 h hh
        · simp at hh; subst hh; omega)
  simp at h1
  have e3 := back_of_wipe (s0 := [.io (iD ns.dropLast), .fz (.int n), .fz (.int most), .non]) h3
  simp at e3
  simp [B_law_row, e, rB_0, rB_nat (show n ≤ 1000000000 by omega), e1, e3, sL]
  exact hR.ret rfl ⟨hs, ns', h1, h2, rfl⟩
@[simp] theorem bl_max0 (x : Int) : (if x > 0 then x else 0) = max 0 x := by omega
theorem pattern_drawn [C_law_pattern T] (ns : List Int) (n : Nat) (most : Int) (hn : 1 ≤ n) (hn2 : n ≤ 1000) (hm : 0 ≤ most ∧ most ≤ 1000) :
    ∃ hs ms ns' : List Int, hs.length = n ∧ (∀ h ∈ hs, 0 ≤ h ∧ (h ≤ most ∨ h < n)) ∧ landI hs = ms ∧ ms.Perm (rg n) ∧ runF T m (k + 3) g_law_pattern [.io (iD ns), .fz (.int n), .fz (.int most)] = .ok (.fz (.tup (iD hs))) [.io (iD ns'), .fz (.int n), .fz (.int most)] := by
  refine gox_law_pattern (P := fun r => ∃ hs ms ns' : List Int, hs.length = n ∧ (∀ h ∈ hs, 0 ≤ h ∧ (h ≤ most ∨ h < n)) ∧ landI hs = ms ∧ ms.Perm (rg n) ∧ r = .ok (.fz (.tup (iD hs))) [.io (iD ns'), .fz (.int n), .fz (.int most)]) rfl (by rintro _ ⟨_, _, _, _, _, _, _, rfl⟩; nofun) fun R hR => ?_
  obtain ⟨ms, ns1, hp, e⟩ := mixed_ok (T := T) (m := m) (k := k) ns (rg n) (by simp; omega)
  simp [B_law_pattern, rB_0, rB_nat (show n ≤ 1000000000 by omega), sL, show n ≤ 100000 by omega, rg_iD, e]
  have hml : ms.length = n := by simpa using hp.length_eq
  have hmb : ∀ x ∈ ms, 0 ≤ x ∧ x < n := by
    intro x hx
    have := hp.mem_iff.mp hx
    simp only [rg, List.mem_map, List.mem_range] at this
    obtain ⟨a, ha, rfl⟩ := this
    omega
  refine wFor (fun j s => ∃ ns' found : List Int, found.length = j ∧ (∀ (i : Nat) (x : Int), found[i]? = some x → 0 ≤ x ∧ (x ≤ most ∨ x < n) ∧ ms[i]? = some (((i : Int) + x) % n)) ∧ s = [.io (iD ns'), .fz (.int n), .fz (.int most), .lst (iD ms), .lst (iD found), .non, .non]) (by simp) ⟨ns1, [], rfl, by simp, rfl⟩ ?_ ?_
  · rintro j d _ hd ⟨ns', found, h1, h2, rfl⟩ R2 hR2
    obtain ⟨y, hy, rfl⟩ := iD_getS hd
    have hj : j < n := by simpa using (List.getElem?_eq_some_iff.mp hy).1
    rw [rg_get hj] at hy
    cases hy
    obtain ⟨g, hg⟩ : ∃ g, ms[j]? = some g := ⟨_, List.getElem?_eq_getElem (by omega)⟩
    have hgb := hmb g (List.mem_of_getElem? hg)
    have es := sub_iD hg
    have hp0 : 0 < n := hn
    have ha : found.length < sizeLine := sLt (by omega)
    have z1 := Int.emod_nonneg (g - j) (show (n : Int) ≠ 0 by omega)
    have z2 := Int.emod_lt_of_pos (g - j) (show 0 < (n : Int) by omega)
    have z3 : ((j : Int) + (g - j) % n) % n = g := by
      rw [Int.add_emod, Int.emod_emod, ← Int.add_emod, show (j : Int) + (g - j) = g by omega]
      exact Int.emod_eq_of_lt hgb.1 hgb.2
    generalize hv : (g - j) % (n : Int) = v at *
    have t1 := tk_lo (ns := ns') (b := 1 + max 0 ((most - v) / n)) (by omega)
    have t2 := tk_hi (ns := ns') (b := 1 + max 0 ((most - v) / n)) (by omega)
    have et := take_ok (T := T) (m := m) (k := k + 1) ns' (1 + max 0 ((most - v) / n)) (by omega)
    generalize tk ns' (1 + max 0 ((most - v) / n)) = t at *
    have hb : (n : Int) < 1073741824 := by omega
    refine ⟨_, by simp; rfl, ?_⟩
    simp [law_pattern_L1, es, hp0, hv, et, bop_mul (j := t) (big_of (i := (n : Int)) (by omega)), ha, hb]
    refine hR2.next (s := [.io (iD ns'.dropLast), .fz (.int n), .fz (.int most), .lst (iD ms), .lst (iD (found ++ [v + n * t])), .non, .non]) (by simp) ⟨ns'.dropLast, found ++ [v + n * t], by simp [h1], fun i x hx => ?_, rfl⟩
    rcases Nat.lt_or_ge i found.length with hi | hi
    · rw [List.getElem?_append_left hi] at hx
      exact h2 i x hx
    · rw [List.getElem?_append_right hi] at hx
      have hi2 : i = found.length := by
        have := (List.getElem?_eq_some_iff.mp hx).1
        simp at this; omega
      subst hi2
      simp at hx
      subst hx
      have hnt : 0 ≤ (n : Int) * t := Int.mul_nonneg (by omega) t1
      refine ⟨by omega, ?_, ?_⟩
      · by_cases h0 : (most - v) / (n : Int) ≤ 0
        · have : t = 0 := by omega
          subst this; right; omega
        · have h3 : t ≤ (most - v) / n := by omega
          have h4 : (n : Int) * t ≤ n * ((most - v) / n) := Int.mul_le_mul_of_nonneg_left h3 (by omega)
          have h5 := Int.mul_ediv_self_le (x := most - v) (k := (n : Int)) (by omega)
          left; omega
      · rw [h1, hg, ← Int.add_assoc, Int.add_mul_emod_self_left, z3]
  · rintro _ ⟨ns', found, h1, h2, rfl⟩
    simp at h1 ⊢
    refine hR.ret rfl ⟨found, ms, ns', h1, fun h hh => ?_, ?_, hp, rfl⟩
    · obtain ⟨i, hi⟩ := List.mem_iff_getElem?.mp hh
      obtain ⟨a, b, _⟩ := h2 i h hi
      exact ⟨a, b⟩
    · apply List.ext_getElem?
      intro i
      rw [landI_get, h1]
      cases hi : found[i]? with
      | none =>
        have := List.getElem?_eq_none_iff.mp hi
        rw [List.getElem?_eq_none (by omega)]; rfl
      | some x => rw [(h2 i x hi).2.2]; rfl
end Z

/-! P6: the law's own clash; balls; what is told -/
namespace Z
open PySem
variable {T : List Fn} {m k : Nat}
/-- two places land at the same one -/
def sameM (hs : List Int) (i j : Nat) : Bool := (hs.getD i 0 + i - hs.getD j 0 - j) % hs.length == 0
theorem law_clash_ok [C_law_clash T] (hs : List Int) (hb : hs.length ≤ 1000) :
    runF T m (k + 1) g_law_clash [.fz (.tup (iD hs))] = .ok (.fz (pairD (fp (sameM hs) hs.length))) [.fz (.tup (iD hs))] := by
  refine go_law_clash rfl nofun ?_
  simp [B_law_clash, rB_0, rB_nat (show hs.length ≤ 1000000000 by omega)]
  refine wFor (fun i s => s = [.fz (.tup (iD hs)), .non, .non] ∧ ∀ i', i' < i → ∀ j', i' < j' → j' < hs.length → sameM hs i' j' = false) (by simp) ⟨rfl, nofun⟩ ?_ ?_
  · rintro i d _ hd ⟨rfl, hn⟩ R hR
    obtain ⟨hi, rfl⟩ := rngD_get hd
    obtain ⟨x, hx⟩ : ∃ x, hs[i]? = some x := ⟨_, List.getElem?_eq_getElem hi⟩
    have ex := sub_tD hx
    have hp : 0 < hs.length := by omega
    refine ⟨_, by simp; rfl, ?_⟩
    simp [law_clash_L1, rB_of (show -1000000000 ≤ (i : Int) + 1 by omega) (by omega), rB_nat (show hs.length ≤ 1000000000 by omega)]
    refine wFor (fun t s => s = [.fz (.tup (iD hs)), .fz (.int i), .non] ∧ ∀ j', i < j' → j' < i + 1 + t → sameM hs i j' = false) (by simp) ⟨rfl, fun j' h1 h2 => by omega⟩ ?_ ?_
    · rintro t d _ hd ⟨rfl, hn2⟩ R2 hR2
      obtain ⟨ht, rfl⟩ := rngD_get hd
      have hj : i + 1 + t < hs.length := by omega
      obtain ⟨y, hy⟩ : ∃ y, hs[i + 1 + t]? = some y := ⟨_, List.getElem?_eq_getElem hj⟩
      have es : subD (.tup (iD hs)) (.int ((i : Int) + 1 + t)) = some (.int y) := by simpa using sub_tD hy
      have eq : sameM hs i (i + 1 + t) = ((x + i - y - ((i : Int) + 1 + t)) % hs.length == 0) := by simp [sameM, hx, hy, List.getD]
      refine ⟨_, by simp; rfl, ?_⟩
      by_cases hq : (x + i - y - ((i : Int) + 1 + t)) % hs.length = 0
      · have ep := fp_some (q := sameM hs) (n := hs.length) (i := i) (j := i + 1 + t) (by omega) (by omega) (by rw [eq]; simpa using hq) hn fun j' h1 h2 => hn2 j' h1 (by omega)
        simp [law_clash_L2, ex, es, hq, hp, sL]
        refine hR2.ret ?_
        simp
        refine hR.ret ?_
        simp [ep, pairD]
      · simp [law_clash_L2, ex, es, hq, hp]
        refine hR2.next (s := [.fz (.tup (iD hs)), .fz (.int i), .non]) (by simp) ⟨rfl, fun j' h1 h2 => ?_⟩
        by_cases e : j' = i + 1 + t
        · rw [e, eq]; simpa using hq
        · exact hn2 j' h1 (by omega)
    · rintro _ ⟨rfl, hn2⟩
      simp
      refine hR.next (s := [.fz (.tup (iD hs)), .non, .non]) (by simp) ⟨rfl, fun i' h1 j' h2 h3 => ?_⟩
      by_cases e : i' = i
      · subst e; exact hn2 j' h2 (by simp; omega)
      · exact hn i' (by omega) j' h2 h3
  · rintro _ ⟨rfl, hn⟩
    simp [fp_none (q := sameM hs) (n := hs.length) fun i j h1 h2 => hn i (by simp; omega) j h1 h2, pairD]
theorem count_balls_ok [C_count_balls T] (hs : List Int) (h : 0 < hs.length) (hb : hs.length ≤ 1000) :
    runF T m (k + 1) g_count_balls [.fz (.tup (iD hs))] = .ok (.fz (.int (hs.sum / hs.length))) [.fz (.tup (iD hs))] := by
  refine go_count_balls rfl nofun ?_
  simp [B_count_balls, h, show (hs.length : Int) < 1073741824 by omega]
theorem balls_er [C_balls_of T] (d : D) (hd : plainR d) (h : patD d = false) :
    runF T m (k + 5) g_balls_of [.fz d] = .er (.exc 1 []) [.fz d] := by
  refine go_balls_of rfl nofun ?_
  simp [B_balls_of, check_pattern_ok d hd, h]
theorem balls_ok [C_balls_of T] (hs : List Int) (h : rowI hs) (h2 : patI hs = true) :
    runF T m (k + 5) g_balls_of [.fz (.tup (iD hs))] = .ok (.fz (.int (hs.sum / hs.length))) [.fz (.tup (iD hs))] := by
  refine go_balls_of rfl nofun ?_
  simp [B_balls_of, check_pattern_ok _ (plainR_iD hs), count_balls_ok hs (by have := h.1; omega) (by have := h.2.1; omega), h, h2]
theorem clash_er [C_clash_of T] (d : D) (hd : plainR d) (h : rowD d = false) :
    runF T m (k + 4) g_clash_of [.fz d] = .er (.exc 1 []) [.fz d] := by
  refine go_clash_of rfl nofun ?_
  simp [B_clash_of, check_row_ok d hd, h]
/-- the five answers of isinstance for NotRight -/
def refusedD : List D := [.bl true, .bl false, .bl false, .bl false, .bl false]
@[simp] theorem modes_pairD (o : Option (Nat × Nat)) : (pairD o).flat = true := by
  match o with
  | none => simp [pairD]
  | some (i, j) => simp [pairD]
theorem told0_ok [C_law_told T] (hs : List Int) (h : rowI hs) :
    runF T m (k + 5) g_law_told [.fz (.int 0), .fz (.tup (iD hs))] = .ok (.tmp (iD (landI hs))) [.fz (.int 0), .fz (.tup (iD hs))] := by
  refine go_law_told rfl nofun ?_
  simp [B_law_told, sL, landings_ok hs h]
theorem told1_ok [C_law_told T] (hs : List Int) (h : rowI hs) :
    runF T m (k + 5) g_law_told [.fz (.int 1), .fz (.tup (iD hs))] = .ok (.fz (pairD (fp (sameL (landI hs)) hs.length))) [.fz (.int 1), .fz (.tup (iD hs))] := by
  refine go_law_told rfl nofun ?_
  simp [B_law_told, sL, clash_ok hs h]
theorem told2_ok [C_law_told T] (hs : List Int) (h : rowI hs) (h2 : patI hs = true) :
    runF T m (k + 6) g_law_told [.fz (.int 2), .fz (.tup (iD hs))] = .ok (.fz (.int (hs.sum / hs.length))) [.fz (.int 2), .fz (.tup (iD hs))] := by
  refine go_law_told rfl nofun ?_
  simp [B_law_told, sL, balls_ok hs h h2]
theorem told2_er [C_law_told T] (hs : List Int) (h : rowI hs) (h2 : patI hs = false) :
    runF T m (k + 6) g_law_told [.fz (.int 2), .fz (.tup (iD hs))] = .ok (.tmp refusedD) [.fz (.int 2), .fz (.tup (iD hs))] := by
  refine go_law_told rfl nofun ?_
  simp [B_law_told, sL, balls_er _ (plainR_iD hs), h, h2, refusedD]
theorem told_er [C_law_told T] (d : D) (hd : plainR d) (h : rowD d = false) (i : Nat) (hi : i < 3) :
    runF T m (k + 6) g_law_told [.fz (.int i), .fz d] = .ok (.tmp refusedD) [.fz (.int i), .fz d] := by
  have h2 := patD_row h
  refine go_law_told rfl nofun ?_
  match i, hi with
  | 0, _ => simp [B_law_told, sL, landings_er d hd h, refusedD]
  | 1, _ => simp [B_law_told, sL, clash_er d hd h, refusedD]
  | 2, _ => simp [B_law_told, sL, balls_er d hd h2, refusedD]
end Z

/-! P7: patterns: landings that are different -/
namespace Z
open PySem
theorem ddS_len (acc : List Int) (k : Int) : (ddS acc k).length ≤ acc.length + 1 := by unfold ddS; split <;> simp
theorem fold_dd_le : ∀ (ns acc : List Int), (ns.foldl ddS acc).length ≤ acc.length + ns.length
  | [], acc => by simp
  | n :: ns, acc => by
    have := fold_dd_le ns (ddS acc n)
    have := ddS_len acc n
    simp only [List.foldl_cons, List.length_cons]; omega
theorem fold_dd : ∀ (ns acc : List Int), (ns.foldl ddS acc).length = acc.length + ns.length ↔ ns.Nodup ∧ ∀ x ∈ ns, x ∉ acc
  | [], acc => by simp
  | n :: ns, acc => by
    by_cases h : n ∈ acc
    · have e : ddS acc n = acc := by unfold ddS; rw [if_pos]; simpa using h
      have := fold_dd_le ns acc
      simp only [List.foldl_cons, e, List.length_cons]
      constructor
      · intro h2; omega
      · intro h2; exact absurd h (h2.2 n (by simp))
    · have e : ddS acc n = acc ++ [n] := by unfold ddS; rw [if_neg]; simpa using h
      have ih := fold_dd ns (acc ++ [n])
      simp only [List.length_append, List.length_cons, List.length_nil] at ih
      simp only [List.foldl_cons, e, List.length_cons, List.nodup_cons]
      rw [show acc.length + (ns.length + 1) = acc.length + (0 + 1) + ns.length by omega, ih]
      simp only [List.mem_append, List.mem_cons, List.not_mem_nil, or_false, not_or]
      constructor
      · rintro ⟨h1, h2⟩
        refine ⟨⟨fun hm => (h2 n hm).2 rfl, h1⟩, fun x hx => ?_⟩
        rcases hx with rfl | hx
        · exact h
        · exact (h2 x hx).1
      · rintro ⟨⟨h1, h2⟩, h3⟩
        exact ⟨h2, fun x hx => ⟨h3 x (.inr hx), fun e => h1 (e ▸ hx)⟩⟩
theorem dd_len_nodup (ns : List Int) : (dd ns).length = ns.length ↔ ns.Nodup := by
  have := fold_dd ns []
  simpa [dd] using this
theorem patI_iff (hs : List Int) : patI hs = true ↔ (landI hs).Nodup := by
  unfold patI
  rw [beq_iff_eq, ← landI_len hs, dd_len_nodup]
theorem nodup_get {l : List Int} : l.Nodup ↔ ∀ i j, i < j → j < l.length → l.getD j 0 ≠ l.getD i 0 := by
  rw [List.Nodup, List.pairwise_iff_getElem]
  constructor
  · intro h i j hij hj
    have := h i j (by omega) hj hij
    simp only [List.getD_eq_getElem?_getD, List.getElem?_eq_getElem hj, List.getElem?_eq_getElem (show i < l.length by omega), Option.getD_some]
    exact fun e => this e.symm
  · intro h i j hi hj hij
    have := h i j hij hj
    simp only [List.getD_eq_getElem?_getD, List.getElem?_eq_getElem hj, List.getElem?_eq_getElem hi, Option.getD_some] at this
    exact fun e => this e.symm
theorem patI_fp (hs : List Int) : patI hs = true ↔ fp (sameL (landI hs)) hs.length = none := by
  rw [patI_iff, nodup_get, fp_none_iff, landI_len]
  simp only [sameL, beq_eq_false_iff_ne]
theorem emod_eq_iff {a b n : Int} (hn : 0 < n) : a % n = b % n ↔ (a - b) % n = 0 := by
  constructor
  · intro h; rw [Int.sub_emod, h, Int.sub_self, Int.zero_emod]
  · intro h
    have h1 : a = b + n * ((a - b) / n) := by
      have := Int.mul_ediv_add_emod (a - b) n
      omega
    rw [h1, Int.add_mul_emod_self_left]
theorem land_getD {hs : List Int} {i : Nat} (h : i < hs.length) : (landI hs).getD i 0 = ((i : Int) + hs.getD i 0) % hs.length := by
  rw [List.getD_eq_getElem?_getD, landI_get, List.getD_eq_getElem?_getD, List.getElem?_eq_getElem h]; rfl
theorem same_LM {hs : List Int} {i j : Nat} (hij : i < j) (hj : j < hs.length) : sameL (landI hs) i j = sameM hs i j := by
  simp only [sameL, sameM]
  rw [land_getD hj, land_getD (by omega), Bool.eq_iff_iff, beq_iff_eq, beq_iff_eq, eq_comm, emod_eq_iff (by omega)]
  rw [show (i : Int) + hs.getD i 0 - (↑j + hs.getD j 0) = hs.getD i 0 + ↑i - hs.getD j 0 - ↑j by omega]
theorem fp_LM (hs : List Int) : fp (sameM hs) hs.length = fp (sameL (landI hs)) hs.length := (fp_congr fun i j h1 h2 => same_LM h1 h2).symm
theorem perm_of_nodup : ∀ (l r : List Int), l.Nodup → (∀ x ∈ l, x ∈ r) → r.length ≤ l.length → l.Perm r
  | [], r, _, _, h => by have : r = [] := List.length_eq_zero_iff.mp (by simpa using h); subst this; exact .nil
  | a :: l, r, hn, hs, h => by
    have ha := hs a (by simp)
    have hp := List.perm_cons_erase ha
    have hl := hp.length_eq
    simp only [List.length_cons] at hl h
    rw [List.nodup_cons] at hn
    refine List.Perm.trans ?_ hp.symm
    refine List.Perm.cons a (perm_of_nodup l (r.erase a) hn.2 (fun x hx => ?_) (by omega))
    have hne : x ≠ a := fun e => hn.1 (e ▸ hx)
    exact (List.mem_erase_of_ne hne).mpr (hs x (by simp [hx]))
theorem perm_sum {l r : List Int} (h : l.Perm r) : l.sum = r.sum := by
  induction h with
  | nil => rfl
  | cons x _ ih => simp [ih]
  | swap x y l => simp; omega
  | trans _ _ h1 h2 => rw [h1, h2]
theorem landI_perm {hs : List Int} (h : (landI hs).Nodup) : (landI hs).Perm (rg hs.length) := by
  refine perm_of_nodup _ _ h (fun x hx => ?_) (by simp)
  obtain ⟨i, hi⟩ := List.mem_iff_getElem?.mp hx
  rw [landI_get, Option.map_eq_some_iff] at hi
  obtain ⟨y, hy, rfl⟩ := hi
  have hl : i < hs.length := (List.getElem?_eq_some_iff.mp hy).1
  have h1 := Int.emod_nonneg ((i : Int) + y) (show (hs.length : Int) ≠ 0 by omega)
  have h2 := Int.emod_lt_of_pos ((i : Int) + y) (show (0 : Int) < hs.length by omega)
  simp only [rg, List.mem_map, List.mem_range]
  exact ⟨(((i : Int) + y) % hs.length).toNat, by omega, by omega⟩
theorem sum_emod (n : Int) : ∀ xs : List Int, (xs.map (· % n)).sum % n = xs.sum % n
  | [] => rfl
  | x :: xs => by
    simp only [List.map_cons, List.sum_cons]
    rw [Int.add_emod, sum_emod n xs, Int.emod_emod, ← Int.add_emod]
theorem sum_zip : ∀ (hs : List Int) (k : Nat), ((hs.zipIdx k).map fun x => (x.2 : Int) + x.1).sum = hs.sum + ((List.range' k hs.length).map fun (i : Nat) => (i : Int)).sum
  | [], k => by simp
  | h :: hs, k => by
    simp only [List.zipIdx_cons, List.map_cons, List.sum_cons, List.length_cons, List.range'_succ, sum_zip hs (k + 1)]; omega
theorem rg_sum (n : Nat) : (rg n).sum = ((List.range' 0 n).map fun (i : Nat) => (i : Int)).sum := by rw [rg, List.range_eq_range']
theorem landI_sum (hs : List Int) : (landI hs).sum % hs.length = (hs.sum + (rg hs.length).sum) % hs.length := by
  have e : landI hs = (hs.zipIdx.map fun x => (x.2 : Int) + x.1).map (· % (hs.length : Int)) := by simp [landI, List.map_map, Function.comp_def]
  rw [e, sum_emod, sum_zip, rg_sum]
/-- a pattern's sum is divided by its length -/
theorem pat_sum {hs : List Int} (h : patI hs = true) (h0 : 0 < hs.length) : hs.sum / hs.length * hs.length = hs.sum := by
  have h1 := landI_sum hs
  rw [perm_sum (landI_perm ((patI_iff hs).mp h))] at h1
  rw [emod_eq_iff (by omega)] at h1
  have h2 : (rg hs.length).sum - (hs.sum + (rg hs.length).sum) = - hs.sum := by omega
  rw [h2] at h1
  have h3 : (hs.length : Int) ∣ hs.sum := by
    have := Int.dvd_of_emod_eq_zero h1
    exact Int.dvd_neg.mp this
  exact Int.ediv_mul_cancel h3
end Z

/-! PQ: data are equal; lists of rows -/
namespace Z
open PySem
mutual
theorem eqvD : ∀ d : D, PyData.eqv d.pd d.pd = true
  | .non => rfl
  | .bl b => by simp [D.pd, PyData.eqv]
  | .int i => by simp [D.pd, PyData.eqv]
  | .str x => by simp [D.pd, PyData.eqv]
  | .tup xs => by simp only [D.pd, PyData.eqv]; exact eqvL xs
  | .lst xs => by simp only [D.pd, PyData.eqv]; exact eqvL xs
  | .fn _ => rfl
  | .exc _ _ => rfl
  | .gvn _ => rfl
  | .emp => rfl
theorem eqvL : ∀ ds : List D, PyData.eqvAll (D.pdL ds) (D.pdL ds) = true
  | [] => rfl
  | d :: ds => by simp only [D.pdL, PyData.eqvAll, eqvD d, eqvL ds, Bool.and_self]
end
theorem eq_same {d : D} (h : d.ok 60 = true) : cop .eq d d = some true := by
  show d.eq d = _
  simp only [D.eq, h, Bool.and_self, if_true, eqvD]
theorem ne_same {d : D} (h : d.ok 60 = true) : cop .ne d d = some false := by
  show (d.eq d).map (!·) = _
  simp only [D.eq, h, Bool.and_self, if_true, eqvD]; rfl
theorem okI (n : Nat) : ∀ r : List Int, D.okL n (iD r) = true
  | [] => by cases n <;> rfl
  | i :: r => by
    have := okI n r
    cases n <;> simp_all [iD_cons, D.okL, D.ok]
@[simp] theorem ok_tI (r : List Int) : (D.tup (iD r)).ok 60 = true := by simp only [D.ok]; exact okI 59 r
theorem eqv_ints : ∀ a b : List Int, PyData.eqvAll (D.pdL (iD a)) (D.pdL (iD b)) = decide (a = b)
  | [], [] => rfl
  | [], b :: bs => rfl
  | a :: as, [] => rfl
  | a :: as, b :: bs => by
    simp only [iD_cons, D.pdL, D.pd, PyData.eqvAll, PyData.eqv, eqv_ints as bs]
    by_cases h : a = b <;> by_cases h2 : as = bs <;> simp [h, h2]
theorem eqv_tI (a b : List Int) : PyData.eqv (D.tup (iD a)).pd (D.tup (iD b)).pd = decide (a = b) := by
  simp only [D.pd, PyData.eqv]; exact eqv_ints a b
@[simp] theorem eq_tI (a b : List Int) : cop .eq (.tup (iD a)) (.tup (iD b)) = some (decide (a = b)) := by
  show (D.tup (iD a)).eq _ = _
  simp only [D.eq, ok_tI, Bool.and_self, if_true, eqv_tI]
@[simp] theorem ne_tI (a b : List Int) : cop .ne (.tup (iD a)) (.tup (iD b)) = some (!decide (a = b)) := by
  show ((D.tup (iD a)).eq _).map (!·) = _
  simp only [D.eq, ok_tI, Bool.and_self, if_true, eqv_tI]; rfl
/-- rows as data -/
def rT (ps : List (List Int)) : List D := ps.map fun p => .tup (iD p)
@[simp] theorem rT_len (ps : List (List Int)) : (rT ps).length = ps.length := by simp [rT]
theorem rT_cons (p : List Int) (ps : List (List Int)) : rT (p :: ps) = .tup (iD p) :: rT ps := rfl
theorem okR (n : Nat) : ∀ ps : List (List Int), D.okL (n + 1) (rT ps) = true
  | [] => rfl
  | p :: ps => by
    simp only [rT_cons, D.okL, D.ok, okI, okR n ps, Bool.and_self]
@[simp] theorem ok_lR (ps : List (List Int)) : (D.lst (rT ps)).ok 60 = true := by simp only [D.ok]; exact okR 58 ps
theorem any_rT (o : List Int) : ∀ ps : List (List Int), ((rT ps).any fun z => PyData.eqv z.pd (D.tup (iD o)).pd) = decide (o ∈ ps)
  | [] => by simp [rT]
  | p :: ps => by
    rw [rT_cons, List.any_cons, eqv_tI, any_rT o ps]
    by_cases h : p = o
    · subst h; simp
    · have h' : ¬ o = p := fun e => h e.symm
      simp [h, h']
@[simp] theorem in_lR (o : List Int) (ps : List (List Int)) : cop .inn (.tup (iD o)) (.lst (rT ps)) = some (decide (o ∈ ps)) := by
  show (D.tup (iD o)).isin (.lst (rT ps)) = _
  simp only [D.isin, ok_tI, ok_lR, Bool.and_self, if_true, any_rT]
theorem rows_rT : ∀ ps : List (List Int), rowsD (rT ps) = some ps
  | [] => rfl
  | p :: ps => by simp only [rT_cons, rowsD, ints_iD, rows_rT ps]
theorem rowT_map (ps : List (List Int)) : ps.map rowT = rT ps := rfl
theorem bl_maxR (r : List Int) (rs : List (List Int)) : blD .max [.lst (rT (r :: rs))] = some (.fz (.tup (iD (maxR r rs)))) := by
  simp only [blD, rows_rT]; rfl
theorem bl_sortR {rs : List (List Int)} (h0 : rs ≠ []) (h1 : ∀ r ∈ rs, r ≠ []) (h2 : rs.length ≤ sizeLine) : blD .sorted [.lst (rT rs)] = some (.tmp (rT (sortR rs))) := by
  obtain ⟨r, rs, rfl⟩ := List.exists_cons_of_ne_nil h0
  have e : intsD (rT (r :: rs)) = none := rfl
  have h3 : ((r :: rs).all fun r => !r.isEmpty) = true := by
    rw [List.all_eq_true]; intro x hx
    have := h1 x hx
    cases x with
    | nil => exact absurd rfl this
    | cons => rfl
  simp only [blD, e, rows_rT]
  rw [if_pos ⟨h3, h2⟩]; rfl
/-! the greatest row -/
theorem lt_le_R {a b c : List Int} (h : a < b) (h2 : b ≤ c) : a < c := by
  refine Decidable.byContradiction fun h3 => ?_
  have h4 : c ≤ a := List.not_lt.mp h3
  exact (List.not_lt.mpr (List.le_trans h2 h4)) h
theorem maxR_mem : ∀ (rs : List (List Int)) (r : List Int), maxR r rs ∈ r :: rs ∧ ∀ x ∈ r :: rs, ¬ maxR r rs < x
  | [], r => ⟨by simp [maxR], fun x hx => by simp at hx; subst hx; exact List.lt_irrefl _⟩
  | y :: rs, r => by
    obtain ⟨h1, h2⟩ := maxR_mem rs (if r < y then y else r)
    have e : maxR r (y :: rs) = maxR (if r < y then y else r) rs := rfl
    rw [e]
    refine ⟨?_, fun x hx hlt => ?_⟩
    · rcases List.mem_cons.mp h1 with h | h
      · rw [h]; split <;> simp
      · simp [h]
    · have h3 := h2 _ List.mem_cons_self
      have hr : r ≤ (if r < y then y else r) := by
        split
        · rename_i c; exact List.le_of_lt c
        · exact List.le_refl _
      have hy : y ≤ (if r < y then y else r) := by
        split
        · exact List.le_refl _
        · rename_i c; exact List.not_lt.mp c
      generalize (if r < y then y else r) = z at *
      rcases List.mem_cons.mp hx with rfl | hx
      · exact h3 (lt_le_R hlt hr)
      · rcases List.mem_cons.mp hx with rfl | hx
        · exact h3 (lt_le_R hlt hy)
        · exact h2 x (List.mem_cons_of_mem _ hx) hlt
theorem great_eq {a b : List Int} (h1 : ¬ a < b) (h2 : ¬ b < a) : a = b := List.le_antisymm (List.not_lt.mp h2) (List.not_lt.mp h1)
/-- the greatest hangs on what is in the list alone -/
theorem maxR_eq {r s : List Int} {rs ss : List (List Int)} (h : ∀ x, x ∈ r :: rs ↔ x ∈ s :: ss) : maxR r rs = maxR s ss := by
  obtain ⟨h1, h2⟩ := maxR_mem rs r
  obtain ⟨h3, h4⟩ := maxR_mem ss s
  exact great_eq (h2 _ ((h _).mpr h3)) (h4 _ ((h _).mp h1))
/-- the last of the sorted is the greatest -/
theorem sortR_last {r : List Int} {rs : List (List Int)} : (sortR (r :: rs))[rs.length]? = some (maxR r rs) := by
  have hp : (sortR (r :: rs)).Perm (r :: rs) := List.mergeSort_perm _ _
  have hl : (sortR (r :: rs)).length = rs.length + 1 := by rw [hp.length_eq]; rfl
  obtain ⟨L, hL⟩ : ∃ L, (sortR (r :: rs))[rs.length]? = some L := ⟨_, List.getElem?_eq_getElem (by omega)⟩
  rw [hL]
  have hs : (sortR (r :: rs)).Pairwise (fun a b => (!decide (b < a)) = true) := List.pairwise_mergeSort (fun a b c h1 h2 => by
    simp only [Bool.not_eq_true', decide_eq_false_iff_not] at h1 h2 ⊢
    exact List.not_lt.mpr (List.le_trans (List.not_lt.mp h1) (List.not_lt.mp h2))) (fun a b => by
    simp only [Bool.or_eq_true, Bool.not_eq_true', decide_eq_false_iff_not]
    rcases List.le_total a b with h | h
    · exact .inl (List.not_lt.mpr h)
    · exact .inr (List.not_lt.mpr h)) _
  have hm : L ∈ r :: rs := hp.mem_iff.mp (List.mem_of_getElem? hL)
  obtain ⟨h1, h2⟩ := maxR_mem rs r
  have hmx : maxR r rs ∈ sortR (r :: rs) := hp.mem_iff.mpr h1
  congr 1
  refine great_eq (fun hlt => ?_) (h2 L hm)
  obtain ⟨i, hi⟩ := List.mem_iff_getElem?.mp hmx
  have hi2 : i < (sortR (r :: rs)).length := (List.getElem?_eq_some_iff.mp hi).1
  by_cases e : i = rs.length
  · subst e; rw [hL] at hi; cases hi; exact List.lt_irrefl _ hlt
  · have := List.pairwise_iff_getElem.mp hs i rs.length hi2 (by omega) (by omega)
    rw [List.getElem?_eq_getElem hi2] at hi
    rw [List.getElem?_eq_getElem (show rs.length < (sortR (r :: rs)).length by omega)] at hL
    rw [Option.some.inj hi, Option.some.inj hL] at this
    simp only [Bool.not_eq_true', decide_eq_false_iff_not] at this
    exact this hlt
end Z

/-! PR: repr of data without texts -/
namespace Z
open PySem
theorem okStr_of (s : String) : PyData.strOk (Str.ofString s) = true := by
  rw [Str.ofString_eq_toList]
  simp only [PyData.strOk, Array.all_eq_true']
  intro x hx
  simp only [List.mem_toArray, List.mem_map] at hx
  obtain ⟨c, _, rfl⟩ := hx
  have h := c.valid
  rw [decide_eq_true_eq]
  rcases h with h | ⟨_, h⟩
  · exact Nat.lt_trans h (by decide)
  · exact h
theorem okStr_app {a b : Str} (h : PyData.strOk a = true) (h2 : PyData.strOk b = true) : PyData.strOk (a ++ b) = true := by
  show PyData.strOk ⟨a.cps ++ b.cps⟩ = true
  simp only [PyData.strOk, Array.all_append, Bool.and_eq_true] at h h2 ⊢
  exact ⟨h, h2⟩
theorem okStr_join : ∀ ts : List Str, (∀ t ∈ ts, PyData.strOk t = true) → PyData.strOk (Str.join ", " ts) = true
  | [], _ => by decide +kernel
  | [x], h => h x (by simp)
  | x :: y :: r, h => okStr_app (okStr_app (h x (by simp)) (okStr_of _)) (okStr_join (y :: r) fun t ht => h t (by simp at ht ⊢; exact .inr ht))
theorem okStr_from : ∀ (ts : List Str) (k : Nat) (acc : Str), PyData.strOk acc = true → (∀ t ∈ ts, PyData.strOk t = true) → PyData.strOk (textFrom k acc ts) = true
  | [], _, _, h, _ => h
  | t :: ts, k, acc, h, hs => okStr_from ts (k + 1) _ (okStr_app (okStr_app h (okStr_of _)) (hs t (by simp))) fun u hu => hs u (by simp [hu])
theorem sLen_app (a b : Str) : (a ++ b).length = a.length + b.length := by
  show (a.cps ++ b.cps).size = _
  rw [Array.size_append]; rfl
theorem len_of (s : String) : (Str.ofString s).length = s.toList.length := by
  rw [Str.ofString_eq_toList]
  show ((s.toList.map Char.toNat).toArray).size = _
  simp
theorem core_len : ∀ (f n : Nat) (ds : List Char), (Nat.toDigitsCore 10 f n ds).length ≤ f + ds.length
  | 0, n, ds => by simp [Nat.toDigitsCore]
  | f + 1, n, ds => by
    rw [Nat.toDigitsCore]
    split
    · simp; omega
    · have := core_len f (n / 10) ((n % 10).digitChar :: ds)
      simp at this; omega
theorem nat_len (n : Nat) : (Nat.repr n).toList.length ≤ n + 1 := by
  have := core_len (n + 1) n []
  rw [Nat.repr, String.toList_ofList]
  simpa [Nat.toDigits] using this
theorem int_len (i : Int) : (Str.ofString (toString i)).length ≤ i.natAbs + 2 := by
  rw [len_of]
  cases i with
  | ofNat n => have := nat_len n; show (Nat.repr n).toList.length ≤ _; simp only [Int.natAbs]; omega
  | negSucc n =>
    have := nat_len (n + 1)
    show ("-" ++ Nat.repr (n + 1)).toList.length ≤ _
    rw [String.toList_append, List.length_append]
    simp only [Int.natAbs]
    have e : "-".toList.length = 1 := rfl
    omega
theorem from_len : ∀ (ts : List Str) (k : Nat) (acc : Str), (textFrom k acc ts).length ≤ acc.length + (ts.map fun t => t.length + 2).sum
  | [], _, _ => by simp [textFrom]
  | t :: ts, k, acc => by
    have h := from_len ts (k + 1) (acc ++ (Str.ofString (if k > 0 then ", " else "")) ++ t)
    show (textFrom (k + 1) (acc ++ (Str.ofString (if k > 0 then ", " else "")) ++ t) ts).length ≤ _
    rw [sLen_app, sLen_app] at h
    have e : (Str.ofString (if k > 0 then ", " else "")).length ≤ 2 := by split <;> decide
    simp only [List.map_cons, List.sum_cons]
    omega
theorem join_len : ∀ ts : List Str, (Str.join ", " ts).length ≤ (ts.map fun t => t.length + 2).sum
  | [] => by decide
  | [x] => by simp [Str.join]
  | x :: y :: r => by
    have h := join_len (y :: r)
    show (x ++ Str.ofString ", " ++ Str.join ", " (y :: r)).length ≤ _
    rw [sLen_app, sLen_app]
    have e : (Str.ofString ", ").length = 2 := by decide
    simp only [List.map_cons, List.sum_cons] at h ⊢
    omega
mutual
/-- data without texts -/
def rD : D → Bool
  | .non => true
  | .bl _ => true
  | .int _ => true
  | .tup xs => rL xs
  | .lst xs => rL xs
  | _ => false
def rL : List D → Bool
  | [] => true
  | d :: ds => rD d && rL ds
end
mutual
/-- more than the length of its text -/
def wtD : D → Nat
  | .int i => i.natAbs + 5
  | .tup xs => wtL xs + 5
  | .lst xs => wtL xs + 5
  | _ => 5
def wtL : List D → Nat
  | [] => 0
  | d :: ds => wtD d + 2 + wtL ds
end
mutual
theorem shown_wt : ∀ d : D, rD d = true → d.pd.shown.length ≤ wtD d ∧ PyData.strOk d.pd.shown = true ∧ d.pd.hasDict = false
  | .non, _ => by decide +kernel
  | .bl b, _ => by cases b <;> decide +kernel
  | .int i, _ => by
    have h := int_len i
    refine ⟨?_, okStr_of _, rfl⟩
    show (Str.ofString (toString i)).length ≤ i.natAbs + 5
    omega
  | .tup xs, h => by
    obtain ⟨h1, h2, h3⟩ := shownL_wt xs (by simpa only [rD] using h)
    simp only [D.pd, PyData.shown, PyData.hasDict, wtD]
    refine ⟨?_, ?_, h3⟩
    · have := join_len (PyData.shownAll (D.pdL xs))
      unfold tupleText
      rw [sLen_app, sLen_app]
      have e1 : (Str.ofString "(").length = 1 := by decide
      have e2 : (Str.ofString (if (PyData.shownAll (D.pdL xs)).length == 1 then ",)" else ")")).length ≤ 2 := by split <;> decide
      omega
    · exact okStr_app (okStr_app (okStr_of _) (okStr_join _ h2)) (okStr_of _)
  | .lst xs, h => by
    obtain ⟨h1, h2, h3⟩ := shownL_wt xs (by simpa only [rD] using h)
    simp only [D.pd, PyData.shown, PyData.hasDict, wtD]
    refine ⟨?_, ?_, h3⟩
    · have := from_len (PyData.shownAll (D.pdL xs)) 0 (Str.ofString "[")
      unfold listText
      rw [sLen_app]
      have e1 : (Str.ofString "[").length = 1 := by decide
      have e2 : (Str.ofString "]").length = 1 := by decide
      omega
    · exact okStr_app (okStr_from _ 0 _ (okStr_of _) h2) (okStr_of _)
  | .str _, h => by simp [rD] at h
  | .fn _, h => by simp [rD] at h
  | .exc _ _, h => by simp [rD] at h
  | .gvn _, h => by simp [rD] at h
  | .emp, h => by simp [rD] at h
theorem shownL_wt : ∀ ds : List D, rL ds = true → ((PyData.shownAll (D.pdL ds)).map fun t => t.length + 2).sum ≤ wtL ds ∧ (∀ t ∈ PyData.shownAll (D.pdL ds), PyData.strOk t = true) ∧ PyData.hasDictAll (D.pdL ds) = false
  | [], _ => ⟨by decide, by simp [D.pdL, PyData.shownAll], rfl⟩
  | d :: ds, h => by
    simp only [rL, Bool.and_eq_true] at h
    obtain ⟨h1, h2, h3⟩ := shown_wt d h.1
    obtain ⟨g1, g2, g3⟩ := shownL_wt ds h.2
    simp only [D.pdL, PyData.shownAll, wtL, List.map_cons, List.sum_cons, PyData.hasDictAll, h3, g3, Bool.or_self, and_true]
    refine ⟨by omega, fun t ht => ?_⟩
    rcases List.mem_cons.mp ht with rfl | ht
    · exact h2
    · exact g2 t ht
end
mutual
theorem showable_wt : ∀ d : D, rD d = true → wtD d ≤ 1000000 → d.pd.showable = true
  | .non, _, _ => rfl
  | .bl b, _, _ => rfl
  | .int i, _, h => by
    simp only [wtD] at h
    simp only [D.pd, PyData.showable, decide_eq_true_eq]
    by_cases h0 : i.natAbs = 0
    · rw [h0]; decide
    · refine Nat.lt_trans ((Nat.log2_lt h0).mpr (show i.natAbs < 2 ^ 20 by omega)) (by decide)
  | .tup xs, h, h2 => by
    simp only [D.pd, PyData.showable]
    simp only [wtD] at h2
    exact showableL_wt xs (by simpa only [rD] using h) (by omega)
  | .lst xs, h, h2 => by
    simp only [D.pd, PyData.showable]
    simp only [wtD] at h2
    exact showableL_wt xs (by simpa only [rD] using h) (by omega)
  | .str _, h, _ => by simp [rD] at h
  | .fn _, h, _ => by simp [rD] at h
  | .exc _ _, h, _ => by simp [rD] at h
  | .gvn _, h, _ => by simp [rD] at h
  | .emp, h, _ => by simp [rD] at h
theorem showableL_wt : ∀ ds : List D, rL ds = true → wtL ds ≤ 1000000 → PyData.showableAll (D.pdL ds) = true
  | [], _, _ => rfl
  | d :: ds, h, h2 => by
    simp only [rL, Bool.and_eq_true] at h
    simp only [wtL] at h2
    simp only [D.pdL, PyData.showableAll, showable_wt d h.1 (by omega), showableL_wt ds h.2 (by omega), Bool.and_self]
end
theorem reprB_of {d : D} (h : d.ok 60 = true) (h2 : rD d = true) (h3 : wtD d ≤ 1000000) : reprB d = true := by
  obtain ⟨g1, g2, g3⟩ := shown_wt d h2
  have g4 : d.pd.shown.length + 64 ≤ sizeLine := Nat.le_trans (show d.pd.shown.length + 64 ≤ 1000064 by omega) (by decide)
  simp only [reprB, h, showable_wt d h2 h3, g3, g2, decide_eq_true g4, Bool.and_self, Bool.not_false]
theorem rL_iD : ∀ xs : List Int, rL (iD xs) = true
  | [] => rfl
  | x :: xs => by rw [iD_cons, rL, rL_iD xs]; rfl
theorem wtL_iD (b : Nat) : ∀ xs : List Int, (∀ x ∈ xs, x.natAbs ≤ b) → wtL (iD xs) ≤ (b + 7) * xs.length
  | [], _ => by simp [wtL]
  | x :: xs, h => by
    have := wtL_iD b xs fun y hy => h y (by simp [hy])
    have h0 := h x (by simp)
    rw [iD_cons, wtL, wtD, List.length_cons, Nat.mul_add]
    omega
theorem reprB_tI {xs : List Int} {b : Nat} (h : ∀ x ∈ xs, x.natAbs ≤ b) (h2 : (b + 7) * xs.length ≤ 90000) : reprB (.tup (iD xs)) = true := by
  have := wtL_iD b xs h
  exact reprB_of (ok_tI xs) (by simp only [rD]; exact rL_iD xs) (by simp only [wtD]; omega)
end Z

/-! K27a: draws of the second kind -/
namespace Z
open PySem
variable {T : List Fn} {m k : Nat}
theorem shuffled_ok [C_law_shuffled T] (ns xs : List Int) (hx : xs.length ≤ 10000) :
    ∃ ms ns' : List Int, ms.Perm xs ∧ runF T m (k + 2) g_law_shuffled [.io (iD ns), .fz (.lst (iD xs))] = .ok (.tmp (iD ms)) [.io (iD ns'), .fz (.lst (iD xs))] := by
  refine gox_law_shuffled (P := fun r => ∃ ms ns' : List Int, ms.Perm xs ∧ r = .ok (.tmp (iD ms)) [.io (iD ns'), .fz (.lst (iD xs))]) rfl (by rintro _ ⟨_, _, _, rfl⟩; nofun) fun R hR => ?_
  simp [B_law_shuffled, rB_0, rB_nat (show xs.length ≤ 1000000000 by omega)]
  refine wFor (fun j s => ∃ ns' left found : List Int, (found ++ left).Perm xs ∧ found.length = j ∧ s = [.io (iD ns'), .fz (.lst (iD xs)), .lst (iD left), .lst (iD found), .non]) (by simp) ⟨ns, xs, [], by simp, rfl, rfl⟩ ?_ ?_
  · rintro j d _ hd ⟨ns', left, found, hp, hf, rfl⟩ R2 hR2
    obtain ⟨ht, rfl⟩ := rngD_get hd
    have hlen := hp.length_eq
    simp at hlen ht
    have hl : 0 < left.length := by omega
    have h0 : found.length < sizeLine := sLt (by omega)
    refine ⟨_, by simp; rfl, ?_⟩
    have a1 := tk_lo (ns := ns') (b := left.length) (by omega)
    have a2 := tk_hi (ns := ns') (b := left.length) (by omega)
    generalize htk : tk ns' left.length = v at *
    obtain ⟨i, rfl⟩ := Int.eq_ofNat_of_zero_le a1
    have hi : i < left.length := by omega
    obtain ⟨y, hy⟩ : ∃ y, left[i]? = some y := ⟨_, List.getElem?_eq_getElem hi⟩
    have hm := popAt_ok (xs := iD left) (i := i) (y := .int y) (by rw [iD_get, hy]; rfl) (by omega)
    rw [iD_erase] at hm
    simp [law_shuffled_L1, take_ok1 ns' left.length hl, htk, hm, h0]
    refine hR2.next (by simp <;> rfl) ⟨ns'.dropLast, left.eraseIdx i, found ++ [y], ?_, by simp [hf], rfl⟩
    refine List.Perm.trans ?_ hp
    rw [List.append_assoc]
    refine List.Perm.append_left _ ?_
    have e : left[i] = y := by have := List.getElem?_eq_getElem hi; rw [hy] at this; exact (Option.some.inj this).symm
    have h2 : left = left.take i ++ y :: left.drop (i + 1) := by rw [← e, ← List.drop_eq_getElem_cons hi, List.take_append_drop]
    rw [List.eraseIdx_eq_take_drop_succ]
    conv => rhs; rw [h2]
    simpa using List.perm_middle.symm
  · rintro _ ⟨ns', left, found, hp, hf, rfl⟩
    simp at hf
    have hlen := hp.length_eq
    simp [hf] at hlen
    subst hlen
    simp
    exact hR.ret rfl ⟨found, ns', by simpa using hp, rfl⟩

@[simp] theorem mul69621 (i : Int) : bopO .mul (.int i) (.int 69621) = some (.fz (.int (i * 69621))) := bop_mul2 (big_of (by omega))
theorem draws2_ok [C_law_draws_v2 T] (ns : List Int) (hn : ns.length ≤ 63) :
    ∃ ds : List Int, runF T m (k + 1) g_law_draws_v2 [.fz (.gvn (iD ns))] = .ok (.tmp (iD ds)) [.fz (.gvn (iD ns))] := by
  refine gox_law_draws_v2 (P := fun r => ∃ ds : List Int, r = .ok (.tmp (iD ds)) [.fz (.gvn (iD ns))]) rfl (by rintro _ ⟨_, rfl⟩; nofun) fun R hR => ?_
  simp [B_law_draws_v2]
  refine wFor (fun j s => ∃ (ds : List Int), ds.length ≤ j * 62 ∧ s = [.fz (.gvn (iD ns)), .lst (iD ds), .non, .non, .non, .non, .non]) (by simp) ⟨[], by simp, rfl⟩ ?_ ?_
  · rintro j d _ hd ⟨ds, hl, rfl⟩ R2 hR2
    obtain ⟨c, hc, rfl⟩ := iD_getS hd
    have hj : j < 63 := Nat.lt_of_lt_of_le (List.getElem?_eq_some_iff.mp hc).1 hn
    refine ⟨_, by simp; rfl, ?_⟩
    have inner : ∀ (ds : List Int) (num : Int) (x : Sl) (s1 : Sts), frS x = true → s1 = [.fz (.gvn (iD ns)), .lst (iD ds), .fz (.int c), .non, .non, .fz (.int num), x] → ds.length ≤ j * 62 + 2 → Wp (unlockO s1 [] (forL (asgD (.var 4)) (evB m (envT T m k) law_draws_v2_L2) (rngD 0 60) s1)) (sq m (envT T m k) [] R2) := by
      rintro ds num x _ hx rfl hl
      refine wFor (fun t s => ∃ (ds : List Int) (num : Int), ds.length ≤ j * 62 + 2 + t ∧ s = [.fz (.gvn (iD ns)), .lst (iD ds), .fz (.int c), .non, .non, .fz (.int num), x]) (by simp) ⟨ds, num, hl, rfl⟩ ?_ ?_
      · rintro t d _ hd ⟨ds, num, hl, rfl⟩ R3 hR3
        obtain ⟨ht, rfl⟩ := rngD_get hd
        have h0 : ds.length < sizeLine := sLt (by omega)
        refine ⟨_, by simp; rfl, ?_⟩
        by_cases hp : 0 < num
        · simp [law_draws_v2_L2, hp, h0]
          exact hR3.next (by simp <;> rfl) ⟨ds ++ [num % 997], num / 997, by simp; omega, rfl⟩
        · simp [law_draws_v2_L2, hp]
          exact hR3.next (by simp <;> rfl) ⟨ds, num, by omega, rfl⟩
      · rintro _ ⟨ds, num, hl, rfl⟩
        simp at hl ⊢
        exact hR2.next (by simp [hx] <;> rfl) ⟨ds, by omega, rfl⟩
    have h0 : ds.length < sizeLine := sLt (by omega)
    have h1 : ds.length + 1 < sizeLine := sLt (by omega)
    by_cases hs : (if c < 0 then -c else c) < 1000000000000000000
    · simp [law_draws_v2_L1, hs, h0, h1, rB_0, rB_lit]
      exact inner _ _ _ _ rfl rfl (by simp; omega)
    · simp [law_draws_v2_L1, hs, h0, h1, rB_0, rB_lit]
      exact inner _ _ _ _ rfl rfl (by omega)
  · rintro _ ⟨ds, hl, rfl⟩
    have last : ∀ (seed : Int) (s1 : Sts), s1 = [.fz (.gvn (iD ns)), .lst (iD ds), .non, .fz (.int seed), .non, .non, .non] → Wp (unlockO s1 [] (forL (asgD (.var 4)) (evB m (envT T m k) law_draws_v2_L3) (rngD 0 9000) s1)) (sq m (envT T m k) [.ret (.blt .revlist [.var 1])] R) := by
      rintro seed _ rfl
      refine wFor (fun j s => ∃ (ds : List Int) (seed : Int), ds.length ≤ 63 * 62 + j ∧ s = [.fz (.gvn (iD ns)), .lst (iD ds), .non, .fz (.int seed), .non, .non, .non]) (by simp) ⟨ds, seed, by rw [iD_len] at hl; omega, rfl⟩ ?_ ?_
      · rintro j d _ hd ⟨ds, seed, hl, rfl⟩ R2 hR2
        obtain ⟨ht, rfl⟩ := rngD_get hd
        have h0 : ds.length < sizeLine := sLt (by omega)
        refine ⟨_, by simp; rfl, ?_⟩
        simp [law_draws_v2_L3, h0]
        exact hR2.next (by simp) ⟨ds ++ [(seed * 48271 + 69621) % 2147483647 / 5], (seed * 48271 + 69621) % 2147483647, by simp; omega, rfl⟩
      · rintro _ ⟨ds, seed, hl, rfl⟩
        simp
        exact hR.ret rfl ⟨ds.reverse, rfl⟩
    cases ns with
    | nil =>
      simp [rB_0, rB_lit]
      exact last _ _ rfl
    | cons n ns =>
      simp [rB_0, rB_lit, iD_cons, show (0 : Int) < (ns.length : Int) + 1 by omega]
      exact last _ _ rfl
end Z

/-! K27b: _law_same of the second kind; rows drawn; exchanges -/
namespace Z
open PySem
variable {T : List Fn} {m k : Nat}
theorem same2_0 [C_law_same_v2 T] {d : D} (h : gd 0 d = true) : runF T m (k + 1) g_law_same_v2 [.fz d, .fz d] = .ok (.fz (.bl true)) [.fz d, .fz d] := by
  refine go_law_same_v2 rfl nofun ?_
  have he := eq_self h
  cases d <;> first | (simp [gd] at h; done) | simp [B_law_same_v2, he]
theorem same2_ok [C_law_same_v2 T] : ∀ (n : Nat) (d : D), gd n d = true → runF T m (k + n + 1) g_law_same_v2 [.fz d, .fz d] = .ok (.fz (.bl true)) [.fz d, .fz d] := by
  intro n
  induction n with
  | zero => intro d h; exact same2_0 h
  | succ n ih =>
    intro d h
    have seq : ∀ (xs : List D) (d : D), (d = .tup xs ∨ d = .lst xs) → xs.all (gd n) = true → xs.length ≤ 100000 → runF T m (k + (n + 1) + 1) g_law_same_v2 [.fz d, .fz d] = .ok (.fz (.bl true)) [.fz d, .fz d] := by
      intro xs d hd ha hl
      refine go_law_same_v2 rfl nofun ?_
      have hsub : ∀ (j : Nat) (x : D), xs[j]? = some x → subD d (.int j) = some x := by
        intro j x hj; rcases hd with rfl | rfl
        · exact sub_tup hj
        · exact sub_lst hj
      obtain ⟨sf, e1, e2⟩ := lc_pure (own := [3]) (turn := lcT (envT T m (k + (n + 1))) (.var 3) [] law_same_v2_C2) (s := [.fz d, .fz d, .non, .non]) (fun _ => [.bl true]) (rngD 0 xs.length) rfl (sL (by simpa using hl)) fun x hm acc hacc => by
        obtain ⟨j, hj0⟩ := List.mem_iff_getElem?.mp hm
        obtain ⟨hj, rfl⟩ := rngD_get hj0
        obtain ⟨x, hx⟩ : ∃ x, xs[j]? = some x := ⟨_, List.getElem?_eq_getElem hj⟩
        have h1 := hsub j x hx
        have h2 : runF T m (k + (n + 1)) g_law_same_v2 [.fz x, .fz x] = .ok (.fz (.bl true)) [.fz x, .fz x] := ih x (List.all_eq_true.mp ha x (List.mem_of_getElem? hx))
        simp [lcT, law_same_v2_C2, h1, h2, hacc]
      have e3 : boolsD ((rngD 0 xs.length).flatMap fun _ => [D.bl true]) = some ((rngD 0 xs.length).map fun _ => true) := by
        rw [← List.map_eq_flatMap]; exact boolsD_mapF (fun _ => true) _
      rcases hd with rfl | rfl
      · simp [B_law_same_v2, rB_0, rB_nat (show xs.length ≤ 1000000000 by omega), e1, e2, e3]
      · simp [B_law_same_v2, rB_0, rB_nat (show xs.length ≤ 1000000000 by omega), e1, e2, e3]
    cases d with
    | tup xs =>
      simp only [gd, Bool.and_eq_true, decide_eq_true_eq] at h
      exact seq xs _ (.inl rfl) h.1 h.2
    | lst xs =>
      simp only [gd, Bool.and_eq_true, decide_eq_true_eq] at h
      exact seq xs _ (.inr rfl) h.1 h.2
    | non => exact same2_0 (by simp)
    | bl _ => exact same2_0 (by simp)
    | int _ => exact same2_0 (by simp)
    | str _ => exact same2_0 (by simpa [gd] using h)
    | fn _ => simp [gd] at h
    | exc _ _ => simp [gd] at h
    | gvn _ => simp [gd] at h
    | emp => simp [gd] at h
/-- a pattern's drawing: only that it is a row -/
theorem of_length_ok [C_law_of_length T] (ns : List Int) (n : Nat) (high : Int) (hn : 1 ≤ n) (hn2 : n ≤ 1000) (hh : (n : Int) - 1 ≤ high) :
    ∃ hs ns' : List Int, hs.length = n ∧ (∀ h ∈ hs, 0 ≤ h ∧ h ≤ high) ∧ runF T m (k + 3) g_law_of_length [.io (iD ns), .fz (.int n), .fz (.int high)] = .ok (.fz (.tup (iD hs))) [.io (iD ns'), .fz (.int n), .fz (.int high)] := by
  refine gox_law_of_length (P := fun r => ∃ hs ns' : List Int, hs.length = n ∧ (∀ h ∈ hs, 0 ≤ h ∧ h ≤ high) ∧ r = .ok (.fz (.tup (iD hs))) [.io (iD ns'), .fz (.int n), .fz (.int high)]) rfl (by rintro _ ⟨_, _, _, _, rfl⟩; nofun) fun R hR => ?_
  obtain ⟨ms, ns1, hp, e⟩ := shuffled_ok (T := T) (m := m) (k := k) ns (rg n) (by simp; omega)
  obtain ⟨wide, hw, p1⟩ := pick_int (T := T) ns1 [0, 1, 1, 2, 99] (by simp)
  have hw2 : 0 ≤ wide := by simp at hw; omega
  simp [iD_cons] at p1
  simp [B_law_of_length, rB_0, rB_nat (show n ≤ 1000000000 by omega), sL, show n ≤ 100000 by omega, rg_iD, e, p1]
  have hml : ms.length = n := by simpa using hp.length_eq
  refine wFor (fun j s => ∃ ns' found : List Int, found.length = j ∧ (∀ h ∈ found, 0 ≤ h ∧ h ≤ high) ∧ s = [.io (iD ns'), .fz (.int n), .fz (.int high), .lst (iD ms), .fz (.int wide), .lst (iD found), .non, .non, .non]) (by simp) ⟨_, [], rfl, by simp, rfl⟩ ?_ ?_
  · rintro j d _ hd ⟨ns', found, h1, h2, rfl⟩ R2 hR2
    obtain ⟨y, hy, rfl⟩ := iD_getS hd
    have hj : j < n := by simpa using (List.getElem?_eq_some_iff.mp hy).1
    rw [rg_get hj] at hy
    cases hy
    obtain ⟨g, hg⟩ : ∃ g, ms[j]? = some g := ⟨_, List.getElem?_eq_getElem (by omega)⟩
    have es := sub_iD hg
    have hp0 : 0 < n := hn
    have ha : found.length < sizeLine := sLt (by omega)
    have z1 := Int.emod_nonneg (g - j) (show (n : Int) ≠ 0 by omega)
    have z2 := Int.emod_lt_of_pos (g - j) (show 0 < (n : Int) by omega)
    generalize hv : (g - j) % (n : Int) = v at *
    have d1 : 0 ≤ (high - v) / (n : Int) := Int.ediv_nonneg (by omega) (by omega)
    have hm0 : 0 ≤ (if (high - v) / (n : Int) < wide then (high - v) / (n : Int) else wide) ∧ (if (high - v) / (n : Int) < wide then (high - v) / (n : Int) else wide) ≤ (high - v) / n := by split <;> omega
    generalize hmo : (if (high - v) / (n : Int) < wide then (high - v) / (n : Int) else wide) = more at *
    have t1 := tk_lo (ns := ns') (b := more + 1) (by omega)
    have t2 := tk_hi (ns := ns') (b := more + 1) (by omega)
    have et := take_ok (T := T) (m := m) (k := k + 1) ns' (more + 1) (by omega)
    generalize tk ns' (more + 1) = t at *
    have hb : (n : Int) < 1073741824 := by omega
    refine ⟨_, by simp; rfl, ?_⟩
    simp [law_of_length_L1, es, hp0, hv, hmo, et, bop_mul (j := t) (big_of (i := (n : Int)) (by omega)), ha, hb]
    refine hR2.next (s := [.io (iD ns'.dropLast), .fz (.int n), .fz (.int high), .lst (iD ms), .fz (.int wide), .lst (iD (found ++ [v + n * t])), .non, .non, .non]) (by simp) ⟨ns'.dropLast, found ++ [v + n * t], by simp [h1], fun x hx => ?_, rfl⟩
    rcases List.mem_append.mp hx with hx | hx
    · exact h2 x hx
    · simp at hx
      subst hx
      have hnt : 0 ≤ (n : Int) * t := Int.mul_nonneg (by omega) t1
      have h4 : (n : Int) * t ≤ n * ((high - v) / n) := Int.mul_le_mul_of_nonneg_left (by omega) (by omega)
      have h5 := Int.mul_ediv_self_le (x := high - v) (k := (n : Int)) (by omega)
      omega
  · rintro _ ⟨ns', found, h1, h2, rfl⟩
    simp at h1 ⊢
    exact hR.ret rfl ⟨found, ns', h1, h2, rfl⟩
theorem pattern2_ok [C_law_pattern_v2 T] (ns : List Int) (most : Nat) (high : Int) (hm : 1 ≤ most) (hm2 : most ≤ 40) (hh : 0 ≤ high ∧ high ≤ 60) :
    ∃ hs ns' : List Int, rowI hs ∧ runF T m (k + 4) g_law_pattern_v2 [.io (iD ns), .fz (.int most), .fz (.int high)] = .ok (.fz (.tup (iD hs))) [.io (iD ns'), .fz (.int most), .fz (.int high)] := by
  have t1 := tk_lo (ns := ns) (b := most) (by omega)
  have t2 := tk_hi (ns := ns) (b := most) (by omega)
  have et := take_ok1 (T := T) (m := m) (k := k + 2) ns most (by omega)
  obtain ⟨c, hc⟩ := Int.eq_ofNat_of_zero_le t1
  rw [hc] at t2 et
  obtain ⟨hs, ns', l1, b1, e⟩ := of_length_ok (T := T) (m := m) (k := k) ns.dropLast (c + 1) (if ((c : Int)) > high then (c : Int) else high) (by omega) (by omega) (by split <;> omega)
  have e0 : ((1 : Int) + (c : Int)) = ((c + 1 : Nat) : Int) := by omega
  refine ⟨hs, ns', ⟨by omega, by omega, fun h hh' => ?_⟩, go_law_pattern_v2 rfl nofun ?_⟩
  · have := b1 h hh'
    split at this <;> omega
  · have e1 : ((1 : Int) + (c : Int)) - 1 = (c : Int) := by omega
    have e' : runF T m (k + 3) g_law_of_length [.io (iD ns.dropLast), .fz (.int (1 + (c : Int))), .fz (.int (if (c : Int) > high then (c : Int) else high))] = .ok (.fz (.tup (iD hs))) [.io (iD ns'), .fz (.int (1 + (c : Int))), .fz (.int (if (c : Int) > high then (c : Int) else high))] := by rw [e0]; exact e
    simp [B_law_pattern_v2, et, e1, e']
end Z

/-! K22a: states -/
namespace Z
open PySem
variable {T : List Fn} {m k : Nat}
theorem in_ints (i : Int) : ∀ s : List Int, ((iD s).any fun z => PyData.eqv z.pd (D.int i).pd) = decide (i ∈ s)
  | [] => by simp [iD]
  | x :: s => by
    rw [iD_cons, List.any_cons, in_ints i s]
    by_cases h : x = i
    · subst h; simp [D.pd, PyData.eqv]
    · have h' : ¬ i = x := fun e => h e.symm
      simp [D.pd, PyData.eqv, h, h']
@[simp] theorem in_tI (i : Int) (s : List Int) : cop .inn (.int i) (.tup (iD s)) = some (decide (i ∈ s)) := by
  show (D.int i).isin (.tup (iD s)) = _
  have h : (D.int i).ok 60 = true := rfl
  simp only [D.isin, ok_tI, h, Bool.and_self, if_true, in_ints]
@[simp] theorem nin_tI (i : Int) (s : List Int) : cop .nin (.int i) (.tup (iD s)) = some (!decide (i ∈ s)) := by
  show ((D.int i).isin (.tup (iD s))).map (!·) = _
  have h : (D.int i).ok 60 = true := rfl
  simp only [D.isin, ok_tI, h, Bool.and_self, if_true, in_ints]; rfl
/-! ascending -/
def asc (s : List Int) : Bool := decide (s.Pairwise (· < ·))
theorem asc_zip : ∀ s : List Int, ((s.zip s.tail).all fun p => decide (p.1 < p.2)) = asc s
  | [] => rfl
  | [a] => by simp [asc]
  | a :: b :: r => by
    have ih := asc_zip (b :: r)
    simp only [List.tail_cons, List.zip_cons_cons, List.all_cons] at ih ⊢
    rw [ih, asc, asc, Bool.eq_iff_iff]
    simp only [Bool.and_eq_true, decide_eq_true_eq, List.pairwise_cons, List.mem_cons]
    constructor
    · rintro ⟨h1, h2, h3⟩
      refine ⟨fun y hy => ?_, h2, h3⟩
      rcases hy with rfl | hy
      · exact h1
      · exact Int.lt_trans h1 (h2 y hy)
    · rintro ⟨h1, h2, h3⟩
      exact ⟨h1 b (.inl rfl), h2, h3⟩
theorem asc_rng (s : List Int) : ((List.range (s.length - 1)).all fun k => decide (s.getD k 0 < s.getD (k + 1) 0)) = asc s := by
  rw [← asc_zip, Bool.eq_iff_iff, List.all_eq_true, List.all_eq_true]
  constructor
  · intro h p hp
    obtain ⟨i, hi⟩ := List.mem_iff_getElem?.mp hp
    rw [List.getElem?_zip_eq_some] at hi
    obtain ⟨h1, h2⟩ := hi
    rw [List.getElem?_tail] at h2
    have hl := (List.getElem?_eq_some_iff.mp h2).1
    have := h i (List.mem_range.mpr (by omega))
    rw [List.getD_eq_getElem?_getD, List.getD_eq_getElem?_getD, h1, h2] at this
    exact this
  · intro h i hi
    have hi := List.mem_range.mp hi
    have h1 : s[i]? = some s[i] := List.getElem?_eq_getElem (by omega)
    have h2 : s[i + 1]? = some s[i + 1] := List.getElem?_eq_getElem (by omega)
    have := h (s[i], s[i + 1]) (List.mem_iff_getElem?.mpr ⟨i, List.getElem?_zip_eq_some.mpr ⟨h1, by rw [List.getElem?_tail]; exact h2⟩⟩)
    rw [List.getD_eq_getElem?_getD, List.getD_eq_getElem?_getD, h1, h2]
    exact this
theorem cut_tail (s : List Int) : cutI s (some 1) none = s.tail := by
  cases s with
  | nil => simp [cutI]
  | cons x s => rw [show (1 : Int) = ((1 : Nat) : Int) from rfl, cutI_drop (by simp)]; simp
theorem zip_iD : ∀ a b : List Int, List.zipWith (fun x y => D.tup [x, y]) (iD a) (iD b) = (a.zip b).map fun p => D.tup [.int p.1, .int p.2]
  | [], _ => by simp [iD]
  | _ :: _, [] => by simp [iD]
  | x :: a, y :: b => by simp only [iD_cons, List.zipWith_cons_cons, List.zip_cons_cons, List.map_cons, zip_iD a b]
@[simp] theorem evI_zip (G : Env) (a b : IE) (s : Sts) : evI G (.zip a b) s = (evE G a false s).bind fun p s1 => (evE G b false s1).bind fun q s2 => match view s2 p, view s2 q with
    | some (.lst xs), some (.lst ys) => .ok (List.zipWith (fun x y => D.tup [x, y]) xs ys, [p, q]) s2
    | some (.tup xs), some (.tup ys) => .ok (List.zipWith (fun x y => D.tup [x, y]) xs ys, [p, q]) s2
    | _, _ => .no := (rfl)
theorem asc_ok [C_are_ascending T] (s : List Int) (hb : s.length ≤ 1000) :
    runF T m (k + 1) g_are_ascending [.fz (.tup (iD s))] = .ok (.fz (.bl (asc s))) [.fz (.tup (iD s))] := by
  refine go_are_ascending rfl nofun ?_
  obtain ⟨sf, e1, e2⟩ := lc_pure (own := [1, 2]) (turn := lcT (envT T m k) (.tup [.var 1, .var 2]) [] are_ascending_C1) (s := [.fz (.tup (iD s)), .non, .non])
    (fun d => match d with | .tup [.int a, .int b] => [.bl (decide (a < b))] | _ => []) ((s.zip s.tail).map fun p => D.tup [.int p.1, .int p.2]) rfl (sL (by simp; omega)) fun x hm acc ha => by
      obtain ⟨p, _, rfl⟩ := List.mem_map.mp hm
      simp [lcT, are_ascending_C1, ha]
  have e : ((s.zip s.tail).map fun p => D.tup [.int p.1, .int p.2]).flatMap (fun d => match d with | .tup [.int a, .int b] => [D.bl (decide (a < b))] | _ => []) = (s.zip s.tail).map fun p => .bl (decide (p.1 < p.2)) := by
    rw [List.flatMap_map]; exact (List.map_eq_flatMap ..).symm
  rw [e] at e1
  have e3 := boolsD_mapF (fun p : Int × Int => decide (p.1 < p.2)) (s.zip s.tail)
  have e4 : blD .all [.lst ((s.zip s.tail).map fun p => .bl (decide (p.1 < p.2)))] = some (.fz (.bl (asc s))) := by
    simp only [blD, e3, Option.map_some, List.all_map]
    rw [← asc_zip]; rfl
  simp [B_are_ascending, cut_tail, zip_iD, e1, e2, e4]
end Z

/-! K22b: what a state is, by the program and by the law -/
namespace Z
open PySem
variable {T : List Fn} {m k : Nat}
def stD : D → Bool
  | .tup xs => decide (xs.length ≤ 60) && xs.all (withinD 0 60) && (match intsD xs with | some s => asc s | none => false)
  | _ => false
def stS (s : List Int) : Prop := s.length ≤ 60 ∧ (∀ h ∈ s, 0 ≤ h ∧ h ≤ 60) ∧ asc s = true
theorem all_within {s : List Int} : (iD s).all (withinD 0 60) = true ↔ ∀ h ∈ s, 0 ≤ h ∧ h ≤ 60 := by
  rw [iD, List.all_map, List.all_eq_true]
  simp [withinD]
theorem stD_iD {s : List Int} : stD (.tup (iD s)) = true ↔ stS s := by
  simp only [stD, ints_iD, Bool.and_eq_true, decide_eq_true_eq, all_within, iD_len, stS, and_assoc]
@[simp] theorem stD_of {s : List Int} (h : stS s) : stD (.tup (iD s)) = true := stD_iD.mpr h
theorem is_state_ok [C_is_state T] (d : D) (hd : plainR d) :
    runF T m (k + 2) g_is_state [.fz d] = .ok (.fz (.bl (stD d))) [.fz d] := by
  refine go_is_state rfl nofun ?_
  obtain ⟨hd, hx⟩ := hd
  cases d with
  | fn i => cases hd
  | exc c v => cases hd
  | gvn v => cases hd
  | tup xs =>
    by_cases h1 : xs.length ≤ 60
    · obtain ⟨sf, e1, e2⟩ := lc_pure (own := [1]) (turn := lcT (envT T m (k + 1)) (.var 1) [] is_state_C1) (s := [.fz (.tup xs), .non]) (fun x => [.bl (withinD 0 60 x)]) xs rfl (sL (by omega)) fun x hm acc ha => by
          simp [lcT, is_state_C1, within_ok _ _ _ (hx xs rfl x hm), ha]
      rw [show xs.flatMap (fun x => [D.bl (withinD 0 60 x)]) = xs.map fun x => .bl (withinD 0 60 x) from (List.map_eq_flatMap ..).symm] at e1
      have e4 : blD .all [.lst (xs.map fun x => .bl (withinD 0 60 x))] = some (.fz (.bl (xs.all (withinD 0 60)))) := by
        simp only [blD, boolsD_mapF, Option.map_some, List.all_map]; rfl
      have hg : ¬ (60 : Int) < xs.length := by omega
      cases ha : xs.all (withinD 0 60) with
      | false =>
        rw [ha] at e4
        simp [B_is_state, hg, e1, e2, e4, stD, ha]
      | true =>
        rw [ha] at e4
        obtain ⟨s, rfl, hs⟩ := all_ints fun x hx => List.all_eq_true.mp ha x hx
        rw [iD_len] at h1
        have hg' : ¬ (60 : Int) < s.length := by omega
        have e5 := asc_ok (T := T) (m := m) (k := k) s (by omega)
        simp [B_is_state, hg', e1, e2, e4, e5, stD, ha, h1]
    · have hg : (60 : Int) < xs.length := by omega
      simp [B_is_state, hg, stD, h1]
  | _ => simp [B_is_state, stD]
theorem law_is_state_ok [C_law_is_state T] (d : D) (hd : plainR d) :
    runF T m (k + 1) g_law_is_state [.fz d] = .ok (.fz (.bl (stD d))) [.fz d] := by
  refine go_law_is_state rfl nofun ?_
  obtain ⟨hd, hx⟩ := hd
  cases d with
  | fn i => cases hd
  | exc c v => cases hd
  | gvn v => cases hd
  | tup xs =>
    by_cases h1 : xs.length ≤ 60
    · obtain ⟨sf, e1, e2⟩ := lc_pure (own := [2]) (turn := lcT (envT T m k) (.var 2) [] law_is_state_C1) (s := [.fz (.tup xs), .non, .non]) (fun x => [.bl (withinD 0 60 x)]) xs rfl (sL (by omega)) fun x hm acc ha => by
          have hp := hx xs rfl x hm
          cases x with
          | fn i => cases hp
          | exc c v => cases hp
          | gvn v => cases hp
          | int i => by_cases h0 : 0 ≤ i <;> simp [lcT, law_is_state_C1, withinD, ha, h0]
          | _ => simp [lcT, law_is_state_C1, withinD, ha]
      rw [show xs.flatMap (fun x => [D.bl (withinD 0 60 x)]) = xs.map fun x => .bl (withinD 0 60 x) from (List.map_eq_flatMap ..).symm] at e1
      have e4 : blD .all [.lst (xs.map fun x => .bl (withinD 0 60 x))] = some (.fz (.bl (xs.all (withinD 0 60)))) := by
        simp only [blD, boolsD_mapF, Option.map_some, List.all_map]; rfl
      have hg : ¬ (60 : Int) < xs.length := by omega
      cases ha : xs.all (withinD 0 60) with
      | false =>
        rw [ha] at e4
        simp [B_law_is_state, hg, e1, e2, e4, stD, ha]
      | true =>
        rw [ha] at e4
        obtain ⟨s, rfl, hs⟩ := all_ints fun x hx => List.all_eq_true.mp ha x hx
        rw [iD_len] at h1
        obtain ⟨c, hc⟩ : ∃ c, (((s.length : Int) - 1) - 0).toNat = c := ⟨_, rfl⟩
        have hc2 : c = s.length - 1 := by omega
        obtain ⟨sf2, c1, c2⟩ := lc_pure (own := [1]) (turn := lcT (envT T m k) (.var 1) [] law_is_state_C2) (s := [.fz (.tup (iD s)), .non, .non]) (fun x => match x with | .int i => [.bl (decide (s.getD i.toNat 0 < s.getD (i.toNat + 1) 0))] | _ => []) (rngD 0 c) rfl (sL (by simp; omega)) fun x hm acc ha => by
          obtain ⟨i, hi⟩ := List.mem_iff_getElem?.mp hm
          obtain ⟨hi, rfl⟩ := rngD_get hi
          have h2 : s[i]? = some s[i] := List.getElem?_eq_getElem (by omega)
          have h3 : s[i + 1]? = some s[i + 1] := List.getElem?_eq_getElem (by omega)
          have g2 := sub_tD h2
          have g3 := sub_tD h3
          rw [show ((i + 1 : Nat) : Int) = (i : Int) + 1 by omega] at g3
          simp [lcT, law_is_state_C2, ha, g2, g3, List.getD_eq_getElem?_getD, h2, h3]
        have ec : (rngD 0 c).flatMap (fun x => match x with | .int i => [D.bl (decide (s.getD i.toNat 0 < s.getD (i.toNat + 1) 0))] | _ => []) = (List.range c).map fun k => .bl (decide (s.getD k 0 < s.getD (k + 1) 0)) := by
          simp only [rngD, List.flatMap_map, Int.zero_add, Int.toNat_natCast]
          exact (List.map_eq_flatMap ..).symm
        rw [ec] at c1
        have e5 : blD .all [.lst ((List.range c).map fun k => .bl (decide (s.getD k 0 < s.getD (k + 1) 0)))] = some (.fz (.bl (asc s))) := by
          rw [← asc_rng, ← hc2]
          simp only [blD, boolsD_mapF, Option.map_some, List.all_map]; rfl
        simp only [Int.sub_zero] at hc
        have r1 : rB ((s.length : Int) - 1) := rB_of (by omega) (by omega)
        have hg' : ¬ (60 : Int) < s.length := by omega
        simp [B_law_is_state, hg', e1, e2, e4, hc, c1, c2, e5, rB_0, r1, stD, ha, h1]
        have q := asc_rng s
        rw [← hc2] at q
        simpa [List.getD_eq_getElem?_getD] using q
    · have hg : (60 : Int) < xs.length := by omega
      simp [B_law_is_state, hg, stD, h1]
  | _ => simp [B_law_is_state, stD]
theorem check_state_ok [C_check_state T] (d : D) (hd : plainR d) :
    runF T m (k + 3) g_check_state [.fz d] = if stD d = true then .ok (.fz .non) [.fz d] else .er (.exc 1 []) [.fz d] := by
  refine go_check_state rfl (by split <;> nofun) ?_
  cases h : stD d <;> simp [B_check_state, is_state_ok d hd, h]
end Z

/-! K22c: throws from states -/
namespace Z
open PySem
variable {T : List Fn} {m k : Nat}
def lft (s : List Int) : List Int := (s.filter fun x => decide (0 < x)).map (· - 1)
def nxt (s : List Int) (h : Int) : List Int := if 0 < h then sortI (lft s ++ [h - 1]) else lft s
def fitI (s : List Int) (h : Int) : Bool := if h = 0 then !decide (0 ∈ s) else decide (0 < h) && (decide (0 ∈ s) && !decide (h ∈ s))
def cnI (s : List Int) (h : Int) : Bool := decide (h ≤ 60) && fitI s h
theorem sortI_asc : ∀ {s : List Int}, s.Pairwise (· ≤ ·) → sortI s = s
  | [], _ => rfl
  | x :: s, h => by
    obtain ⟨h1, h2⟩ := List.pairwise_cons.mp h
    rw [sortI, sortI_asc h2]
    cases s with
    | nil => rfl
    | cons y s => rw [insI, if_pos (h1 y (by simp))]
theorem asc_iff {s : List Int} : asc s = true ↔ s.Pairwise (· < ·) := by simp [asc]
theorem asc_nodup {s : List Int} (h : s.Pairwise (· < ·)) : s.Nodup := h.imp fun h e => by omega
theorem lft_pw {s : List Int} (h : s.Pairwise (· < ·)) : (lft s).Pairwise (· < ·) := by
  unfold lft
  rw [List.pairwise_map]
  exact (h.filter _).imp fun h => by omega
theorem lft_mem {s : List Int} {x : Int} : x ∈ lft s ↔ x + 1 ∈ s ∧ 0 ≤ x := by
  simp only [lft, List.mem_map, List.mem_filter, decide_eq_true_eq]
  constructor
  · rintro ⟨y, ⟨h1, h2⟩, rfl⟩
    exact ⟨by rw [show y - 1 + 1 = y by omega]; exact h1, by omega⟩
  · rintro ⟨h1, h2⟩
    exact ⟨x + 1, ⟨h1, by omega⟩, by omega⟩
theorem sorted_lt {s : List Int} (h : s.Nodup) : (sortI s).Pairwise (· < ·) := by
  have p := sortI_perm s
  have h2 : (sortI s).Nodup := p.nodup_iff.mpr h
  exact ((sortI_sorted s).and h2).imp fun h => by omega
theorem nxt_ok {s : List Int} {h : Int} (hs : stS s) (hc : cnI s h = true) : stS (nxt s h) := by
  obtain ⟨h1, h2, h3⟩ := hs
  rw [asc_iff] at h3
  simp only [cnI, Bool.and_eq_true, decide_eq_true_eq, fitI] at hc
  obtain ⟨h4, h5⟩ := hc
  have hl := lft_pw h3
  unfold nxt
  by_cases h0 : 0 < h
  · rw [if_neg (by omega)] at h5
    simp only [Bool.and_eq_true, decide_eq_true_eq, Bool.not_eq_true', decide_eq_false_iff_not] at h5
    obtain ⟨_, h6, h7⟩ := h5
    rw [if_pos h0]
    have hn : (lft s ++ [h - 1]).Nodup := by
      rw [List.nodup_append]
      refine ⟨asc_nodup hl, by simp, fun a ha b hb e => ?_⟩
      simp at hb
      subst e hb
      exact h7 (by have := (lft_mem.mp ha).1; rwa [show h - 1 + 1 = h by omega] at this)
    have p := sortI_perm (lft s ++ [h - 1])
    refine ⟨?_, fun x hx => ?_, asc_iff.mpr (sorted_lt hn)⟩
    · rw [p.length_eq, List.length_append, lft, List.length_map]
      have : (s.filter fun x => decide (0 < x)).length < s.length := List.length_filter_lt_length_iff_exists.mpr ⟨0, h6, by simp⟩
      simp; omega
    · rcases List.mem_append.mp (p.mem_iff.mp hx) with hx | hx
      · obtain ⟨a, b⟩ := lft_mem.mp hx
        have := h2 _ a
        omega
      · simp at hx; omega
  · rw [if_neg h0]
    refine ⟨?_, fun x hx => ?_, asc_iff.mpr hl⟩
    · rw [lft, List.length_map]
      exact Nat.le_trans (List.length_filter_le _ _) h1
    · obtain ⟨a, b⟩ := lft_mem.mp hx
      have := h2 _ a
      omega
theorem fits_ok [C_fits T] (s : List Int) (h : Int) :
    runF T m (k + 1) g_fits [.fz (.tup (iD s)), .fz (.int h)] = .ok (.fz (.bl (fitI s h))) [.fz (.tup (iD s)), .fz (.int h)] := by
  refine go_fits rfl nofun ?_
  by_cases h0 : h = 0
  · subst h0; simp [B_fits, fitI]
  · by_cases h1 : 0 < h
    · by_cases h2 : 0 ∈ s
      · simp [B_fits, fitI, h0, h1, h2]
      · simp [B_fits, fitI, h0, h1, h2]
    · simp [B_fits, fitI, h0, h1]
theorem lft_iD (s : List Int) : (iD s).flatMap (fun x => match x with | .int i => if 0 < i then [D.int (i - 1)] else [] | _ => []) = iD (lft s) := by
  induction s with
  | nil => rfl
  | cons a s ih =>
    rw [iD_cons, List.flatMap_cons, ih]
    by_cases h : 0 < a <;> simp [lft, h, iD]
theorem behind_ok [C_behind T] (s : List Int) (h : Int) (hb : s.length ≤ 1000) :
    runF T m (k + 1) g_behind [.fz (.tup (iD s)), .fz (.int h)] = .ok (.fz (.tup (iD (nxt s h)))) [.fz (.tup (iD s)), .fz (.int h)] := by
  refine go_behind rfl nofun ?_
  obtain ⟨sf, e1, e2⟩ := lc_pure (own := [3]) (turn := lcT (envT T m k) (.var 3) [.cmp .gt (.var 3) (.con (.int 0))] behind_C1) (s := [.fz (.tup (iD s)), .fz (.int h), .non, .non]) (fun x => match x with | .int i => if 0 < i then [.int (i - 1)] else [] | _ => []) (iD s) rfl (sL (by simp; omega)) fun x hm acc ha => by
    obtain ⟨i, _, rfl⟩ := List.mem_map.mp hm
    by_cases hi : 0 < i <;> simp [lcT, behind_C1, ha, hi]
  rw [lft_iD] at e1
  have hl : (lft s).length ≤ 1000 := by rw [lft, List.length_map]; exact Nat.le_trans (List.length_filter_le _ _) hb
  have b1 : bopO .add (.lst (iD (lft s))) (.lst [.int (h - 1)]) = some (.tmp (iD (lft s ++ [h - 1]))) := by rw [bop_lst (sL (by simp; omega))]; simp
  by_cases h0 : 0 < h
  · simp [B_behind, e1, e2, h0, nxt, b1, sL]
  · simp [B_behind, e1, e2, h0, nxt, sL]
theorem can_throw_ok [C_can_throw T] (s : List Int) (hs : stS s) (h : Int) :
    runF T m (k + 4) g_can_throw [.fz (.tup (iD s)), .fz (.int h)] = .ok (.fz (.bl (cnI s h))) [.fz (.tup (iD s)), .fz (.int h)] := by
  refine go_can_throw rfl nofun ?_
  by_cases h0 : h ≤ 60 <;> simp [B_can_throw, check_state_ok, hs, fits_ok, cnI, h0]
theorem can_throw_er [C_can_throw T] (d x : D) (hd : plainR d) (h : stD d = false) :
    runF T m (k + 4) g_can_throw [.fz d, .fz x] = .er (.exc 1 []) [.fz d, .fz x] := by
  refine go_can_throw rfl nofun ?_
  simp [B_can_throw, check_state_ok d hd, h]
theorem next_state_ok [C_next_state T] (s : List Int) (hs : stS s) (h : Int) (hc : cnI s h = true) :
    runF T m (k + 5) g_next_state [.fz (.tup (iD s)), .fz (.int h)] = .ok (.fz (.tup (iD (nxt s h)))) [.fz (.tup (iD s)), .fz (.int h)] := by
  refine go_next_state rfl nofun ?_
  simp [B_next_state, can_throw_ok s hs, hc, behind_ok s h (show s.length ≤ 1000 by have := hs.1; omega)]
theorem next_state_no [C_next_state T] (s : List Int) (hs : stS s) (h : Int) (hc : cnI s h = false) :
    runF T m (k + 5) g_next_state [.fz (.tup (iD s)), .fz (.int h)] = .er (.exc 2 []) [.fz (.tup (iD s)), .fz (.int h)] := by
  refine go_next_state rfl nofun ?_
  simp [B_next_state, can_throw_ok s hs, hc]
theorem next_state_er [C_next_state T] (d x : D) (hd : plainR d) (h : stD d = false) :
    runF T m (k + 5) g_next_state [.fz d, .fz x] = .er (.exc 1 []) [.fz d, .fz x] := by
  refine go_next_state rfl nofun ?_
  simp [B_next_state, can_throw_er d x hd h, truthR]
/-! the law's own step -/
def stpD (s : List Int) (h : Int) : D := if fitI s h = true then .tup (iD (nxt s h)) else .non
theorem law_step_ok [C_law_step T] (s : List Int) (hs : s.Pairwise (· < ·)) (h : Int) (hb : s.length ≤ 1000) :
    runF T m (k + 1) g_law_step [.fz (.tup (iD s)), .fz (.int h)] = .ok (.fz (stpD s h)) [.fz (.tup (iD s)), .fz (.int h)] := by
  refine go_law_step rfl nofun ?_
  obtain ⟨sf, e1, e2⟩ := lc_pure (own := [3]) (turn := lcT (envT T m k) (.var 3) [.cmp .gt (.var 3) (.con (.int 0))] law_step_C1) (s := [.fz (.tup (iD s)), .fz (.int h), .non, .non]) (fun x => match x with | .int i => if 0 < i then [.int (i - 1)] else [] | _ => []) (iD s) rfl (sL (by simp; omega)) fun x hm acc ha => by
    obtain ⟨i, _, rfl⟩ := List.mem_map.mp hm
    by_cases hi : 0 < i <;> simp [lcT, law_step_C1, ha, hi]
  rw [lft_iD] at e1
  have hl : (lft s).length ≤ 1000 := by rw [lft, List.length_map]; exact Nat.le_trans (List.length_filter_le _ _) hb
  have ha : (lft s).length < sizeLine := sLt (by omega)
  by_cases hn : h < 0
  · have : ¬ h = 0 := by omega
    have : ¬ 0 < h := by omega
    simp [B_law_step, stpD, fitI, *]
  · by_cases h0 : h = 0
    · subst h0
      by_cases hz : 0 ∈ s
      · simp [B_law_step, stpD, fitI, hz]
      · have so : sortI (lft s) = lft s := sortI_asc ((lft_pw hs).imp fun h => by omega)
        simp [B_law_step, stpD, fitI, hz, e1, e2, so, nxt]
    · have hp : 0 < h := by omega
      by_cases hz : 0 ∈ s
      · by_cases hh : h ∈ s
        · simp [B_law_step, stpD, fitI, hz, hn, h0, hp, hh]
        · simp [B_law_step, stpD, fitI, hz, hn, h0, hp, hh, e1, e2, ha, nxt]
      · simp [B_law_step, stpD, fitI, hz, hn, h0, hp]
def rf (x : String) : D := .tup [.str (PySem.Str.ofString "refused"), .str (PySem.Str.ofString x)]
def bhD (s : List Int) (h : Int) : D := if cnI s h = true then .tup (iD (nxt s h)) else rf "not there"
theorem law_behind_ok [C_law_behind T] (s : List Int) (hs : stS s) (h : Int) :
    runF T m (k + 2) g_law_behind [.fz (.tup (iD s)), .fz (.int h)] = .ok (.fz (bhD s h)) [.fz (.tup (iD s)), .fz (.int h)] := by
  refine go_law_behind rfl nofun ?_
  have e := law_step_ok (T := T) (m := m) (k := k) s (asc_iff.mp hs.2.2) h (by have := hs.1; omega)
  cases hf : fitI s h with
  | false => simp [B_law_behind, e, stpD, bhD, cnI, hf, sL, rf]
  | true =>
    by_cases h0 : h ≤ 60
    · have : ¬ 60 < h := by omega
      simp [B_law_behind, e, stpD, bhD, cnI, hf, sL, rf, h0, this]
    · have : 60 < h := by omega
      simp [B_law_behind, e, stpD, bhD, cnI, hf, sL, rf, h0, this]
end Z

/-! K22d: rows of throws; what is told -/
namespace Z
open PySem
variable {T : List Fn} {m k : Nat}
/-- throws one behind the other -/
def rb : List Int → List Int → Option (List Int)
  | s, [] => some s
  | s, h :: hs => if cnI s h = true then rb (nxt s h) hs else none
theorem drop_at {hs : List Int} {j : Nat} {h : Int} (e : hs[j]? = some h) : hs.drop j = h :: hs.drop (j + 1) := by
  obtain ⟨h1, h2⟩ := List.getElem?_eq_some_iff.mp e
  rw [← h2]; exact List.drop_eq_getElem_cons h1
def rbR (o : Option (List Int)) (as : List Sl) : CR := match o with
  | some e => .ok (.fz (.tup (iD e))) as
  | none => .er (.exc 2 []) as
theorem row_back_ok [C_row_back T] (s : List Int) (hs : stS s) (xs : List Int) :
    runF T m (k + 6) g_row_back [.fz (.tup (iD s)), .fz (.tup (iD xs))] = rbR (rb s xs) [.fz (.tup (iD s)), .fz (.tup (iD xs))] := by
  refine go_row_back rfl (by cases rb s xs <;> nofun) ?_
  simp [B_row_back, check_state_ok, hs]
  refine wFor (fun j st => ∃ c, stS c ∧ rb s xs = rb c (xs.drop j) ∧ st = [.fz (.tup (iD c)), .fz (.tup (iD xs)), .non]) (by simp) ⟨s, hs, by simp, rfl⟩ ?_ ?_
  · rintro j d _ hd ⟨c, hc, he, rfl⟩ R hR
    obtain ⟨h, hh, rfl⟩ := iD_getS hd
    rw [drop_at hh, rb] at he
    refine ⟨_, by simp; rfl, ?_⟩
    cases hq : cnI c h with
    | true =>
      rw [hq, if_pos rfl] at he
      simp [row_back_L1, next_state_ok c hc h hq]
      exact hR.next (s := [.fz (.tup (iD (nxt c h))), .fz (.tup (iD xs)), .non]) (by simp) ⟨nxt c h, nxt_ok hc hq, he, rfl⟩
    | false =>
      rw [hq, if_neg (by simp)] at he
      simp [row_back_L1, next_state_no c hc h hq]
      refine hR.err ?_
      simp [he, rbR]
  · rintro _ ⟨c, hc, he, rfl⟩
    rw [iD_len, List.drop_length, rb] at he
    simp [he, rbR]
theorem row_back_er [C_row_back T] (d x : D) (hd : plainR d) (h : stD d = false) :
    runF T m (k + 4) g_row_back [.fz d, .fz x] = .er (.exc 1 []) [.fz d, .fz x] := by
  refine go_row_back rfl nofun ?_
  simp [B_row_back, check_state_ok d hd, h]
theorem ground_ok [C_ground T] (b : Nat) (hb : b ≤ 60) : runF T m (k + 2) g_ground [.fz (.int b)] = .ok (.fz (.tup (iD (rg b)))) [.fz (.int b)] := by
  refine go_ground rfl nofun ?_
  have hw : withinD 0 60 (.int b) = true := by simp [withinD]; omega
  simp [B_ground, within_ok _ _ _ (plain_int _), hw, rB_0, rB_nat (show b ≤ 1000000000 by omega), sL, show b ≤ 100000 by omega, rg_iD]
theorem ground_er [C_ground T] (b : Int) (hb : b < 0 ∨ 60 < b) : runF T m (k + 2) g_ground [.fz (.int b)] = .er (.exc 1 []) [.fz (.int b)] := by
  refine go_ground rfl nofun ?_
  have hw : withinD 0 60 (.int b) = false := by simp [withinD]; omega
  simp [B_ground, within_ok _ _ _ (plain_int _), hw]
section
variable [C_law_told_v4 T]
theorem t22_0 (s : List Int) (hs : stS s) (h : Int) : runF T m (k + 5) g_law_told_v4 [.fz (.int 0), .fz (.tup (iD s)), .fz (.int h)] = .ok (.fz (.bl (cnI s h))) [.fz (.int 0), .fz (.tup (iD s)), .fz (.int h)] := by
  refine go_law_told_v4 rfl nofun ?_
  simp [B_law_told_v4, can_throw_ok s hs]
theorem t22_1 (s : List Int) (hs : stS s) (h : Int) : runF T m (k + 6) g_law_told_v4 [.fz (.int 1), .fz (.tup (iD s)), .fz (.int h)] = .ok (.fz (bhD s h)) [.fz (.int 1), .fz (.tup (iD s)), .fz (.int h)] := by
  refine go_law_told_v4 rfl nofun ?_
  cases hc : cnI s h with
  | true => simp [B_law_told_v4, next_state_ok s hs h hc, bhD, hc]
  | false => simp [B_law_told_v4, next_state_no s hs h hc, bhD, hc, sL, rf]
def thD : Option (List Int) → D
  | some e => .tup (iD e)
  | none => rf "not there"
theorem t22_2 (s : List Int) (hs : stS s) (xs : List Int) : runF T m (k + 7) g_law_told_v4 [.fz (.int 2), .fz (.tup (iD s)), .fz (.tup (iD xs))] = .ok (.fz (thD (rb s xs))) [.fz (.int 2), .fz (.tup (iD s)), .fz (.tup (iD xs))] := by
  refine go_law_told_v4 rfl nofun ?_
  have e := row_back_ok (T := T) (m := m) (k := k) s hs xs
  cases hc : rb s xs with
  | some c => rw [hc, rbR] at e; simp [B_law_told_v4, e, thD]
  | none => rw [hc, rbR] at e; simp [B_law_told_v4, e, thD, sL, rf]
theorem t22_3 (x : D) (b : Nat) (hb : b ≤ 60) : runF T m (k + 3) g_law_told_v4 [.fz (.int 3), .fz x, .fz (.int b)] = .ok (.fz (.tup (iD (rg b)))) [.fz (.int 3), .fz x, .fz (.int b)] := by
  refine go_law_told_v4 rfl nofun ?_
  simp [B_law_told_v4, ground_ok b hb]
theorem t22_3e (x : D) (b : Int) (hb : b < 0 ∨ 60 < b) : runF T m (k + 3) g_law_told_v4 [.fz (.int 3), .fz x, .fz (.int b)] = .ok (.fz (rf "not right")) [.fz (.int 3), .fz x, .fz (.int b)] := by
  refine go_law_told_v4 rfl nofun ?_
  simp [B_law_told_v4, ground_er b hb, sL, rf]
theorem t22_e0 (d x : D) (hd : plainR d) (h : stD d = false) : runF T m (k + 6) g_law_told_v4 [.fz (.int 0), .fz d, .fz x] = .ok (.fz (rf "not right")) [.fz (.int 0), .fz d, .fz x] := by
  refine go_law_told_v4 rfl nofun ?_
  simp [B_law_told_v4, can_throw_er d x hd h, sL, rf]
theorem t22_e1 (d x : D) (hd : plainR d) (h : stD d = false) : runF T m (k + 6) g_law_told_v4 [.fz (.int 1), .fz d, .fz x] = .ok (.fz (rf "not right")) [.fz (.int 1), .fz d, .fz x] := by
  refine go_law_told_v4 rfl nofun ?_
  simp [B_law_told_v4, next_state_er d x hd h, sL, rf]
theorem t22_e2 (d x : D) (hd : plainR d) (h : stD d = false) : runF T m (k + 6) g_law_told_v4 [.fz (.int 2), .fz d, .fz x] = .ok (.fz (rf "not right")) [.fz (.int 2), .fz d, .fz x] := by
  refine go_law_told_v4 rfl nofun ?_
  simp [B_law_told_v4, row_back_er d x hd h, sL, rf]
end
theorem rg_nodup (n : Nat) : (rg n).Nodup := by
  rw [rg, List.Nodup, List.pairwise_map]
  exact (List.nodup_range (n := n)).imp fun h e => h (by omega)
theorem law_state_ok [C_law_state T] (ns : List Int) (most balls : Nat) (h1 : most ≤ 61) (h2 : balls ≤ 60) :
    ∃ s ns' : List Int, stS s ∧ runF T m (k + 3) g_law_state [.io (iD ns), .fz (.int most), .fz (.int balls)] = .ok (.fz (.tup (iD s))) [.io (iD ns'), .fz (.int most), .fz (.int balls)] := by
  refine gox_law_state (P := fun r => ∃ s ns' : List Int, stS s ∧ r = .ok (.fz (.tup (iD s))) [.io (iD ns'), .fz (.int most), .fz (.int balls)]) rfl (by rintro _ ⟨_, _, _, rfl⟩; nofun) fun R hR => ?_
  obtain ⟨ms, ns', hp, e⟩ := shuffled_ok (T := T) (m := m) (k := k) ns (rg most) (by simp; omega)
  have f1 : cutI ms none (some (balls : Int)) = ms.take balls := by
    rcases Nat.le_total balls ms.length with h | h
    · exact cutI_take h
    · simp only [cutI, sixD]
      rw [if_neg (by omega)]
      simp [List.take_of_length_le h, Nat.min_eq_right h]
  have hn : (ms.take balls).Nodup := ((hp.nodup_iff.mpr (rg_nodup most)).sublist (List.take_sublist _ _))
  have pm := sortI_perm (ms.take balls)
  have hs : stS (sortI (ms.take balls)) := by
    refine ⟨by rw [pm.length_eq, List.length_take]; omega, fun x hx => ?_, asc_iff.mpr (sorted_lt hn)⟩
    have h3 := hp.mem_iff.mp (List.mem_of_mem_take (pm.mem_iff.mp hx))
    simp only [rg, List.mem_map, List.mem_range] at h3
    obtain ⟨a, ha, rfl⟩ := h3
    omega
  simp [B_law_state, rB_0, rB_nat (show most ≤ 1000000000 by omega), sL, show most ≤ 100000 by omega, rg_iD, e, f1]
  exact hR.ret rfl ⟨_, ns', hs, rfl⟩
/-- what is near a state -/
theorem law_near_ok [C_law_near T] (ns s : List Int) (hs : stS s) :
    ∃ (d : D) (ns' : List Int), plainR d ∧ ∃ p, runF T m (k + 3) g_law_near [.io (iD ns), .fz (.tup (iD s))] = .ok p [.io (iD ns'), .fz (.tup (iD s))] ∧ (p = .fz d ∨ ∃ xs, d = .lst xs ∧ p = .tmp xs) := by
  refine gox_law_near (P := fun r => ∃ (d : D) (ns' : List Int), plainR d ∧ ∃ p, r = .ok p [.io (iD ns'), .fz (.tup (iD s))] ∧ (p = .fz d ∨ ∃ xs, d = .lst xs ∧ p = .tmp xs)) rfl (by rintro _ ⟨_, _, _, _, rfl, _⟩; nofun) fun R hR => ?_
  have t1 := tk_lo (ns := ns) (b := 7) (by omega)
  have t2 := tk_hi (ns := ns) (b := 7) (by omega)
  have hb := hs.1
  have e0 := take_ok (T := T) (m := m) (k := k + 1) ns 7 (by omega)
  generalize tk ns 7 = v at *
  obtain ⟨v1, hv1, p1⟩ := pick_int (T := T) ns.dropLast [60, 61, 59, 99] (by simp)
  obtain ⟨d2, hd2, p2⟩ := pick_any (T := T) ns.dropLast [.int (-1), .int 0, .bl true, .non, .str (PySem.Str.ofString "0")] (by simp)
  obtain ⟨d3, hd3, p3⟩ := pick_any (T := T) ns.dropLast [.non, .int 7, .str (PySem.Str.ofString "01"), .tup (rngD 0 61), .tup (rngD 1 60), .tup (rngD 0 60), .tup [.tup [.int 0]], .emp] (by simp)
  simp [iD_cons] at p1
  by_cases c0 : v = 0
  · simp [B_law_near, e0, c0]
    exact hR.ret rfl ⟨.lst (iD s), _, ⟨rfl, nofun⟩, _, rfl, .inr ⟨_, rfl, rfl⟩⟩
  by_cases c1 : v = 1
  · simp [B_law_near, e0, c1]
    exact hR.ret rfl ⟨_, _, plainR_iD s.reverse, _, rfl, .inl rfl⟩
  by_cases c2 : v = 2
  · have b1 : bopO .add (.lst (iD s)) (.lst (iD (cutI s (some (-1)) none))) = some (.tmp (iD (s ++ cutI s (some (-1)) none))) := by rw [bop_lst (sL (by simp [cutI]; omega))]; simp
    simp [B_law_near, e0, c2, b1]
    exact hR.ret rfl ⟨_, _, plainR_iD _, _, rfl, .inl rfl⟩
  by_cases c3 : v = 3
  · have b1 : bopO .add (.lst (iD s)) (.lst [.int v1]) = some (.tmp (iD (s ++ [v1]))) := by rw [bop_lst (sL (by simp; omega))]; simp
    simp [B_law_near, e0, c3, p1, b1, sL]
    exact hR.ret rfl ⟨_, _, plainR_iD _, _, rfl, .inl rfl⟩
  by_cases c4 : v = 4
  · have b1 : bopO .add (.lst [d2]) (.lst (iD s)) = some (.tmp (d2 :: iD s)) := by rw [bop_lst (sL (by simp; omega))]; rfl
    have hp : plainD d2 = true := by
      simp only [List.mem_cons, List.not_mem_nil, or_false] at hd2
      rcases hd2 with rfl | rfl | rfl | rfl | rfl <;> rfl
    have hf : D.flat d2 = true := by
      simp only [List.mem_cons, List.not_mem_nil, or_false] at hd2
      rcases hd2 with rfl | rfl | rfl | rfl | rfl <;> rfl
    simp [B_law_near, e0, c4, p2, b1, sL, hf]
    refine hR.ret rfl ⟨.tup (d2 :: iD s), _, ⟨rfl, fun xs e x hx => ?_⟩, _, rfl, .inl rfl⟩
    cases e
    rcases List.mem_cons.mp hx with rfl | hx
    · exact hp
    · obtain ⟨i, _, rfl⟩ := List.mem_map.mp hx; rfl
  by_cases c5 : v = 5
  · have hp : plainR d3 := by
      have r : ∀ (i : Int) (n : Nat), plainR (.tup (rngD i n)) := fun i n => ⟨rfl, fun xs e x hx => by
        cases e
        simp only [rngD, List.mem_map] at hx
        obtain ⟨a, _, rfl⟩ := hx
        rfl⟩
      simp only [List.mem_cons, List.not_mem_nil, or_false] at hd3
      rcases hd3 with rfl | rfl | rfl | rfl | rfl | rfl | rfl | rfl
      · exact ⟨rfl, nofun⟩
      · exact ⟨rfl, nofun⟩
      · exact ⟨rfl, nofun⟩
      · exact r _ _
      · exact r _ _
      · exact r _ _
      · exact ⟨rfl, fun xs e x hx => by cases e; simp at hx; subst hx; rfl⟩
      · exact ⟨rfl, nofun⟩
    generalize hr61 : rngD 0 61 = r1 at *
    generalize hr60 : rngD 1 60 = r2 at *
    generalize hr6 : rngD 0 60 = r3 at *
    have l1 : (61 : Int) ≤ (sizeLine : Int) := by have := sL (n := 61) (by omega); omega
    have l2 : (60 : Int) ≤ (sizeLine : Int) := by omega
    simp [B_law_near, e0, c5, p3, sL, rB_0, rB_lit, hr61, hr60, hr6, l1, l2]
    exact hR.ret rfl ⟨d3, _, hp, _, rfl, .inl rfl⟩
  simp [B_law_near, e0, c0, c1, c2, c3, c4, c5]
  exact hR.ret rfl ⟨_, _, plainR_iD _, _, rfl, .inl rfl⟩
end Z

/-! K22e: a drawn row of throws -/
namespace Z
open PySem
variable {T : List Fn} {m k : Nat}
def fr (s : List Int) : List Int := ((List.range 60).map fun (i : Nat) => 1 + (i : Int)).filter fun h => decide (h ∉ s)
theorem fr_mem {s : List Int} {h : Int} : h ∈ fr s ↔ 1 ≤ h ∧ h ≤ 60 ∧ h ∉ s := by
  simp only [fr, List.mem_filter, List.mem_map, List.mem_range, decide_eq_true_eq]
  constructor
  · rintro ⟨⟨i, h1, rfl⟩, h2⟩; exact ⟨by omega, by omega, h2⟩
  · rintro ⟨h1, h2, h3⟩; exact ⟨⟨(h - 1).toNat, by omega, by omega⟩, h3⟩
theorem fr_cons {s : List Int} (hs : stS s) (h0 : (0 : Int) ∈ s) : fr s ≠ [] := by
  intro e
  have sub : ∀ x ∈ rg 61, x ∈ s := by
    intro x hx
    simp only [rg, List.mem_map, List.mem_range] at hx
    obtain ⟨a, ha, rfl⟩ := hx
    by_cases ha0 : a = 0
    · subst ha0; exact h0
    · refine Decidable.byContradiction fun hn => ?_
      have : (a : Int) ∈ fr s := fr_mem.mpr ⟨by omega, by omega, hn⟩
      rw [e] at this; cases this
  have hl := hs.1
  have p := perm_of_nodup (rg 61) s (rg_nodup 61) sub (by simp; omega)
  have := p.length_eq
  simp at this; omega
theorem rb_app : ∀ (xs : List Int) (s : List Int) (h : Int), rb s (xs ++ [h]) = (rb s xs).bind fun c => if cnI c h = true then some (nxt c h) else none
  | [], s, h => by simp [rb]
  | x :: xs, s, h => by
    simp only [List.cons_append, rb]
    split
    · exact rb_app xs _ h
    · rfl
theorem sub_end (xs : List D) (d : D) : subD (.lst (xs ++ [d])) (.int (-1)) = some d := by
  simp only [subD, ixD]
  rw [if_neg (by omega), if_pos (by simp; omega)]
  have e : (-1 + ((xs ++ [d]).length : Int)).toNat = xs.length := by simp; omega
  rw [Option.bind_some, e]
  simp
theorem law_run_ok [C_law_run T] (ns s : List Int) (hs : stS s) :
    ∃ run c ns' : List Int, run.length ≤ 60 ∧ stS c ∧ rb s run = some c ∧ runF T m (k + 3) g_law_run [.io (iD ns), .fz (.tup (iD s))] = .ok (.fz (.tup [.lst (iD run), .tup (iD c)])) [.io (iD ns'), .fz (.tup (iD s))] := by
  refine gox_law_run (P := fun r => ∃ run c ns' : List Int, run.length ≤ 60 ∧ stS c ∧ rb s run = some c ∧ r = .ok (.fz (.tup [.lst (iD run), .tup (iD c)])) [.io (iD ns'), .fz (.tup (iD s))]) rfl (by rintro _ ⟨_, _, _, _, _, _, rfl⟩; nofun) fun R hR => ?_
  obtain ⟨v, hv, e0⟩ := pick_int (T := T) ns [0, 1, 3, 12, 60] (by simp)
  simp [iD_cons] at e0
  obtain ⟨n, rfl, hn⟩ : ∃ n : Nat, v = n ∧ n ≤ 60 := by
    have : 0 ≤ v ∧ v ≤ 60 := by simp at hv; omega
    exact ⟨v.toNat, by omega, by omega⟩
  simp [B_law_run, e0, sL, rB_0, rB_nat (show n ≤ 1000000000 by omega)]
  refine wFor (fun j st => ∃ ns' found c, found.length = j ∧ stS c ∧ rb s found = some c ∧ st = [.io (iD ns'), .fz (.tup (iD c)), .lst (iD found), .non, .non, .non]) (by simp) ⟨ns.dropLast, [], s, rfl, hs, rfl, rfl⟩ ?_ ?_
  · rintro j d _ hd ⟨ns', found, c, hf, hc, hb, rfl⟩ R2 hR2
    obtain ⟨hj, rfl⟩ := rngD_get hd
    have hfl : found.length < sizeLine := sLt (by omega)
    refine ⟨_, by simp; rfl, ?_⟩
    have go : ∀ (f : List Int), f ≠ [] → f.length ≤ 60 → (∀ h ∈ f, cnI c h = true) → ∃ (h : Int) (ns2 : List Int), cnI c h = true ∧ ∃ a r, f = a :: r ∧ bopO .mul (.lst (iD (cutI f none (some 1)))) (.int 9) = some (.tmp (iD (List.replicate 9 a))) ∧ bopO .add (.lst (iD f)) (.lst (iD (List.replicate 9 a))) = some (.tmp (iD (f ++ List.replicate 9 a))) ∧
        ∀ m k, runF T m (k + 2) g_law_pick [.io (iD ns'), .fz (.lst (iD (f ++ List.replicate 9 a)))] = .ok (.fz (.int h)) [.io (iD ns2), .fz (.lst (iD (f ++ List.replicate 9 a)))] := by
      intro f h1 h2 h3
      obtain ⟨a, r, rfl⟩ := List.exists_cons_of_ne_nil h1
      obtain ⟨h, hh, e⟩ := pick_int (T := T) ns' ((a :: r) ++ List.replicate 9 a) (by simp)
      have ht : cutI (a :: r) none (some 1) = [a] := by rw [show (1 : Int) = ((1 : Nat) : Int) from rfl, cutI_take (by simp)]; rfl
      refine ⟨h, _, ?_, a, r, rfl, ?_, ?_, e⟩
      · rcases List.mem_append.mp hh with hh | hh
        · exact h3 h hh
        · rw [List.eq_of_mem_replicate hh]; exact h3 a (by simp)
      · rw [ht, show (9 : Int) = ((9 : Nat) : Int) from rfl, bop_mul_lst (by omega) (sL (by simp))]
        rfl
      · rw [bop_lst (sL (by simp at h2 ⊢; omega)), iD_append]
    by_cases h0 : (0 : Int) ∈ c
    · obtain ⟨sf, a1, a2⟩ := lc_pure (own := [5]) (turn := lcT (envT T m (k + 2)) (.var 5) [.cmp .nin (.var 5) (.var 1)] law_run_C1) (s := [.io (iD ns'), .fz (.tup (iD c)), .lst (iD found), .fz (.int j), .non, .non]) (fun x => match x with | .int i => if i ∈ c then [] else [.int i] | _ => []) (rngD 1 60) rfl (sL (by simp)) fun x hm acc ha => by
        obtain ⟨i, hi⟩ := List.mem_iff_getElem?.mp hm
        obtain ⟨hi, rfl⟩ := rngD_get hi
        by_cases hq : (1 + (i : Int)) ∈ c <;> simp [lcT, law_run_C1, ha, hq]
      have ea : (rngD 1 60).flatMap (fun x => match x with | .int i => if i ∈ c then [] else [D.int i] | _ => []) = iD (fr c) := by
        simp only [rngD, fr, iD, List.flatMap_map]
        generalize List.range 60 = l
        induction l with
        | nil => rfl
        | cons x l ih =>
          rw [List.flatMap_cons, ih, List.map_cons]
          by_cases hq : (1 + (x : Int)) ∈ c <;> simp [hq]
      rw [ea] at a1
      have fl : (fr c).length ≤ 60 := Nat.le_trans (List.length_filter_le _ _) (by simp)
      obtain ⟨h, ns2, hc2, a, r, ef, b1, b2, p1⟩ := go (fr c) (fr_cons hc h0) fl fun h hh => by
        obtain ⟨g1, g2, g3⟩ := fr_mem.mp hh
        have : ¬ h = 0 := by omega
        have : 0 < h := by omega
        simp [cnI, fitI, *]
      generalize List.replicate 9 a = r9 at *
      have st := law_step_ok (T := T) (m := m) (k := k + 1) c (asc_iff.mp hc.2.2) h (by have := hc.1; omega)
      have hfit : fitI c h = true := by simp only [cnI, Bool.and_eq_true] at hc2; exact hc2.2
      rw [stpD, if_pos hfit] at st
      have se := sub_end (iD found) (.int h)
      rw [iD_append1] at se
      simp [law_run_L1, h0, a1, a2, b1, b2, p1, hfl, se, st, rB_lit]
      exact hR2.next (s := [.io (iD ns2), .fz (.tup (iD (nxt c h))), .lst (iD (found ++ [h])), .non, .non, .non]) (by simp) ⟨ns2, found ++ [h], nxt c h, by simp [hf], nxt_ok hc hc2, by rw [rb_app, hb]; simp [hc2], rfl⟩
    · obtain ⟨h, ns2, hc2, a, r, ef, b1, b2, p1⟩ := go [0] (by simp) (by simp) fun h hh => by
        simp at hh; subst hh
        simp [cnI, fitI, h0]
      generalize List.replicate 9 a = r9 at *
      have st := law_step_ok (T := T) (m := m) (k := k + 1) c (asc_iff.mp hc.2.2) h (by have := hc.1; omega)
      have hfit : fitI c h = true := by simp only [cnI, Bool.and_eq_true] at hc2; exact hc2.2
      rw [stpD, if_pos hfit] at st
      have se := sub_end (iD found) (.int h)
      rw [iD_append1] at se
      have e0 : ([.int 0] : List D) = iD [0] := rfl
      simp only [List.cons_append, List.nil_append] at p1 b2
      simp [law_run_L1, h0, sL, e0, b1, b2, p1, hfl, se, st]
      exact hR2.next (s := [.io (iD ns2), .fz (.tup (iD (nxt c h))), .lst (iD (found ++ [h])), .non, .non, .non]) (by simp) ⟨ns2, found ++ [h], nxt c h, by simp [hf], nxt_ok hc hc2, by rw [rb_app, hb]; simp [hc2], rfl⟩
  · rintro _ ⟨ns', found, c, hf, hc, hb, rfl⟩
    simp at hf
    simp [sL]
    exact hR.ret rfl ⟨found, c, ns', by omega, hc, hb, rfl⟩
end Z

/-! K25a: ways, in plain mathematics -/
namespace Z
open PySem
/-- ascending, no negative ones, n of them -/
def stB (n : Nat) (s : List Int) : Prop := s.Pairwise (· < ·) ∧ (∀ x ∈ s, 0 ≤ x) ∧ s.length = n
theorem stB_of {s : List Int} (h : stS s) : stB s.length s := ⟨asc_iff.mp h.2.2, fun x hx => (h.2.1 x hx).1, rfl⟩
theorem nxt_mem {s : List Int} {h x : Int} : x ∈ nxt s h ↔ (x + 1 ∈ s ∧ 0 ≤ x) ∨ (0 < h ∧ x = h - 1) := by
  unfold nxt
  by_cases h0 : 0 < h
  · rw [if_pos h0, (sortI_perm _).mem_iff, List.mem_append, lft_mem]
    simp [h0]
  · rw [if_neg h0, lft_mem]
    simp [h0]
theorem nodup_len_eq {l r : List Int} (hl : l.Nodup) (hr : r.Nodup) (h : ∀ x, x ∈ l ↔ x ∈ r) : l.length = r.length := by
  refine ((List.perm_ext_iff_of_nodup hl hr).mpr fun x => h x).length_eq
theorem asc_ext {l r : List Int} (hl : l.Pairwise (· < ·)) (hr : r.Pairwise (· < ·)) (h : ∀ x, x ∈ l ↔ x ∈ r) : l = r :=
  ((List.perm_ext_iff_of_nodup (asc_nodup hl) (asc_nodup hr)).mpr fun x => h x).eq_of_pairwise (fun a b _ _ h1 h2 => by omega) hl hr
theorem nxt_stB {n : Nat} {s : List Int} {h : Int} (hs : stB n s) (hf : fitI s h = true) : stB n (nxt s h) := by
  obtain ⟨h1, h2, h3⟩ := hs
  have hl := lft_pw h1
  unfold fitI at hf
  unfold nxt
  by_cases h0 : 0 < h
  · rw [if_neg (by omega)] at hf
    simp only [Bool.and_eq_true, decide_eq_true_eq, Bool.not_eq_true', decide_eq_false_iff_not] at hf
    obtain ⟨_, h6, h7⟩ := hf
    rw [if_pos h0]
    have hn : (lft s ++ [h - 1]).Nodup := by
      rw [List.nodup_append]
      refine ⟨asc_nodup hl, by simp, fun a ha b hb e => ?_⟩
      simp at hb
      subst e hb
      exact h7 (by have := (lft_mem.mp ha).1; rwa [show h - 1 + 1 = h by omega] at this)
    have p := sortI_perm (lft s ++ [h - 1])
    refine ⟨sorted_lt hn, fun x hx => ?_, ?_⟩
    · rcases List.mem_append.mp (p.mem_iff.mp hx) with hx | hx
      · exact (lft_mem.mp hx).2
      · simp at hx; omega
    · rw [p.length_eq, List.length_append, lft, List.length_map]
      have e : (s.filter fun x => decide (0 < x)).length + 1 = s.length := by
        have e2 : ((0 : Int) :: s.filter fun x => decide (0 < x)).length = s.length := by
          refine nodup_len_eq (List.nodup_cons.mpr ⟨by simp, (asc_nodup h1).filter _⟩) (asc_nodup h1) fun x => ?_
          simp only [List.mem_cons, List.mem_filter, decide_eq_true_eq]
          constructor
          · rintro (rfl | ⟨h, _⟩)
            · exact h6
            · exact h
          · intro hx
            have := h2 x hx
            by_cases hx0 : x = 0
            · exact .inl hx0
            · exact .inr ⟨hx, by omega⟩
        simpa using e2
      simp; omega
  · rw [if_neg h0]
    have hz : h = 0 ∧ (0 : Int) ∉ s := by
      by_cases hh : h = 0
      · rw [if_pos hh] at hf; simp at hf; exact ⟨hh, hf⟩
      · rw [if_neg hh] at hf
        simp [h0] at hf
    refine ⟨hl, fun x hx => (lft_mem.mp hx).2, ?_⟩
    rw [lft, List.length_map, ← h3]
    congr 1
    rw [List.filter_eq_self]
    intro x hx
    have := h2 x hx
    have : x ≠ 0 := fun e => hz.2 (e ▸ hx)
    rw [decide_eq_true_eq]; omega
/-- throws, one behind the other -/
def en : List Int → List Int → Option (List Int)
  | s, [] => some s
  | s, h :: hs => if fitI s h = true then en (nxt s h) hs else none
def enD : Option (List Int) → D
  | some s => .tup (iD s)
  | none => .non
theorem en_app : ∀ (xs ys s : List Int), en s (xs ++ ys) = (en s xs).bind fun c => en c ys
  | [], ys, s => by simp [en]
  | x :: xs, ys, s => by
    simp only [List.cons_append, en]
    split
    · exact en_app xs ys _
    · rfl
/-- each ball that is late is one of the other's -/
def dr (s o : List Int) (L : Int) : Bool := s.all fun x => !decide (L ≤ x) || decide (x - L ∈ o)
theorem dr_iff {s o : List Int} {L : Int} : dr s o L = true ↔ ∀ x ∈ s, L ≤ x → x - L ∈ o := by
  simp only [dr, List.all_eq_true, Bool.or_eq_true, Bool.not_eq_true', decide_eq_false_iff_not, decide_eq_true_eq]
  exact ⟨fun h x hx hl => (h x hx).resolve_left (fun n => n hl), fun h x hx => by
    by_cases hl : L ≤ x
    · exact .inr (h x hx hl)
    · exact .inl hl⟩
theorem dr_61 {s o : List Int} (hs : ∀ x ∈ s, x ≤ 60) : dr s o 61 = true := dr_iff.mpr fun x hx hl => by have := hs x hx; omega
theorem dr_self {s : List Int} : dr s s 0 = true := dr_iff.mpr fun x hx _ => by simpa using hx
/-- the landings that are open -/
def opn (s o : List Int) (L : Int) : List Int := (o.filter fun x => decide (x + L ∉ s)).map (· + L)
theorem opn_mem {s o : List Int} {L x : Int} : x ∈ opn s o L ↔ x - L ∈ o ∧ x ∉ s := by
  simp only [opn, List.mem_map, List.mem_filter, decide_eq_true_eq]
  constructor
  · rintro ⟨y, ⟨h1, h2⟩, rfl⟩
    exact ⟨by rwa [show y + L - L = y by omega], h2⟩
  · rintro ⟨h1, h2⟩
    exact ⟨x - L, ⟨h1, by rwa [show x - L + L = x by omega]⟩, by omega⟩
theorem map_add_nodup {l : List Int} (L : Int) (h : l.Nodup) : (l.map (· + L)).Nodup := by
  rw [List.Nodup, List.pairwise_map]
  exact List.Pairwise.imp (fun h e => h (by omega)) h
theorem opn_nodup {s o : List Int} (L : Int) (h : o.Nodup) : (opn s o L).Nodup := map_add_nodup L (h.filter _)
theorem filter_len {α : Type} (p : α → Bool) : ∀ l : List α, (l.filter p).length + (l.filter fun x => !p x).length = l.length
  | [] => rfl
  | x :: l => by
    have := filter_len p l
    cases h : p x <;> simp [h] <;> omega
/-- beats with a throw that are to come -/
def cnt (s : List Int) (b L : Nat) : Nat := (s.filter fun x => decide ((b : Int) ≤ x) && decide (x < L)).length
theorem opn_count {n : Nat} {s o : List Int} {L : Nat} (hs : stB n s) (ho : stB n o) (hd : dr s o L = true) : (opn s o L).length = cnt s 0 L := by
  have h1 := filter_len (fun x => decide (x + (L : Int) ∉ s)) o
  have h2 := filter_len (fun x => decide (x < (L : Int))) s
  have h3 : (opn s o L).length = (o.filter fun x => decide (x + (L : Int) ∉ s)).length := by rw [opn, List.length_map]
  have h4 : cnt s 0 L = (s.filter fun x => decide (x < (L : Int))).length := by
    unfold cnt
    congr 1
    refine List.filter_congr fun x hx => ?_
    have := hs.2.1 x hx
    rw [decide_eq_true (by omega), Bool.true_and]
  have h5 : (o.filter fun x => !decide (x + (L : Int) ∉ s)).length = (s.filter fun x => !decide (x < (L : Int))).length := by
    rw [← List.length_map (f := (· + (L : Int)))]
    refine nodup_len_eq (map_add_nodup _ ((asc_nodup ho.1).filter _)) ((asc_nodup hs.1).filter _) fun x => ?_
    simp only [List.mem_map, List.mem_filter, Bool.not_eq_true', decide_eq_false_iff_not, Decidable.not_not]
    constructor
    · rintro ⟨y, ⟨g1, g2⟩, rfl⟩
      have := ho.2.1 y g1
      exact ⟨g2, by omega⟩
    · rintro ⟨g1, g2⟩
      exact ⟨x - L, ⟨dr_iff.mp hd x g1 (by omega), by rwa [show x - (L : Int) + L = x by omega]⟩, by omega⟩
  have h6 := hs.2.2
  have h7 := ho.2.2
  omega
theorem cnt_in {s : List Int} {b L : Nat} (hs : s.Nodup) (hb : b < L) (h : (b : Int) ∈ s) : cnt s b L = cnt s (b + 1) L + 1 := by
  unfold cnt
  have e : (s.filter fun x => decide ((b : Int) ≤ x) && decide (x < L)).length = ((b : Int) :: s.filter fun x => decide (((b + 1 : Nat) : Int) ≤ x) && decide (x < L)).length := by
    refine nodup_len_eq (hs.filter _) (List.nodup_cons.mpr ⟨by simp; omega, hs.filter _⟩) fun x => ?_
    simp only [List.mem_cons, List.mem_filter, Bool.and_eq_true, decide_eq_true_eq]
    constructor
    · rintro ⟨g1, g2, g3⟩
      by_cases e : x = b
      · exact .inl e
      · exact .inr ⟨g1, by omega, g3⟩
    · rintro (rfl | ⟨g1, g2, g3⟩)
      · exact ⟨h, by omega, by omega⟩
      · exact ⟨g1, by omega, g3⟩
  simpa using e
theorem cnt_out {s : List Int} {b L : Nat} (h : (b : Int) ∉ s) : cnt s b L = cnt s (b + 1) L := by
  unfold cnt
  congr 1
  refine List.filter_congr fun x hx => ?_
  have hx : x ≠ b := fun e => h (e ▸ hx)
  have e : decide ((b : Int) ≤ x) = decide (((b + 1 : Nat) : Int) ≤ x) := by rw [decide_eq_decide]; omega
  rw [e]
theorem cnt_end (s : List Int) (L : Nat) : cnt s L L = 0 := by
  unfold cnt
  rw [List.length_eq_zero_iff, List.filter_eq_nil_iff]
  intro x _
  simp
/-- how it stands ahead of beat b: thrown so far hs, open still ps, taken us -/
structure Wy (n : Nat) (s o : List Int) (L b : Nat) (hs ps : List Int) : Prop where
  len : hs.length = b
  ex : ∃ c us, en s hs = some c ∧ stB n c ∧ opn s o L = ps ++ us ∧ ∀ x, 0 ≤ x → (x ∈ c ↔ x + b ∈ s ∨ x + b ∈ us)
  cnt : ps.length = cnt s b L
theorem wy_0 {n : Nat} {s o : List Int} {L : Nat} (hs : stB n s) (ho : stB n o) (hd : dr s o L = true) : Wy n s o L 0 [] (opn s o L) :=
  ⟨rfl, ⟨s, [], rfl, hs, by simp, fun x _ => by simp⟩, opn_count hs ho hd⟩
theorem wy_in {n : Nat} {s o : List Int} {L b : Nat} {hs ps : List Int} (hss : stB n s) (ho : stB n o) (w : Wy n s o L b hs ps) (hb : b < L) (h : (b : Int) ∈ s) :
    ∃ (qs : List Int) (x : Int), ps = qs ++ [x] ∧ Wy n s o L (b + 1) (hs ++ [x - b]) qs := by
  obtain ⟨h1, ⟨c, us, h2, h3, h4, h5⟩, h6⟩ := w
  have hc := cnt_in (asc_nodup hss.1) hb h
  have hne : ps ≠ [] := fun e => by subst e; simp at h6; omega
  obtain ⟨qs, x, rfl⟩ : ∃ qs x, ps = qs ++ [x] := ⟨_, _, (List.dropLast_concat_getLast hne).symm⟩
  have hx : x ∈ opn s o L := by rw [h4]; simp
  have hn : (qs ++ [x] ++ us).Nodup := by rw [← h4]; exact opn_nodup L (asc_nodup ho.1)
  obtain ⟨x1, x2⟩ := opn_mem.mp hx
  have x3 := ho.2.1 _ x1
  have hxu : x ∉ us := fun hu => by
    rw [List.append_assoc, List.nodup_append] at hn
    have := hn.2.1
    simp at this
    exact this.1 hu
  have hf : fitI c (x - b) = true := by
    unfold fitI
    rw [if_neg (by omega)]
    simp only [Bool.and_eq_true, decide_eq_true_eq, Bool.not_eq_true', decide_eq_false_iff_not]
    refine ⟨by omega, (h5 0 (by omega)).mpr (.inl (by simpa using h)), fun hm => ?_⟩
    rcases (h5 (x - b) (by omega)).mp hm with q | q
    · rw [show x - b + b = x by omega] at q; exact x2 q
    · rw [show x - b + b = x by omega] at q; exact hxu q
  refine ⟨qs, x, rfl, by simp [h1], ⟨nxt c (x - b), x :: us, ?_, nxt_stB h3 hf, by rw [h4]; simp, fun y hy => ?_⟩, ?_⟩
  · rw [en_app, h2]
    simp [en, hf]
  · rw [nxt_mem, h5 (y + 1) (by omega)]
    rw [show y + 1 + (b : Int) = y + ((b + 1 : Nat) : Int) by omega, List.mem_cons]
    constructor
    · rintro (⟨q | q, _⟩ | ⟨_, q⟩)
      · exact .inl q
      · exact .inr (.inr q)
      · exact .inr (.inl (by omega))
    · rintro (q | q | q)
      · exact .inl ⟨.inl q, hy⟩
      · exact .inr ⟨by omega, by omega⟩
      · exact .inl ⟨.inr q, hy⟩
  · simp at h6; omega
theorem wy_out {n : Nat} {s o : List Int} {L b : Nat} {hs ps : List Int} (ho : stB n o) (w : Wy n s o L b hs ps) (hb : b < L) (h : (b : Int) ∉ s) : Wy n s o L (b + 1) (hs ++ [0]) ps := by
  obtain ⟨h1, ⟨c, us, h2, h3, h4, h5⟩, h6⟩ := w
  have hc := cnt_out (L := L) h
  have hf : fitI c 0 = true := by
    unfold fitI
    rw [if_pos rfl]
    simp only [Bool.not_eq_true', decide_eq_false_iff_not]
    intro hm
    rcases (h5 0 (by omega)).mp hm with q | q
    · exact h (by simpa using q)
    · have hx : (0 : Int) + b ∈ opn s o L := by rw [h4]; exact List.mem_append_right _ q
      have := ho.2.1 _ (opn_mem.mp hx).1
      omega
  refine ⟨by simp [h1], ⟨nxt c 0, us, ?_, nxt_stB h3 hf, h4, fun y hy => ?_⟩, by omega⟩
  · rw [en_app, h2]
    simp [en, hf]
  · rw [nxt_mem, h5 (y + 1) (by omega)]
    rw [show y + 1 + (b : Int) = y + ((b + 1 : Nat) : Int) by omega]
    constructor
    · rintro (⟨q, _⟩ | ⟨q, _⟩)
      · exact q
      · omega
    · intro q
      exact .inl ⟨q, hy⟩
theorem wy_end {n : Nat} {s o : List Int} {L : Nat} {hs ps : List Int} (ho : stB n o) (hd : dr s o L = true) (w : Wy n s o L L hs ps) : en s hs = some o ∧ hs.length = L := by
  obtain ⟨h1, ⟨c, us, h2, h3, h4, h5⟩, h6⟩ := w
  refine ⟨?_, h1⟩
  rw [cnt_end] at h6
  have hp : ps = [] := List.eq_nil_of_length_eq_zero h6
  subst hp
  rw [List.nil_append] at h4
  rw [h2]
  congr 1
  refine asc_ext h3.1 ho.1 fun x => ?_
  constructor
  · intro hx
    have h0 := h3.2.1 x hx
    rcases (h5 x h0).mp hx with q | q
    · have := dr_iff.mp hd _ q (by omega)
      rwa [show x + (L : Int) - L = x by omega] at this
    · rw [← h4, opn_mem] at q
      have := q.1
      rwa [show x + (L : Int) - L = x by omega] at this
  · intro hx
    have h0 := ho.2.1 x hx
    rw [h5 x h0]
    by_cases q : x + (L : Int) ∈ s
    · exact .inl q
    · right
      rw [← h4, opn_mem]
      exact ⟨by rwa [show x + (L : Int) - L = x by omega], q⟩
end Z

/-! K25b: the functions of ways -/
namespace Z
open PySem
variable {T : List Fn} {m k : Nat}
theorem eq_enD (r : Option (List Int)) (o : List Int) : cop .eq (enD r) (.tup (iD o)) = some (decide (r = some o)) := by
  cases r with
  | none =>
    show (D.non).eq (.tup (iD o)) = _
    have h : D.non.ok 60 = true := rfl
    simp only [D.eq, ok_tI, h, Bool.and_self, if_true]; rfl
  | some s =>
    show cop .eq (.tup (iD s)) (.tup (iD o)) = _
    rw [eq_tI]; simp
theorem ne_enD (r : Option (List Int)) (o : List Int) : cop .ne (enD r) (.tup (iD o)) = some (!decide (r = some o)) := by
  cases r with
  | none =>
    show ((D.non).eq (.tup (iD o))).map (!·) = _
    have h : D.non.ok 60 = true := rfl
    simp only [D.eq, ok_tI, h, Bool.and_self, if_true]; rfl
  | some s =>
    show cop .ne (.tup (iD s)) (.tup (iD o)) = _
    rw [ne_tI]; simp
theorem flat_enD (r : Option (List Int)) : D.flat (enD r) = true := by cases r <;> simp [enD, D.flat]
theorem thrown_ok [C_thrown T] {n : Nat} (s : List Int) (hs : stB n s) (hn : n ≤ 1000) (xs : List Int) :
    runF T m (k + 2) g_thrown [.fz (.tup (iD s)), .fz (.tup (iD xs))] = .ok (.fz (enD (en s xs))) [.fz (.tup (iD s)), .fz (.tup (iD xs))] := by
  refine go_thrown rfl nofun ?_
  simp [B_thrown]
  refine wFor (fun j st => ∃ c, stB n c ∧ en s xs = en c (xs.drop j) ∧ st = [.fz (.tup (iD c)), .fz (.tup (iD xs)), .non]) (by simp) ⟨s, hs, by simp, rfl⟩ ?_ ?_
  · rintro j d _ hd ⟨c, hc, he, rfl⟩ R hR
    obtain ⟨h, hh, rfl⟩ := iD_getS hd
    have hdr : xs.drop j = h :: xs.drop (j + 1) := by
      obtain ⟨h1, h2⟩ := List.getElem?_eq_some_iff.mp hh
      rw [← h2]; exact List.drop_eq_getElem_cons h1
    rw [hdr, en] at he
    refine ⟨_, by simp; rfl, ?_⟩
    cases hq : fitI c h with
    | true =>
      rw [hq, if_pos rfl] at he
      simp [thrown_L1, fits_ok, hq, behind_ok c h (show c.length ≤ 1000 by rw [hc.2.2]; exact hn)]
      exact hR.next (s := [.fz (.tup (iD (nxt c h))), .fz (.tup (iD xs)), .non]) (by simp) ⟨nxt c h, nxt_stB hc hq, he, rfl⟩
    | false =>
      rw [hq, if_neg (by simp)] at he
      simp [thrown_L1, fits_ok, hq]
      refine hR.ret ?_
      simp [he, enD]
  · rintro _ ⟨c, hc, he, rfl⟩
    rw [iD_len, List.drop_length, en] at he
    simp [he, enD]
theorem check_both_ok [C_check_both T] (s o : List Int) (hs : stS s) (ho : stS o) (hl : s.length = o.length) :
    runF T m (k + 4) g_check_both [.fz (.tup (iD s)), .fz (.tup (iD o))] = .ok (.fz .non) [.fz (.tup (iD s)), .fz (.tup (iD o))] := by
  refine go_check_both rfl nofun ?_
  have e : cop .ne (.int (o.length : Int)) (.int (o.length : Int)) = some false := by simp
  simp [B_check_both, check_state_ok, hs, ho, hl]
theorem all_dr (s o : List Int) (L : Int) : (boolsD ((iD s).flatMap (fun x => match x with | .int i => if L ≤ i then [D.bl (decide (i - L ∈ o))] else [] | _ => []))).map (fun bs => bs.all id) = some (dr s o L) := by
  induction s with
  | nil => rfl
  | cons a s ih =>
    simp only [iD_cons, List.flatMap_cons]
    rw [Option.map_eq_some_iff] at ih ⊢
    obtain ⟨bs, h1, h2⟩ := ih
    have e : dr (a :: s) o L = ((!decide (L ≤ a) || decide (a - L ∈ o)) && dr s o L) := rfl
    by_cases h : L ≤ a
    · refine ⟨decide (a - L ∈ o) :: bs, by simp [h, boolsD, h1], ?_⟩
      rw [e, ← h2]; simp [h]
    · refine ⟨bs, by simp [h, h1], ?_⟩
      rw [e, h2]; simp [h]
theorem does_reach_ok [C_does_reach T] (s o : List Int) (L : Int) (hb : s.length ≤ 1000) :
    runF T m (k + 1) g_does_reach [.fz (.tup (iD s)), .fz (.tup (iD o)), .fz (.int L)] = .ok (.fz (.bl (dr s o L))) [.fz (.tup (iD s)), .fz (.tup (iD o)), .fz (.int L)] := by
  refine go_does_reach rfl nofun ?_
  obtain ⟨sf, e1, e2⟩ := lc_pure (own := [3]) (turn := lcT (envT T m k) (.var 3) [.cmp .ge (.var 3) (.var 2)] does_reach_C1) (s := [.fz (.tup (iD s)), .fz (.tup (iD o)), .fz (.int L), .non]) (fun x => match x with | .int i => if L ≤ i then [D.bl (decide (i - L ∈ o))] else [] | _ => []) (iD s) rfl (sL (by simp; omega)) fun x hm acc ha => by
    obtain ⟨i, _, rfl⟩ := List.mem_map.mp hm
    by_cases hi : L ≤ i <;> simp [lcT, does_reach_C1, ha, hi]
  have e3 := all_dr s o L
  obtain ⟨bs, h1, h2⟩ := Option.map_eq_some_iff.mp e3
  generalize (iD s).flatMap (fun x => match x with | .int i => if L ≤ i then [D.bl (decide (i - L ∈ o))] else [] | _ => []) = r at *
  have e4 : blD .all [.lst r] = some (.fz (.bl (dr s o L))) := by simp only [blD, h1, Option.map_some, h2]
  simp [-bl_all, B_does_reach, e1, e2, e4]
theorem law_fits_ok [C_law_fits T] (s o : List Int) (L : Int) (hb : s.length ≤ 1000) :
    runF T m (k + 1) g_law_fits [.fz (.tup (iD s)), .fz (.tup (iD o)), .fz (.int L)] = .ok (.fz (.bl (dr s o L))) [.fz (.tup (iD s)), .fz (.tup (iD o)), .fz (.int L)] := by
  refine go_law_fits rfl nofun ?_
  obtain ⟨sf, e1, e2⟩ := lc_pure (own := [3]) (turn := lcT (envT T m k) (.var 3) [.cmp .ge (.var 3) (.var 2)] law_fits_C1) (s := [.fz (.tup (iD s)), .fz (.tup (iD o)), .fz (.int L), .non]) (fun x => match x with | .int i => if L ≤ i then [D.bl (decide (i - L ∈ o))] else [] | _ => []) (iD s) rfl (sL (by simp; omega)) fun x hm acc ha => by
    obtain ⟨i, _, rfl⟩ := List.mem_map.mp hm
    by_cases hi : L ≤ i <;> simp [lcT, law_fits_C1, ha, hi]
  have e3 := all_dr s o L
  obtain ⟨bs, h1, h2⟩ := Option.map_eq_some_iff.mp e3
  generalize (iD s).flatMap (fun x => match x with | .int i => if L ≤ i then [D.bl (decide (i - L ∈ o))] else [] | _ => []) = r at *
  have e4 : blD .all [.lst r] = some (.fz (.bl (dr s o L))) := by simp only [blD, h1, Option.map_some, h2]
  simp [-bl_all, B_law_fits, e1, e2, e4]
theorem least_of (p : Nat → Bool) : ∀ n : Nat, p n = true → ∃ g, g ≤ n ∧ p g = true ∧ ∀ g', g' < g → p g' = false
  | 0, h => ⟨0, by omega, h, fun g' hg => by omega⟩
  | n + 1, h => by
    by_cases h0 : ∃ g, g ≤ n ∧ p g = true
    · obtain ⟨g, hg, hp⟩ := h0
      have : ∀ (n : Nat), p n = true → n ≤ g → ∃ g, g ≤ n ∧ p g = true ∧ ∀ g', g' < g → p g' = false := fun q hq hqg => least_of p q hq
      by_cases hgn : g ≤ n
      · obtain ⟨g2, a, b, c⟩ := least_of p g hp
        exact ⟨g2, by omega, b, c⟩
      · omega
    · refine ⟨n + 1, Nat.le_refl _, h, fun g' hg => ?_⟩
      cases hq : p g' with
      | false => rfl
      | true => exact absurd ⟨g', by omega, hq⟩ h0
termination_by n => n
theorem gap_of_ok [C_gap_of T] (s o : List Int) (hs : stS s) (ho : stS o) (hl : s.length = o.length) (g : Nat) (hg : g ≤ 61) (h1 : dr s o g = true) (h2 : ∀ g' : Nat, g' < g → dr s o g' = false) :
    runF T (m + 100) (k + 5) g_gap_of [.fz (.tup (iD s)), .fz (.tup (iD o))] = .ok (.fz (.int g)) [.fz (.tup (iD s)), .fz (.tup (iD o))] := by
  refine go_gap_of rfl nofun ?_
  have hb : s.length ≤ 1000 := by have := hs.1; omega
  simp [B_gap_of, check_both_ok s o hs ho hl]
  refine wWhl (fun k st => ∃ L : Nat, L ≤ g ∧ k = g - L ∧ st = [.fz (.tup (iD s)), .fz (.tup (iD o)), .fz (.int L)]) g (by omega) ⟨0, by omega, by omega, rfl⟩ ?_
  rintro k' _ ⟨L, hL, rfl, rfl⟩
  by_cases e : L = g
  · subst e
    refine .inl ⟨_, by simp [does_reach_ok s o L hb, h1]; rfl, ?_⟩
    show Wp (evB (m + 100) (envT T (m + 100) (k + 4)) [IS.ret (IE.var 2)] _) _
    simp
  · have h3 := h2 L (by omega)
    refine .inr ⟨_, by simp [does_reach_ok s o L hb, h3]; rfl, by omega, fun R hR => ?_⟩
    simp [gap_of_L1]
    exact hR.next (s := [.fz (.tup (iD s)), .fz (.tup (iD o)), .fz (.int ((L + 1 : Nat) : Int))]) (by simp) ⟨g - (L + 1), by omega, L + 1, by omega, rfl, rfl⟩
end Z

/-! K25c: ways that are told and taken -/
namespace Z
open PySem
variable {T : List Fn} {m k : Nat}
theorem pop_end (qs : List Int) (x : Int) : mtO .pop (iD (qs ++ [x])) [] = some (.int x, iD qs) := by
  rw [mt_pop_iD (by simp)]; simp
theorem opn_iD (s o : List Int) (L : Int) : (iD o).flatMap (fun x => match x with | .int i => if i + L ∈ s then [] else [D.int (i + L)] | _ => []) = iD (opn s o L) := by
  induction o with
  | nil => rfl
  | cons a o ih =>
    rw [iD_cons, List.flatMap_cons, ih]
    by_cases h : a + L ∈ s <;> simp [opn, h, iD]
theorem way_of_ok [C_way_of T] (s o : List Int) (hs : stS s) (ho : stS o) (hl : s.length = o.length) (L : Nat) (hL : L ≤ 1000) (hd : dr s o L = true) :
    ∃ hs' : List Int, en s hs' = some o ∧ hs'.length = L ∧ runF T m (k + 5) g_way_of [.fz (.tup (iD s)), .fz (.tup (iD o)), .fz (.int L)] = .ok (.fz (.tup (iD hs'))) [.fz (.tup (iD s)), .fz (.tup (iD o)), .fz (.int L)] := by
  refine gox_way_of (P := fun r => ∃ hs' : List Int, en s hs' = some o ∧ hs'.length = L ∧ r = .ok (.fz (.tup (iD hs'))) [.fz (.tup (iD s)), .fz (.tup (iD o)), .fz (.int L)]) rfl (by rintro _ ⟨_, _, _, rfl⟩; nofun) fun R hR => ?_
  have hb : s.length ≤ 1000 := by have := hs.1; omega
  have hob : o.length ≤ 1000 := by omega
  have bs := stB_of hs
  have bo := stB_of ho
  rw [← hl] at bo
  obtain ⟨sf, e1, e2⟩ := lc_pure (own := [6]) (turn := lcT (envT T m (k + 4)) (.var 6) [.cmp .nin (.bin .add (.var 6) (.var 2)) (.var 0)] way_of_C1) (s := [.fz (.tup (iD s)), .fz (.tup (iD o)), .fz (.int L), .non, .non, .non, .non]) (fun x => match x with | .int i => if i + L ∈ s then [] else [D.int (i + L)] | _ => []) (iD o) rfl (sL (by simp; omega)) fun x hm acc ha => by
    obtain ⟨i, _, rfl⟩ := List.mem_map.mp hm
    by_cases hi : i + L ∈ s <;> simp [lcT, way_of_C1, ha, hi]
  rw [opn_iD] at e1
  simp [B_way_of, check_both_ok s o hs ho hl, does_reach_ok s o L hb, hd, e1, e2, sL, rB_0, rB_nat (show L ≤ 1000000000 by omega), show ¬ (L : Int) < 0 by omega]
  refine wFor (fun j st => ∃ hs' ps, Wy s.length s o L j hs' ps ∧ st = [.fz (.tup (iD s)), .fz (.tup (iD o)), .fz (.int L), .lst (iD ps), .lst (iD hs'), .non, .non]) (by simp) ⟨[], opn s o L, wy_0 bs bo hd, rfl⟩ ?_ ?_
  · rintro j d _ hd' ⟨hs', ps, hw, rfl⟩ R2 hR2
    obtain ⟨hj, rfl⟩ := rngD_get hd'
    have ha : hs'.length < sizeLine := sLt (by rw [hw.len]; omega)
    refine ⟨_, by simp; rfl, ?_⟩
    by_cases hm : (j : Int) ∈ s
    · obtain ⟨qs, x, rfl, hw2⟩ := wy_in bs bo hw hj hm
      simp [way_of_L1, hm, pop_end, ha]
      exact hR2.next (s := [.fz (.tup (iD s)), .fz (.tup (iD o)), .fz (.int L), .lst (iD qs), .lst (iD (hs' ++ [x - j])), .non, .non]) (by simp) ⟨_, _, hw2, rfl⟩
    · have hw2 := wy_out bo hw hj hm
      simp [way_of_L1, hm, ha]
      exact hR2.next (s := [.fz (.tup (iD s)), .fz (.tup (iD o)), .fz (.int L), .lst (iD ps), .lst (iD (hs' ++ [0])), .non, .non]) (by simp) ⟨_, _, hw2, rfl⟩
  · rintro _ ⟨hs', ps, hw, rfl⟩
    rw [rngD_len] at hw
    obtain ⟨h1, h2⟩ := wy_end bo hd hw
    simp
    exact hR.ret rfl ⟨hs', h1, h2, rfl⟩
theorem way_of_no [C_way_of T] (s o : List Int) (hs : stS s) (ho : stS o) (hl : s.length = o.length) (L : Nat) (hd : dr s o L = false) :
    runF T m (k + 5) g_way_of [.fz (.tup (iD s)), .fz (.tup (iD o)), .fz (.int L)] = .er (.exc 3 []) [.fz (.tup (iD s)), .fz (.tup (iD o)), .fz (.int L)] := by
  refine go_way_of rfl nofun ?_
  have hb : s.length ≤ 1000 := by have := hs.1; omega
  simp [B_way_of, check_both_ok s o hs ho hl, does_reach_ok s o L hb, hd, show ¬ (L : Int) < 0 by omega]
theorem is_way_ok [C_is_way T] (s o : List Int) (hs : stS s) (ho : stS o) (hl : s.length = o.length) (xs : List Int) :
    runF T m (k + 5) g_is_way [.fz (.tup (iD s)), .fz (.tup (iD o)), .fz (.tup (iD xs))] = .ok (.fz (.bl (decide (en s xs = some o)))) [.fz (.tup (iD s)), .fz (.tup (iD o)), .fz (.tup (iD xs))] := by
  refine go_is_way rfl nofun ?_
  have e := thrown_ok (T := T) (m := m) (k := k + 2) s (stB_of hs) (by have := hs.1; omega) xs
  have q := eq_enD (en s xs) o
  have f := flat_enD (en s xs)
  generalize enD (en s xs) = r at *
  simp [B_is_way, check_both_ok s o hs ho hl, e, q, f]
theorem need_ok [C_need T] : runF T m (k + 1) g_need [.fz (.bl true)] = .ok (.fz .non) [.fz (.bl true)] := by
  refine go_need rfl nofun ?_
  simp [B_need]
theorem need_no [C_need T] : runF T m (k + 1) g_need [.fz (.bl false)] = .er (.exc 1 []) [.fz (.bl false)] := by
  refine go_need rfl nofun ?_
  simp [B_need]
theorem is_state_v2_ok [C_is_state_v2 T] (d : D) (hd : plainR d) :
    runF T m (k + 2) g_is_state_v2 [.fz d] = .ok (.fz (.bl (stD d))) [.fz d] := by
  refine go_is_state_v2 rfl nofun ?_
  obtain ⟨hd, hx⟩ := hd
  cases d with
  | fn i => cases hd
  | exc c v => cases hd
  | gvn v => cases hd
  | tup xs =>
    by_cases h1 : xs.length ≤ 60
    · obtain ⟨sf, e1, e2⟩ := lc_pure (own := [1]) (turn := lcT (envT T m (k + 1)) (.var 1) [] is_state_v2_C1) (s := [.fz (.tup xs), .non]) (fun x => [.bl (withinD 0 60 x)]) xs rfl (sL (by omega)) fun x hm acc ha => by
          simp [lcT, is_state_v2_C1, within_ok _ _ _ (hx xs rfl x hm), ha]
      rw [show xs.flatMap (fun x => [D.bl (withinD 0 60 x)]) = xs.map fun x => .bl (withinD 0 60 x) from (List.map_eq_flatMap ..).symm] at e1
      have e4 : blD .all [.lst (xs.map fun x => .bl (withinD 0 60 x))] = some (.fz (.bl (xs.all (withinD 0 60)))) := by
        simp only [blD, boolsD_mapF, Option.map_some, List.all_map]; rfl
      have hg : ¬ (60 : Int) < xs.length := by omega
      cases ha : xs.all (withinD 0 60) with
      | false =>
        rw [ha] at e4
        generalize xs.map (fun x => D.bl (withinD 0 60 x)) = r at *
        simp [-bl_all, B_is_state_v2, hg, e1, e2, e4, stD, ha]
      | true =>
        rw [ha] at e4
        obtain ⟨s, rfl, hs⟩ := all_ints fun x hx => List.all_eq_true.mp ha x hx
        rw [iD_len] at h1
        have hg' : ¬ (60 : Int) < s.length := by omega
        have e5 := asc_ok (T := T) (m := m) (k := k) s (by omega)
        generalize (iD s).map (fun x => D.bl (withinD 0 60 x)) = r at *
        simp [-bl_all, B_is_state_v2, hg', e1, e2, e4, e5, stD, ha, h1]
    · have hg : (60 : Int) < xs.length := by omega
      simp [B_is_state_v2, hg, stD, h1]
  | _ => simp [B_is_state_v2, stD]
theorem step_ok [C_step T] (s : List Int) (h : Int) (hb : s.length ≤ 1000) :
    runF T m (k + 1) g_step [.fz (.tup (iD s)), .fz (.int h)] = .ok (.fz (stpD s h)) [.fz (.tup (iD s)), .fz (.int h)] := by
  refine go_step rfl nofun ?_
  obtain ⟨sf, e1, e2⟩ := lc_pure (own := [3]) (turn := lcT (envT T m k) (.var 3) [.cmp .gt (.var 3) (.con (.int 0))] step_C1) (s := [.fz (.tup (iD s)), .fz (.int h), .non, .non]) (fun x => match x with | .int i => if 0 < i then [.int (i - 1)] else [] | _ => []) (iD s) rfl (sL (by simp; omega)) fun x hm acc ha => by
    obtain ⟨i, _, rfl⟩ := List.mem_map.mp hm
    by_cases hi : 0 < i <;> simp [lcT, step_C1, ha, hi]
  rw [show (iD s).flatMap (fun x => match x with | .int i => if 0 < i then [D.int (i - 1)] else [] | _ => []) = iD (lft s) from lft_iD s] at e1
  have hl : (lft s).length ≤ 1000 := by rw [lft, List.length_map]; exact Nat.le_trans (List.length_filter_le _ _) hb
  have b1 : bopO .add (.lst (iD (lft s))) (.lst [.int (h - 1)]) = some (.tmp (iD (lft s ++ [h - 1]))) := by rw [bop_lst (sL (by simp; omega))]; simp
  by_cases hn : h < 0
  · have : ¬ h = 0 := by omega
    have : ¬ 0 < h := by omega
    simp [B_step, stpD, fitI, *]
  · by_cases h0 : h = 0
    · subst h0
      by_cases hz : 0 ∈ s
      · simp [B_step, stpD, fitI, hz]
      · simp [B_step, stpD, fitI, hz, e1, e2, nxt]
    · have hp : 0 < h := by omega
      by_cases hz : 0 ∈ s
      · by_cases hh : h ∈ s
        · simp [B_step, stpD, fitI, hz, hn, h0, hp, hh]
        · simp [B_step, stpD, fitI, hz, hn, h0, hp, hh, e1, e2, nxt, b1, sL]
      · by_cases hh : h ∈ s
        · simp [B_step, stpD, fitI, hz, hn, h0, hp, hh]
        · simp [B_step, stpD, fitI, hz, hn, h0, hp, hh]
theorem end_of_ok [C_end_of T] {n : Nat} (s : List Int) (hs : stB n s) (hn : n ≤ 1000) (xs : List Int) :
    runF T m (k + 2) g_end_of [.fz (.tup (iD s)), .fz (.tup (iD xs))] = .ok (.fz (enD (en s xs))) [.fz (.tup (iD s)), .fz (.tup (iD xs))] := by
  refine go_end_of rfl nofun ?_
  simp [B_end_of]
  refine wFor (fun j st => ∃ c, stB n c ∧ en s xs = en c (xs.drop j) ∧ st = [.fz (.tup (iD c)), .fz (.tup (iD xs)), .non]) (by simp) ⟨s, hs, by simp, rfl⟩ ?_ ?_
  · rintro j d _ hd ⟨c, hc, he, rfl⟩ R hR
    obtain ⟨h, hh, rfl⟩ := iD_getS hd
    rw [drop_at hh, en] at he
    have e := step_ok (T := T) (m := m) (k := k) c h (by rw [hc.2.2]; exact hn)
    refine ⟨_, by simp; rfl, ?_⟩
    cases hq : fitI c h with
    | true =>
      rw [hq, if_pos rfl] at he
      rw [stpD, if_pos hq] at e
      simp [end_of_L1, e]
      exact hR.next (s := [.fz (.tup (iD (nxt c h))), .fz (.tup (iD xs)), .non]) (by simp) ⟨nxt c h, nxt_stB hc hq, he, rfl⟩
    | false =>
      rw [hq, if_neg (by simp)] at he
      rw [stpD, if_neg (by simp [hq])] at e
      simp [end_of_L1, e]
      refine hR.ret ?_
      simp [he, enD]
  · rintro _ ⟨c, hc, he, rfl⟩
    rw [iD_len, List.drop_length, en] at he
    simp [he, enD]
theorem takes_way_ok [C_takes_way T] (s o : List Int) (hs : stS s) (ho : stS o) (xs : List Int) :
    runF T m (k + 3) g_takes_way [.fz (.tup (iD s)), .fz (.tup (iD o)), .fz (.tup (iD xs))] = .ok (.fz (.bl (decide (en s xs = some o)))) [.fz (.tup (iD s)), .fz (.tup (iD o)), .fz (.tup (iD xs))] := by
  refine go_takes_way rfl nofun ?_
  have e := end_of_ok (T := T) (m := m) (k := k) s (stB_of hs) (by have := hs.1; omega) xs
  have q := eq_enD (en s xs) o
  have f := flat_enD (en s xs)
  generalize enD (en s xs) = r at *
  simp [B_takes_way, is_state_v2_ok, hs, ho, need_ok, e, q, f]
/-- the law's own end -/
theorem law_end_ok [C_law_end T] {n : Nat} (s : List Int) (hs : stB n s) (hn : n ≤ 1000) (xs : List Int) (d : D) (hd : d = .tup (iD xs) ∨ d = .lst (iD xs)) :
    runF T m (k + 2) g_law_end [.fz (.tup (iD s)), .fz d] = .ok (.fz (enD (en s xs))) [.fz (.tup (iD s)), .fz d] := by
  refine go_law_end rfl nofun ?_
  have hit : itemsD d = some (iD xs) := by rcases hd with rfl | rfl <;> rfl
  have key : ∀ s1, s1 = [.fz (.tup (iD s)), .fz d, .non] → Wp (unlockO s1 [.fz d] (forL (asgD (.var 2)) (evB m (envT T m (k + 1)) law_end_L1) (iD xs) s1)) (sq m (envT T m (k + 1)) [.ret (.var 0)] (Fin [.fz (.tup (iD s)), .fz d] (.ok (.fz (enD (en s xs))) [.fz (.tup (iD s)), .fz d]))) := by
    rintro _ rfl
    refine wFor (fun j st => ∃ r : Option (List Int), (∀ c, r = some c → stB n c) ∧ en s xs = r.bind (fun c => en c (xs.drop j)) ∧ st = [.fz (enD r), .fz d, .non]) (by simp) ⟨some s, fun c e => by cases e; exact hs, by simp, rfl⟩ ?_ ?_
    · rintro j d _ hd ⟨r, hr, he, rfl⟩ R hR
      obtain ⟨h, hh, rfl⟩ := iD_getS hd
      refine ⟨_, by simp; rfl, ?_⟩
      cases r with
      | none =>
        simp [law_end_L1, enD]
        exact hR.next (s := [.fz .non, .fz _, .non]) (by simp) ⟨none, nofun, he, rfl⟩
      | some c =>
        have hc := hr c rfl
        have e := law_step_ok (T := T) (m := m) (k := k) c hc.1 h (by rw [hc.2.2]; exact hn)
        rw [drop_at hh] at he
        simp only [Option.bind_some, en] at he
        cases hq : fitI c h with
        | true =>
          rw [hq, if_pos rfl] at he
          rw [stpD, if_pos hq] at e
          simp [law_end_L1, enD, e]
          exact hR.next (s := [.fz (.tup (iD (nxt c h))), .fz _, .non]) (by simp) ⟨some (nxt c h), fun c' e' => by cases e'; exact nxt_stB hc hq, he, rfl⟩
        | false =>
          rw [hq, if_neg (by simp)] at he
          rw [stpD, if_neg (by simp [hq])] at e
          simp [law_end_L1, enD, e]
          exact hR.next (s := [.fz .non, .fz _, .non]) (by simp) ⟨none, nofun, he, rfl⟩
    · rintro _ ⟨r, hr, he, rfl⟩
      rw [iD_len, List.drop_length] at he
      have he2 : en s xs = r := by rw [he]; cases r <;> rfl
      simp [he2]
  rcases hd with rfl | rfl
  · simp [B_law_end]
    exact key _ rfl
  · simp [B_law_end]
    exact key _ rfl
end Z

/-! K25d: two drawn states; is a way told rightly -/
namespace Z
open PySem
variable {T : List Fn} {m k : Nat}
theorem iD_set' (xs : List Int) (i : Nat) (x : Int) : (iD xs).set i (.int x) = iD (xs.set i x) := by simp [iD, List.map_set]
theorem law_state_len [C_law_state T] (ns : List Int) (most balls : Nat) (h1 : most ≤ 61) (h2 : balls ≤ 60) (h3 : balls ≤ most) :
    ∃ s ns' : List Int, stS s ∧ s.length = balls ∧ runF T m (k + 3) g_law_state [.io (iD ns), .fz (.int most), .fz (.int balls)] = .ok (.fz (.tup (iD s))) [.io (iD ns'), .fz (.int most), .fz (.int balls)] := by
  refine gox_law_state (P := fun r => ∃ s ns' : List Int, stS s ∧ s.length = balls ∧ r = .ok (.fz (.tup (iD s))) [.io (iD ns'), .fz (.int most), .fz (.int balls)]) rfl (by rintro _ ⟨_, _, _, _, rfl⟩; nofun) fun R hR => ?_
  obtain ⟨ms, ns', hp, e⟩ := shuffled_ok (T := T) (m := m) (k := k) ns (rg most) (by simp; omega)
  have hml := hp.length_eq
  simp at hml
  have f1 : cutI ms none (some (balls : Int)) = ms.take balls := cutI_take (by omega)
  have hn : (ms.take balls).Nodup := ((hp.nodup_iff.mpr (rg_nodup most)).sublist (List.take_sublist _ _))
  have pm := sortI_perm (ms.take balls)
  have hlen : (sortI (ms.take balls)).length = balls := by rw [pm.length_eq, List.length_take]; omega
  have hs : stS (sortI (ms.take balls)) := by
    refine ⟨by omega, fun x hx => ?_, asc_iff.mpr (sorted_lt hn)⟩
    have h3 := hp.mem_iff.mp (List.mem_of_mem_take (pm.mem_iff.mp hx))
    simp only [rg, List.mem_map, List.mem_range] at h3
    obtain ⟨a, ha, rfl⟩ := h3
    omega
  simp [B_law_state, rB_0, rB_nat (show most ≤ 1000000000 by omega), sL, show most ≤ 100000 by omega, rg_iD, e, f1]
  exact hR.ret rfl ⟨_, ns', hs, hlen, rfl⟩
theorem law_two_L1_ok [C_law_two T] (ns c : List Int) (hc : stS c) {x1 x2 x3 x5 : Sl} (hf : frS x5 = true) :
    Wp (evB m (envT T m (k + 4)) law_two_L1 [.io (iD ns), x1, x2, x3, .fz (.tup (iD c)), x5, .non, .non])
      (fun o => ∃ c' ns', stS c' ∧ c'.length = c.length ∧ o = .nx [.io (iD ns'), x1, x2, x3, .fz (.tup (iD c')), .non, .non, .non]) := by
  have fin : ∀ (f : List Int), f ≠ [] → (∀ h ∈ f, cnI c h = true) → ∃ h, cnI c h = true ∧ fitI c h = true ∧ (∀ m k, runF T m (k + 2) g_law_pick [.io (iD ns), .fz (.lst (iD f))] = .ok (.fz (.int h)) [.io (iD ns.dropLast), .fz (.lst (iD f))]) ∧ runF T m (k + 4) g_law_step [.fz (.tup (iD c)), .fz (.int h)] = .ok (.fz (.tup (iD (nxt c h)))) [.fz (.tup (iD c)), .fz (.int h)] := by
    intro f h1 h2
    obtain ⟨h, hh, e⟩ := pick_int (T := T) ns f (List.length_pos_iff.mpr h1)
    have hc2 := h2 h hh
    have hfit : fitI c h = true := by simp only [cnI, Bool.and_eq_true] at hc2; exact hc2.2
    have st := law_step_ok (T := T) (m := m) (k := k + 3) c (asc_iff.mp hc.2.2) h (by have := hc.1; omega)
    rw [stpD, if_pos hfit] at st
    exact ⟨h, hc2, hfit, e, st⟩
  by_cases h0 : (0 : Int) ∈ c
  · obtain ⟨sf, a1, a2⟩ := lc_pure (own := [7]) (turn := lcT (envT T m (k + 4)) (.var 7) [.cmp .nin (.var 7) (.var 4)] law_two_C1) (s := [.io (iD ns), x1, x2, x3, .fz (.tup (iD c)), x5, .non, .non]) (fun x => match x with | .int i => if i ∈ c then [] else [.int i] | _ => []) (rngD 1 60) rfl (sL (by simp)) fun x hm acc ha => by
      obtain ⟨i, hi⟩ := List.mem_iff_getElem?.mp hm
      obtain ⟨hi, rfl⟩ := rngD_get hi
      by_cases hq : (1 + (i : Int)) ∈ c <;> simp [lcT, law_two_C1, ha, hq]
    have ea : (rngD 1 60).flatMap (fun x => match x with | .int i => if i ∈ c then [] else [D.int i] | _ => []) = iD (fr c) := by
      simp only [rngD, fr, iD, List.flatMap_map]
      generalize List.range 60 = l
      induction l with
      | nil => rfl
      | cons x l ih =>
        rw [List.flatMap_cons, ih, List.map_cons]
        by_cases hq : (1 + (x : Int)) ∈ c <;> simp [hq]
    rw [ea] at a1
    obtain ⟨h, hc2, hfit, e, st⟩ := fin (fr c) (fr_cons hc h0) fun h hh => by
      obtain ⟨g1, g2, g3⟩ := fr_mem.mp hh
      have : ¬ h = 0 := by omega
      have : 0 < h := by omega
      simp [cnI, fitI, *]
    simp [law_two_L1, h0, a1, a2, e, st, rB_lit]
    exact Wp.nx (s := [.io (iD ns.dropLast), x1, x2, x3, .fz (.tup (iD (nxt c h))), .non, .non, .non]) (by simp [hf]) ⟨nxt c h, nxt_ok hc hc2, (nxt_stB (stB_of hc) hfit).2.2, _, rfl⟩
  · obtain ⟨h, hc2, hfit, e, st⟩ := fin [0] (by simp) fun h hh => by
      simp at hh; subst hh
      simp [cnI, fitI, h0]
    have e0 : ([.int 0] : List D) = iD [0] := rfl
    simp [law_two_L1, h0, sL, e0, e, st]
    exact Wp.nx (s := [.io (iD ns.dropLast), x1, x2, x3, .fz (.tup (iD (nxt c h))), .non, .non, .non]) (by simp [hf]) ⟨nxt c h, nxt_ok hc hc2, (nxt_stB (stB_of hc) hfit).2.2, _, rfl⟩
theorem law_two_ok [C_law_two T] (ns : List Int) :
    ∃ s o ns' : List Int, stS s ∧ stS o ∧ s.length = o.length ∧ runF T m (k + 5) g_law_two [.io (iD ns)] = .ok (.fz (.tup [.tup (iD s), .tup (iD o)])) [.io (iD ns')] := by
  refine gox_law_two (P := fun r => ∃ s o ns' : List Int, stS s ∧ stS o ∧ s.length = o.length ∧ r = .ok (.fz (.tup [.tup (iD s), .tup (iD o)])) [.io (iD ns')]) rfl (by rintro _ ⟨_, _, _, _, _, _, rfl⟩; nofun) fun R hR => ?_
  obtain ⟨v, hv, e1⟩ := pick_int (T := T) ns [0, 1, 3, 8, 30, 60] (by simp)
  obtain ⟨b, rfl, hb⟩ : ∃ n : Nat, v = n ∧ n ≤ 60 := by
    have : 0 ≤ v ∧ v ≤ 60 := by simp at hv; omega
    exact ⟨v.toNat, by omega, by omega⟩
  obtain ⟨w, hw, e2⟩ := pick_int (T := T) ns.dropLast [(b : Int), b + 1, b + 3, 61] (by simp)
  simp [iD_cons] at e1 e2
  have m1 := bl_max2 (b : Int) w
  have m2 := bl_min2 61 (if w > (b : Int) then w else (b : Int))
  obtain ⟨E, hE, hE1, hE2⟩ : ∃ E : Nat, (if (if w > (b : Int) then w else (b : Int)) < 61 then (if w > (b : Int) then w else (b : Int)) else 61) = (E : Int) ∧ E ≤ 61 ∧ b ≤ E := by
    refine ⟨(if (if w > (b : Int) then w else (b : Int)) < 61 then (if w > (b : Int) then w else (b : Int)) else 61).toNat, ?_, ?_, ?_⟩ <;> (split <;> split at * <;> omega)
  rw [hE] at m2
  generalize (if w > (b : Int) then w else (b : Int)) = F at m1 m2
  obtain ⟨s, ns1, hs, hsl, e3⟩ := law_state_len (T := T) (m := m) (k := k + 1) ns.dropLast.dropLast E b hE1 hb hE2
  obtain ⟨o, ns2, ho, hol, e4⟩ := law_state_len (T := T) (m := m) (k := k + 1) ns1 E b hE1 hb hE2
  have t1 := tk_lo (ns := ns2) (b := 2) (by omega)
  have t2 := tk_hi (ns := ns2) (b := 2) (by omega)
  have e5 := take_ok (T := T) (m := m) (k := k + 3) ns2 2 (by omega)
  generalize tk ns2 2 = t at *
  obtain ⟨u, hu, e6⟩ := pick_int (T := T) ns2.dropLast [1, 2, 9] (by simp)
  simp [iD_cons] at e6
  by_cases h0 : t = 0
  · subst h0
    have ru : rB u := rB_of (by simp at hu; omega) (by simp at hu; omega)
    simp [-bl_max2, -bl_min2, B_law_two, e1, e2, m1, m2, e3, e4, e5, e6, sL, rB_0, ru]
    refine wFor (fun j st => ∃ c ns', stS c ∧ c.length = s.length ∧ st = [.io (iD ns'), .fz (.int b), .fz (.int F), .fz (.tup (iD s)), .fz (.tup (iD c)), .non, .non, .non]) (by simp) ⟨s, _, hs, rfl, rfl⟩ ?_ ?_
    · rintro j d _ hd ⟨c, ns', hc, hcl, rfl⟩ R2 hR2
      refine ⟨_, by simp; rfl, ?_⟩
      refine (law_two_L1_ok ns' c hc rfl).weak fun o _ q => ?_
      obtain ⟨c', ns'', q1, q2, rfl⟩ := q
      exact hR2.nx _ ⟨c', ns'', q1, by omega, rfl⟩
    · rintro _ ⟨c, ns', hc, hcl, rfl⟩
      simp [sL]
      exact hR.ret rfl ⟨s, c, ns', hs, hc, hcl.symm, rfl⟩
  · simp [-bl_max2, -bl_min2, B_law_two, e1, e2, m1, m2, e3, e4, e5, h0, sL]
    exact hR.ret rfl ⟨s, o, _, hs, ho, by omega, rfl⟩
theorem rf_ok3 : (rf "no answer").ok 60 = true := by decide +kernel
theorem flat_rf3 : D.flat (rf "no answer") = true := by decide +kernel
section
variable [C_law_told_v5 T]
theorem t25_ok (s o : List Int) (hs : stS s) (ho : stS o) (hl : s.length = o.length) (L : Nat) (hL : L ≤ 1000) (hd : dr s o L = true) :
    ∃ hs' : List Int, en s hs' = some o ∧ hs'.length = L ∧ runF T m (k + 6) g_law_told_v5 [.fz (.tup (iD s)), .fz (.tup (iD o)), .fz (.int L)] = .ok (.fz (.tup (iD hs'))) [.fz (.tup (iD s)), .fz (.tup (iD o)), .fz (.int L)] := by
  obtain ⟨hs', h1, h2, e⟩ := way_of_ok (T := T) (m := m) (k := k) s o hs ho hl L hL hd
  refine ⟨hs', h1, h2, go_law_told_v5 rfl nofun ?_⟩
  simp [B_law_told_v5, e]
theorem t25_no (s o : List Int) (hs : stS s) (ho : stS o) (hl : s.length = o.length) (L : Nat) (hd : dr s o L = false) :
    runF T m (k + 6) g_law_told_v5 [.fz (.tup (iD s)), .fz (.tup (iD o)), .fz (.int L)] = .ok (.fz (rf "no answer")) [.fz (.tup (iD s)), .fz (.tup (iD o)), .fz (.int L)] := by
  refine go_law_told_v5 rfl nofun ?_
  simp [B_law_told_v5, way_of_no s o hs ho hl L hd, sL, rf]
end
theorem ne_lI0 (xs : List Int) : cop .ne (.lst (iD xs)) (.lst []) = some (!decide (xs = [])) := by
  show ((D.lst (iD xs)).eq (.lst [])).map (!·) = _
  have h1 : (D.lst (iD xs)).ok 60 = true := by simp only [D.ok]; exact okI 59 xs
  have h2 : (D.lst []).ok 60 = true := rfl
  simp only [D.eq, h1, h2, Bool.and_self, if_true]
  cases xs <;> rfl
theorem k25_B1 [C_law_is_way_told T] (ns s o bent : List Int) (hs : stS s) (ho : stS o) (hl : s.length = o.length) (hb : bent.length ≤ 100000) {x3 x4 x6 x11 : Sl} (hf6 : frS x6 = true) :
    Wp (evB m (envT T m (k + 9)) law_is_way_told_L1 [.io (iD ns), .fz (.tup (iD s)), .fz (.tup (iD o)), x3, x4, .lst (iD bent), x6, .non, .non, .non, .non, x11])
      (fun out => ∃ bent' : List Int, bent'.length ≤ bent.length ∧ ∃ ns', out = .nx [.io (iD ns'), .fz (.tup (iD s)), .fz (.tup (iD o)), x3, x4, .lst (iD bent'), .non, .non, .non, .non, .non, x11]) := by
  -- the second half
  have half : ∀ (ns bent' : List Int) (y8 y9 y10 : Sl), bent'.length ≤ bent.length → frS y8 = true → frS y9 = true → frS y10 = true → ∀ R : Out → Prop, (∀ ns', R (.nx [.io (iD ns'), .fz (.tup (iD s)), .fz (.tup (iD o)), x3, x4, .lst (iD bent'), .non, .non, .non, .non, .non, x11])) →
      Wp (evB m (envT T m (k + 9)) [.asg (.var 7) (.cmp .eq (.call g_law_end [.var 1, .var 5]) (.var 2)), .ife (.not (.call g_law_same_v2 [.shl [.call g_is_way [.var 1, .var 2, .blt .tuple [.var 5]], .call g_takes_way [.var 1, .var 2, .blt .tuple [.var 5]]], .shl [.var 7, .var 7]])) [.ret (.con (.bl false))] []] [.io (iD ns), .fz (.tup (iD s)), .fz (.tup (iD o)), x3, x4, .lst (iD bent'), x6, .non, y8, y9, y10, x11]) R := by
    intro ns bent' y8 y9 y10 hl2 h8 h9 h10 R hR
    have e1 := law_end_ok (T := T) (m := m) (k := k + 7) s (stB_of hs) (by have := hs.1; omega) bent' (.lst (iD bent')) (.inr rfl)
    have e2 := is_way_ok (T := T) (m := m) (k := k + 4) s o hs ho hl bent'
    have e3 := takes_way_ok (T := T) (m := m) (k := k + 6) s o hs ho bent'
    have q := eq_enD (en s bent') o
    have f := flat_enD (en s bent')
    generalize enD (en s bent') = r at *
    generalize decide (en s bent' = some o) = due at *
    have s1 := same2_ok (T := T) (m := m) (k := k + 7) 1 (.lst [.bl due, .bl due]) (by simp [gd])
    simp [e1, e2, e3, q, f, sL, s1]
    exact Wp.nx (s := [.io (iD ns), .fz (.tup (iD s)), .fz (.tup (iD o)), x3, x4, .lst (iD bent'), .non, .non, .non, .non, .non, x11]) (by simp [h8, h9, h10, hf6]) (hR ns)
  rw [law_is_way_told_L1, wCons]
  generalize hrest : [IS.asg (.var 7) (.cmp .eq (.call g_law_end [.var 1, .var 5]) (.var 2)), .ife (.not (.call g_law_same_v2 [.shl [.call g_is_way [.var 1, .var 2, .blt .tuple [.var 5]], .call g_takes_way [.var 1, .var 2, .blt .tuple [.var 5]]], .shl [.var 7, .var 7]])) [.ret (.con (.bl false))] []] = rest at *
  by_cases hn : bent = []
  · subst hn
    have e0 := ne_lI0 []
    simp only [iD_nil] at e0
    simp [e0, sL]
    exact half ns [] .non .non .non (by simp) rfl rfl rfl _ fun ns' => ⟨ns', rfl⟩
  · have hlp : 0 < bent.length := List.length_pos_iff.mpr hn
    have e0 := ne_lI0 bent
    rw [decide_eq_false hn] at e0
    have k1 := take_ok1 (T := T) (m := m) (k := k + 8) ns bent.length hlp
    have k2 := take_ok1 (T := T) (m := m) (k := k + 8) ns.dropLast bent.length hlp
    have k3 := take_ok (T := T) (m := m) (k := k + 8) ns.dropLast.dropLast 3 (by omega)
    have a1 := tk_lo (ns := ns) (b := bent.length) (by omega)
    have a2 := tk_hi (ns := ns) (b := bent.length) (by omega)
    have a3 := tk_lo (ns := ns.dropLast) (b := bent.length) (by omega)
    have a4 := tk_hi (ns := ns.dropLast) (b := bent.length) (by omega)
    generalize tk ns bent.length = j at *
    generalize tk ns.dropLast bent.length = q at *
    generalize tk ns.dropLast.dropLast 3 = kd at *
    obtain ⟨j, rfl⟩ := Int.eq_ofNat_of_zero_le a1
    obtain ⟨q, rfl⟩ := Int.eq_ofNat_of_zero_le a3
    have hj : j < bent.length := by omega
    have hq : q < bent.length := by omega
    obtain ⟨x, hx⟩ : ∃ x, bent[j]? = some x := ⟨_, List.getElem?_eq_getElem hj⟩
    obtain ⟨y, hy⟩ : ∃ y, bent[q]? = some y := ⟨_, List.getElem?_eq_getElem hq⟩
    have sx := sub_iD hx
    have sy := sub_iD hy
    by_cases c0 : kd = 0
    · simp [e0, sL, k1, k2, k3, c0, sx, sy, stP, ix_nat hj, ix_nat hq, iD_set', hj, hq]
      exact half ns.dropLast.dropLast.dropLast ((bent.set j (y + q - j)).set q (x + j - q)) (.fz (.int 0)) (.fz (.int j)) (.fz (.int q)) (by simp) rfl rfl rfl _ fun ns' => ⟨(bent.set j (y + q - j)).set q (x + j - q), by simp, ns', rfl⟩
    · by_cases c1 : kd = 1
      · obtain ⟨v, hv, e2⟩ := pick_int (T := T) ns.dropLast.dropLast.dropLast [1, -1] (by simp)
        simp [iD_cons] at e2
        simp [e0, sL, k1, k2, k3, c1, sx, e2, stP, ix_nat hj, iD_set', hj]
        exact half ns.dropLast.dropLast.dropLast.dropLast (bent.set j (x + v)) (.fz (.int 1)) (.fz (.int j)) (.fz (.int q)) (by simp) rfl rfl rfl _ fun ns' => ⟨bent.set j (x + v), by simp, ns', rfl⟩
      · have hm := popAt_ok (xs := iD bent) (i := j) (y := .int x) (by rw [iD_get, hx]; rfl) (by omega)
        rw [iD_erase] at hm
        simp [e0, sL, k1, k2, k3, c0, c1, hm]
        have hle : (bent.eraseIdx j).length ≤ bent.length := List.length_eraseIdx_le ..
        exact half ns.dropLast.dropLast.dropLast (bent.eraseIdx j) (.fz (.int kd)) (.fz (.int j)) (.fz (.int q)) hle rfl rfl rfl _ fun ns' => ⟨bent.eraseIdx j, hle, ns', rfl⟩
end Z

/-! K25e: the law k25 -/
namespace Z
open PySem
variable {T : List Fn} {m k : Nat}
theorem is_way_told_ok [C_law_is_way_told T] (ns s o : List Int) (hs : stS s) (ho : stS o) (hl : s.length = o.length) (L : Nat) (hL : L ≤ 1000) :
    ∃ ns' : List Int, runF T m (k + 10) g_law_is_way_told [.io (iD ns), .fz (.tup (iD s)), .fz (.tup (iD o)), .fz (.int L)] = .ok (.fz (.bl true)) [.io (iD ns'), .fz (.tup (iD s)), .fz (.tup (iD o)), .fz (.int L)] := by
  refine gox_law_is_way_told (P := fun r => ∃ ns' : List Int, r = .ok (.fz (.bl true)) [.io (iD ns'), .fz (.tup (iD s)), .fz (.tup (iD o)), .fz (.int L)]) rfl (by rintro _ ⟨_, rfl⟩; nofun) fun R hR => ?_
  have hf := law_fits_ok (T := T) (m := m) (k := k + 8) s o L (by have := hs.1; omega)
  cases hd : dr s o L with
  | false =>
    have t := t25_no (T := T) (m := m) (k := k + 3) s o hs ho hl L hd
    rw [hd] at hf
    have q := eq_same rf_ok3
    have f := flat_rf3
    simp only [rf] at t q f
    simp [B_law_is_way_told, t, hf, q, sL]
    exact hR.ret rfl ⟨ns, rfl⟩
  | true =>
    rw [hd] at hf
    obtain ⟨hs', h1, h2, t⟩ := t25_ok (T := T) (m := m) (k := k + 3) s o hs ho hl L hL hd
    obtain ⟨sf, a1, a2⟩ := lc_pure (own := [11]) (turn := lcT (envT T m (k + 9)) (.var 11) [] law_is_way_told_C1) (s := [.io (iD ns), .fz (.tup (iD s)), .fz (.tup (iD o)), .fz (.int L), .fz (.tup (iD hs')), .non, .non, .non, .non, .non, .non, .non]) (fun x => [.bl true]) (iD hs') rfl (sL (by simp; omega)) fun x hm acc ha => by
      obtain ⟨i, _, rfl⟩ := List.mem_map.mp hm
      simp [lcT, law_is_way_told_C1, ha]
    have ea : (iD hs').flatMap (fun _ => [D.bl true]) = (iD hs').map fun _ => .bl true := (List.map_eq_flatMap ..).symm
    rw [ea] at a1
    have e4 : blD .all [.lst ((iD hs').map fun _ => .bl true)] = some (.fz (.bl true)) := by
      simp only [blD, boolsD_mapF (fun _ => true), Option.map_some, List.all_map]
      simp
    generalize (iD hs').map (fun _ => D.bl true) = r at *
    have e5 := law_end_ok (T := T) (m := m) (k := k + 7) s (stB_of hs) (by have := hs.1; omega) hs' (.tup (iD hs')) (.inl rfl)
    rw [h1] at e5
    have e5' : runF T m (k + 9) g_law_end [.fz (.tup (iD s)), .fz (.tup (iD hs'))] = .ok (.fz (.tup (iD o))) [.fz (.tup (iD s)), .fz (.tup (iD hs'))] := e5
    have e6 := is_way_ok (T := T) (m := m) (k := k + 4) s o hs ho hl hs'
    have e7 := takes_way_ok (T := T) (m := m) (k := k + 6) s o hs ho hs'
    rw [h1, decide_eq_true rfl] at e6 e7
    have s1 := same2_ok (T := T) (m := m) (k := k + 7) 1 (.lst [.bl true, .bl true]) (by simp [gd])
    simp [-bl_all, B_law_is_way_told, t, hf, a1, a2, e4, h2, e5', sL, rB_0, rB_lit]
    refine wFor (fun j st => ∃ bent : List Int, bent.length ≤ L ∧ ∃ ns', st = [.io (iD ns'), .fz (.tup (iD s)), .fz (.tup (iD o)), .fz (.int L), .fz (.tup (iD hs')), .lst (iD bent), .non, .non, .non, .non, .non, .non]) (by simp) ⟨hs', by omega, ns, rfl⟩ ?_ ?_
    · rintro j d _ hd' ⟨bent, hbl, ns', rfl⟩ R2 hR2
      refine ⟨_, by simp; rfl, ?_⟩
      refine (k25_B1 ns' s o bent hs ho hl (by omega) rfl).weak fun o _ q => ?_
      obtain ⟨bent', q1, ns'', rfl⟩ := q
      exact hR2.nx _ ⟨bent', by omega, ns'', rfl⟩
    · rintro _ ⟨bent, hbl, ns', rfl⟩
      simp [e6, e7, s1, sL]
      exact hR.ret rfl ⟨ns', rfl⟩
theorem filter_head {p : Nat → Bool} {g n : Nat} (hg : g < n) (hp : p g = true) (hl : ∀ g', g' < g → p g' = false) : ∃ rest, (List.range n).filter p = g :: rest := by
  have e : List.range n = List.range' 0 g ++ (g :: List.range' (g + 1) (n - g - 1)) := by
    rw [List.range_eq_range', show n = g + ((n - g - 1) + 1) by omega, ← List.range'_append_1, List.range'_succ, Nat.zero_add]
    congr 3; omega
  rw [e, List.filter_append, List.filter_cons, if_pos hp]
  have e2 : (List.range' 0 g).filter p = [] := by
    rw [List.filter_eq_nil_iff]
    intro x hx
    rw [List.mem_range'_1] at hx
    rw [hl x (by omega)]; simp
  rw [e2]
  exact ⟨_, rfl⟩
structure Gap (s o : List Int) (g : Nat) : Prop where
  le : g ≤ 61
  is : dr s o g = true
  no : ∀ g' : Nat, g' < g → dr s o g' = false
theorem gap_ex (s o : List Int) (hs : stS s) : ∃ g, Gap s o g := by
  obtain ⟨g, h1, h2, h3⟩ := least_of (fun n => dr s o n) 61 (dr_61 fun x hx => (hs.2.1 x hx).2)
  exact ⟨g, h1, h2, h3⟩
theorem reprB_two {s o : List Int} (hs : stS s) (ho : stS o) : reprB (.lst [.tup (iD s), .tup (iD o)]) = true := by
  have h1 := wtL_iD 60 s fun x hx => by have := hs.2.1 x hx; omega
  have h2 := wtL_iD 60 o fun x hx => by have := ho.2.1 x hx; omega
  have h3 := hs.1
  have h4 := ho.1
  refine reprB_of ?_ ?_ ?_
  · simp only [D.ok, D.okL, okI, Bool.and_self]
  · simp only [rD, rL, rL_iD, Bool.and_self]
  · simp only [wtD, wtL]; omega
theorem k25_L1 [C_law_k25 T] (ns : List Int) {x0 x2 : Sl} (hf2 : frS x2 = true) :
    Wp (evB (m + 100) (envT T (m + 100) (k + 10)) law_k25_L1 [x0, .lst (iD ns), x2, .non, .non, .non, .non, .non, .non, .non, .non, .non, .non])
      (fun o => ∃ ns', o = .nx [x0, .lst (iD ns'), .non, .non, .non, .non, .non, .non, .non, .non, .non, .non, .non]) := by
  obtain ⟨s, o, ns1, hs, ho, hl, e1⟩ := law_two_ok (T := T) (m := m + 100) (k := k + 5) ns
  have hsb := hs.1
  have hob := ho.1
  have hrb := reprB_two hs ho
  have hrp := bl_repr hrb
  have hks : (D.str (D.lst [.tup (iD s), .tup (iD o)]).pd.shown).ok 60 = true := by
    simp only [reprB, Bool.and_eq_true] at hrb
    exact hrb.2
  generalize (D.lst [.tup (iD s), .tup (iD o)]).pd.shown = ks at hrp hks
  have hkn := ne_same hks
  obtain ⟨g1, G1⟩ := gap_ex s o hs
  obtain ⟨g2, G2⟩ := gap_ex o s ho
  -- the gaps by the law
  have inner : ∀ (a b : List Int) (ns : List Int) (g : Nat), stS a → Gap a b g → ∃ (sf : Sts) (rest : List D), lcL [6] (lcT (envT T (m + 100) (k + 10)) (.var 6) [.call g_law_fits [.var 11, .var 12, .var 6]] law_k25_C2) (rngD 0 62) [] [x0, .lst (iD ns), x2, .fz (.str ks), .non, .non, .non, .fz (.tup (iD s)), .fz (.tup (iD o)), .non, .non, .fz (.tup (iD a)), .fz (.tup (iD b))] = .ok (.int g :: rest) sf ∧ ∀ s0, backS s0 sf [6] = backS s0 [x0, .lst (iD ns), x2, .fz (.str ks), .non, .non, .non, .fz (.tup (iD s)), .fz (.tup (iD o)), .non, .non, .fz (.tup (iD a)), .fz (.tup (iD b))] [6] := by
    intro a b ns g ha G
    obtain ⟨sf, c1, c2⟩ := lc_pure (own := [6]) (turn := lcT (envT T (m + 100) (k + 10)) (.var 6) [.call g_law_fits [.var 11, .var 12, .var 6]] law_k25_C2) (s := [x0, .lst (iD ns), x2, .fz (.str ks), .non, .non, .non, .fz (.tup (iD s)), .fz (.tup (iD o)), .non, .non, .fz (.tup (iD a)), .fz (.tup (iD b))]) (fun x => match x with | .int i => if dr a b i = true then [.int i] else [] | _ => []) (rngD 0 62) rfl (sL (by simp)) fun x hm acc hacc => by
      obtain ⟨i, hi⟩ := List.mem_iff_getElem?.mp hm
      obtain ⟨hi, rfl⟩ := rngD_get hi
      have f := law_fits_ok (T := T) (m := m + 100) (k := k + 9) a b (0 + (i : Int)) (by have := ha.1; omega)
      rw [Int.zero_add] at f
      cases hq : dr a b i <;> rw [hq] at f <;> simp [lcT, law_k25_C2, hacc, f, hq]
    have ec : (rngD 0 62).flatMap (fun x => match x with | .int i => if dr a b i = true then [D.int i] else [] | _ => []) = ((List.range 62).filter fun (n : Nat) => dr a b n).map fun (n : Nat) => D.int n := by
      simp only [rngD, List.flatMap_map, Int.zero_add]
      generalize List.range 62 = l
      induction l with
      | nil => rfl
      | cons x l ih =>
        rw [List.flatMap_cons, ih, List.filter_cons]
        cases hq : dr a b x <;> simp
    rw [ec] at c1
    obtain ⟨rest, hr⟩ := filter_head (p := fun n => dr a b n) (n := 62) (g := g) (by have := G.le; omega) G.is G.no
    rw [hr, List.map_cons] at c1
    exact ⟨sf, _, c1, c2⟩
  obtain ⟨acc, sf, n1, ns2, hacc, n2⟩ := lc_inv (own := [11, 12]) (turn := lcT (envT T (m + 100) (k + 10)) (.tup [.var 11, .var 12]) [] law_k25_C1) (fun j acc w => ∃ ns' : List Int, acc = [D.int g1, .int g2].take j ∧ w = [x0, .lst (iD ns'), x2, .fz (.str ks), .non, .non, .non, .fz (.tup (iD s)), .fz (.tup (iD o)), .non, .non, .non, .non])
    [.tup [.tup (iD s), .tup (iD o)], .tup [.tup (iD o), .tup (iD s)]] 0 [] [x0, .lst (iD ns1), x2, .fz (.str ks), .non, .non, .non, .fz (.tup (iD s)), .fz (.tup (iD o)), .non, .non, .non, .non] ⟨ns1, rfl, rfl⟩ (by
      rintro j d _ _ hd ⟨ns', rfl, rfl⟩
      have turn : ∀ (a b : List Int) (g : Nat) (acc : List D), acc.length ≤ 10 → stS a → Gap a b g → lcT (envT T (m + 100) (k + 10)) (.tup [.var 11, .var 12]) [] law_k25_C1 (.tup [.tup (iD a), .tup (iD b)]) acc [x0, .lst (iD ns'), x2, .fz (.str ks), .non, .non, .non, .fz (.tup (iD s)), .fz (.tup (iD o)), .non, .non, .non, .non] = .ok (acc ++ [.int g]) [x0, .lst (iD ns'.dropLast), x2, .fz (.str ks), .non, .non, .non, .fz (.tup (iD s)), .fz (.tup (iD o)), .non, .non, .fz (.tup (iD a)), .fz (.tup (iD b))] := by
        intro a b g acc hal ha G
        obtain ⟨sf, rest, i1, i2⟩ := inner a b ns' g ha G
        obtain ⟨v, hv, p⟩ := pick_int (T := T) ns' [(g : Int)] (by simp)
        have hv : v = g := by simpa using hv
        subst hv
        simp [iD_cons] at p
        have hsz : acc.length < sizeLine := sLt (by omega)
        simp [lcT, law_k25_C1, i1, i2, p, hsz, sL, rB_0, rB_lit]
      match j, hd with
      | 0, hd =>
        cases hd
        exact ⟨_, _, turn s o g1 [] (by simp) hs G1, _, rfl, rfl⟩
      | 1, hd =>
        cases hd
        exact ⟨_, _, turn o s g2 [.int g1] (by simp) ho G2, _, rfl, rfl⟩)
  have n3 := back_of_wipe (s0 := [x0, .lst (iD ns1), x2, .fz (.str ks), .non, .non, .non, .fz (.tup (iD s)), .fz (.tup (iD o)), .non, .non, .non, .non]) n2
  simp at n3 hacc
  subst hacc
  have gp1 := gap_of_ok (T := T) (m := m) (k := k + 5) s o hs ho hl g1 G1.le G1.is G1.no
  have gp2 := gap_of_ok (T := T) (m := m) (k := k + 5) o s ho hs hl.symm g2 G2.le G2.is G2.no
  have s1 := same2_ok (T := T) (m := m + 100) (k := k + 8) 1 (.lst [.int g1, .int g2]) (by simp [gd])
  -- above
  have c1 : bopO .add (.lst [.int 0]) (.lst (iD s)) = some (.tmp (iD (0 :: s))) := by
    rw [bop_lst (sL (by simp; omega))]; rfl
  have c2 : blD .max [.lst (iD (0 :: s))] = some (.fz (.int (maxI 0 s))) := by simp only [blD, ints_iD]
  have c3 := maxI_mem s 0
  obtain ⟨ab, hab, hab2⟩ : ∃ ab : Nat, maxI 0 s + 1 = (ab : Int) ∧ ab ≤ 61 := by
    have h1 := c3.2 0 (by simp)
    have h2 : maxI 0 s ≤ 60 := by
      rcases List.mem_cons.mp c3.1 with h | h
      · omega
      · exact (hs.2.1 _ h).2
    exact ⟨(maxI 0 s + 1).toNat, by omega, by omega⟩
  have k1 := take_ok (T := T) (m := m + 100) (k := k + 9) ns2 70 (by omega)
  have y1 := tk_lo (ns := ns2) (b := 70) (by omega)
  have y2 := tk_hi (ns := ns2) (b := 70) (by omega)
  generalize tk ns2 70 = v1 at k1 y1 y2
  have k2 := take_ok (T := T) (m := m + 100) (k := k + 9) ns2.dropLast ((ab : Int) + 1) (by omega)
  have y3 := tk_lo (ns := ns2.dropLast) (b := (ab : Int) + 1) (by omega)
  have y4 := tk_hi (ns := ns2.dropLast) (b := (ab : Int) + 1) (by omega)
  generalize tk ns2.dropLast ((ab : Int) + 1) = v2 at k2 y3 y4
  have m1 := bl_max2 0 ((g1 : Int) - 1)
  have y5 : 0 ≤ (if (g1 : Int) - 1 > 0 then (g1 : Int) - 1 else 0) ∧ (if (g1 : Int) - 1 > 0 then (g1 : Int) - 1 else 0) ≤ 61 := by have := G1.le; split <;> omega
  generalize (if (g1 : Int) - 1 > 0 then (g1 : Int) - 1 else 0) = v3 at m1 y5
  simp [-bl_max2, law_k25_L1, e1, hrp, n1, n3, gp1, gp2, s1, sL, c1, c2, hab, k1, k2, m1]
  refine wFor (fun j st => ∃ ns', st = [x0, .lst (iD ns'), x2, .fz (.str ks), .lst [.int g1, .int g2], .fz (.int ab), .non, .fz (.tup (iD s)), .fz (.tup (iD o)), .non, .non, .non, .non]) (by simp) ⟨_, rfl⟩ ?_ ?_
  · rintro j d _ hd ⟨ns', rfl⟩ R hR
    obtain ⟨L, hL, rfl⟩ : ∃ L : Nat, L ≤ 1000 ∧ d = .int L := by
      have q := List.mem_of_getElem? hd
      have := G1.le
      simp only [List.mem_cons, List.not_mem_nil, or_false] at q
      rcases q with rfl | rfl | rfl | rfl | rfl | rfl
      · exact ⟨0, by omega, rfl⟩
      · exact ⟨g1, by omega, rfl⟩
      · exact ⟨v3.toNat, by omega, by rw [Int.toNat_of_nonneg (by omega)]⟩
      · exact ⟨ab, by omega, rfl⟩
      · exact ⟨((ab : Int) + v1).toNat, by omega, by rw [Int.toNat_of_nonneg (by omega)]⟩
      · exact ⟨v2.toNat, by omega, by rw [Int.toNat_of_nonneg (by omega)]⟩
    refine ⟨_, by simp; rfl, ?_⟩
    obtain ⟨ns'', e⟩ := is_way_told_ok (T := T) (m := m + 100) (k := k) ns' s o hs ho hl L hL
    simp [law_k25_L2, e]
    exact hR.next (s := [x0, .lst (iD ns''), x2, .fz (.str ks), .lst [.int g1, .int g2], .fz (.int ab), .non, .fz (.tup (iD s)), .fz (.tup (iD o)), .non, .non, .non, .non]) (by simp) ⟨ns'', rfl⟩
  rintro _ ⟨ns', rfl⟩
  obtain ⟨w1, a1, a2, t1⟩ := t25_ok (T := T) (m := m + 100) (k := k + 4) s o hs ho hl g1 (by have := G1.le; omega) G1.is
  obtain ⟨w2, a3, a4, t2⟩ := t25_ok (T := T) (m := m + 100) (k := k + 4) o s ho hs hl.symm g2 (by have := G2.le; omega) G2.is
  have hen : en s (w1 ++ w2) = some s := by rw [en_app, a1]; exact a3
  have b1 : bopO .add (.tup (iD w1)) (.tup (iD w2)) = some (.fz (.tup (iD (w1 ++ w2)))) := by
    have := G1.le
    have := G2.le
    rw [bop_tup (sL (by simp; omega)), iD_append]
  have e5 := law_end_ok (T := T) (m := m + 100) (k := k + 8) s (stB_of hs) (by omega) (w1 ++ w2) (.tup (iD (w1 ++ w2))) (.inl rfl)
  rw [hen] at e5
  have e5' : runF T (m + 100) (k + 10) g_law_end [.fz (.tup (iD s)), .fz (.tup (iD (w1 ++ w2)))] = .ok (.fz (.tup (iD s))) [.fz (.tup (iD s)), .fz (.tup (iD (w1 ++ w2)))] := e5
  have e6 := is_way_ok (T := T) (m := m + 100) (k := k + 5) s s hs hs rfl (w1 ++ w2)
  rw [hen, decide_eq_true rfl] at e6
  have e7 := gap_of_ok (T := T) (m := m) (k := k + 5) s s hs hs rfl 0 (by omega) dr_self (fun g' h => by omega)
  have e7' : runF T (m + 100) (k + 10) g_gap_of [.fz (.tup (iD s)), .fz (.tup (iD s))] = .ok (.fz (.int 0)) [.fz (.tup (iD s)), .fz (.tup (iD s))] := e7
  have s2 := same2_ok (T := T) (m := m + 100) (k := k + 8) 1 (.lst [.bl true, .int 0]) (by simp [gd])
  generalize w1 ++ w2 = w at *
  simp [t1, t2, b1, e5', e6, e7', s2, sL, hrp, hkn]
  exact Wp.nx (s := [x0, .lst (iD ns'), .non, .non, .non, .non, .non, .non, .non, .non, .non, .non, .non]) (by simp [hf2]) ⟨ns', rfl⟩
theorem law_ok_k25 [C_law_k25 T] (ns : List Int) (hn : ns.length ≤ 63) :
    ∃ os, runF T (m + 100) (k + 11) g_law_k25 [.fz (.gvn (iD ns))] = .ok (.fz (.bl true)) os := by
  refine ⟨_, go_law_k25 (r := .ok (.fz (.bl true)) [.fz (.gvn (iD ns))]) rfl nofun ?_⟩
  obtain ⟨ds, e⟩ := draws2_ok (T := T) (m := m + 100) (k := k + 9) ns hn
  simp [B_law_k25, e, rB_0, rB_lit]
  refine wFor (fun j s => ∃ ds, s = [.fz (.gvn (iD ns)), .lst (iD ds), .non, .non, .non, .non, .non, .non, .non, .non, .non, .non, .non]) (by simp) ⟨ds, rfl⟩ ?_ ?_
  · rintro j d _ hd ⟨ds, rfl⟩ R hR
    refine ⟨_, by simp; rfl, ?_⟩
    refine (k25_L1 ds rfl).weak fun o _ q => ?_
    obtain ⟨ns', rfl⟩ := q
    exact hR.nx _ ⟨ns', rfl⟩
  · rintro _ ⟨ds, rfl⟩
    simp
end Z

namespace Z
open PySem PySem.Spec PyProof.Rows L2
abbrev topS (i : Nat) : Stmt := PySem.Challenge.pw_allcaught_k25_whole_ways_of_great_states.main.body.getD i (.Pass ⟨0, 0, 0, 0⟩)
def gl : List (Str × Gv) := [(Str.ofString "isinstance", Gv.blt), (Str.ofString "int", Gv.blt), (Str.ofString "bool", Gv.blt), (Str.ofString "all", Gv.blt), (Str.ofString "zip", Gv.blt), (Str.ofString "MOST_BALLS", Gv.con (.int 60)), (Str.ofString "are_ascending", Gv.fn 1), (Str.ofString "tuple", Gv.blt), (Str.ofString "len", Gv.blt), (Str.ofString "is_within", Gv.fn 0), (Str.ofString "HIGHEST_patterns", Gv.con (.int 60)), (Str.ofString "is_state_states", Gv.fn 2), (Str.ofString "NotRight", Gv.exc 1), (Str.ofString "sorted", Gv.blt), (Str.ofString "behind", Gv.fn 5), (Str.ofString "fits", Gv.fn 4), (Str.ofString "check_state", Gv.fn 3), (Str.ofString "NotThere", Gv.exc 2), (Str.ofString "check_both", Gv.fn 7), (Str.ofString "does_reach", Gv.fn 8), (Str.ofString "range", Gv.blt), (Str.ofString "NoAnswer", Gv.exc 3), (Str.ofString "thrown", Gv.fn 6), (Str.ofString "HIGHEST_checkthrows", Gv.con (.int 60)), (Str.ofString "step", Gv.fn 14), (Str.ofString "need", Gv.fn 12), (Str.ofString "end_of", Gv.fn 15), (Str.ofString "is_state_checkthrows", Gv.fn 13), (Str.ofString "list", Gv.blt), (Str.ofString "abs", Gv.blt), (Str.ofString "reversed", Gv.blt), (Str.ofString "_law_take", Gv.fn 18), (Str.ofString "dict", Gv.blt), (Str.ofString "str", Gv.blt), (Str.ofString "_law_same", Gv.fn 21), (Str.ofString "_law_step", Gv.fn 22), (Str.ofString "_law_shuffled", Gv.fn 20), (Str.ofString "way_of", Gv.fn 10), (Str.ofString "_law_pick", Gv.fn 19), (Str.ofString "max", Gv.blt), (Str.ofString "_law_state", Gv.fn 24), (Str.ofString "min", Gv.blt), (Str.ofString "_law_told", Gv.fn 26), (Str.ofString "_law_fits", Gv.fn 25), (Str.ofString "_law_end", Gv.fn 23), (Str.ofString "is_way", Gv.fn 11), (Str.ofString "takes_way", Gv.fn 16), (Str.ofString "_law_draws", Gv.fn 17), (Str.ofString "_law_two", Gv.fn 27), (Str.ofString "repr", Gv.blt), (Str.ofString "_law_is_way_told", Gv.fn 28), (Str.ofString "gap_of", Gv.fn 9)]
def g0 : List (Str × Gv) := [(Str.ofString "isinstance", Gv.blt), (Str.ofString "NotRight", Gv.exc 1), (Str.ofString "NotThere", Gv.exc 2), (Str.ofString "NoAnswer", Gv.exc 3)]
def r0 : Row := ⟨Str.ofString "is_within", Str.ofString "is_within", topS 5, [Str.ofString "value", Str.ofString "low", Str.ofString "high"], [Str.ofString "value", Str.ofString "low", Str.ofString "high"], F_is_within⟩
def r1 : Row := ⟨Str.ofString "are_ascending", Str.ofString "are_ascending", topS 6, [Str.ofString "values", Str.ofString "one", Str.ofString "other"], [Str.ofString "values"], F_are_ascending⟩
def r2 : Row := ⟨Str.ofString "is_state", Str.ofString "is_state", topS 10, [Str.ofString "value", Str.ofString "one"], [Str.ofString "value"], F_is_state⟩
def r3 : Row := ⟨Str.ofString "check_state", Str.ofString "check_state", topS 12, [Str.ofString "state"], [Str.ofString "state"], F_check_state⟩
def r4 : Row := ⟨Str.ofString "fits", Str.ofString "fits", topS 13, [Str.ofString "state", Str.ofString "h"], [Str.ofString "state", Str.ofString "h"], F_fits⟩
def r5 : Row := ⟨Str.ofString "behind", Str.ofString "behind", topS 14, [Str.ofString "state", Str.ofString "h", Str.ofString "left", Str.ofString "one"], [Str.ofString "state", Str.ofString "h"], F_behind⟩
def r6 : Row := ⟨Str.ofString "thrown", Str.ofString "thrown", topS 15, [Str.ofString "state", Str.ofString "heights", Str.ofString "h"], [Str.ofString "state", Str.ofString "heights"], F_thrown⟩
def r7 : Row := ⟨Str.ofString "check_both", Str.ofString "check_both", topS 16, [Str.ofString "state", Str.ofString "other"], [Str.ofString "state", Str.ofString "other"], F_check_both⟩
def r8 : Row := ⟨Str.ofString "does_reach", Str.ofString "does_reach", topS 17, [Str.ofString "state", Str.ofString "other", Str.ofString "length", Str.ofString "one"], [Str.ofString "state", Str.ofString "other", Str.ofString "length"], F_does_reach⟩
def r9 : Row := ⟨Str.ofString "gap_of", Str.ofString "gap_of", topS 18, [Str.ofString "state", Str.ofString "other", Str.ofString "length"], [Str.ofString "state", Str.ofString "other"], F_gap_of⟩
def r10 : Row := ⟨Str.ofString "way_of", Str.ofString "way_of", topS 19, [Str.ofString "state", Str.ofString "other", Str.ofString "length", Str.ofString "open_ones", Str.ofString "heights", Str.ofString "beat", Str.ofString "one"], [Str.ofString "state", Str.ofString "other", Str.ofString "length"], F_way_of⟩
def r11 : Row := ⟨Str.ofString "is_way", Str.ofString "is_way", topS 20, [Str.ofString "state", Str.ofString "other", Str.ofString "heights"], [Str.ofString "state", Str.ofString "other", Str.ofString "heights"], F_is_way⟩
def r12 : Row := ⟨Str.ofString "need", Str.ofString "need", topS 23, [Str.ofString "is_right"], [Str.ofString "is_right"], F_need⟩
def r13 : Row := ⟨Str.ofString "is_state", Str.ofString "is_state", topS 24, [Str.ofString "value", Str.ofString "one"], [Str.ofString "value"], F_is_state_v2⟩
def r14 : Row := ⟨Str.ofString "step", Str.ofString "step", topS 26, [Str.ofString "state", Str.ofString "height", Str.ofString "left", Str.ofString "one"], [Str.ofString "state", Str.ofString "height"], F_step⟩
def r15 : Row := ⟨Str.ofString "end_of", Str.ofString "end_of", topS 27, [Str.ofString "state", Str.ofString "heights", Str.ofString "height"], [Str.ofString "state", Str.ofString "heights"], F_end_of⟩
def r16 : Row := ⟨Str.ofString "takes_way", Str.ofString "takes_way", topS 28, [Str.ofString "state", Str.ofString "other", Str.ofString "heights"], [Str.ofString "state", Str.ofString "other", Str.ofString "heights"], F_takes_way⟩
def r17 : Row := ⟨Str.ofString "_law_draws", Str.ofString "_law_draws", topS 30, [Str.ofString "script", Str.ofString "draws", Str.ofString "cell", Str.ofString "seed", Str.ofString "k", Str.ofString "number", Str.ofString "first"], [Str.ofString "script"], F_law_draws_v2⟩
def r18 : Row := ⟨Str.ofString "_law_take", Str.ofString "_law_take", topS 31, [Str.ofString "draws", Str.ofString "bound"], [Str.ofString "draws", Str.ofString "bound"], F_law_take⟩
def r19 : Row := ⟨Str.ofString "_law_pick", Str.ofString "_law_pick", topS 32, [Str.ofString "draws", Str.ofString "items"], [Str.ofString "draws", Str.ofString "items"], F_law_pick⟩
def r20 : Row := ⟨Str.ofString "_law_shuffled", Str.ofString "_law_shuffled", topS 33, [Str.ofString "draws", Str.ofString "items", Str.ofString "waiting", Str.ofString "found", Str.ofString "k"], [Str.ofString "draws", Str.ofString "items"], F_law_shuffled⟩
def r21 : Row := ⟨Str.ofString "_law_same", Str.ofString "_law_same", topS 34, [Str.ofString "told", Str.ofString "due", Str.ofString "key", Str.ofString "k"], [Str.ofString "told", Str.ofString "due"], F_law_same_v2⟩
def r22 : Row := ⟨Str.ofString "_law_step", Str.ofString "_law_step", topS 35, [Str.ofString "state", Str.ofString "height", Str.ofString "left", Str.ofString "one"], [Str.ofString "state", Str.ofString "height"], F_law_step⟩
def r23 : Row := ⟨Str.ofString "_law_end", Str.ofString "_law_end", topS 36, [Str.ofString "state", Str.ofString "heights", Str.ofString "height"], [Str.ofString "state", Str.ofString "heights"], F_law_end⟩
def r24 : Row := ⟨Str.ofString "_law_state", Str.ofString "_law_state", topS 37, [Str.ofString "draws", Str.ofString "most", Str.ofString "balls"], [Str.ofString "draws", Str.ofString "most", Str.ofString "balls"], F_law_state⟩
def r25 : Row := ⟨Str.ofString "_law_fits", Str.ofString "_law_fits", topS 38, [Str.ofString "state", Str.ofString "other", Str.ofString "length", Str.ofString "one"], [Str.ofString "state", Str.ofString "other", Str.ofString "length"], F_law_fits⟩
def r26 : Row := ⟨Str.ofString "_law_told", Str.ofString "_law_told", topS 39, [Str.ofString "state", Str.ofString "other", Str.ofString "length"], [Str.ofString "state", Str.ofString "other", Str.ofString "length"], F_law_told_v5⟩
def r27 : Row := ⟨Str.ofString "_law_two", Str.ofString "_law_two", topS 40, [Str.ofString "draws", Str.ofString "balls", Str.ofString "most", Str.ofString "state", Str.ofString "other", Str.ofString "turn", Str.ofString "free", Str.ofString "h"], [Str.ofString "draws"], F_law_two⟩
def r28 : Row := ⟨Str.ofString "_law_is_way_told", Str.ofString "_law_is_way_told", topS 41, [Str.ofString "draws", Str.ofString "state", Str.ofString "other", Str.ofString "length", Str.ofString "told", Str.ofString "bent", Str.ofString "again", Str.ofString "due", Str.ofString "kind", Str.ofString "j", Str.ofString "k", Str.ofString "h"], [Str.ofString "draws", Str.ofString "state", Str.ofString "other", Str.ofString "length"], F_law_is_way_told⟩
def r29 : Row := ⟨Str.ofString "law", Str.ofString "law", topS 42, [Str.ofString "script", Str.ofString "draws", Str.ofString "turn", Str.ofString "kept", Str.ofString "gaps", Str.ofString "above", Str.ofString "length", Str.ofString "state", Str.ofString "other", Str.ofString "there", Str.ofString "back", Str.ofString "one", Str.ofString "two"], [Str.ofString "script"], F_law_k25⟩
def rows : List Row := [r0, r1, r2, r3, r4, r5, r6, r7, r8, r9, r10, r11, r12, r13, r14, r15, r16, r17, r18, r19, r20, r21, r22, r23, r24, r25, r26, r27, r28, r29]
def flrows : List FlRow := []
theorem hrow : ∀ r ∈ rows, rowB 80 gl r = true := AllP.mem (l := rows) (f := fun (r : Row) => rowB 80 gl r = true) ⟨by decide +kernel, by decide +kernel, by decide +kernel, by decide +kernel, by decide +kernel, by decide +kernel, by decide +kernel, by decide +kernel, by decide +kernel, by decide +kernel, by decide +kernel, by decide +kernel, by decide +kernel, by decide +kernel, by decide +kernel, by decide +kernel, by decide +kernel, by decide +kernel, by decide +kernel, by decide +kernel, by decide +kernel, by decide +kernel, by decide +kernel, by decide +kernel, by decide +kernel, by decide +kernel, by decide +kernel, by decide +kernel, by decide +kernel, by decide +kernel, trivial⟩
theorem hb0 : cB 80 (r0.ce gl) (defBody r0.st) = some r0.fn.body := by kernel_rfl
theorem hb1 : cB 80 (r1.ce gl) (defBody r1.st) = some r1.fn.body := by kernel_rfl
theorem hb2 : cB 80 (r2.ce gl) (defBody r2.st) = some r2.fn.body := by kernel_rfl
theorem hb3 : cB 80 (r3.ce gl) (defBody r3.st) = some r3.fn.body := by kernel_rfl
theorem hb4 : cB 80 (r4.ce gl) (defBody r4.st) = some r4.fn.body := by kernel_rfl
theorem hb5 : cB 80 (r5.ce gl) (defBody r5.st) = some r5.fn.body := by kernel_rfl
theorem hb6 : cB 80 (r6.ce gl) (defBody r6.st) = some r6.fn.body := by kernel_rfl
theorem hb7 : cB 80 (r7.ce gl) (defBody r7.st) = some r7.fn.body := by kernel_rfl
theorem hb8 : cB 80 (r8.ce gl) (defBody r8.st) = some r8.fn.body := by kernel_rfl
theorem hb9 : cB 80 (r9.ce gl) (defBody r9.st) = some r9.fn.body := by kernel_rfl
theorem hb10 : cB 80 (r10.ce gl) (defBody r10.st) = some r10.fn.body := by kernel_rfl
theorem hb11 : cB 80 (r11.ce gl) (defBody r11.st) = some r11.fn.body := by kernel_rfl
theorem hb12 : cB 80 (r12.ce gl) (defBody r12.st) = some r12.fn.body := by kernel_rfl
theorem hb13 : cB 80 (r13.ce gl) (defBody r13.st) = some r13.fn.body := by kernel_rfl
theorem hb14 : cB 80 (r14.ce gl) (defBody r14.st) = some r14.fn.body := by kernel_rfl
theorem hb15 : cB 80 (r15.ce gl) (defBody r15.st) = some r15.fn.body := by kernel_rfl
theorem hb16 : cB 80 (r16.ce gl) (defBody r16.st) = some r16.fn.body := by kernel_rfl
theorem hb17 : cB 80 (r17.ce gl) (defBody r17.st) = some r17.fn.body := by kernel_rfl
theorem hb18 : cB 80 (r18.ce gl) (defBody r18.st) = some r18.fn.body := by kernel_rfl
theorem hb19 : cB 80 (r19.ce gl) (defBody r19.st) = some r19.fn.body := by kernel_rfl
theorem hb20 : cB 80 (r20.ce gl) (defBody r20.st) = some r20.fn.body := by kernel_rfl
theorem hb21 : cB 80 (r21.ce gl) (defBody r21.st) = some r21.fn.body := by kernel_rfl
theorem hb22 : cB 80 (r22.ce gl) (defBody r22.st) = some r22.fn.body := by kernel_rfl
theorem hb23 : cB 80 (r23.ce gl) (defBody r23.st) = some r23.fn.body := by kernel_rfl
theorem hb24 : cB 80 (r24.ce gl) (defBody r24.st) = some r24.fn.body := by kernel_rfl
theorem hb25 : cB 80 (r25.ce gl) (defBody r25.st) = some r25.fn.body := by kernel_rfl
theorem hb26 : cB 80 (r26.ce gl) (defBody r26.st) = some r26.fn.body := by kernel_rfl
theorem hb27 : cB 80 (r27.ce gl) (defBody r27.st) = some r27.fn.body := by kernel_rfl
theorem hb28 : cB 80 (r28.ce gl) (defBody r28.st) = some r28.fn.body := by kernel_rfl
theorem hb29 : cB 80 (r29.ce gl) (defBody r29.st) = some r29.fn.body := by kernel_rfl
theorem hbody : ∀ r ∈ rows, cB 80 (r.ce gl) (defBody r.st) = some r.fn.body := AllP.mem (l := rows) (f := fun (r : Row) => cB 80 (r.ce gl) (defBody r.st) = some r.fn.body) ⟨hb0, hb1, hb2, hb3, hb4, hb5, hb6, hb7, hb8, hb9, hb10, hb11, hb12, hb13, hb14, hb15, hb16, hb17, hb18, hb19, hb20, hb21, hb22, hb23, hb24, hb25, hb26, hb27, hb28, hb29, trivial⟩
theorem hfl : ∀ r ∈ flrows, flB 80 g0 r = true ∧ ∀ j, j < 6 → cB 80 (r.ce g0 j) (defBody r.st) = some [.ret (.lst (r.cs.map fun c => .con (.bl (j == c || c == 0))))] := AllP.mem (l := flrows) (f := fun (r : FlRow) => flB 80 g0 r = true ∧ ∀ j, j < 6 → cB 80 (r.ce g0 j) (defBody r.st) = some [.ret (.lst (r.cs.map fun c => .con (.bl (j == c || c == 0))))]) trivial
def tab : List Fn := rows.map Row.fn
instance : C_is_within tab where at_is_within := rfl
instance : C_are_ascending tab where at_are_ascending := rfl
instance : C_is_state tab where at_is_state := rfl
instance : C_check_state tab where at_check_state := rfl
instance : C_fits tab where at_fits := rfl
instance : C_behind tab where at_behind := rfl
instance : C_thrown tab where at_thrown := rfl
instance : C_check_both tab where at_check_both := rfl
instance : C_does_reach tab where at_does_reach := rfl
instance : C_gap_of tab where at_gap_of := rfl
instance : C_way_of tab where at_way_of := rfl
instance : C_is_way tab where at_is_way := rfl
instance : C_need tab where at_need := rfl
instance : C_is_state_v2 tab where at_is_state_v2 := rfl
instance : C_step tab where at_step := rfl
instance : C_end_of tab where at_end_of := rfl
instance : C_takes_way tab where at_takes_way := rfl
instance : C_law_draws_v2 tab where at_law_draws_v2 := rfl
instance : C_law_take tab where at_law_take := rfl
instance : C_law_pick tab where at_law_pick := rfl
instance : C_law_shuffled tab where at_law_shuffled := rfl
instance : C_law_same_v2 tab where at_law_same_v2 := rfl
instance : C_law_step tab where at_law_step := rfl
instance : C_law_end tab where at_law_end := rfl
instance : C_law_state tab where at_law_state := rfl
instance : C_law_fits tab where at_law_fits := rfl
instance : C_law_told_v5 tab where at_law_told_v5 := rfl
instance : C_law_two tab where at_law_two := rfl
instance : C_law_is_way_told tab where at_law_is_way_told := rfl
instance : C_law_k25 tab where at_law_k25 := rfl
def run : List Sl → CR := runF (rows.map Row.fn) 1000 50 29
theorem plain_law (ns : List Int) (h : ns.length ≤ 63) : ∃ os, run [.fz (.gvn (ns.map D.int))] = .ok (.fz (.bl true)) os := law_ok_k25 (T := tab) (m := 900) (k := 39) ns h
theorem all_mk {l : PySem.W.OpenLaw} {w : World} {K : PySem.W.Frag} {h : Heap} {mg : Str → Option Value} {fa : Addr} (X : K.In h) (G : h.Ns mainGlobals mg) (hfa : mg "law" = some (.ref fa))
    {f_0 : Addr} {od0 an0 : Option Addr} {sl0 : Array (Option Value)} {oc0 kV0 dc0 pm0 cd0 ct0 : Value}
    {f_1 : Addr} {od1 an1 : Option Addr} {sl1 : Array (Option Value)} {oc1 kV1 dc1 pm1 cd1 ct1 : Value}
    {f_2 : Addr} {od2 an2 : Option Addr} {sl2 : Array (Option Value)} {oc2 kV2 dc2 pm2 cd2 ct2 : Value}
    {f_3 : Addr} {od3 an3 : Option Addr} {sl3 : Array (Option Value)} {oc3 kV3 dc3 pm3 cd3 ct3 : Value}
    {f_4 : Addr} {od4 an4 : Option Addr} {sl4 : Array (Option Value)} {oc4 kV4 dc4 pm4 cd4 ct4 : Value}
    {f_5 : Addr} {od5 an5 : Option Addr} {sl5 : Array (Option Value)} {oc5 kV5 dc5 pm5 cd5 ct5 : Value}
    {f_6 : Addr} {od6 an6 : Option Addr} {sl6 : Array (Option Value)} {oc6 kV6 dc6 pm6 cd6 ct6 : Value}
    {f_7 : Addr} {od7 an7 : Option Addr} {sl7 : Array (Option Value)} {oc7 kV7 dc7 pm7 cd7 ct7 : Value}
    {f_8 : Addr} {od8 an8 : Option Addr} {sl8 : Array (Option Value)} {oc8 kV8 dc8 pm8 cd8 ct8 : Value}
    {f_9 : Addr} {od9 an9 : Option Addr} {sl9 : Array (Option Value)} {oc9 kV9 dc9 pm9 cd9 ct9 : Value}
    {f_10 : Addr} {od10 an10 : Option Addr} {sl10 : Array (Option Value)} {oc10 kV10 dc10 pm10 cd10 ct10 : Value}
    {f_11 : Addr} {od11 an11 : Option Addr} {sl11 : Array (Option Value)} {oc11 kV11 dc11 pm11 cd11 ct11 : Value}
    {f_12 : Addr} {od12 an12 : Option Addr} {sl12 : Array (Option Value)} {oc12 kV12 dc12 pm12 cd12 ct12 : Value}
    {f_13 : Addr} {od13 an13 : Option Addr} {sl13 : Array (Option Value)} {oc13 kV13 dc13 pm13 cd13 ct13 : Value}
    {f_14 : Addr} {od14 an14 : Option Addr} {sl14 : Array (Option Value)} {oc14 kV14 dc14 pm14 cd14 ct14 : Value}
    {f_15 : Addr} {od15 an15 : Option Addr} {sl15 : Array (Option Value)} {oc15 kV15 dc15 pm15 cd15 ct15 : Value}
    {f_16 : Addr} {od16 an16 : Option Addr} {sl16 : Array (Option Value)} {oc16 kV16 dc16 pm16 cd16 ct16 : Value}
    {f_17 : Addr} {od17 an17 : Option Addr} {sl17 : Array (Option Value)} {oc17 kV17 dc17 pm17 cd17 ct17 : Value}
    {f_18 : Addr} {od18 an18 : Option Addr} {sl18 : Array (Option Value)} {oc18 kV18 dc18 pm18 cd18 ct18 : Value}
    {f_19 : Addr} {od19 an19 : Option Addr} {sl19 : Array (Option Value)} {oc19 kV19 dc19 pm19 cd19 ct19 : Value}
    {f_20 : Addr} {od20 an20 : Option Addr} {sl20 : Array (Option Value)} {oc20 kV20 dc20 pm20 cd20 ct20 : Value}
    {f_21 : Addr} {od21 an21 : Option Addr} {sl21 : Array (Option Value)} {oc21 kV21 dc21 pm21 cd21 ct21 : Value}
    {f_22 : Addr} {od22 an22 : Option Addr} {sl22 : Array (Option Value)} {oc22 kV22 dc22 pm22 cd22 ct22 : Value}
    {f_23 : Addr} {od23 an23 : Option Addr} {sl23 : Array (Option Value)} {oc23 kV23 dc23 pm23 cd23 ct23 : Value}
    {f_24 : Addr} {od24 an24 : Option Addr} {sl24 : Array (Option Value)} {oc24 kV24 dc24 pm24 cd24 ct24 : Value}
    {f_25 : Addr} {od25 an25 : Option Addr} {sl25 : Array (Option Value)} {oc25 kV25 dc25 pm25 cd25 ct25 : Value}
    {f_26 : Addr} {od26 an26 : Option Addr} {sl26 : Array (Option Value)} {oc26 kV26 dc26 pm26 cd26 ct26 : Value}
    {f_27 : Addr} {od27 an27 : Option Addr} {sl27 : Array (Option Value)} {oc27 kV27 dc27 pm27 cd27 ct27 : Value}
    {f_28 : Addr} {od28 an28 : Option Addr} {sl28 : Array (Option Value)} {oc28 kV28 dc28 pm28 cd28 ct28 : Value}
    {f_29 : Addr} {od29 an29 : Option Addr} {sl29 : Array (Option Value)} {oc29 kV29 dc29 pm29 cd29 ct29 : Value}
    {C0 : Addr}
    {C1 : Addr}
    {C2 : Addr}
    {C3 : Addr}
    {t0 : Tok}
    {t1 : Tok}
    {t2 : Tok}
    (n0 : PySem.W.nsIn K mainGlobals "CatchError" = some (some (.ref C0)))
    (n1 : PySem.W.nsIn K mainGlobals "NotRight" = some (some (.ref C1)))
    (n2 : PySem.W.nsIn K mainGlobals "NotThere" = some (some (.ref C2)))
    (n3 : PySem.W.nsIn K mainGlobals "NoAnswer" = some (some (.ref C3)))
    (a0 : PySem.W.nsIn K mainGlobals "is_within" = some (some (.ref f_0)))
    (l0 : K.lookup f_0 = some ⟨oc0, od0, .func (PySem.W.fnOf "is_within" "is_within" (defArgs r0.st) (defBody r0.st) (defScope r0.st) .none kV0 dc0 pm0 an0 cd0 ct0), sl0⟩)
    (c0 : PySem.W.codeIn K cd0 "is_within" = true)
    (k0 : PySem.W.keepIn K (.ref f_0) = true)
    (a1 : PySem.W.nsIn K mainGlobals "are_ascending" = some (some (.ref f_1)))
    (l1 : K.lookup f_1 = some ⟨oc1, od1, .func (PySem.W.fnOf "are_ascending" "are_ascending" (defArgs r1.st) (defBody r1.st) (defScope r1.st) .none kV1 dc1 pm1 an1 cd1 ct1), sl1⟩)
    (c1 : PySem.W.codeIn K cd1 "are_ascending" = true)
    (k1 : PySem.W.keepIn K (.ref f_1) = true)
    (a2 : PySem.W.nsIn K mainGlobals "is_state_states" = some (some (.ref f_2)))
    (l2 : K.lookup f_2 = some ⟨oc2, od2, .func (PySem.W.fnOf "is_state" "is_state" (defArgs r2.st) (defBody r2.st) (defScope r2.st) .none kV2 dc2 pm2 an2 cd2 ct2), sl2⟩)
    (c2 : PySem.W.codeIn K cd2 "is_state" = true)
    (k2 : PySem.W.keepIn K (.ref f_2) = true)
    (a3 : PySem.W.nsIn K mainGlobals "check_state" = some (some (.ref f_3)))
    (l3 : K.lookup f_3 = some ⟨oc3, od3, .func (PySem.W.fnOf "check_state" "check_state" (defArgs r3.st) (defBody r3.st) (defScope r3.st) .none kV3 dc3 pm3 an3 cd3 ct3), sl3⟩)
    (c3 : PySem.W.codeIn K cd3 "check_state" = true)
    (k3 : PySem.W.keepIn K (.ref f_3) = true)
    (a4 : PySem.W.nsIn K mainGlobals "fits" = some (some (.ref f_4)))
    (l4 : K.lookup f_4 = some ⟨oc4, od4, .func (PySem.W.fnOf "fits" "fits" (defArgs r4.st) (defBody r4.st) (defScope r4.st) .none kV4 dc4 pm4 an4 cd4 ct4), sl4⟩)
    (c4 : PySem.W.codeIn K cd4 "fits" = true)
    (k4 : PySem.W.keepIn K (.ref f_4) = true)
    (a5 : PySem.W.nsIn K mainGlobals "behind" = some (some (.ref f_5)))
    (l5 : K.lookup f_5 = some ⟨oc5, od5, .func (PySem.W.fnOf "behind" "behind" (defArgs r5.st) (defBody r5.st) (defScope r5.st) .none kV5 dc5 pm5 an5 cd5 ct5), sl5⟩)
    (c5 : PySem.W.codeIn K cd5 "behind" = true)
    (k5 : PySem.W.keepIn K (.ref f_5) = true)
    (a6 : PySem.W.nsIn K mainGlobals "thrown" = some (some (.ref f_6)))
    (l6 : K.lookup f_6 = some ⟨oc6, od6, .func (PySem.W.fnOf "thrown" "thrown" (defArgs r6.st) (defBody r6.st) (defScope r6.st) .none kV6 dc6 pm6 an6 cd6 ct6), sl6⟩)
    (c6 : PySem.W.codeIn K cd6 "thrown" = true)
    (k6 : PySem.W.keepIn K (.ref f_6) = true)
    (a7 : PySem.W.nsIn K mainGlobals "check_both" = some (some (.ref f_7)))
    (l7 : K.lookup f_7 = some ⟨oc7, od7, .func (PySem.W.fnOf "check_both" "check_both" (defArgs r7.st) (defBody r7.st) (defScope r7.st) .none kV7 dc7 pm7 an7 cd7 ct7), sl7⟩)
    (c7 : PySem.W.codeIn K cd7 "check_both" = true)
    (k7 : PySem.W.keepIn K (.ref f_7) = true)
    (a8 : PySem.W.nsIn K mainGlobals "does_reach" = some (some (.ref f_8)))
    (l8 : K.lookup f_8 = some ⟨oc8, od8, .func (PySem.W.fnOf "does_reach" "does_reach" (defArgs r8.st) (defBody r8.st) (defScope r8.st) .none kV8 dc8 pm8 an8 cd8 ct8), sl8⟩)
    (c8 : PySem.W.codeIn K cd8 "does_reach" = true)
    (k8 : PySem.W.keepIn K (.ref f_8) = true)
    (a9 : PySem.W.nsIn K mainGlobals "gap_of" = some (some (.ref f_9)))
    (l9 : K.lookup f_9 = some ⟨oc9, od9, .func (PySem.W.fnOf "gap_of" "gap_of" (defArgs r9.st) (defBody r9.st) (defScope r9.st) .none kV9 dc9 pm9 an9 cd9 ct9), sl9⟩)
    (c9 : PySem.W.codeIn K cd9 "gap_of" = true)
    (k9 : PySem.W.keepIn K (.ref f_9) = true)
    (a10 : PySem.W.nsIn K mainGlobals "way_of" = some (some (.ref f_10)))
    (l10 : K.lookup f_10 = some ⟨oc10, od10, .func (PySem.W.fnOf "way_of" "way_of" (defArgs r10.st) (defBody r10.st) (defScope r10.st) .none kV10 dc10 pm10 an10 cd10 ct10), sl10⟩)
    (c10 : PySem.W.codeIn K cd10 "way_of" = true)
    (k10 : PySem.W.keepIn K (.ref f_10) = true)
    (a11 : PySem.W.nsIn K mainGlobals "is_way" = some (some (.ref f_11)))
    (l11 : K.lookup f_11 = some ⟨oc11, od11, .func (PySem.W.fnOf "is_way" "is_way" (defArgs r11.st) (defBody r11.st) (defScope r11.st) .none kV11 dc11 pm11 an11 cd11 ct11), sl11⟩)
    (c11 : PySem.W.codeIn K cd11 "is_way" = true)
    (k11 : PySem.W.keepIn K (.ref f_11) = true)
    (a12 : PySem.W.nsIn K mainGlobals "need" = some (some (.ref f_12)))
    (l12 : K.lookup f_12 = some ⟨oc12, od12, .func (PySem.W.fnOf "need" "need" (defArgs r12.st) (defBody r12.st) (defScope r12.st) .none kV12 dc12 pm12 an12 cd12 ct12), sl12⟩)
    (c12 : PySem.W.codeIn K cd12 "need" = true)
    (k12 : PySem.W.keepIn K (.ref f_12) = true)
    (a13 : PySem.W.nsIn K mainGlobals "is_state_checkthrows" = some (some (.ref f_13)))
    (l13 : K.lookup f_13 = some ⟨oc13, od13, .func (PySem.W.fnOf "is_state" "is_state" (defArgs r13.st) (defBody r13.st) (defScope r13.st) .none kV13 dc13 pm13 an13 cd13 ct13), sl13⟩)
    (c13 : PySem.W.codeIn K cd13 "is_state" = true)
    (k13 : PySem.W.keepIn K (.ref f_13) = true)
    (a14 : PySem.W.nsIn K mainGlobals "step" = some (some (.ref f_14)))
    (l14 : K.lookup f_14 = some ⟨oc14, od14, .func (PySem.W.fnOf "step" "step" (defArgs r14.st) (defBody r14.st) (defScope r14.st) .none kV14 dc14 pm14 an14 cd14 ct14), sl14⟩)
    (c14 : PySem.W.codeIn K cd14 "step" = true)
    (k14 : PySem.W.keepIn K (.ref f_14) = true)
    (a15 : PySem.W.nsIn K mainGlobals "end_of" = some (some (.ref f_15)))
    (l15 : K.lookup f_15 = some ⟨oc15, od15, .func (PySem.W.fnOf "end_of" "end_of" (defArgs r15.st) (defBody r15.st) (defScope r15.st) .none kV15 dc15 pm15 an15 cd15 ct15), sl15⟩)
    (c15 : PySem.W.codeIn K cd15 "end_of" = true)
    (k15 : PySem.W.keepIn K (.ref f_15) = true)
    (a16 : PySem.W.nsIn K mainGlobals "takes_way" = some (some (.ref f_16)))
    (l16 : K.lookup f_16 = some ⟨oc16, od16, .func (PySem.W.fnOf "takes_way" "takes_way" (defArgs r16.st) (defBody r16.st) (defScope r16.st) .none kV16 dc16 pm16 an16 cd16 ct16), sl16⟩)
    (c16 : PySem.W.codeIn K cd16 "takes_way" = true)
    (k16 : PySem.W.keepIn K (.ref f_16) = true)
    (a17 : PySem.W.nsIn K mainGlobals "_law_draws" = some (some (.ref f_17)))
    (l17 : K.lookup f_17 = some ⟨oc17, od17, .func (PySem.W.fnOf "_law_draws" "_law_draws" (defArgs r17.st) (defBody r17.st) (defScope r17.st) .none kV17 dc17 pm17 an17 cd17 ct17), sl17⟩)
    (c17 : PySem.W.codeIn K cd17 "_law_draws" = true)
    (k17 : PySem.W.keepIn K (.ref f_17) = true)
    (a18 : PySem.W.nsIn K mainGlobals "_law_take" = some (some (.ref f_18)))
    (l18 : K.lookup f_18 = some ⟨oc18, od18, .func (PySem.W.fnOf "_law_take" "_law_take" (defArgs r18.st) (defBody r18.st) (defScope r18.st) .none kV18 dc18 pm18 an18 cd18 ct18), sl18⟩)
    (c18 : PySem.W.codeIn K cd18 "_law_take" = true)
    (k18 : PySem.W.keepIn K (.ref f_18) = true)
    (a19 : PySem.W.nsIn K mainGlobals "_law_pick" = some (some (.ref f_19)))
    (l19 : K.lookup f_19 = some ⟨oc19, od19, .func (PySem.W.fnOf "_law_pick" "_law_pick" (defArgs r19.st) (defBody r19.st) (defScope r19.st) .none kV19 dc19 pm19 an19 cd19 ct19), sl19⟩)
    (c19 : PySem.W.codeIn K cd19 "_law_pick" = true)
    (k19 : PySem.W.keepIn K (.ref f_19) = true)
    (a20 : PySem.W.nsIn K mainGlobals "_law_shuffled" = some (some (.ref f_20)))
    (l20 : K.lookup f_20 = some ⟨oc20, od20, .func (PySem.W.fnOf "_law_shuffled" "_law_shuffled" (defArgs r20.st) (defBody r20.st) (defScope r20.st) .none kV20 dc20 pm20 an20 cd20 ct20), sl20⟩)
    (c20 : PySem.W.codeIn K cd20 "_law_shuffled" = true)
    (k20 : PySem.W.keepIn K (.ref f_20) = true)
    (a21 : PySem.W.nsIn K mainGlobals "_law_same" = some (some (.ref f_21)))
    (l21 : K.lookup f_21 = some ⟨oc21, od21, .func (PySem.W.fnOf "_law_same" "_law_same" (defArgs r21.st) (defBody r21.st) (defScope r21.st) .none kV21 dc21 pm21 an21 cd21 ct21), sl21⟩)
    (c21 : PySem.W.codeIn K cd21 "_law_same" = true)
    (k21 : PySem.W.keepIn K (.ref f_21) = true)
    (a22 : PySem.W.nsIn K mainGlobals "_law_step" = some (some (.ref f_22)))
    (l22 : K.lookup f_22 = some ⟨oc22, od22, .func (PySem.W.fnOf "_law_step" "_law_step" (defArgs r22.st) (defBody r22.st) (defScope r22.st) .none kV22 dc22 pm22 an22 cd22 ct22), sl22⟩)
    (c22 : PySem.W.codeIn K cd22 "_law_step" = true)
    (k22 : PySem.W.keepIn K (.ref f_22) = true)
    (a23 : PySem.W.nsIn K mainGlobals "_law_end" = some (some (.ref f_23)))
    (l23 : K.lookup f_23 = some ⟨oc23, od23, .func (PySem.W.fnOf "_law_end" "_law_end" (defArgs r23.st) (defBody r23.st) (defScope r23.st) .none kV23 dc23 pm23 an23 cd23 ct23), sl23⟩)
    (c23 : PySem.W.codeIn K cd23 "_law_end" = true)
    (k23 : PySem.W.keepIn K (.ref f_23) = true)
    (a24 : PySem.W.nsIn K mainGlobals "_law_state" = some (some (.ref f_24)))
    (l24 : K.lookup f_24 = some ⟨oc24, od24, .func (PySem.W.fnOf "_law_state" "_law_state" (defArgs r24.st) (defBody r24.st) (defScope r24.st) .none kV24 dc24 pm24 an24 cd24 ct24), sl24⟩)
    (c24 : PySem.W.codeIn K cd24 "_law_state" = true)
    (k24 : PySem.W.keepIn K (.ref f_24) = true)
    (a25 : PySem.W.nsIn K mainGlobals "_law_fits" = some (some (.ref f_25)))
    (l25 : K.lookup f_25 = some ⟨oc25, od25, .func (PySem.W.fnOf "_law_fits" "_law_fits" (defArgs r25.st) (defBody r25.st) (defScope r25.st) .none kV25 dc25 pm25 an25 cd25 ct25), sl25⟩)
    (c25 : PySem.W.codeIn K cd25 "_law_fits" = true)
    (k25 : PySem.W.keepIn K (.ref f_25) = true)
    (a26 : PySem.W.nsIn K mainGlobals "_law_told" = some (some (.ref f_26)))
    (l26 : K.lookup f_26 = some ⟨oc26, od26, .func (PySem.W.fnOf "_law_told" "_law_told" (defArgs r26.st) (defBody r26.st) (defScope r26.st) .none kV26 dc26 pm26 an26 cd26 ct26), sl26⟩)
    (c26 : PySem.W.codeIn K cd26 "_law_told" = true)
    (k26 : PySem.W.keepIn K (.ref f_26) = true)
    (a27 : PySem.W.nsIn K mainGlobals "_law_two" = some (some (.ref f_27)))
    (l27 : K.lookup f_27 = some ⟨oc27, od27, .func (PySem.W.fnOf "_law_two" "_law_two" (defArgs r27.st) (defBody r27.st) (defScope r27.st) .none kV27 dc27 pm27 an27 cd27 ct27), sl27⟩)
    (c27 : PySem.W.codeIn K cd27 "_law_two" = true)
    (k27 : PySem.W.keepIn K (.ref f_27) = true)
    (a28 : PySem.W.nsIn K mainGlobals "_law_is_way_told" = some (some (.ref f_28)))
    (l28 : K.lookup f_28 = some ⟨oc28, od28, .func (PySem.W.fnOf "_law_is_way_told" "_law_is_way_told" (defArgs r28.st) (defBody r28.st) (defScope r28.st) .none kV28 dc28 pm28 an28 cd28 ct28), sl28⟩)
    (c28 : PySem.W.codeIn K cd28 "_law_is_way_told" = true)
    (k28 : PySem.W.keepIn K (.ref f_28) = true)
    (a29 : PySem.W.nsIn K mainGlobals "law" = some (some (.ref f_29)))
    (l29 : K.lookup f_29 = some ⟨oc29, od29, .func (PySem.W.fnOf "law" "law" (defArgs r29.st) (defBody r29.st) (defScope r29.st) .none kV29 dc29 pm29 an29 cd29 ct29), sl29⟩)
    (c29 : PySem.W.codeIn K cd29 "law" = true)
    (k29 : PySem.W.keepIn K (.ref f_29) = true)
    (z0 : PySem.W.nsIn K mainGlobals "isinstance" = some none)
    (z1 : PySem.W.nsIn K mainGlobals "int" = some none)
    (z2 : PySem.W.nsIn K mainGlobals "bool" = some none)
    (z3 : PySem.W.nsIn K mainGlobals "all" = some none)
    (z4 : PySem.W.nsIn K mainGlobals "zip" = some none)
    (z5 : PySem.W.nsIn K mainGlobals "tuple" = some none)
    (z6 : PySem.W.nsIn K mainGlobals "len" = some none)
    (z7 : PySem.W.nsIn K mainGlobals "sorted" = some none)
    (z8 : PySem.W.nsIn K mainGlobals "range" = some none)
    (z9 : PySem.W.nsIn K mainGlobals "list" = some none)
    (z10 : PySem.W.nsIn K mainGlobals "abs" = some none)
    (z11 : PySem.W.nsIn K mainGlobals "reversed" = some none)
    (z12 : PySem.W.nsIn K mainGlobals "dict" = some none)
    (z13 : PySem.W.nsIn K mainGlobals "str" = some none)
    (z14 : PySem.W.nsIn K mainGlobals "max" = some none)
    (z15 : PySem.W.nsIn K mainGlobals "min" = some none)
    (z16 : PySem.W.nsIn K mainGlobals "repr" = some none)
    (q0 : PySem.W.nsIn K mainGlobals "MOST_BALLS" = some (some (.int 60 t0)))
    (q1 : PySem.W.nsIn K mainGlobals "HIGHEST_patterns" = some (some (.int 60 t1)))
    (q2 : PySem.W.nsIn K mainGlobals "HIGHEST_checkthrows" = some (some (.int 60 t2)))
    (hcl : clsAllB K [C0, C1, C2, C3] = true) :
    ∃ fd : FuncData, (∀ (s : Shared) (v : Value), BindsTo s fd ⟨[v], []⟩ [("script", v)]) ∧ ∀ base : Heap, K.In base → base.Ns mainGlobals mg → FnG l.prog w K mg base (L2.CX l.prog w) (50 + 3) fa fd ["script"] (spLaw K run) := by
  have e := hfa.symm.trans (PySem.W.mg_of X G a29)
  cases e
  have F0 := fun_mk (st := r0.st) l0 c0 k0
  have B0 := F0.binds (ps := r0.ps) fun _ _ _ _ _ _ us hl => match us, hl with | [_, _, _], _ => rfl
  have F1 := fun_mk (st := r1.st) l1 c1 k1
  have B1 := F1.binds (ps := r1.ps) fun _ _ _ _ _ _ us hl => match us, hl with | [_], _ => rfl
  have F2 := fun_mk (st := r2.st) l2 c2 k2
  have B2 := F2.binds (ps := r2.ps) fun _ _ _ _ _ _ us hl => match us, hl with | [_], _ => rfl
  have F3 := fun_mk (st := r3.st) l3 c3 k3
  have B3 := F3.binds (ps := r3.ps) fun _ _ _ _ _ _ us hl => match us, hl with | [_], _ => rfl
  have F4 := fun_mk (st := r4.st) l4 c4 k4
  have B4 := F4.binds (ps := r4.ps) fun _ _ _ _ _ _ us hl => match us, hl with | [_, _], _ => rfl
  have F5 := fun_mk (st := r5.st) l5 c5 k5
  have B5 := F5.binds (ps := r5.ps) fun _ _ _ _ _ _ us hl => match us, hl with | [_, _], _ => rfl
  have F6 := fun_mk (st := r6.st) l6 c6 k6
  have B6 := F6.binds (ps := r6.ps) fun _ _ _ _ _ _ us hl => match us, hl with | [_, _], _ => rfl
  have F7 := fun_mk (st := r7.st) l7 c7 k7
  have B7 := F7.binds (ps := r7.ps) fun _ _ _ _ _ _ us hl => match us, hl with | [_, _], _ => rfl
  have F8 := fun_mk (st := r8.st) l8 c8 k8
  have B8 := F8.binds (ps := r8.ps) fun _ _ _ _ _ _ us hl => match us, hl with | [_, _, _], _ => rfl
  have F9 := fun_mk (st := r9.st) l9 c9 k9
  have B9 := F9.binds (ps := r9.ps) fun _ _ _ _ _ _ us hl => match us, hl with | [_, _], _ => rfl
  have F10 := fun_mk (st := r10.st) l10 c10 k10
  have B10 := F10.binds (ps := r10.ps) fun _ _ _ _ _ _ us hl => match us, hl with | [_, _, _], _ => rfl
  have F11 := fun_mk (st := r11.st) l11 c11 k11
  have B11 := F11.binds (ps := r11.ps) fun _ _ _ _ _ _ us hl => match us, hl with | [_, _, _], _ => rfl
  have F12 := fun_mk (st := r12.st) l12 c12 k12
  have B12 := F12.binds (ps := r12.ps) fun _ _ _ _ _ _ us hl => match us, hl with | [_], _ => rfl
  have F13 := fun_mk (st := r13.st) l13 c13 k13
  have B13 := F13.binds (ps := r13.ps) fun _ _ _ _ _ _ us hl => match us, hl with | [_], _ => rfl
  have F14 := fun_mk (st := r14.st) l14 c14 k14
  have B14 := F14.binds (ps := r14.ps) fun _ _ _ _ _ _ us hl => match us, hl with | [_, _], _ => rfl
  have F15 := fun_mk (st := r15.st) l15 c15 k15
  have B15 := F15.binds (ps := r15.ps) fun _ _ _ _ _ _ us hl => match us, hl with | [_, _], _ => rfl
  have F16 := fun_mk (st := r16.st) l16 c16 k16
  have B16 := F16.binds (ps := r16.ps) fun _ _ _ _ _ _ us hl => match us, hl with | [_, _, _], _ => rfl
  have F17 := fun_mk (st := r17.st) l17 c17 k17
  have B17 := F17.binds (ps := r17.ps) fun _ _ _ _ _ _ us hl => match us, hl with | [_], _ => rfl
  have F18 := fun_mk (st := r18.st) l18 c18 k18
  have B18 := F18.binds (ps := r18.ps) fun _ _ _ _ _ _ us hl => match us, hl with | [_, _], _ => rfl
  have F19 := fun_mk (st := r19.st) l19 c19 k19
  have B19 := F19.binds (ps := r19.ps) fun _ _ _ _ _ _ us hl => match us, hl with | [_, _], _ => rfl
  have F20 := fun_mk (st := r20.st) l20 c20 k20
  have B20 := F20.binds (ps := r20.ps) fun _ _ _ _ _ _ us hl => match us, hl with | [_, _], _ => rfl
  have F21 := fun_mk (st := r21.st) l21 c21 k21
  have B21 := F21.binds (ps := r21.ps) fun _ _ _ _ _ _ us hl => match us, hl with | [_, _], _ => rfl
  have F22 := fun_mk (st := r22.st) l22 c22 k22
  have B22 := F22.binds (ps := r22.ps) fun _ _ _ _ _ _ us hl => match us, hl with | [_, _], _ => rfl
  have F23 := fun_mk (st := r23.st) l23 c23 k23
  have B23 := F23.binds (ps := r23.ps) fun _ _ _ _ _ _ us hl => match us, hl with | [_, _], _ => rfl
  have F24 := fun_mk (st := r24.st) l24 c24 k24
  have B24 := F24.binds (ps := r24.ps) fun _ _ _ _ _ _ us hl => match us, hl with | [_, _, _], _ => rfl
  have F25 := fun_mk (st := r25.st) l25 c25 k25
  have B25 := F25.binds (ps := r25.ps) fun _ _ _ _ _ _ us hl => match us, hl with | [_, _, _], _ => rfl
  have F26 := fun_mk (st := r26.st) l26 c26 k26
  have B26 := F26.binds (ps := r26.ps) fun _ _ _ _ _ _ us hl => match us, hl with | [_, _, _], _ => rfl
  have F27 := fun_mk (st := r27.st) l27 c27 k27
  have B27 := F27.binds (ps := r27.ps) fun _ _ _ _ _ _ us hl => match us, hl with | [_], _ => rfl
  have F28 := fun_mk (st := r28.st) l28 c28 k28
  have B28 := F28.binds (ps := r28.ps) fun _ _ _ _ _ _ us hl => match us, hl with | [_, _, _, _], _ => rfl
  have F29 := fun_mk (st := r29.st) l29 c29 k29
  have B29 := F29.binds (ps := r29.ps) fun _ _ _ _ _ _ us hl => match us, hl with | [_], _ => rfl
  have Wk : Wr K mg gl g0 rows flrows [f_0, f_1, f_2, f_3, f_4, f_5, f_6, f_7, f_8, f_9, f_10, f_11, f_12, f_13, f_14, f_15, f_16, f_17, f_18, f_19, f_20, f_21, f_22, f_23, f_24, f_25, f_26, f_27, f_28, fa] [C0, C1, C2, C3] := wr_mk (show All2 _ rows _ from ⟨⟨_, F0, B0⟩, ⟨_, F1, B1⟩, ⟨_, F2, B2⟩, ⟨_, F3, B3⟩, ⟨_, F4, B4⟩, ⟨_, F5, B5⟩, ⟨_, F6, B6⟩, ⟨_, F7, B7⟩, ⟨_, F8, B8⟩, ⟨_, F9, B9⟩, ⟨_, F10, B10⟩, ⟨_, F11, B11⟩, ⟨_, F12, B12⟩, ⟨_, F13, B13⟩, ⟨_, F14, B14⟩, ⟨_, F15, B15⟩, ⟨_, F16, B16⟩, ⟨_, F17, B17⟩, ⟨_, F18, B18⟩, ⟨_, F19, B19⟩, ⟨_, F20, B20⟩, ⟨_, F21, B21⟩, ⟨_, F22, B22⟩, ⟨_, F23, B23⟩, ⟨_, F24, B24⟩, ⟨_, F25, B25⟩, ⟨_, F26, B26⟩, ⟨_, F27, B27⟩, ⟨_, F28, B28⟩, ⟨_, F29, B29⟩, trivial⟩) (show AllP _ gl from ⟨PySem.W.mg_none_of X G z0, PySem.W.mg_none_of X G z1, PySem.W.mg_none_of X G z2, PySem.W.mg_none_of X G z3, PySem.W.mg_none_of X G z4, ⟨.int 60, _, PySem.W.mg_of X G q0, ⟨_, rfl⟩, fun _ => rfl⟩, ⟨_, PySem.W.mg_of X G a1, rfl⟩, PySem.W.mg_none_of X G z5, PySem.W.mg_none_of X G z6, ⟨_, PySem.W.mg_of X G a0, rfl⟩, ⟨.int 60, _, PySem.W.mg_of X G q1, ⟨_, rfl⟩, fun _ => rfl⟩, ⟨_, PySem.W.mg_of X G a2, rfl⟩, ⟨_, PySem.W.mg_of X G n1, rfl⟩, PySem.W.mg_none_of X G z7, ⟨_, PySem.W.mg_of X G a5, rfl⟩, ⟨_, PySem.W.mg_of X G a4, rfl⟩, ⟨_, PySem.W.mg_of X G a3, rfl⟩, ⟨_, PySem.W.mg_of X G n2, rfl⟩, ⟨_, PySem.W.mg_of X G a7, rfl⟩, ⟨_, PySem.W.mg_of X G a8, rfl⟩, PySem.W.mg_none_of X G z8, ⟨_, PySem.W.mg_of X G n3, rfl⟩, ⟨_, PySem.W.mg_of X G a6, rfl⟩, ⟨.int 60, _, PySem.W.mg_of X G q2, ⟨_, rfl⟩, fun _ => rfl⟩, ⟨_, PySem.W.mg_of X G a14, rfl⟩, ⟨_, PySem.W.mg_of X G a12, rfl⟩, ⟨_, PySem.W.mg_of X G a15, rfl⟩, ⟨_, PySem.W.mg_of X G a13, rfl⟩, PySem.W.mg_none_of X G z9, PySem.W.mg_none_of X G z10, PySem.W.mg_none_of X G z11, ⟨_, PySem.W.mg_of X G a18, rfl⟩, PySem.W.mg_none_of X G z12, PySem.W.mg_none_of X G z13, ⟨_, PySem.W.mg_of X G a21, rfl⟩, ⟨_, PySem.W.mg_of X G a22, rfl⟩, ⟨_, PySem.W.mg_of X G a20, rfl⟩, ⟨_, PySem.W.mg_of X G a10, rfl⟩, ⟨_, PySem.W.mg_of X G a19, rfl⟩, PySem.W.mg_none_of X G z14, ⟨_, PySem.W.mg_of X G a24, rfl⟩, PySem.W.mg_none_of X G z15, ⟨_, PySem.W.mg_of X G a26, rfl⟩, ⟨_, PySem.W.mg_of X G a25, rfl⟩, ⟨_, PySem.W.mg_of X G a23, rfl⟩, ⟨_, PySem.W.mg_of X G a11, rfl⟩, ⟨_, PySem.W.mg_of X G a16, rfl⟩, ⟨_, PySem.W.mg_of X G a17, rfl⟩, ⟨_, PySem.W.mg_of X G a27, rfl⟩, PySem.W.mg_none_of X G z16, ⟨_, PySem.W.mg_of X G a28, rfl⟩, ⟨_, PySem.W.mg_of X G a9, rfl⟩, trivial⟩) (show AllP _ g0 from ⟨PySem.W.mg_none_of X G z0, ⟨_, PySem.W.mg_of X G n1, rfl⟩, ⟨_, PySem.W.mg_of X G n2, rfl⟩, ⟨_, PySem.W.mg_of X G n3, rfl⟩, trivial⟩) hcl
  exact ⟨_, fun s v => .of_eq rfl, fun base _ _ => fn_law (tab_ok (m := 1000) Wk hfl hrow hbody 50 29 r29 _ _ rfl rfl F29)⟩
end Z
open PySem PySem.W PyProof.Rows
set_option maxHeartbeats 0 in
theorem PySem.Challenge.cw_allcaught_k25_whole_ways_of_great_states_holds : PySem.Challenge.rw_allcaught_k25_whole_ways_of_great_states.Holds := by
  w_on; o_law; k_head; (case hw => w_witness2)
  k_fill
  refine Z.walk_ofG (l := PySem.Challenge.rw_allcaught_k25_whole_ways_of_great_states) (n := 63) (k := 50 + 3) (x := "script") (CX := fun w => L2.CX PySem.Challenge.pw_allcaught_k25_whole_ways_of_great_states w) (sp := fun w => Z.spLaw _ Z.run) rfl (by decide) rfl ⟨rfl, by decide, by decide⟩ (fun w h Y => PySem.W.kIn_of Y) ?F (fun w H a ns hl _ hS => ⟨rfl, fun fs cs => Z.law_sp Z.plain_law hl hS⟩) (fun _ _ _ _ _ h => Z.cx_none h)
  case F =>
    intro w mg fa h KX G hmg
    refine' Z.all_mk KX G hmg ?n0 ?n1 ?n2 ?n3 ?a0 ?l0 ?c0 ?k0 ?a1 ?l1 ?c1 ?k1 ?a2 ?l2 ?c2 ?k2 ?a3 ?l3 ?c3 ?k3 ?a4 ?l4 ?c4 ?k4 ?a5 ?l5 ?c5 ?k5 ?a6 ?l6 ?c6 ?k6 ?a7 ?l7 ?c7 ?k7 ?a8 ?l8 ?c8 ?k8 ?a9 ?l9 ?c9 ?k9 ?a10 ?l10 ?c10 ?k10 ?a11 ?l11 ?c11 ?k11 ?a12 ?l12 ?c12 ?k12 ?a13 ?l13 ?c13 ?k13 ?a14 ?l14 ?c14 ?k14 ?a15 ?l15 ?c15 ?k15 ?a16 ?l16 ?c16 ?k16 ?a17 ?l17 ?c17 ?k17 ?a18 ?l18 ?c18 ?k18 ?a19 ?l19 ?c19 ?k19 ?a20 ?l20 ?c20 ?k20 ?a21 ?l21 ?c21 ?k21 ?a22 ?l22 ?c22 ?k22 ?a23 ?l23 ?c23 ?k23 ?a24 ?l24 ?c24 ?k24 ?a25 ?l25 ?c25 ?k25 ?a26 ?l26 ?c26 ?k26 ?a27 ?l27 ?c27 ?k27 ?a28 ?l28 ?c28 ?k28 ?a29 ?l29 ?c29 ?k29 ?z0 ?z1 ?z2 ?z3 ?z4 ?z5 ?z6 ?z7 ?z8 ?z9 ?z10 ?z11 ?z12 ?z13 ?z14 ?z15 ?z16 ?q0 ?q1 ?q2 ?hcl
    (case n0 => k_is)
    (case n1 => k_is)
    (case n2 => k_is)
    (case n3 => k_is)
    (case a0 => k_is)
    (case l0 => k_is)
    (case c0 => k_is)
    (case k0 => k_is)
    (case a1 => k_is)
    (case l1 => k_is)
    (case c1 => k_is)
    (case k1 => k_is)
    (case a2 => k_is)
    (case l2 => k_is)
    (case c2 => k_is)
    (case k2 => k_is)
    (case a3 => k_is)
    (case l3 => k_is)
    (case c3 => k_is)
    (case k3 => k_is)
    (case a4 => k_is)
    (case l4 => k_is)
    (case c4 => k_is)
    (case k4 => k_is)
    (case a5 => k_is)
    (case l5 => k_is)
    (case c5 => k_is)
    (case k5 => k_is)
    (case a6 => k_is)
    (case l6 => k_is)
    (case c6 => k_is)
    (case k6 => k_is)
    (case a7 => k_is)
    (case l7 => k_is)
    (case c7 => k_is)
    (case k7 => k_is)
    (case a8 => k_is)
    (case l8 => k_is)
    (case c8 => k_is)
    (case k8 => k_is)
    (case a9 => k_is)
    (case l9 => k_is)
    (case c9 => k_is)
    (case k9 => k_is)
    (case a10 => k_is)
    (case l10 => k_is)
    (case c10 => k_is)
    (case k10 => k_is)
    (case a11 => k_is)
    (case l11 => k_is)
    (case c11 => k_is)
    (case k11 => k_is)
    (case a12 => k_is)
    (case l12 => k_is)
    (case c12 => k_is)
    (case k12 => k_is)
    (case a13 => k_is)
    (case l13 => k_is)
    (case c13 => k_is)
    (case k13 => k_is)
    (case a14 => k_is)
    (case l14 => k_is)
    (case c14 => k_is)
    (case k14 => k_is)
    (case a15 => k_is)
    (case l15 => k_is)
    (case c15 => k_is)
    (case k15 => k_is)
    (case a16 => k_is)
    (case l16 => k_is)
    (case c16 => k_is)
    (case k16 => k_is)
    (case a17 => k_is)
    (case l17 => k_is)
    (case c17 => k_is)
    (case k17 => k_is)
    (case a18 => k_is)
    (case l18 => k_is)
    (case c18 => k_is)
    (case k18 => k_is)
    (case a19 => k_is)
    (case l19 => k_is)
    (case c19 => k_is)
    (case k19 => k_is)
    (case a20 => k_is)
    (case l20 => k_is)
    (case c20 => k_is)
    (case k20 => k_is)
    (case a21 => k_is)
    (case l21 => k_is)
    (case c21 => k_is)
    (case k21 => k_is)
    (case a22 => k_is)
    (case l22 => k_is)
    (case c22 => k_is)
    (case k22 => k_is)
    (case a23 => k_is)
    (case l23 => k_is)
    (case c23 => k_is)
    (case k23 => k_is)
    (case a24 => k_is)
    (case l24 => k_is)
    (case c24 => k_is)
    (case k24 => k_is)
    (case a25 => k_is)
    (case l25 => k_is)
    (case c25 => k_is)
    (case k25 => k_is)
    (case a26 => k_is)
    (case l26 => k_is)
    (case c26 => k_is)
    (case k26 => k_is)
    (case a27 => k_is)
    (case l27 => k_is)
    (case c27 => k_is)
    (case k27 => k_is)
    (case a28 => k_is)
    (case l28 => k_is)
    (case c28 => k_is)
    (case k28 => k_is)
    (case a29 => k_is)
    (case l29 => k_is)
    (case c29 => k_is)
    (case k29 => k_is)
    (case z0 => k_is)
    (case z1 => k_is)
    (case z2 => k_is)
    (case z3 => k_is)
    (case z4 => k_is)
    (case z5 => k_is)
    (case z6 => k_is)
    (case z7 => k_is)
    (case z8 => k_is)
    (case z9 => k_is)
    (case z10 => k_is)
    (case z11 => k_is)
    (case z12 => k_is)
    (case z13 => k_is)
    (case z14 => k_is)
    (case z15 => k_is)
    (case z16 => k_is)
    (case q0 => k_is)
    (case q1 => k_is)
    (case q2 => k_is)
    (case hcl => kernel_rfl)
