import PyProof.Rows.All
import Wide.All
import OpenK.AllK
import Wide.FinOn
import HandS.Base
import HandS.Call
import HandS.List
import HandS.ForExc
import HandS.Lambda
import HandS.Iter
import HandS.Zip
import KE.GoesMore
import HandS.TupMul
import HandS.Wide
import HandS.SortInts
import HandS.WordsDict
import PyProof.ReprBulk
import PyProof.SeqIndex
import HandS.TupAny
import HandS.Conv
import HandS.IsInst
import HandS.Comp
import HandS.ExcOwn
import HandS.ExcIs
import HandS.TryOnly
import HandS.DictComp
import HandS.Style
import HandS.TryMany
import HandS.EndTab
import HandS.Dict
import HandS.RaiseMore
import PyProof.ReprRoads
import PyProof.CallFns
import HandS.Defaults
import HandS.HeadHook1
import HandS.HeadHook2
import HandS.HeadHook3
import HandS.HeadHook4
import HandS.HeadEnd
import HandS.Codes
import PyProof.ExcBaseAll.ValueError
import HandS.EndBits
import HandS.Head0
import HandS.Head1
import HandS.Head2
import Lean
import PySem.Challenge.RW_cardtable_k73_whole_every_nth_and_monge
section
set_option Elab.async false
set_option linter.all false
set_option maxRecDepth 100000
/-! MnCore: a small language of its own (values, a store of cells, an evaluator in plain Lean), to which the program's text is carried. -/
namespace Mn
open PySem

inductive Bop where
  | add | sub | mul | fdiv | mod | pow
  deriving DecidableEq
inductive Cop where
  | lt | le | gt | ge | eq | ne | is | isn | in_ | nin
  deriving DecidableEq
inductive Ty where
  | int | bool | str | tuple | list | dict
  deriving DecidableEq
inductive Bi where
  | abs | int | len | tuple | list | all | any | sum | sorted | repr | min | max
  deriving DecidableEq
/-- methods that change nothing -/
inductive Me where
  | count | index | get
  deriving DecidableEq
/-- methods that change a cell -/
inductive Mu where
  | append | pop | pop1 | extend
  deriving DecidableEq
inductive Tg where
  | nm (i : Nat)
  | tup (is : List Nat)
  deriving DecidableEq
abbrev Key := Sum Int Str
mutual
inductive Ex where
  | lit (c : PyData)
  | var (i : Nat)
  | glob (c : PyData)
  | bin (o : Bop) (a b : Ex)
  | neg (a : Ex)
  | not (a : Ex)
  | boo (isAnd : Bool) (es : Exs)
  | ite (c a b : Ex)
  | cmp (o : Cop) (a b : Ex)
  | cmp2 (o p : Cop) (a b c : Ex)
  | tup (es : Exs)
  | lst (es : Exs)
  | dic (ks : List Key) (vs : Exs)
  | idx (a i : Ex)
  | slc (a : Ex) (lo hi : OEx)
  | slc3 (a : Ex) (lo hi : OEx) (st : Ex)
  | call (f : Nat) (es : Exs)
  | bi (b : Bi) (es : Exs)
  | rngl (isTup : Bool) (i : It)
  | isi (a : Ex) (t : Ty)
  | isx (i : Nat) (c : Option Nat)
  | me (m : Me) (o : Ex) (es : Exs)
  | gix (c : List PyData) (a : Ex)
  | mu (m : Mu) (o : Ex) (es : Exs)
  | lc (elt : Ex) (t : Tg) (i : It) (c : OEx) (own : List Nat)
  | dc (k v : Ex) (t : Tg) (i : It) (own : List Nat)
  | new (a : Ex)
  | fn (i : Nat)
  | callv (i : Nat) (es : Exs)
  | lcall (f : Nat) (e : Ex)
  | isi2 (a : Ex) (t u : Ty)
inductive OEx where
  | none
  | some (e : Ex)
inductive Exs where
  | nil
  | cons (e : Ex) (es : Exs)
inductive It where
  | e (a : Ex)
  | rng (a : Ex)
  | rng2 (a b : Ex)
  | rng3 (a b c : Ex)
  | zip (a b : Ex)
  | enum (a : Ex)
  | tupv (es : Exs)
end
mutual
inductive Stm where
  | asg (t : Tg) (e : Ex)
  | par (is : List Nat) (es : Exs)
  | seti (o i e : Ex)
  | aug (i : Nat) (o : Bop) (e : Ex)
  | augi (o i : Ex) (p : Bop) (e : Ex)
  | ex (e : Ex)
  | ret (e : Ex)
  | retn
  | pass
  | act (t : Option Nat)
  | ite (c : Ex) (a b : Stms)
  | for_ (t : Tg) (i : It) (b : Stms)
  | whil (c : Ex) (b : Stms)
  | raise (c : Nat) (es : Exs)
  | try_ (b : Stms) (c : Nat) (nm : Option Nat) (s : Stms)
inductive Stms where
  | nil
  | cons (s : Stm) (ss : Stms)
end

/-- a value: data that never changes, a cell (a list or a dict that may change), an error that was caught (its class, its field), the script, a def, a lambda with its names -/
inductive PV where
  | d (x : PyData)
  | r (i : Nat)
  | x (c : Nat) (f : Option PyData)
  | s (ns : List Int)
  | f (i : Nat)
  | clo (e : Ex) (env : List (Option PV))
/-- what stands in a cell -/
inductive Cell where
  | lst (xs : List PV)
  | dct (kvs : List (PyData × PV))
abbrev Sto := List Cell
inductive Res (α : Type) where
  | ok (a : α) (S : Sto)
  | ex (c : Nat) (f : Option PyData) (S : Sto)
  | bad
def Res.bind {α β : Type} : Res α → (α → Sto → Res β) → Res β
  | .ok a S, k => k a S
  | .ex c f S, _ => .ex c f S
  | .bad, _ => .bad
@[simp] theorem Res.bind_ok {α β : Type} (a : α) (S : Sto) (k : α → Sto → Res β) : (Res.ok a S).bind k = k a S := (rfl)
@[simp] theorem Res.bind_ex {α β : Type} (c : Nat) (f : Option PyData) (S : Sto) (k : α → Sto → Res β) : (Res.ex c f S : Res α).bind k = .ex c f S := (rfl)
@[simp] theorem Res.bind_bad {α β : Type} (k : α → Sto → Res β) : (Res.bad : Res α).bind k = .bad := (rfl)
def Res.ofOpt {α : Type} (o : Option α) (S : Sto) : Res α := match o with
  | some a => .ok a S
  | none => .bad
@[simp] theorem Res.ofOpt_some {α : Type} (a : α) (S : Sto) : Res.ofOpt (some a) S = .ok a S := (rfl)
@[simp] theorem Res.ofOpt_none {α : Type} (S : Sto) : Res.ofOpt (none : Option α) S = .bad := (rfl)
abbrev Env' := List (Option PV)

/-! ### values -/
namespace PV
abbrev none : PV := .d .none
abbrev bool (b : Bool) : PV := .d (.bool b)
abbrev int (i : Int) : PV := .d (.int i)
abbrev str (s : Str) : PV := .d (.str s)
abbrev tup (xs : List PyData) : PV := .d (.tuple xs)
abbrev lst (xs : List PyData) : PV := .d (.list xs)
end PV
/-- all of them are data -/
def allD : List PV → Option (List PyData)
  | [] => some []
  | .d x :: r => (allD r).map (x :: ·)
  | _ :: _ => none
/-- what stands there now -/
def snap : Nat → Sto → PV → Option PyData
  | _, _, .d x => some x
  | 0, _, _ => none
  | n + 1, S, .r i => match S[i]? with
    | some (.lst xs) => (xs.mapM (snap n S)).map .list
    | _ => none
  | _ + 1, _, .x _ _ => none
  | _ + 1, _, .s _ => none
  | _ + 1, _, .f _ => none
  | _ + 1, _, .clo _ _ => none
abbrev cur (S : Sto) (v : PV) : Option PyData := snap 3 S v
/-- the items of a list or tuple -/
def items (S : Sto) : PV → Option (List PV)
  | .d (.tuple xs) => some (xs.map .d)
  | .d (.list xs) => some (xs.map .d)
  | .r i => match S[i]? with
    | some (.lst xs) => some xs
    | _ => none
  | _ => none
/-- the items of a list that is now data -/
def lstD (S : Sto) : PV → Option (List PyData)
  | .d (.list xs) => some xs
  | .r i => match S[i]? with
    | some (.lst xs) => allD xs
    | _ => none
  | _ => none
def seqD (S : Sto) : PV → Option (List PyData)
  | .d (.tuple xs) => some xs
  | v => lstD S v
def intsD : List PyData → Option (List Int)
  | [] => some []
  | .int i :: r => (intsD r).map (i :: ·)
  | _ :: _ => none
def boolsD : List PyData → Option (List Bool)
  | [] => some []
  | .bool b :: r => (boolsD r).map (b :: ·)
  | _ :: _ => none
def strsD : List PyData → Option (List Str)
  | [] => some []
  | .str b :: r => (strsD r).map (b :: ·)
  | _ :: _ => none
/-- a list of ints in order -/
def insI (x : Int) : List Int → List Int
  | [] => [x]
  | y :: r => if x ≤ y then x :: y :: r else y :: insI x r
def sortI : List Int → List Int
  | [] => []
  | x :: r => insI x (sortI r)
def shp (d : PyData) : Bool := d.canLay0 && decide (d.depth ≤ 64)
/-- no ref of these is i or above -/
def below (i : Nat) : PV → Bool
  | .d _ => true
  | .r j => decide (j < i)
  | .x _ _ => false
  | .s _ => false
  | .f _ => false
  | .clo _ _ => false

/-! ### operators -/
/-- a product that stays within its line -/
def mulOk (i j : Int) : Bool := (decide (-(2 ^ 64) < i) && decide (i < 2 ^ 64)) || (decide (-(2 ^ 64) < j) && decide (j < 2 ^ 64)) || decide (i.natAbs.log2 + j.natAbs.log2 < 1000000)
def divOk (j : Int) : Bool := decide (j ≠ 0) && (decide (j.natAbs < 1073741824) || (decide (0 < j) && decide (j.natAbs.log2 < 9000)))
def powOk (i j : Int) : Bool := decide (0 ≤ j) && (decide (j ≤ 1000000) && decide (i.natAbs < 2 ^ 64))
def repD (xs : List PyData) (n : Int) : List PyData := (List.replicate n.toNat xs).flatten
def catL (S : Sto) (x y : PV) : Option PV := (lstD S x).bind fun a => (lstD S y).bind fun b => if a.length + b.length ≤ sizeLine then some (.lst (a ++ b)) else none
def binV (S : Sto) : Bop → PV → PV → Option PV
  | .add, .d (.int i), .d (.int j) => some (.int (i + j))
  | .add, .d (.str i), .d (.str j) => if i.length + j.length ≤ sizeLine then some (.str (i ++ j)) else none
  | .add, .d (.tuple a), .d (.tuple b) => if a.length + b.length ≤ sizeLine then some (.tup (a ++ b)) else none
  | .add, x, y => catL S x y
  | .sub, .d (.int i), .d (.int j) => some (.int (i - j))
  | .mul, .d (.int i), .d (.int j) => if mulOk i j then some (.int (i * j)) else none
  | .mul, .d (.list a), .d (.int j) => if j < 2 ^ 62 ∧ a.length * j.toNat ≤ sizeLine ∧ -(2 ^ 62) < j then some (.lst (repD a j)) else none
  | .mul, .d (.tuple a), .d (.int j) => if a ≠ [] ∧ 2 ≤ j ∧ j ≤ 1000 ∧ a.length ≤ 1000 then some (.tup (repD a j)) else none
  | .fdiv, .d (.int i), .d (.int j) => if divOk j then some (.int (i.fdiv j)) else none
  | .mod, .d (.int i), .d (.int j) => if j ≠ 0 then some (.int (i.fmod j)) else none
  | .pow, .d (.int i), .d (.int j) => if powOk i j then some (.int (i ^ j.toNat)) else none
  | _, _, _ => none
def isLit (x : PV) : PV → Option Bool
  | .d .none => match x with
    | .d .none => some true
    | _ => some false
  | .d (.bool b) => match x with
    | .d (.bool c) => some (b == c)
    | _ => some false
  | _ => none
def strV : PV → Option Str
  | .d (.str a) => some a
  | _ => none
/-- are they equal: two texts of any signs; data of other forms -/
def eqV (S : Sto) (x y : PV) : Option Bool := match strV x, strV y with
  | some a, some b => some (decide (a = b))
  | _, _ => (cur S x).bind fun a => (cur S y).bind fun b => if shp a && shp b then some (PyData.eqv a b) else none
/-- is the one text within the other -/
def inS (x y : Str) : Bool := !(PySem.Builtin.Str.occurrences y x 0 y.length 1).isEmpty
def inD0 (S : Sto) (x y : PV) : Option Bool := (cur S x).bind fun a => (seqD S y).bind fun b => if shp a && shp (.list b) then some (b.any fun z => PyData.eqv z a) else none
def inV (S : Sto) (x y : PV) : Option Bool := match strV x, strV y with
  | some i, some j => some (inS i j)
  | _, _ => inD0 S x y
def ltI : List Int → List Int → Bool
  | [], [] => false
  | [], _ :: _ => true
  | _ :: _, [] => false
  | x :: r, y :: s => if x = y then ltI r s else decide (x < y)
def cmpV (S : Sto) : Cop → PV → PV → Option Bool
  | .lt, .d (.int i), .d (.int j) => some (decide (i < j))
  | .le, .d (.int i), .d (.int j) => some (decide (i ≤ j))
  | .gt, .d (.int i), .d (.int j) => some (decide (j < i))
  | .ge, .d (.int i), .d (.int j) => some (decide (j ≤ i))
  | .eq, x, y => eqV S x y
  | .ne, x, y => (eqV S x y).map (!·)
  | .is, x, y => isLit x y
  | .isn, x, y => (isLit x y).map (!·)
  | .in_, x, y => inV S x y
  | .nin, x, y => (inD0 S x y).map (!·)
  | _, _, _ => none
/-- the place of an index -/
def ixAt (n : Nat) (i : Int) : Option Nat := if 0 ≤ i then (if i < n then some i.toNat else none) else if -(n : Int) ≤ i then some (i + n).toNat else none
/-- the place of a slice's end -/
def sIx (n d : Nat) : Option Int → Nat
  | none => d
  | some v => if v < 0 then (v + (n : Int)).toNat else min v.toNat n
def cutD {α : Type} (xs : List α) (lo hi : Option Int) : List α := (xs.drop (sIx xs.length 0 lo)).take (sIx xs.length xs.length hi - sIx xs.length 0 lo)
/-- the items of a slice with a step -/
def pickL {α : Type} (xs : List α) (lo hi : Option Int) (st : Int) : List α :=
  (sliceRange (sliceBounds lo hi (some st) xs.length).1 (sliceBounds lo hi (some st) xs.length).2.1 (sliceBounds lo hi (some st) xs.length).2.2).filterMap (xs[·]?)
def lookD (k : PyData) : List (PyData × PV) → Option PV
  | [] => none
  | (q, v) :: r => if PyData.eqv q k then some v else lookD k r
def putD (k : PyData) (v : PV) : List (PyData × PV) → List (PyData × PV)
  | [] => [(k, v)]
  | (q, w) :: r => if PyData.eqv q k then (q, v) :: r else (q, w) :: putD k v r
def idxV (S : Sto) (a i : PV) : Option PV := match i with
  | .d (.int n) => match a with
    | .d (.str s) => if s.length ≤ sizeLine then (ixAt s.cps.toList.length n).bind fun j => (s.cps.toList[j]?).map fun c => .str ⟨#[c]⟩ else none
    | _ => (items S a).bind fun xs => (ixAt xs.length n).bind fun j => xs[j]?
  | _ => none
def optI : Option PV → Option (Option Int)
  | none => some none
  | some (.d (.int i)) => some (some i)
  | some (.d .none) => some none
  | _ => none
def slcV (S : Sto) (a : PV) (lo hi : Option Int) : Option PV := match a with
  | .d (.tuple xs) => some (.tup (cutD xs lo hi))
  | .s ns => some (.lst ((cutD ns lo hi).map .int))
  | _ => (lstD S a).map fun xs => .lst (cutD xs lo hi)
def slc3V (S : Sto) (a : PV) (lo hi : Option Int) (st : Int) : Option PV := match a with
  | .d (.tuple _) => none
  | _ => if st = 0 then none else (lstD S a).map fun xs => .lst (pickL xs lo hi st)
def isTy (t : Ty) (S : Sto) : PV → Option Bool
  | .d (.int _) => some (t == .int)
  | .d (.bool _) => some (t == .bool || t == .int)
  | .d (.str _) => some (t == .str)
  | .d (.tuple _) => some (t == .tuple)
  | .d (.list _) => some (t == .list)
  | .d (.dict _) => some (t == .dict)
  | .d .none => some false
  | .r i => match S[i]? with
    | some (.lst _) => some (t == .list)
    | some (.dct _) => some (t == .dict)
    | none => none
  | .x _ _ => none
  | .s _ => none
  | .f _ => none
  | .clo _ _ => none
def lenV (S : Sto) : PV → Option Nat
  | .d (.str s) => if s.length ≤ sizeLine then some s.length else none
  | .d (.dict kvs) => some kvs.length
  | .r i => match S[i]? with
    | some (.lst xs) => some xs.length
    | some (.dct kvs) => some kvs.length
    | none => none
  | .s ns => some ns.length
  | v => (items S v).map List.length
def absI (i : Int) : Int := if i < 0 then -i else i
def maxL : List Int → Option Int
  | [] => none
  | x :: r => some (r.foldl max x)
def minL : List Int → Option Int
  | [] => none
  | x :: r => some (r.foldl min x)
def reprOk (d : PyData) : Bool := d.canLay0 && (d.showable && (decide (d.depth ≤ 63) && decide (d.shown.length ≤ 16000000)))
def biV (S : Sto) : Bi → List PV → Option PV
  | .abs, [.d (.int i)] => some (.int (absI i))
  | .int, [.d (.int i)] => some (.int i)
  | .int, [.d (.bool b)] => some (.int (if b then 1 else 0))
  | .len, [v] => (lenV S v).map fun (n : Nat) => PV.int (n : Int)
  | .tuple, [v] => (seqD S v).map .tup
  | .list, [v] => (seqD S v).map .lst
  | .all, [v] => ((lstD S v).bind boolsD).map fun bs => .bool (bs.all id)
  | .any, [v] => ((lstD S v).bind boolsD).map fun bs => .bool (bs.any id)
  | .sum, [v] => ((lstD S v).bind intsD).map fun ns => .int ns.sum
  | .sorted, [v] => ((seqD S v).bind intsD).map fun ns => .lst ((sortI ns).map .int)
  | .repr, [v] => (cur S v).bind fun d => if reprOk d then some (.str d.shown) else none
  | .min, [.d (.int i), .d (.int j)] => some (.int (if j < i then j else i))
  | .max, [.d (.int i), .d (.int j)] => some (.int (if j > i then j else i))
  | .min, [v] => ((lstD S v).bind intsD).bind fun ns => (minL ns).map .int
  | .max, [v] => ((lstD S v).bind intsD).bind fun ns => (maxL ns).map .int
  | _, _ => none
def findD (x : PyData) : List PyData → Option Nat
  | [] => none
  | y :: r => if PyData.eqv y x then some 0 else (findD x r).map (· + 1)
def cntD (x : PyData) : List PyData → Nat
  | [] => 0
  | y :: r => (if PyData.eqv y x then 1 else 0) + cntD x r
def gixV (S : Sto) (c : List PyData) (x : PV) : Option PV := (cur S x).bind fun a => if shp a && shp (.list c) then (findD a c).map fun (n : Nat) => PV.int (n : Int) else none
def meV (S : Sto) : Me → PV → List PV → Option PV
  | .index, o, [x] => (cur S x).bind fun a => (lstD S o).bind fun b => if shp a && shp (.list b) then (findD a b).map fun (n : Nat) => PV.int (n : Int) else none
  | .count, o, [x] => (cur S x).bind fun a => (lstD S o).bind fun b => if shp a && shp (.list b) then some (.int (cntD a b)) else none
  | _, _, _ => none
def muV (S : Sto) : Mu → PV → List PV → Res PV
  | .append, .r c, [v] => match S[c]? with
    | some (.lst xs) => if below c v && decide (xs.length < sizeLine) then .ok .none (S.set c (.lst (xs ++ [v]))) else .bad
    | _ => .bad
  | .pop, .r c, [] => match S[c]? with
    | some (.lst xs) => match xs.getLast? with
      | some v => .ok v (S.set c (.lst xs.dropLast))
      | none => .bad
    | _ => .bad
  | .pop1, .r c, [.d (.int i)] => match S[c]? with
    | some (.lst xs) => match ixAt xs.length i with
      | some j => match xs[j]? with
        | some v => .ok v (S.set c (.lst (xs.eraseIdx j)))
        | none => .bad
      | none => .bad
    | _ => .bad
  | .extend, .r c, [w] => match S[c]? with
    | some (.lst xs) => match lstD S w with
      | some ys => if xs.length + ys.length ≤ sizeLine then .ok .none (S.set c (.lst (xs ++ ys.map .d))) else .bad
      | none => .bad
    | _ => .bad
  | _, _, _ => .bad
def setV (S : Sto) (o i v : PV) : Option Sto := match o with
  | .r c => if below c v then match S[c]? with
    | some (.lst xs) => match i with
      | .d (.int n) => (ixAt xs.length n).map fun j => S.set c (.lst (xs.set j v))
      | _ => none
    | _ => none
    else none
  | _ => none
end Mn

end

section
set_option Elab.async false
set_option linter.all false
set_option maxRecDepth 100000
/-! MnEval: the evaluator. F: what the defs do; L: a bound for loops that no list bounds. -/
namespace Mn
open PySem

inductive Src where
  | vals (xs : List PV)
  | cell (j : Nat)
inductive Out where
  | nx (e : Env') (S : Sto)
  | rt (v : PV) (S : Sto)
  | ex (c : Nat) (f : Option PyData) (e : Env') (S : Sto)
  | bad
def Out.bind : Out → (Env' → Sto → Out) → Out
  | .nx e S, k => k e S
  | .rt v S, _ => .rt v S
  | .ex c f e S, _ => .ex c f e S
  | .bad, _ => .bad
@[simp] theorem Out.bind_nx (e : Env') (S : Sto) (k : Env' → Sto → Out) : (Out.nx e S).bind k = k e S := (rfl)
@[simp] theorem Out.bind_rt (v : PV) (S : Sto) (k : Env' → Sto → Out) : (Out.rt v S).bind k = .rt v S := (rfl)
@[simp] theorem Out.bind_ex (c : Nat) (f : Option PyData) (e : Env') (S : Sto) (k : Env' → Sto → Out) : (Out.ex c f e S).bind k = .ex c f e S := (rfl)
@[simp] theorem Out.bind_bad (k : Env' → Sto → Out) : Out.bad.bind k = .bad := (rfl)
def isX : PV → Bool
  | .x _ _ => true
  | _ => false
def noX (e : Env') : Bool := e.all fun o => match o with
  | some v => !isX v
  | none => true
/-- behind an except suite: the name goes -/
def Out.unx (n : Nat) : Out → Out
  | .nx e S => if noX (e.set n none) then .nx (e.set n none) S else .bad
  | .rt v S => if isX v then .bad else .rt v S
  | _ => .bad
/-- an expression's result ahead of a statement's -/
def Res.out {α : Type} (r : Res α) (e : Env') (k : α → Sto → Out) : Out := match r with
  | .ok a S => k a S
  | .ex c f S => .ex c f e S
  | .bad => .bad
@[simp] theorem Res.out_ok {α : Type} (a : α) (S : Sto) (e : Env') (k : α → Sto → Out) : (Res.ok a S).out e k = k a S := (rfl)
@[simp] theorem Res.out_ex {α : Type} (c : Nat) (f : Option PyData) (S : Sto) (e : Env') (k : α → Sto → Out) : (Res.ex c f S : Res α).out e k = .ex c f e S := (rfl)
@[simp] theorem Res.out_bad {α : Type} (e : Env') (k : α → Sto → Out) : (Res.bad : Res α).out e k = .bad := (rfl)
def Out.ofOpt (o : Option Env') (k : Env' → Out) : Out := match o with
  | some e => k e
  | none => .bad
@[simp] theorem Out.ofOpt_some (e : Env') (k : Env' → Out) : Out.ofOpt (some e) k = k e := (rfl)
@[simp] theorem Out.ofOpt_none (k : Env' → Out) : Out.ofOpt none k = .bad := (rfl)

/-- set names, one after another -/
def setAll : List Nat → List PyData → Env' → Option Env'
  | [], [], e => some e
  | i :: is, x :: xs, e => setAll is xs (e.set i (some (.d x)))
  | _, _, _ => none
def bindT (t : Tg) (v : PV) (e : Env') : Option Env' := match t with
  | .nm i => some (e.set i (some v))
  | .tup is => match v with
    | .d (.tuple xs) => setAll is xs e
    | .d (.list xs) => setAll is xs e
    | _ => none
def wipeE (e : Env') : List Nat → Env'
  | [] => e
  | i :: is => (wipeE e is).set i none
def asB (v : PV) (S : Sto) : Res Bool := match v with
  | .d (.bool b) => .ok b S
  | _ => .bad
@[simp] theorem asB_b (b : Bool) (S : Sto) : asB (.d (.bool b)) S = .ok b S := (rfl)
/-- no error goes through a comprehension -/
def Res.noex {α : Type} : Res α → Res α
  | .ok a S => .ok a S
  | _ => .bad
@[simp] theorem Res.noex_ok {α : Type} (a : α) (S : Sto) : (Res.ok a S).noex = .ok a S := (rfl)
/-- what stands at turn k -/
def Src.next : Src → Nat → Sto → Option (Option PV)
  | .vals xs, k, _ => some xs[k]?
  | .cell j, k, S => match S[j]? with
    | some (.lst xs) => some xs[k]?
    | _ => none
def Src.fuel (L : Nat) : Src → Nat
  | .vals xs => xs.length + 1
  | .cell _ => L
/-- a comprehension's turns -/
def lcG (s : Src) (body : PV → Sto → Res (Option PV)) : Nat → Nat → Sto → Res (List PV)
  | 0, _, _ => .bad
  | n + 1, k, S => match s.next k S with
    | none => .bad
    | some none => .ok [] S
    | some (some x) => (body x S).noex.bind fun o S1 => (lcG s body n (k + 1) S1).bind fun ys S2 => .ok (o.toList ++ ys) S2
def lcS (L : Nat) (body : PV → Sto → Res (Option PV)) (s : Src) (S : Sto) : Res (List PV) := lcG s body (s.fuel L) 0 S
/-- a loop's turns -/
def forG (s : Src) (body : PV → Env' → Sto → Out) : Nat → Nat → Env' → Sto → Out
  | 0, _, _, _ => .bad
  | n + 1, k, e, S => match s.next k S with
    | none => .bad
    | some none => .nx e S
    | some (some x) => (body x e S).bind fun e1 S1 => forG s body n (k + 1) e1 S1
def forS (L : Nat) (body : PV → Env' → Sto → Out) (s : Src) (e : Env') (S : Sto) : Out := forG s body (s.fuel L) 0 e S
def whileL (c : Env' → Sto → Res Bool) (b : Env' → Sto → Out) : Nat → Env' → Sto → Out
  | 0, _, _ => .bad
  | n + 1, e, S => (c e S).out e fun k S1 => if k then (b e S1).bind fun e2 S2 => whileL c b n e2 S2 else .nx e S1
def rgL (a : Int) (n : Nat) (c : Int) : List PV := (List.range n).map fun (k : Nat) => PV.int (a + k * c)
def rgOk (a b : Int) : Bool := decide (-(2 ^ 62) ≤ a) && (decide (a < 2 ^ 62) && (decide (-(2 ^ 62) ≤ b) && (decide (b < 2 ^ 62) && decide ((b - a).toNat ≤ 16777216))))
def rg1 (a b : Int) : Option (List PV) := if rgOk a b then some (rgL a (b - a).toNat 1) else none
def rg3 (a b c : Int) : Option (List PV) := if decide (c ≠ 0) && (decide (c.natAbs < 1073741824) && (Builtin.Range.small a b c && decide (0 ≤ Builtin.Range.rangeSize a b c))) then some (rgL a (Builtin.Range.rangeSize a b c).toNat c) else none
def intP : PV → Option Int
  | .d (.int i) => some i
  | _ => none
def strP (s : Str) : List PV := s.cps.toList.map fun c => PV.str ⟨#[c]⟩
/-- what a for walks -/
def srcV (S : Sto) : PV → Option Src
  | .d (.tuple xs) => some (.vals (xs.map .d))
  | .d (.list xs) => some (.vals (xs.map .d))
  | .d (.str s) => some (.vals (strP s))
  | .r j => match S[j]? with
    | some (.lst _) => some (.cell j)
    | _ => none
  | _ => none
def frzL : PV → Option (List PyData)
  | .d (.tuple xs) => some xs
  | .d (.list xs) => some xs
  | _ => none
def zipD (a b : List PyData) : List PV := (a.zip b).map fun p => PV.tup [p.1, p.2]
def enumD (k : Nat) : List PyData → List PV
  | [] => []
  | x :: r => PV.tup [.int k, x] :: enumD (k + 1) r
def zipV : PV → PV → Option Src
  | .d (.tuple a), .d (.tuple b) => some (.vals (zipD a b))
  | .d (.list a), .d (.list b) => some (.vals (zipD a b))
  | .d (.list a), .d (.tuple b) => some (.vals (zipD a b))
  | _, _ => none
def enumV : PV → Option Src
  | .d (.list a) => some (.vals (enumD 0 a))
  | .d (.tuple a) => some (.vals (enumD 0 a))
  | _ => none
def dicD : List PyData → List PV → Option (List (PyData × PV))
  | [], [] => some []
  | k :: ks, v :: vs => (dicD ks vs).map ((k, v) :: ·)
  | _, _ => none
def putAllD : List (PyData × PV) → List (PyData × PV) → List (PyData × PV)
  | acc, [] => acc
  | acc, (k, v) :: r => putAllD (putD k v acc) r
def dicV (ks vs : List PV) : Option (List (PyData × PV)) := (allD ks).bind fun kd => (dicD kd vs).map (putAllD [])
/-- the pairs of a dict that is laid -/
def keyP : PyData → Option Key
  | .int i => some (.inl i)
  | .str s => some (.inr s)
  | _ => none
def putQ (kvs : List (Key × PyData)) (k : Key) (v : PyData) : List (Key × PyData) :=
  if (kvs.any fun p => decide (p.1 = k)) then kvs.map fun p => if p.1 = k then (p.1, v) else p else kvs ++ [(k, v)]
def putsQ : List (Key × PyData) → List PV → Option (List (Key × PyData))
  | acc, [] => some acc
  | acc, .d (.tuple [a, b]) :: r => (keyP a).bind fun k => putsQ (putQ acc k b) r
  | _, _ :: _ => none
def keyD : Key → PyData
  | .inl i => .int i
  | .inr s => .str s
def dctV (ys : List PV) : Option PV := (putsQ [] ys).map fun kvs => .d (.dict (kvs.map fun p => (keyD p.1, p.2)))
/-- a dict display -/
def dicQ (ks : List Key) (xs : List PyData) : Option PV := if ks.length = xs.length ∧ ks.length ≤ 15 then some (.d (.dict (((ks.zip xs).foldl (fun acc p => putQ acc p.1 p.2) []).map fun p => (keyD p.1, p.2)))) else none
/-- a list repeated, as a new list's items -/
def mulLV : Bop → PV → PV → Option (List PV)
  | .mul, .d (.list a), .d (.int j) => if j < 2 ^ 62 ∧ a.length * j.toNat < sizeLine ∧ -(2 ^ 62) < j then some ((repD a j).map .d) else none
  | _, _, _ => none

/-- two lists one behind the other, as a new list's items -/
def catLV (S : Sto) (x y : PV) : Option (List PV) := (lstD S x).bind fun a => (lstD S y).bind fun b => if a.length + b.length < sizeLine then some ((a ++ b).map .d) else none
def binLV (S : Sto) : Bop → PV → PV → Option (List PV)
  | .mul, x, y => mulLV .mul x y
  | .add, x, y => catLV S x y
  | _, _, _ => none
@[simp] theorem binLV_mul (S : Sto) (x y : PV) : binLV S .mul x y = mulLV .mul x y := (rfl)
@[simp] theorem binLV_add (S : Sto) (x y : PV) : binLV S .add x y = catLV S x y := (rfl)

def okL (vs : List PV) : Bool := vs.all fun v => match v with
  | .d _ => true
  | .r _ => true
  | _ => false
/-- what a tuple display of defs may hold -/
def tupOk (vs : List PV) : Bool := decide (vs.length ≤ sizeLine) && vs.all fun v => match v with
  | .f _ => true
  | _ => false
/-- is it a list, a dict now -/
def isL (S : Sto) (x : PV) : Bool := isTy .list S x == some true
def kindMe (m : Me) (S : Sto) (x : PV) : Bool := match m with
  | .get => isTy .dict S x == some true
  | _ => isL S x
def biL (S : Sto) : Bi → List PV → Option (List PV)
  | .list, [v] => (seqD S v).map (·.map PV.d)
  | _, _ => none
/-- a range as a list's items -/
def rnglV (r : Res Src) : Res (List PV) := r.bind fun s S1 => match s with
  | .vals xs => if xs.length ≤ sizeLine then .ok xs S1 else .bad
  | .cell _ => .bad
/-- as data -/
def rngF (t : Bool) (ys : List PV) (S : Sto) : Res PV := .ofOpt ((allD ys).map fun xs => if t then PV.tup xs else PV.lst xs) S
/-- as a new cell -/
def newF (vs : List PV) (S : Sto) : Res PV := if okL vs then .ok (.r S.length) (S ++ [.lst vs]) else .bad
def finL (ys : List PV) (S : Sto) : Res (List PV) := if ys.length < sizeLine then .ok ys S else .bad
/-- a comprehension's turn -/
def lcBody (t : Tg) (vs : List Nat) (dC : Env' → Sto → Res Bool) (dE : Env' → Sto → Res PV) (e : Env') : PV → Sto → Res (Option PV) := fun x S2 => match bindT t x (wipeE e vs) with
  | some e1 => (dC e1 S2).bind fun k S3 => if k then (dE e1 S3).bind fun y S4 => .ok (some y) S4 else .ok none S3
  | none => .bad
def dcBody (t : Tg) (vs : List Nat) (dK dV : Env' → Sto → Res PV) (e : Env') : PV → Sto → Res (Option PV) := fun x S2 => match bindT t x (wipeE e vs) with
  | some e1 => (dK e1 S2).bind fun y S3 => (dV e1 S3).bind fun z S4 => match y, z with
    | .d a, .d b => .ok (some (.d (.tuple [a, b]))) S4
    | _, _ => .bad
  | none => .bad
def finD (ys : List PV) (S : Sto) : Res PV := .ofOpt (if ys.length < sizeLine then dctV ys else none) S
/-- the number by which a lambda is called -/
def cloN : Nat := 1000000
/-- the taker calls what it got -/
def actM (F : Nat → List PV → Sto → Res PV) (e : Env') (S : Sto) : Res PV := match e[(0 : Nat)]? with
  | some (some (.clo a e0)) => F cloN [.clo a e0] S
  | _ => .bad
section
variable (F : Nat → List PV → Sto → Res PV) (L : Nat)
mutual
def ev : Ex → Env' → Sto → Res PV
  | .lit c, _, S => .ok (.d c) S
  | .glob c, _, S => .ok (.d c) S
  | .var i, e, S => match e[i]? with
    | some (some v) => .ok v S
    | _ => .bad
  | .bin o a b, e, S => (ev a e S).bind fun x S1 => (ev b e S1).bind fun y S2 => .ofOpt (binV S2 o x y) S2
  | .neg a, e, S => (ev a e S).bind fun x S1 => .ofOpt ((intP x).map fun i => .int (-i)) S1
  | .not a, e, S => (ev a e S).bind fun x S1 => (asB x S1).bind fun b S2 => .ok (.bool (!b)) S2
  | .boo k es, e, S => evB k es e S
  | .ite c a b, e, S => (ev c e S).bind fun x S1 => (asB x S1).bind fun k S2 => if k then ev a e S2 else ev b e S2
  | .cmp o a b, e, S => (ev a e S).bind fun x S1 => (ev b e S1).bind fun y S2 => .ofOpt ((cmpV S2 o x y).map PV.bool) S2
  | .cmp2 o p a b c, e, S => (ev a e S).bind fun x S1 => (ev b e S1).bind fun y S2 => (Res.ofOpt (cmpV S2 o x y) S2).bind fun k S3 =>
      if k then (ev c e S3).bind fun z S4 => .ofOpt ((cmpV S4 p y z).map PV.bool) S4 else .ok (.bool false) S3
  | .tup es, e, S => (evs es e S).bind fun vs S1 => .ofOpt ((allD vs).bind fun xs => if xs.length ≤ sizeLine then some (PV.tup xs) else none) S1
  | .lst es, e, S => (evs es e S).bind fun vs S1 => .ofOpt ((allD vs).bind fun xs => if xs.length ≤ sizeLine then some (PV.lst xs) else none) S1
  | .dic ks vs, e, S => (evs vs e S).noex.bind fun ys S1 => .ofOpt ((allD ys).bind (dicQ ks)) S1
  | .idx a i, e, S => (ev a e S).bind fun x S1 => (ev i e S1).bind fun y S2 => .ofOpt (idxV S2 x y) S2
  | .slc a lo hi, e, S => (ev a e S).bind fun x S1 => (evO lo e S1).bind fun l S2 => (evO hi e S2).bind fun h S3 => .ofOpt (slcV S3 x l h) S3
  | .slc3 a lo hi st, e, S => (ev a e S).bind fun x S1 => (evO lo e S1).bind fun l S2 => (evO hi e S2).bind fun h S3 => (ev st e S3).bind fun k S4 => .ofOpt ((intP k).bind fun c => slc3V S4 x l h c) S4
  | .call f es, e, S => (evs es e S).bind fun vs S1 => F f vs S1
  | .bi b es, e, S => (evs es e S).bind fun vs S1 => .ofOpt (biV S1 b vs) S1
  | .rngl t i, e, S => (rnglV (evI i e S)).bind (rngF t)
  | .isi a t, e, S => (ev a e S).bind fun x S1 => .ofOpt ((isTy t S1 x).map PV.bool) S1
  | .isx i c, e, S => match e[i]? with
    | some (some (.x k _)) => .ok (.bool (match c with
      | some j => k == j || j == 0
      | none => true)) S
    | _ => .bad
  | .me m o es, e, S => (ev o e S).bind fun x S1 => if kindMe m S1 x then (evs es e S1).bind fun vs S2 => .ofOpt (meV S2 m x vs) S2 else .bad
  | .gix c a, e, S => (ev a e S).bind fun x S1 => .ofOpt (gixV S1 c x) S1
  | .mu m o es, e, S => (ev o e S).bind fun x S1 => if isL S1 x then (evs es e S1).bind fun vs S2 => muV S2 m x vs else .bad
  | .lc elt t i c own, e, S => ((evI i e S).bind fun s S1 => (lcS L (lcBody t own (evC c) (ev elt) e) s S1).bind finL).bind fun ys S5 => .ofOpt ((allD ys).map PV.lst) S5
  | .dc k v t i own, e, S => (evI i e S).bind fun s S1 => (lcS L (dcBody t own (ev k) (ev v) e) s S1).bind finD
  | .new a, e, S => (evL a e S).bind newF
  | .fn i, _, S => .ok (.f i) S
  | .callv i es, e, S => match e[i]? with
    | some (some (.f j)) => (evs es e S).bind fun vs S1 => F j vs S1
    | _ => .bad
  | .lcall f a, e, S => (F f [.clo a e] S).noex
  | .isi2 a t u, e, S => (ev a e S).bind fun x S1 => .ofOpt ((isTy t S1 x).bind fun p => (isTy u S1 x).map fun q => PV.bool (p || q)) S1
/-- a new list's items -/
def evL : Ex → Env' → Sto → Res (List PV)
  | .lst es, e, S => (evs es e S).bind fun vs S1 => if vs.length < sizeLine then .ok vs S1 else .bad
  | .lc elt t i c own, e, S => (evI i e S).bind fun s S1 => (lcS L (lcBody t own (evC c) (ev elt) e) s S1).bind finL
  | .rngl t i, e, S => if t then .bad else rnglV (evI i e S)
  | .bi b es, e, S => (evs es e S).bind fun vs S1 => .ofOpt (biL S1 b vs) S1
  | .bin o a b, e, S => (ev a e S).bind fun x S1 => (ev b e S1).bind fun y S2 => .ofOpt (binLV S2 o x y) S2
  | _, _, _ => .bad
def evO : OEx → Env' → Sto → Res (Option Int)
  | .none, _, S => .ok none S
  | .some a, e, S => (ev a e S).bind fun x S1 => .ofOpt ((intP x).map some) S1
def evC : OEx → Env' → Sto → Res Bool
  | .none, _, S => .ok true S
  | .some a, e, S => (ev a e S).bind fun x S1 => asB x S1
def evs : Exs → Env' → Sto → Res (List PV)
  | .nil, _, S => .ok [] S
  | .cons a r, e, S => (ev a e S).bind fun x S1 => (evs r e S1).bind fun xs S2 => .ok (x :: xs) S2
def evB (k : Bool) : Exs → Env' → Sto → Res PV
  | .nil, _, _ => .bad
  | .cons a .nil, e, S => (ev a e S).bind fun x S1 => (asB x S1).bind fun b S2 => .ok (.bool b) S2
  | .cons a (.cons b r), e, S => (ev a e S).bind fun x S1 => (asB x S1).bind fun c S2 => if c == k then evB k (.cons b r) e S2 else .ok (.bool c) S2
def evI : It → Env' → Sto → Res Src
  | .e a, e, S => (ev a e S).bind fun x S1 => .ofOpt (srcV S1 x) S1
  | .rng a, e, S => (ev a e S).bind fun x S1 => .ofOpt ((intP x).bind fun j => (rg1 0 j).map Src.vals) S1
  | .rng2 a b, e, S => (ev a e S).bind fun x S1 => (ev b e S1).bind fun y S2 => .ofOpt ((intP x).bind fun i => (intP y).bind fun j => (rg1 i j).map Src.vals) S2
  | .rng3 a b c, e, S => (ev a e S).bind fun x S1 => (ev b e S1).bind fun y S2 => (ev c e S2).bind fun z S3 =>
      .ofOpt ((intP x).bind fun i => (intP y).bind fun j => (intP z).bind fun k => (rg3 i j k).map Src.vals) S3
  | .zip a b, e, S => (ev a e S).bind fun x S1 => (ev b e S1).bind fun y S2 => .ofOpt (zipV x y) S2
  | .enum a, e, S => (ev a e S).bind fun x S1 => .ofOpt (enumV x) S1
  | .tupv es, e, S => (evs es e S).bind fun vs S1 => if tupOk vs then .ok (.vals vs) S1 else .bad
end
def evT (a : Ex) (e : Env') (S : Sto) : Res Bool := (ev F L a e S).bind fun x S1 => asB x S1
def setPar : List Nat → List PV → Env' → Option Env'
  | [], [], e => some e
  | i :: is, x :: xs, e => setPar is xs (e.set i (some x))
  | _, _, _ => none
mutual
def exec : Stm → Env' → Sto → Out
  | .asg t a, e, S => (ev F L a e S).out e fun v S1 => .ofOpt (bindT t v e) fun e1 => .nx e1 S1
  | .par is es, e, S => (evs F L es e S).out e fun vs S1 => .ofOpt (setPar is vs e) fun e1 => .nx e1 S1
  | .seti o i a, e, S => (ev F L a e S).out e fun v S1 => (ev F L o e S1).out e fun x S2 => (ev F L i e S2).out e fun k S3 => match setV S3 x k v with
    | some S4 => .nx e S4
    | none => .bad
  | .aug i p a, e, S => match e[i]? with
    | some (some x) => (ev F L a e S).out e fun y S1 => match binV S1 p x y with
      | some z => .nx (e.set i (some z)) S1
      | none => .bad
    | _ => .bad
  | .augi o i p a, e, S => (ev F L o e S).out e fun x S1 => (ev F L i e S1).out e fun k S2 => match idxV S2 x k with
    | some z => (ev F L a e S2).out e fun y S3 => match binV S3 p z y with
      | some q => match setV S3 x k q with
        | some S4 => .nx e S4
        | none => .bad
      | none => .bad
    | none => .bad
  | .ex a, e, S => (ev F L a e S).out e fun _ S1 => .nx e S1
  | .ret a, e, S => (ev F L a e S).out e fun v S1 => .rt v S1
  | .retn, _, S => .rt .none S
  | .pass, e, S => .nx e S
  | .act t, e, S => (actM F e S).out e fun v S1 => match t with
    | none => .nx e S1
    | some j => .nx (e.set j (some v)) S1
  | .ite c a b, e, S => (evT F L c e S).out e fun k S1 => if k then execs a e S1 else execs b e S1
  | .for_ t i b, e, S => (evI F L i e S).out e fun s S1 => forS L (fun x e1 S2 => .ofOpt (bindT t x e1) fun e2 => execs b e2 S2) s e S1
  | .whil c b, e, S => whileL (evT F L c) (execs b) L e S
  | .raise c es, e, S => (evs F L es e S).out e fun vs S1 => match vs with
    | [] => .ex c none e S1
    | [.d x] => .ex c (some x) e S1
    | _ => .bad
  | .try_ b c nm s, e, S => match execs b e S with
    | .ex k f e1 S1 => if k == c || c == 0 then match nm with
        | some n => (execs s (e1.set n (some (.x k f))) S1).unx n
        | none => .bad
      else .ex k f e1 S1
    | o => o
def execs : Stms → Env' → Sto → Out
  | .nil, e, S => .nx e S
  | .cons s r, e, S => (exec s e S).bind fun e1 S1 => execs r e1 S1
end
end

/-- a def: its body, how many parameters, how many names; keep: what it lays stays (it hands back a cell) -/
structure Def where
  ar : Nat
  nm : Nat
  body : Stms
  keep : Bool := false
/-- what is handed back, all that was laid forgotten -/
def frz (n : Nat) (S : Sto) : PV → Option PV
  | .d x => some (.d x)
  | .r i => if i < n then some (.r i) else match S[i]? with
    | some (.lst xs) => (allD xs).map .lst
    | _ => none
  | .x _ _ => none
  | .s _ => none
  | .f _ => none
  | .clo _ _ => none
def leave (keep : Bool) (n : Nat) (v : PV) (S : Sto) : Res PV := if keep then .ok v S else .ofOpt (frz n S v) (S.take n)
def startE (nm : Nat) (vs : List PV) : Env' := vs.map some ++ List.replicate (nm - vs.length) none
def runD (F : Nat → List PV → Sto → Res PV) (L : Nat) (d : Def) (vs : List PV) (S : Sto) : Res PV :=
  if vs.length = d.ar then match execs F L d.body (startE d.nm vs) S with
    | .rt v S1 => leave d.keep S.length v S1
    | .nx _ S1 => leave d.keep S.length .none S1
    | .ex c f _ S1 => .ex c f (S1.take S.length)
    | .bad => .bad
  else .bad
/-- n calls deep -/
def run (D : List Def) (L : Nat) : Nat → Nat → List PV → Sto → Res PV
  | 0, _, _, _ => .bad
  | n + 1, f, vs, S => match D[f]? with
    | some d => runD (run D L n) L d vs S
    | none => match vs with
      | [.clo a e] => ev (run D L n) L a e S
      | _ => .bad
end Mn

end

section
set_option Elab.async false
set_option linter.all false
set_option maxRecDepth 100000
/-! MnPure: rules for what the small language's texts compute. -/
namespace Mn
open PySem (PyData Str sizeLine)
/-- behind a def's body -/
def finO (keep : Bool) (S : Sto) : Out → Res PV
  | .rt v S1 => leave keep S.length v S1
  | .nx _ S1 => leave keep S.length .none S1
  | .ex c f _ S1 => .ex c f (S1.take S.length)
  | .bad => .bad
theorem run_def {D : List Def} {L n f : Nat} {d : Def} {vs : List PV} {S : Sto} (hd : D[f]? = some d) (hl : vs.length = d.ar) : run D L (n + 1) f vs S = finO d.keep S (execs (run D L n) L d.body (startE d.nm vs) S) := by
  have e0 : run D L (n + 1) f vs S = runD (run D L n) L d vs S := by
    unfold run
    rw [hd]
  rw [e0]
  unfold runD
  rw [if_pos hl]
  cases execs (run D L n) L d.body (startE d.nm vs) S <;> rfl
theorem finO_d (S : Sto) (x : PyData) : finO false S (.rt (.d x) S) = .ok (.d x) S := by
  show Res.ok (PV.d x) (S.take S.length) = _
  rw [List.take_length]
theorem finO_da (S T : Sto) (x : PyData) : finO false S (.rt (.d x) (S ++ T)) = .ok (.d x) S := by
  show Res.ok (PV.d x) ((S ++ T).take S.length) = _
  rw [List.take_left]
theorem finO_n (S : Sto) (e : Env') : finO false S (.nx e S) = .ok .none S := by
  show Res.ok (PV.none) (S.take S.length) = _
  rw [List.take_length]
theorem finO_x (S : Sto) (e : Env') (c : Nat) (f : Option PyData) : finO false S (.ex c f e S) = .ex c f S := by
  show Res.ex c f (S.take S.length) = _
  rw [List.take_length]
theorem finO_k (S S1 : Sto) (v : PV) : finO true S (.rt v S1) = .ok v S1 := (rfl)
/-! ### loops over values -/
def lcV (body : PV → Sto → Res (Option PV)) : List PV → Sto → Res (List PV)
  | [], S => .ok [] S
  | x :: r, S => (body x S).noex.bind fun o S1 => (lcV body r S1).bind fun ys S2 => .ok (o.toList ++ ys) S2
def forV (body : PV → Env' → Sto → Out) : List PV → Env' → Sto → Out
  | [], e, S => .nx e S
  | x :: r, e, S => (body x e S).bind fun e1 S1 => forV body r e1 S1
theorem lcG_vals (body : PV → Sto → Res (Option PV)) (xs : List PV) : ∀ (n k : Nat) (S : Sto), k + n = xs.length → lcG (.vals xs) body (n + 1) k S = lcV body (xs.drop k) S
  | 0, k, S, h => by
    have e : xs[k]? = none := List.getElem?_eq_none (by omega)
    have e2 : xs.drop k = [] := List.drop_of_length_le (by omega)
    rw [e2]
    unfold lcG
    show (match (some xs[k]? : Option (Option PV)) with
      | none => _
      | some none => _
      | some (some x) => _) = _
    rw [e]
    rfl
  | n + 1, k, S, h => by
    have hk : k < xs.length := by omega
    have e : xs[k]? = some xs[k] := List.getElem?_eq_getElem hk
    have e2 : xs.drop k = xs[k] :: xs.drop (k + 1) := List.drop_eq_getElem_cons hk
    rw [e2]
    unfold lcG
    show (match (some xs[k]? : Option (Option PV)) with
      | none => _
      | some none => _
      | some (some x) => (body x S).noex.bind fun o S1 => (lcG (.vals xs) body (n + 1) (k + 1) S1).bind fun ys S2 => .ok (o.toList ++ ys) S2) = _
    rw [e]
    have ih := fun S1 => lcG_vals body xs n (k + 1) S1 (by omega)
    show ((body xs[k] S).noex.bind fun o S1 => (lcG (.vals xs) body (n + 1) (k + 1) S1).bind fun ys S2 => .ok (o.toList ++ ys) S2) = _
    simp only [ih]
    rfl
theorem lcS_vals (L : Nat) (body : PV → Sto → Res (Option PV)) (xs : List PV) (S : Sto) : lcS L body (.vals xs) S = lcV body xs S := by
  have := lcG_vals body xs xs.length 0 S (by omega)
  rw [List.drop_zero] at this
  exact this
theorem forG_vals (body : PV → Env' → Sto → Out) (xs : List PV) : ∀ (n k : Nat) (e : Env') (S : Sto), k + n = xs.length → forG (.vals xs) body (n + 1) k e S = forV body (xs.drop k) e S
  | 0, k, e, S, h => by
    have e1 : xs[k]? = none := List.getElem?_eq_none (by omega)
    have e2 : xs.drop k = [] := List.drop_of_length_le (by omega)
    rw [e2]
    unfold forG
    show (match (some xs[k]? : Option (Option PV)) with
      | none => _
      | some none => _
      | some (some x) => _) = _
    rw [e1]
    rfl
  | n + 1, k, e, S, h => by
    have hk : k < xs.length := by omega
    have e1 : xs[k]? = some xs[k] := List.getElem?_eq_getElem hk
    have e2 : xs.drop k = xs[k] :: xs.drop (k + 1) := List.drop_eq_getElem_cons hk
    rw [e2]
    unfold forG
    show (match (some xs[k]? : Option (Option PV)) with
      | none => _
      | some none => _
      | some (some x) => (body x e S).bind fun e1 S1 => forG (.vals xs) body (n + 1) (k + 1) e1 S1) = _
    rw [e1]
    have ih := fun e1 S1 => forG_vals body xs n (k + 1) e1 S1 (by omega)
    show ((body xs[k] e S).bind fun e1 S1 => forG (.vals xs) body (n + 1) (k + 1) e1 S1) = _
    simp only [ih]
    rfl
theorem forS_vals (L : Nat) (body : PV → Env' → Sto → Out) (xs : List PV) (e : Env') (S : Sto) : forS L body (.vals xs) e S = forV body xs e S := by
  have := forG_vals body xs xs.length 0 e S (by omega)
  rw [List.drop_zero] at this
  exact this
/-- a comprehension whose turns leave the store -/
theorem lcV_pure {body : PV → Sto → Res (Option PV)} {g : PV → Option PV} {S : Sto} : ∀ {xs : List PV}, (∀ x ∈ xs, body x S = .ok (g x) S) → lcV body xs S = .ok (xs.filterMap g) S
  | [], _ => rfl
  | x :: xs, h => by
    unfold lcV
    rw [h x List.mem_cons_self, Res.noex_ok, Res.bind_ok, lcV_pure fun y hy => h y (List.mem_cons_of_mem _ hy), Res.bind_ok]
    rw [List.filterMap_cons]
    cases g x <;> rfl
/-- a list of data -/
theorem allD_map : ∀ xs : List PyData, allD (xs.map PV.d) = some xs
  | [] => rfl
  | x :: xs => by
    show (allD (xs.map PV.d)).map (x :: ·) = _
    rw [allD_map xs]
    rfl
theorem intsD_map : ∀ xs : List Int, intsD (xs.map PyData.int) = some xs
  | [] => rfl
  | x :: xs => by
    show (intsD (xs.map PyData.int)).map (x :: ·) = _
    rw [intsD_map xs]
    rfl
theorem boolsD_map : ∀ xs : List Bool, boolsD (xs.map PyData.bool) = some xs
  | [] => rfl
  | x :: xs => by
    show (boolsD (xs.map PyData.bool)).map (x :: ·) = _
    rw [boolsD_map xs]
    rfl
/-- [f(x) for x in xs] over data -/
theorem lcV_map {body : PV → Sto → Res (Option PV)} {f : PyData → PyData} {S : Sto} {xs : List PyData} (h : ∀ x ∈ xs, body (.d x) S = .ok (some (.d (f x))) S) : lcV body (xs.map PV.d) S = .ok ((xs.map f).map PV.d) S := by
  rw [lcV_pure (g := fun p => match p with
    | .d x => some (.d (f x))
    | _ => none) fun p hp => by
      obtain ⟨x, hx, rfl⟩ := List.mem_map.mp hp
      exact h x hx]
  congr 1
  rw [List.filterMap_map, List.map_map, ← List.filterMap_eq_map]
  rfl
/-- [x for x in xs if p(x)] over data -/
theorem lcV_filter {body : PV → Sto → Res (Option PV)} {p : PyData → Bool} {S : Sto} {xs : List PyData} (h : ∀ x ∈ xs, body (.d x) S = .ok (if p x then some (.d x) else none) S) : lcV body (xs.map PV.d) S = .ok ((xs.filter p).map PV.d) S := by
  rw [lcV_pure (g := fun q => match q with
    | .d x => if p x then some (.d x) else none
    | _ => none) fun q hq => by
      obtain ⟨x, hx, rfl⟩ := List.mem_map.mp hq
      exact h x hx]
  congr 1
  clear h
  induction xs with
  | nil => rfl
  | cons x xs ih =>
    rw [List.map_cons, List.filterMap_cons, List.filter_cons, ih]
    by_cases hp : p x = true
    · simp [hp]
    · simp [hp]
/-! ### whole numbers -/
/-- whole numbers as data -/
def dIs (xs : List Int) : List PyData := xs.map PyData.int
theorem dIs_len (xs : List Int) : (dIs xs).length = xs.length := List.length_map _
theorem dIs_nil : dIs [] = [] := rfl
theorem dIs_cons (x : Int) (xs : List Int) : dIs (x :: xs) = .int x :: dIs xs := rfl
theorem dIs_app (xs ys : List Int) : dIs xs ++ dIs ys = dIs (xs ++ ys) := (List.map_append).symm
theorem intsD_ints (xs : List Int) : intsD (dIs xs) = some xs := intsD_map xs
theorem dIs_cut (xs : List Int) (lo hi : Option Int) : cutD (dIs xs) lo hi = dIs (cutD xs lo hi) := by
  unfold cutD dIs
  rw [List.map_take, List.map_drop, List.length_map]
theorem dIs_get (xs : List Int) (i : Nat) : (dIs xs)[i]? = (xs[i]?).map PyData.int := List.getElem?_map
theorem lcV_ints {body : PV → Sto → Res (Option PV)} {f : Int → PyData} {S : Sto} {xs : List Int} (h : ∀ i ∈ xs, body (PV.int i) S = .ok (some (.d (f i))) S) : lcV body ((dIs xs).map PV.d) S = .ok ((xs.map f).map PV.d) S := by
  rw [lcV_map (f := fun x => match x with
    | .int i => f i
    | _ => .none) (h := fun x hx => ?_)]
  · unfold dIs
    simp only [List.map_map]
    rfl
  · obtain ⟨i, hi, rfl⟩ := List.mem_map.mp hx
    exact h i hi
theorem lcV_intsF {body : PV → Sto → Res (Option PV)} {p : Int → Bool} {S : Sto} {xs : List Int} (h : ∀ i ∈ xs, body (PV.int i) S = .ok (if p i then some (PV.int i) else none) S) : lcV body ((dIs xs).map PV.d) S = .ok ((dIs (xs.filter p)).map PV.d) S := by
  rw [lcV_filter (p := fun x => match x with
    | .int i => p i
    | _ => false) (h := fun x hx => ?_)]
  · unfold dIs
    rw [List.filter_map]
    rfl
  · obtain ⟨i, hi, rfl⟩ := List.mem_map.mp hx
    exact h i hi
theorem lcV_rg {body : PV → Sto → Res (Option PV)} {f : Int → PyData} {S : Sto} {a : Int} {n : Nat} (h : ∀ k : Nat, k < n → body (PV.int (a + k)) S = .ok (some (.d (f (a + k)))) S) : lcV body (rgL a n 1) S = .ok (((List.range n).map fun k : Nat => f (a + k)).map PV.d) S := by
  have e : rgL a n 1 = (dIs ((List.range n).map fun k : Nat => a + k)).map PV.d := by
    unfold rgL dIs
    rw [List.map_map, List.map_map]
    refine List.map_congr_left fun k _ => ?_
    show PV.int (a + (k : Int) * 1) = _
    rw [Int.mul_one]
    rfl
  rw [e, lcV_ints (f := f) (h := fun i hi => ?_)]
  · simp only [List.map_map]
    rfl
  · obtain ⟨k, hk, rfl⟩ := List.mem_map.mp hi
    exact h k (List.mem_range.mp hk)
/-- pairs as data -/
def dPs (xs : List (Int × Int)) : List PyData := xs.map fun p => PyData.tuple [.int p.1, .int p.2]
theorem zip_dIs (xs ys : List Int) : zipD (dIs xs) (dIs ys) = (dPs (xs.zip ys)).map PV.d := by
  unfold zipD dIs dPs
  rw [List.zip_map, List.map_map, List.map_map]
  rfl
theorem lcV_pairs {body : PV → Sto → Res (Option PV)} {f : Int × Int → PyData} {S : Sto} {xs : List (Int × Int)} (h : ∀ p ∈ xs, body (PV.tup [.int p.1, .int p.2]) S = .ok (some (.d (f p))) S) : lcV body ((dPs xs).map PV.d) S = .ok ((xs.map f).map PV.d) S := by
  induction xs with
  | nil => rfl
  | cons x xs ih =>
    show lcV body (PV.tup [.int x.1, .int x.2] :: (dPs xs).map PV.d) S = _
    unfold lcV
    rw [h x List.mem_cons_self, Res.noex_ok, Res.bind_ok, ih fun p hp => h p (List.mem_cons_of_mem _ hp)]
    rfl
theorem lstD_d (S : Sto) (xs : List PyData) : lstD S (PV.lst xs) = some xs := rfl
theorem bools_map {α : Type} (f : α → Bool) (xs : List α) : boolsD (xs.map fun x => PyData.bool (f x)) = some (xs.map f) := by
  have e : (xs.map fun x => PyData.bool (f x)) = (xs.map f).map PyData.bool := by rw [List.map_map]; rfl
  rw [e, boolsD_map]
theorem all_map {α : Type} (f : α → Bool) (xs : List α) : (xs.map f).all id = xs.all f := by rw [List.all_map]; rfl
/-! ### builtins at data -/
section
variable (S : Sto) (xs : List PyData)
theorem bi_all : biV S .all [PV.lst xs] = (boolsD xs).map fun bs => PV.bool (bs.all id) := by show ((lstD S (PV.lst xs)).bind boolsD).map _ = _; rfl
theorem bi_any : biV S .any [PV.lst xs] = (boolsD xs).map fun bs => PV.bool (bs.any id) := by show ((lstD S (PV.lst xs)).bind boolsD).map _ = _; rfl
theorem bi_sum : biV S .sum [PV.lst xs] = (intsD xs).map fun ns => PV.int ns.sum := (rfl)
theorem bi_tup : biV S .tuple [PV.lst xs] = some (PV.tup xs) := (rfl)
theorem bi_tupt : biV S .tuple [PV.tup xs] = some (PV.tup xs) := (rfl)
theorem bi_lst : biV S .list [PV.lst xs] = some (PV.lst xs) := (rfl)
theorem bi_lstt : biV S .list [PV.tup xs] = some (PV.lst xs) := (rfl)
theorem bi_len : biV S .len [PV.lst xs] = some (PV.int (xs.length : Nat)) := by
  show some (PV.int (((xs.map PV.d).length : Nat) : Int)) = _
  rw [List.length_map]
theorem bi_lent : biV S .len [PV.tup xs] = some (PV.int (xs.length : Nat)) := by
  show some (PV.int (((xs.map PV.d).length : Nat) : Int)) = _
  rw [List.length_map]
theorem bi_sort : biV S .sorted [PV.lst xs] = (intsD xs).map fun ns => PV.lst (dIs (sortI ns)) := (rfl)
theorem bi_sortt : biV S .sorted [PV.tup xs] = (intsD xs).map fun ns => PV.lst (dIs (sortI ns)) := (rfl)
theorem bi_int (i : Int) : biV S .int [PV.int i] = some (PV.int i) := (rfl)
theorem bi_abs (i : Int) : biV S .abs [PV.int i] = some (PV.int (absI i)) := (rfl)
theorem bi_intb (b : Bool) : biV S .int [PV.bool b] = some (PV.int (if b then 1 else 0)) := (rfl)
theorem src_t : srcV S (PV.tup xs) = some (.vals (xs.map .d)) := (rfl)
theorem src_l : srcV S (PV.lst xs) = some (.vals (xs.map .d)) := (rfl)
theorem slc_t (lo hi : Option Int) : slcV S (PV.tup xs) lo hi = some (PV.tup (cutD xs lo hi)) := (rfl)
theorem slc_l (lo hi : Option Int) : slcV S (PV.lst xs) lo hi = some (PV.lst (cutD xs lo hi)) := (rfl)
theorem zip_t (ys : List PyData) : zipV (PV.tup xs) (PV.tup ys) = some (.vals (zipD xs ys)) := (rfl)
theorem zip_l (ys : List PyData) : zipV (PV.lst xs) (PV.lst ys) = some (.vals (zipD xs ys)) := (rfl)
theorem int_P (i : Int) : intP (PV.int i) = some i := (rfl)
theorem add_i (i j : Int) : binV S .add (PV.int i) (PV.int j) = some (PV.int (i + j)) := (rfl)
theorem sub_i (i j : Int) : binV S .sub (PV.int i) (PV.int j) = some (PV.int (i - j)) := (rfl)
theorem mul_i (i j : Int) : binV S .mul (PV.int i) (PV.int j) = if mulOk i j then some (PV.int (i * j)) else none := (rfl)
theorem fdiv_i (i j : Int) : binV S .fdiv (PV.int i) (PV.int j) = if divOk j then some (PV.int (i.fdiv j)) else none := (rfl)
theorem mod_i (i j : Int) : binV S .mod (PV.int i) (PV.int j) = if j ≠ 0 then some (PV.int (i.fmod j)) else none := (rfl)
theorem add_t (ys : List PyData) : binV S .add (PV.tup xs) (PV.tup ys) = if xs.length + ys.length ≤ sizeLine then some (PV.tup (xs ++ ys)) else none := (rfl)
theorem idx_l (n : Int) : idxV S (PV.lst xs) (PV.int n) = (ixAt xs.length n).bind fun j => (xs[j]?).map PV.d := by
  show ((ixAt (xs.map PV.d).length n).bind fun j => (xs.map PV.d)[j]?) = _
  simp only [List.length_map, List.getElem?_map]
theorem idx_t (n : Int) : idxV S (PV.tup xs) (PV.int n) = (ixAt xs.length n).bind fun j => (xs[j]?).map PV.d := by
  show ((ixAt (xs.map PV.d).length n).bind fun j => (xs.map PV.d)[j]?) = _
  simp only [List.length_map, List.getElem?_map]
theorem lt_i (i j : Int) : cmpV S .lt (PV.int i) (PV.int j) = some (decide (i < j)) := (rfl)
theorem le_i (i j : Int) : cmpV S .le (PV.int i) (PV.int j) = some (decide (i ≤ j)) := (rfl)
theorem gt_i (i j : Int) : cmpV S .gt (PV.int i) (PV.int j) = some (decide (j < i)) := (rfl)
theorem ge_i (i j : Int) : cmpV S .ge (PV.int i) (PV.int j) = some (decide (j ≤ i)) := (rfl)
theorem eq_i (i j : Int) : cmpV S .eq (PV.int i) (PV.int j) = some (decide (i = j)) := by
  show eqV S (PV.int i) (PV.int j) = _
  simp [eqV, snap, shp, PyData.canLay0, PyData.depth, PyData.eqv]
  rfl
theorem ne_i (i j : Int) : cmpV S .ne (PV.int i) (PV.int j) = some (!decide (i = j)) := by
  show (eqV S (PV.int i) (PV.int j)).map (!·) = _
  have e : eqV S (PV.int i) (PV.int j) = some (decide (i = j)) := eq_i S i j
  rw [e]
  rfl
end
/-! ### the last cell -/
section
variable (S : Sto) (c : Cell)
theorem last_at : (S ++ [c])[S.length]? = some c := by
  rw [List.getElem?_append_right (Nat.le_refl _), Nat.sub_self]
  rfl
theorem last_set (c2 : Cell) : (S ++ [c]).set S.length c2 = S ++ [c2] := by
  rw [List.set_append_right _ _ (Nat.le_refl _), Nat.sub_self]
  rfl
theorem last_isL (xs : List PV) : isL (S ++ [.lst xs]) (.r S.length) = true := by
  show ((match (S ++ [Cell.lst xs])[S.length]? with
    | some (.lst _) => some (Ty.list == .list)
    | some (.dct _) => some (Ty.list == .dict)
    | none => none) == some true) = true
  rw [last_at]
  rfl
theorem last_app (xs : List PV) (v : PyData) (h : xs.length < sizeLine) : muV (S ++ [.lst xs]) .append (.r S.length) [PV.d v] = .ok .none (S ++ [.lst (xs ++ [PV.d v])]) := by
  simp [muV, last_at, below, h, last_set]
theorem last_seq (xs : List PyData) : seqD (S ++ [.lst (xs.map PV.d)]) (.r S.length) = some xs := by
  show (match (S ++ [Cell.lst (xs.map PV.d)])[S.length]? with
    | some (.lst xs) => allD xs
    | _ => none) = _
  rw [last_at]
  exact allD_map xs
end
theorem newF_d (S : Sto) (xs : List PyData) : newF (xs.map PV.d) S = .ok (.r S.length) (S ++ [.lst (xs.map PV.d)]) := by
  unfold newF
  rw [if_pos]
  unfold okL
  rw [List.all_map]
  exact List.all_eq_true.mpr fun _ _ => rfl
end Mn

end

section
set_option Elab.async false
set_option linter.all false
set_option maxRecDepth 100000
/-! MnRep: how values and stores of the small language lie in the layer's heap. -/
namespace Mn
open PySem PySem.Spec PyProof.Rows L2

/-- a lambda that was handed on: its function object, its code object and that one's name, what it reads: the names of its maker -/
structure Thk where
  f : Addr
  c : Addr
  q : Str
  e : Ex
  env : Env'
  σ : L2.St
/-- what stands all along: the error that is handled, the lambda, where the defs lie, the tables of code objects -/
structure Xa where
  er : Option (Addr × Nat × Option PyData) := none
  th : Option Thk := none
  fa : Nat → Option Addr := fun _ => none
  tb : List (Addr × Str) := []
/-- fz: what is frozen; m: where the cells lie; xa: see Xa; pv: what stands and is touched by nobody -/
structure Wd where
  fz : Addr → Prop
  m : List Addr
  xa : Xa := {}
  pv : List Addr := []
/-- how an error lies: its class's address by its number, its field -/
structure Pm where
  rel : Wd → Hp → Nat → Option PyData → Value → Option Addr → Prop
  xa : Xa := {}
/-- what is kept privately -/
def PvO : Option HO → Prop
  | some (.lst _) => True
  | some (.dK _) => True
  | some (.dT _) => True
  | some (.set _ _) => True
  | _ => False
theorem PvO.ne {o : Option HO} (h : PvO o) : o ≠ none := fun z => by rw [z] at h; exact h
theorem PvO.tbl {o : Option HO} (h : PvO o) (ps : Array Value) : o ≠ some (.tbl ps) := fun z => by rw [z] at h; exact h
theorem PvO.code {o : Option HO} (h : PvO o) {c : Addr} {q : Str} : o ≠ some (LamX.CodeO c q) := fun z => by rw [z] at h; exact h
abbrev XRel := Pm

section
variable (K : PySem.W.Frag) (w : Wd) (H : Hp)
def TupAt (a : Addr) (vs : List V) : Prop := (w.fz a ∧ Rd H a (.tup vs)) ∨
  ∃ (o : Obj) (its : Array Value) (n : Nat), K.lookup a = some o ∧ o.cls = .type "tuple" ∧ o.data = .seq its n ∧ its.size ≤ sizeLine ∧ Vals vs its.toList
def ScrAt (a : Addr) (vs : List V) : Prop := (w.fz a ∧ Rd H a (.lst vs)) ∨
  ∃ (o : Obj) (its : Array Value) (n : Nat), K.lookup a = some o ∧ o.cls = .type "list" ∧ o.dict = none ∧ o.data = .seq its n ∧ its.size ≤ sizeLine ∧ Vals vs its.toList
def LstAt (a : Addr) (vs : List V) : Prop := w.fz a ∧ H a = some (.lst vs)
mutual
inductive RD : PyData → V → Prop where
  | none : RD .none .non
  | bool (b : Bool) : RD (.bool b) (.bl b)
  | int (i : Int) : RD (.int i) (.int i)
  | str (s : Str) : RD (.str s) (.str s)
  | tup {a : Addr} {vs : List V} {xs : List PyData} : TupAt K w H a vs → RDs xs vs → RD (.tuple xs) (.ref a)
  | lst {a : Addr} {vs : List V} {xs : List PyData} : LstAt w H a vs → RDs xs vs → RD (.list xs) (.ref a)
  | dct {a : Addr} {ks : List (Key × V)} {xs : List (PyData × PyData)} : w.fz a → H a = some (.dK ks) → RKs xs ks → RD (.dict xs) (.ref a)
inductive RDs : List PyData → List V → Prop where
  | nil : RDs [] []
  | cons {x : PyData} {v : V} {xs : List PyData} {vs : List V} : RD x v → RDs xs vs → RDs (x :: xs) (v :: vs)
inductive RKs : List (PyData × PyData) → List (Key × V) → Prop where
  | nil : RKs [] []
  | cons {k : Key} {x : PyData} {v : V} {xs : List (PyData × PyData)} {vs : List (Key × V)} : RD x v → RKs xs vs → RKs ((keyD k, x) :: xs) ((k, v) :: vs)
end
def RV : PV → V → Prop
  | .d x, v => RD K w H x v
  | .r i, v => ∃ a, w.m[i]? = some a ∧ v = .ref a
  | .x c f, v => ∃ a, w.xa.er = some (a, c, f) ∧ v = .ref a
  | .s ns, v => ∃ a, v = .ref a ∧ ScrAt K w H a (ns.map V.int)
  | .f i, v => ∃ a, w.xa.fa i = some a ∧ v = .ref a
  | .clo e env, v => ∃ t, w.xa.th = some t ∧ t.e = e ∧ t.env = env ∧ v = .ref t.f
abbrev RVs : List PV → List V → Prop := Paired (RV K w H)
def RC (i : Nat) (a : Addr) : Cell → Prop
  | .lst xs => ∃ vs, H a = some (.lst vs) ∧ RVs K w H xs vs ∧ ∀ x ∈ xs, below i x = true
  | .dct kvs => ∃ ks, H a = some (.dK ks) ∧ Paired (fun (p : PyData × PV) (q : Key × V) => p.1 = keyD q.1 ∧ RV K w H p.2 q.2) kvs ks ∧ ∀ p ∈ kvs, below i p.2 = true
/-- a table: each code object that it tells bears the name q, and stays -/
def TabF (P : Addr) (q : Str) : Prop := ¬ w.fz P ∧ ∃ ps : Array Value, H P = some (.tbl ps) ∧ TriplesOk ps.toList ∧ ∀ (pos : Pos) (cv : Value), codeAmong pos ps.toList = some cv → ∃ c, cv = .ref c ∧ H c = some (LamX.CodeO c q) ∧ w.fz c
structure RS (S : Sto) : Prop where
  len : w.m.length = S.length
  nd : w.m.Nodup
  cell : ∀ i c, S[i]? = some c → ∃ a, w.m[i]? = some a ∧ ¬ w.fz a ∧ RC K w H i a c
  fzH : ∀ a, w.fz a → H a ≠ none
  fzT : ∀ a, w.fz a → ∀ ps, H a ≠ some (.tbl ps)
  pvH : ∀ a, a ∈ w.pv → ¬ w.fz a ∧ a ∉ w.m ∧ PvO (H a)
  tab : ∀ p ∈ w.xa.tb, TabF w H p.1 p.2
/-- the lambda's own: its code object stays, its maker's names -/
def ThR (t : Thk) : Prop := (w.fz t.c ∧ H t.c = some (LamX.CodeO t.c t.q)) ∧ t.env.length = t.σ.length ∧ ∀ (i : Nat) (p : PV), t.env[i]? = some (some p) → ∃ v, t.σ[i]? = some (some v) ∧ RV K { w with xa := { w.xa with er := none, th := none } } H p v
structure RE (RX : Pm) (e : Env') (σ : L2.St) : Prop where
  xa : w.xa = RX.xa
  len : e.length = σ.length
  at_ : ∀ (i : Nat) (p : PV), e[i]? = some (some p) → ∃ v, σ[i]? = some (some v) ∧ RV K w H p v
  th : ∀ t, w.xa.th = some t → ThR K w H t
end
structure Ext (w : Wd) (H : Hp) (w' : Wd) (H' : Hp) : Prop where
  fz : ∀ a, w.fz a → w'.fz a
  keep : ∀ a o, w.fz a → H a = some o → H' a = some o
  m : ∃ l, w'.m = w.m ++ l
  xa : w'.xa = w.xa
  pv : w'.pv = w.pv
  pvH : ∀ a, a ∈ w.pv → H' a = H a
section
variable {K : PySem.W.Frag} {w w' w'' : Wd} {H H' H'' : Hp}
theorem Ext.refl (w : Wd) (H : Hp) : Ext w H w H := ⟨fun _ h => h, fun _ _ _ h => h, ⟨[], by simp⟩, rfl, rfl, fun _ _ => rfl⟩
theorem Ext.trans (a : Ext w H w' H') (b : Ext w' H' w'' H'') : Ext w H w'' H'' :=
  ⟨fun x h => b.fz x (a.fz x h), fun x o h q => b.keep x o (a.fz x h) (a.keep x o h q), by
    obtain ⟨l, e⟩ := a.m
    obtain ⟨l', e'⟩ := b.m
    exact ⟨l ++ l', by rw [e', e, List.append_assoc]⟩, b.xa.trans a.xa, b.pv.trans a.pv, fun x h => (b.pvH x (by rw [a.pv]; exact h)).trans (a.pvH x h)⟩
theorem Ext.at (a : Ext w H w' H') {i : Nat} {x : Addr} (h : w.m[i]? = some x) : w'.m[i]? = some x := by
  obtain ⟨l, e⟩ := a.m
  have hi : i < w.m.length := by
    have := List.getElem?_eq_some_iff.mp h
    exact this.1
  rw [e, List.getElem?_append_left hi]; exact h
theorem Rd.mono {a : Addr} {o : HO} (hf : ∀ a, w.fz a → w'.fz a) (hk : ∀ a o, w.fz a → H a = some o → H' a = some o) (f : w.fz a) (h : Rd H a o) : Rd H' a o := by
  rcases h with h | ⟨ob, h⟩
  · exact .inl (hk a _ f h)
  · exact .inr ⟨ob, hk a _ f h⟩
theorem Rd.ext {a : Addr} {o : HO} (x : Ext w H w' H') (f : w.fz a) (h : Rd H a o) : Rd H' a o := Rd.mono x.fz x.keep f h
theorem TupAt.mono {a : Addr} {vs : List V} (hf : ∀ a, w.fz a → w'.fz a) (hk : ∀ a o, w.fz a → H a = some o → H' a = some o) (h : TupAt K w H a vs) : TupAt K w' H' a vs := by
  rcases h with ⟨f, h⟩ | h
  · exact .inl ⟨hf a f, Rd.mono hf hk f h⟩
  · exact .inr h
theorem ScrAt.mono {a : Addr} {vs : List V} (hf : ∀ a, w.fz a → w'.fz a) (hk : ∀ a o, w.fz a → H a = some o → H' a = some o) (h : ScrAt K w H a vs) : ScrAt K w' H' a vs := by
  rcases h with ⟨f, h⟩ | h
  · exact .inl ⟨hf a f, Rd.mono hf hk f h⟩
  · exact .inr h
theorem ScrAt.sq {a : Addr} {vs : List V} (h : ScrAt K w H a vs) : SqL K H a vs := by
  rcases h with ⟨f, h⟩ | h
  · exact .inl h
  · exact .inr h
theorem LstAt.mono {a : Addr} {vs : List V} (hf : ∀ a, w.fz a → w'.fz a) (hk : ∀ a o, w.fz a → H a = some o → H' a = some o) (h : LstAt w H a vs) : LstAt w' H' a vs := ⟨hf a h.1, hk a _ h.1 h.2⟩
mutual
theorem RD.mono (hf : ∀ a, w.fz a → w'.fz a) (hk : ∀ a o, w.fz a → H a = some o → H' a = some o) : ∀ {d : PyData} {v : V}, RD K w H d v → RD K w' H' d v
  | _, _, .none => .none
  | _, _, .bool b => .bool b
  | _, _, .int i => .int i
  | _, _, .str s => .str s
  | _, _, .tup h r => .tup (h.mono hf hk) (RDs.mono hf hk r)
  | _, _, .lst h r => .lst (h.mono hf hk) (RDs.mono hf hk r)
  | _, _, .dct f h r => .dct (hf _ f) (hk _ _ f h) (RKs.mono hf hk r)
theorem RDs.mono (hf : ∀ a, w.fz a → w'.fz a) (hk : ∀ a o, w.fz a → H a = some o → H' a = some o) : ∀ {d : List PyData} {v : List V}, RDs K w H d v → RDs K w' H' d v
  | _, _, .nil => .nil
  | _, _, .cons h r => .cons (RD.mono hf hk h) (RDs.mono hf hk r)
theorem RKs.mono (hf : ∀ a, w.fz a → w'.fz a) (hk : ∀ a o, w.fz a → H a = some o → H' a = some o) : ∀ {d : List (PyData × PyData)} {v : List (Key × V)}, RKs K w H d v → RKs K w' H' d v
  | _, _, .nil => .nil
  | _, _, .cons h r => .cons (RD.mono hf hk h) (RKs.mono hf hk r)
end
theorem TupAt.ext {a : Addr} {vs : List V} (x : Ext w H w' H') (h : TupAt K w H a vs) : TupAt K w' H' a vs := h.mono x.fz x.keep
theorem LstAt.ext {a : Addr} {vs : List V} (x : Ext w H w' H') (h : LstAt w H a vs) : LstAt w' H' a vs := h.mono x.fz x.keep
theorem RD.ext (x : Ext w H w' H') {d : PyData} {v : V} (h : RD K w H d v) : RD K w' H' d v := h.mono x.fz x.keep
theorem RDs.ext (x : Ext w H w' H') {d : List PyData} {v : List V} (h : RDs K w H d v) : RDs K w' H' d v := RDs.mono x.fz x.keep h
theorem RKs.ext (x : Ext w H w' H') {d : List (PyData × PyData)} {v : List (Key × V)} (h : RKs K w H d v) : RKs K w' H' d v := RKs.mono x.fz x.keep h
theorem RV.ext (x : Ext w H w' H') {p : PV} {v : V} (h : RV K w H p v) : RV K w' H' p v := by
  cases p with
  | d y => exact RD.ext x h
  | r i => obtain ⟨a, e, q⟩ := h; exact ⟨a, x.at e, q⟩
  | x c f => obtain ⟨a, e, q⟩ := h; exact ⟨a, by rw [x.xa]; exact e, q⟩
  | s ns => obtain ⟨a, e, q⟩ := h; exact ⟨a, e, q.mono x.fz x.keep⟩
  | f i => obtain ⟨a, e, q⟩ := h; exact ⟨a, by rw [x.xa]; exact e, q⟩
  | clo u env => obtain ⟨t, e, q⟩ := h; exact ⟨t, by rw [x.xa]; exact e, q⟩
theorem Paired.imp {α β : Type} {R R' : α → β → Prop} (f : ∀ a b, R a b → R' a b) : ∀ {xs : List α} {ys : List β}, Paired R xs ys → Paired R' xs ys
  | _, _, .nil => .nil
  | _, _, .cons r t => .cons (f _ _ r) (Paired.imp f t)
theorem RVs.ext (x : Ext w H w' H') {p : List PV} {v : List V} (h : RVs K w H p v) : RVs K w' H' p v := Paired.imp (fun _ _ => RV.ext x) h
theorem Ext.noth (x : Ext w H w' H') : Ext { w with xa := { w.xa with er := none, th := none } } H { w' with xa := { w'.xa with er := none, th := none } } H' := ⟨x.fz, x.keep, x.m, by show ({ w'.xa with er := none, th := none } : Xa) = { w.xa with er := none, th := none }; rw [x.xa], x.pv, x.pvH⟩
theorem ThR.ext (x : Ext w H w' H') {t : Thk} (h : ThR K w H t) : ThR K w' H' t := ⟨⟨x.fz _ h.1.1, x.keep _ _ h.1.1 h.1.2⟩, h.2.1, fun i p q => by
  obtain ⟨v, a, b⟩ := h.2.2 i p q
  exact ⟨v, a, b.ext x.noth⟩⟩
theorem TabF.mono {P : Addr} {q : Str} (h : TabF w H P q) (hf : ∀ a, w.fz a → w'.fz a) (hk : ∀ a o, w.fz a → H a = some o → H' a = some o) (hP : H' P = H P) (nf : ¬ w'.fz P) : TabF w' H' P q := by
  obtain ⟨_, ps, h1, h2, h3⟩ := h
  refine ⟨nf, ps, hP.trans h1, h2, fun pos cv e => ?_⟩
  obtain ⟨c, e1, e2, e3⟩ := h3 pos cv e
  exact ⟨c, e1, hk _ _ e3 e2, hf _ e3⟩
theorem TabF.some {P : Addr} {q : Str} (h : TabF w H P q) : ∃ ps, H P = some (.tbl ps) := ⟨_, h.2.choose_spec.1⟩
theorem RE.ext {RX : Pm} (x : Ext w H w' H') {e : Env'} {σ : L2.St} (h : RE K w H RX e σ) : RE K w' H' RX e σ := ⟨x.xa.trans h.xa, h.len, fun i p q => by
  obtain ⟨v, a, b⟩ := h.at_ i p q
  exact ⟨v, a, b.ext x⟩, fun t q => (h.th t (by rw [← x.xa]; exact q)).ext x⟩
theorem RC.ext (x : Ext w H w' H') {i : Nat} {a : Addr} {c : Cell} (h : RC K w H i a c) (e : H' a = H a) : RC K w' H' i a c := by
  cases c with
  | lst xs => obtain ⟨vs, h1, h2, h3⟩ := h; exact ⟨vs, e.trans h1, h2.ext x, h3⟩
  | dct kvs => obtain ⟨ks, h1, h2, h3⟩ := h; exact ⟨ks, e.trans h1, Paired.imp (fun _ _ q => ⟨q.1, q.2.ext x⟩) h2, h3⟩
theorem TupAt.sq {a : Addr} {vs : List V} (h : TupAt K w H a vs) : SqT K H a vs := by
  rcases h with ⟨_, h⟩ | h
  · exact .inl h
  · exact .inr h
theorem LstAt.sq {a : Addr} {vs : List V} (h : LstAt w H a vs) : SqL K H a vs := SqL.of h.2
theorem RC.some {i : Nat} {a : Addr} {c : Cell} (h : RC K w H i a c) : ∃ o, H a = some o ∧ Mut (some o) := by
  cases c with
  | lst xs => obtain ⟨vs, h1, _⟩ := h; exact ⟨_, h1, trivial⟩
  | dct kvs => obtain ⟨ks, h1, _⟩ := h; exact ⟨_, h1, trivial⟩
theorem RS.at {S : Sto} (r : RS K w H S) {i : Nat} {a : Addr} (h : w.m[i]? = some a) : ∃ c, S[i]? = some c ∧ ¬ w.fz a ∧ RC K w H i a c := by
  have hi : i < S.length := by rw [← r.len]; exact (List.getElem?_eq_some_iff.mp h).1
  obtain ⟨a', e, nf, rc⟩ := r.cell i S[i] (List.getElem?_eq_getElem hi)
  rw [h] at e
  cases e
  exact ⟨_, List.getElem?_eq_getElem hi, nf, rc⟩
theorem RS.mem_some {S : Sto} (r : RS K w H S) {a : Addr} (h : a ∈ w.m) : ∃ o, H a = some o := by
  obtain ⟨i, e⟩ := List.getElem?_of_mem h
  obtain ⟨c, _, _, rc⟩ := r.at e
  obtain ⟨o, q, _⟩ := rc.some
  exact ⟨o, q⟩
theorem RS.npv {S : Sto} (r : RS K w H S) {p : Addr} (h : H p = Option.none) {a : Addr} (q : a ∈ w.pv) : a ≠ p := fun z => (r.pvH a q).2.2.ne (by rw [z]; exact h)
theorem RS.ntab {S : Sto} (r : RS K w H S) {p : Addr} (h : ∀ ps, H p ≠ Option.some (.tbl ps)) {q : Addr × Str} (hq : q ∈ w.xa.tb) : q.1 ≠ p := fun z => by
  obtain ⟨ps, e⟩ := (r.tab q hq).some
  rw [z] at e
  exact h ps e
theorem RS.ntabN {S : Sto} (r : RS K w H S) {p : Addr} (h : H p = Option.none) {q : Addr × Str} (hq : q ∈ w.xa.tb) : q.1 ≠ p := r.ntab (fun ps z => by rw [h] at z; cases z) hq
theorem RS.fresh {S : Sto} (r : RS K w H S) {p : Addr} (h : H p = Option.none) : p ∉ w.m ∧ ¬ w.fz p := by
  refine ⟨fun q => ?_, fun q => r.fzH p q h⟩
  obtain ⟨o, e⟩ := r.mem_some q
  rw [h] at e
  cases e
theorem nodup_at {α : Type} {l : List α} (hN : l.Nodup) {i j : Nat} {x : α} (a : l[i]? = some x) (b : l[j]? = some x) : i = j := by
  obtain ⟨h1, e1⟩ := List.getElem?_eq_some_iff.mp a
  obtain ⟨h2, e2⟩ := List.getElem?_eq_some_iff.mp b
  exact (List.getElem_inj hN).mp (e1.trans e2.symm)
/-- a new frozen thing -/
def Wd.frozen (w : Wd) (p : Addr) : Wd := { w with fz := fun a => w.fz a ∨ a = p }
def Wd.celled (w : Wd) (p : Addr) : Wd := { w with m := w.m ++ [p] }
theorem ext_frozen {S : Sto} (r : RS K w H S) {p : Addr} {o : HO} (h : H p = Option.none) : Ext w H (w.frozen p) (upd H p o) :=
  ⟨fun a f => .inl f, fun a u f q => by rw [upd_ne (ne_of_none q h)]; exact q, ⟨[], by simp [Wd.frozen]⟩, rfl, rfl, fun a q => upd_ne (r.npv h q)⟩
theorem rs_frozen {S : Sto} (r : RS K w H S) {p : Addr} {o : HO} (h : H p = Option.none) (ho : ∀ ps, o ≠ .tbl ps := by intro _ z; cases z) : RS K (w.frozen p) (upd H p o) S := by
  have x := ext_frozen (o := o) r h
  refine ⟨r.len, r.nd, fun i c e => ?_, fun a f => ?_, fun a f ps => ?_, fun a f => ?_, fun q hq => (r.tab q hq).mono x.fz x.keep (upd_ne (r.ntabN h hq)) fun z => z.elim (r.tab q hq).1 (r.ntabN h hq)⟩
  · obtain ⟨a, e1, nf, rc⟩ := r.cell i c e
    have ne : a ≠ p := fun q => (r.fresh h).1 (by rw [← q]; exact List.mem_of_getElem? e1)
    exact ⟨a, e1, fun f => f.elim nf ne, rc.ext x (upd_ne ne)⟩
  · by_cases q : a = p
    · subst q; rw [upd_same]; exact fun z => nomatch z
    · rw [upd_ne q]; exact r.fzH a (f.elim id fun z => absurd z q)
  · by_cases q : a = p
    · subst q; rw [upd_same]; exact fun z => ho ps (Option.some.inj z)
    · rw [upd_ne q]; exact r.fzT a (f.elim id fun z => absurd z q) ps
  · obtain ⟨h1, h2, h3⟩ := r.pvH a f
    have ne := r.npv h f
    exact ⟨fun z => z.elim h1 ne, h2, by rw [upd_ne ne]; exact h3⟩
theorem ext_celled {S : Sto} (r : RS K w H S) {p : Addr} {o : HO} (h : H p = Option.none) : Ext w H (w.celled p) (upd H p o) :=
  ⟨fun a f => f, fun a u f q => by rw [upd_ne (ne_of_none q h)]; exact q, ⟨[p], rfl⟩, rfl, rfl, fun a q => upd_ne (r.npv h q)⟩
theorem rs_celled {S : Sto} (r : RS K w H S) {p : Addr} {o : HO} {c : Cell} (h : H p = Option.none) (hc : RC K (w.celled p) (upd H p o) S.length p c) : RS K (w.celled p) (upd H p o) (S ++ [c]) := by
  have x := ext_celled (o := o) r h
  have fr := r.fresh h
  refine ⟨by simp [Wd.celled, r.len], ?_, fun i c' e => ?_, fun a f => ?_, fun a f ps => ?_, fun a f => ?_, fun q hq => (r.tab q hq).mono x.fz x.keep (upd_ne (r.ntabN h hq)) (r.tab q hq).1⟩
  · show (w.m ++ [p]).Nodup
    rw [List.nodup_append]
    refine ⟨r.nd, by simp, fun a ha b hb => ?_⟩
    have eb : b = p := by simpa using hb
    exact fun q => fr.1 (by rw [← eb, ← q]; exact ha)
  · by_cases hi : i < S.length
    · rw [List.getElem?_append_left hi] at e
      obtain ⟨a, e1, nf, rc⟩ := r.cell i c' e
      have ne : a ≠ p := fun q => fr.1 (by rw [← q]; exact List.mem_of_getElem? e1)
      exact ⟨a, x.at e1, nf, rc.ext x (upd_ne ne)⟩
    · have ei : i = S.length := by
        have := (List.getElem?_eq_some_iff.mp e).1
        rw [List.length_append, List.length_singleton] at this
        omega
      subst ei
      rw [List.getElem?_append_right (Nat.le_refl _), Nat.sub_self] at e
      cases e
      refine ⟨p, ?_, fr.2, hc⟩
      show (w.m ++ [p])[S.length]? = _
      rw [← r.len, List.getElem?_append_right (Nat.le_refl _), Nat.sub_self]; rfl
  · have ne : a ≠ p := fun q => fr.2 (by rw [← q]; exact f)
    rw [upd_ne ne]; exact r.fzH a f
  · have ne : a ≠ p := fun q => fr.2 (by rw [← q]; exact f)
    rw [upd_ne ne]; exact r.fzT a f ps
  · obtain ⟨h1, h2, h3⟩ := r.pvH a f
    have ne := r.npv h f
    refine ⟨h1, ?_, by rw [upd_ne ne]; exact h3⟩
    show a ∉ w.m ++ [p]
    rw [List.mem_append, List.mem_singleton]
    exact fun z => z.elim h2 ne
/-- a cell is written -/
theorem ext_write {S : Sto} (r : RS K w H S) {i : Nat} {a : Addr} {o : HO} (h : w.m[i]? = some a) : Ext w H w (upd H a o) := by
  obtain ⟨c, _, nf, rc⟩ := r.at h
  refine ⟨fun _ f => f, fun b u f q => ?_, ⟨[], by simp⟩, rfl, rfl, fun b q => upd_ne fun z => (r.pvH b q).2.1 (by rw [z]; exact List.mem_of_getElem? h)⟩
  rw [upd_ne (fun z => nf (by rw [← z]; exact f))]; exact q
theorem rs_write {S : Sto} (r : RS K w H S) {i : Nat} {a : Addr} {o : HO} {c : Cell} (h : w.m[i]? = some a) (hc : RC K w (upd H a o) i a c) : RS K w (upd H a o) (S.set i c) := by
  have x := ext_write (o := o) r h
  obtain ⟨c0, e0, nf, rc⟩ := r.at h
  have hi : i < S.length := (List.getElem?_eq_some_iff.mp e0).1
  have nt : ∀ ps, H a ≠ Option.some (.tbl ps) := fun ps z => by
    obtain ⟨o, e1, mu⟩ := rc.some
    rw [z] at e1
    cases e1
    exact mu
  refine ⟨by rw [List.length_set]; exact r.len, r.nd, fun j c' e => ?_, fun b f => ?_, fun b f ps => ?_, fun b f => ?_, fun q hq => (r.tab q hq).mono x.fz x.keep (upd_ne (r.ntab nt hq)) (r.tab q hq).1⟩
  · by_cases hj : j = i
    · subst hj
      rw [List.getElem?_set_self hi] at e
      cases e
      exact ⟨a, h, nf, hc⟩
    · rw [List.getElem?_set_ne (Ne.symm hj)] at e
      obtain ⟨b, e1, nf1, rc1⟩ := r.cell j c' e
      have ne : b ≠ a := fun q => hj (by
        subst q
        exact nodup_at r.nd e1 h)
      exact ⟨b, e1, nf1, rc1.ext x (upd_ne ne)⟩
  · have ne : b ≠ a := fun q => nf (by rw [← q]; exact f)
    rw [upd_ne ne]; exact r.fzH b f
  · have ne : b ≠ a := fun q => nf (by rw [← q]; exact f)
    rw [upd_ne ne]; exact r.fzT b f ps
  · obtain ⟨h1, h2, h3⟩ := r.pvH b f
    have ne : b ≠ a := fun z => h2 (by rw [z]; exact List.mem_of_getElem? h)
    exact ⟨h1, h2, by rw [upd_ne ne]; exact h3⟩
/-! ### what stands privately -/
def Wd.priv (w : Wd) (p : Addr) : Wd := { w with pv := p :: w.pv }
theorem RV.mono (hf : ∀ a, w.fz a → w'.fz a) (hk : ∀ a o, w.fz a → H a = Option.some o → H' a = Option.some o) (hm : ∀ (i : Nat) (a : Addr), w.m[i]? = Option.some a → w'.m[i]? = Option.some a) (hx : w'.xa = w.xa) {p : PV} {v : V} (h : RV K w H p v) : RV K w' H' p v := by
  cases p with
  | d y => exact RD.mono hf hk h
  | r i => obtain ⟨a, e, q⟩ := h; exact ⟨a, hm _ _ e, q⟩
  | x c f => obtain ⟨a, e, q⟩ := h; exact ⟨a, by rw [hx]; exact e, q⟩
  | s ns => obtain ⟨a, e, q⟩ := h; exact ⟨a, e, q.mono hf hk⟩
  | f i => obtain ⟨a, e, q⟩ := h; exact ⟨a, by rw [hx]; exact e, q⟩
  | clo u env => obtain ⟨t, e, q⟩ := h; exact ⟨t, by rw [hx]; exact e, q⟩
theorem RC.mono (hf : ∀ a, w.fz a → w'.fz a) (hk : ∀ a o, w.fz a → H a = Option.some o → H' a = Option.some o) (hm : ∀ (i : Nat) (a : Addr), w.m[i]? = Option.some a → w'.m[i]? = Option.some a) (hx : w'.xa = w.xa) {i : Nat} {a : Addr} {c : Cell} (h : RC K w H i a c) (e : H' a = H a) : RC K w' H' i a c := by
  cases c with
  | lst xs => obtain ⟨vs, h1, h2, h3⟩ := h; exact ⟨vs, e.trans h1, Paired.imp (fun _ _ => RV.mono hf hk hm hx) h2, h3⟩
  | dct kvs => obtain ⟨ks, h1, h2, h3⟩ := h; exact ⟨ks, e.trans h1, Paired.imp (fun _ _ q => ⟨q.1, q.2.mono hf hk hm hx⟩) h2, h3⟩
end

/-! ### what is wanted behind -/
section
variable {α β γ δ : Type} (RX : XRel) (K : PySem.W.Frag)
def Post (R : Wd → Hp → α → β → Prop) (w : Wd) (H : Hp) (r : Res α) (W : XK) (Q : β → Hp → Prop) : Prop := match r with
  | .ok v S => ∀ w' H' x, Ext w H w' H' → RS K w' H' S → R w' H' v x → Q x H'
  | .ex c f S => ∀ w' H' cls d, Ext w H w' H' → RS K w' H' S → RX.rel w' H' c f cls d → W cls d H'
  | .bad => False
end
section
variable {α β γ δ : Type} {RX : XRel} {K : PySem.W.Frag} {R : Wd → Hp → α → β → Prop} {R2 : Wd → Hp → γ → δ → Prop} {w w' : Wd} {H H' : Hp} {r : Res α} {W : XK} {Q : β → Hp → Prop} {Q2 : δ → Hp → Prop}
theorem Post.ext (h : Post RX K R w H r W Q) (x : Ext w H w' H') : Post RX K R w' H' r W Q := by
  cases r with
  | ok v S => exact fun w2 H2 y x2 => h w2 H2 y (x.trans x2)
  | ex c f S => exact fun w2 H2 cls d x2 => h w2 H2 cls d (x.trans x2)
  | bad => exact h
theorem Post.bind {k : α → Sto → Res γ} (h : Post RX K R2 w H (r.bind k) W Q2)
    (go : ∀ v S w1 H1 x, Ext w H w1 H1 → RS K w1 H1 S → R w1 H1 v x → Post RX K R2 w1 H1 (k v S) W Q2 → Q x H1) : Post RX K R w H r W Q := by
  cases r with
  | ok v S => exact fun w1 H1 x e rs rv => go v S w1 H1 x e rs rv (Post.ext h e)
  | ex c f S => exact h
  | bad => exact h
theorem Post.opt {S : Sto} {o : Option α} (h : Post RX K R w H (.ofOpt o S) W Q) : ∃ z, o = some z ∧ ∀ w' H' x, Ext w H w' H' → RS K w' H' S → R w' H' z x → Q x H' := by
  cases o with
  | none => exact h.elim
  | some z => exact ⟨z, rfl, h⟩
end
end Mn

end

section
set_option Elab.async false
set_option linter.all false
set_option maxRecDepth 100000
set_option maxHeartbeats 2000000
/-! MnZip: zip of a list and a tuple, by iterators of any kind. -/
namespace Mn
open PySem PySem.Spec PyProof.Rows L2 RZ
/-- an iterator object j over the thing at l: what it gives at turn k -/
structure Nx (prog : Program) (w : World) (j l : Addr) (At : Nat → Heap → Prop) (gv : Nat → Option Value) : Prop where
  lt : ∀ {k h}, At k h → j < h.objs.size
  keep : ∀ {k} {h g : Heap}, At k h → (∀ o, h.get? j = some o → g.get? j = some o) → (∀ o, h.get? l = some o → g.get? l = some o) → At k g
  item : ∀ {B : Around} {E : Value → Shared → Prop} {s : Shared} {k : Nat} {x : Value} {Q : Value → Shared → Prop}, At k s.heap → gv k = some x → (∀ g, At (k + 1) g → Heap.SameBut j s.heap g → Q x { s with heap := g }) → wpAny (model prog w) B (Builtin.SmallTypes.nextOf (.ref j)) Q E s
  stop : ∀ {B : Around} {E : Value → Shared → Prop} {s : Shared} {k : Nat} {Q : Value → Shared → Prop}, B.handled = none → At k s.heap → gv k = none → (∀ g e, Heap.ExtBut j s.heap g → (∃ o, g.get? e = some o ∧ o.cls = .type "StopIteration") → E (.ref e) { s with heap := g }) →
    wpAny (model prog w) B (Builtin.SmallTypes.nextOf (.ref j)) Q E s
section
variable {prog : Program} {w : World}
theorem nx_list {j l : Addr} {xs : Array Value} (hne : l ≠ j) : Nx prog w j l (fun k h => h.IsListIter j l k ∧ h.IsList l xs) (fun k => xs[k]?) where
  lt := fun {k h} q => by
    obtain ⟨⟨o, e, _⟩, _⟩ := q
    exact Heap.lt_size e
  keep := fun {k h g} q k1 k2 => ⟨q.1.at fun o e => k1 o e, q.2.at fun o e => k2 o e⟩
  item := fun q e k => wpAny_nextOf_list_item q.1 q.2 e fun g q2 sb => k g ⟨q2, q.2.at fun o e => (sb.2 _ hne).trans e⟩ sb
  stop := fun hh q e k => wpAny_nextOf_list_end hh q.1 q.2 e fun g u ex he => k g u ex he
theorem nx_tuple {j l : Addr} {xs : Array Value} (hne : l ≠ j) : Nx prog w j l (fun k h => h.IsTupleIter j l k ∧ h.IsTuple l xs) (fun k => xs[k]?) where
  lt := fun {k h} q => by
    obtain ⟨⟨o, e, _⟩, _⟩ := q
    exact Heap.lt_size e
  keep := fun {k h g} q k1 k2 => ⟨q.1.at fun o e => k1 o e, q.2.at fun o e => k2 o e⟩
  item := fun q e k => nextOf_tuple_item q.1 q.2 e fun g q2 sb => k g ⟨q2, q.2.at fun o e => (sb.2 _ hne).trans e⟩ sb
  stop := fun hh q e k => nextOf_tuple_end hh q.1 q.2 e fun g u ex he => k g u ex he
end
section
variable {prog : Program} {w : World} {B : Around} {E : Value → Shared → Prop} {s : Shared} {z TI TO j1 j2 l1 l2 : Addr} {A1 A2 : Nat → Heap → Prop} {v1 v2 : Nat → Option Value} {a b : Value} {k : Nat}
/-- what a zip object is at turn k -/
def ZAt (z TI TO j1 j2 : Addr) (A1 A2 : Nat → Heap → Prop) (k : Nat) (h : Heap) : Prop := IsZip h z TI TO .none ∧ IsPair h TI (.ref j1) (.ref j2) ∧ (∃ x y, IsPair h TO x y) ∧ A1 k h ∧ A2 k h
theorem zipG_item (D : ZipApart z TI TO j1 j2 l1 l2) (N1 : Nx prog w j1 l1 A1 v1) (N2 : Nx prog w j2 l2 A2 v2) {x y : Value} {Q : Value → Shared → Prop} (st : ZAt z TI TO j1 j2 A1 A2 k s.heap) (hx : v1 k = some x) (hy : v2 k = some y)
    (fin : ∀ g, IsZip g z TI TO (rawInt s.heap.objs.size) → IsPair g TO x y → A1 (k + 1) g → A2 (k + 1) g → IsPair g s.heap.objs.size x y → g.objs.size = s.heap.objs.size + 1 →
      (∀ c o, c ≠ z → c ≠ TO → c ≠ j1 → c ≠ j2 → s.heap.get? c = some o → g.get? c = some o) → Q (.ref s.heap.objs.size) { s with heap := g }) :
    wpAny (model prog w) B (Builtin.«zip.__next__» ⟨[.ref z], []⟩) (fun fin s' => ∃ v, fin = .done (.ret v) ∧ Q v s') E s := by
  obtain ⟨hz, hTI, ⟨a, b, hTO⟩, q1, q2⟩ := st
  show wpAny _ _ (field (.ref z) 2 >>= fun u => _) _ _ _
  refine wpAny_bind (wpAny_field hz rfl (x := .bool false) rfl ?r1)
  show wpAny _ _ (field (.ref z) 3 >>= fun u => _) _ _ _
  refine wpAny_bind (wpAny_field hz rfl (x := .ref TI) rfl (wpAny_bind (wpAny_seqItems hTI rfl ?r2)))
  show wpAny _ _ (Builtin.SmallTypes.ownedTupleIsFree (.ref z) >>= fun u => _) _ _ _
  refine wpAny_bind ?r3
  unfold Builtin.SmallTypes.ownedTupleIsFree
  refine wpAny_bind (wpAny_field hz rfl (x := .none) rfl (wpAny_pure ?r4))
  rw [if_pos (by rfl)]
  refine wpAny_bind (wpAny_rule (wpAny_bind (wpAny_field hz rfl (x := .ref TO) rfl (wpAny_bind (wpAny_setField_rec hz (by simp) fun g1 w1 e1 => ?r5)))))
  have w1 : IsZip g1 z TI TO .ellipsis := w1
  refine wpAny_bind ?r6
  simp only [List.zipIdx_cons, List.zipIdx_nil, List.forIn_cons, List.forIn_nil]
  have p1 : A1 k g1 := N1.keep q1 (fun o e => (e1.2 _ D.i1z).trans e) (fun o e => (e1.2 _ D.l1z).trans e)
  have p2 : A2 k g1 := N2.keep q2 (fun o e => (e1.2 _ D.i2z).trans e) (fun o e => (e1.2 _ D.l2z).trans e)
  refine wpAny_bind (wpAny_bind (wpAny_onRaise ?r7))
  show wpAny _ _ (Builtin.SmallTypes.nextOf (.ref j1) >>= fun u => _) _ _ _
  refine wpAny_bind (N1.item p1 hx fun g2 p12 e2 => wpAny_pure ?r8)
  have t2 : IsPair g2 TO a b := (e2.2 _ D.TOi1).trans ((e1.2 _ D.TOz).trans hTO)
  have p22 : A2 k g2 := N2.keep p2 (fun o e => (e2.2 _ D.i12.symm).trans e) (fun o e => (e2.2 _ D.l2i1).trans e)
  refine wpAny_bind (wpAny_seqItems t2 rfl (wpAny_bind (wpAny_updateSeq_pair t2 fun g3 t3 e3 => ?r9)))
  have t3 : IsPair g3 TO x b := t3
  have p13 : A1 (k + 1) g3 := N1.keep p12 (fun o e => (e3.2 _ D.TOi1.symm).trans e) (fun o e => (e3.2 _ D.l1TO).trans e)
  have p23 : A2 k g3 := N2.keep p22 (fun o e => (e3.2 _ D.TOi2.symm).trans e) (fun o e => (e3.2 _ D.l2TO).trans e)
  refine wpAny_bind (wpAny_letGo (wpAny_pure ?r10))
  refine wpAny_bind (wpAny_bind (wpAny_onRaise ?r11))
  show wpAny _ _ (Builtin.SmallTypes.nextOf (.ref j2) >>= fun u => _) _ _ _
  refine wpAny_bind (N2.item p23 hy fun g4 p24 e4 => wpAny_pure ?r12)
  have t4 : IsPair g4 TO x b := (e4.2 _ D.TOi2).trans t3
  have p14 : A1 (k + 1) g4 := N1.keep p13 (fun o e => (e4.2 _ D.i12).trans e) (fun o e => (e4.2 _ D.l1i2).trans e)
  refine wpAny_bind (wpAny_seqItems t4 rfl (wpAny_bind (wpAny_updateSeq_pair t4 fun g5 t5 e5 => ?r13)))
  have t5 : IsPair g5 TO x y := t5
  have p15 : A1 (k + 1) g5 := N1.keep p14 (fun o e => (e5.2 _ D.TOi1.symm).trans e) (fun o e => (e5.2 _ D.l1TO).trans e)
  have p25 : A2 (k + 1) g5 := N2.keep p24 (fun o e => (e5.2 _ D.TOi2.symm).trans e) (fun o e => (e5.2 _ D.l2TO).trans e)
  refine wpAny_bind (wpAny_letGo (wpAny_pure (wpAny_pure (wpAny_bind (wpAny_seqItems t5 rfl (wpAny_bind (wpAny_newTuple ?r14)))))))
  have sz : g5.objs.size = s.heap.objs.size := by rw [e5.1, e4.1, e3.1, e2.1, e1.1]
  have old : ∀ c o, c ≠ z → c ≠ TO → c ≠ j1 → c ≠ j2 → s.heap.get? c = some o → g5.get? c = some o := fun c o n1 n2 n3 n4 e => (e5.2 _ n2).trans ((e4.2 _ n4).trans ((e3.2 _ n2).trans ((e2.2 _ n3).trans ((e1.2 _ n1).trans e))))
  have w5 : IsZip g5 z TI TO .ellipsis := (e5.2 _ D.TOz.symm).trans ((e4.2 _ D.i2z.symm).trans ((e3.2 _ D.TOz.symm).trans ((e2.2 _ D.i1z.symm).trans w1)))
  have zl : z < g5.objs.size := Heap.lt_size w5
  have l15 := N1.lt p15
  have l25 := N2.lt p25
  show wpAny _ _ (Builtin.SmallTypes.ownedTupleHandOut (.ref z) (.ref g5.objs.size) >>= fun u => _) _ _ _
  refine wpAny_bind ?r15
  unfold Builtin.SmallTypes.ownedTupleHandOut
  have w6 : IsZip (g5.push { cls := .type "tuple", data := .seq #[x, y] }) z TI TO .ellipsis := Heap.get?_push_of_some _ w5
  refine wpAny_bind (wpAny_setField_rec w6 (by simp) fun g7 w7 e7 => ?r16)
  have w7 : IsZip g7 z TI TO (rawInt g5.objs.size) := w7
  refine wpAny_setField_rec w7 (by simp) fun g8 w8 e8 => ?r17
  have w8 : IsZip g8 z TI TO (rawInt g5.objs.size) := w8
  have up : ∀ c o, c ≠ z → g5.get? c = some o → g8.get? c = some o := fun c o n1 e => (e8.2 _ n1).trans ((e7.2 _ n1).trans (Heap.get?_push_of_some _ e))
  have t8 : IsPair g8 g5.objs.size x y := (e8.2 _ (Nat.ne_of_gt zl)).trans ((e7.2 _ (Nat.ne_of_gt zl)).trans (Heap.get?_push_size _ rfl))
  have s8 : g8.objs.size = g5.objs.size + 1 := by rw [e8.1, e7.1, Heap.size_push]
  have p18 : A1 (k + 1) g8 := N1.keep p15 (fun o e => up _ o D.i1z e) (fun o e => up _ o D.l1z e)
  have p28 : A2 (k + 1) g8 := N2.keep p25 (fun o e => up _ o D.i2z e) (fun o e => up _ o D.l2z e)
  have t58 := up _ _ D.TOz t5
  refine wpAny_pure ⟨_, rfl, ?r18⟩
  rw [sz] at w8 t8 s8
  show Q (.ref g5.objs.size) _
  rw [sz]
  exact fin g8 w8 t58 p18 p28 t8 s8 fun c o n1 n2 n3 n4 e => up c o n1 (old c o n1 n2 n3 n4 e)
theorem zipG_stop (hh : B.handled = none) (D : ZipApart z TI TO j1 j2 l1 l2) (N1 : Nx prog w j1 l1 A1 v1) (N2 : Nx prog w j2 l2 A2 v2) {Q : Fin → Shared → Prop} (st : ZAt z TI TO j1 j2 A1 A2 k s.heap) (hend : v1 k = none ∨ v2 k = none)
    (out : ∀ g e, (∀ c o, c ≠ z → c ≠ TO → c ≠ j1 → c ≠ j2 → s.heap.get? c = some o → g.get? c = some o) → (∃ o, g.get? e = some o ∧ o.cls = .type "StopIteration") → E (.ref e) { s with heap := g }) :
    wpAny (model prog w) B (Builtin.«zip.__next__» ⟨[.ref z], []⟩) Q E s := by
  obtain ⟨hz, hTI, ⟨a, b, hTO⟩, q1, q2⟩ := st
  show wpAny _ _ (field (.ref z) 2 >>= fun u => _) _ _ _
  refine wpAny_bind (wpAny_field hz rfl (x := .bool false) rfl ?r1)
  show wpAny _ _ (field (.ref z) 3 >>= fun u => _) _ _ _
  refine wpAny_bind (wpAny_field hz rfl (x := .ref TI) rfl (wpAny_bind (wpAny_seqItems hTI rfl ?r2)))
  show wpAny _ _ (Builtin.SmallTypes.ownedTupleIsFree (.ref z) >>= fun u => _) _ _ _
  refine wpAny_bind ?r3
  unfold Builtin.SmallTypes.ownedTupleIsFree
  refine wpAny_bind (wpAny_field hz rfl (x := .none) rfl (wpAny_pure ?r4))
  rw [if_pos (by rfl)]
  refine wpAny_bind (wpAny_rule (wpAny_bind (wpAny_field hz rfl (x := .ref TO) rfl (wpAny_bind (wpAny_setField_rec hz (by simp) fun g1 w1 e1 => ?r5)))))
  have w1 : IsZip g1 z TI TO .ellipsis := w1
  refine wpAny_bind ?r6
  simp only [List.zipIdx_cons, List.zipIdx_nil, List.forIn_cons, List.forIn_nil]
  have p1 : A1 k g1 := N1.keep q1 (fun o e => (e1.2 _ D.i1z).trans e) (fun o e => (e1.2 _ D.l1z).trans e)
  have p2 : A2 k g1 := N2.keep q2 (fun o e => (e1.2 _ D.i2z).trans e) (fun o e => (e1.2 _ D.l2z).trans e)
  refine wpAny_bind (wpAny_bind (wpAny_onRaise ?r7))
  show wpAny _ _ (Builtin.SmallTypes.nextOf (.ref j1) >>= fun u => _) _ _ _
  have noz : ∀ {g : Heap} {e : Addr}, IsZip g z TI TO .ellipsis → (∃ o, g.get? e = some o ∧ o.cls = .type "StopIteration") → e ≠ z := fun {g e} q ⟨o, h1, h2⟩ r => by
    rw [r, q] at h1
    cases h1
    simp at h2
  cases hx : v1 k with
  | none =>
    refine wpAny_bind (N1.stop hh p1 hx fun g2 e u2 he => ?_)
    have w2 : IsZip g2 z TI TO .ellipsis := u2 _ _ D.i1z.symm w1
    have ne := noz w2 he
    obtain ⟨oe, f1, f2⟩ := he
    exact wpAny_setField_rec w2 (by simp) fun g3 _ e3 => out g3 e (fun c o n1 _ n3 _ r => (e3.2 _ n1).trans (u2 _ _ n3 ((e1.2 _ n1).trans r))) ⟨oe, (e3.2 _ ne).trans f1, f2⟩
  | some x =>
    have hy : v2 k = none := hend.elim (fun q => by rw [hx] at q; cases q) id
    refine wpAny_bind (N1.item p1 hx fun g2 p12 e2 => wpAny_pure ?_)
    have t2 : IsPair g2 TO a b := (e2.2 _ D.TOi1).trans ((e1.2 _ D.TOz).trans hTO)
    have p22 : A2 k g2 := N2.keep p2 (fun o e => (e2.2 _ D.i12.symm).trans e) (fun o e => (e2.2 _ D.l2i1).trans e)
    refine wpAny_bind (wpAny_seqItems t2 rfl (wpAny_bind (wpAny_updateSeq_pair t2 fun g3 t3 e3 => ?_)))
    have p23 : A2 k g3 := N2.keep p22 (fun o e => (e3.2 _ D.TOi2.symm).trans e) (fun o e => (e3.2 _ D.l2TO).trans e)
    refine wpAny_bind (wpAny_letGo (wpAny_pure ?_))
    refine wpAny_bind (wpAny_bind (wpAny_onRaise ?_))
    show wpAny _ _ (Builtin.SmallTypes.nextOf (.ref j2) >>= fun u => _) _ _ _
    refine wpAny_bind (N2.stop hh p23 hy fun g4 e u4 he => ?_)
    have w4 : IsZip g4 z TI TO .ellipsis := u4 _ _ D.i2z.symm ((e3.2 _ D.TOz.symm).trans ((e2.2 _ D.i1z.symm).trans w1))
    have ne := noz w4 he
    obtain ⟨oe, f1, f2⟩ := he
    exact wpAny_setField_rec w4 (by simp) fun g5 _ e5 => out g5 e (fun c o n1 n2 n3 n4 r => (e5.2 _ n1).trans (u4 _ _ n4 ((e3.2 _ n2).trans ((e2.2 _ n3).trans ((e1.2 _ n1).trans r))))) ⟨oe, (e5.2 _ ne).trans f1, f2⟩
theorem nextG_item (D : ZipApart z TI TO j1 j2 l1 l2) (N1 : Nx prog w j1 l1 A1 v1) (N2 : Nx prog w j2 l2 A2 v2) {x y : Value} {Q : Option Value → Shared → Prop} (st : ZAt z TI TO j1 j2 A1 A2 k s.heap) (hx : v1 k = some x) (hy : v2 k = some y)
    (fin : ∀ g, IsZip g z TI TO (rawInt s.heap.objs.size) → IsPair g TO x y → A1 (k + 1) g → A2 (k + 1) g → IsPair g s.heap.objs.size x y → g.objs.size = s.heap.objs.size + 1 →
      (∀ c o, c ≠ z → c ≠ TO → c ≠ j1 → c ≠ j2 → s.heap.get? c = some o → g.get? c = some o) → Q (some (.ref s.heap.objs.size)) { s with heap := g }) : wpAny (model prog w) B (pyNext (.ref z)) Q E s := by
  have ty : s.TypeIs (.ref z) "zip" := ⟨_, st.1, rfl⟩
  unfold pyNext
  refine wpAny_bind (wpAny_attempt (wpAny_callSpecial?_slot (name := Str.ofString "__next__") ty F.slot_zip_next (wpAny_call_entry F.slot_zip_next ty F.entry_zip_next ?_ (F.args_zip_next_1 _))))
  exact zipG_item D N1 N2 st hx hy fun g a1 a2 a3 a4 a5 a6 a7 => wpAny_pure (fin g a1 a2 a3 a4 a5 a6 a7)
theorem nextG_stop (hh : B.handled = none) (D : ZipApart z TI TO j1 j2 l1 l2) (N1 : Nx prog w j1 l1 A1 v1) (N2 : Nx prog w j2 l2 A2 v2) {Q : Option Value → Shared → Prop} (st : ZAt z TI TO j1 j2 A1 A2 k s.heap) (hend : v1 k = none ∨ v2 k = none)
    (fin : ∀ g, (∀ c o, c ≠ z → c ≠ TO → c ≠ j1 → c ≠ j2 → s.heap.get? c = some o → g.get? c = some o) → Q none { s with heap := g }) : wpAny (model prog w) B (pyNext (.ref z)) Q E s := by
  have ty : s.TypeIs (.ref z) "zip" := ⟨_, st.1, rfl⟩
  unfold pyNext
  refine wpAny_bind (wpAny_attempt (wpAny_callSpecial?_slot (name := Str.ofString "__next__") ty F.slot_zip_next (wpAny_call_entry F.slot_zip_next ty F.entry_zip_next ?_ (F.args_zip_next_1 _))))
  refine zipG_stop (B := B.in1) hh D N1 N2 st hend (fun g e old he => ?_)
  obtain ⟨o, f1, f2⟩ := he
  exact wpAny_bind (wpAny_isInstance (T := "StopIteration") (b := true) ⟨o, f1, f2⟩ isSubtype_stop (wpAny_pure (fin g old)))
end
/-! ### the iterator of the layer: a list at a, a tuple at b -/
def ItzM (K : PySem.W.Frag) (a b : Addr) : L2.It :=
  ⟨fun i H => ∃ (xs ys : List V) (x y : V), SqL K H a xs ∧ SqT K H b ys ∧ xs[i]? = some x ∧ ys[i]? = some y,
    fun i H v H' => ∃ T x y, v = .ref T ∧ H T = none ∧ H' = upd H T (.tup [x, y]) ∧ (∀ xs, SqL K H a xs → xs[i]? = some x) ∧ ∀ ys, SqT K H b ys → ys[i]? = some y,
    fun i H => ∃ xs ys : List V, SqL K H a xs ∧ SqT K H b ys ∧ (xs.length ≤ i ∨ ys.length ≤ i)⟩
/-- its object at turn i -/
def ZM (z TI TO j1 j2 a b : Addr) (i : Nat) (h : Heap) : Prop := IsZip h z TI TO .none ∧ IsPair h TI (.ref j1) (.ref j2) ∧ (∃ x y, IsPair h TO x y) ∧ h.IsListIter j1 a i ∧ h.IsTupleIter j2 b i
theorem turn_zipM {P : Program} {w : World} {K : PySem.W.Frag} {elts : List Expr} {kk : Nat} {tpos : Pos} {a b z TI TO j1 j2 : Addr} (D : ZipApart z TI TO j1 j2 a b) : Turn P w K (.Tuple elts kk tpos) (ItzM K a b) [z, TI, TO, j1, j2] z (ZM z TI TO j1 j2 a b) where
  mem := List.mem_cons_self
  obj := fun i h st c hc => by
    obtain ⟨hz, hTI, ⟨x, y, hTO⟩, ⟨o1, e1, _, d1⟩, ⟨o2, e2, _, d2⟩⟩ := st
    have cs : c = z ∨ c = TI ∨ c = TO ∨ c = j1 ∨ c = j2 := by simpa using hc
    rcases cs with rfl | rfl | rfl | rfl | rfl
    · exact ⟨_, hz, fun v q => by cases q⟩
    · exact ⟨_, hTI, fun v q => by cases q⟩
    · exact ⟨_, hTO, fun v q => by cases q⟩
    · exact ⟨o1, e1, fun v q => by rw [d1] at q; cases q⟩
    · exact ⟨o2, e2, fun v q => by rw [d2] at q; cases q⟩
  keep := fun i h g st k => by
    obtain ⟨hz, hTI, ⟨x, y, hTO⟩, q1, q2⟩ := st
    exact ⟨k z (by simp) _ hz, k TI (by simp) _ hTI, ⟨x, y, k TO (by simp) _ hTO⟩, q1.at fun o e => k j1 (by simp) o e, q2.at fun o e => k j2 (by simp) o e⟩
  item := by
    intro X hP hw hK hc i pins s σ H E I hf st hg
    subst hP hw hK
    obtain ⟨hz, hTI, hTO, q1, q2⟩ := st
    obtain ⟨xs, ys, x, y, hqx, hqy, hx, hy⟩ := hg
    obtain ⟨its, rv, p1, _⟩ := I.list hqx
    obtain ⟨its2, rv2, p2, _⟩ := I.tuple hqy
    obtain ⟨u, hu, ru⟩ := rv.get hx
    obtain ⟨u2, hu2, ru2⟩ := rv2.get hy
    have zl : z < s.heap.objs.size := Heap.lt_size hz
    have p2 : s.heap.IsTuple b its2.toArray := p2
    refine nextG_item (k := i) D (nx_list (xs := its.toArray) D.l1i1) (nx_tuple (xs := its2.toArray) (D.l2i2)) (x := u) (y := u2) ⟨hz, hTI, hTO, ⟨q1, p1.isList⟩, ⟨q2, p2⟩⟩ (by simpa using hu) (by simpa using hu2) fun g zg tg r1 r2 T5 sz5 old => ?_
    refine ⟨_, rfl, wpAny_letOwnedTupleGo_zip (s := { s with heap := g }) zg fun g2 z2 sb => ?_⟩
    have T6 : g2.get? s.heap.objs.size = some { cls := .type "tuple", data := .seq #[u, u2] } := (sb.2 _ (Nat.ne_of_gt zl)).trans T5
    have nw : ObjOk X.prog X.w (upd H s.heap.objs.size (.tup [x, y])) g2 s.heap.objs.size (.tup [x, y]) := ⟨by show 2 ≤ sizeLine; decide, [u, u2], .cons ru (.cons ru2 .nil), ⟨_, T6, rfl, _, rfl⟩⟩
    have I1 : Inv X pins σ (upd H s.heap.objs.size (.tup [x, y])) { s with heap := g2 } := I.turnedNew (t' := s.toks) (ch := [z, TI, TO, j1, j2]) (fun c o hb q => by
      have m : c ≠ z ∧ c ≠ TI ∧ c ≠ TO ∧ c ≠ j1 ∧ c ≠ j2 := by simpa using hb
      exact (sb.2 c m.1).trans (old c o m.1 m.2.2.1 m.2.2.2.1 m.2.2.2.2 q)) hf (Nat.le_refl _) nw
    refine ⟨.ref s.heap.objs.size, _, I1, rfl, ⟨_, x, y, rfl, I.hok.fresh (Nat.le_refl _), rfl, fun l hl => by rw [I.list_inj hl hqx]; exact hx, fun l hl => by rw [I.tuple_inj hl hqy]; exact hy⟩, ⟨z2, ?_, ⟨u, u2, ?_⟩, ?_, ?_⟩, fun c hcm => ?_⟩
    · exact (sb.2 _ D.TIz).trans (old _ _ D.TIz D.TITO D.TIi1 D.TIi2 hTI)
    · exact (sb.2 _ D.TOz).trans tg
    · exact r1.1.at fun o q => (sb.2 _ D.i1z).trans q
    · exact r2.1.at fun o q => (sb.2 _ D.i2z).trans q
    · have lt : c < s.heap.objs.size := by
        have cs : c = z ∨ c = TI ∨ c = TO ∨ c = j1 ∨ c = j2 := by simpa using hcm
        obtain ⟨_, _, hTO'⟩ := hTO
        rcases cs with rfl | rfl | rfl | rfl | rfl
        · exact zl
        · exact Heap.lt_size hTI
        · exact Heap.lt_size hTO'
        · obtain ⟨_, e1, _⟩ := q1; exact Heap.lt_size e1
        · obtain ⟨_, e2, _⟩ := q2; exact Heap.lt_size e2
      rw [upd_ne (Nat.ne_of_lt lt)]
      exact (hf c hcm).1
  done := by
    intro X hP hw hK hc i pins s σ H E I hf st hg
    subst hP hw hK
    obtain ⟨hz, hTI, hTO, q1, q2⟩ := st
    obtain ⟨xs, ys, hqx, hqy, hend⟩ := hg
    obtain ⟨its, rv, p1, _⟩ := I.list hqx
    obtain ⟨its2, rv2, p2, _⟩ := I.tuple hqy
    have p2 : s.heap.IsTuple b its2.toArray := p2
    have n1 := rv.length
    have n2 := rv2.length
    have he : its.toArray[i]? = none ∨ its2.toArray[i]? = none := by
      rcases hend with q | q
      · exact .inl (by simp; omega)
      · exact .inr (by simp; omega)
    exact nextG_stop (k := i) (I.ok.hd hc) D (nx_list (xs := its.toArray) D.l1i1) (nx_tuple (xs := its2.toArray) (D.l2i2)) ⟨hz, hTI, hTO, ⟨q1, p1.isList⟩, ⟨q2, p2⟩⟩ he fun g old => ⟨rfl, I.turnedL (t' := s.toks) (ch := [z, TI, TO, j1, j2]) (fun c o hb q => by
      have m : c ≠ z ∧ c ≠ TI ∧ c ≠ TO ∧ c ≠ j1 ∧ c ≠ j2 := by simpa using hb
      exact old c o m.1 m.2.2.1 m.2.2.2.1 m.2.2.2.2 q) hf⟩
  self := fun A i s Q E st h => wpAny_pyIter_zip st.1 h
/-! ### zip(list, tuple) made -/
section
variable (hp : Heap) (a b : Addr)
abbrev zm1 : Heap := hp.push { cls := .type "list_iterator", data := .fields #[.ref a, .int 0 0] }
abbrev zm2 : Heap := (zm1 hp a).push { cls := .type "tuple_iterator", data := .fields #[.ref b, .int 0 0] }
abbrev zm3 : Heap := (zm2 hp a b).push { cls := .type "tuple", data := .seq #[.ref hp.objs.size, .ref (zm1 hp a).objs.size] }
abbrev zm4 : Heap := (zm3 hp a b).push { cls := .type "tuple", data := .seq #[.none, .none] }
abbrev zm5 : Heap := (zm4 hp a b).push { cls := .type "zip", data := .fields #[.none, .bool false, .bool false, .ref (zm2 hp a b).objs.size, .ref (zm3 hp a b).objs.size] }
end
theorem zipM_new (a b : Addr) (xs ys : Array Value) : Meets (Builtin.«zip.__new__» ⟨[.type "zip", .ref a, .ref b], []⟩) (fun _ R s => s.heap.IsList a xs ∧ s.heap.IsTuple b ys ∧ R (.ok (.ret (.ref (zm4 s.heap a b).objs.size))) { s with heap := zm5 s.heap a b }) :=
  .of_wp fun prog w A R s h => by
    obtain ⟨hp, g, d, tk, os⟩ := s
    obtain ⟨ha, hb, h⟩ := h
    have hsub := sub_zip
    have hA : Heap.IsList (Shared.heap ⟨hp, g, d, tk, os⟩) a xs := ha
    have hB : Heap.IsTuple (Shared.heap ⟨hp.push { cls := .type "list_iterator", data := .fields #[.ref a, .int 0 0] }, g, d, tk, os⟩) b ys := Heap.IsTuple.push hb _
    wp_walk using wpAny_pyIter_list hA, wpAny_pyIter_tuple hB
    exact ⟨_, rfl, h⟩
section
variable {prog : Program} {w : World} {B : Around} {E : Value → Shared → Prop} {s : Shared}
theorem call_zipM {a b : Addr} {xs ys : Array Value} {Q : Value → Shared → Prop} (ha : s.heap.IsList a xs) (hb : s.heap.IsTuple b ys)
    (fin : ∀ g, ZM (s.heap.objs.size + 4) (s.heap.objs.size + 2) (s.heap.objs.size + 3) s.heap.objs.size (s.heap.objs.size + 1) a b 0 g → (∀ c o, s.heap.get? c = some o → g.get? c = some o) → Q (.ref (s.heap.objs.size + 4)) { s with heap := g }) :
    wpAny (model prog w) B (call (.type "zip") [.ref a, .ref b]) Q E s := by
  refine callType_new F.called_zip (by decide) (F.typeCall_zip_2 _ _) (F.newCall_zip_2 _ _) (fun obj => F.args_object_init_3 obj _ _) F.entry_zip_new (zipM_new a b xs ys) ⟨ha, hb, ?_⟩
  have n1 : (zm1 s.heap a).objs.size = s.heap.objs.size + 1 := Heap.size_push ..
  have n2 : (zm2 s.heap a b).objs.size = s.heap.objs.size + 2 := by rw [Heap.size_push, n1]
  have n3 : (zm3 s.heap a b).objs.size = s.heap.objs.size + 3 := by rw [Heap.size_push, n2]
  have n4 : (zm4 s.heap a b).objs.size = s.heap.objs.size + 4 := by rw [Heap.size_push, n3]
  have u2 : ∀ c o, (zm1 s.heap a).get? c = some o → (zm5 s.heap a b).get? c = some o := fun c o e => Heap.get?_push_of_some _ (Heap.get?_push_of_some _ (Heap.get?_push_of_some _ (Heap.get?_push_of_some _ e)))
  have m5 : (zm5 s.heap a b).get? (zm4 s.heap a b).objs.size = some _ := Heap.get?_push_size _ rfl
  have m4 : (zm5 s.heap a b).get? (zm3 s.heap a b).objs.size = some _ := Heap.get?_push_of_some _ (Heap.get?_push_size _ rfl)
  have m3 : (zm5 s.heap a b).get? (zm2 s.heap a b).objs.size = some _ := Heap.get?_push_of_some _ (Heap.get?_push_of_some _ (Heap.get?_push_size _ rfl))
  have m2 : (zm5 s.heap a b).get? (zm1 s.heap a).objs.size = some _ := Heap.get?_push_of_some _ (Heap.get?_push_of_some _ (Heap.get?_push_of_some _ (Heap.get?_push_size _ rfl)))
  have m1 : (zm5 s.heap a b).get? s.heap.objs.size = some _ := u2 _ _ (Heap.get?_push_size _ rfl)
  show _ ∧ _
  rw [n2, n3, n4] at m5
  rw [n1, n2] at m3
  rw [n3] at m4
  rw [n1] at m2
  rw [n4]
  exact ⟨⟨_, m5, rfl⟩, fin _ ⟨m5, m3, ⟨_, _, m4⟩, ⟨_, m1, rfl, rfl⟩, ⟨_, m2, rfl, rfl⟩⟩ fun c o e => u2 c o (Heap.get?_push_of_some _ e)⟩
end
/-- zip(e, e2): two lists, two tuples, a list and a tuple -/
theorem pi_zipM {X : Cx} {e e2 : Expr} {ta : TA} {p pos tpos : Pos} {elts : List Expr} {kk : Nat} (hg : Gl X "zip") (hm : X.mg "zip" = none) (ha : PA X [e, e2] ta)
    (hs : starEach [e, e2] X.env = (false, eval e X.env) :: starEach [e2] X.env) (hpl : (backTo pos (starEach [e2] X.env)).any (·.1) = false) :
    PI X (.Tuple elts kk tpos) (.Call (.Name "zip" p) [e, e2] [] pos) (fun σ H R => ta σ H fun vs H1 => ∃ a b xs ys, vs = [.ref a, .ref b] ∧ ((SqL X.K H1 a xs ∧ SqL X.K H1 b ys ∧ R (Itz X.K a b) H1) ∨ (SqT X.K H1 a xs ∧ SqT X.K H1 b ys ∧ R (ItzT X.K a b) H1) ∨ (SqL X.K H1 a xs ∧ SqT X.K H1 b ys ∧ R (ItzM X.K a b) H1))) := by
  refine ⟨fun pins s σ H R I h => ?_⟩
  refine Call_ (ld_blt I hg hm PyProof.Rows.boot_zip (PyProof.Rows.callWith_type1 (thn (ha.run pos pins s σ H _ I h) fun us s1 ⟨vs, H1, I1, r1, q1⟩ => ?_) hs hpl))
  obtain ⟨a, b, xs, ys, ex, q1⟩ := q1
  subst ex
  obtain ⟨u, v, rfl, ra, rb⟩ : ∃ u v, us = [u, v] ∧ RelV (.ref a) u ∧ RelV (.ref b) v := by
    cases r1 with
    | cons r rr => cases rr with
      | cons r' rr => cases rr; exact ⟨_, _, rfl, r, r'⟩
  cases ra
  cases rb
  have mem5 : ∀ c, c ∈ [s1.heap.objs.size + 4, s1.heap.objs.size + 2, s1.heap.objs.size + 3, s1.heap.objs.size, s1.heap.objs.size + 1] → s1.heap.objs.size ≤ c := fun c hc => by
    have cs : c = s1.heap.objs.size + 4 ∨ c = s1.heap.objs.size + 2 ∨ c = s1.heap.objs.size + 3 ∨ c = s1.heap.objs.size ∨ c = s1.heap.objs.size + 1 := by simpa using hc
    omega
  have new5 : ∀ c, c ∈ [s1.heap.objs.size + 4, s1.heap.objs.size + 2, s1.heap.objs.size + 3, s1.heap.objs.size, s1.heap.objs.size + 1] → FpOk X pins H1 c := fun c hc => I1.fpOk (mem5 c hc) (I1.hok.fresh (mem5 c hc))
  rcases q1 with ⟨hqx, hqy, q⟩ | ⟨hqx, hqy, q⟩ | ⟨hqx, hqy, q⟩
  · obtain ⟨its, rv, p1, _⟩ := I1.list hqx
    obtain ⟨its2, rv2, p2, _⟩ := I1.list hqy
    exact call_zip_2 p1.isList p2.isList fun g hz hTI hTO h1 h2 _ old => wpAny_pyIter_zip hz ⟨_, _, _, _, H1, rfl, I1.kept (t' := s1.toks) old, turn_zip (PySem.W.ktu_apart s1.heap.objs.size a b p1.lt p2.lt), ⟨hz, hTI, ⟨_, _, hTO⟩, h1, h2⟩, new5, q⟩
  · obtain ⟨its, rv, p1, _⟩ := I1.tuple hqx
    obtain ⟨its2, rv2, p2, _⟩ := I1.tuple hqy
    have p1 : s1.heap.IsTuple a its.toArray := p1
    have p2 : s1.heap.IsTuple b its2.toArray := p2
    have k1 : a < s1.heap.objs.size := by obtain ⟨_, e, _⟩ := p1; exact Heap.lt_size e
    have k2 : b < s1.heap.objs.size := by obtain ⟨_, e, _⟩ := p2; exact Heap.lt_size e
    exact call_zipT p1 p2 fun g hz hTI hTO h1 h2 _ old => wpAny_pyIter_zip hz ⟨_, _, _, _, H1, rfl, I1.kept (t' := s1.toks) old, turn_zipT (PySem.W.ktu_apart s1.heap.objs.size a b k1 k2), ⟨hz, hTI, ⟨_, _, hTO⟩, h1, h2⟩, new5, q⟩
  · obtain ⟨its, rv, p1, _⟩ := I1.list hqx
    obtain ⟨its2, rv2, p2, _⟩ := I1.tuple hqy
    have p2 : s1.heap.IsTuple b its2.toArray := p2
    have k2 : b < s1.heap.objs.size := by obtain ⟨_, e, _⟩ := p2; exact Heap.lt_size e
    exact call_zipM p1.isList p2 fun g st old => wpAny_pyIter_zip st.1 ⟨_, _, _, _, H1, rfl, I1.kept (t' := s1.toks) old, turn_zipM (PySem.W.ktu_apart s1.heap.objs.size a b p1.lt k2), st, new5, q⟩
end Mn

end

section
set_option Elab.async false
set_option linter.all false
set_option maxRecDepth 100000
set_option maxHeartbeats 2000000
/-! MnEnum: enumerate of a tuple. -/
namespace Mn
open PySem PySem.Spec PyProof.Rows L2
/-- the tuple at a, each item in a new pair -/
def IteT (K : PySem.W.Frag) (a : Addr) : L2.It :=
  ⟨fun i H => ∃ (xs : List V) (x : V), SqT K H a xs ∧ xs[i]? = some x, fun i H v H' => ∃ T x, v = .ref T ∧ H T = none ∧ H' = upd H T (.tup [.int (i : Nat), x]) ∧ ∀ xs, SqT K H a xs → xs[i]? = some x, fun i H => ∃ xs : List V, SqT K H a xs ∧ xs.length ≤ i⟩
theorem turn_enumT {P : Program} {w : World} {K : PySem.W.Frag} {elts : List Expr} {kk : Nat} {tpos : Pos} (a e it : Addr) (hai : a ≠ it) (hae : a ≠ e) :
    Turn P w K (.Tuple elts kk tpos) (IteT K a) [e, it] e (fun i h => (∃ old, IsEnum h e it ((i : Nat) : Int) old) ∧ h.IsTupleIter it a i ∧ e ≠ it) where
  mem := by simp
  obj := fun i h st b hb => by
    obtain ⟨⟨old, he⟩, ⟨o, ho, hc, hd⟩, _⟩ := st
    have e' : b = e ∨ b = it := by simpa using hb
    rcases e' with z | z
    · rw [z]; exact ⟨_, he, fun v q => nomatch q⟩
    · rw [z]; exact ⟨o, ho, fun v q => by rw [hd] at q; cases q⟩
  keep := fun i h h' st k => let ⟨⟨old, he⟩, hi, hne⟩ := st; ⟨⟨old, k e (by simp) _ he⟩, hi.at fun o q => k it (by simp) o q, hne⟩
  item := by
    intro X hP hw hK hc i pins s σ H E I hf st hg
    subst hP hw hK
    obtain ⟨⟨old, he⟩, hit, hne⟩ := st
    obtain ⟨xs, x, hq, hx⟩ := hg
    obtain ⟨its, rv, p, hz⟩ := I.tuple hq
    have p : s.heap.IsTuple a its.toArray := p
    obtain ⟨u, hu, ru⟩ := rv.get hx
    have hel : e < s.heap.objs.size := Heap.lt_size he
    have hil : it < s.heap.objs.size := by obtain ⟨_, q, _⟩ := hit; exact Heap.lt_size q
    have hlt : i < its.toArray.size := by
      have := (List.getElem?_eq_some_iff.mp hu).1
      simpa using this
    refine wpAny_pyNext_enum_itemD (Draws.tuple (A := X.A.in1) (I.ok.hd hc) it a hai its.toArray) he ⟨hit, p⟩ hlt hne (by simp [hne, hae.symm]) fun u' h' tk hP ho hit' hT hsz hk => ?_
    have eu : u' = u := by
      have hP : its.toArray[i]? = some u' := hP
      rw [List.getElem?_toArray, hu] at hP
      exact (Option.some.inj hP).symm
    subst eu
    refine ⟨_, rfl, wpAny_letOwnedTupleGo_enum (s := { s with heap := h', toks := tk + 1 }) ho fun h'' he' sb => ?_⟩
    have hT2 : h''.get? s.heap.objs.size = some { cls := .type "tuple", data := .seq #[.int i tk, u'] } := (sb.2 _ (Nat.ne_of_gt hel)).trans hT
    have new : ObjOk X.prog X.w (upd H s.heap.objs.size (.tup [.int (i : Nat), x])) h'' s.heap.objs.size (.tup [.int (i : Nat), x]) :=
      ⟨by show 2 ≤ sizeLine; decide, [.int i tk, u'], .cons ⟨_, rfl⟩ (.cons ru .nil), ⟨_, hT2, rfl, _, rfl⟩⟩
    have I1 : Inv X pins σ (upd H s.heap.objs.size (.tup [.int (i : Nat), x])) { s with heap := h'', toks := tk + 1 } :=
      I.turnedNew (t' := tk + 1) (ch := [e, it]) (fun b ob hb q => (sb.2 b (fun z => hb (by simp [z]))).trans (hk b ob (fun z => hb (by simp [z])) (fun z => hb (by simp [z])) q)) hf (Nat.le_refl _) new
    refine ⟨.ref s.heap.objs.size, _, I1, rfl, ⟨_, x, rfl, I.hok.fresh (Nat.le_refl _), rfl, fun ys hy => by rw [I.tuple_inj hy hq]; exact hx⟩, ⟨⟨u', ?_⟩, hit'.1.at fun o q => (sb.2 it (Ne.symm hne)).trans q, hne⟩, fun b hb => ?_⟩
    · have e1 : ((i + 1 : Nat) : Int) = (i : Int) + 1 := by omega
      rw [e1]; exact he'
    · have hb' : b < s.heap.objs.size := by
        have e' : b = e ∨ b = it := by simpa using hb
        rcases e' with z | z
        · rw [z]; exact hel
        · rw [z]; exact hil
      rw [upd_ne (Nat.ne_of_lt hb')]
      exact (hf b hb).1
  done := by
    intro X hP hw hK hc i pins s σ H E I hf st hg
    subst hP hw hK
    obtain ⟨⟨old, he⟩, hit, hne⟩ := st
    obtain ⟨xs, hq, hx⟩ := hg
    obtain ⟨its, rv, p, hz⟩ := I.tuple hq
    have p : s.heap.IsTuple a its.toArray := p
    obtain ⟨f0, f1, f2, f3, f4, f5⟩ := hf it (by simp)
    have hl := rv.length
    have hT : s.TypeIs (.ref e) "enumerate" := ⟨_, he, rfl⟩
    unfold pyNext
    refine wpAny_bind (wpAny_attempt (wpAny_callSpecial?_slot (name := Str.ofString "__next__") hT F.slot_enumerate_next
      (wpAny_call_entry F.slot_enumerate_next hT F.entry_enumerate_next ?_ (F.args_enumerate_next_1 _))))
    show wpAny _ _ (field (.ref e) 2 >>= _) _ _ _
    refine wpAny_bind (wpAny_field he rfl (x := .ref it) rfl ?_)
    refine wpAny_bind (wpAny_nextOf_tuple_end (I.ok.hd hc) hit p (by simp; omega) fun h' x he' hx' => ?_)
    obtain ⟨o, ho, hc'⟩ := hx'
    refine wpAny_bind (wpAny_isInstance (T := "StopIteration") (b := true) ⟨o, ho, hc'⟩ isSubtype_stop ?_)
    exact wpAny_pure ⟨rfl, I.turned (t' := s.toks) (fun b o hb q => he' b o hb q) f0 f1 f3 f4 f5⟩
  self := fun A i s Q E st h => let ⟨⟨_, he⟩, _⟩ := st; wpAny_pyIter_enum he h
theorem meets_enumerate_newT (l : Addr) (items : Array Value) :
    Meets (Builtin.«enumerate.__new__» ⟨[.type "enumerate", .ref l], []⟩) (fun _ R s => s.heap.IsTuple l items ∧
      R (.ok (.ret (.ref (s.heap.push { cls := .type "tuple_iterator", data := .fields #[.ref l, .int 0 0] }).objs.size)))
        { s with heap := (s.heap.push { cls := .type "tuple_iterator", data := .fields #[.ref l, .int 0 0] }).push { cls := .type "enumerate", data := .fields #[.none, .bool false, .ref s.heap.objs.size, rawInt 0, .none, .none] } }) :=
  .of_wp fun prog w A R s h => by
    obtain ⟨hp, g, d, tk, os⟩ := s; obtain ⟨hl, h⟩ := h
    have hsub := sub_enumerate
    have hL : Heap.IsTuple (Shared.heap ⟨hp, g, d, tk, os⟩) l items := hl
    wp_walk
    refine wpAny_stack_any fun st => wpAny_pure ?_
    split
    · rename_i c _ _ _ _ _
      cases (c == Value.type "enumerate")
      · wp_walk using wpAny_pyIter_tuple hL
        exact ⟨_, rfl, h⟩
      · wp_walk using wpAny_pyIter_tuple hL
        exact ⟨_, rfl, h⟩
    · wp_walk using wpAny_pyIter_tuple hL
      exact ⟨_, rfl, h⟩
section
variable {prog : Program} {w : World} {A : Around} {E : Value → Shared → Prop} {s : Shared}
theorem call_enumerate_tuple {l : Addr} {items : Array Value} {Q : Value → Shared → Prop} (hL : s.heap.IsTuple l items)
    (h : ∀ h', IsEnum h' (s.heap.objs.size + 1) s.heap.objs.size 0 .none → h'.IsTupleIter s.heap.objs.size l 0 → h'.objs.size = s.heap.objs.size + 2 →
      (∀ b o, s.heap.get? b = some o → h'.get? b = some o) → Q (.ref (s.heap.objs.size + 1)) { s with heap := h' }) :
    wpAny (model prog w) A (call (.type "enumerate") [.ref l]) Q E s := by
  refine callType_new F.called_enumerate (by decide) (F.typeCall_enumerate_1 _) (F.newCall_enumerate_1 _) (fun obj => F.args_object_init_2 obj _) F.entry_enumerate_new
    (meets_enumerate_newT l items) ⟨hL, ?_⟩
  have hz : (s.heap.push { cls := .type "tuple_iterator", data := .fields #[.ref l, .int 0 0] }).objs.size = s.heap.objs.size + 1 := Heap.size_push ..
  show _ ∧ _
  rw [hz]
  have he : IsEnum ((s.heap.push { cls := .type "tuple_iterator", data := .fields #[.ref l, .int 0 0] }).push
      { cls := .type "enumerate", data := .fields #[.none, .bool false, .ref s.heap.objs.size, rawInt 0, .none, .none] }) (s.heap.objs.size + 1) s.heap.objs.size 0 .none := by
    have := Heap.get?_push_size (s.heap.push { cls := .type "tuple_iterator", data := .fields #[.ref l, .int 0 0] })
      (o := { cls := .type "enumerate", data := .fields #[.none, .bool false, .ref s.heap.objs.size, rawInt 0, .none, .none] }) rfl
    rw [hz] at this; exact this
  refine ⟨⟨_, he, rfl⟩, h _ he ⟨_, Heap.get?_push_of_some _ (Heap.get?_push_size _ rfl), rfl, rfl⟩ (by rw [Heap.size_push, hz]) fun b o x => Heap.get?_push_of_some _ (Heap.get?_push_of_some _ x)⟩
end
/-- enumerate of a list or a tuple -/
theorem pi_enumM {X : Cx} {e : Expr} {ta : TA} {p pos tpos : Pos} {elts : List Expr} {kk : Nat} (hg : Gl X "enumerate") (hm : X.mg "enumerate" = none) (ha : PA X [e] ta) (hs : starEach [e] X.env = [(false, eval e X.env)] := by rfl) :
    PI X (.Tuple elts kk tpos) (.Call (.Name "enumerate" p) [e] [] pos) (fun σ H R => ta σ H fun vs H1 => ∃ a xs, vs = [.ref a] ∧ ((SqL X.K H1 a xs ∧ R (Ite X.K a) H1) ∨ (SqT X.K H1 a xs ∧ R (IteT X.K a) H1))) := by
  refine ⟨fun pins s σ H R I h => ?_⟩
  refine Call_ (ld_blt I hg hm boot_enumerate (PyProof.Rows.callWith_type1 (thn (ha.run pos pins s σ H _ I h) fun us s1 ⟨vs, H1, I1, r1, q1⟩ => ?_) hs rfl))
  obtain ⟨a, xs, ex, q1⟩ := q1
  subst ex
  cases r1 with
  | cons r rr =>
    cases rr
    cases r
    have fp : ∀ b, b ∈ [s1.heap.objs.size + 1, s1.heap.objs.size] → FpOk X pins H1 b := fun b hb => by
      have e' : b = s1.heap.objs.size + 1 ∨ b = s1.heap.objs.size := by simpa using hb
      have hle : s1.heap.objs.size ≤ b := by
        rcases e' with z | z
        · rw [z]; exact Nat.le_add_right _ _
        · rw [z]; exact Nat.le_refl _
      exact I1.fpOk hle (I1.hok.fresh hle)
    rcases q1 with ⟨hq, q⟩ | ⟨hq, q⟩
    · obtain ⟨its, rv, p', hz⟩ := I1.list hq
      refine call_enumerate_list p'.isList fun h' he hit hsz hk => wpAny_pyIter_enum he ?_
      have I2 : Inv X pins σ H1 { s1 with heap := h' } := I1.kept (t' := s1.toks) hk
      exact ⟨s1.heap.objs.size + 1, [s1.heap.objs.size + 1, s1.heap.objs.size], _, _, H1, rfl, I2, turn_enum a (s1.heap.objs.size + 1) s1.heap.objs.size, ⟨⟨.none, he⟩, hit, Nat.succ_ne_self _⟩, fp, q⟩
    · obtain ⟨its, rv, p', hz⟩ := I1.tuple hq
      have p' : s1.heap.IsTuple a its.toArray := p'
      have lt : a < s1.heap.objs.size := by obtain ⟨_, e, _⟩ := p'; exact Heap.lt_size e
      refine call_enumerate_tuple p' fun h' he hit hsz hk => wpAny_pyIter_enum he ?_
      have I2 : Inv X pins σ H1 { s1 with heap := h' } := I1.kept (t' := s1.toks) hk
      exact ⟨s1.heap.objs.size + 1, [s1.heap.objs.size + 1, s1.heap.objs.size], _, _, H1, rfl, I2, turn_enumT a (s1.heap.objs.size + 1) s1.heap.objs.size (Nat.ne_of_lt lt) (Nat.ne_of_lt (Nat.lt_succ_of_lt lt)), ⟨⟨.none, he⟩, hit, Nat.succ_ne_self _⟩, fp, q⟩
end Mn

end

section
set_option Elab.async false
set_option linter.all false
set_option maxRecDepth 100000
set_option maxHeartbeats 1000000
/-! MnOps: what the small language's operations are in the layer. -/
namespace Mn
open PySem PySem.Spec PyProof.Rows L2

section
variable {X : Cx} {pins : List (Addr × Obj)} {σ : L2.St} {H : Hp} {s : Shared} {w : Wd}
/-! ### data as the library reads it -/
theorem TupAt.reads {a : Addr} {vs : List V} (I : Inv X pins σ H s) (h : TupAt X.K w H a vs) : ∃ its : List Value, Vals vs its ∧ ∃ o n, s.heap.get? a = some o ∧ o.cls = .type "tuple" ∧ o.data = .seq its.toArray n := by
  obtain ⟨its, r, ⟨o, e, c, n, d⟩, _⟩ := I.tuple h.sq
  exact ⟨its, r, o, n, e, c, d⟩
theorem SqL.reads {a : Addr} {vs : List V} (I : Inv X pins σ H s) (h : SqL X.K H a vs) : ∃ its : List Value, Vals vs its ∧ ∃ o n, s.heap.get? a = some o ∧ o.cls = .type "list" ∧ o.data = .seq its.toArray n := by
  obtain ⟨its, r, ⟨o, n, e, c, _, d⟩, _⟩ := I.list h
  exact ⟨its, r, o, n, e, c, d⟩
mutual
theorem RD.reads0 (I : Inv X pins σ H s) : ∀ (d : PyData) {v : V} {u : Value}, d.canLay0 = true → RD X.K w H d v → RelV v u → ∃ as, Reads s.heap u d as
  | .none, _, _, _, h, r => by cases h; cases r; exact ⟨_, .none⟩
  | .bool b, _, _, _, h, r => by cases h; cases r; exact ⟨_, .bool b⟩
  | .int i, _, _, _, h, r => by cases h; obtain ⟨t, rfl⟩ := r; exact ⟨_, .int i t⟩
  | .str x, _, _, _, h, r => by cases h; obtain ⟨t, rfl⟩ := r; exact ⟨_, .str x t⟩
  | .tuple xs, _, _, c, h, r => by
    cases h with
    | tup h q =>
      cases r
      obtain ⟨its, rv, o, n, e1, e2, e3⟩ := h.reads I
      obtain ⟨as, z⟩ := RDs.reads0 I xs (by simpa [PyData.canLay0] using c) q rv
      exact ⟨_, .tuple e1 e2 e3 (by simpa using z)⟩
  | .list xs, _, _, c, h, r => by
    cases h with
    | lst h q =>
      cases r
      obtain ⟨its, rv, o, n, e1, e2, e3⟩ := SqL.reads I h.sq
      obtain ⟨as, z⟩ := RDs.reads0 I xs (by simpa [PyData.canLay0] using c) q rv
      exact ⟨_, .list e1 e2 e3 (by simpa using z)⟩
  | .dict kvs, _, _, c, _, _ => by simp [PyData.canLay0] at c
theorem RDs.reads0 (I : Inv X pins σ H s) : ∀ (d : List PyData) {v : List V} {u : List Value}, PyData.canLayAll0 d = true → RDs X.K w H d v → Vals v u → ∃ as, ReadsAll s.heap u d as
  | [], _, _, _, h, r => by cases h; cases r; exact ⟨_, .nil⟩
  | x :: xs, _, _, c, h, r => by
    have c' := Bool.and_eq_true_iff.mp (by simpa [PyData.canLayAll0] using c)
    cases h with
    | cons h q =>
      cases r with
      | cons r1 r2 =>
        obtain ⟨a1, z1⟩ := RD.reads0 I x c'.1 h r1
        obtain ⟨a2, z2⟩ := RDs.reads0 I xs c'.2 q r2
        exact ⟨_, .cons z1 z2⟩
end
theorem mapM_nil {α β : Type} (f : α → Option β) : ([] : List α).mapM f = some [] := rfl
theorem mapM_cons_some {α β : Type} {f : α → Option β} {x : α} {xs : List α} {ys : List β} (h : (x :: xs).mapM f = some ys) : ∃ y r, f x = some y ∧ xs.mapM f = some r ∧ ys = y :: r := by
  rw [List.mapM_cons] at h
  cases e : f x with
  | none => rw [e] at h; cases h
  | some y =>
    rw [e] at h
    cases e2 : xs.mapM f with
    | none => rw [e2] at h; cases h
    | some r => rw [e2] at h; cases h; exact ⟨y, r, rfl, rfl, rfl⟩
theorem snap_reads (I : Inv X pins σ H s) {S : Sto} (rs : RS X.K w H S) : ∀ (n : Nat) {p : PV} {d : PyData} {v : V} {u : Value}, snap n S p = some d → d.canLay0 = true → RV X.K w H p v → RelV v u → ∃ as, Reads s.heap u d as := by
  intro n
  induction n with
  | zero =>
    intro p d v u h c rv r
    cases p with
    | d x => cases h; exact RD.reads0 I _ c rv r
    | r i => cases h
    | x a b => cases h
    | s ns => cases h
    | f i => cases h
    | clo u env => cases h
  | succ n ih =>
    intro p d v u h c rv r
    cases p with
    | d x => cases h; exact RD.reads0 I _ c rv r
    | x a b => cases h
    | s ns => cases h
    | f i => cases h
    | clo u env => cases h
    | r i =>
      obtain ⟨a, ea, rfl⟩ := rv
      obtain ⟨cl, es, _, rc⟩ := rs.at ea
      rw [snap, es] at h
      cases cl with
      | dct kvs => cases h
      | lst xs =>
        obtain ⟨vs, hH, rvs, _⟩ := rc
        change (xs.mapM (snap n S)).map PyData.list = some d at h
        cases e : xs.mapM (snap n S) with
        | none => rw [e] at h; cases h
        | some ds =>
          rw [e] at h
          cases h
          cases r
          obtain ⟨its, rits, o, n', e1, e2, e3⟩ := SqL.reads I (SqL.of hH)
          have c' : PyData.canLayAll0 ds = true := by simpa [PyData.canLay0] using c
          have all : ∀ (xs : List PV) (ds : List PyData) (vs : List V) (its : List Value), xs.mapM (snap n S) = some ds → PyData.canLayAll0 ds = true → RVs X.K w H xs vs → Vals vs its → ∃ as, ReadsAll s.heap its ds as := by
            intro xs
            induction xs with
            | nil => intro ds vs its h1 _ h3 h4; cases h1; cases h3; cases h4; exact ⟨_, .nil⟩
            | cons x xs ihx =>
              intro ds vs its h1 h2 h3 h4
              obtain ⟨y, r, f1, f2, rfl⟩ := mapM_cons_some h1
              cases h3 with
              | cons r1 r2 =>
                cases h4 with
                | cons s1 s2 =>
                  have c2 := Bool.and_eq_true_iff.mp (by simpa [PyData.canLayAll0] using h2)
                  obtain ⟨a1, z1⟩ := ih f1 c2.1 r1 s1
                  obtain ⟨a2, z2⟩ := ihx r _ _ f2 c2.2 r2 s2
                  exact ⟨_, .cons z1 z2⟩
          obtain ⟨as, z⟩ := all xs ds vs its e c' rvs rits
          exact ⟨_, .list e1 e2 e3 (by simpa using z)⟩
end
theorem shp_shaped {d : PyData} (h : shp d = true) : SeqAt.shaped d = true := h
theorem shp_lay {d : PyData} (h : shp d = true) : d.canLay0 = true := (Bool.and_eq_true_iff.mp h).1

/-! ### operators -/
/-- the answer's post -/
def Ans (K : PySem.W.Frag) (w : Wd) (H : Hp) (S : Sto) (z : PV) (Q : VK) : Prop := ∀ w' H' x, Ext w H w' H' → RS K w' H' S → RV K w' H' z x → Q x H'
theorem Ans.flat {K : PySem.W.Frag} {w : Wd} {H : Hp} {S : Sto} {d : PyData} {v : V} {Q : VK} (h : Ans K w H S (.d d) Q) (rs : RS K w H S) (r : RD K w H d v) : Q v H := h w H v (Ext.refl w H) rs r
theorem Ans.bool {K : PySem.W.Frag} {w : Wd} {H : Hp} {S : Sto} {b : Bool} {Q : VK} (h : Ans K w H S (.bool b) Q) (rs : RS K w H S) : Q (.bl b) H := h.flat rs (.bool b)
theorem Ans.int {K : PySem.W.Frag} {w : Wd} {H : Hp} {S : Sto} {b : Int} {Q : VK} (h : Ans K w H S (.int b) Q) (rs : RS K w H S) : Q (.int b) H := h.flat rs (.int b)
theorem Ans.str {K : PySem.W.Frag} {w : Wd} {H : Hp} {S : Sto} {b : Str} {Q : VK} (h : Ans K w H S (.str b) Q) (rs : RS K w H S) : Q (.str b) H := h.flat rs (.str b)
theorem Ans.tup {K : PySem.W.Frag} {w : Wd} {H : Hp} {S : Sto} {xs : List PyData} {vs : List V} {Q : VK} (h : Ans K w H S (.tup xs) Q) (rs : RS K w H S) (r : RDs K w H xs vs) {p : Addr} (hp : H p = none) : Q (.ref p) (upd H p (.tup vs)) :=
  h (w.frozen p) _ _ (ext_frozen rs hp) (rs_frozen rs hp) (.tup (.inl ⟨.inr rfl, .inl upd_same⟩) (RDs.ext (ext_frozen rs hp) r))
theorem Ans.lst {K : PySem.W.Frag} {w : Wd} {H : Hp} {S : Sto} {xs : List PyData} {vs : List V} {Q : VK} (h : Ans K w H S (.lst xs) Q) (rs : RS K w H S) (r : RDs K w H xs vs) {p : Addr} (hp : H p = none) : Q (.ref p) (upd H p (.lst vs)) :=
  h (w.frozen p) _ _ (ext_frozen rs hp) (rs_frozen rs hp) (.lst ⟨.inr rfl, upd_same⟩ (RDs.ext (ext_frozen rs hp) r))
def r2M (K : PySem.W.Frag) (f : Sto → PV → PV → Option PV) : R2 := fun x y H Q => ∃ w S p q z, RS K w H S ∧ RV K w H p x ∧ RV K w H q y ∧ f S p q = some z ∧ Ans K w H S z Q
def bopOf : Bop → Operator
  | .add => .Add | .sub => .Sub | .mul => .Mult | .fdiv => .FloorDiv | .mod => .Mod | .pow => .Pow
def copOf : Cop → CmpOp
  | .lt => .Lt | .le => .LtE | .gt => .Gt | .ge => .GtE | .eq => .Eq | .ne => .NotEq | .is => .Is | .isn => .IsNot | .in_ => .In | .nin => .NotIn
section
variable {X : Cx}
theorem strV_some {p : PV} {a : Str} (h : strV p = some a) : p = .d (.str a) := by
  unfold strV at h
  split at h
  · cases h; rfl
  · cases h
theorem eqV_some {S : Sto} {p q : PV} {b : Bool} (h : eqV S p q = some b) : (∃ x y, p = .d (.str x) ∧ q = .d (.str y) ∧ b = decide (x = y)) ∨ ∃ d e, cur S p = some d ∧ cur S q = some e ∧ shp d = true ∧ shp e = true ∧ b = PyData.eqv d e := by
  unfold eqV at h
  split at h
  · rename_i x y h1 h2
    cases h
    exact .inl ⟨x, y, strV_some h1, strV_some h2, rfl⟩
  · obtain ⟨d, e1, h⟩ := Option.bind_eq_some_iff.mp h
    obtain ⟨e, e2, h⟩ := Option.bind_eq_some_iff.mp h
    split at h
    · rename_i c
      have c' := Bool.and_eq_true_iff.mp c
      cases h
      exact .inr ⟨d, e, e1, e2, c'.1, c'.2, rfl⟩
    · cases h
theorem dec_strV (x y : Str) : decide (x = y) = decide (V.str x = V.str y) := by
  by_cases h : x = y
  · subst h; simp
  · have : V.str x ≠ V.str y := fun z => h (V.str.inj z)
    simp [h]
theorem om_eq (hu : X.A.units + 64 < cLine) : OpR X (compareOp .Eq) (r2M X.K fun S p q => (eqV S p q).map PV.bool) := by
  intro pins s σ H x y v u Q I rx ry ⟨w, S, p, q, z, rs, r1, r2, e, a⟩
  dsimp only at e
  obtain ⟨b, e1, rfl⟩ := Option.map_eq_some_iff.mp e
  rcases eqV_some e1 with ⟨x1, y1, rfl, rfl, rfl⟩ | ⟨d, e, c1, c2, s1, s2, rfl⟩
  · cases r1
    cases r2
    exact op_eq pins s σ H _ _ v u Q I rx ry ⟨rfl, by rw [← dec_strV]; exact a.bool rs⟩
  · obtain ⟨as, z1⟩ := snap_reads I rs 3 c1 (shp_lay s1) r1 rx
    obtain ⟨bs, z2⟩ := snap_reads I rs 3 c2 (shp_lay s2) r2 ry
    exact SeqAt.compareEq_shaped z1 z2 s1 s2 hu ⟨.bl _, H, I, rfl, a.bool rs⟩
theorem om_ne (hu : X.A.units + 64 < cLine) : OpR X (compareOp .NotEq) (r2M X.K fun S p q => ((eqV S p q).map (!·)).map PV.bool) := by
  intro pins s σ H x y v u Q I rx ry ⟨w, S, p, q, z, rs, r1, r2, e, a⟩
  dsimp only at e
  obtain ⟨b', e0, rfl⟩ := Option.map_eq_some_iff.mp e
  obtain ⟨b, e1, rfl⟩ := Option.map_eq_some_iff.mp e0
  rcases eqV_some e1 with ⟨x1, y1, rfl, rfl, rfl⟩ | ⟨d, e, c1, c2, s1, s2, rfl⟩
  · cases r1
    cases r2
    exact op_ne pins s σ H _ _ v u Q I rx ry ⟨rfl, by rw [← dec_strV]; exact a.bool rs⟩
  · obtain ⟨as, z1⟩ := snap_reads I rs 3 c1 (shp_lay s1) r1 rx
    obtain ⟨bs, z2⟩ := snap_reads I rs 3 c2 (shp_lay s2) r2 ry
    exact SeqAt.compareNe_shaped z1 z2 s1 s2 hu ⟨.bl _, H, I, rfl, a.bool rs⟩
theorem allD_rds {K : PySem.W.Frag} {w : Wd} {H : Hp} : ∀ {xs : List PV} {ds : List PyData} {vs : List V}, allD xs = some ds → RVs K w H xs vs → RDs K w H ds vs
  | [], _, _, h, r => by cases h; cases r; exact .nil
  | .d x :: xs, ds, vs, h, r => by
    simp only [allD] at h
    cases e : allD xs with
    | none => rw [e] at h; cases h
    | some t =>
      rw [e] at h
      cases h
      cases r with
      | cons r1 r2 => exact .cons r1 (allD_rds e r2)
  | .r i :: xs, _, _, h, _ => by cases h
  | .x a b :: xs, _, _, h, _ => by cases h
  | .s a :: xs, _, _, h, _ => by cases h
  | .f a :: xs, _, _, h, _ => by cases h
  | .clo a b :: xs, _, _, h, _ => by cases h
theorem rds_rvs {K : PySem.W.Frag} {w : Wd} {H : Hp} : ∀ {ds : List PyData} {vs : List V}, RDs K w H ds vs → RVs K w H (ds.map .d) vs
  | _, _, .nil => .nil
  | _, _, .cons h q => .cons h (rds_rvs q)
/-- a list that is data now: the layer's list -/
theorem lstD_at {K : PySem.W.Frag} {w : Wd} {H : Hp} {S : Sto} {p : PV} {ds : List PyData} {v : V} (rs : RS K w H S) (h : lstD S p = some ds) (r : RV K w H p v) : ∃ a vs, v = .ref a ∧ H a = some (.lst vs) ∧ RDs K w H ds vs := by
  cases p with
  | d x =>
    cases x with
    | list xs =>
      cases h
      cases r with
      | lst h q => exact ⟨_, _, rfl, h.2, q⟩
    | _ => cases h
  | x a b => cases h
  | s ns => cases h
  | f i => cases h
  | clo u env => cases h
  | r i =>
    obtain ⟨a, ea, rfl⟩ := r
    obtain ⟨cl, es, _, rc⟩ := rs.at ea
    rw [lstD, es] at h
    cases cl with
    | dct kvs => cases h
    | lst xs =>
      change allD xs = some ds at h
      obtain ⟨vs, hH, rvs, _⟩ := rc
      exact ⟨a, vs, rfl, hH, allD_rds h rvs⟩
theorem seqD_at {K : PySem.W.Frag} {w : Wd} {H : Hp} {S : Sto} {p : PV} {ds : List PyData} {v : V} (rs : RS K w H S) (h : seqD S p = some ds) (r : RV K w H p v) :
    ∃ a vs, v = .ref a ∧ RDs K w H ds vs ∧ ((H a = some (.lst vs) ∧ lstD S p = some ds) ∨ (TupAt K w H a vs ∧ p = .tup ds)) := by
  have go : lstD S p = some ds → ∃ a vs, v = .ref a ∧ RDs K w H ds vs ∧ ((H a = some (.lst vs) ∧ lstD S p = some ds) ∨ (TupAt K w H a vs ∧ p = .tup ds)) := fun h => by
    obtain ⟨a, vs, e, q, r⟩ := lstD_at rs h r
    exact ⟨a, vs, e, r, .inl ⟨q, h⟩⟩
  cases p with
  | d x =>
    cases x with
    | tuple xs =>
      cases h
      cases r with
      | tup h q => exact ⟨_, _, rfl, q, .inr ⟨h, rfl⟩⟩
    | list xs => exact go h
    | _ => cases h
  | x a b => cases h
  | s ns => cases h
  | f i => cases h
  | clo u env => cases h
  | r i => exact go h
theorem seqD_reads {pins : List (Addr × Obj)} {σ : L2.St} {H : Hp} {s : Shared} {w : Wd} (I : Inv X pins σ H s) {S : Sto} {p : PV} {ds : List PyData} {v : V} {u : Value} (rs : RS X.K w H S) (h : seqD S p = some ds) (c : PyData.canLayAll0 ds = true) (r : RV X.K w H p v) (ru : RelV v u) :
    (∃ as, Reads s.heap u (.list ds) as) ∨ ∃ as, Reads s.heap u (.tuple ds) as := by
  obtain ⟨a, vs, rfl, q, h⟩ := seqD_at rs h r
  cases ru
  rcases h with ⟨h, _⟩ | ⟨h, _⟩
  · obtain ⟨its, rits, o, n', e1, e2, e3⟩ := SqL.reads I (SqL.of h)
    obtain ⟨as, z⟩ := RDs.reads0 I _ c q rits
    exact .inl ⟨_, .list e1 e2 e3 (by simpa using z)⟩
  · obtain ⟨its, rits, o, n', e1, e2, e3⟩ := h.reads I
    obtain ⟨as, z⟩ := RDs.reads0 I _ c q rits
    exact .inr ⟨_, .tuple e1 e2 e3 (by simpa using z)⟩
theorem inV_some {S : Sto} {p q : PV} {b : Bool} (h : inD0 S p q = some b) : ∃ d ds, cur S p = some d ∧ seqD S q = some ds ∧ shp d = true ∧ shp (.list ds) = true ∧ b = ds.any fun z => PyData.eqv z d := by
  unfold inD0 at h
  cases e1 : cur S p with
  | none => rw [e1] at h; cases h
  | some d =>
    rw [e1] at h
    cases e2 : seqD S q with
    | none => rw [e2] at h; cases h
    | some e =>
      rw [e2] at h
      simp only [Option.bind_some] at h
      split at h
      · rename_i c
        have c' := Bool.and_eq_true_iff.mp c
        cases h
        exact ⟨d, e, rfl, rfl, c'.1, c'.2, rfl⟩
      · cases h
theorem room_in (hu : X.A.units + 65 < cLine) {ds : List PyData} {d : PyData} (h : shp d = true) : X.A.units + 1 + min (PyData.depthAll ds) d.depth < cLine := by
  have h1 : d.depth ≤ 64 := of_decide_eq_true (Bool.and_eq_true_iff.mp h).2
  have h2 : min (PyData.depthAll ds) d.depth ≤ d.depth := Nat.min_le_right _ _
  omega
theorem om_in0 (hu : X.A.units + 65 < cLine) : OpR X (compareOp .In) (r2M X.K fun S p q => (inD0 S p q).map PV.bool) := by
  intro pins s σ H x y v u Q I rx ry ⟨w, S, p, q, z, rs, r1, r2, e, a⟩
  dsimp only at e
  cases e1 : inD0 S p q with
  | none => rw [e1] at e; cases e
  | some b =>
    rw [e1] at e
    cases e
    obtain ⟨d, ds, c1, c2, s1, s2, rfl⟩ := inV_some e1
    have cl : PyData.canLayAll0 ds = true := by simpa [PyData.canLay0] using shp_lay s2
    obtain ⟨as, z1⟩ := snap_reads I rs 3 c1 (shp_lay s1) r1 rx
    rcases seqD_reads I rs c2 cl r2 ry with ⟨bs, z2⟩ | ⟨bs, z2⟩
    · exact SeqAt.in_list_reads z2 z1 cl (shp_lay s1) (room_in hu s1) ⟨.bl _, H, I, rfl, a.bool rs⟩
    · exact SeqAt.in_tuple_reads z2 z1 cl (shp_lay s1) (room_in hu s1) ⟨.bl _, H, I, rfl, a.bool rs⟩
theorem om_nin0 (hu : X.A.units + 65 < cLine) : OpR X (compareOp .NotIn) (r2M X.K fun S p q => ((inD0 S p q).map (!·)).map PV.bool) := by
  intro pins s σ H x y v u Q I rx ry ⟨w, S, p, q, z, rs, r1, r2, e, a⟩
  dsimp only at e
  cases e1 : inD0 S p q with
  | none => rw [e1] at e; cases e
  | some b =>
    rw [e1] at e
    cases e
    obtain ⟨d, ds, c1, c2, s1, s2, rfl⟩ := inV_some e1
    have cl : PyData.canLayAll0 ds = true := by simpa [PyData.canLay0] using shp_lay s2
    obtain ⟨as, z1⟩ := snap_reads I rs 3 c1 (shp_lay s1) r1 rx
    rcases seqD_reads I rs c2 cl r2 ry with ⟨bs, z2⟩ | ⟨bs, z2⟩
    · exact SeqAt.notIn_list_reads z2 z1 cl (shp_lay s1) (room_in hu s1) ⟨.bl _, H, I, rfl, a.bool rs⟩
    · exact SeqAt.notIn_tuple_reads z2 z1 cl (shp_lay s1) (room_in hu s1) ⟨.bl _, H, I, rfl, a.bool rs⟩

/-- in, with texts -/
theorem inV_two {S : Sto} {p q : PV} {b : Bool} (h : inV S p q = some b) : (∃ i j, p = PV.str i ∧ q = PV.str j ∧ b = inS i j) ∨ inD0 S p q = some b := by
  unfold inV at h
  split at h
  · rename_i i j e1 e2
    left
    obtain rfl := Option.some.inj h
    cases p with
    | d x => cases x <;> first | (cases e1; done) | skip
             cases q with
             | d y => cases y <;> first | (cases e2; done) | skip
                      cases e1
                      cases e2
                      exact ⟨_, _, rfl, rfl, rfl⟩
             | _ => cases e2
    | _ => cases e1
  · exact .inr h
theorem om_in (hu : X.A.units + 65 < cLine) : OpR X (compareOp .In) (r2M X.K fun S p q => (inV S p q).map PV.bool) := by
  intro pins s σ H x y v u Q I rx ry ⟨w, S, p, q, z, rs, r1, r2, e, a⟩
  dsimp only at e
  cases e1 : inV S p q with
  | none => rw [e1] at e; cases e
  | some b =>
    rw [e1] at e
    rcases inV_two e1 with ⟨i, j, rfl, rfl, rfl⟩ | e2
    · cases e
      cases r1
      cases r2
      exact op_in_str pins s σ H _ _ v u Q I rx ry ⟨_, _, rfl, rfl, a.bool rs⟩
    · exact om_in0 hu pins s σ H x y v u Q I rx ry ⟨w, S, p, q, z, rs, r1, r2, by dsimp only; rw [e2]; exact e, a⟩
theorem om_nin (hu : X.A.units + 65 < cLine) : OpR X (compareOp .NotIn) (r2M X.K fun S p q => ((inD0 S p q).map (!·)).map PV.bool) := om_nin0 hu

/-! ### numbers -/
theorem r2_int {op : Operator} {f : Sto → PV → PV → Option PV} {r : R2} (ho : OpR X (binaryOp op) r) (hr : ∀ x y H Q, r2M X.K f x y H Q → r x y H Q) : OpR X (binaryOp op) (r2M X.K f) :=
  fun pins s σ H x y v u Q I rx ry h => ho pins s σ H x y v u Q I rx ry (hr x y H Q h)
theorem OpR.imp {f : Value → Value → Sem Value} {r r' : R2} (ho : OpR X f r) (hr : ∀ x y H Q, r' x y H Q → r x y H Q) : OpR X f r' :=
  fun pins s σ H x y v u Q I rx ry h => ho pins s σ H x y v u Q I rx ry (hr x y H Q h)
/-- a relation that holds at the very values alone -/
def isR (f : Sto → PV → PV → Option PV) (C : PV → PV → Prop) : Sto → PV → PV → PV → Prop := fun S p q z => f S p q = some z ∧ C p q
theorem om_sub : OpR X (binaryOp .Sub) (r2M X.K fun S => binV S .sub) := OpR.imp op_sub fun x y H Q ⟨w, S, p, q, z, rs, r1, r2, e, a⟩ => by
  dsimp only at e
  unfold binV at e
  split at e <;> (try injection ‹Bop.sub = _›) <;> (try contradiction)
  all_goals (cases e; cases r1; cases r2; exact ⟨_, _, rfl, rfl, a.int rs⟩)

/-- () + t -/
theorem cat_tup0 {prog : Program} {w : World} {A : Around} {E : Value → Shared → Prop} {s : Shared} {t b : Addr} {ws : List Value} {Q : Value → Shared → Prop} (ht : IsTup s.heap t ([] : List Value).toArray) (hb : IsTup s.heap b ws.toArray)
    (h1 : Q (.ref b) s) : wpAny (model prog w) A (binaryOp .Add (.ref t) (.ref b)) Q E s := by
  obtain ⟨⟨cls, dd, data, sl⟩, ho, hc, n, hd⟩ := id ht
  obtain ⟨⟨cls2, dd2, data2, sl2⟩, ho2, hc2, n2, hd2⟩ := id hb
  simp only at hc hd hc2 hd2
  subst hc hd hc2 hd2
  exact concat_meets ⟨_, ho, rfl⟩ ⟨_, ho2, rfl⟩ noFill_tuple_add seq_tuple_add PySem.F.slot_tuple_add PySem.F.entry_tuple_add (PySem.F.args_tuple_add_2 _ _)
      (PyProof.Rows.tuple_addW0 t b ([] : List Value).toArray ws.toArray n n2 dd dd2 sl sl2 (by rfl)) ⟨ho, ho2, h1⟩
def rCatT2 (K : PySem.W.Frag) : R2 := fun x y H Q => ∃ a b xs ys, x = .ref a ∧ y = .ref b ∧ SqT K H a xs ∧ SqT K H b ys ∧ xs.length + ys.length ≤ sizeLine ∧
  (xs = [] → Q (.ref b) H) ∧ (xs ≠ [] → ys = [] → Q (.ref a) H) ∧ (∀ p, H p = none → Q (.ref p) (upd H p (.tup (xs ++ ys))))
theorem op_catT2 : OpR X (binaryOp .Add) (rCatT2 X.K) := by
  intro pins s σ H x y v u Q I rx ry h
  obtain ⟨a, b, xs, ys, rfl, rfl, ha, hb, hz, q0, q1, q2⟩ := h
  by_cases hx : xs = []
  · cases rx
    cases ry
    obtain ⟨its, r1, p1, _⟩ := I.tuple ha
    obtain ⟨its2, r2, p2, _⟩ := I.tuple hb
    have e : its = [] := by
      subst hx
      cases r1
      rfl
    subst e
    exact cat_tup0 p1 p2 ⟨.ref b, H, I, rfl, q0 hx⟩
  · exact op_catT pins s σ H _ _ v u Q I rx ry ⟨a, b, xs, ys, rfl, rfl, ha, hb, hx, hz, q1 hx, fun _ => q2⟩
theorem RDs.len {K : PySem.W.Frag} {w : Wd} {H : Hp} : ∀ {xs : List PyData} {vs : List V}, RDs K w H xs vs → xs.length = vs.length
  | _, _, .nil => rfl
  | _, _, .cons _ q => congrArg (· + 1) (RDs.len q)
theorem RDs.app {K : PySem.W.Frag} {w : Wd} {H : Hp} : ∀ {xs ys : List PyData} {vs us : List V}, RDs K w H xs vs → RDs K w H ys us → RDs K w H (xs ++ ys) (vs ++ us)
  | _, _, _, _, .nil, q => q
  | _, _, _, _, .cons h r, q => .cons h (RDs.app r q)
theorem om_addL : OpR X (binaryOp .Add) (r2M X.K fun S p q => catL S p q) := OpR.imp op_cat fun x y H Q ⟨w, S, p, q, z, rs, r1, r2, e, a⟩ => by
  dsimp only at e
  unfold catL at e
  cases e1 : lstD S p with
  | none => rw [e1] at e; cases e
  | some ds =>
    rw [e1] at e
    cases e2 : lstD S q with
    | none => rw [e2] at e; cases e
    | some es =>
      rw [e2] at e
      simp only [Option.bind_some] at e
      split at e
      · rename_i hl
        cases e
        obtain ⟨l1, v1, rfl, h1, q1⟩ := lstD_at rs e1 r1
        obtain ⟨l2, v2, rfl, h2, q2⟩ := lstD_at rs e2 r2
        exact ⟨l1, l2, v1, v2, rfl, rfl, h1, h2, by rw [← q1.len, ← q2.len]; exact hl, fun p hp => a.lst rs (q1.app q2) hp⟩
      · cases e
theorem om_add : OpR X (binaryOp .Add) (r2M X.K fun S => binV S .add) := by
  intro pins s σ H x y v u Q I rx ry ⟨w, S, p, q, z, rs, r1, r2, e, a⟩
  dsimp only at e
  have cat : catL S p q = some z → wpAny (model X.prog X.w) X.A (binaryOp Operator.Add v u) (EP X pins σ Q) X.xe s := fun e => om_addL pins s σ H x y v u Q I rx ry ⟨w, S, p, q, z, rs, r1, r2, e, a⟩
  unfold binV at e
  split at e <;> (try injection ‹Bop.add = _›) <;> (try contradiction)
  · cases e
    cases r1
    cases r2
    exact op_add pins s σ H _ _ v u Q I rx ry ⟨_, _, rfl, rfl, a.int rs⟩
  · split at e
    · rename_i hl
      cases e
      cases r1
      cases r2
      exact op_add_str pins s σ H _ _ v u Q I rx ry ⟨_, _, rfl, rfl, hl, a.str rs⟩
    · cases e
  · split at e
    · rename_i hl
      cases e
      cases r1 with
      | tup h1 q1 =>
        cases r2 with
        | tup h2 q2 =>
          refine op_catT2 pins s σ H _ _ v u Q I rx ry ⟨_, _, _, _, rfl, rfl, h1.sq, h2.sq, by rw [← q1.len, ← q2.len]; exact hl, fun e0 => ?_, fun _ e0 => ?_, fun p hp => a.tup rs (q1.app q2) hp⟩
          · subst e0
            cases q1
            exact a.flat rs (.tup h2 q2)
          · subst e0
            cases q2
            rw [List.append_nil] at a
            exact a.flat rs (.tup h1 q1)
    · cases e
  · exact cat e

theorem RDs.repl {K : PySem.W.Frag} {w : Wd} {H : Hp} {xs : List PyData} {vs : List V} (r : RDs K w H xs vs) : ∀ n : Nat, RDs K w H (List.replicate n xs).flatten (List.replicate n vs).flatten
  | 0 => .nil
  | n + 1 => by
    rw [List.replicate_succ, List.replicate_succ, List.flatten_cons, List.flatten_cons]
    exact r.app (RDs.repl r n)
theorem mulOk_ok {i j : Int} (h : mulOk i j = true) : CMul i j ∨ CMulW i j := by
  unfold mulOk at h
  simp only [Bool.or_eq_true, Bool.and_eq_true, decide_eq_true_eq] at h
  rcases h with h | h
  · exact .inl h
  · exact .inr h
theorem om_mul : OpR X (binaryOp .Mult) (r2M X.K fun S => binV S .mul) := by
  intro pins s σ H x y v u Q I rx ry ⟨w, S, p, q, z, rs, r1, r2, e, a⟩
  dsimp only at e
  unfold binV at e
  split at e <;> (try injection ‹Bop.mul = _›) <;> (try contradiction)
  · split at e
    · rename_i hl
      cases e
      cases r1
      cases r2
      rcases mulOk_ok hl with hc | hc
      · exact op_mul pins s σ H _ _ v u Q I rx ry ⟨_, _, rfl, rfl, hc, a.int rs⟩
      · exact op_mulW pins s σ H _ _ v u Q I rx ry ⟨_, _, rfl, rfl, hc, a.int rs⟩
    · cases e
  · split at e
    · rename_i hl
      cases e
      cases r2
      cases r1 with
      | lst h1 q1 => exact op_rep pins s σ H _ _ v u Q I rx ry ⟨_, _, _, rfl, rfl, h1.2, by omega, by omega, by rw [← q1.len]; exact hl.2.1, fun p hp => a.lst rs (q1.repl _) hp⟩
    · cases e
  · split at e
    · rename_i hl
      cases e
      cases r2
      cases r1 with
      | tup h1 q1 => exact op_repT pins s σ H _ _ v u Q I rx ry ⟨_, _, _, rfl, rfl, h1.sq, fun z => by subst z; cases q1; exact hl.1 rfl, hl.2.1, hl.2.2.1, by rw [← q1.len]; exact hl.2.2.2, fun p hp => a.tup rs (q1.repl _) hp⟩
    · cases e
theorem om_fdiv : OpR X (binaryOp .FloorDiv) (r2M X.K fun S => binV S .fdiv) := by
  intro pins s σ H x y v u Q I rx ry ⟨w, S, p, q, z, rs, r1, r2, e, a⟩
  dsimp only at e
  unfold binV at e
  split at e <;> (try injection ‹Bop.fdiv = _›) <;> (try contradiction)
  split at e
  · rename_i hl
    cases e
    cases r1
    cases r2
    rename_i i j
    unfold divOk at hl
    simp only [Bool.or_eq_true, Bool.and_eq_true, decide_eq_true_eq] at hl
    rcases hl with ⟨h0, hc | hc⟩
    · exact op_fdivN pins s σ H _ _ v u Q I rx ry ⟨_, _, rfl, rfl, ⟨h0, hc⟩, a.int rs⟩
    · refine op_fdivW pins s σ H _ _ v u Q I rx ry ⟨_, _, rfl, rfl, hc, ?_⟩
      rw [Int.fdiv_eq_ediv_of_nonneg _ (by omega)] at a
      exact a.int rs
  · cases e
theorem om_mod : OpR X (binaryOp .Mod) (r2M X.K fun S => binV S .mod) := by
  intro pins s σ H x y v u Q I rx ry ⟨w, S, p, q, z, rs, r1, r2, e, a⟩
  dsimp only at e
  unfold binV at e
  split at e <;> (try injection ‹Bop.mod = _›) <;> (try contradiction)
  split at e
  · rename_i hl
    cases e
    cases r1
    cases r2
    exact op_modN pins s σ H _ _ v u Q I rx ry ⟨_, _, rfl, rfl, hl, a.int rs⟩
  · cases e
theorem om_pow : OpR X (binaryOp .Pow) (r2M X.K fun S => binV S .pow) := by
  intro pins s σ H x y v u Q I rx ry ⟨w, S, p, q, z, rs, r1, r2, e, a⟩
  dsimp only at e
  unfold binV at e
  split at e <;> (try injection ‹Bop.pow = _›) <;> (try contradiction)
  split at e
  · rename_i hl
    cases e
    cases r1
    cases r2
    unfold powOk at hl
    simp only [Bool.and_eq_true, decide_eq_true_eq] at hl
    exact op_pow pins s σ H _ _ v u Q I rx ry ⟨_, _, rfl, rfl, hl, a.int rs⟩
  · cases e
theorem om_bin (o : Bop) : OpR X (binaryOp (bopOf o)) (r2M X.K fun S => binV S o) := by
  cases o
  · exact om_add
  · exact om_sub
  · exact om_mul
  · exact om_fdiv
  · exact om_mod
  · exact om_pow
/-! ### comparisons -/
theorem plain_of {v u : Value} {x y : V} (rx : RelV x v) (ry : RelV y u) (hy : y = .non ∨ ∃ b, y = .bl b) : PySem.plainIs v u = true ∧ (v == u) = decide (x = y) := by
  rcases hy with rfl | ⟨b, rfl⟩
  · cases ry
    cases x <;> first | (cases rx; first | exact ⟨rfl, rfl⟩ | exact ⟨rfl, by decide⟩) | (obtain ⟨t, rfl⟩ := rx; exact ⟨rfl, rfl⟩)
  · cases ry
    cases x with
    | bl c =>
      cases rx
      refine ⟨rfl, ?_⟩
      cases b <;> cases c <;> rfl
    | _ => first | (cases rx; exact ⟨rfl, rfl⟩) | (obtain ⟨t, rfl⟩ := rx; exact ⟨rfl, rfl⟩)
theorem RV.inj_lit {K : PySem.W.Frag} {w : Wd} {H : Hp} {p q : PV} {x y : V} {b : Bool} (r1 : RV K w H p x) (r2 : RV K w H q y) (e : isLit p q = some b) : (y = .non ∨ ∃ c, y = .bl c) ∧ decide (x = y) = b := by
  unfold isLit at e
  split at e
  · cases r2
    refine ⟨.inl rfl, ?_⟩
    split at e
    · cases e; cases r1; rfl
    · rename_i hn
      cases e
      refine decide_eq_false fun z => ?_
      subst z
      cases p with
      | d d => cases r1; exact hn rfl
      | r i => obtain ⟨a, _, z⟩ := r1; cases z
      | x c f => obtain ⟨a, _, z⟩ := r1; cases z
      | s ns => obtain ⟨a, z, _⟩ := r1; cases z
      | f i => obtain ⟨a, _, z⟩ := r1; cases z
      | clo u env => obtain ⟨a, _, _, _, z⟩ := r1; cases z
  · rename_i c
    cases r2
    refine ⟨.inr ⟨c, rfl⟩, ?_⟩
    split at e
    · rename_i c'
      cases e
      cases r1
      cases c <;> cases c' <;> rfl
    · rename_i hn
      cases e
      refine decide_eq_false fun z => ?_
      subst z
      cases p with
      | d d => cases r1; exact hn _ rfl
      | r i => obtain ⟨a, _, z⟩ := r1; cases z
      | x c f => obtain ⟨a, _, z⟩ := r1; cases z
      | s ns => obtain ⟨a, z, _⟩ := r1; cases z
      | f i => obtain ⟨a, _, z⟩ := r1; cases z
      | clo u env => obtain ⟨a, _, _, _, z⟩ := r1; cases z
  · cases e
theorem om_is : OpR X (compareOp .Is) (r2M X.K fun S p q => (isLit p q).map PV.bool) := by
  intro pins s σ H x y v u Q I rx ry ⟨w, S, p, q, z, rs, r1, r2, e, a⟩
  dsimp only at e
  cases e1 : isLit p q with
  | none => rw [e1] at e; cases e
  | some b =>
    rw [e1] at e
    cases e
    obtain ⟨hy, hd⟩ := RV.inj_lit r1 r2 e1
    obtain ⟨h1, h2⟩ := plain_of rx ry hy
    exact wpAny_is_plain h1 ⟨.bl b, H, I, by rw [h2, hd]; rfl, a.bool rs⟩
theorem om_isn : OpR X (compareOp .IsNot) (r2M X.K fun S p q => ((isLit p q).map (!·)).map PV.bool) := by
  intro pins s σ H x y v u Q I rx ry ⟨w, S, p, q, z, rs, r1, r2, e, a⟩
  dsimp only at e
  cases e1 : isLit p q with
  | none => rw [e1] at e; cases e
  | some b =>
    rw [e1] at e
    cases e
    obtain ⟨hy, hd⟩ := RV.inj_lit r1 r2 e1
    obtain ⟨h1, h2⟩ := plain_of rx ry hy
    exact wpAny_isNot_plain h1 ⟨.bl (!b), H, I, by rw [h2, hd]; rfl, a.bool rs⟩
theorem om_cmp (hu : X.A.units + 65 < cLine) (o : Cop) : OpR X (compareOp (copOf o)) (r2M X.K fun S p q => (cmpV S o p q).map PV.bool) := by
  cases o
  · intro pins s σ H x y v u Q I rx ry ⟨w, S, p, q, z, rs, r1, r2, e, a⟩
    dsimp only at e
    cases e1 : cmpV S .lt p q with
    | none => rw [e1] at e; cases e
    | some k =>
      rw [e1] at e
      cases e
      unfold cmpV at e1
      split at e1 <;> (try injection ‹Cop.lt = _›) <;> (try contradiction)
      cases e1
      cases r1
      cases r2
      exact op_lt pins s σ H _ _ v u Q I rx ry ⟨_, _, rfl, rfl, a.bool rs⟩
  · intro pins s σ H x y v u Q I rx ry ⟨w, S, p, q, z, rs, r1, r2, e, a⟩
    dsimp only at e
    cases e1 : cmpV S .le p q with
    | none => rw [e1] at e; cases e
    | some k =>
      rw [e1] at e
      cases e
      unfold cmpV at e1
      split at e1 <;> (try injection ‹Cop.le = _›) <;> (try contradiction)
      cases e1
      cases r1
      cases r2
      exact op_le pins s σ H _ _ v u Q I rx ry ⟨_, _, rfl, rfl, a.bool rs⟩
  · intro pins s σ H x y v u Q I rx ry ⟨w, S, p, q, z, rs, r1, r2, e, a⟩
    dsimp only at e
    cases e1 : cmpV S .gt p q with
    | none => rw [e1] at e; cases e
    | some k =>
      rw [e1] at e
      cases e
      unfold cmpV at e1
      split at e1 <;> (try injection ‹Cop.gt = _›) <;> (try contradiction)
      cases e1
      cases r1
      cases r2
      exact op_gt pins s σ H _ _ v u Q I rx ry ⟨_, _, rfl, rfl, a.bool rs⟩
  · intro pins s σ H x y v u Q I rx ry ⟨w, S, p, q, z, rs, r1, r2, e, a⟩
    dsimp only at e
    cases e1 : cmpV S .ge p q with
    | none => rw [e1] at e; cases e
    | some k =>
      rw [e1] at e
      cases e
      unfold cmpV at e1
      split at e1 <;> (try injection ‹Cop.ge = _›) <;> (try contradiction)
      cases e1
      cases r1
      cases r2
      exact op_ge pins s σ H _ _ v u Q I rx ry ⟨_, _, rfl, rfl, a.bool rs⟩
  · exact om_eq (by omega)
  · exact om_ne (by omega)
  · exact om_is
  · exact om_isn
  · exact om_in hu
  · exact om_nin hu
end
end Mn

end

section
set_option Elab.async false
set_option linter.all false
set_option maxRecDepth 100000
set_option maxHeartbeats 1000000
/-! MnBi: built-in functions. -/
namespace PySem.W
end PySem.W
namespace Mn
open PySem PySem.Spec PyProof.Rows L2
def rcM (K : PySem.W.Frag) (f : Sto → List PV → Option PV) : List V → Hp → VK → Prop := fun vs H Q => ∃ w S ps z, RS K w H S ∧ RVs K w H ps vs ∧ f S ps = some z ∧ Ans K w H S z Q
section
variable {X : Cx}
theorem CallR.imp {f : Value} {r r' : List V → Hp → VK → Prop} (h : CallR X f r) (hr : ∀ vs H Q, r' vs H Q → r vs H Q) : CallR X f r' :=
  fun pins s σ H xs us Q I rv q => h pins s σ H xs us Q I rv (hr xs H Q q)
theorem rv1 {K : PySem.W.Frag} {w : Wd} {H : Hp} {p : PV} {vs : List V} (h : RVs K w H [p] vs) : ∃ v, vs = [v] ∧ RV K w H p v := by
  cases h with
  | cons r t => cases t; exact ⟨_, rfl, r⟩
theorem rv2 {K : PySem.W.Frag} {w : Wd} {H : Hp} {p q : PV} {vs : List V} (h : RVs K w H [p, q] vs) : ∃ v u, vs = [v, u] ∧ RV K w H p v ∧ RV K w H q u := by
  cases h with
  | cons r t =>
    obtain ⟨u, rfl, r2⟩ := rv1 t
    exact ⟨_, _, rfl, r, r2⟩
theorem one_arg {S : Sto} {b : Bi} {ps : List PV} {z : PV} {g : PV → Option PV} (e : biV S b ps = some z) (h1 : ∀ p, biV S b [p] = g p) (h0 : biV S b [] = none) (h2 : ∀ p q r, biV S b (p :: q :: r) = none) : ∃ p, ps = [p] ∧ g p = some z := by
  match ps, e with
  | [p], e => exact ⟨p, rfl, by rw [← h1]; exact e⟩
  | [], e => rw [h0] at e; cases e
  | p :: q :: r, e => rw [h2] at e; cases e
theorem bm_abs : CallR X (.builtin "abs") (rcM X.K fun S => biV S .abs) := CallR.imp call_abs fun vs H Q ⟨w, S, ps, z, rs, r, e, a⟩ => by
  dsimp only at e
  unfold biV at e
  split at e <;> (try injection ‹Bi.abs = _›) <;> (try contradiction)
  cases e
  obtain ⟨v, rfl, rv⟩ := rv1 r
  cases rv
  exact ⟨_, rfl, a.int rs⟩
theorem bm_int : CallR X (.type "int") (rcM X.K fun S => biV S .int) := CallR.imp call_int1 fun vs H Q ⟨w, S, ps, z, rs, r, e, a⟩ => by
  dsimp only at e
  unfold biV at e
  split at e <;> (try injection ‹Bi.int = _›) <;> (try contradiction)
  · cases e
    obtain ⟨v, rfl, rv⟩ := rv1 r
    cases rv
    exact .inl ⟨_, rfl, a.int rs⟩
  · cases e
    obtain ⟨v, rfl, rv⟩ := rv1 r
    cases rv
    exact .inr ⟨_, rfl, a.int rs⟩
theorem RVs.len {K : PySem.W.Frag} {w : Wd} {H : Hp} {ps : List PV} {vs : List V} (h : RVs K w H ps vs) : ps.length = vs.length := Paired.length h
theorem RKs.len {K : PySem.W.Frag} {w : Wd} {H : Hp} : ∀ {xs : List (PyData × PyData)} {vs : List (Key × V)}, RKs K w H xs vs → xs.length = vs.length
  | _, _, .nil => rfl
  | _, _, .cons _ q => congrArg (· + 1) (RKs.len q)
theorem lenV_ok {K : PySem.W.Frag} {w : Wd} {H : Hp} {S : Sto} {p : PV} {v : V} {n : Nat} (rs : RS K w H S) (h : lenV S p = some n) (r : RV K w H p v) : LenV K v H n ∨ ∃ a kvs, v = .ref a ∧ H a = some (.dK kvs) ∧ kvs.length = n := by
  have sq : ∀ {a : Addr} {vs : List V}, SqL K H a vs → vs.length = n → LenV K (.ref a) H n := fun h e => by
    unfold LenV
    exact .inl ⟨_, h, e.symm⟩
  cases p with
  | d x =>
    cases x with
    | str s =>
      simp only [lenV] at h
      split at h
      · rename_i hl
        cases h
        cases r
        exact .inl ⟨hl, rfl⟩
      · cases h
    | dict kvs =>
      cases h
      cases r with
      | dct f hd rk => exact .inr ⟨_, _, rfl, hd, rk.len.symm⟩
    | list xs =>
      simp only [lenV, items, Option.map_some] at h
      cases h
      cases r with
      | lst h q => exact .inl (by rw [List.length_map, q.len]; unfold LenV; exact .inl ⟨_, h.sq, rfl⟩)
    | tuple xs =>
      simp only [lenV, items, Option.map_some] at h
      cases h
      cases r with
      | tup h q => exact .inl (by rw [List.length_map, q.len]; unfold LenV; exact .inr ⟨_, h.sq, rfl⟩)
    | _ => simp [lenV, items] at h
  | r i =>
    obtain ⟨a, ea, rfl⟩ := r
    obtain ⟨cl, es, _, rc⟩ := rs.at ea
    rw [lenV, es] at h
    cases cl with
    | lst xs =>
      obtain ⟨vs, hH, rvs, _⟩ := rc
      cases h
      exact .inl (sq (SqL.of hH) rvs.len.symm)
    | dct kvs =>
      obtain ⟨ks, hH, rvs, _⟩ := rc
      cases h
      exact .inr ⟨a, ks, rfl, hH, (Paired.length rvs).symm⟩
  | x c f => simp [lenV, items] at h
  | f i => simp [lenV, items] at h
  | clo u env => simp [lenV, items] at h
  | s ns =>
    cases h
    obtain ⟨a, rfl, q⟩ := r
    exact .inl (by unfold LenV; exact .inl ⟨_, q.sq, (List.length_map _).symm⟩)
theorem bm_len : CallR X (.builtin "len") (rcM X.K fun S => biV S .len) := CallR.imp (CallR.or call_len call_lenD) fun vs H Q ⟨w, S, ps, z, rs, r, e, a⟩ => by
  dsimp only at e
  obtain ⟨p, rfl, hz⟩ := one_arg (g := fun p => (lenV S p).map fun (n : Nat) => PV.int (n : Int)) e (fun _ => rfl) rfl (fun _ _ _ => rfl)
  clear e
  have e := hz
  obtain ⟨v, rfl, rv⟩ := rv1 r
  cases e1 : lenV S p with
  | none => rw [e1] at e; cases e
  | some n =>
    rw [e1] at e
    cases e
    rcases lenV_ok rs e1 rv with h | ⟨b, kvs, rfl, h, hl⟩
    · exact .inl ⟨_, _, rfl, h, a.int rs⟩
    · exact .inr ⟨b, kvs, rfl, h, by rw [hl]; exact a.int rs⟩
theorem bm_tuple : CallR X (.type "tuple") (rcM X.K fun S => biV S .tuple) := CallR.imp call_tuple_of fun vs H Q ⟨w, S, ps, z, rs, r, e, a⟩ => by
  dsimp only at e
  obtain ⟨p, rfl, hz⟩ := one_arg (g := fun p => (seqD S p).map .tup) e (fun _ => rfl) rfl (fun _ _ _ => rfl)
  clear e
  have e := hz
  obtain ⟨v, rfl, rv⟩ := rv1 r
  cases e1 : seqD S p with
  | none => rw [e1] at e; cases e
  | some ds =>
    rw [e1] at e
    cases e
    obtain ⟨b, us, rfl, q, h⟩ := seqD_at rs e1 rv
    rcases h with ⟨h, _⟩ | ⟨h, hp⟩
    · exact ⟨b, us, rfl, .inl ⟨SqL.of h, fun l hl => a.tup rs q hl⟩⟩
    · exact ⟨b, us, rfl, .inr ⟨h.sq, a.flat rs (.tup h q)⟩⟩
theorem bm_list : CallR X (.type "list") (rcM X.K fun S => biV S .list) := CallR.imp call_list_of fun vs H Q ⟨w, S, ps, z, rs, r, e, a⟩ => by
  dsimp only at e
  obtain ⟨p, rfl, hz⟩ := one_arg (g := fun p => (seqD S p).map .lst) e (fun _ => rfl) rfl (fun _ _ _ => rfl)
  clear e
  have e := hz
  obtain ⟨v, rfl, rv⟩ := rv1 r
  cases e1 : seqD S p with
  | none => rw [e1] at e; cases e
  | some ds =>
    rw [e1] at e
    cases e
    obtain ⟨b, us, rfl, q, h⟩ := seqD_at rs e1 rv
    rcases h with ⟨h, _⟩ | ⟨h, hp⟩
    · exact ⟨b, us, rfl, .inl (SqL.of h), fun l hl => a.lst rs q hl⟩
    · exact ⟨b, us, rfl, .inr h.sq, fun l hl => a.lst rs q hl⟩
theorem rds_ints {K : PySem.W.Frag} {w : Wd} {H : Hp} : ∀ {ds : List PyData} {ns : List Int} {vs : List V}, intsD ds = some ns → RDs K w H ds vs → vs = ns.map V.int
  | [], _, _, h, r => by cases h; cases r; rfl
  | .int i :: ds, _, _, h, r => by
    simp only [intsD] at h
    cases e : intsD ds with
    | none => rw [e] at h; cases h
    | some t =>
      rw [e] at h
      cases h
      cases r with
      | cons r1 r2 => cases r1; rw [List.map_cons, rds_ints e r2]
  | .none :: ds, _, _, h, _ => by cases h
  | .bool _ :: ds, _, _, h, _ => by cases h
  | .str _ :: ds, _, _, h, _ => by cases h
  | .list _ :: ds, _, _, h, _ => by cases h
  | .tuple _ :: ds, _, _, h, _ => by cases h
  | .dict _ :: ds, _, _, h, _ => by cases h
theorem rds_bools {K : PySem.W.Frag} {w : Wd} {H : Hp} : ∀ {ds : List PyData} {ns : List Bool} {vs : List V}, boolsD ds = some ns → RDs K w H ds vs → vs = ns.map V.bl
  | [], _, _, h, r => by cases h; cases r; rfl
  | .bool i :: ds, _, _, h, r => by
    simp only [boolsD] at h
    cases e : boolsD ds with
    | none => rw [e] at h; cases h
    | some t =>
      rw [e] at h
      cases h
      cases r with
      | cons r1 r2 => cases r1; rw [List.map_cons, rds_bools e r2]
  | .none :: ds, _, _, h, _ => by cases h
  | .int _ :: ds, _, _, h, _ => by cases h
  | .str _ :: ds, _, _, h, _ => by cases h
  | .list _ :: ds, _, _, h, _ => by cases h
  | .tuple _ :: ds, _, _, h, _ => by cases h
  | .dict _ :: ds, _, _, h, _ => by cases h
theorem ints_rds {K : PySem.W.Frag} {w : Wd} {H : Hp} : ∀ (ns : List Int), RDs K w H (ns.map .int) (ns.map V.int)
  | [] => .nil
  | n :: ns => .cons (.int n) (ints_rds ns)
theorem lstB_some {S : Sto} {p : PV} {b : PV} {f : List Bool → PV} (e : ((lstD S p).bind boolsD).map f = some b) : ∃ ds bs, lstD S p = some ds ∧ boolsD ds = some bs ∧ b = f bs := by
  cases e1 : lstD S p with
  | none => rw [e1] at e; cases e
  | some ds =>
    rw [e1] at e
    cases e2 : boolsD ds with
    | none => rw [Option.bind_some, e2] at e; cases e
    | some bs => rw [Option.bind_some, e2] at e; cases e; exact ⟨ds, bs, rfl, e2, rfl⟩
theorem bm_all (hc : X.calm = true) : CallR X (.builtin "all") (rcM X.K fun S => biV S .all) := CallR.imp (cr_all hc) fun vs H Q ⟨w, S, ps, z, rs, r, e, a⟩ => by
  dsimp only at e
  unfold biV at e
  split at e <;> (try injection ‹Bi.all = _›) <;> (try contradiction)
  obtain ⟨v, rfl, rv⟩ := rv1 r
  obtain ⟨ds, bs, e1, e2, rfl⟩ := lstB_some e
  obtain ⟨b, us, rfl, h, q⟩ := lstD_at rs e1 rv
  exact ⟨b, bs, rfl, by rw [← rds_bools e2 q]; exact SqL.of h, a.bool rs⟩
theorem bm_any (hc : X.calm = true) : CallR X (.builtin "any") (rcM X.K fun S => biV S .any) := CallR.imp (cr_any hc) fun vs H Q ⟨w, S, ps, z, rs, r, e, a⟩ => by
  dsimp only at e
  unfold biV at e
  split at e <;> (try injection ‹Bi.any = _›) <;> (try contradiction)
  obtain ⟨v, rfl, rv⟩ := rv1 r
  obtain ⟨ds, bs, e1, e2, rfl⟩ := lstB_some e
  obtain ⟨b, us, rfl, h, q⟩ := lstD_at rs e1 rv
  exact ⟨b, bs, rfl, by rw [← rds_bools e2 q]; exact SqL.of h, a.bool rs⟩
theorem lstI_some {S : Sto} {p : PV} {ns : List Int} (e : (lstD S p).bind intsD = some ns) : ∃ ds, lstD S p = some ds ∧ intsD ds = some ns := by
  cases e1 : lstD S p with
  | none => rw [e1] at e; cases e
  | some ds => rw [e1] at e; exact ⟨ds, rfl, e⟩
theorem bm_sum (hc : X.calm = true) : CallR X (.builtin "sum") (rcM X.K fun S => biV S .sum) := CallR.imp (cr_sum hc) fun vs H Q ⟨w, S, ps, z, rs, r, e, a⟩ => by
  dsimp only at e
  obtain ⟨p, rfl, hz⟩ := one_arg (g := fun p => ((lstD S p).bind intsD).map fun ns => .int ns.sum) e (fun _ => rfl) rfl (fun _ _ _ => rfl)
  clear e
  have e := hz
  obtain ⟨v, rfl, rv⟩ := rv1 r
  cases e1 : (lstD S p).bind intsD with
  | none => rw [e1] at e; cases e
  | some ns =>
    rw [e1] at e
    cases e
    obtain ⟨ds, f1, f2⟩ := lstI_some e1
    obtain ⟨b, us, rfl, h, q⟩ := lstD_at rs f1 rv
    exact ⟨b, ns, rfl, by rw [← rds_ints f2 q]; exact SqL.of h, a.int rs⟩
end
end Mn

end

section
set_option Elab.async false
set_option linter.all false
set_option maxRecDepth 100000
set_option maxHeartbeats 1000000
/-! MnSort: sorted over a list or a tuple of ints; min, max. -/
namespace Mn
open PySem PySem.Spec PyProof.Rows L2
/-! ### the one list in order -/
theorem insI_perm (x : Int) : ∀ l : List Int, (insI x l).Perm (x :: l)
  | [] => .refl _
  | y :: r => by
    unfold insI
    split
    · exact .refl _
    · exact ((insI_perm x r).cons y).trans (.swap x y r)
theorem sortI_perm : ∀ l : List Int, (sortI l).Perm l
  | [] => .refl _
  | x :: r => (insI_perm x (sortI r)).trans ((sortI_perm r).cons x)
theorem insI_sorted (x : Int) : ∀ l : List Int, l.Pairwise (· ≤ ·) → (insI x l).Pairwise (· ≤ ·)
  | [], _ => by simp [insI]
  | y :: r, h => by
    unfold insI
    split
    · rename_i hxy
      refine List.pairwise_cons.mpr ⟨fun z hz => ?_, h⟩
      rcases List.mem_cons.mp hz with rfl | hz
      · exact hxy
      · exact Int.le_trans hxy ((List.pairwise_cons.mp h).1 z hz)
    · rename_i hxy
      refine List.pairwise_cons.mpr ⟨fun z hz => ?_, insI_sorted x r (List.pairwise_cons.mp h).2⟩
      rcases List.mem_cons.mp ((insI_perm x r).mem_iff.mp hz) with rfl | hz
      · omega
      · exact (List.pairwise_cons.mp h).1 z hz
theorem sortI_sorted : ∀ l : List Int, (sortI l).Pairwise (· ≤ ·)
  | [] => .nil
  | x :: r => insI_sorted x _ (sortI_sorted r)
theorem sorted_eq {a b : List Int} (p : a.Perm b) (ha : a.Pairwise (· ≤ ·)) (hb : b.Pairwise (· ≤ ·)) : a = b :=
  p.eq_of_pairwise (fun x y _ _ h1 h2 => Int.le_antisymm h1 h2) ha hb
theorem sortI_of {a l : List Int} (p : a.Perm l) (ha : a.Pairwise (· ≤ ·)) : a = sortI l := sorted_eq (p.trans (sortI_perm l).symm) ha (sortI_sorted l)

section
variable {prog : Program} {w : World} {A : Around} {E : Value → Shared → Prop} {s : Shared}
theorem collect_tup {l : Addr} {vs : List Value} {Q : List Value → Shared → Prop} (hl : IsTup s.heap l vs.toArray)
    (h : Q vs { s with heap := (s.heap.push (seqObj "list" #[] 0)).update s.heap.objs.size (Obj.mapSeq (· ++ vs.toArray)) }) (hsz : vs.length ≤ sizeLine) :
    wpAny (model prog w) A (collect (.ref l)) Q E s := by
  obtain ⟨o, ho, hc, n, hd⟩ := id hl
  unfold collect
  refine wpAny_bind (wpAny_runValue (codeAny_builtin entry_proto_collect' ?_))
  show wpAny _ _ (do again (.builtin "list.__iadd__" ⟨[← newList [], .ref l], []⟩)) _ _ s
  refine wpAny_bind (wpAny_newList (wpAny_pure ⟨Code.quiet_builtin _ (by decide +kernel), codeAny_builtin entry_list_iadd' ?_⟩))
  show wpAny _ _ (Builtin.List.listExtendWith (.ref s.heap.objs.size) (.ref l) (.ref s.heap.objs.size)) _ _ { s with heap := s.heap.push (seqObj "list" #[] 0) }
  unfold Builtin.List.listExtendWith
  have ho' : (s.heap.push (seqObj "list" #[] 0)).get? l = some o := Heap.get?_push_of_some _ ho
  refine wpAny_bind (wpAny_typeOf (T := "tuple") ⟨o, ho', hc⟩ ?_)
  rw [if_pos (by rw [show (Value.type "tuple" == Value.type "tuple") = true from rfl]; simp)]
  refine wpAny_bind (listItems_at ho' hd ?_)
  refine wpAny_bind (listItems_at (xs := #[]) (n := 0) (Heap.get?_push_size _ rfl) rfl ?_)
  rw [if_neg (by simp)]
  refine wpAny_bind (listUpdate_at (xs := #[]) (n := 0) (Heap.get?_push_size _ rfl) rfl ?_ (Nat.zero_le _) (by show (#[] ++ vs.toArray).size ≤ sizeLine + 1; simp only [Array.size_append, List.size_toArray, List.length_nil]; omega))
  refine wpAny_pure ?_
  show wpAny (model prog w) A (do
      let o ← load s.heap.objs.size
      match o.data with
      | .seq xs _ => pure xs.toList
      | _ => unsupported "internal:collect") Q E { s with heap := (s.heap.push (seqObj "list" #[] 0)).update s.heap.objs.size (Obj.mapSeq (· ++ vs.toArray)) }
  refine wpAny_bind (wpAny_load (get?_update_seq (Heap.get?_push_size _ rfl) _) ?_)
  show wpAny _ _ (pure ((#[] : Array Value) ++ vs.toArray).toList) Q E _
  rw [show ((#[] : Array Value) ++ vs.toArray).toList = vs by simp]
  exact wpAny_pure h
theorem sorted_ordT {l : Addr} {vs : List Value} {ltv : Value → Value → Bool} {Q : Value → Shared → Prop} (O : SrtO.Swo ltv) (hl : IsTup s.heap l vs.toArray) (hz : vs.length ≤ sizeLine)
    (hS : 2 ≤ vs.length → ∀ (h₁ : Heap) (a : Addr), h₁.get? a = some (seqObj "list" vs.toArray 0) → (∀ b o, s.heap.get? b = some o → b ≠ a ∧ h₁.get? b = some o) → SrtO.SortableO prog w A.in1.in1 { s with heap := h₁ } a vs ltv)
    (h : ∀ out : List Value, SrtO.Srtd ltv out → SrtO.Stb ltv out vs → Q (.ref (s.heap.objs.size + 1)) { s with heap := sortedAll s.heap vs out.toArray }) :
    wpAny (model prog w) A (call (.builtin "sorted") [.ref l]) Q E s := by
  refine Calls.call_function_entry kind_sorted plain_sorted entry_sorted (args_sorted1 _) ?_
  unfold Builtin.«sorted»
  refine wpAny_bind (m := checkCount "sorted" 1 1 _) (wpAny_pure ?_)
  refine wpAny_bind (collect_tup hl ?_ hz)
  refine wpAny_bind (wpAny_newList ?_ hz)
  have hsz : ((s.heap.push (seqObj "list" #[] 0)).update s.heap.objs.size (Obj.mapSeq (· ++ vs.toArray))).objs.size = s.heap.objs.size + 1 := by
    rw [Heap.size_update, Heap.size_push]
  have hoL : (((s.heap.push (seqObj "list" #[] 0)).update s.heap.objs.size (Obj.mapSeq (· ++ vs.toArray))).push (seqObj "list" vs.toArray 0)).get? (s.heap.objs.size + 1) = some (seqObj "list" vs.toArray 0) := by
    rw [← hsz]; exact Heap.get?_push_size _ rfl
  have keep : ∀ b o, s.heap.get? b = some o → b ≠ s.heap.objs.size + 1 ∧ (((s.heap.push (seqObj "list" #[] 0)).update s.heap.objs.size (Obj.mapSeq (· ++ vs.toArray))).push (seqObj "list" vs.toArray 0)).get? b = some o := fun b o q => by
    have hlt : b < s.heap.objs.size := Heap.lt_size q
    refine ⟨Nat.ne_of_lt (Nat.lt_succ_of_lt hlt), Heap.get?_push_of_some _ ?_⟩
    rw [Heap.get?_update_ne _ _ _ _ (Nat.ne_of_lt hlt)]
    exact Heap.get?_push_of_some _ q
  show wpAny _ _ _ _ _ { s with heap := ((s.heap.push (seqObj "list" #[] 0)).update s.heap.objs.size (Obj.mapSeq (· ++ vs.toArray))).push (seqObj "list" vs.toArray 0) }
  rw [hsz]
  refine wpAny_bind (wpAny_holding (wpAny_call_entry slot_list_sort ⟨_, hoL, rfl⟩ entry_list_sort (SrtO.list_sort_ord O hoL hz (fun h2 => hS h2 _ _ hoL keep) fun out hs hb => ⟨_, rfl, ?_⟩) (args_list_sort _)))
  exact wpAny_pure ⟨_, rfl, h out hs hb⟩
end
section
variable {X : Cx}
def rSortedIT (K : PySem.W.Frag) : List V → Hp → VK → Prop := fun vs H Q => ∃ (a : Addr) (ns : List Int), vs = [V.ref a] ∧ SqT K H a (ns.map V.int) ∧
  ∀ (ns' : List Int) (p : Addr), ns'.Perm ns → ns'.Pairwise (· ≤ ·) → H p = none → Q (.ref p) (upd H p (.lst (ns'.map V.int)))
theorem cr_sortedIT : CallR X (.builtin "sorted") (rSortedIT X.K) := by
  intro pins s σ H vs us Q I r h
  obtain ⟨a, ns, rfl, hs, q⟩ := h
  obtain ⟨its, rv, hl, hz⟩ := I.tuple hs
  rw [Vals.ref1 r]
  have hi := rv.ints
  refine sorted_ordT SrtO.swo_int hl (by rw [← rv.length]; exact hz) (fun h2 h₁ a' _ _ => SrtO.ints_sortable hi h2) fun out h1 h2 => ?_
  obtain ⟨k1, k2, k3⟩ := SrtO.ints_out hi h1 h2
  obtain ⟨ep, he'⟩ := PyProof.Rows.sortedAll_at s.heap its out.toArray
  have hlen : ((out.map SrtO.iv).map V.int).length ≤ sizeLine := by
    rw [List.length_map, k2.length_eq]
    rw [List.length_map] at hz
    exact hz
  exact ⟨.ref _, upd H (s.heap.objs.size + 1) (.lst ((out.map SrtO.iv).map V.int)), I.laid (t' := s.toks) (fun _ _ => PyProof.Rows.sortedAll_old) (Nat.le_succ _) ⟨hlen, out, ep, vals_of_ints k1, he'⟩, rfl, q _ _ k2 k3 (I.hok.fresh (Nat.le_succ _))⟩
theorem seqI_some {S : Sto} {p : PV} {ns : List Int} (e : (seqD S p).bind intsD = some ns) : ∃ ds, seqD S p = some ds ∧ intsD ds = some ns := by
  cases e1 : seqD S p with
  | none => rw [e1] at e; cases e
  | some ds => rw [e1] at e; exact ⟨ds, rfl, e⟩
theorem bm_sorted : CallR X (.builtin "sorted") (rcM X.K fun S => biV S .sorted) := CallR.imp (CallR.or cr_sortedI cr_sortedIT) fun vs H Q ⟨w, S, ps, z, rs, r, e, a⟩ => by
  dsimp only at e
  obtain ⟨p, rfl, hz⟩ := one_arg (g := fun p => ((seqD S p).bind intsD).map fun ns => PV.lst ((sortI ns).map .int)) e (fun _ => rfl) rfl (fun _ _ _ => rfl)
  clear e
  have e := hz
  obtain ⟨v, rfl, rv⟩ := rv1 r
  cases e1 : (seqD S p).bind intsD with
  | none => rw [e1] at e; cases e
  | some ns =>
    rw [e1] at e
    cases e
    obtain ⟨ds, f1, f2⟩ := seqI_some e1
    obtain ⟨b, us, rfl, q, h⟩ := seqD_at rs f1 rv
    have eu := rds_ints f2 q
    subst eu
    rcases h with ⟨h, _⟩ | ⟨h, _⟩
    · exact .inl ⟨b, ns, rfl, SqL.of h, fun ns' l pm so hl => by rw [sortI_of pm so]; exact a.lst rs (ints_rds _) hl⟩
    · exact .inr ⟨b, ns, rfl, h.sq, fun ns' l pm so hl => by rw [sortI_of pm so]; exact a.lst rs (ints_rds _) hl⟩
theorem foldl_max_ge (l : List Int) : ∀ x : Int, x ≤ l.foldl max x ∧ (∀ y ∈ l, y ≤ l.foldl max x) ∧ (l.foldl max x = x ∨ l.foldl max x ∈ l) := by
  induction l with
  | nil => intro x; exact ⟨Int.le_refl _, by simp, .inl rfl⟩
  | cons y r ih =>
    intro x
    rw [List.foldl_cons]
    obtain ⟨h1, h2, h3⟩ := ih (max x y)
    refine ⟨by omega, fun z hz => ?_, ?_⟩
    · rcases List.mem_cons.mp hz with rfl | hz
      · omega
      · exact h2 z hz
    · rcases h3 with h3 | h3
      · rcases Int.le_total x y with h | h
        · rw [Int.max_eq_right h] at h3 ⊢; exact .inr (by rw [h3]; exact List.mem_cons_self)
        · rw [Int.max_eq_left h] at h3 ⊢; exact .inl h3
      · exact .inr (List.mem_cons_of_mem _ h3)
theorem foldl_min_le (l : List Int) : ∀ x : Int, l.foldl min x ≤ x ∧ (∀ y ∈ l, l.foldl min x ≤ y) ∧ (l.foldl min x = x ∨ l.foldl min x ∈ l) := by
  induction l with
  | nil => intro x; exact ⟨Int.le_refl _, by simp, .inl rfl⟩
  | cons y r ih =>
    intro x
    rw [List.foldl_cons]
    obtain ⟨h1, h2, h3⟩ := ih (min x y)
    refine ⟨by omega, fun z hz => ?_, ?_⟩
    · rcases List.mem_cons.mp hz with rfl | hz
      · omega
      · exact h2 z hz
    · rcases h3 with h3 | h3
      · rcases Int.le_total x y with h | h
        · rw [Int.min_eq_left h] at h3 ⊢; exact .inl h3
        · rw [Int.min_eq_right h] at h3 ⊢; exact .inr (by rw [h3]; exact List.mem_cons_self)
      · exact .inr (List.mem_cons_of_mem _ h3)
theorem bm_max (hc : X.calm = true) : CallR X (.builtin "max") (rcM X.K fun S => biV S .max) := CallR.imp (CallR.or (call_max2 hc) (cr_max hc)) fun vs H Q ⟨w, S, ps, z, rs, r, e, a⟩ => by
  dsimp only at e
  have two : ∀ p q, ps = [p, q] → (∃ i j, vs = [.int i, .int j] ∧ Q (.int (if j > i then j else i)) H) := fun p q eq => by
    subst eq
    obtain ⟨v, u, rfl, r1, r2⟩ := rv2 r
    cases p with
    | d x =>
      cases x with
      | int i =>
        cases q with
        | d y =>
          cases y with
          | int j =>
            cases r1
            cases r2
            cases e
            exact ⟨i, j, rfl, a.int rs⟩
          | _ => cases e
        | _ => cases e
      | _ => cases e
    | _ => cases e
  match ps, e, r with
  | [], e, _ => cases e
  | [p, q], _, _ => exact .inl (two p q rfl)
  | p :: q :: t :: l, e, _ => exact absurd e (by cases p <;> (try cases ‹PyData›) <;> cases q <;> (try cases ‹PyData›) <;> exact fun z => nomatch z)
  | [p], e, r =>
    have e : ((lstD S p).bind intsD).bind (fun ns => (maxL ns).map .int) = some z := by
      cases p with
      | d x => cases x <;> exact e
      | _ => exact e
    obtain ⟨v, rfl, rv⟩ := rv1 r
    cases e1 : (lstD S p).bind intsD with
    | none => rw [e1] at e; cases e
    | some ns =>
      rw [e1] at e
      obtain ⟨ds, f1, f2⟩ := lstI_some e1
      obtain ⟨b, us, rfl, h, q⟩ := lstD_at rs f1 rv
      have eu := rds_ints f2 q
      subst eu
      cases ns with
      | nil => cases e
      | cons n ns =>
        cases e
        obtain ⟨h1, h2, h3⟩ := foldl_max_ge ns n
        refine .inr ⟨b, n :: ns, rfl, SqL.of h, by simp, fun m hm hall => ?_⟩
        have em : m = ns.foldl max n := by
          have a1 : ns.foldl max n ≤ m := hall _ (by
            rcases h3 with h3 | h3
            · rw [h3]; exact List.mem_cons_self
            · exact List.mem_cons_of_mem _ h3)
          have a2 : m ≤ ns.foldl max n := by
            rcases List.mem_cons.mp hm with rfl | hm
            · exact h1
            · exact h2 m hm
          omega
        rw [em]
        exact a.int rs
theorem bm_min (hc : X.calm = true) : CallR X (.builtin "min") (rcM X.K fun S => biV S .min) := CallR.imp (CallR.or (call_min2 hc) (cr_min hc)) fun vs H Q ⟨w, S, ps, z, rs, r, e, a⟩ => by
  dsimp only at e
  have two : ∀ p q, ps = [p, q] → (∃ i j, vs = [.int i, .int j] ∧ Q (.int (if j < i then j else i)) H) := fun p q eq => by
    subst eq
    obtain ⟨v, u, rfl, r1, r2⟩ := rv2 r
    cases p with
    | d x =>
      cases x with
      | int i =>
        cases q with
        | d y =>
          cases y with
          | int j =>
            cases r1
            cases r2
            cases e
            exact ⟨i, j, rfl, a.int rs⟩
          | _ => cases e
        | _ => cases e
      | _ => cases e
    | _ => cases e
  match ps, e, r with
  | [], e, _ => cases e
  | [p, q], _, _ => exact .inl (two p q rfl)
  | p :: q :: t :: l, e, _ => exact absurd e (by cases p <;> (try cases ‹PyData›) <;> cases q <;> (try cases ‹PyData›) <;> exact fun z => nomatch z)
  | [p], e, r =>
    have e : ((lstD S p).bind intsD).bind (fun ns => (minL ns).map .int) = some z := by
      cases p with
      | d x => cases x <;> exact e
      | _ => exact e
    obtain ⟨v, rfl, rv⟩ := rv1 r
    cases e1 : (lstD S p).bind intsD with
    | none => rw [e1] at e; cases e
    | some ns =>
      rw [e1] at e
      obtain ⟨ds, f1, f2⟩ := lstI_some e1
      obtain ⟨b, us, rfl, h, q⟩ := lstD_at rs f1 rv
      have eu := rds_ints f2 q
      subst eu
      cases ns with
      | nil => cases e
      | cons n ns =>
        cases e
        obtain ⟨h1, h2, h3⟩ := foldl_min_le ns n
        refine .inr ⟨b, n :: ns, rfl, SqL.of h, by simp, fun m hm hall => ?_⟩
        have em : m = ns.foldl min n := by
          have a1 : m ≤ ns.foldl min n := hall _ (by
            rcases h3 with h3 | h3
            · rw [h3]; exact List.mem_cons_self
            · exact List.mem_cons_of_mem _ h3)
          have a2 : ns.foldl min n ≤ m := by
            rcases List.mem_cons.mp hm with rfl | hm
            · exact h1
            · exact h2 m hm
          omega
        rw [em]
        exact a.int rs
end
end Mn

end

section
set_option Elab.async false
set_option linter.all false
set_option maxRecDepth 100000
set_option maxHeartbeats 1000000
/-! MnPure2: more rules for what the small language's texts compute: the drawer, lists of ints, equality, repr, whiles. -/
namespace Mn
open PySem (PyData Str sizeLine)
theorem ltS' {m : Nat} (h : m < 1000000) : m < sizeLine := by rw [PySem.sizeLine_eq]; omega
/-! ### the drawer: its cells, the next one's place, what is left, a mix, how many were mixed -/
structure Hd where
  cs : List Int
  i : Int
  l : Int
  m : Int
  k : Int
def Hd.ok (h : Hd) : Prop := (∀ z ∈ h.cs, 0 ≤ z) ∧ 0 ≤ h.i ∧ 0 ≤ h.l
/-- the drawer as it stands, R behind it -/
def Hd.st (h : Hd) (R : Sto) : Sto := .lst ((dIs h.cs).map .d) :: .lst [.r 0, PV.int h.i, PV.int h.l, PV.int h.m, PV.int h.k] :: R
theorem Hd.len (h h' : Hd) (R R' : Sto) (e : R'.length = R.length) : (h'.st R').length = (h.st R).length := by
  show R'.length + 1 + 1 = R.length + 1 + 1
  rw [e]
theorem finO_len (S S1 : Sto) (x : PyData) (h : S1.length = S.length) : finO false S (.rt (.d x) S1) = .ok (.d x) S1 := by
  show Res.ok (PV.d x) (S1.take S.length) = _
  rw [← h, List.take_length]
theorem finO_lenN (S S1 : Sto) (e : Env') (h : S1.length = S.length) : finO false S (.nx e S1) = .ok .none S1 := by
  show Res.ok PV.none (S1.take S.length) = _
  rw [← h, List.take_length]
theorem finO_lenA (S S1 T : Sto) (x : PyData) (h : S1.length = S.length) : finO false S (.rt (.d x) (S1 ++ T)) = .ok (.d x) S1 := by
  show Res.ok (PV.d x) ((S1 ++ T).take S.length) = _
  rw [← h, List.take_left]
theorem Hd.app (h : Hd) (R T : Sto) : h.st R ++ T = h.st (R ++ T) := rfl
section
variable (h : Hd) (R : Sto) (v : Int)
theorem hd_0 : idxV (h.st R) (.r 1) (PV.int 0) = some (.r 0) := (rfl)
theorem hd_1 : idxV (h.st R) (.r 1) (PV.int 1) = some (PV.int h.i) := (rfl)
theorem hd_2 : idxV (h.st R) (.r 1) (PV.int 2) = some (PV.int h.l) := (rfl)
theorem hd_3 : idxV (h.st R) (.r 1) (PV.int 3) = some (PV.int h.m) := (rfl)
theorem hd_4 : idxV (h.st R) (.r 1) (PV.int 4) = some (PV.int h.k) := (rfl)
theorem hd_s1 : setV (h.st R) (.r 1) (PV.int 1) (PV.int v) = some (Hd.st ⟨h.cs, v, h.l, h.m, h.k⟩ R) := (rfl)
theorem hd_s2 : setV (h.st R) (.r 1) (PV.int 2) (PV.int v) = some (Hd.st ⟨h.cs, h.i, v, h.m, h.k⟩ R) := (rfl)
theorem hd_s3 : setV (h.st R) (.r 1) (PV.int 3) (PV.int v) = some (Hd.st ⟨h.cs, h.i, h.l, v, h.k⟩ R) := (rfl)
theorem hd_s4 : setV (h.st R) (.r 1) (PV.int 4) (PV.int v) = some (Hd.st ⟨h.cs, h.i, h.l, h.m, v⟩ R) := (rfl)
theorem hd_len : biV (h.st R) .len [.r 0] = some (PV.int (h.cs.length : Nat)) := by
  show some (PV.int ((((dIs h.cs).map PV.d).length : Nat) : Int)) = _
  rw [List.length_map, dIs_len]
theorem hd_at (j : Nat) (z : Int) (e : h.cs[j]? = some z) : idxV (h.st R) (.r 0) (PV.int (j : Int)) = some (PV.int z) := by
  have hj := (List.getElem?_eq_some_iff.mp e).1
  show ((some ((dIs h.cs).map PV.d)).bind fun xs => (ixAt xs.length (j : Int)).bind fun j => xs[j]?) = _
  have e1 : ixAt ((dIs h.cs).map PV.d).length (j : Int) = some j := by
    unfold ixAt
    rw [List.length_map, dIs_len, if_pos (by omega), if_pos (by omega)]
    rfl
  rw [Option.bind_some, e1, Option.bind_some, List.getElem?_map, dIs_get, e]
  rfl
end
theorem mod_pos (a b : Int) (h : 0 < b) : 0 ≤ a.fmod b ∧ a.fmod b < b := ⟨Int.fmod_nonneg_of_pos a h, Int.fmod_lt_of_pos a h⟩
theorem mulOk_l {x : Int} (h : -(2 ^ 64) < x ∧ x < 2 ^ 64) (y : Int) : mulOk x y = true := by
  unfold mulOk
  simp only [h.1, h.2, decide_true, Bool.and_self, Bool.true_or]
theorem mulOk_r {y : Int} (h : -(2 ^ 64) < y ∧ y < 2 ^ 64) (x : Int) : mulOk x y = true := by
  unfold mulOk
  simp only [h.1, h.2, decide_true, Bool.and_self, Bool.true_or, Bool.or_true]
theorem divOk_p {j : Int} (h : 0 < j) (h1 : j < 1073741824) : divOk j = true := by
  unfold divOk
  have : j.natAbs < 1073741824 := by omega
  simp [this]
  omega
/-! ### ints as data -/
def isIntD : PyData → Bool
  | .int _ => true
  | _ => false
def inD (x : PyData) (a b : Int) : Bool := match x with
  | .int i => decide (a ≤ i) && decide (i ≤ b)
  | _ => false
def tupN (x : PyData) (n : Int) : Bool := match x with
  | .tuple xs => decide ((xs.length : Int) = n)
  | _ => false
def isTupD : PyData → Bool
  | .tuple _ => true
  | _ => false
/-- ints in order -/
def ascI : List Int → Bool
  | a :: b :: r => decide (a < b) && ascI (b :: r)
  | _ => true
/-- the ints of a list of data -/
def intsOf : List PyData → List Int
  | .int i :: r => i :: intsOf r
  | _ :: r => intsOf r
  | [] => []
theorem ints_back : ∀ {xs : List PyData}, xs.all isIntD = true → dIs (intsOf xs) = xs
  | [], _ => rfl
  | x :: xs, h => by
    rw [List.all_cons, Bool.and_eq_true] at h
    cases x with
    | int i => show PyData.int i :: dIs (intsOf xs) = _; rw [ints_back h.2]
    | _ => cases h.1
theorem in_int {x : PyData} {a b : Int} (h : inD x a b = true) : isIntD x = true := by cases x <;> first | rfl | cases h
theorem all_in {xs : List PyData} {a b : Int} (h : xs.all (fun x => inD x a b) = true) : xs.all isIntD = true := List.all_eq_true.mpr fun x hx => in_int (List.all_eq_true.mp h x hx)
theorem intsOf_dIs : ∀ xs : List Int, intsOf (dIs xs) = xs
  | [] => rfl
  | x :: xs => by show x :: intsOf (dIs xs) = _; rw [intsOf_dIs xs]
/-! ### what a comparison looks at -/
mutual
/-- no dicts -/
def pln : PyData → Bool
  | .list xs => plns xs
  | .tuple xs => plns xs
  | .dict _ => false
  | .str s => PyData.strOk s
  | _ => true
def plns : List PyData → Bool
  | [] => true
  | x :: xs => pln x && plns xs
end
mutual
theorem pln_lay : ∀ {x : PyData}, pln x = true → x.canLay0 = true
  | .none, _ => rfl
  | .bool _, _ => rfl
  | .int _, _ => rfl
  | .str _, h => h
  | .list xs, h => plns_lay (show plns xs = true from h)
  | .tuple xs, h => plns_lay (show plns xs = true from h)
  | .dict _, h => nomatch h
theorem plns_lay : ∀ {xs : List PyData}, plns xs = true → PyData.canLayAll0 xs = true
  | [], _ => rfl
  | x :: xs, h => by
    have h2 := Bool.and_eq_true_iff.mp (show (pln x && plns xs) = true from h)
    show (x.canLay0 && PyData.canLayAll0 xs) = true
    rw [pln_lay h2.1, plns_lay h2.2]
    rfl
end
theorem shp_of {x : PyData} (h1 : pln x = true) (h2 : x.depth ≤ 64) : shp x = true := by
  unfold shp
  rw [pln_lay h1, Bool.true_and, decide_eq_true_eq]
  exact h2
/-- a bound for the depth -/
theorem depthAll_le {n : Nat} : ∀ {xs : List PyData}, (∀ x ∈ xs, x.depth ≤ n) → PyData.depthAll xs ≤ n
  | [], _ => Nat.zero_le _
  | x :: xs, h => by
    show max x.depth (PyData.depthAll xs) ≤ n
    exact Nat.max_le.mpr ⟨h x List.mem_cons_self, depthAll_le fun y hy => h y (List.mem_cons_of_mem _ hy)⟩
theorem depth_tup (xs : List PyData) : (PyData.tuple xs).depth = PyData.depthAll xs + 1 := rfl
theorem depth_lst (xs : List PyData) : (PyData.list xs).depth = PyData.depthAll xs + 1 := rfl
theorem depth_dIs (xs : List Int) : PyData.depthAll (dIs xs) ≤ 1 := depthAll_le fun x hx => by
  obtain ⟨i, _, rfl⟩ := List.mem_map.mp hx
  exact Nat.zero_le _
theorem plns_dIs : ∀ xs : List Int, plns (dIs xs) = true
  | [] => rfl
  | x :: xs => by show (pln (.int x) && plns (dIs xs)) = true; rw [plns_dIs xs]; rfl
theorem shp_tI (xs : List Int) : shp (.tuple (dIs xs)) = true := shp_of (plns_dIs xs) (by rw [depth_tup]; have := depth_dIs xs; omega)
theorem shp_lI (xs : List Int) : shp (.list (dIs xs)) = true := shp_of (plns_dIs xs) (by rw [depth_lst]; have := depth_dIs xs; omega)
theorem eqv_dIs : ∀ a b : List Int, PyData.eqvAll (dIs a) (dIs b) = decide (a = b)
  | [], [] => rfl
  | x :: xs, y :: ys => by
    show ((x == y) && PyData.eqvAll (dIs xs) (dIs ys)) = _
    rw [eqv_dIs xs ys]
    by_cases h : x = y
    · subst h
      simp
    · simp [h]
  | [], _ :: _ => rfl
  | _ :: _, [] => rfl
theorem eqV_d (S : Sto) (x y : PyData) (h0 : strV (.d x) = none) (h1 : shp x = true) (h2 : shp y = true) : eqV S (.d x) (.d y) = some (PyData.eqv x y) := by
  unfold eqV
  rw [h0]
  show (if shp x && shp y then some (PyData.eqv x y) else none) = _
  rw [h1, h2]
  rfl
theorem eqV_tI (S : Sto) (xs ys : List Int) : eqV S (PV.tup (dIs xs)) (PV.tup (dIs ys)) = some (decide (xs = ys)) := by
  rw [eqV_d S _ _ rfl (shp_tI xs) (shp_tI ys)]
  show some (PyData.eqvAll (dIs xs) (dIs ys)) = _
  rw [eqv_dIs]
theorem eqV_lI (S : Sto) (xs ys : List Int) : eqV S (PV.lst (dIs xs)) (PV.lst (dIs ys)) = some (decide (xs = ys)) := by
  rw [eqV_d S _ _ rfl (shp_lI xs) (shp_lI ys)]
  show some (PyData.eqvAll (dIs xs) (dIs ys)) = _
  rw [eqv_dIs]
theorem eq_tI (S : Sto) (xs ys : List Int) : cmpV S .eq (PV.tup (dIs xs)) (PV.tup (dIs ys)) = some (decide (xs = ys)) := eqV_tI S xs ys
theorem ne_tI (S : Sto) (xs ys : List Int) : cmpV S .ne (PV.tup (dIs xs)) (PV.tup (dIs ys)) = some (!decide (xs = ys)) := by
  show (eqV S _ _).map (!·) = _
  rw [eqV_tI]
  rfl
theorem eq_lI (S : Sto) (xs ys : List Int) : cmpV S .eq (PV.lst (dIs xs)) (PV.lst (dIs ys)) = some (decide (xs = ys)) := eqV_lI S xs ys
theorem ne_lI (S : Sto) (xs ys : List Int) : cmpV S .ne (PV.lst (dIs xs)) (PV.lst (dIs ys)) = some (!decide (xs = ys)) := by
  show (eqV S _ _).map (!·) = _
  rw [eqV_lI]
  rfl
theorem ne_s (S : Sto) (a b : Str) : cmpV S .ne (PV.str a) (PV.str b) = some (!decide (a = b)) := (rfl)
theorem eq_s (S : Sto) (a b : Str) : cmpV S .eq (PV.str a) (PV.str b) = some (decide (a = b)) := (rfl)
/-! ### repr -/
/-- a bound of what is shown -/
def shL (x : PyData) : Nat := x.shown.length
theorem sortI_congr {xs ys : List Int} (h : xs.Perm ys) : sortI xs = sortI ys := by
  exact sortI_of ((sortI_perm xs).trans h) (sortI_sorted xs)
/-! ### whiles -/
theorem while_f {c : Env' → Sto → Res Bool} {b : Env' → Sto → Out} {n : Nat} {e : Env'} {S : Sto} (h : c e S = .ok false S) : whileL c b (n + 1) e S = .nx e S := by
  unfold whileL
  rw [h]
  rfl
theorem while_t {c : Env' → Sto → Res Bool} {b : Env' → Sto → Out} {n : Nat} {e e1 : Env'} {S S1 : Sto} (h : c e S = .ok true S) (hb : b e S = .nx e1 S1) : whileL c b (n + 1) e S = whileL c b n e1 S1 := by
  conv => lhs; unfold whileL
  rw [h, Res.out_ok, if_pos rfl, hb, Out.bind_nx]
theorem forV_nil {b : PV → Env' → Sto → Out} {e : Env'} {S : Sto} : forV b [] e S = .nx e S := rfl
theorem forV_cons {b : PV → Env' → Sto → Out} {x : PV} {xs : List PV} {e : Env'} {S : Sto} : forV b (x :: xs) e S = (b x e S).bind fun e1 S1 => forV b xs e1 S1 := rfl
/-! ### dicts of keys -/
def dcQ (v : PyData) (ks : List Key) (a : List (Key × PyData)) : List (Key × PyData) := ks.foldl (fun a k => putQ a k v) a
theorem putQ_new {a : List (Key × PyData)} {k : Key} {v : PyData} (h : k ∉ a.map (·.1)) : putQ a k v = a ++ [(k, v)] := by
  unfold putQ
  rw [if_neg]
  intro z
  obtain ⟨p, hp, e⟩ := List.any_eq_true.mp z
  exact h (List.mem_map.mpr ⟨p, hp, of_decide_eq_true e⟩)
theorem putQ_old {a : List (Key × PyData)} {k : Key} {v : PyData} (h : k ∈ a.map (·.1)) : (putQ a k v).length = a.length ∧ (putQ a k v).map (·.1) = a.map (·.1) := by
  unfold putQ
  obtain ⟨p, hp, e⟩ := List.mem_map.mp h
  rw [if_pos (List.any_eq_true.mpr ⟨p, hp, decide_eq_true e⟩), List.length_map]
  refine ⟨rfl, ?_⟩
  rw [List.map_map]
  refine List.map_congr_left fun q _ => ?_
  show (if q.1 = k then (q.1, v) else q).1 = q.1
  split <;> rfl
theorem dcQ_len (v : PyData) : ∀ (ks : List Key) (a : List (Key × PyData)), (a.map (·.1)).Nodup → (dcQ v ks a).length ≤ a.length + ks.length ∧ ((dcQ v ks a).length = a.length + ks.length ↔ (a.map (·.1) ++ ks).Nodup)
  | [], a, h => by
    refine ⟨Nat.le_refl _, fun _ => by rw [List.append_nil]; exact h, fun _ => rfl⟩
  | k :: ks, a, h => by
    show (dcQ v ks (putQ a k v)).length ≤ _ ∧ ((dcQ v ks (putQ a k v)).length = _ ↔ _)
    by_cases hk : k ∈ a.map (·.1)
    · obtain ⟨e1, e2⟩ := putQ_old (v := v) hk
      have ih := dcQ_len v ks (putQ a k v) (by rw [e2]; exact h)
      rw [e1] at ih
      refine ⟨by rw [List.length_cons]; omega, fun z => ?_, fun z => ?_⟩
      · have z' : (dcQ v ks (putQ a k v)).length = a.length + (ks.length + 1) := z
        omega
      · rw [List.nodup_append] at z
        exact absurd rfl (z.2.2 k hk k List.mem_cons_self)
    · have e := putQ_new (v := v) hk
      have hn : ((putQ a k v).map (·.1)).Nodup := by
        rw [e, List.map_append, List.nodup_append]
        refine ⟨h, by simp, fun x hx y hy => ?_⟩
        have : y = k := by simpa using hy
        subst this
        exact fun q => hk (by rw [← q]; exact hx)
      have ih := dcQ_len v ks (putQ a k v) hn
      rw [e, List.map_append, List.length_append] at ih
      have e3 : (a.map (·.1) ++ [(k, v)].map (·.1)) ++ ks = a.map (·.1) ++ k :: ks := by simp
      rw [e3] at ih
      rw [e]
      refine ⟨by have := ih.1; simp only [List.length_cons, List.length_nil] at this ⊢; omega, ?_⟩
      rw [← ih.2]
      simp only [List.length_cons, List.length_nil]
      constructor <;> (intro z; omega)
theorem dcQ_nodup (v : PyData) (ks : List Key) : ((dcQ v ks []).length = ks.length) ↔ ks.Nodup := by
  have h := (dcQ_len v ks [] List.nodup_nil).2
  simpa using h
theorem dcQ_le (v : PyData) (ks : List Key) : (dcQ v ks []).length ≤ ks.length := by
  have h := (dcQ_len v ks [] List.nodup_nil).1
  simpa using h
theorem putsQ_fold (v : PyData) : ∀ (xs : List Int) (a : List (Key × PyData)), putsQ a (xs.map fun i => PV.tup [.int i, v]) = some (dcQ v (xs.map Sum.inl) a)
  | [], _ => rfl
  | x :: xs, a => putsQ_fold v xs (putQ a (.inl x) v)
theorem nodup_inl (xs : List Int) : (xs.map (Sum.inl : Int → Key)).Nodup ↔ xs.Nodup := by
  constructor
  · intro h
    exact List.Pairwise.imp (fun hne e => hne (congrArg Sum.inl e)) (List.pairwise_map.mp h)
  · intro h
    exact List.pairwise_map.mpr (List.Pairwise.imp (fun hne e => hne (Sum.inl.inj e)) h)
/-- {x: v for x in xs}, its size -/
theorem dict_len (S : Sto) (v : PyData) (xs : List Int) (h : xs.length < sizeLine) : ∃ q, finD (xs.map fun i => PV.tup [.int i, v]) S = .ok (.d (.dict q)) S ∧ (q.length = xs.length ↔ xs.Nodup) := by
  refine ⟨(dcQ v (xs.map Sum.inl) []).map fun p => (keyD p.1, p.2), ?_, ?_⟩
  · unfold finD
    rw [List.length_map, if_pos h]
    unfold dctV
    rw [putsQ_fold]
    rfl
  · rw [List.length_map]
    have := dcQ_nodup v (xs.map Sum.inl)
    rw [List.length_map, nodup_inl] at this
    exact this
/-! ### slices, turns -/
theorem cut_from {α : Type} (xs : List α) (r : Nat) : cutD xs (some (r : Int)) none = xs.drop r := by
  unfold cutD sIx
  have h : ¬ (r : Int) < 0 := by omega
  simp only [if_neg h, Int.toNat_natCast]
  by_cases hr : r ≤ xs.length
  · rw [Nat.min_eq_left hr, List.take_of_length_le (by rw [List.length_drop]; omega)]
  · rw [Nat.min_eq_right (by omega), List.drop_of_length_le (Nat.le_refl _), List.drop_of_length_le (by omega), List.take_nil]
theorem cut_to {α : Type} (xs : List α) (r : Nat) : cutD xs none (some (r : Int)) = xs.take r := by
  unfold cutD sIx
  have h : ¬ (r : Int) < 0 := by omega
  simp only [if_neg h, Int.toNat_natCast, List.drop_zero, Nat.sub_zero]
  by_cases hr : r ≤ xs.length
  · rw [Nat.min_eq_left hr]
  · rw [Nat.min_eq_right (by omega), List.take_of_length_le (Nat.le_refl _), List.take_of_length_le (by omega)]
theorem cut_both {α : Type} (xs : List α) (a b : Nat) : cutD xs (some (a : Int)) (some (b : Int)) = (xs.drop a).take (b - a) := by
  unfold cutD sIx
  have h : ¬ (a : Int) < 0 := by omega
  have h2 : ¬ (b : Int) < 0 := by omega
  simp only [if_neg h, if_neg h2, Int.toNat_natCast]
  by_cases hr : a ≤ xs.length
  · rw [Nat.min_eq_left hr]
    by_cases hb : b ≤ xs.length
    · rw [Nat.min_eq_left hb]
    · rw [Nat.min_eq_right (by omega), List.take_of_length_le (by rw [List.length_drop]; omega), List.take_of_length_le (by rw [List.length_drop]; omega)]
  · rw [Nat.min_eq_right (a := a) (by omega), List.drop_of_length_le (Nat.le_refl _), List.drop_of_length_le (by omega), List.take_nil, List.take_nil]
/-- turned on -/
def rot {α : Type} (m : Nat) (xs : List α) : List α := xs.drop (m % xs.length) ++ xs.take (m % xs.length)
theorem rot_len {α : Type} (m : Nat) (xs : List α) : (rot m xs).length = xs.length := by
  unfold rot
  rw [List.length_append, List.length_drop, List.length_take]
  cases xs with
  | nil => simp
  | cons x xs =>
    have := Nat.mod_lt m (show 0 < (x :: xs).length from Nat.succ_pos _)
    omega
theorem rot_perm {α : Type} (m : Nat) (xs : List α) : (rot m xs).Perm xs := by
  unfold rot
  exact List.perm_append_comm.trans (by rw [List.take_append_drop])
theorem rot_map {α β : Type} (f : α → β) (m : Nat) (xs : List α) : rot m (xs.map f) = (rot m xs).map f := by
  unfold rot
  rw [List.length_map, List.map_append, List.map_drop, List.map_take]
theorem rot_zero {α : Type} (xs : List α) : rot 0 xs = xs := by
  unfold rot
  simp
theorem rot_one {α : Type} (xs : List α) : rot 1 xs = xs.drop 1 ++ xs.take 1 := by
  unfold rot
  match xs with
  | [] => simp
  | [x] => simp
  | x :: y :: r =>
    have : 1 % (x :: y :: r).length = 1 := Nat.mod_eq_of_lt (by simp)
    rw [this]
theorem rot_succ {α : Type} (m : Nat) (xs : List α) : rot (m + 1) xs = rot 1 (rot m xs) := by
  match xs with
  | [] => simp [rot]
  | [x] =>
    unfold rot
    simp [Nat.mod_one]
  | x :: y :: r =>
    obtain ⟨n, hn⟩ : ∃ n, n = (x :: y :: r).length := ⟨_, rfl⟩
    have h2 : 2 ≤ n := by rw [hn]; simp
    have hm := Nat.mod_lt m (show 0 < n by omega)
    rw [rot_one]
    unfold rot
    rw [← hn]
    obtain ⟨k, hk⟩ : ∃ k, k = m % n := ⟨_, rfl⟩
    rw [← hk] at hm ⊢
    have hlt : k < (x :: y :: r).length := by omega
    have ed : (x :: y :: r).drop k = (x :: y :: r)[k] :: (x :: y :: r).drop (k + 1) := List.drop_eq_getElem_cons hlt
    have et : (x :: y :: r).take (k + 1) = (x :: y :: r).take k ++ [(x :: y :: r)[k]] := (List.take_append_getElem hlt).symm
    by_cases hl : k + 1 = n
    · have e1 : (m + 1) % n = 0 := by
        rw [Nat.add_mod, ← hk, Nat.mod_eq_of_lt (show 1 < n by omega), hl, Nat.mod_self]
      rw [e1, ed, List.drop_of_length_le (show (x :: y :: r).length ≤ k + 1 by omega)]
      simp only [List.drop_zero, List.take_zero, List.append_nil, List.singleton_append, List.drop_succ_cons, List.take_succ_cons]
      rw [← et, List.take_of_length_le (by omega)]
    · have e1 : (m + 1) % n = k + 1 := by
        rw [Nat.add_mod, ← hk, Nat.mod_eq_of_lt (show 1 < n by omega), Nat.mod_eq_of_lt (by omega)]
      rw [e1, ed]
      simp only [List.cons_append, List.drop_succ_cons, List.drop_zero, List.take_succ_cons, List.take_zero]
      rw [show x :: List.take k (y :: r) = (x :: y :: r).take (k + 1) from rfl, et, List.append_assoc]
/-- dealt: the first one down, t put under ahead of the next -/
def dealN {α : Type} (t : Nat) : Nat → List α → List α
  | 0, _ => []
  | _ + 1, [] => []
  | n + 1, x :: r => x :: dealN t n (rot t r)
def dealP {α : Type} (t : Nat) (xs : List α) : List α := dealN t xs.length xs
theorem dealN_map {α β : Type} (f : α → β) (t : Nat) : ∀ (n : Nat) (xs : List α), dealN t n (xs.map f) = (dealN t n xs).map f
  | 0, _ => rfl
  | _ + 1, [] => rfl
  | n + 1, x :: r => by
    show f x :: dealN t n (rot t (r.map f)) = f x :: (dealN t n (rot t r)).map f
    rw [rot_map, dealN_map f t n]
theorem dealP_map {α β : Type} (f : α → β) (t : Nat) (xs : List α) : dealP t (xs.map f) = (dealP t xs).map f := by
  unfold dealP
  rw [List.length_map, dealN_map]
theorem dealN_perm {α : Type} (t : Nat) : ∀ (n : Nat) (xs : List α), xs.length = n → (dealN t n xs).Perm xs
  | 0, [], _ => .refl _
  | n + 1, x :: r, h => ((dealN_perm t n (rot t r) (by rw [rot_len]; exact Nat.succ.inj h)).trans (rot_perm t r)).cons x
  | 0, _ :: _, h => by cases h
  | _ + 1, [], h => by cases h
theorem dealP_perm {α : Type} (t : Nat) (xs : List α) : (dealP t xs).Perm xs := dealN_perm t _ xs rfl
theorem dealP_len {α : Type} (t : Nat) (xs : List α) : (dealP t xs).length = xs.length := (dealP_perm t xs).length_eq
theorem dealP_zero {α : Type} (xs : List α) : dealP 0 xs = xs := by
  have : ∀ (n : Nat) (xs : List α), xs.length = n → dealN 0 n xs = xs := fun n => by
    induction n with
    | zero => intro xs h; cases xs with
      | nil => rfl
      | cons _ _ => cases h
    | succ n ih => intro xs h; cases xs with
      | nil => rfl
      | cons x r =>
        show x :: dealN 0 n (rot 0 r) = _
        rw [rot_zero, ih r (Nat.succ.inj h)]
  exact this _ xs rfl
theorem dealP_cons {α : Type} (t : Nat) (x : α) (r : List α) : dealP t (x :: r) = x :: dealP t (rot t r) := by
  show x :: dealN t r.length (rot t r) = _
  unfold dealP
  rw [rot_len]
theorem last_cell {S : Sto} {c : Cell} : (S ++ [c])[S.length]? = some c := last_at S c
theorem add_l (S : Sto) (a b : List PyData) : binV S .add (PV.lst a) (PV.lst b) = if a.length + b.length ≤ sizeLine then some (PV.lst (a ++ b)) else none := (rfl)
theorem add_lI (S : Sto) (a b : List Int) : binV S .add (PV.lst (dIs a)) (PV.lst (dIs b)) = if a.length + b.length ≤ sizeLine then some (PV.lst (dIs (a ++ b))) else none := by
  rw [add_l, dIs_len, dIs_len, dIs_app]
theorem add_tI (S : Sto) (a b : List Int) : binV S .add (PV.tup (dIs a)) (PV.tup (dIs b)) = if a.length + b.length ≤ sizeLine then some (PV.tup (dIs (a ++ b))) else none := by
  rw [add_t, dIs_len, dIs_len, dIs_app]
/-! ### a list that is made and handed back -/
theorem finO_cell (S T : Sto) (xs : List PyData) : finO false S (.rt (.r S.length) (S ++ .lst (xs.map PV.d) :: T)) = .ok (PV.lst xs) S := by
  show Res.ofOpt (frz S.length (S ++ .lst (xs.map PV.d) :: T) (.r S.length)) ((S ++ .lst (xs.map PV.d) :: T).take S.length) = _
  have e : frz S.length (S ++ .lst (xs.map PV.d) :: T) (.r S.length) = some (PV.lst xs) := by
    show (if S.length < S.length then some (PV.r S.length) else match (S ++ Cell.lst (xs.map PV.d) :: T)[S.length]? with
      | some (.lst xs) => (allD xs).map .lst
      | _ => none) = _
    rw [if_neg (Nat.lt_irrefl _), List.getElem?_append_right (Nat.le_refl _), Nat.sub_self]
    show (allD (xs.map PV.d)).map PV.lst = _
    rw [allD_map]
    rfl
  rw [e, List.take_left]
  rfl
theorem finO_cell1 (S : Sto) (xs : List PyData) : finO false S (.rt (.r S.length) (S ++ [.lst (xs.map PV.d)])) = .ok (PV.lst xs) S := finO_cell S [] xs
theorem bi_list_of {S : Sto} {v : PV} {xs : List PyData} (h : seqD S v = some xs) : biV S .list [v] = some (PV.lst xs) := by
  show (seqD S v).map PV.lst = _
  rw [h]
  rfl
theorem bi_tup_of {S : Sto} {v : PV} {xs : List PyData} (h : seqD S v = some xs) : biV S .tuple [v] = some (PV.tup xs) := by
  show (seqD S v).map PV.tup = _
  rw [h]
  rfl
theorem seqD_t (S : Sto) (xs : List PyData) : seqD S (PV.tup xs) = some xs := rfl
theorem seqD_l (S : Sto) (xs : List PyData) : seqD S (PV.lst xs) = some xs := rfl
theorem newF_nil (S : Sto) : newF [] S = .ok (.r S.length) (S ++ [.lst []]) := newF_d S []
/-- what stands in the last cell grows -/
theorem app_last (S : Sto) (xs : List PyData) (v : PyData) (h : xs.length < sizeLine) : muV (S ++ [.lst (xs.map PV.d)]) .append (.r S.length) [PV.d v] = .ok .none (S ++ [.lst ((xs ++ [v]).map PV.d)]) := by
  rw [last_app S (xs.map PV.d) v (by rw [List.length_map]; exact h), List.map_append]
  rfl
theorem ix_zero (n : Nat) : ixAt (n + 1) 0 = some 0 := by
  unfold ixAt
  rw [if_pos (by omega), if_pos (by omega)]
  rfl
theorem idx_hl (S : Sto) (x : PyData) (xs : List PyData) : idxV S (PV.lst (x :: xs)) (PV.int 0) = some (.d x) := by
  rw [idx_l, List.length_cons, ix_zero]
  rfl
theorem idx_ht (S : Sto) (x : PyData) (xs : List PyData) : idxV S (PV.tup (x :: xs)) (PV.int 0) = some (.d x) := by
  rw [idx_t, List.length_cons, ix_zero]
  rfl
theorem idx_hlI (S : Sto) (x : Int) (xs : List Int) : idxV S (PV.lst (dIs (x :: xs))) (PV.int 0) = some (PV.int x) := idx_hl S _ _
theorem idx_htI (S : Sto) (x : Int) (xs : List Int) : idxV S (PV.tup (dIs (x :: xs))) (PV.int 0) = some (PV.int x) := idx_ht S _ _
theorem cut_tl (x : Int) (r : List Int) : cutD (dIs (x :: r)) (some 1) none = dIs r := by
  rw [dIs_cut]
  have := cut_from (x :: r) 1
  rw [show ((1 : Nat) : Int) = 1 from rfl] at this
  rw [this]
  rfl
/-! ### the first ints -/
def iota (n : Nat) : List Int := (List.range n).map fun i : Nat => (i : Int)
theorem iota_len (n : Nat) : (iota n).length = n := by unfold iota; rw [List.length_map, List.length_range]
theorem mem_iota {n : Nat} {p : Int} : p ∈ iota n ↔ 0 ≤ p ∧ p < n := by
  unfold iota
  rw [List.mem_map]
  constructor
  · rintro ⟨i, hi, rfl⟩
    have := List.mem_range.mp hi
    omega
  · intro h
    exact ⟨p.toNat, List.mem_range.mpr (by omega), by omega⟩
theorem rgL_iota (n : Nat) : rgL 0 n 1 = (dIs (iota n)).map PV.d := by
  unfold rgL iota dIs
  rw [List.map_map, List.map_map]
  refine List.map_congr_left fun k _ => ?_
  show PV.int (0 + (k : Int) * 1) = _
  rw [Int.mul_one, Int.zero_add]
  rfl
theorem rg1_iota (n : Nat) (h : n ≤ 1000000) : rg1 0 (n : Int) = some ((dIs (iota n)).map PV.d) := by
  have hk : rgOk 0 (n : Int) = true := by
    unfold rgOk
    simp only [Bool.and_eq_true, decide_eq_true_eq]
    refine ⟨by decide, by decide, ?_, ?_, ?_⟩ <;> omega
  unfold rg1
  rw [if_pos hk, ← rgL_iota]
  simp
theorem rnglF_iota (n : Nat) (h : n ≤ 1000000) (S : Sto) : (rnglV (.ok (.vals ((dIs (iota n)).map PV.d)) S)).bind (rngF false) = .ok (PV.lst (dIs (iota n))) S := by
  unfold rnglV
  rw [Res.bind_ok]
  show Res.bind (if ((dIs (iota n)).map PV.d).length ≤ sizeLine then Res.ok ((dIs (iota n)).map PV.d) S else .bad) (rngF false) = _
  rw [if_pos (by rw [List.length_map, dIs_len, iota_len, PySem.sizeLine_eq]; omega), Res.bind_ok]
  unfold rngF
  rw [allD_map]
  rfl
theorem rnglT_iota (n : Nat) (h : n ≤ 1000000) (S : Sto) : (rnglV (.ok (.vals ((dIs (iota n)).map PV.d)) S)).bind (rngF true) = .ok (PV.tup (dIs (iota n))) S := by
  unfold rnglV
  rw [Res.bind_ok]
  show Res.bind (if ((dIs (iota n)).map PV.d).length ≤ sizeLine then Res.ok ((dIs (iota n)).map PV.d) S else .bad) (rngF true) = _
  rw [if_pos (by rw [List.length_map, dIs_len, iota_len, PySem.sizeLine_eq]; omega), Res.bind_ok]
  unfold rngF
  rw [allD_map]
  rfl
theorem iota_get (d : List Int) : d = (iota d.length).map fun p => d.getD p.toNat 0 := by
  apply List.ext_getElem
  · rw [List.length_map, iota_len]
  · intro j h1 h2
    unfold iota
    simp
    rw [List.getElem?_eq_getElem h1]
    rfl
/-- one put after another at its place -/
def putsI (c : List PyData) (prs : List (Int × Int)) : List PyData := prs.foldl (fun c p => c.set p.1.toNat (.int p.2)) c
theorem putsI_len : ∀ (prs : List (Int × Int)) (c : List PyData), (putsI c prs).length = c.length
  | [], _ => rfl
  | p :: prs, c => by
    show (putsI (c.set p.1.toNat (.int p.2)) prs).length = _
    rw [putsI_len prs, List.length_set]
theorem putsI_get (f : Int → Int) : ∀ (ps : List Int) (c : List PyData) (j : Nat), j < c.length → (∀ p ∈ ps, 0 ≤ p) → (putsI c (ps.map fun p => (p, f p)))[j]? = if (j : Int) ∈ ps then some (.int (f j)) else c[j]?
  | [], c, j, _, _ => by simp [putsI]
  | p :: ps, c, j, hj, hp => by
    show (putsI (c.set p.toNat (.int (f p))) (ps.map fun p => (p, f p)))[j]? = _
    rw [putsI_get f ps _ j (by rw [List.length_set]; exact hj) fun q hq => hp q (List.mem_cons_of_mem _ hq)]
    have h0 := hp p List.mem_cons_self
    by_cases h1 : (j : Int) ∈ ps
    · rw [if_pos h1, if_pos (List.mem_cons_of_mem _ h1)]
    · rw [if_neg h1]
      by_cases h2 : (j : Int) = p
      · subst h2
        rw [if_pos List.mem_cons_self]
        simp [hj]
      · rw [if_neg (fun z => (List.mem_cons.mp z).elim h2 h1), List.getElem?_set_ne (by omega)]
/-- all places are put -/
theorem putsI_all (d : List Int) (ps : List Int) (hp : ps.Perm (iota d.length)) (c : List PyData) (hc : c.length = d.length) : putsI c (ps.map fun p => (p, d.getD p.toNat 0)) = dIs d := by
  apply List.ext_getElem?
  intro j
  by_cases hj : j < d.length
  · rw [putsI_get (fun p => d.getD p.toNat 0) ps c j (by omega) fun p h => (mem_iota.mp (hp.mem_iff.mp h)).1, if_pos (hp.mem_iff.mpr (mem_iota.mpr ⟨by omega, by omega⟩)), dIs_get]
    simp [List.getElem?_eq_getElem hj]
  · rw [List.getElem?_eq_none (by rw [putsI_len]; omega), List.getElem?_eq_none (by rw [dIs_len]; omega)]
theorem zip_map_self {α β : Type} (f : α → β) : ∀ l : List α, l.zip (l.map f) = l.map fun x => (x, f x)
  | [] => rfl
  | x :: l => by
    show (x, f x) :: l.zip (l.map f) = _
    rw [zip_map_self f l]
    rfl
/-- every order comes of a deck -/
theorem rot_onto1 {α : Type} (zs : List α) : ∃ us, rot 1 us = zs := by
  refine ⟨rot (zs.length - 1) zs, ?_⟩
  rw [← rot_succ]
  cases zs with
  | nil => simp [rot]
  | cons z zs =>
    have : (z :: zs).length - 1 + 1 = (z :: zs).length := by simp
    rw [this]
    unfold rot
    simp
theorem rot_onto {α : Type} : ∀ (t : Nat) (zs : List α), ∃ us, rot t us = zs
  | 0, zs => ⟨zs, rot_zero zs⟩
  | t + 1, zs => by
    obtain ⟨us, h1⟩ := rot_onto1 zs
    obtain ⟨vs, h2⟩ := rot_onto t us
    exact ⟨vs, by rw [rot_succ, h2, h1]⟩
theorem dealP_onto {α : Type} (t : Nat) : ∀ (n : Nat) (ys : List α), ys.length = n → ∃ xs, xs.length = n ∧ dealP t xs = ys
  | 0, [], _ => ⟨[], rfl, rfl⟩
  | n + 1, y :: ys, h => by
    obtain ⟨us, hu, e⟩ := dealP_onto t n ys (Nat.succ.inj h)
    obtain ⟨xs, hx⟩ := rot_onto t us
    refine ⟨y :: xs, ?_, ?_⟩
    · rw [List.length_cons, ← hu, ← hx, rot_len]
    · rw [dealP_cons, hx, e]
  | 0, _ :: _, h => by cases h
  | _ + 1, [], h => by cases h
theorem idx_last {S : Sto} {ys : List PyData} {z : PyData} (h : ys.getLast? = some z) : idxV S (PV.lst ys) (PV.int (-1)) = some (.d z) ∧ idxV S (PV.tup ys) (PV.int (-1)) = some (.d z) := by
  have hl : 0 < ys.length := by
    cases ys with
    | nil => cases h
    | cons _ _ => exact Nat.succ_pos _
  have e : ixAt ys.length (-1) = some (ys.length - 1) := by
    unfold ixAt
    rw [if_neg (by omega), if_pos (by omega)]
    congr 1
    omega
  rw [List.getLast?_eq_getElem?] at h
  rw [idx_l, idx_t, e, Option.bind_some, h]
  exact ⟨rfl, rfl⟩
theorem repD_one (x : PyData) (n : Nat) : repD [x] (n : Int) = List.replicate n x := by
  unfold repD
  rw [Int.toNat_natCast]
  induction n with
  | zero => rfl
  | succ k ih => rw [List.replicate_succ, List.flatten_cons, ih]; rfl
theorem mulLV_one (x : PyData) (n : Nat) (h : n ≤ 1000000) : mulLV .mul (PV.lst [x]) (PV.int (n : Int)) = some ((List.replicate n x).map PV.d) := by
  simp only [mulLV]
  rw [if_pos, repD_one]
  refine ⟨by omega, ?_, by omega⟩
  rw [PySem.sizeLine_eq, Int.toNat_natCast, List.length_singleton]
  omega
theorem bindT_nm (i : Nat) (v : PV) (e : Env') : bindT (.nm i) v e = some (e.set i (some v)) := (rfl)
theorem bindT_tup (is : List Nat) (xs : List PyData) (e : Env') : bindT (.tup is) (PV.tup xs) e = setAll is xs e := (rfl)
theorem zip_lt (xs ys : List PyData) : zipV (PV.lst xs) (PV.tup ys) = some (.vals (zipD xs ys)) := (rfl)
theorem mulOk_fmod {A P : Int} (h : 0 < P) (h2 : P < 9223372036854775808) (y : Int) : mulOk (A.fmod P) y = true := by
  have := mod_pos A P h
  exact mulOk_l (by omega) y
theorem mulOk_lit {y : Int} (h1 : 0 < y) (h2 : y < 9223372036854775808) (x : Int) : mulOk x y = true := mulOk_r (by omega) x
theorem mulOk_litl {x : Int} (h1 : 0 < x) (h2 : x < 9223372036854775808) (y : Int) : mulOk x y = true := mulOk_l (by omega) y
theorem pow18 (S : Sto) : binV S .pow (PV.int 10) (PV.int 18) = some (PV.int 1000000000000000000) := by
  simp only [binV]
  rfl
end Mn

end

section
set_option Elab.async false
set_option linter.all false
set_option maxRecDepth 100000
set_option maxHeartbeats 1000000
/-! MnPure3: repr of plain data. -/
namespace Mn
open PySem (PyData Str sizeLine)
theorem Out.bind_bind (o : Out) (f g : Env' → Sto → Out) : (o.bind f).bind g = o.bind fun e S => (f e S).bind g := by cases o <;> rfl
theorem bnx {o : Out} {e : Env'} {S : Sto} {k : Env' → Sto → Out} {r : Out} (h : o = .nx e S) (h2 : k e S = r) : o.bind k = r := by rw [h]; exact h2
theorem bnx2 {o : Out} {e : Env'} {S : Sto} {f k : Env' → Sto → Out} {r : Out} (h : o.bind f = .nx e S) (h2 : k e S = r) : (o.bind fun e S => (f e S).bind k) = r := by rw [← Out.bind_bind, h]; exact h2
mutual
/-- data that repr shows shortly -/
def smD : PyData → Bool
  | .int i => decide (i.natAbs < 10 ^ 200)
  | .str x => PyData.strOk x && x.cps.toList.all fun c => decide (c < 16 ^ 8)
  | .list xs => smDs xs
  | .tuple xs => smDs xs
  | .dict _ => false
  | _ => true
def smDs : List PyData → Bool
  | [] => true
  | x :: xs => smD x && smDs xs
end
theorem int_short {i : Int} (h : i.natAbs < 10 ^ 200) : ((PyData.int i).shown).length ≤ 301 := by
  rw [PyData.shown_int]
  have := PySem.int_text_length_le10 (a := i) (k := 200) (by omega) h
  show (PySem.Str.ofString (toString i)).length ≤ 301
  rw [PySem.ofString_length]
  omega
theorem int_log {i : Int} (h : i.natAbs < 10 ^ 200) : i.natAbs.log2 < 1920 := by
  rcases Nat.eq_zero_or_pos i.natAbs with e | e
  · rw [e]; decide
  · rw [Nat.log2_lt (by omega)]
    exact Nat.lt_trans h (by decide)
mutual
theorem smD_all : ∀ {x : PyData}, smD x = true → x.canLay0 = true ∧ x.showable = true ∧ x.leavesShort 301 = true
  | .none, _ => ⟨rfl, rfl, rfl⟩
  | .bool _, _ => ⟨rfl, rfl, rfl⟩
  | .int i, h => by
    have h1 : i.natAbs < 10 ^ 200 := of_decide_eq_true h
    exact ⟨rfl, decide_eq_true (int_log h1), decide_eq_true (int_short h1)⟩
  | .str s, h => by
    have h2 := Bool.and_eq_true_iff.mp (show (PyData.strOk s && s.cps.toList.all fun c => decide (c < 16 ^ 8)) = true from h)
    exact ⟨h2.1, rfl, h2.2⟩
  | .list xs, h => smDs_all (show smDs xs = true from h)
  | .tuple xs, h => smDs_all (show smDs xs = true from h)
  | .dict _, h => nomatch h
theorem smDs_all : ∀ {xs : List PyData}, smDs xs = true → PyData.canLayAll0 xs = true ∧ PyData.showableAll xs = true ∧ PyData.leavesShortAll 301 xs = true
  | [], _ => ⟨rfl, rfl, rfl⟩
  | x :: xs, h => by
    have h2 := Bool.and_eq_true_iff.mp (show (smD x && smDs xs) = true from h)
    have a := smD_all h2.1
    have b := smDs_all h2.2
    refine ⟨?_, ?_, ?_⟩
    · show (x.canLay0 && PyData.canLayAll0 xs) = true
      rw [a.1, b.1]; rfl
    · show (x.showable && PyData.showableAll xs) = true
      rw [a.2.1, b.2.1]; rfl
    · show (x.leavesShort 301 && PyData.leavesShortAll 301 xs) = true
      rw [a.2.2, b.2.2]; rfl
end
theorem reprOk_of {x : PyData} (h : smD x = true) (hd : x.depth ≤ 63) (hb : x.bulk ≤ 40000) : reprOk x = true := by
  have a := smD_all h
  have s := PyData.shown_le_bulk 301 (by omega) x a.2.2
  unfold reprOk
  rw [a.1, a.2.1, decide_eq_true hd, decide_eq_true (by omega)]
  rfl
theorem bi_repr {S : Sto} {x : PyData} (h : reprOk x = true) : biV S .repr [.d x] = some (.str x.shown) := by
  have e : biV S .repr [.d x] = (cur S (.d x)).bind fun d => if reprOk d then some (.str d.shown) else none := by cases x <;> rfl
  rw [e]
  show (if reprOk x then some (PV.str x.shown) else none) = _
  rw [if_pos h]
theorem smDs_dIs : ∀ {xs : List Int}, (∀ x ∈ xs, x.natAbs < 1000000000000) → smDs (dIs xs) = true
  | [], _ => rfl
  | x :: xs, h => by
    show (smD (.int x) && smDs (dIs xs)) = true
    rw [smDs_dIs fun y hy => h y (List.mem_cons_of_mem _ hy), Bool.and_true]
    exact decide_eq_true (Nat.lt_trans (h x List.mem_cons_self) (by decide))
theorem bulk_dIs : ∀ xs : List Int, PyData.bulkAll (dIs xs) = xs.length
  | [] => rfl
  | x :: xs => by
    show 0 + 1 + PyData.bulkAll (dIs xs) = xs.length + 1
    rw [bulk_dIs xs]
    omega
theorem repr_tI {xs : List Int} (h : ∀ x ∈ xs, x.natAbs < 1000000000000) (hl : xs.length ≤ 40000) : reprOk (.tuple (dIs xs)) = true :=
  reprOk_of (show smDs _ = true from smDs_dIs h) (by rw [depth_tup]; have := depth_dIs xs; omega) (by show PyData.bulkAll _ ≤ _; rw [bulk_dIs]; exact hl)
theorem repr_lI {xs : List Int} (h : ∀ x ∈ xs, x.natAbs < 1000000000000) (hl : xs.length ≤ 40000) : reprOk (.list (dIs xs)) = true :=
  reprOk_of (show smDs _ = true from smDs_dIs h) (by rw [depth_lst]; have := depth_dIs xs; omega) (by show PyData.bulkAll _ ≤ _; rw [bulk_dIs]; exact hl)
theorem repr_i {i : Int} (h : i.natAbs < 1000000000000) : reprOk (.int i) = true :=
  reprOk_of (decide_eq_true (Nat.lt_trans h (by decide))) (by show 0 ≤ 63; omega) (by show 0 ≤ 40000; omega)
/-! ### two lists filled behind all -/
theorem ix_in {k : Nat} {v : Int} (h0 : 0 ≤ v) (h1 : v < k) : ixAt k v = some v.toNat := by
  unfold ixAt
  rw [if_pos h0, if_pos h1]
theorem era_map {α β : Type} (f : α → β) : ∀ (xs : List α) (j : Nat), (xs.map f).eraseIdx j = (xs.eraseIdx j).map f
  | [], _ => rfl
  | _ :: _, 0 => rfl
  | x :: xs, j + 1 => by
    show f x :: (xs.map f).eraseIdx j = f x :: (xs.eraseIdx j).map f
    rw [era_map f xs j]
theorem era_perm {α : Type} : ∀ (xs : List α) (j : Nat) (h : j < xs.length), (xs[j] :: xs.eraseIdx j).Perm xs
  | [], _, h => by cases h
  | _ :: _, 0, _ => .refl _
  | x :: xs, j + 1, h => (List.Perm.swap _ _ _).trans ((era_perm xs j (Nat.lt_of_succ_lt_succ h)).cons x)
/-- two lists that are being filled, behind all -/
def two (T : Sto) (a b : List PyData) : Sto := T ++ [.lst (a.map PV.d), .lst (b.map PV.d)]
section
variable (T : Sto) (a b : List PyData)
theorem two_0 : (two T a b)[T.length]? = some (.lst (a.map PV.d)) := by
  unfold two
  rw [List.getElem?_append_right (Nat.le_refl _), Nat.sub_self]
  rfl
theorem two_1 : (two T a b)[T.length + 1]? = some (.lst (b.map PV.d)) := by
  unfold two
  rw [List.getElem?_append_right (Nat.le_succ _), show T.length.succ - T.length = 1 by omega]
  rfl
theorem two_s0 (c : List PyData) : (two T a b).set T.length (.lst (c.map PV.d)) = two T c b := by
  unfold two
  rw [List.set_append_right _ _ (Nat.le_refl _), Nat.sub_self]
  rfl
theorem two_s1 (c : List PyData) : (two T a b).set (T.length + 1) (.lst (c.map PV.d)) = two T a c := by
  unfold two
  rw [List.set_append_right _ _ (Nat.le_succ _), show T.length.succ - T.length = 1 by omega]
  rfl
theorem two_len0 : biV (two T a b) .len [.r T.length] = some (PV.int (a.length : Nat)) := by
  show (match (two T a b)[T.length]? with
    | some (.lst xs) => some xs.length
    | some (.dct kvs) => some kvs.length
    | none => none : Option Nat).map (fun n : Nat => PV.int (n : Int)) = _
  rw [two_0]
  show some (PV.int ((a.map PV.d).length : Nat)) = _
  rw [List.length_map]
theorem two_is0 : isL (two T a b) (.r T.length) = true := by
  show (isTy .list (two T a b) (.r T.length) == some true) = true
  show ((match (two T a b)[T.length]? with
    | some (.lst _) => some (Ty.list == .list)
    | some (.dct _) => some (Ty.list == .dict)
    | none => none) == some true) = true
  rw [two_0]
  rfl
theorem two_is1 : isL (two T a b) (.r (T.length + 1)) = true := by
  show ((match (two T a b)[T.length + 1]? with
    | some (.lst _) => some (Ty.list == .list)
    | some (.dct _) => some (Ty.list == .dict)
    | none => none) == some true) = true
  rw [two_1]
  rfl
theorem two_pop (v : Int) (x : PyData) (h0 : 0 ≤ v) (hx : a[v.toNat]? = some x) : muV (two T a b) .pop1 (.r T.length) [PV.int v] = .ok (.d x) (two T (a.eraseIdx v.toNat) b) := by
  have hl := (List.getElem?_eq_some_iff.mp hx).1
  show (match (two T a b)[T.length]? with
    | some (.lst xs) => match ixAt xs.length v with
      | some j => match xs[j]? with
        | some w => Res.ok w ((two T a b).set T.length (.lst (xs.eraseIdx j)))
        | none => .bad
      | none => .bad
    | _ => .bad) = _
  rw [two_0]
  show (match ixAt (a.map PV.d).length v with
      | some j => match (a.map PV.d)[j]? with
        | some w => Res.ok w ((two T a b).set T.length (.lst ((a.map PV.d).eraseIdx j)))
        | none => .bad
      | none => .bad) = _
  rw [List.length_map, ix_in h0 (by omega)]
  show (match (a.map PV.d)[v.toNat]? with
        | some w => Res.ok w ((two T a b).set T.length (.lst ((a.map PV.d).eraseIdx v.toNat)))
        | none => .bad) = _
  rw [List.getElem?_map, hx, era_map, two_s0]
  rfl
theorem two_app (x : PyData) (h : b.length < sizeLine) : muV (two T a b) .append (.r (T.length + 1)) [PV.d x] = .ok .none (two T a (b ++ [x])) := by
  show (match (two T a b)[T.length + 1]? with
    | some (.lst xs) => if below (T.length + 1) (.d x) && decide (xs.length < sizeLine) then Res.ok PV.none ((two T a b).set (T.length + 1) (.lst (xs ++ [PV.d x]))) else .bad
    | _ => .bad) = _
  rw [two_1]
  show (if below (T.length + 1) (.d x) && decide ((b.map PV.d).length < sizeLine) then Res.ok PV.none ((two T a b).set (T.length + 1) (.lst (b.map PV.d ++ [PV.d x]))) else .bad) = _
  rw [List.length_map, if_pos (by rw [decide_eq_true h]; rfl)]
  have := two_s1 T a b (b ++ [x])
  rw [List.map_append] at this
  rw [← this]
  rfl
theorem two_fin : finO false T (.rt (.r (T.length + 1)) (two T a b)) = .ok (PV.lst b) T := by
  show Res.ofOpt (frz T.length (two T a b) (.r (T.length + 1))) ((two T a b).take T.length) = _
  have e : frz T.length (two T a b) (.r (T.length + 1)) = some (PV.lst b) := by
    show (if T.length + 1 < T.length then some (PV.r (T.length + 1)) else match (two T a b)[T.length + 1]? with
      | some (.lst xs) => (allD xs).map PV.lst
      | _ => none) = _
    rw [if_neg (by omega), two_1]
    show (allD (b.map PV.d)).map PV.lst = _
    rw [allD_map]
    rfl
  rw [e]
  unfold two
  rw [List.take_left]
  rfl
theorem two_tup : biV (two T a b) .tuple [.r (T.length + 1)] = some (PV.tup b) := by
  apply bi_tup_of
  show lstD (two T a b) (.r (T.length + 1)) = some b
  show (match (two T a b)[T.length + 1]? with
    | some (.lst xs) => allD xs
    | _ => none) = some b
  rw [two_1]
  exact allD_map b
end
theorem two_new (T : Sto) (a : List PyData) : newF [] (T ++ [.lst (a.map PV.d)]) = .ok (.r (T.length + 1)) (two T a []) := by
  have e := newF_nil (T ++ [.lst (a.map PV.d)])
  rw [List.length_append, List.append_assoc] at e
  exact e
theorem two_hd (h : Hd) (R : Sto) (a b : List PyData) : two (h.st R) a b = h.st (two R a b) := rfl
theorem len_hd (h : Hd) (R : Sto) : (h.st R).length = R.length + 2 := rfl
/-! ### ints from a on -/
def iotaA (a : Int) (n : Nat) : List Int := (List.range n).map fun i : Nat => a + (i : Int)
theorem iotaA_len (a : Int) (n : Nat) : (iotaA a n).length = n := by unfold iotaA; rw [List.length_map, List.length_range]
theorem mem_iotaA {a : Int} {n : Nat} {p : Int} : p ∈ iotaA a n ↔ a ≤ p ∧ p < a + n := by
  unfold iotaA
  rw [List.mem_map]
  constructor
  · rintro ⟨i, hi, rfl⟩
    have := List.mem_range.mp hi
    omega
  · intro h
    exact ⟨(p - a).toNat, List.mem_range.mpr (by omega), by omega⟩
theorem iotaA_nodup (a : Int) (n : Nat) : (iotaA a n).Nodup := List.pairwise_map.mpr (List.Pairwise.imp (fun {x y} hne e => hne (by omega)) List.nodup_range)
theorem rg1_iotaA (a : Int) (n : Nat) (h0 : -1000000 ≤ a) (h1 : a ≤ 1000000) (hn : n ≤ 1000000) (b : Int) (hb : b = a + n) : rg1 a b = some ((dIs (iotaA a n)).map PV.d) := by
  have hk : rgOk a b = true := by
    unfold rgOk
    simp only [Bool.and_eq_true, decide_eq_true_eq]
    refine ⟨?_, ?_, ?_, ?_, ?_⟩ <;> omega
  unfold rg1
  rw [if_pos hk, show (b - a).toNat = n by omega]
  refine congrArg some ?_
  unfold rgL dIs iotaA
  rw [List.map_map, List.map_map]
  refine List.map_congr_left fun k _ => ?_
  show PV.int (a + (k : Int) * 1) = _
  rw [Int.mul_one]
  rfl
theorem rngl_vals (xs : List Int) (h : xs.length ≤ 1000000) (S : Sto) : rnglV (Res.ok (Src.vals ((dIs xs).map PV.d)) S) = .ok ((dIs xs).map PV.d) S := by
  unfold rnglV
  rw [Res.bind_ok]
  show (if ((dIs xs).map PV.d).length ≤ sizeLine then Res.ok ((dIs xs).map PV.d) S else .bad) = _
  rw [if_pos (by rw [List.length_map, dIs_len, PySem.sizeLine_eq]; omega)]
/-! ### cells, by what stands in them -/
section
variable {S : Sto} {c : Nat} {ds : List PyData}
theorem c_isL {xs : List PV} (h : S[c]? = some (.lst xs)) : isL S (.r c) = true := by
  show ((match S[c]? with
    | some (.lst _) => some (Ty.list == .list)
    | some (.dct _) => some (Ty.list == .dict)
    | none => none) == some true) = true
  rw [h]
  rfl
theorem c_len {xs : List PV} (h : S[c]? = some (.lst xs)) : biV S .len [.r c] = some (PV.int (xs.length : Nat)) := by
  show (match S[c]? with
    | some (.lst xs) => some xs.length
    | some (.dct kvs) => some kvs.length
    | none => none : Option Nat).map (fun n : Nat => PV.int (n : Int)) = _
  rw [h]
  rfl
theorem c_lenD (h : S[c]? = some (.lst (ds.map PV.d))) : biV S .len [.r c] = some (PV.int (ds.length : Nat)) := by
  rw [c_len h, List.length_map]
theorem c_lst (h : S[c]? = some (.lst (ds.map PV.d))) : lstD S (.r c) = some ds := by
  show (match S[c]? with
    | some (.lst xs) => allD xs
    | _ => none) = some ds
  rw [h]
  exact allD_map ds
theorem c_seq (h : S[c]? = some (.lst (ds.map PV.d))) : seqD S (.r c) = some ds := c_lst h
theorem c_app {xs : List PV} {x : PyData} (h : S[c]? = some (.lst xs)) (hl : xs.length < sizeLine) : muV S .append (.r c) [PV.d x] = .ok .none (S.set c (.lst (xs ++ [PV.d x]))) := by
  show (match S[c]? with
    | some (.lst xs) => if below c (.d x) && decide (xs.length < sizeLine) then Res.ok PV.none (S.set c (.lst (xs ++ [PV.d x]))) else .bad
    | _ => .bad) = _
  rw [h]
  show (if below c (.d x) && decide (xs.length < sizeLine) then Res.ok PV.none (S.set c (.lst (xs ++ [PV.d x]))) else .bad) = _
  rw [if_pos (by rw [decide_eq_true hl]; rfl)]
theorem c_appD {x : PyData} (h : S[c]? = some (.lst (ds.map PV.d))) (hl : ds.length < sizeLine) : muV S .append (.r c) [PV.d x] = .ok .none (S.set c (.lst ((ds ++ [x]).map PV.d))) := by
  rw [c_app h (by rw [List.length_map]; exact hl), List.map_append]
  rfl
theorem c_pop1 {xs : List PV} {i : Int} {j : Nat} {v : PV} (h : S[c]? = some (.lst xs)) (hi : ixAt xs.length i = some j) (hv : xs[j]? = some v) : muV S .pop1 (.r c) [PV.int i] = .ok v (S.set c (.lst (xs.eraseIdx j))) := by
  show (match S[c]? with
    | some (.lst xs) => match ixAt xs.length i with
      | some j => match xs[j]? with
        | some w => Res.ok w (S.set c (.lst (xs.eraseIdx j)))
        | none => .bad
      | none => .bad
    | _ => .bad) = _
  rw [h]
  show (match ixAt xs.length i with
      | some j => match xs[j]? with
        | some w => Res.ok w (S.set c (.lst (xs.eraseIdx j)))
        | none => .bad
      | none => .bad) = _
  rw [hi]
  show (match xs[j]? with
        | some w => Res.ok w (S.set c (.lst (xs.eraseIdx j)))
        | none => .bad) = _
  rw [hv]
theorem c_pop0 {x : PyData} {r : List PyData} (h : S[c]? = some (.lst ((x :: r).map PV.d))) : muV S .pop1 (.r c) [PV.int 0] = .ok (.d x) (S.set c (.lst (r.map PV.d))) := by
  rw [c_pop1 h (by rw [List.length_map, List.length_cons]; exact ix_zero _) rfl]
  rfl
theorem c_slc (h : S[c]? = some (.lst (ds.map PV.d))) (lo hi : Option Int) : slcV S (.r c) lo hi = some (PV.lst (cutD ds lo hi)) := by
  show (lstD S (.r c)).map (fun xs => PV.lst (cutD xs lo hi)) = _
  rw [c_lst h]
  rfl
theorem c_idx (h : S[c]? = some (.lst (ds.map PV.d))) (i : Int) : idxV S (.r c) (PV.int i) = (ixAt ds.length i).bind fun j => (ds[j]?).map PV.d := by
  show (match S[c]? with
    | some (.lst xs) => some xs
    | _ => none : Option (List PV)).bind (fun xs => (ixAt xs.length i).bind fun j => xs[j]?) = _
  rw [h]
  show (ixAt (ds.map PV.d).length i).bind (fun j => (ds.map PV.d)[j]?) = _
  rw [List.length_map]
  congr 1
  funext j
  rw [List.getElem?_map]
theorem set_ne {j : Nat} {x : Cell} (h : j ≠ c) : (S.set c x)[j]? = S[j]? := List.getElem?_set_ne (Ne.symm h)
theorem set_at {x y : Cell} (h : S[c]? = some y) : (S.set c x)[c]? = some x := by
  rw [List.getElem?_set_self (List.getElem?_eq_some_iff.mp h).1]
theorem app_old {j : Nat} {x : Cell} {T : Sto} (h : S[j]? = some x) : (S ++ T)[j]? = some x := by
  rw [List.getElem?_append_left (List.getElem?_eq_some_iff.mp h).1, h]
theorem take_set {n : Nat} {x : Cell} (h : n ≤ c) : (S.set c x).take n = S.take n := by
  rw [List.take_set_of_le h]
theorem take_app {n : Nat} {T : Sto} (h : n ≤ S.length) : (S ++ T).take n = S.take n := List.take_append_of_le_length h
end
theorem finO_take (S U : Sto) (x : PyData) (h : U.take S.length = S) : finO false S (.rt (.d x) U) = .ok (.d x) S := by
  show Res.ok (PV.d x) (U.take S.length) = _
  rw [h]
theorem while_t' {c : Env' → Sto → Res Bool} {b : Env' → Sto → Out} {n : Nat} {e e1 : Env'} {S S1 : Sto} {k : Bool} (h : c e S = .ok k S) (hb : b e S = .nx e1 S1) (hk : k = true := by simp) : whileL c b (n + 1) e S = whileL c b n e1 S1 := by
  subst hk
  exact while_t h hb
/-! ### a cell compared -/
theorem mapM_snap (n : Nat) (S : Sto) : ∀ xs : List PyData, (xs.map PV.d).mapM (snap n S) = some xs
  | [] => rfl
  | x :: xs => by
    rw [List.map_cons, List.mapM_cons, mapM_snap n S xs]
    cases n <;> rfl
theorem cur_cell {S : Sto} {j : Nat} {xs : List PyData} (h : S[j]? = some (.lst (xs.map PV.d))) : cur S (.r j) = some (.list xs) := by
  show (match S[j]? with
    | some (.lst xs) => (xs.mapM (snap 2 S)).map PyData.list
    | _ => none) = _
  rw [h]
  show ((xs.map PV.d).mapM (snap 2 S)).map PyData.list = _
  rw [mapM_snap]
  rfl
theorem eqV_cell {S : Sto} {j : Nat} {xs ys : List PyData} (h : S[j]? = some (.lst (xs.map PV.d))) (h1 : shp (.list xs) = true) (h2 : shp (.list ys) = true) : eqV S (.r j) (PV.lst ys) = some (PyData.eqvAll xs ys) := by
  show ((cur S (.r j)).bind fun a => (cur S (PV.lst ys)).bind fun b => if shp a && shp b then some (PyData.eqv a b) else none) = _
  rw [cur_cell h]
  show (if shp (.list xs) && shp (.list ys) then some (PyData.eqv (.list xs) (.list ys)) else none) = _
  rw [h1, h2]
  rfl
theorem last_eq {S : Sto} {n : Nat} (hn : n = S.length) {xs ys : List PyData} (h1 : shp (.list xs) = true) (h2 : shp (.list ys) = true) : cmpV (S ++ [.lst (xs.map PV.d)]) .eq (.r n) (PV.lst ys) = some (PyData.eqvAll xs ys) := by
  subst hn
  exact eqV_cell (last_at S _) h1 h2
theorem cmp_ne (S : Sto) (x y : PV) : cmpV S .ne x y = (eqV S x y).map (!·) := by
  unfold cmpV
  rfl
theorem cmp_eq (S : Sto) (x y : PV) : cmpV S .eq x y = eqV S x y := by
  unfold cmpV
  rfl
end Mn

end

section
set_option Elab.async false
set_option linter.all false
set_option maxRecDepth 100000
set_option maxHeartbeats 1000000
/-! MnMeth: methods, subscripts, stores. -/
namespace Mn
open PySem PySem.Spec PyProof.Rows L2
def rmM (K : PySem.W.Frag) (f : Sto → PV → List PV → Option PV) : V → List V → Hp → VK → Prop := fun x vs H Q => ∃ w S p ps z, RS K w H S ∧ RV K w H p x ∧ RVs K w H ps vs ∧ f S p ps = some z ∧ Ans K w H S z Q
theorem findD_some : ∀ {b : List PyData} {a : PyData} {n : Nat}, findD a b = some n → ∃ h : n < b.length, PyData.eqv b[n] a = true ∧ ∀ m (hm : m < b.length), m < n → PyData.eqv b[m] a = false
  | [], _, _, h => by cases h
  | y :: r, a, n, h => by
    unfold findD at h
    split at h
    · rename_i hy
      cases h
      exact ⟨Nat.succ_pos _, hy, fun m _ hm => absurd hm (Nat.not_lt_zero _)⟩
    · rename_i hy
      cases e : findD a r with
      | none => rw [e] at h; cases h
      | some k =>
        rw [e] at h
        cases h
        obtain ⟨h1, h2, h3⟩ := findD_some e
        refine ⟨Nat.succ_lt_succ h1, h2, fun m hm hl => ?_⟩
        cases m with
        | zero => exact Bool.eq_false_iff.mpr hy
        | succ m => exact h3 m (Nat.lt_of_succ_lt_succ hm) (Nat.lt_of_succ_lt_succ hl)
theorem cntD_eq (a : PyData) : ∀ b : List PyData, cntD a b = b.countP (fun y => PyData.eqv y a)
  | [] => rfl
  | y :: r => by
    rw [List.countP_cons, ← cntD_eq a r]
    show (if PyData.eqv y a then 1 else 0) + cntD a r = _
    omega
section
variable {X : Cx}
theorem meA_some {S : Sto} {p x : PV} {z : PV} {g : PyData → List PyData → Option PV} (e : ((cur S x).bind fun a => (lstD S p).bind fun b => if shp a && shp (.list b) then g a b else none) = some z) :
    ∃ a b, cur S x = some a ∧ lstD S p = some b ∧ shp a = true ∧ shp (.list b) = true ∧ g a b = some z := by
  cases e1 : cur S x with
  | none => rw [e1] at e; cases e
  | some a =>
    rw [e1] at e
    cases e2 : lstD S p with
    | none => rw [e2] at e; cases e
    | some b =>
      rw [e2] at e
      simp only [Option.bind_some] at e
      split at e
      · rename_i c
        have c' := Bool.and_eq_true_iff.mp c
        exact ⟨a, b, rfl, rfl, c'.1, c'.2, e⟩
      · cases e
theorem reads_items {h : Heap} {its : List Value} {xs : List PyData} {as : List Addr} (hc : PyData.canLayAll0 xs = true) (r : ReadsAll h its xs as) {j : Nat} (hj : j < its.length) (hj' : j < xs.length) : SeqAt.readOf h its[j] = xs[j] := by
  have e := SeqAt.readsAll_map xs _ _ hc r
  have e2 : (its.map (SeqAt.readOf h))[j]? = xs[j]? := by rw [e]
  rw [List.getElem?_map, List.getElem?_eq_getElem hj, List.getElem?_eq_getElem hj'] at e2
  exact Option.some.inj e2
theorem reads_len {h : Heap} : ∀ {its : List Value} {xs : List PyData} {as : List Addr}, ReadsAll h its xs as → its.length = xs.length
  | _, _, _, .nil => rfl
  | _, _, _, .cons _ r => congrArg (· + 1) (reads_len r)
theorem mm_index (hu : X.A.units + 65 < cLine) : MtR X "list.index" (rmM X.K fun S => meV S .index) := by
  intro pins s σ H x vs v us Q I rx rxs ⟨w, S, p, ps, z, rs, r1, r2, e, a⟩
  match ps, e, r2 with
  | [], e, _ => cases p <;> cases e
  | _ :: _ :: _, e, _ => cases p <;> cases e
  | [q], e, r2 =>
    have e : ((cur S q).bind fun a => (lstD S p).bind fun b => if shp a && shp (.list b) then (findD a b).map fun (n : Nat) => PV.int (n : Int) else none) = some z := e
    obtain ⟨da, db, c1, c2, s1, s2, e⟩ := meA_some (g := fun a b => (findD a b).map fun (n : Nat) => PV.int (n : Int)) e
    cases e1 : findD da db with
    | none => rw [e1] at e; cases e
    | some n =>
      rw [e1] at e
      cases e
      obtain ⟨vq, rfl, rq⟩ := rv1 r2
      obtain ⟨uq, rfl, ruq⟩ := rxs.one
      obtain ⟨l, ys, rfl, hH, qd⟩ := lstD_at rs c2 r1
      cases rx
      have cl : PyData.canLayAll0 db = true := by simpa [PyData.canLay0] using shp_lay s2
      obtain ⟨as, z1⟩ := snap_reads I rs 3 c1 (shp_lay s1) rq ruq
      obtain ⟨zz, its, nn, rits, hl, eo⟩ := I.lstM hH
      obtain ⟨bs, z2⟩ := RDs.reads0 I _ cl qd rits
      obtain ⟨h1, h2, h3⟩ := findD_some e1
      have hlen := reads_len z2
      have hsz : n < its.toArray.size := by rw [List.size_toArray, hlen]; exact h1
      have hz' : zz = zz := rfl
      have hlen2 : its.length ≤ sizeLine := by rw [← hl]; exact zz
      rw [sizeLine_eq] at hlen2
      refine call_meets F.slot_list_index ⟨_, eo, rfl⟩ F.entry_list_index (F.args_list_index_2 _ _)
        (SeqAt.list_indexAt l its.toArray nn none #[] uq (fun y => PyData.eqv (SeqAt.readOf s.heap y) da) n hsz (by rw [List.size_toArray] at hsz; omega) ?_ ?_)
        ⟨eo, SeqAt.items_eqAt (by simpa using z2) z1 cl (shp_lay s1) (room_in hu s1), ⟨.int n, H, I.tok _, ⟨_, rfl⟩, a.int rs⟩⟩
      · show PyData.eqv (SeqAt.readOf s.heap its.toArray[n]) da = true
        rw [List.getElem_toArray, reads_items cl z2 (by simpa using hsz) h1]
        exact h2
      · intro m hm hlt
        show PyData.eqv (SeqAt.readOf s.heap its.toArray[m]) da = false
        have hm' : m < db.length := by rw [← hlen]; simpa using hm
        rw [List.getElem_toArray, reads_items cl z2 (by simpa using hm) hm']
        exact h3 m hm' hlt
theorem countP_map_readOf {h : Heap} {its : List Value} {xs : List PyData} {as : List Addr} (hc : PyData.canLayAll0 xs = true) (r : ReadsAll h its xs as) (d : PyData) : its.countP (fun y => PyData.eqv (SeqAt.readOf h y) d) = xs.countP (fun y => PyData.eqv y d) := by
  rw [← SeqAt.readsAll_map xs _ _ hc r, List.countP_map]
  rfl
theorem mm_count (hu : X.A.units + 65 < cLine) : MtR X "list.count" (rmM X.K fun S => meV S .count) := by
  intro pins s σ H x vs v us Q I rx rxs ⟨w, S, p, ps, z, rs, r1, r2, e, a⟩
  match ps, e, r2 with
  | [], e, _ => cases p <;> cases e
  | _ :: _ :: _, e, _ => cases p <;> cases e
  | [q], e, r2 =>
    have e : ((cur S q).bind fun a => (lstD S p).bind fun b => if shp a && shp (.list b) then some (PV.int (cntD a b)) else none) = some z := e
    obtain ⟨da, db, c1, c2, s1, s2, e⟩ := meA_some (g := fun a b => some (PV.int (cntD a b))) e
    cases e
    obtain ⟨vq, rfl, rq⟩ := rv1 r2
    obtain ⟨uq, rfl, ruq⟩ := rxs.one
    obtain ⟨l, ys, rfl, hH, qd⟩ := lstD_at rs c2 r1
    cases rx
    have cl : PyData.canLayAll0 db = true := by simpa [PyData.canLay0] using shp_lay s2
    obtain ⟨as, z1⟩ := snap_reads I rs 3 c1 (shp_lay s1) rq ruq
    obtain ⟨zz, its, nn, rits, hl, eo⟩ := I.lstM hH
    obtain ⟨bs, z2⟩ := RDs.reads0 I _ cl qd rits
    refine call_meets F.slot_list_count ⟨_, eo, rfl⟩ F.entry_list_count (F.args_list_count_2 _ _)
      (SeqAt.list_countAt l its.toArray nn none #[] uq (fun y => PyData.eqv (SeqAt.readOf s.heap y) da))
      ⟨eo, SeqAt.items_eqAt (by simpa using z2) z1 cl (shp_lay s1) (room_in hu s1), ⟨.int (cntD da db), H, I.tok _, ⟨s.toks, ?_⟩, a.int rs⟩⟩
    rw [cntD_eq, ← countP_map_readOf cl z2 da]
/-! ### subscripts -/
theorem ixR_or3 {r r' r'' : R2} (h : IxR X r) (h' : IxR X r') (h'' : IxR X r'') : IxR X (fun x y H Q => r x y H Q ∨ r' x y H Q ∨ r'' x y H Q) := h.or (h'.or h'')
theorem RVs.get {K : PySem.W.Frag} {w : Wd} {H : Hp} : ∀ {ps : List PV} {vs : List V} {j : Nat} {p : PV}, RVs K w H ps vs → ps[j]? = some p → ∃ v, vs[j]? = some v ∧ RV K w H p v
  | _, _, _, _, .nil, h => by simp at h
  | _, _, 0, _, .cons r _, h => by simp at h; subst h; exact ⟨_, rfl, r⟩
  | _, _, j + 1, _, .cons _ t, h => by
    obtain ⟨v, h1, h2⟩ := RVs.get (j := j) t (by simpa using h)
    exact ⟨v, by simpa using h1, h2⟩
theorem atI_of {K : PySem.W.Frag} {w : Wd} {H : Hp} {ps : List PV} {vs : List V} {n : Int} {z : PV} (r : RVs K w H ps vs) (e : ((ixAt ps.length n).bind fun j => ps[j]?) = some z) : ∃ v, atI vs n = some v ∧ RV K w H z v := by
  cases e1 : ixAt ps.length n with
  | none => rw [e1] at e; cases e
  | some j =>
    rw [e1] at e
    obtain ⟨v, h1, h2⟩ := r.get e
    refine ⟨v, ?_, h2⟩
    unfold atI
    rw [show ixN vs.length n = some j from by rw [← r.len]; exact e1]
    exact h1
theorem ix_seqM : IxR X (r2M X.K idxV) := by
  intro value slice pins s σ H x y v u Q I rx ry ⟨w, S, p, q, z, rs, r1, r2, e, a⟩ hs
  refine ix_seq (X := X) value slice pins s σ H x y v u Q I rx ry ?_ hs
  show rIxL X.K x y H Q ∨ rIxT X.K x y H Q ∨ rIxS x y H Q
  unfold idxV at e
  cases q with
  | d y0 =>
    cases y0 with
    | int n =>
      cases r2
      cases p with
      | d x0 =>
        cases x0 with
        | str t =>
          dsimp only at e
          split at e
          · rename_i hl
            cases r1
            cases e1 : ixAt t.cps.toList.length n with
            | none => rw [e1] at e; cases e
            | some j =>
              rw [e1] at e
              change ((t.cps.toList[j]?).map fun c => PV.str ⟨#[c]⟩) = some z at e
              cases e2 : t.cps.toList[j]? with
              | none => rw [e2] at e; cases e
              | some c =>
                rw [e2] at e
                cases e
                refine .inr (.inr ⟨t, n, c, rfl, rfl, hl, ?_, a.str rs⟩)
                unfold atI
                rw [show ixN t.cps.toList.length n = some j from e1]
                exact e2
          · cases e
        | list xs =>
          simp only [items, Option.bind_some] at e
          cases r1 with
          | lst h1 q1 =>
            obtain ⟨v', e1, e2⟩ := atI_of (rds_rvs q1) e
            exact .inl ⟨_, _, n, v', rfl, rfl, h1.sq, e1, a w H v' (Ext.refl w H) rs e2⟩
        | tuple xs =>
          simp only [items, Option.bind_some] at e
          cases r1 with
          | tup h1 q1 =>
            obtain ⟨v', e1, e2⟩ := atI_of (rds_rvs q1) e
            exact .inr (.inl ⟨_, _, n, v', rfl, rfl, h1.sq, e1, a w H v' (Ext.refl w H) rs e2⟩)
        | _ => simp [items] at e
      | r i =>
        obtain ⟨ad, ea, rfl⟩ := r1
        obtain ⟨cl, es, _, rc⟩ := rs.at ea
        simp only [items] at e
        rw [es] at e
        cases cl with
        | dct kvs => cases e
        | lst xs =>
          obtain ⟨vs, hH, rvs, _⟩ := rc
          simp only [Option.bind_some] at e
          obtain ⟨v', e1, e2⟩ := atI_of rvs e
          exact .inl ⟨_, _, n, v', rfl, rfl, SqL.of hH, e1, a w H v' (Ext.refl w H) rs e2⟩
      | x c f => simp [items] at e
      | s ns => simp [items] at e
      | f _ => simp [items] at e
      | clo _ _ => simp [items] at e
    | _ => cases e
  | _ => cases e
end
end Mn

end

section
set_option Elab.async false
set_option linter.all false
set_option maxRecDepth 100000
set_option maxHeartbeats 1000000
/-! MnSlice: slices. -/
namespace Mn
open PySem PySem.Spec PyProof.Rows L2
def rsM (K : PySem.W.Frag) : V → Option Int → Option Int → Hp → VK → Prop := fun x lo hi H Q => ∃ w S p z, RS K w H S ∧ RV K w H p x ∧ slcV S p lo hi = some z ∧ Ans K w H S z Q
theorem sIx_eq (n d : Nat) (o : Option Int) : sIx n d o = HT.sIx n d o := by cases o <;> rfl
theorem RDs.drop {K : PySem.W.Frag} {w : Wd} {H : Hp} : ∀ (n : Nat) {xs : List PyData} {vs : List V}, RDs K w H xs vs → RDs K w H (xs.drop n) (vs.drop n)
  | 0, _, _, r => r
  | _ + 1, _, _, .nil => .nil
  | n + 1, _, _, .cons _ t => RDs.drop n t
theorem RDs.take {K : PySem.W.Frag} {w : Wd} {H : Hp} : ∀ (n : Nat) {xs : List PyData} {vs : List V}, RDs K w H xs vs → RDs K w H (xs.take n) (vs.take n)
  | 0, _, _, _ => .nil
  | _ + 1, _, _, .nil => .nil
  | n + 1, _, _, .cons r t => .cons r (RDs.take n t)
theorem RDs.rev {K : PySem.W.Frag} {w : Wd} {H : Hp} : ∀ {xs : List PyData} {vs : List V}, RDs K w H xs vs → RDs K w H xs.reverse vs.reverse
  | _, _, .nil => .nil
  | _, _, .cons r t => by rw [List.reverse_cons, List.reverse_cons]; exact (RDs.rev t).app (.cons r .nil)
theorem RDs.cut {K : PySem.W.Frag} {w : Wd} {H : Hp} {xs : List PyData} {vs : List V} (r : RDs K w H xs vs) (lo hi : Option Int) : RDs K w H (cutD xs lo hi) (cutV vs lo hi) := by
  unfold cutD cutV
  rw [sIx_eq, sIx_eq, r.len]
  exact (r.drop _).take _
theorem cut_whole {xs : List PyData} {lo hi : Option Int} (h : HT.sIx xs.length 0 lo = 0 ∧ HT.sIx xs.length xs.length hi = xs.length) : cutD xs lo hi = xs := by
  unfold cutD
  rw [sIx_eq, sIx_eq, h.1, h.2, List.drop_zero, Nat.sub_zero, List.take_length]
theorem RDs.getd {K : PySem.W.Frag} {w : Wd} {H : Hp} {xs : List PyData} {vs : List V} (r : RDs K w H xs vs) (j : Nat) : (xs[j]? = none ∧ vs[j]? = none) ∨ ∃ x v, xs[j]? = some x ∧ vs[j]? = some v ∧ RD K w H x v := by
  cases e : xs[j]? with
  | none =>
    refine .inl ⟨rfl, ?_⟩
    rw [List.getElem?_eq_none_iff] at e ⊢
    rw [← r.len]; exact e
  | some x =>
    obtain ⟨v, h1, h2⟩ := (rds_rvs r).get (j := j) (p := .d x) (by rw [List.getElem?_map, e]; rfl)
    exact .inr ⟨x, v, rfl, h1, h2⟩
theorem RDs.pick {K : PySem.W.Frag} {w : Wd} {H : Hp} {xs : List PyData} {vs : List V} (r : RDs K w H xs vs) : ∀ is : List Nat, RDs K w H (is.filterMap (xs[·]?)) (is.filterMap (vs[·]?))
  | [] => .nil
  | i :: is => by
    rcases r.getd i with ⟨h1, h2⟩ | ⟨x, v, h1, h2, h3⟩
    · rw [List.filterMap_cons_none h1, List.filterMap_cons_none h2]
      exact RDs.pick r is
    · rw [List.filterMap_cons_some h1, List.filterMap_cons_some h2]
      exact .cons h3 (RDs.pick r is)
theorem Vals.getv {vs : List V} {us : List Value} (r : Vals vs us) (j : Nat) : (vs[j]? = none ∧ us[j]? = none) ∨ ∃ x v, vs[j]? = some x ∧ us[j]? = some v ∧ RelV x v := by
  cases e : vs[j]? with
  | none => exact .inl ⟨rfl, r.none_of e⟩
  | some x =>
    obtain ⟨v, h1, h2⟩ := r.get e
    exact .inr ⟨x, v, rfl, h1, h2⟩
theorem Vals.pick {vs : List V} {us : List Value} (r : Vals vs us) : ∀ is : List Nat, Vals (is.filterMap (vs[·]?)) (is.filterMap (us[·]?))
  | [] => .nil
  | i :: is => by
    rcases Vals.getv r i with ⟨h1, h2⟩ | ⟨x, v, h1, h2, h3⟩
    · rw [List.filterMap_cons_none h1, List.filterMap_cons_none h2]
      exact Vals.pick r is
    · rw [List.filterMap_cons_some h1, List.filterMap_cons_some h2]
      exact .cons h3 (Vals.pick r is)
section
variable {X : Cx}
theorem sm_cut : SlR X (rsM X.K) := by
  intro pins s σ H x v vl vu lo hi sl Q I rx hs pl pu ⟨w, S, p, z, rs, r1, e, a⟩
  have lst : ∀ {xs : List PyData}, lstD S p = some xs → z = .lst (cutD xs lo hi) → ∃ T id, typeLookup (.type T) "__getitem__" = pure (some (.builtin id)) ∧ s.TypeIs v T ∧ wpAny (model X.prog X.w) X.A (getItem v (.ref sl)) (EP X pins σ Q) X.xe s := fun e1 ez => by
    obtain ⟨l, vs, rfl, hH, q1⟩ := lstD_at rs e1 r1
    subst ez
    exact sl_list pins s σ H _ v vl vu lo hi sl Q I rx hs pl pu ⟨l, vs, rfl, SqL.of hH, fun p hp => a.lst rs (q1.cut lo hi) hp⟩
  cases p with
  | d x0 =>
    cases x0 with
    | tuple xs =>
      cases e
      cases r1 with
      | tup h1 q1 =>
        refine sl_tupA pins s σ H _ v vl vu lo hi sl Q I rx hs pl pu ⟨_, _, rfl, h1.sq, fun hw => ?_, fun _ p hp => a.tup rs (q1.cut lo hi) hp⟩
        rw [cut_whole (by rw [q1.len]; exact hw)] at a
        exact a.flat rs (.tup h1 q1)
    | list xs => exact lst rfl (by cases e; rfl)
    | _ => cases e
  | r i =>
    simp only [slcV] at e
    cases e1 : lstD S (.r i) with
    | none => rw [e1] at e; cases e
    | some xs => rw [e1] at e; exact lst e1 (by cases e; rfl)
  | x c f => cases e
  | f i => cases e
  | clo u env => cases e
  | s ns =>
    cases e
    obtain ⟨b, rfl, q⟩ := r1
    refine sl_list pins s σ H _ v vl vu lo hi sl Q I rx hs pl pu ⟨b, _, rfl, q.sq, fun p hp => ?_⟩
    have ec : cutV (ns.map V.int) lo hi = (cutD ns lo hi).map V.int := by
      unfold cutV cutD
      rw [List.map_take, List.map_drop, List.length_map, sIx_eq, sIx_eq]
    rw [ec]
    exact a.lst rs (ints_rds _) hp
/-- a slice with a step -/
def Sl3R (X : Cx) (r : V → Option Int → Option Int → Int → Hp → VK → Prop) : Prop :=
  ∀ (pins : List (Addr × Obj)) (s : Shared) (σ : L2.St) (H : Hp) (x : V) (v vl vu vt : Value) (lo hi : Option Int) (st : Int) (sl : Addr) (Q : VK), Inv X pins σ H s → RelV x v → s.heap.IsSliceOf sl vl vu vt → IsPart vl lo → IsPart vu hi → IsPart vt (some st) → r x lo hi st H Q →
    ∃ T id, typeLookup (.type T) "__getitem__" = pure (some (.builtin id)) ∧ s.TypeIs v T ∧ wpAny (model X.prog X.w) X.A (getItem v (.ref sl)) (EP X pins σ Q) X.xe s
def tSl3 (r : V → Option Int → Option Int → Int → Hp → VK → Prop) (te : TE) (tl th : TO) (tt : TE) : TE := fun σ H Q => te σ H fun x H1 => tl σ H1 fun l H2 => th σ H2 fun u H3 => tt σ H3 fun k H4 => ∃ c, k = .int c ∧ r x l u c H4 Q
theorem pe_slice3 {e st : Expr} {lo hi : Option Expr} {te tt : TE} {tl th : TO} {pos p2 : Pos} {r : V → Option Int → Option Int → Int → Hp → VK → Prop} (hr : Sl3R X r) (he : PE X e te) (hl : PO X lo tl) (hu : PO X hi th) (ht : PE X st tt) :
    PE X (.Subscript e (.Slice lo hi (some st) p2) pos) (tSl3 r te tl th tt) := by
  refine ⟨fun pins s σ H Q I h => ?_⟩
  refine Subscript_ (thn (he.run pins s σ H _ I h) fun v s1 ⟨x, H1, I1, r1, q1⟩ => ?_)
  refine wpAny_Slice (thn (hl.run pins s1 σ H1 _ I1 q1) fun vl s2 ⟨l, H2, I2, pl, q2⟩ => thn (hu.run pins s2 σ H2 _ I2 q2) fun vu s3 ⟨u, H3, I3, pu, q3⟩ => ?_)
  rw [evalPart_some]
  refine thn (ht.run pins s3 σ H3 _ I3 q3) fun vt s4 ⟨k, H4, I4, rk, c, ek, q4⟩ => ?_
  subst ek
  obtain ⟨t, rfl⟩ := rk
  have I5 : Inv X pins σ H4 { s4 with heap := s4.heap.push { cls := .type "slice", data := .fields #[vl, vu, .int c t] } } := I4.kept (t' := s4.toks) fun b ob q => Heap.get?_push_of_some _ q
  obtain ⟨T, id, hT, hty, hg⟩ := hr pins { s4 with heap := s4.heap.push { cls := .type "slice", data := .fields #[vl, vu, .int c t] } } σ H4 x v vl vu (.int c t) l u c s4.heap.objs.size Q I5 r1 (Heap.IsSliceOf.new ..) pl pu (.int c t) q4
  show wpAny (model X.prog X.w) X.A (subscriptTail e (.Slice lo hi (some st) p2) v (.ref s4.heap.objs.size)) (EP X pins σ Q) X.xe { s4 with heap := s4.heap.push { cls := .type "slice", data := .fields #[vl, vu, .int c t] } }
  exact tail_any (ops := [v, .ref s4.heap.objs.size]) hty hT hg (by with_unfolding_all rfl)
def rs3M (K : PySem.W.Frag) : V → Option Int → Option Int → Int → Hp → VK → Prop := fun x lo hi st H Q => ∃ w S p z, RS K w H S ∧ RV K w H p x ∧ slc3V S p lo hi st = some z ∧ Ans K w H S z Q
theorem sm_step_list {pins : List (Addr × Obj)} {s : Shared} {σ : L2.St} {H : Hp} {w : Wd} {S : Sto} {xs : List PyData} {vs : List V} {l : Addr} {v vl vu vt : Value} {lo hi : Option Int} {st : Int} {sl : Addr} {Q : VK} (I : Inv X pins σ H s) (rx : RelV (.ref l) v)
    (hs : s.heap.IsSliceOf sl vl vu vt) (pl : IsPart vl lo) (pu : IsPart vu hi) (pt : IsPart vt (some st)) (h0 : st ≠ 0) (hH : H l = some (.lst vs)) (rs : RS X.K w H S) (q1 : RDs X.K w H xs vs) (a : Ans X.K w H S (.lst (pickL xs lo hi st)) Q) :
    ∃ T id, typeLookup (.type T) "__getitem__" = pure (some (.builtin id)) ∧ s.TypeIs v T ∧ wpAny (model X.prog X.w) X.A (getItem v (.ref sl)) (EP X pins σ Q) X.xe s := by
  cases rx
  obtain ⟨its, r, ht, hz⟩ := I.list (SqL.of hH)
  have hlen := r.length
  refine ⟨"list", _, slot_list_getitem.lookup, ht.isList.typeIs, ?_⟩
  refine wpAny_getItem_list_slice ht.isList hs pl pu pt (fun z => h0 (Option.some.inj z)) ?_ (by rw [List.size_toArray]; omega)
  have ep : slicePick its.toArray lo hi (some st) = (pickL its lo hi st).toArray := by
    have ef : (fun i : Nat => its.toArray[i]?) = fun i => its[i]? := by
      funext i
      simp
    unfold slicePick pickL
    rw [List.size_toArray, ef]
  have ev : Vals (pickL vs lo hi st) (pickL its lo hi st) := by
    unfold pickL
    rw [← hlen]
    exact Vals.pick r _
  have er : RDs X.K w H (pickL xs lo hi st) (pickL vs lo hi st) := by
    unfold pickL
    rw [q1.len]
    exact q1.pick _
  have hsz : (pickL vs lo hi st).length ≤ sizeLine := by
    have h := slicePick_size_le its.toArray lo hi (some st)
    rw [ep, List.size_toArray, List.size_toArray] at h
    rw [ev.length]
    omega
  rw [ep]
  refine ⟨.ref s.heap.objs.size, _, I.laid (t' := s.toks) (o := .lst (pickL vs lo hi st)) (fun b ob q => Heap.get?_push_of_some _ q) (Nat.le_refl _) ?_, rfl, a.lst rs er (I.hok.fresh (Nat.le_refl _))⟩
  exact ⟨hsz, _, 0, ev, Heap.get?_push_size _ rfl⟩
theorem sm_step : Sl3R X (fun x lo hi st H Q => ∃ w S p z, RS X.K w H S ∧ RV X.K w H p x ∧ (∃ xs, lstD S p = some xs ∧ st ≠ 0 ∧ z = .lst (pickL xs lo hi st)) ∧ Ans X.K w H S z Q) := by
  intro pins s σ H x v vl vu vt lo hi st sl Q I rx hs pl pu pt ⟨w, S, p, z, rs, r1, ⟨xs, e1, h0, ez⟩, a⟩
  subst ez
  obtain ⟨l, vs, rfl, hH, q1⟩ := lstD_at rs e1 r1
  exact sm_step_list I rx hs pl pu pt h0 hH rs q1 a
end
end Mn

end

section
set_option Elab.async false
set_option linter.all false
set_option maxRecDepth 100000
set_option maxHeartbeats 1000000
/-! MnDen: each construct by its meaning in the small language. -/
namespace Mn
open PySem PySem.Spec PyProof.Rows L2
theorem _root_.L2.PE.imp {X : Cx} {e : Expr} {t t' : TE} (h : PE X e t) (i : ∀ σ H Q, t' σ H Q → t σ H Q) : PE X e t' := ⟨fun pins s σ H Q I q => h.run pins s σ H Q I (i σ H Q q)⟩
theorem _root_.L2.PT.imp {X : Cx} {e : Expr} {t t' : TT} (h : PT X e t) (i : ∀ σ H Q, t' σ H Q → t σ H Q) : PT X e t' := ⟨fun pins s σ H Q I q => h.run pins s σ H Q I (i σ H Q q)⟩
theorem _root_.L2.PW.imp {X : Cx} {e : Expr} {t t' : TT} (h : PW X e t) (i : ∀ σ H Q, t' σ H Q → t σ H Q) : PW X e t' := ⟨fun wh pins s σ H Q I q => h.run wh pins s σ H Q I (i σ H Q q)⟩
theorem _root_.L2.PA.imp {X : Cx} {e : List Expr} {t t' : TA} (h : PA X e t) (i : ∀ σ H Q, t' σ H Q → t σ H Q) : PA X e t' := ⟨fun p pins s σ H Q I q => h.run p pins s σ H Q I (i σ H Q q)⟩
theorem _root_.L2.PO.imp {X : Cx} {e : Option Expr} {t t' : TO} (h : PO X e t) (i : ∀ σ H Q, t' σ H Q → t σ H Q) : PO X e t' := ⟨fun pins s σ H Q I q => h.run pins s σ H Q I (i σ H Q q)⟩
theorem _root_.L2.PS.imp {X : Cx} {e : Stmt} {t t' : TS} (h : PS X e t) (i : ∀ D σ H, t' D σ H → t D σ H) : PS X e t' := ⟨fun pins s σ H D I q => h.run pins s σ H D I (i D σ H q)⟩
theorem _root_.L2.PSs.imp {X : Cx} {e : List Stmt} {t t' : TS} (h : PSs X e t) (i : ∀ D σ H, t' D σ H → t D σ H) : PSs X e t' := ⟨fun pins s σ H D I q => h.run pins s σ H D I (i D σ H q)⟩
theorem _root_.L2.PI.imp {X : Cx} {tg it : Expr} {t t' : TI} (h : PI X tg it t) (i : ∀ σ H Q, t' σ H Q → t σ H Q) : PI X tg it t' := ⟨fun pins s σ H Q I q => h.run pins s σ H Q I (i σ H Q q)⟩

/-! ### readings -/
section
variable (RX : XRel) (K : PySem.W.Frag) (W : WX)
/-- the reading by a meaning: D tells of results α as they lie as β -/
def tD {α β : Type} (R : Wd → Hp → α → β → Prop) (den : Env' → Sto → Res α) : L2.St → Hp → (β → Hp → Prop) → Prop := fun σ H Q =>
  ∃ w e S, RE K w H RX e σ ∧ RS K w H S ∧ Post RX K R w H (den e S) (fun c d H' => W c d σ H') Q
abbrev tE (den : Env' → Sto → Res PV) : TE := tD RX K W (RV K) den
abbrev tA (den : Env' → Sto → Res (List PV)) : TA := tD RX K W (RVs K) den
def RB : Wd → Hp → Bool → Bool → Prop := fun _ _ a b => a = b
abbrev tT (den : Env' → Sto → Res Bool) : TT := tD RX K W RB den
def RO : Wd → Hp → Option Int → Option Int → Prop := fun _ _ a b => a = b
abbrev tO (den : Env' → Sto → Res (Option Int)) : TO := tD RX K W RO den
end
section
variable {RX : XRel} {K : PySem.W.Frag} {W : WX} {α β γ δ : Type} {R : Wd → Hp → α → β → Prop} {R2 : Wd → Hp → γ → δ → Prop}
/-- one after another -/
theorem tD.bind {da : Env' → Sto → Res α} {k : Env' → α → Sto → Res γ} {σ : L2.St} {H : Hp} {Q : δ → Hp → Prop} {Q1 : β → Hp → Prop}
    (h : tD RX K W R2 (fun e S => (da e S).bind (k e)) σ H Q)
    (go : ∀ w1 e v S x H1, RE K w1 H1 RX e σ → RS K w1 H1 S → R w1 H1 v x → Post RX K R2 w1 H1 (k e v S) (fun c d H' => W c d σ H') Q → Q1 x H1) : tD RX K W R da σ H Q1 := by
  obtain ⟨w, e, S, re, rs, h⟩ := h
  exact ⟨w, e, S, re, rs, h.bind fun v S1 w1 H1 x ext rs1 rv h1 => go w1 e v S1 x H1 (re.ext ext) rs1 rv h1⟩
end
section
variable {X : Cx} {RX : XRel} {W : WX} {a b c : Expr} {da db dc : Env' → Sto → Res PV} {pos : Pos}
theorem d_lit {e : Expr} {v : V} {x : PyData} (h : PE X e (tC v)) (r : ∀ w H, RD X.K w H x v) : PE X e (tE RX X.K W fun _ S => .ok (.d x) S) :=
  h.imp fun σ H Q ⟨w, e, S, re, rs, p⟩ => p w H v (Ext.refl w H) rs (r w H)
theorem d_var {i : Nat} {x : Str} (hN : X.N[i]? = some x) (hv : Vis X.env.scope x) (hd : (x == ("__debug__" : Str)) = false) (hcd : (x == ("__classdict__" : Str)) = false) :
    PE X (.Name x pos) (tE RX X.K W fun e S => match e[i]? with
      | some (some v) => .ok v S
      | _ => .bad) := (pe_var hN hv hd hcd).imp fun σ H Q ⟨w, e, S, re, rs, p⟩ => by
  dsimp only at p
  cases h : e[i]? with
  | none => rw [h] at p; exact p.elim
  | some o =>
    cases o with
    | none => rw [h] at p; exact p.elim
    | some v =>
      rw [h] at p
      obtain ⟨u, h1, h2⟩ := re.at_ i v h
      exact ⟨u, h1, p w H u (Ext.refl w H) rs h2⟩
theorem Post.ans {K : PySem.W.Frag} {w : Wd} {H : Hp} {S : Sto} {o : Option PV} {WK : XK} {Q : VK} (h : Post RX K (RV K) w H (.ofOpt o S) WK Q) : ∃ z, o = some z ∧ Ans K w H S z Q := h.opt
theorem d_op2 {op : R2} {f : Sto → PV → PV → Option PV} (h : PE X c (tOp (r2M X.K f) (tE RX X.K W da) (tE RX X.K W db))) :
    PE X c (tE RX X.K W fun e S => (da e S).bind fun x S1 => (db e S1).bind fun y S2 => .ofOpt (f S2 x y) S2) := h.imp fun σ H Q h => by
  refine tD.bind h fun w1 e v S x H1 re1 rs1 rv1 h1 => ?_
  refine ⟨w1, e, S, re1, rs1, h1.bind fun v2 S2 w2 H2 y ext rs2 rv2 h2 => ?_⟩
  obtain ⟨z, e1, an⟩ := h2.ans
  exact ⟨w2, S2, v, v2, z, rs2, rv1.ext ext, rv2, e1, an⟩
theorem d_bin {o : Bop} (ha : PE X a (tE RX X.K W da)) (hb : PE X b (tE RX X.K W db)) : PE X (.BinOp a (bopOf o) b pos) (tE RX X.K W fun e S => (da e S).bind fun x S1 => (db e S1).bind fun y S2 => .ofOpt (binV S2 o x y) S2) :=
  d_op2 (op := r2M X.K fun S => binV S o) (f := fun S => binV S o) (pe_op (om_bin o) ha hb)
/-- a comparison's last place is no set display -/
def noSet : Expr → Bool
  | .Set _ _ _ => false
  | _ => true
theorem nomarkS {b : Expr} (h : noSet b = true) (op : CmpOp) : behindInMarks op b = false := by
  cases b <;> first | rfl | exact absurd h Bool.false_ne_true
theorem d_cmp {o : Cop} (hu : X.A.units + 65 < cLine) (hs : noSet b = true) (ha : PE X a (tE RX X.K W da)) (hb : PE X b (tE RX X.K W db)) :
    PE X (.Compare a [copOf o] [b] pos) (tE RX X.K W fun e S => (da e S).bind fun x S1 => (db e S1).bind fun y S2 => .ofOpt ((cmpV S2 o x y).map PV.bool) S2) :=
  d_op2 (op := r2M X.K fun S p q => (cmpV S o p q).map PV.bool) (f := fun S p q => (cmpV S o p q).map PV.bool) (pe_cmpR (om_cmp hu o) ha hb (nomarkS hs _))
theorem asB_ok {K : PySem.W.Frag} {w : Wd} {H : Hp} {v : PV} {x : V} {S : Sto} {WK : XK} {R : Wd → Hp → γ → δ → Prop} {k : Bool → Sto → Res γ} {Q : δ → Hp → Prop} (h : Post RX K R w H ((asB v S).bind k) WK Q) (rv : RV K w H v x) :
    ∃ c, v = .bool c ∧ x = .bl c ∧ Post RX K R w H (k c S) WK Q := by
  unfold asB at h
  split at h
  · cases rv
    exact ⟨_, rfl, rfl, h⟩
  · exact h.elim
theorem d_not (ha : PE X a (tE RX X.K W da)) : PE X (.UnaryOp .Not a pos) (tE RX X.K W fun e S => (da e S).bind fun x S1 => (asB x S1).bind fun b S2 => .ok (.bool (!b)) S2) := (pe_not ha).imp fun σ H Q h => by
  refine tD.bind h fun w1 e v S x H1 re1 rs1 rv1 h1 => ?_
  obtain ⟨c, rfl, rfl, h2⟩ := asB_ok h1 rv1
  exact ⟨c, rfl, h2 w1 H1 _ (Ext.refl _ _) rs1 (.bool _)⟩
theorem d_neg (ha : PE X a (tE RX X.K W da)) : PE X (.UnaryOp .USub a pos) (tE RX X.K W fun e S => (da e S).bind fun x S1 => .ofOpt ((intP x).map fun i => PV.int (-i)) S1) := (pe_un un_neg ha).imp fun σ H Q h => by
  refine tD.bind h fun w1 e v S x H1 re1 rs1 rv1 h1 => ?_
  obtain ⟨z, e1, an⟩ := h1.ans
  unfold intP at e1
  split at e1
  · cases e1
    cases rv1
    exact ⟨_, rfl, an.int rs1⟩
  · cases e1
/-- a meaning as a test -/
abbrev toT (d : Env' → Sto → Res PV) : Env' → Sto → Res Bool := fun e S => (d e S).bind fun x S1 => asB x S1
theorem tB_of {t : TE} {σ : L2.St} {H : Hp} {Q : Bool → Hp → Prop} {d : Env' → Sto → Res PV} {K : PySem.W.Frag} (h : tT RX K W (toT d) σ H Q) : tB (tE RX K W d) σ H Q := by
  refine tD.bind h fun w1 e v S x H1 re1 rs1 rv1 h1 => ?_
  have h1' : Post RX K RB w1 H1 ((asB v S).bind fun b S' => .ok b S') (fun c d H' => W c d σ H') Q := by
    unfold asB at h1 ⊢
    split at h1 <;> exact h1
  obtain ⟨c, rfl, rfl, h2⟩ := asB_ok h1' rv1
  exact ⟨c, rfl, h2 w1 H1 _ (Ext.refl _ _) rs1 rfl⟩
/-- any other expression as a test -/
theorem d_test (ha : PE X a (tE RX X.K W da)) (he : ∀ whole, isTrue a X.env whole = (do let v ← whole; standAt a.pos; holding [v] (truthy v))) : PT X a (tT RX X.K W (toT da)) :=
  (pt_val ha he).imp fun σ H Q h => tB_of (t := tE RX X.K W da) h
theorem d_cmpT {o : Cop} (hu : X.A.units + 65 < cLine) (hs : noSet b = true) (ha : PE X a (tE RX X.K W da)) (hb : PE X b (tE RX X.K W db)) :
    PT X (.Compare a [copOf o] [b] pos) (tT RX X.K W (toT fun e S => (da e S).bind fun x S1 => (db e S1).bind fun y S2 => .ofOpt ((cmpV S2 o x y).map PV.bool) S2)) :=
  (pt_cmpR (om_cmp hu o) ha hb (nomarkS hs _)).imp fun σ H Q h => by
    have h2 := tB_of (t := tE RX X.K W da) h
    obtain ⟨w, e, S, re, rs, h2⟩ := h2
    refine ⟨w, e, S, re, rs, h2.bind fun v S1 w1 H1 x ext rs1 rv1 h3 => ?_⟩
    refine ⟨w1, e, S1, re.ext ext, rs1, h3.bind fun v2 S2 w2 H2 y ext2 rs2 rv2 h4 => ?_⟩
    obtain ⟨z, e1, an⟩ := h4.ans
    exact ⟨w2, S2, v, v2, z, rs2, rv1.ext ext2, rv2, e1, an⟩
theorem d_notT (ha : PT X a (tT RX X.K W (toT da))) : PT X (.UnaryOp .Not a pos) (tT RX X.K W (toT fun e S => (da e S).bind fun x S1 => (asB x S1).bind fun b S2 => .ok (.bool (!b)) S2)) := (pt_not ha).imp fun σ H Q ⟨w, e, S, re, rs, h⟩ => by
  refine ⟨w, e, S, re, rs, ?_⟩
  have e1 : ((da e S).bind fun x S1 => (asB x S1).bind fun b S2 => Res.ok (PV.bool (!b)) S2).bind (fun x S1 => asB x S1) = ((da e S).bind fun x S1 => asB x S1).bind fun b S2 => .ok (!b) S2 := by
    cases da e S with
    | ok v S1 => simp only [Res.bind_ok]; cases asB v S1 <;> rfl
    | ex c f S1 => rfl
    | bad => rfl
  have h' : Post RX X.K RB w H (((da e S).bind fun x S1 => asB x S1).bind fun b S2 => .ok (!b) S2) (fun c d H' => W c d σ H') Q := by rw [← e1]; exact h
  exact h'.bind fun v S1 w1 H1 x ext rs1 rv1 h3 => by
    cases rv1
    exact h3 w1 H1 _ (Ext.refl _ _) rs1 rfl
/-! and, or -/
abbrev bAnd (k : Bool) (d1 d2 : Env' → Sto → Res PV) : Env' → Sto → Res PV := fun e S => (d1 e S).bind fun x S1 => (asB x S1).bind fun c S2 => if c == k then d2 e S2 else .ok (.bool c) S2
abbrev bOne (d1 : Env' → Sto → Res PV) : Env' → Sto → Res PV := fun e S => (d1 e S).bind fun x S1 => (asB x S1).bind fun b S2 => .ok (.bool b) S2
theorem d_one {op : BoolOp} (ha : PE X a (tE RX X.K W da)) : PE X (.BoolOp op [a] pos) (tE RX X.K W (bOne da)) := (pe_one ha).imp fun σ H Q h => by
  refine tD.bind h fun w1 e v S x H1 re1 rs1 rv1 h1 => ?_
  obtain ⟨c, rfl, rfl, h2⟩ := asB_ok h1 rv1
  exact h2 w1 H1 _ (Ext.refl _ _) rs1 (.bool c)
theorem d_and {rest : List Expr} (ha : PE X a (tE RX X.K W da)) (hb : PE X (.BoolOp .And (b :: rest) pos) (tE RX X.K W db)) : PE X (.BoolOp .And (a :: b :: rest) pos) (tE RX X.K W (bAnd true da db)) := (pe_and ha hb).imp fun σ H Q h => by
  refine tD.bind h fun w1 e v S x H1 re1 rs1 rv1 h1 => ?_
  obtain ⟨c, rfl, rfl, h2⟩ := asB_ok h1 rv1
  refine ⟨c, rfl, ?_⟩
  cases c with
  | true => exact ⟨w1, e, S, re1, rs1, h2⟩
  | false => exact h2 w1 H1 _ (Ext.refl _ _) rs1 (.bool false)
theorem d_or {rest : List Expr} (ha : PE X a (tE RX X.K W da)) (hb : PE X (.BoolOp .Or (b :: rest) pos) (tE RX X.K W db)) : PE X (.BoolOp .Or (a :: b :: rest) pos) (tE RX X.K W (bAnd false da db)) := (pe_or ha hb).imp fun σ H Q h => by
  refine tD.bind h fun w1 e v S x H1 re1 rs1 rv1 h1 => ?_
  obtain ⟨c, rfl, rfl, h2⟩ := asB_ok h1 rv1
  refine ⟨c, rfl, ?_⟩
  cases c with
  | true => exact h2 w1 H1 _ (Ext.refl _ _) rs1 (.bool true)
  | false => exact ⟨w1, e, S, re1, rs1, h2⟩
theorem toT_and {k : Bool} (d1 d2 : Env' → Sto → Res PV) (e : Env') (S : Sto) : toT (bAnd k d1 d2) e S = (toT d1 e S).bind fun c S2 => if c == k then toT d2 e S2 else .ok c S2 := by
  show (((d1 e S).bind fun x S1 => (asB x S1).bind fun c S2 => if c == k then d2 e S2 else .ok (.bool c) S2).bind fun x S1 => asB x S1) = ((d1 e S).bind fun x S1 => asB x S1).bind fun c S2 => if c == k then toT d2 e S2 else .ok c S2
  cases d1 e S with
  | ok v S1 =>
    simp only [Res.bind_ok]
    cases asB v S1 with
    | ok c S2 => simp only [Res.bind_ok]; split <;> rfl
    | ex _ _ _ => rfl
    | bad => rfl
  | ex _ _ _ => rfl
  | bad => rfl
theorem d_oneT {op : BoolOp} (ho : op = .And ∨ op = .Or) (ha : PT X a (tT RX X.K W (toT da))) : PW X (.BoolOp op [a] pos) (tT RX X.K W (toT (bOne da))) := by
  have e1 : ∀ e S, toT (bOne da) e S = toT da e S := fun e S => by
    show (((da e S).bind fun x S1 => (asB x S1).bind fun b S2 => .ok (.bool b) S2).bind fun x S1 => asB x S1) = (da e S).bind fun x S1 => asB x S1
    cases da e S with
    | ok v S1 => simp only [Res.bind_ok]; cases asB v S1 <;> rfl
    | ex _ _ _ => rfl
    | bad => rfl
  have e2 : toT (bOne da) = toT da := by funext e S; exact e1 e S
  rw [e2]
  rcases ho with rfl | rfl
  · exact pw_and1 ha
  · exact pw_or1 ha
theorem d_andT {rest : List Expr} (ha : PT X a (tT RX X.K W (toT da))) (hb : PW X (.BoolOp .And (b :: rest) pos) (tT RX X.K W (toT db))) : PW X (.BoolOp .And (a :: b :: rest) pos) (tT RX X.K W (toT (bAnd true da db))) := (pw_and ha hb).imp fun σ H Q ⟨w, e, S, re, rs, h⟩ => by
  rw [toT_and] at h
  refine ⟨w, e, S, re, rs, h.bind fun v S1 w1 H1 x ext rs1 rv1 h3 => ?_⟩
  cases rv1
  cases v with
  | true => exact ⟨w1, e, S1, re.ext ext, rs1, h3⟩
  | false => exact h3 w1 H1 _ (Ext.refl _ _) rs1 rfl
theorem d_orT {rest : List Expr} (ha : PT X a (tT RX X.K W (toT da))) (hb : PW X (.BoolOp .Or (b :: rest) pos) (tT RX X.K W (toT db))) : PW X (.BoolOp .Or (a :: b :: rest) pos) (tT RX X.K W (toT (bAnd false da db))) := (pw_or ha hb).imp fun σ H Q ⟨w, e, S, re, rs, h⟩ => by
  rw [toT_and] at h
  refine ⟨w, e, S, re, rs, h.bind fun v S1 w1 H1 x ext rs1 rv1 h3 => ?_⟩
  cases rv1
  cases v with
  | true => exact h3 w1 H1 _ (Ext.refl _ _) rs1 rfl
  | false => exact ⟨w1, e, S1, re.ext ext, rs1, h3⟩
theorem d_ite (hc : PT X c (tT RX X.K W (toT dc))) (ha : PE X a (tE RX X.K W da)) (hb : PE X b (tE RX X.K W db)) :
    PE X (.IfExp c a b pos) (tE RX X.K W fun e S => (dc e S).bind fun x S1 => (asB x S1).bind fun k S2 => if k then da e S2 else db e S2) := (pe_ifExp hc ha hb).imp fun σ H Q ⟨w, e, S, re, rs, h⟩ => by
  have e1 : ((dc e S).bind fun x S1 => (asB x S1).bind fun k S2 => if k then da e S2 else db e S2) = (toT dc e S).bind fun k S2 => if k then da e S2 else db e S2 := by
    show _ = ((dc e S).bind fun x S1 => asB x S1).bind _
    cases dc e S <;> rfl
  dsimp only at h
  rw [e1] at h
  refine ⟨w, e, S, re, rs, h.bind fun v S1 w1 H1 x ext rs1 rv1 h3 => ?_⟩
  cases rv1
  cases v with
  | true => exact ⟨w1, e, S1, re.ext ext, rs1, h3⟩
  | false => exact ⟨w1, e, S1, re.ext ext, rs1, h3⟩
end
end Mn

end

section
set_option Elab.async false
set_option linter.all false
set_option maxRecDepth 100000
set_option maxHeartbeats 1000000
/-! MnDen2: arguments, displays, subscripts, calls. -/
namespace Mn
open PySem PySem.Spec PyProof.Rows L2
section
variable {X : Cx} {RX : XRel} {W : WX} {a b c : Expr} {da db dc : Env' → Sto → Res PV} {pos : Pos}
theorem lastMark2 {b c : Expr} (h : (noSet b && noSet c) = true) (op op' : CmpOp) : lastMarks [op, op'] [b, c] = false := by
  have h2 := (Bool.and_eq_true_iff.mp h).2
  exact nomarkS h2 _
theorem d_cmp2 {o p : Cop} (hu : X.A.units + 65 < cLine) (hs : (noSet b && noSet c) = true) (ha : PE X a (tE RX X.K W da)) (hb : PE X b (tE RX X.K W db)) (hc : PE X c (tE RX X.K W dc)) :
    PE X (.Compare a [copOf o, copOf p] [b, c] pos) (tE RX X.K W fun e S => (da e S).bind fun x S1 => (db e S1).bind fun y S2 => (Res.ofOpt (cmpV S2 o x y) S2).bind fun k S3 =>
      if k then (dc e S3).bind fun z S4 => .ofOpt ((cmpV S4 p y z).map PV.bool) S4 else .ok (.bool false) S3) := by
  refine (pe_chain (om_cmp hu o) (om_cmp hu p) ha hb hc (lastMark2 hs _ _)).imp fun σ H Q h => ?_
  refine tD.bind h fun w1 e v S x H1 re1 rs1 rv1 h1 => ?_
  refine ⟨w1, e, S, re1, rs1, h1.bind fun v2 S2 w2 H2 y ext rs2 rv2 h2 => ?_⟩
  cases e1 : cmpV S2 o v v2 with
  | none => rw [e1] at h2; exact h2.elim
  | some k =>
    rw [e1] at h2
    refine ⟨w2, S2, v, v2, .bool k, rs2, rv1.ext ext, rv2, by show (cmpV S2 o v v2).map PV.bool = _; rw [e1]; rfl, fun w3 H3 z ext3 rs3 rv3 => ?_⟩
    cases rv3
    refine ⟨k, rfl, ?_⟩
    have h3 := h2.ext ext3
    cases k with
    | true =>
      refine ⟨w3, e, S2, (re1.ext ext).ext ext3, rs3, Post.bind h3 fun v4 S4 w4 H4 u ext4 rs4 rv4 h4 => ?_⟩
      obtain ⟨z, e2, an⟩ := h4.ans
      exact ⟨w4, S4, v2, v4, z, rs4, (rv2.ext ext3).ext ext4, rv4, e2, an⟩
    | false => exact h3 w3 H3 _ (Ext.refl _ _) rs3 (.bool false)
/-! ### arguments -/
def noStar : Expr → Bool
  | .Starred _ _ => false
  | _ => true
theorem star_cons {e : Expr} (h : noStar e = true) (es : List Expr) (env : Env) : starEach (e :: es) env = (false, eval e env) :: starEach es env := by
  cases e <;> first | rfl | exact absurd h Bool.false_ne_true
theorem star_any : ∀ {es : List Expr} (env : Env) (pos : Pos), es.all noStar = true → (backTo pos (starEach es env)).any (·.1) = false
  | [], _, _, _ => rfl
  | e :: es, env, pos, h => by
    rw [List.all_cons, Bool.and_eq_true] at h
    rw [star_cons h.1]
    show (false || (backTo pos (starEach es env)).any (·.1)) = false
    rw [star_any env pos h.2]
    rfl
theorem d_nil : PA X [] (tA RX X.K W fun _ S => .ok [] S) := pa_nil.imp fun σ H Q ⟨w, e, S, re, rs, p⟩ => p w H [] (Ext.refl w H) rs .nil
theorem d_cons {es : List Expr} {ds : Env' → Sto → Res (List PV)} (hn : noStar a = true) (ha : PE X a (tE RX X.K W da)) (hs : PA X es (tA RX X.K W ds)) :
    PA X (a :: es) (tA RX X.K W fun e S => (da e S).bind fun x S1 => (ds e S1).bind fun xs S2 => .ok (x :: xs) S2) := (pa_cons ha hs (star_cons hn _ _)).imp fun σ H Q h => by
  refine tD.bind h fun w1 e v S x H1 re1 rs1 rv1 h1 => ?_
  refine ⟨w1, e, S, re1, rs1, h1.bind fun v2 S2 w2 H2 y ext rs2 rv2 h2 => ?_⟩
  exact h2 w2 H2 (x :: y) (Ext.refl _ _) rs2 (.cons (rv1.ext ext) rv2)
theorem d_tup {es : List Expr} {k : Nat} {ds : Env' → Sto → Res (List PV)} (hs : PA X es (tA RX X.K W ds)) :
    PE X (.Tuple es k pos) (tE RX X.K W fun e S => (ds e S).bind fun vs S1 => .ofOpt ((allD vs).bind fun xs => if xs.length ≤ sizeLine then some (PV.tup xs) else none) S1) := (pe_tup hs).imp fun σ H Q h => by
  refine tD.bind h fun w1 e v S x H1 re1 rs1 rv1 h1 => ?_
  obtain ⟨z, e1, an⟩ := h1.ans
  cases e2 : allD v with
  | none => rw [e2] at e1; cases e1
  | some xs =>
    rw [e2, Option.bind_some] at e1
    split at e1
    · rename_i hl
      cases e1
      have rd := allD_rds e2 rv1
      exact ⟨by rw [← rd.len]; exact hl, fun p hp => an.tup rs1 rd hp⟩
    · cases e1
theorem d_lst {es : List Expr} {ds : Env' → Sto → Res (List PV)} (hs : PA X es (tA RX X.K W ds)) :
    PE X (.List es pos) (tE RX X.K W fun e S => (ds e S).bind fun vs S1 => .ofOpt ((allD vs).bind fun xs => if xs.length ≤ sizeLine then some (PV.lst xs) else none) S1) := (pe_lst hs).imp fun σ H Q h => by
  refine tD.bind h fun w1 e v S x H1 re1 rs1 rv1 h1 => ?_
  obtain ⟨z, e1, an⟩ := h1.ans
  cases e2 : allD v with
  | none => rw [e2] at e1; cases e1
  | some xs =>
    rw [e2, Option.bind_some] at e1
    split at e1
    · rename_i hl
      cases e1
      have rd := allD_rds e2 rv1
      exact ⟨by rw [← rd.len]; exact hl, fun p hp => an.lst rs1 rd hp⟩
    · cases e1
/-! ### new cells -/
def isXS : PV → Bool
  | .x _ _ => true
  | .s _ => true
  | .f _ => true
  | .clo _ _ => true
  | _ => false
theorem rvs_below {K : PySem.W.Frag} {w : Wd} {H : Hp} {S : Sto} (rs : RS K w H S) : ∀ {ps : List PV} {vs : List V}, RVs K w H ps vs → (∀ p ∈ ps, isXS p = false) → ∀ p ∈ ps, below S.length p = true
  | _, _, .nil, _, p, hp => nomatch hp
  | _, _, .cons (a := q) r t, hx, p, hp => by
    rcases List.mem_cons.mp hp with rfl | hp
    · cases p with
      | d x => rfl
      | r i =>
        obtain ⟨a, e, _⟩ := r
        show decide (i < S.length) = true
        rw [decide_eq_true_eq, ← rs.len]
        exact (List.getElem?_eq_some_iff.mp e).1
      | x c f => exact absurd (hx _ hp) (by simp [isXS])
      | s ns => exact absurd (hx _ hp) (by simp [isXS])
      | f _ => exact absurd (hx _ hp) (by simp [isXS])
      | clo _ _ => exact absurd (hx _ hp) (by simp [isXS])
    · exact rvs_below rs t (fun q hq => hx q (List.mem_cons_of_mem _ hq)) p hp
end
end Mn

end

section
set_option Elab.async false
set_option linter.all false
set_option maxRecDepth 100000
set_option maxHeartbeats 1000000
/-! MnDen3: subscripts, slices, calls, builtins, methods. -/
namespace Mn
open PySem PySem.Spec PyProof.Rows L2
section
variable {X : Cx} {RX : XRel} {W : WX} {a b c : Expr} {da db dc : Env' → Sto → Res PV} {pos : Pos}
theorem d_idx (hs : PlainIx b) (ha : PE X a (tE RX X.K W da)) (hb : PE X b (tE RX X.K W db)) :
    PE X (.Subscript a b pos) (tE RX X.K W fun e S => (da e S).bind fun x S1 => (db e S1).bind fun y S2 => .ofOpt (idxV S2 x y) S2) :=
  d_op2 (op := r2M X.K idxV) (f := idxV) (pe_ix ix_seqM ha hb hs)
/-! ### slices -/
theorem d_noneO : PO X none (tO RX X.K W fun _ S => .ok none S) := by
  refine ⟨fun pins s σ H Q I h => po_none.run pins s σ H Q I ?_⟩
  obtain ⟨w, e, S, re, rs, p⟩ := h
  exact p w H none (Ext.refl w H) rs rfl
theorem intP_some {v : PV} {i : Int} (h : intP v = some i) : v = .int i := by
  unfold intP at h
  split at h
  · cases h; rfl
  · cases h
theorem d_someO (ha : PE X a (tE RX X.K W da)) : PO X (some a) (tO RX X.K W fun e S => (da e S).bind fun x S1 => .ofOpt ((intP x).map some) S1) := by
  refine ⟨fun pins s σ H Q I h => (po_some ha).run pins s σ H Q I ?_⟩
  refine tD.bind h fun w1 e v S x H1 re1 rs1 rv1 h1 => ?_
  obtain ⟨z, e1, an⟩ := h1.opt
  obtain ⟨i, e2, rfl⟩ := Option.map_eq_some_iff.mp e1
  have e3 := intP_some e2
  subst e3
  cases rv1
  exact ⟨i, rfl, an w1 H1 (some i) (Ext.refl _ _) rs1 rfl⟩
theorem d_slc {lo hi : Option Expr} {dl dh : Env' → Sto → Res (Option Int)} {p2 : Pos} (ha : PE X a (tE RX X.K W da)) (hl : PO X lo (tO RX X.K W dl)) (hh : PO X hi (tO RX X.K W dh)) :
    PE X (.Subscript a (.Slice lo hi none p2) pos) (tE RX X.K W fun e S => (da e S).bind fun x S1 => (dl e S1).bind fun l S2 => (dh e S2).bind fun h S3 => .ofOpt (slcV S3 x l h) S3) := (pe_slice sm_cut ha hl hh).imp fun σ H Q h => by
  refine tD.bind h fun w1 e v S x H1 re1 rs1 rv1 h1 => ?_
  refine ⟨w1, e, S, re1, rs1, h1.bind fun l S2 w2 H2 l' ext2 rs2 rv2 h2 => ?_⟩
  refine ⟨w2, e, S2, re1.ext ext2, rs2, h2.bind fun u S3 w3 H3 u' ext3 rs3 rv3 h3 => ?_⟩
  cases rv2
  cases rv3
  obtain ⟨z, e1, an⟩ := h3.ans
  exact ⟨w3, S3, v, z, rs3, (rv1.ext ext2).ext ext3, e1, an⟩
theorem slc3V_some {S : Sto} {x z : PV} {l h : Option Int} {c : Int} (e : slc3V S x l h c = some z) : ∃ xs, lstD S x = some xs ∧ c ≠ 0 ∧ z = .lst (pickL xs l h c) := by
  unfold slc3V at e
  split at e
  · cases e
  · split at e
    · cases e
    · rename_i h0
      obtain ⟨xs, e1, e2⟩ := Option.map_eq_some_iff.mp e
      exact ⟨xs, e1, h0, e2.symm⟩
theorem d_slc3 {st : Expr} {dt : Env' → Sto → Res PV} {lo hi : Option Expr} {dl dh : Env' → Sto → Res (Option Int)} {p2 : Pos} (ha : PE X a (tE RX X.K W da)) (hl : PO X lo (tO RX X.K W dl)) (hh : PO X hi (tO RX X.K W dh)) (ht : PE X st (tE RX X.K W dt)) :
    PE X (.Subscript a (.Slice lo hi (some st) p2) pos) (tE RX X.K W fun e S => (da e S).bind fun x S1 => (dl e S1).bind fun l S2 => (dh e S2).bind fun h S3 => (dt e S3).bind fun k S4 => .ofOpt ((intP k).bind fun c => slc3V S4 x l h c) S4) := (pe_slice3 sm_step ha hl hh ht).imp fun σ H Q h => by
  refine tD.bind h fun w1 e v S x H1 re1 rs1 rv1 h1 => ?_
  refine ⟨w1, e, S, re1, rs1, h1.bind fun l S2 w2 H2 l' ext2 rs2 rv2 h2 => ?_⟩
  refine ⟨w2, e, S2, re1.ext ext2, rs2, h2.bind fun u S3 w3 H3 u' ext3 rs3 rv3 h3 => ?_⟩
  cases rv2
  cases rv3
  refine ⟨w3, e, S3, (re1.ext ext2).ext ext3, rs3, h3.bind fun k S4 w4 H4 k' ext4 rs4 rv4 h4 => ?_⟩
  obtain ⟨z, e1, an⟩ := h4.ans
  obtain ⟨i, e2, e3⟩ := Option.bind_eq_some_iff.mp e1
  have e4 := intP_some e2
  subst e4
  cases rv4
  obtain ⟨xs, e5, e6, e7⟩ := slc3V_some e3
  exact ⟨i, rfl, w4, S4, v, z, rs4, ((rv1.ext ext2).ext ext3).ext ext4, ⟨xs, e5, e6, e7⟩, an⟩
/-! ### calls of defs -/
/-- what a def promises: f is what it does -/
def spM (RX : XRel) (K : PySem.W.Frag) (ar : Nat) (f : List PV → Sto → Res PV) : Sp := fun vs H Q E => ∃ w S ps, w.xa = RX.xa ∧ RS K w H S ∧ RVs K w H ps vs ∧ ps.length = ar ∧ Post RX K (RV K) w H (f ps S) E Q
/-- a def's promise where no repr is under way -/
structure FnG (P : Program) (w : World) (K : PySem.W.Frag) (mg : Str → Option Value) (base : Heap) (CX : CXT) (k : Nat) (f : Addr) (fd : FuncData) (ps : List Str) (sp : Sp) : Prop where
  len : ∀ vs H Q E, sp vs H Q E → vs.length = ps.length
  run : ∀ (B : Around) (out : List Env) (s0 : Shared) (H : Hp) (as : Args) (us : List Value) (vs : List V) (Q : VK) (E : XK), Room k B → B.guards = some [] → Env0 P w K mg base B out s0 H → BindsTo s0 fd as (ps.zip us) → Vals vs us → sp vs H Q E →
    codeAny (model P w) B (.call (.ref f) as) (CR CX out P w H s0 Q E) s0
section
variable {CX : CXT} {k : Nat} {f : Addr} {fd : FuncData} {ps : List Str} {sp : Sp} {E : L2.St → XK} {x : Str} {p pos : Pos}
theorem run_fnG {pins : List (Addr × Obj)} {σ : L2.St} {H : Hp} {s : Shared} {Q : VK} {us : List Value} {vs : List V} (Fo : FnG X.prog X.w X.K X.mg X.base CX k f fd ps sp) (room : Room k X.A) (gd : X.A.guards = some []) (hb : Binds X.K fd ps []) (pas : PassesAt CX X σ (E σ))
    (I : Inv X pins σ H s) (r : Vals vs us) (h : sp vs H Q (E σ)) : wpAny (model X.prog X.w) X.A (call (.ref f) us) (EP X pins σ Q) X.xe s := by
  have hl : us.length = ps.length := by rw [← r.length]; exact Fo.len _ _ _ _ h
  have hbd : BindsTo s fd ⟨us, []⟩ (ps.zip us) := by
    have z := hb s us I.kIn (by simpa using hl)
    simpa using z
  refine wpAny_call (codeAny_mono (Fo.run X.A X.stack s H ⟨us, []⟩ us vs Q (E σ) room gd I.env0 hbd r h) fun res s1 hq => ?_)
  cases res with
  | error u => exact pas pins H s u s1 I hq
  | ok fl => cases fl with
    | ret u => exact I.after hq
    | _ => exact False.elim hq
theorem pe_callG {e : Expr} {es : List Expr} {t : TA} (Fo : FnG X.prog X.w X.K X.mg X.base CX k f fd ps sp) (room : Room k X.A) (gd : X.A.guards = some []) (hg : Gl X x) (hm : X.mg x = some (.ref f)) (hk : PySem.W.keepIn X.K (.ref f) = true) (hb : Binds X.K fd ps []) (pas : ∀ σ, PassesAt CX X σ (E σ))
    (ha : PA X (e :: es) t) (hdb : (x == ("__debug__" : Str)) = false) (he : starEach (e :: es) X.env = (false, eval e X.env) :: starEach es X.env) (hpl : (backTo pos (starEach es X.env)).any (·.1) = false) :
    PE X (.Call (.Name x p) (e :: es) [] pos) (fun σ H Q => t σ H fun vs H1 => sp vs H1 Q (E σ)) := by
  refine ⟨fun pins s σ H Q I h => ?_⟩
  refine wpAny_Call_Name_kw (ld_glob I hg hm ?_ hdb)
  exact PySem.W.callWith_K (h₀ := X.base) I.ok.mod.kin hk (thn (ha.run pos pins s σ H _ I h) fun us s1 ⟨vs, H1, I1, r, q⟩ => ⟨I1.kIn, run_fnG Fo room gd hb (pas σ) I1 r q⟩) he hpl
theorem pe_callG0 (Fo : FnG X.prog X.w X.K X.mg X.base CX k f fd ps sp) (room : Room k X.A) (gd : X.A.guards = some []) (hg : Gl X x) (hm : X.mg x = some (.ref f)) (hk : PySem.W.keepIn X.K (.ref f) = true) (hb : Binds X.K fd ps []) (pas : ∀ σ, PassesAt CX X σ (E σ))
    (hdb : (x == ("__debug__" : Str)) = false) : PE X (.Call (.Name x p) [] [] pos) (fun σ H Q => sp [] H Q (E σ)) := by
  refine ⟨fun pins s σ H Q I h => ?_⟩
  refine wpAny_Call_Name_kw (ld_glob I hg hm ?_ hdb)
  exact PySem.W.callWith_K0 I.kIn hk (run_fnG Fo room gd hb (pas σ) I .nil h)
end
section
variable {k : Nat} {f : Addr} {fd : FuncData} {ps : List Str} {ar : Nat} {x : Str} {p : Pos} {g : List PV → Sto → Res PV}
theorem d_call {es : List Expr} {ds : Env' → Sto → Res (List PV)} (F : FnG X.prog X.w X.K X.mg X.base (L2.CX X.prog X.w) k f fd ps (spM RX X.K ar g)) (gd : X.A.guards = some []) (ga : ∀ vs S, g vs S ≠ .bad → vs.length = ar) (tk : Takes X W) (hr : Room k X.A) (hg : Gl X x) (hm : X.mg x = some (.ref f)) (hk : PySem.W.keepIn X.K (.ref f) = true) (hb : Binds X.K fd ps [])
    (hdb : (x == ("__debug__" : Str)) = false) (hst : (a :: es).all noStar = true) (ha : PA X (a :: es) (tA RX X.K W ds)) :
    PE X (.Call (.Name x p) (a :: es) [] pos) (tE RX X.K W fun e S => (ds e S).bind fun vs S1 => g vs S1) := by
  have h1 := (Bool.and_eq_true_iff.mp (by simpa using hst : noStar a = true ∧ es.all noStar = true |> fun q => (noStar a && es.all noStar) = true))
  refine (pe_callG (E := WE W) F hr gd hg hm hk hb (passAt tk) ha hdb (star_cons h1.1 _ _) (star_any _ _ h1.2)).imp fun σ H Q h => ?_
  refine tD.bind h fun w1 e v S x H1 re1 rs1 rv1 h1 => ?_
  exact ⟨w1, S, v, re1.xa, rs1, rv1, ga v S (fun q => by rw [q] at h1; exact h1), h1⟩
theorem d_call0 (F : FnG X.prog X.w X.K X.mg X.base (L2.CX X.prog X.w) k f fd ps (spM RX X.K ar g)) (gd : X.A.guards = some []) (ga : ∀ vs S, g vs S ≠ .bad → vs.length = ar) (tk : Takes X W) (hr : Room k X.A) (hg : Gl X x) (hm : X.mg x = some (.ref f)) (hk : PySem.W.keepIn X.K (.ref f) = true) (hb : Binds X.K fd ps [])
    (hdb : (x == ("__debug__" : Str)) = false) :
    PE X (.Call (.Name x p) [] [] pos) (tE RX X.K W fun e S => (Res.ok ([] : List PV) S).bind fun vs S1 => g vs S1) := (pe_callG0 (E := WE W) F hr gd hg hm hk hb (passAt tk) hdb).imp fun σ H Q ⟨w, e, S, re, rs, h⟩ => by
  exact ⟨w, S, [], re.xa, rs, .nil, ga [] S (fun q => by change Post RX X.K (RV X.K) w H (g [] S) _ Q at h; rw [q] at h; exact h), h⟩
end
/-! ### builtins -/
theorem d_cb {f : Sto → List PV → Option PV} {es : List Expr} {ds : Env' → Sto → Res (List PV)} {e0 : Expr} (ha : PE X e0 (tCB (rcM X.K f) (tA RX X.K W ds))) :
    PE X e0 (tE RX X.K W fun e S => (ds e S).bind fun vs S1 => .ofOpt (f S1 vs) S1) := ha.imp fun σ H Q h => by
  refine tD.bind h fun w1 e v S x H1 re1 rs1 rv1 h1 => ?_
  obtain ⟨z, e1, an⟩ := h1.ans
  exact ⟨w1, S, v, z, rs1, rv1, e1, an⟩
def biName : Bi → String
  | .abs => "abs" | .int => "int" | .len => "len" | .tuple => "tuple" | .list => "list" | .all => "all" | .any => "any" | .sum => "sum" | .sorted => "sorted" | .repr => "repr" | .min => "min" | .max => "max"
def biTy : Bi → Bool
  | .int => true | .tuple => true | .list => true
  | _ => false
def biHot : Bi → Bool
  | .all => false | .any => false | .sum => false | .min => false | .max => false | .repr => false
  | _ => true
theorem d_bi {bi : Bi} {es : List Expr} {ds : Env' → Sto → Res (List PV)} {p : Pos} (hr : bi ≠ .repr) (hc : biHot bi = true ∨ X.calm = true) (hg : Gl X (biName bi)) (hm : X.mg (biName bi) = none)
    (hst : (a :: es).all noStar = true) (ha : PA X (a :: es) (tA RX X.K W ds)) :
    PE X (.Call (.Name (biName bi) p) (a :: es) [] pos) (tE RX X.K W fun e S => (ds e S).bind fun vs S1 => .ofOpt (biV S1 bi vs) S1) := by
  have h1 := (Bool.and_eq_true_iff.mp (by simpa using hst : noStar a = true ∧ es.all noStar = true |> fun q => (noStar a && es.all noStar) = true))
  have hs := star_cons h1.1 es X.env
  have hp := star_any X.env pos h1.2
  have cl : biHot bi = false → X.calm = true := fun q => hc.elim (fun z => by rw [q] at z; cases z) id
  refine d_cb (f := fun S => biV S bi) (es := es) ?_
  cases bi with
  | abs => exact pe_callB bm_abs hg hm (by rfl) ha (he := hs) (hpl := hp)
  | int => exact pe_callTy bm_int hg hm (by rfl) ha (he := hs) (hpl := hp)
  | len => exact pe_callB bm_len hg hm (by rfl) ha (he := hs) (hpl := hp)
  | tuple => exact pe_callTy bm_tuple hg hm (by rfl) ha (he := hs) (hpl := hp)
  | list => exact pe_callTy bm_list hg hm (by rfl) ha (he := hs) (hpl := hp)
  | all => exact pe_callB (bm_all (cl rfl)) hg hm (by rfl) ha (he := hs) (hpl := hp)
  | any => exact pe_callB (bm_any (cl rfl)) hg hm (by rfl) ha (he := hs) (hpl := hp)
  | sum => exact pe_callB (bm_sum (cl rfl)) hg hm (by rfl) ha (he := hs) (hpl := hp)
  | sorted => exact pe_callB bm_sorted hg hm (by rfl) ha (he := hs) (hpl := hp)
  | repr => exact absurd rfl hr
  | min => exact pe_callB (bm_min (cl rfl)) hg hm (by rfl) ha (he := hs) (hpl := hp)
  | max => exact pe_callB (bm_max (cl rfl)) hg hm (by rfl) ha (he := hs) (hpl := hp)
end
end Mn

end

section
set_option Elab.async false
set_option linter.all false
set_option maxRecDepth 100000
set_option maxHeartbeats 1000000
/-! MnDen4: isinstance, methods, new cells. -/
namespace Mn
open PySem PySem.Spec PyProof.Rows L2
/-! ### isinstance -/
inductive Kd where
  | non | bl | int | str | tup | lst | dct
def kdN : Kd → String
  | .non => "NoneType" | .bl => "bool" | .int => "int" | .str => "str" | .tup => "tuple" | .lst => "list" | .dct => "dict"
def kdIs : Kd → Ty → Bool
  | .non, _ => false
  | .bl, t => t == .bool || t == .int
  | .int, t => t == .int
  | .str, t => t == .str
  | .tup, t => t == .tuple
  | .lst, t => t == .list
  | .dct, t => t == .dict
def tyN : Ty → String
  | .int => "int" | .bool => "bool" | .str => "str" | .tuple => "tuple" | .list => "list" | .dict => "dict"
theorem kit_tab (k : Kd) (t : Ty) : kitB (kdN k) (tyN t) = some (kdIs k t) := by cases k <;> cases t <;> decide +kernel
theorem isTy_kd {K : PySem.W.Frag} {w : Wd} {H : Hp} {S : Sto} {p : PV} {v : V} {t : Ty} {b : Bool} (rs : RS K w H S) (r : RV K w H p v) (h : isTy t S p = some b) : ∃ k, TyX K H v (.type (kdN k)) ∧ b = kdIs k t := by
  cases p with
  | d x =>
    cases r with
    | none => cases h; exact ⟨.non, .base .non, rfl⟩
    | bool b => cases h; exact ⟨.bl, .base (.bl b), rfl⟩
    | int i => cases h; exact ⟨.int, .base (.int i), rfl⟩
    | str s => cases h; exact ⟨.str, .base (.str s), rfl⟩
    | tup h1 q =>
      cases h
      refine ⟨.tup, ?_, rfl⟩
      rcases h1 with ⟨_, e | ⟨o, e⟩⟩ | ⟨o, its, n, e, c, _⟩
      · exact .base (.tup e)
      · exact .fTuple e
      · exact .kTuple e c
    | lst h1 q => cases h; exact ⟨.lst, .base (.lst h1.2), rfl⟩
    | dct f e q => cases h; exact ⟨.dct, .base (.dK e), rfl⟩
  | r i =>
    obtain ⟨a, ea, rfl⟩ := r
    obtain ⟨cl, es, _, rc⟩ := rs.at ea
    simp only [isTy] at h
    rw [es] at h
    cases cl with
    | lst xs => obtain ⟨vs, hH, _⟩ := rc; cases h; exact ⟨.lst, .base (.lst hH), rfl⟩
    | dct kvs => obtain ⟨ks, hH, _⟩ := rc; cases h; exact ⟨.dct, .base (.dK hH), rfl⟩
  | x c f => cases h
  | s ns => cases h
  | f _ => cases h
  | clo _ _ => cases h
section
variable {X : Cx} {RX : XRel} {W : WX} {a b c : Expr} {da db dc : Env' → Sto → Res PV} {pos : Pos}
theorem d_isi {t : Ty} {p p2 : Pos} (hg : Gl X "isinstance") (hm : X.mg "isinstance" = none) (hg2 : Gl X (tyN t)) (hm2 : X.mg (tyN t) = none) (hn : noStar a = true) (ha : PE X a (tE RX X.K W da)) :
    PE X (.Call (.Name "isinstance" p) [a, .Name (tyN t) p2] [] pos) (tE RX X.K W fun e S => (da e S).bind fun x S1 => .ofOpt ((isTy t S1 x).map PV.bool) S1) := by
  have h2 : PE X (.Name (tyN t) p2) (tC (.ty (tyN t))) := by
    cases t <;> exact pe_bltn hg2 hm2 (by rfl) rfl
  have h3 : PA X [a, .Name (tyN t) p2] (tCons (tE RX X.K W da) (tCons (tC (.ty (tyN t))) tNil)) := pa_cons ha (pa_cons h2 pa_nil (star_cons rfl _ _)) (star_cons hn _ _)
  refine (pe_callB call_isi hg hm (by rfl) h3 (he := star_cons hn _ _) (hpl := star_any _ _ rfl)).imp fun σ H Q h => ?_
  refine tD.bind h fun w1 e v S x H1 re1 rs1 rv1 h1 => ?_
  obtain ⟨z, e1, an⟩ := h1.ans
  cases e2 : isTy t S v with
  | none => rw [e2] at e1; cases e1
  | some r =>
    rw [e2] at e1
    cases e1
    obtain ⟨k, ty, rfl⟩ := isTy_kd rs1 rv1 e2
    exact ⟨x, .ty (tyN t), .type (kdN k), .type (tyN t), kdIs k t, rfl, .ty _, ty, kit_ty (kit_tab k t), an.bool rs1⟩
/-- isinstance of the error that the suite holds -/
theorem d_isx {i : Nat} {x : Str} {a0 D : Addr} {oe : Obj} {pn : List (Addr × Obj)} {k : Nat} {g : Option PyData} {px p : Pos} {cv : Value} {cV : V} {r : Bool} {f : Nat → Bool} (hC : ExcC X.K D) (hz : Zc (.ref D) none oe) (hf : ∃ vs, oe.data = .fields vs) (hx : RX.xa.er = some (a0, k, g))
    (hN : X.N[i]? = some x) (hv : Vis X.env.scope x) (hd : (x == ("__debug__" : Str)) = false) (hcd : (x == ("__classdict__" : Str)) = false) (hg : Gl X "isinstance") (hm : X.mg "isinstance" = none) (hn : noStar c = true)
    (hc : PE (X.suite a0 ((a0, oe) :: pn)) c (tC cV)) (hcv : ∀ u, RelV cV u → u = cv) (hk : PySem.W.kitOne X.K (.ref D) cv = some r) (hr : f k = r) :
    PE (X.suite a0 ((a0, oe) :: pn)) (.Call (.Name "isinstance" p) [.Name x px, c] [] pos) (tE RX X.K W fun e S => match e[i]? with
      | some (some (.x k _)) => .ok (.bool (f k)) S
      | _ => .bad) := by
  have h2 : PE (X.suite a0 ((a0, oe) :: pn)) (.Name x px) (tVar i) := pe_var hN hv hd hcd
  have h3 : PA (X.suite a0 ((a0, oe) :: pn)) [.Name x px, c] (tCons (tVar i) (tCons (tC cV) tNil)) := pa_cons h2 (pa_cons hc pa_nil (star_cons hn _ _)) (star_cons rfl _ _)
  refine (pe_callB (X := X.suite a0 ((a0, oe) :: pn)) (call_isE hC hz hf) hg hm (by rfl) h3 (he := star_cons rfl _ _) (hpl := star_any _ _ (by simp [hn]))).imp fun σ H Q ⟨w, e, S, re, rs, h⟩ => ?_
  dsimp only at h
  cases e1 : e[i]? with
  | none => rw [e1] at h; exact h.elim
  | some o =>
    rw [e1] at h
    cases o with
    | none => exact h.elim
    | some v =>
      cases v with
      | x k' g' =>
        obtain ⟨u, h4, a1, h5, rfl⟩ := re.at_ i _ e1
        have h6 := congrArg Xa.er re.xa
        rw [hx, h5] at h6
        cases h6
        refine ⟨.ref a0, h4, cV, cv, r, rfl, hcv, hk, ?_⟩
        rw [← hr]
        exact h w H _ (Ext.refl w H) rs (.bool _)
      | d _ => exact h.elim
      | r _ => exact h.elim
      | s _ => exact h.elim
      | f _ => exact h.elim
      | clo _ _ => exact h.elim
/-! ### methods -/
theorem isL_ty {K : PySem.W.Frag} {w : Wd} {H : Hp} {S : Sto} {p : PV} {v : V} (rs : RS K w H S) (r : RV K w H p v) (h : isL S p = true) : tyV K "list" v H := by
  have h : isTy .list S p = some true := by
    unfold isL at h
    simpa using h
  cases p with
  | d x =>
    cases r with
    | lst h1 q => exact .inl ⟨rfl, _, SqL.of h1.2⟩
    | _ => first | cases h | (simp [isTy] at h; done)
  | r i =>
    obtain ⟨a, ea, rfl⟩ := r
    obtain ⟨cl, es, _, rc⟩ := rs.at ea
    simp only [isTy] at h
    rw [es] at h
    cases cl with
    | lst xs => obtain ⟨vs, hH, _⟩ := rc; exact .inl ⟨rfl, _, SqL.of hH⟩
    | dct kvs => simp at h
  | x c f => cases h
  | s ns => cases h
  | f _ => cases h
  | clo _ _ => cases h
theorem few1 {b : Expr} (hn : noStar b = true) (env : Env) (cpos : Pos) : ((backTo cpos (starEach [b] env)).all (fun x => !x.1) && (backToKw cpos (keywordEach [] env)).all (fun x => x.1.isSome)
      && decide (([b] : List Expr).length + ([] : List Keyword).length + (if ([] : List Keyword).isEmpty then 0 else 1) < 30)) = true := by
  rw [star_cons hn]
  rfl
def meId : Me → String
  | .count => "list.count" | .index => "list.index" | .get => "dict.get"
def meN : Me → Str
  | .count => "count" | .index => "index" | .get => "get"
theorem d_me {m : Me} {o : Expr} {dobj : Env' → Sto → Res PV} {apos : Pos} (hm : m ≠ .get) (hu : X.A.units + 65 < cLine) (ho : PE X o (tE RX X.K W dobj)) (ha : PE X a (tE RX X.K W da)) (hn : noStar a = true)
    (hbase : attributeBase o (meN m) X.env (eval o X.env) = eval o X.env) (hline : (apos.endLine == pos.line) = true) :
    PE X (.Call (.Attribute o (meN m) apos) [a] [] pos) (tE RX X.K W fun e S => (dobj e S).bind fun x S1 => if kindMe m S1 x then ((da e S1).bind fun y S2 => (Res.ok ([] : List PV) S2).bind fun ys S3 => .ok (y :: ys) S3).bind fun vs S2 => .ofOpt (meV S2 m x vs) S2 else .bad) := by
  have pa : PA X [a] (tA RX X.K W fun e S => (da e S).bind fun y S2 => (Res.ok ([] : List PV) S2).bind fun ys S3 => .ok (y :: ys) S3) := d_cons (ds := fun _ S => .ok [] S) hn ha d_nil
  have key : PE X (.Call (.Attribute o (meN m) apos) [a] [] pos) (tBM X.K "list" (rmM X.K fun S => meV S m) (tE RX X.K W dobj) (tA RX X.K W fun e S => (da e S).bind fun y S2 => (Res.ok ([] : List PV) S2).bind fun ys S3 => .ok (y :: ys) S3)) := by
    cases m with
    | count => exact pe_bm PySem.F.plainAttrs_list PySem.F.slot_list_count PySem.F.type_list_count (mm_count hu) ho pa hbase (few1 hn _ _) hline (star_cons hn _ _) (star_any _ _ rfl)
    | index => exact pe_bm PySem.F.plainAttrs_list PySem.F.slot_list_index PySem.F.type_list_index (mm_index hu) ho pa hbase (few1 hn _ _) hline (star_cons hn _ _) (star_any _ _ rfl)
    | get => exact absurd rfl hm
  refine key.imp fun σ H Q h => ?_
  refine tD.bind h fun w1 e v S x H1 re1 rs1 rv1 h1 => ?_
  cases hk : kindMe m S v with
  | false => rw [hk] at h1; exact h1.elim
  | true =>
    rw [hk] at h1
    have hL : isL S v = true := by cases m <;> first | exact hk | exact absurd rfl hm
    refine ⟨isL_ty rs1 rv1 hL, w1, e, S, re1, rs1, Post.bind h1 fun vs S2 w2 H2 xs ext2 rs2 rv2 h2 => ?_⟩
    obtain ⟨z, e1, an⟩ := h2.ans
    exact ⟨w2, S2, v, vs, z, rs2, rv1.ext ext2, rv2, e1, an⟩
/-! methods that change a cell -/
def rmuM (RX : XRel) (K : PySem.W.Frag) (m : Mu) : V → List V → Hp → VK → Prop := fun x vs H Q => ∃ w S p ps WK, RS K w H S ∧ RV K w H p x ∧ RVs K w H ps vs ∧ Post RX K (RV K) w H (muV S m p ps) WK Q
theorem cell_at {K : PySem.W.Frag} {w : Wd} {H : Hp} {S : Sto} {c : Nat} {v : V} {xs : List PV} (rs : RS K w H S) (r : RV K w H (.r c) v) (e : S[c]? = some (.lst xs)) : ∃ a vs, w.m[c]? = some a ∧ v = .ref a ∧ H a = some (.lst vs) ∧ RVs K w H xs vs ∧ ∀ x ∈ xs, below c x = true := by
  obtain ⟨a, ea, rfl⟩ := r
  obtain ⟨cl, es, _, rc⟩ := rs.at ea
  rw [e] at es
  cases es
  obtain ⟨vs, h1, h2, h3⟩ := rc
  exact ⟨a, vs, ea, rfl, h1, h2, h3⟩
theorem rvs_app {K : PySem.W.Frag} {w : Wd} {H : Hp} : ∀ {xs ys : List PV} {vs us : List V}, RVs K w H xs vs → RVs K w H ys us → RVs K w H (xs ++ ys) (vs ++ us)
  | _, _, _, _, .nil, h => h
  | _, _, _, _, .cons r t, h => .cons r (rvs_app t h)
theorem rvs_dropLast {K : PySem.W.Frag} {w : Wd} {H : Hp} : ∀ {xs : List PV} {vs : List V}, RVs K w H xs vs → RVs K w H xs.dropLast vs.dropLast
  | _, _, .nil => .nil
  | _, _, .cons r .nil => .nil
  | _, _, .cons r (.cons r2 t) => .cons r (rvs_dropLast (.cons r2 t))
theorem rvs_erase {K : PySem.W.Frag} {w : Wd} {H : Hp} : ∀ {xs : List PV} {vs : List V} (j : Nat), RVs K w H xs vs → RVs K w H (xs.eraseIdx j) (vs.eraseIdx j)
  | _, _, _, .nil => .nil
  | _, _, 0, .cons r t => t
  | _, _, j + 1, .cons r t => .cons r (rvs_erase j t)
theorem rvs_set {K : PySem.W.Frag} {w : Wd} {H : Hp} {p : PV} {v : V} (hr : RV K w H p v) : ∀ {xs : List PV} {vs : List V} (j : Nat), RVs K w H xs vs → RVs K w H (xs.set j p) (vs.set j v)
  | _, _, _, .nil => .nil
  | _, _, 0, .cons r t => .cons hr t
  | _, _, j + 1, .cons r t => .cons r (rvs_set hr j t)
/-- a cell's list is written -/
theorem put_lst {K : PySem.W.Frag} {w : Wd} {H : Hp} {S : Sto} {c : Nat} {a : Addr} {xs : List PV} {vs : List V} (rs : RS K w H S) (ea : w.m[c]? = some a) (rv : RVs K w H xs vs) (bl : ∀ x ∈ xs, below c x = true) :
    Ext w H w (upd H a (.lst vs)) ∧ RS K w (upd H a (.lst vs)) (S.set c (.lst xs)) := by
  have x := ext_write (o := .lst vs) rs ea
  exact ⟨x, rs_write rs ea ⟨vs, upd_same, rv.ext x, bl⟩⟩
theorem mu_append : MtR X "list.append" (rmuM RX X.K .append) := by
  intro pins s σ H x vs v us Q I rx rxs ⟨w, S, p, ps, WK, rs, r1, r2, h⟩
  match p, ps, h, r1, r2 with
  | .r c, [q], h, r1, r2 =>
    have h : Post RX X.K (RV X.K) w H (match S[c]? with
      | some (.lst xs) => if below c q && decide (xs.length < sizeLine) then .ok .none (S.set c (.lst (xs ++ [q]))) else .bad
      | _ => .bad) WK Q := h
    cases e : S[c]? with
    | none => rw [e] at h; exact h.elim
    | some cl =>
      rw [e] at h
      cases cl with
      | dct _ => exact h.elim
      | lst xs =>
        dsimp only at h
        split at h
        · rename_i hh
          obtain ⟨hb, hl⟩ := Bool.and_eq_true_iff.mp hh
          obtain ⟨a, ys, ea, rfl, hH, rv, bl⟩ := cell_at rs r1 e
          obtain ⟨y, rfl, ry⟩ := rv1 r2
          obtain ⟨x1, rs1⟩ := put_lst rs ea (rvs_app rv (.cons ry .nil)) (fun z hz => (List.mem_append.mp hz).elim (bl z) fun q2 => by rw [List.mem_singleton.mp q2]; exact hb)
          exact mt_append pins s σ H _ _ v us Q I rx rxs ⟨a, ys, y, rfl, rfl, hH, by rw [← rv.len]; exact of_decide_eq_true hl, h w _ _ x1 rs1 .none⟩
        · exact h.elim
  | .r c, [], h, _, _ => exact h.elim
  | .r c, _ :: _ :: _, h, _, _ => exact h.elim
  | .d _, [], h, _, _ => exact h.elim
  | .d _, _ :: _, h, _, _ => exact h.elim
  | .x _ _, _, h, _, _ => exact h.elim
  | .s _, _, h, _, _ => exact h.elim
  | .f _, _, h, _, _ => exact h.elim
  | .clo _ _, _, h, _, _ => exact h.elim
theorem mu_pop : MtR X "list.pop" (rmuM RX X.K .pop) := by
  intro pins s σ H x vs v us Q I rx rxs ⟨w, S, p, ps, WK, rs, r1, r2, h⟩
  match p, ps, h, r1, r2 with
  | .r c, [], h, r1, r2 =>
    have h : Post RX X.K (RV X.K) w H (match S[c]? with
      | some (.lst xs) => match xs.getLast? with
        | some v => .ok v (S.set c (.lst xs.dropLast))
        | none => .bad
      | _ => .bad) WK Q := h
    cases e : S[c]? with
    | none => rw [e] at h; exact h.elim
    | some cl =>
      rw [e] at h
      cases cl with
      | dct _ => exact h.elim
      | lst xs =>
        dsimp only at h
        cases e2 : xs.getLast? with
        | none => rw [e2] at h; exact h.elim
        | some q =>
          rw [e2] at h
          obtain ⟨a, ys, ea, rfl, hH, rv, bl⟩ := cell_at rs r1 e
          cases r2
          obtain ⟨x1, rs1⟩ := put_lst rs ea (rvs_dropLast rv) (fun z hz => bl z ((List.dropLast_sublist _).subset hz))
          rw [List.getLast?_eq_getElem?] at e2
          obtain ⟨y, e3, ry⟩ := rv.get e2
          exact mt_pop pins s σ H _ _ v us Q I rx rxs ⟨a, ys, y, rfl, rfl, hH, by rw [← rv.len]; exact e3, h w _ _ x1 rs1 (ry.ext x1)⟩
  | .r c, _ :: _, h, _, _ => exact h.elim
  | .d _, [], h, _, _ => exact h.elim
  | .d _, _ :: _, h, _, _ => exact h.elim
  | .x _ _, _, h, _, _ => exact h.elim
  | .s _, _, h, _, _ => exact h.elim
  | .f _, _, h, _, _ => exact h.elim
  | .clo _ _, _, h, _, _ => exact h.elim
theorem mu_pop1 : MtR X "list.pop" (rmuM RX X.K .pop1) := by
  intro pins s σ H x vs v us Q I rx rxs ⟨w, S, p, ps, WK, rs, r1, r2, h⟩
  match p, ps, h, r1, r2 with
  | .r c, [.d (.int i)], h, r1, r2 =>
    have h : Post RX X.K (RV X.K) w H (match S[c]? with
      | some (.lst xs) => match ixAt xs.length i with
        | some j => match xs[j]? with
          | some v => .ok v (S.set c (.lst (xs.eraseIdx j)))
          | none => .bad
        | none => .bad
      | _ => .bad) WK Q := h
    cases e : S[c]? with
    | none => rw [e] at h; exact h.elim
    | some cl =>
      rw [e] at h
      cases cl with
      | dct _ => exact h.elim
      | lst xs =>
        dsimp only at h
        cases e1 : ixAt xs.length i with
        | none => rw [e1] at h; exact h.elim
        | some j =>
          rw [e1] at h
          dsimp only at h
          cases e2 : xs[j]? with
          | none => rw [e2] at h; exact h.elim
          | some q =>
            rw [e2] at h
            obtain ⟨a, ys, ea, rfl, hH, rv, bl⟩ := cell_at rs r1 e
            obtain ⟨y, rfl, ry⟩ := rv1 r2
            cases ry
            obtain ⟨x1, rs1⟩ := put_lst rs ea (rvs_erase j rv) (fun z hz => bl z (List.mem_of_mem_eraseIdx hz))
            obtain ⟨y, e3, ry⟩ := rv.get e2
            obtain ⟨g1, g2, g3, g4⟩ := ixN_seq (show ixN xs.length i = some j from e1)
            obtain ⟨zz, its, nn, rits, hl, eo⟩ := I.lstM hH
            have hle : xs.length ≤ 16777216 := by rw [rv.len]; have := zz; rw [sizeLine_eq] at this; exact this
            exact mt_popAt pins s σ H _ _ v us Q I rx rxs ⟨a, ys, i, j, y, rfl, rfl, hH, by omega, by omega, by rw [← rv.len]; exact g1, e3, h w _ _ x1 rs1 (ry.ext x1)⟩
  | .r c, [], h, _, _ => exact h.elim
  | .r c, [.d .none], h, _, _ => exact h.elim
  | .r c, [.d (.bool _)], h, _, _ => exact h.elim
  | .r c, [.d (.str _)], h, _, _ => exact h.elim
  | .r c, [.d (.tuple _)], h, _, _ => exact h.elim
  | .r c, [.d (.list _)], h, _, _ => exact h.elim
  | .r c, [.d (.dict _)], h, _, _ => exact h.elim
  | .r c, [.r _], h, _, _ => exact h.elim
  | .r c, [.x _ _], h, _, _ => exact h.elim
  | .r c, [.s _], h, _, _ => exact h.elim
  | .r c, [.f _], h, _, _ => exact h.elim
  | .r c, [.clo _ _], h, _, _ => exact h.elim
  | .r c, y :: y2 :: r, h, _, _ => exact False.elim (by
      cases y with
      | d x => cases x <;> exact h
      | r _ => exact h
      | x _ _ => exact h
      | s _ => exact h
      | f _ => exact h
      | clo _ _ => exact h)
  | .d _, _, h, _, _ => exact h.elim
  | .x _ _, _, h, _, _ => exact h.elim
  | .s _, _, h, _, _ => exact h.elim
  | .f _, _, h, _, _ => exact h.elim
  | .clo _ _, _, h, _, _ => exact h.elim
theorem mu_extend : MtR X "list.extend" (rmuM RX X.K .extend) := by
  intro pins s σ H x vs v us Q I rx rxs ⟨w, S, p, ps, WK, rs, r1, r2, h⟩
  match p, ps, h, r1, r2 with
  | .r c, [q], h, r1, r2 =>
    have h : Post RX X.K (RV X.K) w H (match S[c]? with
      | some (.lst xs) => match lstD S q with
        | some ys => if xs.length + ys.length ≤ sizeLine then .ok .none (S.set c (.lst (xs ++ ys.map .d))) else .bad
        | none => .bad
      | _ => .bad) WK Q := h
    cases e : S[c]? with
    | none => rw [e] at h; exact h.elim
    | some cl =>
      rw [e] at h
      cases cl with
      | dct _ => exact h.elim
      | lst xs =>
        dsimp only at h
        cases e2 : lstD S q with
        | none => rw [e2] at h; exact h.elim
        | some zs =>
          rw [e2] at h
          dsimp only at h
          split at h
          · rename_i hl
            obtain ⟨a, ys, ea, rfl, hH, rv, bl⟩ := cell_at rs r1 e
            obtain ⟨y, rfl, ry⟩ := rv1 r2
            obtain ⟨b, us', rfl, hB, rd⟩ := lstD_at rs e2 ry
            obtain ⟨x1, rs1⟩ := put_lst rs ea (rvs_app rv (rds_rvs rd)) (fun z hz => (List.mem_append.mp hz).elim (bl z) fun q2 => by
              obtain ⟨d, _, rfl⟩ := List.mem_map.mp q2
              rfl)
            exact mt_extend pins s σ H _ _ v us Q I rx rxs ⟨a, b, ys, us', rfl, rfl, hH, hB, by rw [← rv.len, ← rd.len]; exact hl, h w _ _ x1 rs1 .none⟩
          · exact h.elim
  | .r c, [], h, _, _ => exact h.elim
  | .r c, _ :: _ :: _, h, _, _ => exact h.elim
  | .d _, [], h, _, _ => exact h.elim
  | .d _, _ :: _, h, _, _ => exact h.elim
  | .x _ _, _, h, _, _ => exact h.elim
  | .s _, _, h, _, _ => exact h.elim
  | .f _, _, h, _, _ => exact h.elim
  | .clo _ _, _, h, _, _ => exact h.elim
def muN : Mu → Str
  | .append => "append" | .pop => "pop" | .pop1 => "pop" | .extend => "extend"
theorem mu_fin {m : Mu} {o e0 : Expr} {dobj : Env' → Sto → Res PV} {ds : Env' → Sto → Res (List PV)} (key : PE X e0 (tBM X.K "list" (rmuM RX X.K m) (tE RX X.K W dobj) (tA RX X.K W ds))) :
    PE X e0 (tE RX X.K W fun e S => (dobj e S).bind fun x S1 => if isL S1 x then (ds e S1).bind fun vs S2 => muV S2 m x vs else .bad) := key.imp fun σ H Q h => by
  refine tD.bind h fun w1 e v S x H1 re1 rs1 rv1 h1 => ?_
  cases hk : isL S v with
  | false => rw [hk] at h1; exact h1.elim
  | true =>
    rw [hk] at h1
    refine ⟨isL_ty rs1 rv1 hk, w1, e, S, re1, rs1, Post.bind h1 fun vs S2 w2 H2 xs ext2 rs2 rv2 h2 => ?_⟩
    exact ⟨w2, S2, v, vs, _, rs2, rv1.ext ext2, rv2, h2⟩
theorem d_mu1 {m : Mu} {o : Expr} {dobj : Env' → Sto → Res PV} {apos : Pos} (hm : m ≠ .pop) (ho : PE X o (tE RX X.K W dobj)) (ha : PE X a (tE RX X.K W da)) (hn : noStar a = true)
    (hbase : attributeBase o (muN m) X.env (eval o X.env) = eval o X.env) (hline : (apos.endLine == pos.line) = true) :
    PE X (.Call (.Attribute o (muN m) apos) [a] [] pos) (tE RX X.K W fun e S => (dobj e S).bind fun x S1 => if isL S1 x then ((da e S1).bind fun y S2 => (Res.ok ([] : List PV) S2).bind fun ys S3 => .ok (y :: ys) S3).bind fun vs S2 => muV S2 m x vs else .bad) := by
  have pa : PA X [a] (tA RX X.K W fun e S => (da e S).bind fun y S2 => (Res.ok ([] : List PV) S2).bind fun ys S3 => .ok (y :: ys) S3) := d_cons (ds := fun _ S => .ok [] S) hn ha d_nil
  refine mu_fin (o := o) (ds := fun e S => (da e S).bind fun y S2 => (Res.ok ([] : List PV) S2).bind fun ys S3 => .ok (y :: ys) S3) ?_
  cases m with
  | append => exact pe_bm PySem.F.plainAttrs_list PySem.F.slot_list_append PySem.F.type_list_append mu_append ho pa hbase (few1 hn _ _) hline (star_cons hn _ _) (star_any _ _ rfl)
  | pop => exact absurd rfl hm
  | pop1 => exact pe_bm PySem.F.plainAttrs_list PySem.F.slot_list_pop PySem.F.type_list_pop mu_pop1 ho pa hbase (few1 hn _ _) hline (star_cons hn _ _) (star_any _ _ rfl)
  | extend => exact pe_bm PySem.F.plainAttrs_list PySem.F.slot_list_extend PySem.F.type_list_extend mu_extend ho pa hbase (few1 hn _ _) hline (star_cons hn _ _) (star_any _ _ rfl)
theorem d_mu0 {o : Expr} {dobj : Env' → Sto → Res PV} {apos : Pos} (ho : PE X o (tE RX X.K W dobj))
    (hbase : attributeBase o "pop" X.env (eval o X.env) = eval o X.env) (hline : (apos.endLine == pos.line) = true) :
    PE X (.Call (.Attribute o "pop" apos) [] [] pos) (tE RX X.K W fun e S => (dobj e S).bind fun x S1 => if isL S1 x then (Res.ok ([] : List PV) S1).bind fun vs S2 => muV S2 .pop x vs else .bad) := by
  refine (pe_bm0 PySem.F.plainAttrs_list PySem.F.slot_list_pop PySem.F.type_list_pop (mu_pop (RX := RX)) ho hbase hline).imp fun σ H Q h => ?_
  refine tD.bind h fun w1 e v S x H1 re1 rs1 rv1 h1 => ?_
  cases hk : isL S v with
  | false => rw [hk] at h1; exact h1.elim
  | true =>
    rw [hk] at h1
    exact ⟨isL_ty rs1 rv1 hk, w1, S, v, [], _, rs1, rv1, .nil, h1⟩
end
end Mn

end

section
set_option Elab.async false
set_option linter.all false
set_option maxRecDepth 100000
set_option maxHeartbeats 1000000
/-! MnDen5: what loops and comprehensions walk. -/
namespace Mn
open PySem PySem.Spec PyProof.Rows L2
/-- less than Ext: what stands privately may change -/
structure Ext0 (w : Wd) (H : Hp) (w' : Wd) (H' : Hp) : Prop where
  fz : ∀ a, w.fz a → w'.fz a
  keep : ∀ a o, w.fz a → H a = some o → H' a = some o
  m : ∃ l, w'.m = w.m ++ l
  xa : w'.xa = w.xa
theorem Ext.to0 {w w' : Wd} {H H' : Hp} (x : Ext w H w' H') : Ext0 w H w' H' := ⟨x.fz, x.keep, x.m, x.xa⟩
theorem Ext0.refl (w : Wd) (H : Hp) : Ext0 w H w H := ⟨fun _ h => h, fun _ _ _ h => h, ⟨[], by simp⟩, rfl⟩
theorem Ext0.trans {w w' w'' : Wd} {H H' H'' : Hp} (a : Ext0 w H w' H') (b : Ext0 w' H' w'' H'') : Ext0 w H w'' H'' :=
  ⟨fun x h => b.fz x (a.fz x h), fun x o h q => b.keep x o (a.fz x h) (a.keep x o h q), by
    obtain ⟨l, e⟩ := a.m
    obtain ⟨l', e'⟩ := b.m
    exact ⟨l ++ l', by rw [e', e, List.append_assoc]⟩, b.xa.trans a.xa⟩
theorem Ext0.at {w w' : Wd} {H H' : Hp} (a : Ext0 w H w' H') (i : Nat) (x : Addr) (h : w.m[i]? = some x) : w'.m[i]? = some x := by
  obtain ⟨l, e⟩ := a.m
  have hi : i < w.m.length := (List.getElem?_eq_some_iff.mp h).1
  rw [e, List.getElem?_append_left hi]; exact h
theorem RV.ext0 {K : PySem.W.Frag} {w w' : Wd} {H H' : Hp} (x : Ext0 w H w' H') {p : PV} {v : V} (h : RV K w H p v) : RV K w' H' p v := h.mono x.fz x.keep x.at x.xa
theorem RVs.ext0 {K : PySem.W.Frag} {w w' : Wd} {H H' : Hp} (x : Ext0 w H w' H') {p : List PV} {v : List V} (h : RVs K w H p v) : RVs K w' H' p v := Paired.imp (fun _ _ => RV.ext0 x) h
theorem Ext0.noth {w w' : Wd} {H H' : Hp} (x : Ext0 w H w' H') : Ext0 { w with xa := { w.xa with er := none, th := none } } H { w' with xa := { w'.xa with er := none, th := none } } H' := ⟨x.fz, x.keep, x.m, by show ({ w'.xa with er := none, th := none } : Xa) = { w.xa with er := none, th := none }; rw [x.xa]⟩
theorem ThR.ext0 {K : PySem.W.Frag} {w w' : Wd} {H H' : Hp} (x : Ext0 w H w' H') {t : Thk} (h : ThR K w H t) : ThR K w' H' t := ⟨⟨x.fz _ h.1.1, x.keep _ _ h.1.1 h.1.2⟩, h.2.1, fun i p q => by
  obtain ⟨v, a, b⟩ := h.2.2 i p q
  exact ⟨v, a, b.ext0 x.noth⟩⟩
theorem RE.ext0 {K : PySem.W.Frag} {w w' : Wd} {H H' : Hp} {RX : Pm} (x : Ext0 w H w' H') {e : Env'} {σ : L2.St} (h : RE K w H RX e σ) : RE K w' H' RX e σ := ⟨x.xa.trans h.xa, h.len, fun i p q => by
  obtain ⟨v, a, b⟩ := h.at_ i p q
  exact ⟨v, a, b.ext0 x⟩, fun t q => (h.th t (by rw [← x.xa]; exact q)).ext0 x⟩
/-- a source as it stands: the iterator gives its items -/
def SrcOk (K : PySem.W.Frag) (w : Wd) (H : Hp) (s : Src) (J : L2.It) : Prop := ∀ w' H' S', Ext0 w H w' H' → RS K w' H' S' → ∀ (i : Nat), match s.next i S' with
  | none => True
  | some none => J.stop i H'
  | some (some x) => J.go i H' ∧ ∀ y H2, J.yld i H' y H2 → ∃ w2, Ext w' H' w2 H2 ∧ RS K w2 H2 S' ∧ RV K w2 H2 x y
abbrev tI (RX : XRel) (K : PySem.W.Frag) (W : WX) (den : Env' → Sto → Res Src) : TI := tD RX K W (SrcOk K) den
section
variable {K : PySem.W.Frag} {w : Wd} {H : Hp}
/-- values that stay: an iterator that yields them -/
theorem srcOk_vals {xs : List PV} {J : L2.It} (hs : ∀ w' H', Ext0 w H w' H' → ∀ (i : Nat), xs.length ≤ i → J.stop i H')
    (hg : ∀ w' H' S', Ext0 w H w' H' → RS K w' H' S' → ∀ (i : Nat) x, xs[i]? = some x → J.go i H' ∧ ∀ y H2, J.yld i H' y H2 → ∃ w2, Ext w' H' w2 H2 ∧ RS K w2 H2 S' ∧ RV K w2 H2 x y) : SrcOk K w H (.vals xs) J := by
  intro w' H' S' ext rs i
  show match (some xs[i]? : Option (Option PV)) with
    | none => True
    | some none => J.stop i H'
    | some (some x) => J.go i H' ∧ ∀ y H2, J.yld i H' y H2 → ∃ w2, Ext w' H' w2 H2 ∧ RS K w2 H2 S' ∧ RV K w2 H2 x y
  cases e : xs[i]? with
  | none => exact hs w' H' ext i (List.getElem?_eq_none_iff.mp e)
  | some x => exact hg w' H' S' ext rs i x e
theorem srcOk_lst {a : Addr} {vs : List V} {xs : List PV} (hL : ∀ w' H', Ext0 w H w' H' → SqL K H' a vs) (rv : RVs K w H xs vs) : SrcOk K w H (.vals xs) (Itl K a) := by
  refine srcOk_vals (fun w' H' ext i hi => ⟨vs, hL w' H' ext, by rw [← rv.len]; exact hi⟩) fun w' H' S' ext rs i x e => ?_
  obtain ⟨v, e1, e2⟩ := rv.get e
  refine ⟨⟨vs, v, hL w' H' ext, e1⟩, fun y H2 ⟨eH, hy⟩ => ?_⟩
  subst eH
  have e3 := hy vs (hL w' H2 ext)
  rw [e1] at e3
  cases e3
  exact ⟨w', Ext.refl _ _, rs, e2.ext0 ext⟩
theorem srcOk_tup {a : Addr} {vs : List V} {xs : List PV} (hL : ∀ w' H', Ext0 w H w' H' → SqT K H' a vs) (rv : RVs K w H xs vs) : SrcOk K w H (.vals xs) (Itt K a) := by
  refine srcOk_vals (fun w' H' ext i hi => ⟨vs, hL w' H' ext, by rw [← rv.len]; exact hi⟩) fun w' H' S' ext rs i x e => ?_
  obtain ⟨v, e1, e2⟩ := rv.get e
  refine ⟨⟨vs, v, hL w' H' ext, e1⟩, fun y H2 ⟨eH, hy⟩ => ?_⟩
  subst eH
  have e3 := hy vs (hL w' H2 ext)
  rw [e1] at e3
  cases e3
  exact ⟨w', Ext.refl _ _, rs, e2.ext0 ext⟩
theorem srcOk_str {s : Str} : SrcOk K w H (.vals (strP s)) (Its s) := by
  have hl : (strP s).length = s.cps.size := by simp [strP]
  refine srcOk_vals (fun w' H' ext i hi => by rw [hl] at hi; exact hi) fun w' H' S' ext rs i x e => ?_
  have hi : i < s.cps.size := by rw [← hl]; exact (List.getElem?_eq_some_iff.mp e).1
  refine ⟨hi, fun y H2 ⟨eH, c, e1, e2⟩ => ?_⟩
  subst eH e2
  refine ⟨w', Ext.refl _ _, rs, ?_⟩
  unfold strP at e
  rw [List.getElem?_map, Array.getElem?_toList, e1] at e
  cases e
  exact .str _
theorem srcOk_cell {j : Nat} {a : Addr} (ea : w.m[j]? = some a) : SrcOk K w H (.cell j) (Itl K a) := by
  intro w' H' S' ext rs i
  have ea' := ext.at j a ea
  obtain ⟨cl, es, _, rc⟩ := rs.at ea'
  show match (match S'[j]? with
      | some (.lst xs) => some xs[i]?
      | _ => none : Option (Option PV)) with
    | none => True
    | some none => (Itl K a).stop i H'
    | some (some x) => (Itl K a).go i H' ∧ ∀ y H2, (Itl K a).yld i H' y H2 → ∃ w2, Ext w' H' w2 H2 ∧ RS K w2 H2 S' ∧ RV K w2 H2 x y
  rw [es]
  cases cl with
  | dct _ => trivial
  | lst xs =>
    obtain ⟨vs, hH, rv, _⟩ := rc
    dsimp only
    cases e : xs[i]? with
    | none => exact ⟨vs, SqL.of hH, by rw [← rv.len]; exact List.getElem?_eq_none_iff.mp e⟩
    | some x =>
      obtain ⟨v, e1, e2⟩ := rv.get e
      refine ⟨⟨vs, v, SqL.of hH, e1⟩, fun y H2 ⟨eH, hy⟩ => ?_⟩
      subst eH
      have e3 := hy vs (SqL.of hH)
      rw [e1] at e3
      cases e3
      exact ⟨w', Ext.refl _ _, rs, e2⟩
theorem rgL_get {a c : Int} {n i : Nat} {x : PV} (h : (rgL a n c)[i]? = some x) : i < n ∧ x = .int (a + i * c) := by
  unfold rgL at h
  rw [List.getElem?_map] at h
  obtain ⟨k, e1, e2⟩ := Option.map_eq_some_iff.mp h
  have hi := (List.getElem?_eq_some_iff.mp e1).1
  rw [List.length_range] at hi
  rw [List.getElem?_range hi] at e1
  cases e1
  exact ⟨hi, e2.symm⟩
theorem rgL_len {a c : Int} {n : Nat} : (rgL a n c).length = n := by simp [rgL]
theorem srcOk_rng {a : Int} {n : Nat} : SrcOk K w H (.vals (rgL a n 1)) (Itr a n) := by
  refine srcOk_vals (fun w' H' ext i hi => by rw [rgL_len] at hi; exact hi) fun w' H' S' ext rs i x e => ?_
  obtain ⟨hi, rfl⟩ := rgL_get e
  refine ⟨hi, fun y H2 ⟨eH, e1⟩ => ?_⟩
  subst eH e1
  refine ⟨w', Ext.refl _ _, rs, ?_⟩
  rw [Int.mul_one]
  exact .int _
theorem srcOk_rngC {a c : Int} {n : Nat} : SrcOk K w H (.vals (rgL a n c)) (Itc a c n) := by
  refine srcOk_vals (fun w' H' ext i hi => by rw [rgL_len] at hi; exact hi) fun w' H' S' ext rs i x e => ?_
  obtain ⟨hi, rfl⟩ := rgL_get e
  refine ⟨hi, fun y H2 ⟨eH, e1⟩ => ?_⟩
  subst eH e1
  exact ⟨w', Ext.refl _ _, rs, .int _⟩
theorem RDs.get {xs : List PyData} {vs : List V} (r : RDs K w H xs vs) {i : Nat} {x : PyData} (e : xs[i]? = some x) : ∃ v, vs[i]? = some v ∧ RD K w H x v := by
  rcases r.getd i with ⟨h, _⟩ | ⟨y, v, h1, h2, h3⟩
  · rw [h] at e; cases e
  · rw [h1] at e; cases e; exact ⟨v, h2, h3⟩
theorem RD.ext0 {w' : Wd} {H' : Hp} (x : Ext0 w H w' H') {p : PyData} {v : V} (h : RD K w H p v) : RD K w' H' p v := h.mono x.fz x.keep
/-- a new pair -/
theorem pair_ok {w' : Wd} {H' : Hp} {S' : Sto} {T : Addr} {x y : PyData} {v u : V} (rs : RS K w' H' S') (hT : H' T = none) (r1 : RD K w' H' x v) (r2 : RD K w' H' y u) :
    ∃ w2, Ext w' H' w2 (upd H' T (.tup [v, u])) ∧ RS K w2 (upd H' T (.tup [v, u])) S' ∧ RV K w2 (upd H' T (.tup [v, u])) (PV.tup [x, y]) (.ref T) :=
  ⟨w'.frozen T, ext_frozen rs hT, rs_frozen rs hT, .tup (.inl ⟨.inr rfl, .inl upd_same⟩) (.cons (r1.ext (ext_frozen rs hT)) (.cons (r2.ext (ext_frozen rs hT)) .nil))⟩
theorem zipD_get {a b : List PyData} {i : Nat} {p : PV} (h : (zipD a b)[i]? = some p) : ∃ x y, a[i]? = some x ∧ b[i]? = some y ∧ p = PV.tup [x, y] := by
  unfold zipD at h
  rw [List.getElem?_map] at h
  obtain ⟨q, e1, e2⟩ := Option.map_eq_some_iff.mp h
  obtain ⟨h1, h2⟩ := List.getElem?_zip_eq_some.mp e1
  exact ⟨q.1, q.2, h1, h2, e2.symm⟩
theorem zipD_len {a b : List PyData} : (zipD a b).length = min a.length b.length := by simp [zipD]
theorem srcOk_zipT {a b : Addr} {vs us : List V} {xs ys : List PyData} (h1 : TupAt K w H a vs) (h2 : TupAt K w H b us) (r1 : RDs K w H xs vs) (r2 : RDs K w H ys us) : SrcOk K w H (.vals (zipD xs ys)) (RZ.ItzT K a b) := by
  have q1 : ∀ w' H', Ext0 w H w' H' → SqT K H' a vs := fun w' H' x => (h1.mono x.fz x.keep).sq
  have q2 : ∀ w' H', Ext0 w H w' H' → SqT K H' b us := fun w' H' x => (h2.mono x.fz x.keep).sq
  refine srcOk_vals (fun w' H' ext i hi => ⟨vs, us, q1 w' H' ext, q2 w' H' ext, by rw [zipD_len] at hi; rw [← r1.len, ← r2.len]; omega⟩) fun w' H' S' ext rs i p e => ?_
  obtain ⟨x, y, e1, e2, rfl⟩ := zipD_get e
  obtain ⟨v, g1, g2⟩ := r1.get e1
  obtain ⟨u, g3, g4⟩ := r2.get e2
  refine ⟨⟨vs, us, v, u, q1 w' H' ext, q2 w' H' ext, g1, g3⟩, fun z H2 ⟨T, v', u', ez, hT, eH, f1, f2⟩ => ?_⟩
  have e3 := f1 vs (q1 w' H' ext)
  have e4 := f2 us (q2 w' H' ext)
  rw [g1] at e3
  rw [g3] at e4
  cases e3
  cases e4
  subst ez eH
  exact pair_ok rs hT (g2.ext0 ext) (g4.ext0 ext)
theorem srcOk_zipL {a b : Addr} {vs us : List V} {xs ys : List PyData} (h1 : LstAt w H a vs) (h2 : LstAt w H b us) (r1 : RDs K w H xs vs) (r2 : RDs K w H ys us) : SrcOk K w H (.vals (zipD xs ys)) (Itz K a b) := by
  have q1 : ∀ w' H', Ext0 w H w' H' → SqL K H' a vs := fun w' H' x => (h1.mono x.fz x.keep).sq
  have q2 : ∀ w' H', Ext0 w H w' H' → SqL K H' b us := fun w' H' x => (h2.mono x.fz x.keep).sq
  refine srcOk_vals (fun w' H' ext i hi => ⟨vs, us, q1 w' H' ext, q2 w' H' ext, by rw [zipD_len] at hi; rw [← r1.len, ← r2.len]; omega⟩) fun w' H' S' ext rs i p e => ?_
  obtain ⟨x, y, e1, e2, rfl⟩ := zipD_get e
  obtain ⟨v, g1, g2⟩ := r1.get e1
  obtain ⟨u, g3, g4⟩ := r2.get e2
  refine ⟨⟨vs, us, v, u, q1 w' H' ext, q2 w' H' ext, g1, g3⟩, fun z H2 ⟨T, v', u', ez, hT, eH, f1, f2⟩ => ?_⟩
  have e3 := f1 vs (q1 w' H' ext)
  have e4 := f2 us (q2 w' H' ext)
  rw [g1] at e3
  rw [g3] at e4
  cases e3
  cases e4
  subst ez eH
  exact pair_ok rs hT (g2.ext0 ext) (g4.ext0 ext)
theorem srcOk_zipM {a b : Addr} {vs us : List V} {xs ys : List PyData} (h1 : LstAt w H a vs) (h2 : TupAt K w H b us) (r1 : RDs K w H xs vs) (r2 : RDs K w H ys us) : SrcOk K w H (.vals (zipD xs ys)) (ItzM K a b) := by
  have q1 : ∀ w' H', Ext0 w H w' H' → SqL K H' a vs := fun w' H' x => (h1.mono x.fz x.keep).sq
  have q2 : ∀ w' H', Ext0 w H w' H' → SqT K H' b us := fun w' H' x => (h2.mono x.fz x.keep).sq
  refine srcOk_vals (fun w' H' ext i hi => ⟨vs, us, q1 w' H' ext, q2 w' H' ext, by rw [zipD_len] at hi; rw [← r1.len, ← r2.len]; omega⟩) fun w' H' S' ext rs i p e => ?_
  obtain ⟨x, y, e1, e2, rfl⟩ := zipD_get e
  obtain ⟨v, g1, g2⟩ := r1.get e1
  obtain ⟨u, g3, g4⟩ := r2.get e2
  refine ⟨⟨vs, us, v, u, q1 w' H' ext, q2 w' H' ext, g1, g3⟩, fun z H2 ⟨T, v', u', ez, hT, eH, f1, f2⟩ => ?_⟩
  have e3 := f1 vs (q1 w' H' ext)
  have e4 := f2 us (q2 w' H' ext)
  rw [g1] at e3
  rw [g3] at e4
  cases e3
  cases e4
  subst ez eH
  exact pair_ok rs hT (g2.ext0 ext) (g4.ext0 ext)
theorem enumD_get : ∀ {xs : List PyData} {k i : Nat} {p : PV}, (enumD k xs)[i]? = some p → ∃ x, xs[i]? = some x ∧ p = PV.tup [.int ((k + i : Nat) : Int), x]
  | [], _, _, _, h => by simp [enumD] at h
  | x :: xs, k, 0, p, h => by simp [enumD] at h; exact ⟨x, rfl, by rw [← h]; rfl⟩
  | x :: xs, k, i + 1, p, h => by
    obtain ⟨y, e1, e2⟩ := enumD_get (k := k + 1) (i := i) (by simpa [enumD] using h)
    exact ⟨y, by simpa using e1, by rw [e2, show k + 1 + i = k + (i + 1) by omega]⟩
theorem enumD_len : ∀ (xs : List PyData) (k : Nat), (enumD k xs).length = xs.length
  | [], _ => rfl
  | _ :: xs, k => by simp [enumD, enumD_len xs (k + 1)]
theorem srcOk_enum {a : Addr} {vs : List V} {xs : List PyData} (h1 : LstAt w H a vs) (r1 : RDs K w H xs vs) : SrcOk K w H (.vals (enumD 0 xs)) (Ite K a) := by
  have q1 : ∀ w' H', Ext0 w H w' H' → SqL K H' a vs := fun w' H' x => (h1.mono x.fz x.keep).sq
  refine srcOk_vals (fun w' H' ext i hi => ⟨vs, q1 w' H' ext, by rw [enumD_len] at hi; rw [← r1.len]; exact hi⟩) fun w' H' S' ext rs i p e => ?_
  obtain ⟨x, e1, rfl⟩ := enumD_get e
  obtain ⟨v, g1, g2⟩ := r1.get e1
  refine ⟨⟨vs, v, q1 w' H' ext, g1⟩, fun z H2 ⟨T, v', ez, hT, eH, f1⟩ => ?_⟩
  have e3 := f1 vs (q1 w' H' ext)
  rw [g1] at e3
  cases e3
  subst ez eH
  rw [Nat.zero_add]
  exact pair_ok rs hT (.int _) (g2.ext0 ext)
theorem srcOk_enumT {a : Addr} {vs : List V} {xs : List PyData} (h1 : TupAt K w H a vs) (r1 : RDs K w H xs vs) : SrcOk K w H (.vals (enumD 0 xs)) (IteT K a) := by
  have q1 : ∀ w' H', Ext0 w H w' H' → SqT K H' a vs := fun w' H' x => (h1.mono x.fz x.keep).sq
  refine srcOk_vals (fun w' H' ext i hi => ⟨vs, q1 w' H' ext, by rw [enumD_len] at hi; rw [← r1.len]; exact hi⟩) fun w' H' S' ext rs i p e => ?_
  obtain ⟨x, e1, rfl⟩ := enumD_get e
  obtain ⟨v, g1, g2⟩ := r1.get e1
  refine ⟨⟨vs, v, q1 w' H' ext, g1⟩, fun z H2 ⟨T, v', ez, hT, eH, f1⟩ => ?_⟩
  have e3 := f1 vs (q1 w' H' ext)
  rw [g1] at e3
  cases e3
  subst ez eH
  rw [Nat.zero_add]
  exact pair_ok rs hT (.int _) (g2.ext0 ext)
end
/-! ### the expressions walked -/
section
variable {X : Cx} {tg : Expr}
/-- a list, a tuple, a str, as it comes -/
def iDyn (K : PySem.W.Frag) (tl : TE) : TI := fun σ H R => tl σ H fun x H1 => (∃ a, x = .ref a ∧ (∃ xs, SqL K H1 a xs) ∧ R (Itl K a) H1) ∨ (∃ a, x = .ref a ∧ (∃ xs, SqT K H1 a xs) ∧ R (Itt K a) H1) ∨ ∃ s, x = .str s ∧ R (Its s) H1
theorem pi_dyn {l : Expr} {tl : TE} (hl : PE X l tl) : PI X tg l (iDyn X.K tl) := by
  refine ⟨fun pins s σ H R I h => ?_⟩
  refine thn (hl.run pins s σ H _ I h) fun v s1 ⟨x, H1, I1, r1, q1⟩ => ?_
  rcases q1 with ⟨a, e, ⟨xs, hq⟩, q⟩ | ⟨a, e, ⟨xs, hq⟩, q⟩ | ⟨y, e, q⟩
  · subst e
    cases r1
    obtain ⟨its, rv, p, hz⟩ := I1.list hq
    refine wpAny_pyIter_list p.isList ?_
    exact pi_one (tk := s1.toks) I1 _ (turn_list a _) ⟨_, Heap.get?_push_size _ rfl, rfl, rfl⟩ q
  · subst e
    cases r1
    obtain ⟨its, rv, p, hz⟩ := I1.tuple hq
    refine wpAny_pyIter_tuple (show s1.heap.IsTuple a its.toArray from p) ?_
    exact pi_one (tk := s1.toks) I1 _ (turn_tuple a _) ⟨_, Heap.get?_push_size _ rfl, rfl, rfl⟩ q
  · subst e
    obtain ⟨t, rfl⟩ := r1
    cases ha : y.cps.all (· < 128)
    · exact wpAny_pyIter_wide ha (pi_one (tk := s1.toks) I1 _ (turn_str _ y t "str_iterator" (.inr rfl)) ⟨_, Heap.get?_push_size _ rfl, rfl, rfl⟩ q)
    · exact wpAny_pyIter_ascii ha (pi_one (tk := s1.toks) I1 _ (turn_str _ y t "str_ascii_iterator" (.inl rfl)) ⟨_, Heap.get?_push_size _ rfl, rfl, rfl⟩ q)
end
section
variable {X : Cx} {RX : XRel} {W : WX} {tg a b c : Expr} {da db dc : Env' → Sto → Res PV} {pos p : Pos}
theorem d_itE (ha : PE X a (tE RX X.K W da)) : PI X tg a (tI RX X.K W fun e S => (da e S).bind fun x S1 => .ofOpt (srcV S1 x) S1) := (pi_dyn ha).imp fun σ H Q h => by
  refine tD.bind h fun w1 e v S x H1 re1 rs1 rv1 h1 => ?_
  obtain ⟨z, e1, an⟩ := h1.opt
  have fin : ∀ J, SrcOk X.K w1 H1 z J → Q J H1 := fun J ok => an w1 H1 J (Ext.refl _ _) rs1 ok
  cases v with
  | d y =>
    cases y with
    | tuple xs =>
      cases e1
      cases rv1 with
      | tup h2 q => exact .inr (.inl ⟨_, rfl, ⟨_, h2.sq⟩, fin _ (srcOk_tup (fun w' H' x => (h2.mono x.fz x.keep).sq) (rds_rvs q))⟩)
    | list xs =>
      cases e1
      cases rv1 with
      | lst h2 q => exact .inl ⟨_, rfl, ⟨_, h2.sq⟩, fin _ (srcOk_lst (fun w' H' x => (h2.mono x.fz x.keep).sq) (rds_rvs q))⟩
    | str s =>
      cases e1
      cases rv1
      exact .inr (.inr ⟨s, rfl, fin _ srcOk_str⟩)
    | _ => cases e1
  | r j =>
    obtain ⟨ad, ea, rfl⟩ := rv1
    obtain ⟨cl, es, _, rc⟩ := rs1.at ea
    simp only [srcV] at e1
    rw [es] at e1
    cases cl with
    | dct _ => cases e1
    | lst xs =>
      obtain ⟨vs, hH, _⟩ := rc
      cases e1
      exact .inl ⟨ad, rfl, ⟨vs, SqL.of hH⟩, fin _ (srcOk_cell ea)⟩
  | x _ _ => cases e1
  | s _ => cases e1
  | f _ => cases e1
  | clo _ _ => cases e1
theorem rg1_some {i j : Int} {xs : List PV} (h : rg1 i j = some xs) : (-(2 ^ 62) ≤ i ∧ i < 2 ^ 62 ∧ -(2 ^ 62) ≤ j ∧ j < 2 ^ 62) ∧ (j - i).toNat ≤ 16777216 ∧ xs = rgL i (j - i).toNat 1 := by
  unfold rg1 at h
  split at h
  · rename_i hk
    cases h
    unfold rgOk at hk
    simp only [Bool.and_eq_true, decide_eq_true_eq] at hk
    exact ⟨⟨hk.1, hk.2.1, hk.2.2.1, hk.2.2.2.1⟩, hk.2.2.2.2, rfl⟩
  · cases h
theorem d_rng (hg : Gl X "range") (hm : X.mg "range" = none) (hn : noStar a = true) (ha : PE X a (tE RX X.K W da)) :
    PI X tg (.Call (.Name "range" p) [a] [] pos) (tI RX X.K W fun e S => (da e S).bind fun x S1 => .ofOpt ((intP x).bind fun j => (rg1 0 j).map Src.vals) S1) := (pi_range1 hg hm (pa_cons ha pa_nil (star_cons hn _ _)) (star_cons hn _ _)).imp fun σ H Q h => by
  refine tD.bind h fun w1 e v S x H1 re1 rs1 rv1 h1 => ?_
  obtain ⟨z, e1, an⟩ := h1.opt
  obtain ⟨j, e2, e3⟩ := Option.bind_eq_some_iff.mp e1
  have e4 := intP_some e2
  subst e4
  cases rv1
  obtain ⟨xs, e5, rfl⟩ := Option.map_eq_some_iff.mp e3
  obtain ⟨⟨_, _, k1, k2⟩, _, rfl⟩ := rg1_some e5
  exact ⟨j, rfl, k1, k2, an w1 H1 _ (Ext.refl _ _) rs1 (by rw [Int.sub_zero]; exact srcOk_rng)⟩
theorem d_rng2 (hg : Gl X "range") (hm : X.mg "range" = none) (hn : noStar a = true) (hn2 : noStar b = true) (ha : PE X a (tE RX X.K W da)) (hb : PE X b (tE RX X.K W db)) :
    PI X tg (.Call (.Name "range" p) [a, b] [] pos) (tI RX X.K W fun e S => (da e S).bind fun x S1 => (db e S1).bind fun y S2 => .ofOpt ((intP x).bind fun i => (intP y).bind fun j => (rg1 i j).map Src.vals) S2) :=
  (pi_range2 hg hm (pa_cons ha (pa_cons hb pa_nil (star_cons hn2 _ _)) (star_cons hn _ _)) (by rw [star_cons hn, star_cons hn2]; rfl) (star_cons hn2 _ _)).imp fun σ H Q h => by
  refine tD.bind h fun w1 e v S x H1 re1 rs1 rv1 h1 => ?_
  refine ⟨w1, e, S, re1, rs1, Post.bind h1 fun v2 S2 w2 H2 y ext2 rs2 rv2 h2 => ?_⟩
  obtain ⟨z, e1, an⟩ := h2.opt
  obtain ⟨i, e2, e3⟩ := Option.bind_eq_some_iff.mp e1
  obtain ⟨j, e4, e5⟩ := Option.bind_eq_some_iff.mp e3
  have e6 := intP_some e2
  have e7 := intP_some e4
  subst e6 e7
  cases rv1
  cases rv2
  obtain ⟨xs, e8, rfl⟩ := Option.map_eq_some_iff.mp e5
  obtain ⟨k, _, rfl⟩ := rg1_some e8
  exact ⟨i, j, rfl, k, an w2 H2 _ (Ext.refl _ _) rs2 srcOk_rng⟩
theorem rg3_some {i j k : Int} {xs : List PV} (h : rg3 i j k = some xs) : RgC i j k (Builtin.Range.rangeSize i j k).toNat ∧ xs = rgL i (Builtin.Range.rangeSize i j k).toNat k := by
  unfold rg3 at h
  split at h
  · rename_i hk
    cases h
    simp only [Bool.and_eq_true, decide_eq_true_eq] at hk
    exact ⟨⟨hk.1, hk.2.1, hk.2.2.1, by omega⟩, rfl⟩
  · cases h
theorem d_rng3 (hg : Gl X "range") (hm : X.mg "range" = none) (hst : ([a, b, c] : List Expr).all noStar = true) (ha : PE X a (tE RX X.K W da)) (hb : PE X b (tE RX X.K W db)) (hc : PE X c (tE RX X.K W dc)) :
    PI X tg (.Call (.Name "range" p) [a, b, c] [] pos) (tI RX X.K W fun e S => (da e S).bind fun x S1 => (db e S1).bind fun y S2 => (dc e S2).bind fun z S3 =>
      .ofOpt ((intP x).bind fun i => (intP y).bind fun j => (intP z).bind fun k => (rg3 i j k).map Src.vals) S3) := by
  have h1 : noStar a = true ∧ noStar b = true ∧ noStar c = true := by simpa using hst
  refine (pi_range3 hg hm (pa_cons ha (pa_cons hb (pa_cons hc pa_nil (star_cons h1.2.2 _ _)) (star_cons h1.2.1 _ _)) (star_cons h1.1 _ _)) (star_cons h1.1 _ _) (star_any _ _ (by simp [h1.2.1, h1.2.2]))).imp fun σ H Q h => ?_
  refine tD.bind h fun w1 e v S x H1 re1 rs1 rv1 h1 => ?_
  refine ⟨w1, e, S, re1, rs1, Post.bind h1 fun v2 S2 w2 H2 y ext2 rs2 rv2 h2 => ?_⟩
  refine ⟨w2, e, S2, re1.ext ext2, rs2, Post.bind h2 fun v3 S3 w3 H3 y3 ext3 rs3 rv3 h3 => ?_⟩
  obtain ⟨z, e1, an⟩ := h3.opt
  obtain ⟨i, e2, e3⟩ := Option.bind_eq_some_iff.mp e1
  obtain ⟨j, e4, e5⟩ := Option.bind_eq_some_iff.mp e3
  obtain ⟨k, g4, g5⟩ := Option.bind_eq_some_iff.mp e5
  have e6 := intP_some e2
  have e7 := intP_some e4
  have e8 := intP_some g4
  subst e6 e7 e8
  cases rv1
  cases rv2
  cases rv3
  obtain ⟨xs, e8, rfl⟩ := Option.map_eq_some_iff.mp g5
  obtain ⟨kk, rfl⟩ := rg3_some e8
  exact ⟨i, j, k, _, rfl, kk, an w3 H3 _ (Ext.refl _ _) rs3 srcOk_rngC⟩
theorem d_zip {elts : List Expr} {kk : Nat} {tpos : Pos} (hg : Gl X "zip") (hm : X.mg "zip" = none) (hn : noStar a = true) (hn2 : noStar b = true) (ha : PE X a (tE RX X.K W da)) (hb : PE X b (tE RX X.K W db)) :
    PI X (.Tuple elts kk tpos) (.Call (.Name "zip" p) [a, b] [] pos) (tI RX X.K W fun e S => (da e S).bind fun x S1 => (db e S1).bind fun y S2 => .ofOpt (zipV x y) S2) :=
  (pi_zipM hg hm (pa_cons ha (pa_cons hb pa_nil (star_cons hn2 _ _)) (star_cons hn _ _)) (star_cons hn _ _) (star_any _ _ (by simp [hn2]))).imp fun σ H Q h => by
  refine tD.bind h fun w1 e v S x H1 re1 rs1 rv1 h1 => ?_
  refine ⟨w1, e, S, re1, rs1, Post.bind h1 fun v2 S2 w2 H2 y ext2 rs2 rv2 h2 => ?_⟩
  obtain ⟨z, e1, an⟩ := h2.opt
  have rv1' := rv1.ext ext2
  have fin : ∀ J, SrcOk X.K w2 H2 z J → Q J H2 := fun J ok => an w2 H2 J (Ext.refl _ _) rs2 ok
  match v, v2, e1, rv1', rv2 with
  | .d (.tuple xs), .d (.tuple ys), e1, rv1', rv2 =>
    cases e1
    cases rv1' with
    | tup g1 r1 =>
      cases rv2 with
      | tup g2 r2 => exact ⟨_, _, _, _, rfl, .inr (.inl ⟨g1.sq, g2.sq, fin _ (srcOk_zipT g1 g2 r1 r2)⟩)⟩
  | .d (.list xs), .d (.list ys), e1, rv1', rv2 =>
    cases e1
    cases rv1' with
    | lst g1 r1 =>
      cases rv2 with
      | lst g2 r2 => exact ⟨_, _, _, _, rfl, .inl ⟨g1.sq, g2.sq, fin _ (srcOk_zipL g1 g2 r1 r2)⟩⟩
  | .d (.list xs), .d (.tuple ys), e1, rv1', rv2 =>
    cases e1
    cases rv1' with
    | lst g1 r1 =>
      cases rv2 with
      | tup g2 r2 => exact ⟨_, _, _, _, rfl, .inr (.inr ⟨g1.sq, g2.sq, fin _ (srcOk_zipM g1 g2 r1 r2)⟩)⟩
theorem d_enum {elts : List Expr} {kk : Nat} {tpos : Pos} (hg : Gl X "enumerate") (hm : X.mg "enumerate" = none) (hn : noStar a = true) (ha : PE X a (tE RX X.K W da)) :
    PI X (.Tuple elts kk tpos) (.Call (.Name "enumerate" p) [a] [] pos) (tI RX X.K W fun e S => (da e S).bind fun x S1 => .ofOpt (enumV x) S1) :=
  (pi_enumM hg hm (pa_cons ha pa_nil (star_cons hn _ _)) (star_cons hn _ _)).imp fun σ H Q h => by
  refine tD.bind h fun w1 e v S x H1 re1 rs1 rv1 h1 => ?_
  obtain ⟨z, e1, an⟩ := h1.opt
  have fin : ∀ J, SrcOk X.K w1 H1 z J → Q J H1 := fun J ok => an w1 H1 J (Ext.refl _ _) rs1 ok
  match v, e1, rv1 with
  | .d (.list xs), e1, rv1 =>
    cases e1
    cases rv1 with
    | lst g1 r1 => exact ⟨_, _, rfl, .inl ⟨g1.sq, fin _ (srcOk_enum g1 r1)⟩⟩
  | .d (.tuple xs), e1, rv1 =>
    cases e1
    cases rv1 with
    | tup g1 r1 => exact ⟨_, _, rfl, .inr ⟨g1.sq, fin _ (srcOk_enumT g1 r1)⟩⟩
end
end Mn

end

section
set_option Elab.async false
set_option linter.all false
set_option maxRecDepth 100000
set_option maxHeartbeats 1000000
/-! MnDen6: targets; lists that are laid. -/
namespace Mn
open PySem PySem.Spec PyProof.Rows L2
section
variable {K : PySem.W.Frag} {w w' : Wd} {H H' : Hp} {RX : Pm} {e : Env'} {σ : L2.St}
theorem RE.set (h : RE K w H RX e σ) {i : Nat} {p : PV} {v : V} (r : RV K w H p v) : RE K w H RX (e.set i (some p)) (σ.set i (some v)) := ⟨h.xa, by rw [List.length_set, List.length_set]; exact h.len, fun j q hq => by
  by_cases hj : i = j
  · subst hj
    by_cases hl : i < e.length
    · rw [List.getElem?_set_self hl] at hq
      cases hq
      exact ⟨v, by rw [List.getElem?_set_self (by rw [← h.len]; exact hl)], r⟩
    · rw [List.getElem?_eq_none (by simpa using hl)] at hq; cases hq
  · rw [List.getElem?_set_ne hj] at hq ⊢
    exact h.at_ j q hq, h.th⟩
theorem RE.unset (h : RE K w H RX e σ) {i : Nat} : RE K w H RX (e.set i none) (σ.set i none) := ⟨h.xa, by rw [List.length_set, List.length_set]; exact h.len, fun j q hq => by
  by_cases hj : i = j
  · subst hj
    by_cases hl : i < e.length
    · rw [List.getElem?_set_self hl] at hq; cases hq
    · rw [List.getElem?_eq_none (by simpa using hl)] at hq; cases hq
  · rw [List.getElem?_set_ne hj] at hq ⊢
    exact h.at_ j q hq, h.th⟩
theorem RE.wipe (h : RE K w H RX e σ) : ∀ vs : List Nat, RE K w H RX (wipeE e vs) (wipe σ vs)
  | [] => h
  | _ :: vs => (h.wipe vs).unset
end
/-- only these are set -/
def SetsOn (is : List Nat) (σ σ' : L2.St) : Prop := σ'.length = σ.length ∧ ∀ j, j ∉ is → σ'[j]? = σ[j]?
theorem SetsOn.refl (is : List Nat) (σ : L2.St) : SetsOn is σ σ := ⟨rfl, fun _ _ => rfl⟩
theorem SetsOn.set {is : List Nat} {σ σ' : L2.St} (h : SetsOn is σ σ') {i : Nat} {v : Option V} (hi : i ∈ is) : SetsOn is σ (σ'.set i v) := ⟨by rw [List.length_set]; exact h.1, fun j hj => by
  rw [List.getElem?_set_ne (fun q => hj (by rw [← q]; exact hi))]
  exact h.2 j hj⟩
theorem wipe_get (σ : L2.St) : ∀ (vs : List Nat) (j : Nat), (wipe σ vs)[j]? = if j ∈ vs then (if j < σ.length then some none else none) else σ[j]?
  | [], j => by simp [wipe]
  | v :: vs, j => by
    show ((wipe σ vs).set v none)[j]? = _
    by_cases hj : v = j
    · subst hj
      rw [if_pos List.mem_cons_self]
      by_cases hl : v < σ.length
      · rw [List.getElem?_set_self (by rw [wipe_length]; exact hl), if_pos hl]
      · rw [List.getElem?_eq_none (by rw [List.length_set, wipe_length]; omega), if_neg hl]
    · rw [List.getElem?_set_ne hj, wipe_get σ vs j]
      have e : (j ∈ v :: vs) ↔ j ∈ vs := by simp [Ne.symm hj]
      simp only [e]
theorem wipe_sets {is vs : List Nat} {σ σ' : L2.St} (h : SetsOn is (wipe σ vs) σ') (sub : ∀ i ∈ is, i ∈ vs) : wipe σ' vs = wipe σ vs := by
  have hl : σ'.length = σ.length := by rw [h.1, wipe_length]
  refine List.ext_getElem? fun j => ?_
  rw [wipe_get, wipe_get, hl]
  by_cases hj : j ∈ vs
  · rw [if_pos hj, if_pos hj]
  · rw [if_neg hj, if_neg hj, h.2 j (fun q => hj (sub j q)), wipe_get, if_neg hj]
def Tg.ids : Tg → List Nat
  | .nm i => [i]
  | .tup is => is
/-- a target's reading -/
def gT (RX : Pm) (K : PySem.W.Frag) (t : Tg) : TG := fun v σ H Q => ∃ w e S p e', RE K w H RX e σ ∧ RS K w H S ∧ RV K w H p v ∧ bindT t p e = some e' ∧ ∀ σ', RE K w H RX e' σ' → SetsOn t.ids σ σ' → Q σ' H
section
variable {X : Cx} {RX : Pm} {pos : Pos}
theorem g_nm {i : Nat} {x : Str} (hN : X.N.Nodup) (hi : X.N[i]? = some x) (hx : Loc X.env.scope x) (hf : X.fn x = true ∨ X.env.scope.names.lookup x = some .local) : PG X (.Name x pos) (gT RX X.K (.nm i)) :=
  ⟨fun pins s σ H v u Q I r ⟨w, e, S, p, e', re, rs, rv, eb, q⟩ => (pg_name hN hi hx hf).run pins s σ H v u Q I r (by
    cases eb
    exact q _ (re.set rv) ((SetsOn.refl _ _).set (List.mem_singleton.mpr rfl)))⟩
/-- several names -/
def gsN : List Nat → TGs
  | [] => gNil
  | i :: is => gCons (gName i) (gsN is)
inductive NmsOk (X : Cx) : List Nat → List Expr → Prop where
  | nil : NmsOk X [] []
  | cons {i : Nat} {x : Str} {p : Pos} {is : List Nat} {es : List Expr} (hi : X.N[i]? = some x) (hx : Loc X.env.scope x) (hf : X.fn x = true ∨ X.env.scope.names.lookup x = some .local) (r : NmsOk X is es) : NmsOk X (i :: is) (.Name x p :: es)
theorem pgs_names (hN : X.N.Nodup) : ∀ {is : List Nat} {es : List Expr}, NmsOk X is es → PGs X es (gsN is)
  | _, _, .nil => pgs_nil
  | _, _, .cons hi hx hf r => pgs_cons (pg_name hN hi hx hf) (pgs_names hN r) rfl
theorem nms_len : ∀ {is : List Nat} {es : List Expr}, NmsOk X is es → (assignEach es X.env).length = is.length
  | _, _, .nil => rfl
  | _, _, .cons hi hx hf r => congrArg (· + 1) (nms_len r)
theorem nms_star : ∀ {is : List Nat} {es : List Expr}, NmsOk X is es → (assignEach es X.env).findIdx? (·.1) = none
  | _, _, .nil => rfl
  | _, _, .cons (is := is) (es := es) (x := x) (p := p) hi hx hf r => by
    show ((false, assign (.Name x p) X.env) :: assignEach es X.env).findIdx? (·.1) = none
    rw [List.findIdx?_cons, nms_star r]
    rfl
theorem gsN_of {K : PySem.W.Frag} {w : Wd} {H : Hp} : ∀ {is : List Nat} {xs : List PyData} {vs : List V} {e e' : Env'} {σ σ0 : L2.St} {jd : List Nat} {Q : L2.St → Hp → Prop}, setAll is xs e = some e' → RDs K w H xs vs → RE K w H RX e σ → SetsOn jd σ0 σ → (∀ i ∈ is, i ∈ jd) → (∀ σ', RE K w H RX e' σ' → SetsOn jd σ0 σ' → Q σ' H) → gsN is vs σ H Q
  | [], [], _, e, e', σ, σ0, jd, Q, h, .nil, re, so, _, q => by
    cases h
    exact ⟨rfl, q σ re so⟩
  | i :: is, x :: xs, _, e, e', σ, σ0, jd, Q, h, .cons r t, re, so, sub, q => by
    refine ⟨_, _, rfl, ?_⟩
    exact gsN_of (is := is) (e := e.set i (some (.d x))) h t (re.set (p := .d x) r) (so.set (sub i List.mem_cons_self)) (fun j hj => sub j (List.mem_cons_of_mem _ hj)) q
  | [], _ :: _, _, _, _, _, _, _, _, h, _, _, _, _, _ => by cases h
  | _ :: _, [], _, _, _, _, _, _, _, h, _, _, _, _, _ => by cases h
theorem setAll_len : ∀ {is : List Nat} {xs : List PyData} {e e' : Env'}, setAll is xs e = some e' → xs.length = is.length
  | [], [], _, _, _ => rfl
  | _ :: is, _ :: xs, _, _, h => congrArg (· + 1) (setAll_len (is := is) (xs := xs) h)
  | [], _ :: _, _, _, h => by cases h
  | _ :: _, [], _, _, h => by cases h
theorem g_tup {is : List Nat} {es : List Expr} {k : Nat} (hc : X.calm = true) (hN : X.N.Nodup) (h : NmsOk X is es) : PG X (.Tuple es k pos) (gT RX X.K (.tup is)) := by
  refine ⟨fun pins s σ H v u Q I r ⟨w, e, S, p, e', re, rs, rv, eb, q⟩ => ?_⟩
  have pgs := pgs_names hN h
  match p, eb, rv with
  | .d (.tuple xs), eb, rv =>
    have eb : setAll is xs e = some e' := eb
    cases rv with
    | tup h1 qd => exact (pg_tup hc pgs (nms_len h) (nms_star h)).run pins s σ H _ u Q I r ⟨_, _, rfl, h1.sq, by rw [← qd.len]; exact setAll_len eb, gsN_of eb qd re (SetsOn.refl _ _) (fun _ q => q) q⟩
  | .d (.list xs), eb, rv =>
    have eb : setAll is xs e = some e' := eb
    cases rv with
    | lst h1 qd => exact (pg_lst hc pgs (nms_len h) (nms_star h)).run pins s σ H _ u Q I r ⟨_, _, rfl, h1.sq, by rw [← qd.len]; exact setAll_len eb, gsN_of eb qd re (SetsOn.refl _ _) (fun _ q => q) q⟩
  | .d .none, eb, _ => cases eb
  | .d (.bool _), eb, _ => cases eb
  | .d (.int _), eb, _ => cases eb
  | .d (.str _), eb, _ => cases eb
  | .d (.dict _), eb, _ => cases eb
  | .r _, eb, _ => cases eb
  | .x _ _, eb, _ => cases eb
  | .s _, eb, _ => cases eb
  | .f _, eb, _ => cases eb
  | .clo _ _, eb, _ => cases eb
end
/-! ### lists that are laid -/
/-- a new list of these -/
def tL (RX : XRel) (K : PySem.W.Frag) (W : WX) (den : Env' → Sto → Res (List PV)) : TE := fun σ H Q => tA RX K W den σ H fun vs H1 => ∀ p, H1 p = none → Q (.ref p) (upd H1 p (.lst vs))
section
variable {X : Cx} {RX : XRel} {W : WX} {e0 : Expr} {dl : Env' → Sto → Res (List PV)} {pos : Pos}
theorem frzL_of {K : PySem.W.Frag} {σ : L2.St} {H : Hp} {Q : VK} (h : tE RX K W (fun e S => (dl e S).bind fun ys S1 => .ofOpt ((allD ys).map PV.lst) S1) σ H Q) : tL RX K W dl σ H Q := by
  refine tD.bind h fun w1 e v S x H1 re1 rs1 rv1 h1 => ?_
  obtain ⟨z, e1, an⟩ := h1.ans
  obtain ⟨xs, e2, rfl⟩ := Option.map_eq_some_iff.mp e1
  exact fun p hp => an.lst rs1 (allD_rds e2 rv1) hp
theorem d_frzL (h : PE X e0 (tL RX X.K W dl)) : PE X e0 (tE RX X.K W fun e S => (dl e S).bind fun ys S1 => .ofOpt ((allD ys).map PV.lst) S1) := h.imp fun σ H Q h => frzL_of h
theorem okL_xs {vs : List PV} (h : okL vs = true) : ∀ p ∈ vs, isXS p = false := fun p hp => by
  have h2 := List.all_eq_true.mp h p hp
  cases p <;> first | rfl | cases h2
theorem newL_of {K : PySem.W.Frag} {σ : L2.St} {H : Hp} {Q : VK} (h : tE RX K W (fun e S => (dl e S).bind newF) σ H Q) : tL RX K W dl σ H Q := by
  refine tD.bind h fun w1 e v S x H1 re1 rs1 rv1 h1 => ?_
  intro p hp
  unfold newF at h1
  split at h1
  · rename_i hk
    have ex := ext_celled (o := .lst x) rs1 hp
    refine h1 (w1.celled p) _ (.ref p) ex (rs_celled rs1 hp ⟨x, upd_same, rv1.ext ex, rvs_below rs1 rv1 (okL_xs hk)⟩) ⟨p, ?_, rfl⟩
    show (w1.m ++ [p])[S.length]? = some p
    rw [← rs1.len, List.getElem?_append_right (Nat.le_refl _), Nat.sub_self]
    rfl
  · exact h1.elim
theorem d_newL (h : PE X e0 (tL RX X.K W dl)) : PE X e0 (tE RX X.K W fun e S => (dl e S).bind newF) := h.imp fun σ H Q h => newL_of h
theorem d_lstL {es : List Expr} {ds : Env' → Sto → Res (List PV)} (hs : PA X es (tA RX X.K W ds)) :
    PE X (.List es pos) (tL RX X.K W fun e S => (ds e S).bind fun vs S1 => if vs.length < sizeLine then .ok vs S1 else .bad) := (pe_lst hs).imp fun σ H Q h => by
  refine tD.bind h fun w1 e v S x H1 re1 rs1 rv1 h1 => ?_
  split at h1
  · rename_i hl
    exact ⟨by rw [← rv1.len]; exact Nat.le_of_lt hl, h1 w1 H1 x (Ext.refl _ _) rs1 rv1⟩
  · exact h1.elim
theorem d_listL {a : Expr} {p : Pos} (hg : Gl X "list") (hm : X.mg "list" = none) (hn : noStar a = true) (ha : PA X [a] (tA RX X.K W dl)) :
    PE X (.Call (.Name "list" p) [a] [] pos) (tL RX X.K W fun e S => (dl e S).bind fun vs S1 => .ofOpt (biL S1 .list vs) S1) := (pe_callTy call_list_of hg hm (by rfl) ha (he := star_cons hn _ _) (hpl := rfl)).imp fun σ H Q h => by
  refine tD.bind h fun w1 e v S x H1 re1 rs1 rv1 h1 => ?_
  obtain ⟨z, e1, an⟩ := h1.opt
  match v, e1, rv1 with
  | [q], e1, rv1 =>
    obtain ⟨ds, e2, rfl⟩ := Option.map_eq_some_iff.mp e1
    obtain ⟨vq, rfl, rq⟩ := Mn.rv1 rv1
    obtain ⟨ad, us, rfl, rd, hq⟩ := seqD_at rs1 e2 rq
    exact ⟨ad, us, rfl, hq.elim (fun z => .inl (SqL.of z.1)) (fun z => .inr z.1.sq), an w1 H1 us (Ext.refl _ _) rs1 (rds_rvs rd)⟩
  | [], e1, _ => cases e1
  | _ :: _ :: _, e1, _ => cases e1
end
end Mn

end

section
set_option Elab.async false
set_option linter.all false
set_option maxRecDepth 100000
set_option maxHeartbeats 1000000
/-! MnDen7: comprehensions. -/
namespace Mn
open PySem PySem.Spec PyProof.Rows L2
/-- nothing is raised -/
abbrev WN : WX := fun _ _ _ _ => False
/-! ### a private thing -/
section
variable {K : PySem.W.Frag} {w : Wd} {H : Hp} {S : Sto} {D : Addr} {o : HO}
theorem ext0_new (r : RS K w H S) (hD : H D = none) : Ext0 w H (w.priv D) (upd H D o) :=
  ⟨fun _ f => f, fun a u f q => by rw [upd_ne (ne_of_none q hD)]; exact q, ⟨[], by simp [Wd.priv]⟩, rfl⟩
theorem rs_new (r : RS K w H S) (hD : H D = none) (ho : PvO (some o) := by trivial) : RS K (w.priv D) (upd H D o) S := by
  have x := ext0_new (o := o) r hD
  refine ⟨r.len, r.nd, fun i c e => ?_, fun a f => ?_, fun a f ps => ?_, fun a f => ?_, fun q hq => (r.tab q hq).mono x.fz x.keep (upd_ne (r.ntabN hD hq)) (r.tab q hq).1⟩
  · obtain ⟨a, e1, nf, rc⟩ := r.cell i c e
    have ne : a ≠ D := fun q => (r.fresh hD).1 (by rw [← q]; exact List.mem_of_getElem? e1)
    exact ⟨a, e1, nf, rc.mono x.fz x.keep x.at x.xa (upd_ne ne)⟩
  · have ne : a ≠ D := fun q => (r.fresh hD).2 (by rw [← q]; exact f)
    rw [upd_ne ne]; exact r.fzH a f
  · have ne : a ≠ D := fun q => (r.fresh hD).2 (by rw [← q]; exact f)
    rw [upd_ne ne]; exact r.fzT a f ps
  · rcases List.mem_cons.mp f with rfl | f
    · exact ⟨(r.fresh hD).2, (r.fresh hD).1, by rw [upd_same]; exact ho⟩
    · obtain ⟨h1, h2, h3⟩ := r.pvH a f
      have ne := r.npv hD f
      exact ⟨h1, h2, by rw [upd_ne ne]; exact h3⟩
theorem ext0_put (r : RS K w H S) (hD : D ∈ w.pv) : Ext0 w H w (upd H D o) :=
  ⟨fun _ f => f, fun a u f q => by
    rw [upd_ne (fun z => (r.pvH D hD).1 (by rw [← z]; exact f))]; exact q, ⟨[], by simp⟩, rfl⟩
theorem rs_put (r : RS K w H S) (hD : D ∈ w.pv) (ho : PvO (some o) := by trivial) : RS K w (upd H D o) S := by
  have x := ext0_put (o := o) r hD
  obtain ⟨d1, d2, d3⟩ := r.pvH D hD
  refine ⟨r.len, r.nd, fun i c e => ?_, fun a f => ?_, fun a f ps => ?_, fun a f => ?_, fun q hq => (r.tab q hq).mono x.fz x.keep (upd_ne (r.ntab d3.tbl hq)) (r.tab q hq).1⟩
  · obtain ⟨a, e1, nf, rc⟩ := r.cell i c e
    have ne : a ≠ D := fun q => d2 (by rw [← q]; exact List.mem_of_getElem? e1)
    exact ⟨a, e1, nf, rc.mono x.fz x.keep x.at x.xa (upd_ne ne)⟩
  · have ne : a ≠ D := fun q => d1 (by rw [← q]; exact f)
    rw [upd_ne ne]; exact r.fzH a f
  · have ne : a ≠ D := fun q => d1 (by rw [← q]; exact f)
    rw [upd_ne ne]; exact r.fzT a f ps
  · obtain ⟨h1, h2, h3⟩ := r.pvH a f
    refine ⟨h1, h2, ?_⟩
    by_cases q : a = D
    · subst q; rw [upd_same]; exact ho
    · rw [upd_ne q]; exact h3
/-- forgotten again -/
def cutH (H : Hp) (D : Addr) : Hp := fun a => if a = D then none else H a
theorem cutH_same : cutH H D D = none := if_pos rfl
theorem cutH_ne {a : Addr} (h : a ≠ D) : cutH H D a = H a := if_neg h
theorem cutH_upd (h : H D = some o) : upd (cutH H D) D o = H := by
  funext a
  by_cases e : a = D
  · subst e; rw [upd_same, h]
  · rw [upd_ne e, cutH_ne e]
theorem ext0_cut {l : List Addr} (r : RS K w H S) (hp : w.pv = D :: l) : Ext0 w H { w with pv := l } (cutH H D) :=
  ⟨fun _ f => f, fun a u f q => by
    rw [cutH_ne (fun z => (r.pvH D (by rw [hp]; exact List.mem_cons_self)).1 (by rw [← z]; exact f))]; exact q, ⟨[], by simp⟩, rfl⟩
theorem rs_cut {l : List Addr} (r : RS K w H S) (hp : w.pv = D :: l) (hD : D ∉ l) : RS K { w with pv := l } (cutH H D) S := by
  have x := ext0_cut r hp
  obtain ⟨d1, d2, d3⟩ := r.pvH D (by rw [hp]; exact List.mem_cons_self)
  refine ⟨r.len, r.nd, fun i c e => ?_, fun a f => ?_, fun a f ps => ?_, fun a f => ?_, fun q hq => (r.tab q hq).mono x.fz x.keep (cutH_ne (r.ntab d3.tbl hq)) (r.tab q hq).1⟩
  · obtain ⟨a, e1, nf, rc⟩ := r.cell i c e
    have ne : a ≠ D := fun q => d2 (by rw [← q]; exact List.mem_of_getElem? e1)
    exact ⟨a, e1, nf, rc.mono x.fz x.keep x.at x.xa (cutH_ne ne)⟩
  · have ne : a ≠ D := fun q => d1 (by rw [← q]; exact f)
    rw [cutH_ne ne]; exact r.fzH a f
  · have ne : a ≠ D := fun q => d1 (by rw [← q]; exact f)
    rw [cutH_ne ne]; exact r.fzT a f ps
  · obtain ⟨h1, h2, h3⟩ := r.pvH a (by rw [hp]; exact List.mem_cons_of_mem _ f)
    have ne : a ≠ D := fun q => hD (by rw [← q]; exact f)
    exact ⟨h1, h2, by rw [cutH_ne ne]; exact h3⟩
end
theorem Res.bind_assoc {α β γ : Type} (r : Res α) (f : α → Sto → Res β) (g : β → Sto → Res γ) : (r.bind f).bind g = r.bind fun a S => (f a S).bind g := by
  cases r <;> rfl
theorem lcG_res (s : Src) (body : PV → Sto → Res (Option PV)) : ∀ n k S, lcG s body n k S = .bad ∨ ∃ ys S', lcG s body n k S = .ok ys S'
  | 0, _, _ => .inl rfl
  | n + 1, k, S => by
    unfold lcG
    split
    · exact .inl rfl
    · exact .inr ⟨_, _, rfl⟩
    · rename_i x _
      cases body x S with
      | bad => exact .inl rfl
      | ex _ _ _ => exact .inl rfl
      | ok o S1 =>
        rw [Res.noex_ok, Res.bind_ok]
        rcases lcG_res s body n (k + 1) S1 with h | ⟨ys, S2, h⟩
        · rw [h]; exact .inl rfl
        · rw [h]; exact .inr ⟨_, _, rfl⟩
section
variable {K : PySem.W.Frag} {RX : XRel} {W : WX}
theorem tlc_of {σ : L2.St} {H : Hp} {Q : VK} {own : List (Str × Nat)} {di : Env' → Sto → Res Src} {t : Tg} {dC : Env' → Sto → Res Bool} {dE : Env' → Sto → Res PV} {L : Nat} (hsub : ∀ i ∈ t.ids, i ∈ own.map (·.2))
    (h : tL RX K W (fun e S => (di e S).bind fun s S1 => (lcS L (lcBody t (own.map (·.2)) dC dE e) s S1).bind finL) σ H Q) : tLc (tI RX K W di) (gT RX K t) (tT RX K WN dC) (tE RX K WN dE) (own.map (·.2)) σ H Q := by
  refine tD.bind h fun w1 e src S J H1 re1 rs1 ok1 h1 => ?_
  intro D hD
  have nfz : ∀ a, w1.fz a → a ≠ D := fun a f q => (rs1.fresh hD).2 (by rw [← q]; exact f)
  have npv : ∀ a, a ∈ w1.pv → a ≠ D := fun a f => rs1.npv hD f
  have nD : D ∉ w1.pv := fun f => npv D f rfl
  refine ⟨fun i n H' => ∃ w' S' acc accV, w'.pv = D :: w1.pv ∧ Ext0 w1 H1 w' H' ∧ (∀ a ∈ w1.pv, H' a = H1 a) ∧ RS K w' H' S' ∧ H' D = some (.lst accV) ∧ RVs K w' H' acc accV ∧
    Post RX K (RVs K) w1 H1 ((lcG src (lcBody t (own.map (·.2)) dC dE e) n i S').bind fun ys S2 => finL (acc ++ ys) S2) (fun c d H' => W c d σ H') (fun vs H1 => ∀ p, H1 p = none → Q (.ref p) (upd H1 p (.lst vs))), ⟨src.fuel L, w1.priv D, S, [], [], rfl, ext0_new rs1 hD, fun a ha => upd_ne (npv a ha), rs_new rs1 hD, upd_same, .nil, h1⟩, ?_⟩
  rintro i n H' ⟨w', S', acc, accV, hpv, ext, kp, rs, hDl, rva, h2⟩
  have inD : D ∈ w'.pv := by rw [hpv]; exact List.mem_cons_self
  cases n with
  | zero => exact h2.elim
  | succ n =>
    have stp := ok1 w' H' S' ext rs i
    unfold lcG at h2
    cases hnx : src.next i S' with
    | none => rw [hnx] at h2; exact h2.elim
    | some o =>
      rw [hnx] at h2 stp
      cases o with
      | none =>
        refine .inl ⟨stp, ?_⟩
        change Post RX K (RVs K) w1 H1 (finL (acc ++ []) S') _ _ at h2
        rw [List.append_nil] at h2
        unfold finL at h2
        split at h2
        · have e0 := ext0_cut rs hpv
          have ext2 := ext.trans e0
          have fin := h2 { w' with pv := w1.pv } (cutH H' D) accV ⟨ext2.fz, ext2.keep, ext2.m, ext2.xa, rfl, fun a ha => by rw [cutH_ne (npv a ha)]; exact kp a ha⟩ (rs_cut rs hpv nD) (rva.ext0 e0) D cutH_same
          rw [cutH_upd hDl] at fin
          exact fin
        · exact h2.elim
      | some p =>
        refine .inr ⟨stp.1, fun H'' => ∃ w' S' acc accV, w'.pv = D :: w1.pv ∧ Ext0 w1 H1 w' H'' ∧ (∀ a ∈ w1.pv, H'' a = H1 a) ∧ RS K w' H'' S' ∧ H'' D = some (.lst accV) ∧ RVs K w' H'' acc accV ∧
          Post RX K (RVs K) w1 H1 ((lcG src (lcBody t (own.map (·.2)) dC dE e) n (i + 1) S').bind fun ys S2 => finL (acc ++ ys) S2) (fun c d H' => W c d σ H') (fun vs H1 => ∀ p, H1 p = none → Q (.ref p) (upd H1 p (.lst vs))), fun H'' q => ⟨n, Nat.lt_succ_self n, q⟩, fun x H'' hy => ?_⟩
        obtain ⟨w2, ext2, rs2, rvx⟩ := stp.2 x H'' hy
        change Post RX K (RVs K) w1 H1 (((lcBody t (own.map (·.2)) dC dE e p S').noex.bind fun o S1 => (lcG src (lcBody t (own.map (·.2)) dC dE e) n (i + 1) S1).bind fun ys S2 => .ok (o.toList ++ ys) S2).bind fun ys S2 => finL (acc ++ ys) S2) _ _ at h2
        unfold lcBody at h2
        cases hb : bindT t p (wipeE e (own.map (·.2))) with
        | none => rw [hb] at h2; exact h2.elim
        | some e1 =>
          rw [hb] at h2
          have ext02 := ext.trans ext2.to0
          refine ⟨w2, wipeE e (own.map (·.2)), S', p, e1, (re1.ext0 ext02).wipe _, rs2, rvx, hb, fun σ2 re2 so => ⟨wipe_sets so hsub, w2, e1, S', re2, rs2, ?_⟩⟩
          dsimp only at h2
          cases hC : dC e1 S' with
          | bad => rw [hC] at h2; exact h2.elim
          | ex _ _ _ => rw [hC] at h2; exact h2.elim
          | ok k S3 =>
            rw [hC] at h2
            intro w3 H3 b ext3 rs3 eb
            cases eb
            cases k with
            | false =>
              rw [if_neg Bool.false_ne_true]
              have ex3 := ext2.trans ext3
              change Post RX K (RVs K) w1 H1 (((lcG src (lcBody t (own.map (·.2)) dC dE e) n (i + 1) S3).bind fun ys S2 => .ok (([] : List PV) ++ ys) S2).bind fun ys S2 => finL (acc ++ ys) S2) _ _ at h2
              rw [Res.bind_assoc] at h2
              refine ⟨w3, S3, acc, accV, ex3.pv.trans hpv, ext.trans ex3.to0, fun a ha => (ex3.pvH a (by rw [hpv]; exact List.mem_cons_of_mem _ ha)).trans (kp a ha), rs3, (ex3.pvH D inD).trans hDl, rva.ext0 ex3.to0, h2⟩
            | true =>
              rw [if_pos rfl]
              refine ⟨w3, e1, S3, re2.ext ext3, rs3, ?_⟩
              change Post RX K (RVs K) w1 H1 ((((dE e1 S3).bind fun y S4 => .ok (some y) S4).noex.bind fun o S1 => (lcG src (lcBody t (own.map (·.2)) dC dE e) n (i + 1) S1).bind fun ys S2 => .ok (o.toList ++ ys) S2).bind fun ys S2 => finL (acc ++ ys) S2) _ _ at h2
              cases hE : dE e1 S3 with
              | bad => rw [hE] at h2; exact h2.elim
              | ex _ _ _ => rw [hE] at h2; exact h2.elim
              | ok y S4 =>
                rw [hE] at h2
                intro w4 H4 yv ext4 rs4 rvy
                have ex4 := (ext2.trans ext3).trans ext4
                change Post RX K (RVs K) w1 H1 (((lcG src (lcBody t (own.map (·.2)) dC dE e) n (i + 1) S4).bind fun ys S2 => .ok ([y] ++ ys) S2).bind fun ys S2 => finL (acc ++ ys) S2) _ _ at h2
                rw [Res.bind_assoc] at h2
                have hpv4 : w4.pv = D :: w1.pv := ex4.pv.trans hpv
                have in4 : D ∈ w4.pv := by rw [hpv4]; exact List.mem_cons_self
                have hz : acc.length < sizeLine := by
                  rcases lcG_res src (lcBody t (own.map (·.2)) dC dE e) n (i + 1) S4 with q | ⟨ys, S5, q⟩
                  · rw [q] at h2; exact h2.elim
                  · rw [q] at h2
                    change Post RX K (RVs K) w1 H1 (finL (acc ++ ([y] ++ ys)) S5) _ _ at h2
                    unfold finL at h2
                    split at h2
                    · rename_i hl
                      rw [List.length_append] at hl
                      omega
                    · exact h2.elim
                have ep := ext0_put (o := .lst (accV ++ [yv])) rs4 in4
                refine ⟨accV, (ex4.pvH D inD).trans hDl, by rw [← rva.len]; exact hz, w4, S4, acc ++ [y], accV ++ [yv], hpv4, (ext.trans ex4.to0).trans ep, fun a ha => ?_, rs_put rs4 in4, upd_same, (rvs_app (rva.ext0 ex4.to0) (.cons rvy .nil)).ext0 ep, ?_⟩
                · rw [upd_ne (npv a ha)]
                  exact (ex4.pvH a (by rw [hpv]; exact List.mem_cons_of_mem _ ha)).trans (kp a ha)
                · have ef : (fun (ys : List PV) S2 => finL (acc ++ [y] ++ ys) S2) = fun ys S2 => finL (acc ++ ([y] ++ ys)) S2 := by
                    funext ys S2
                    rw [List.append_assoc]
                  rw [ef]
                  exact h2
end
section
variable {X : Cx} {RX : XRel} {W : WX} {elt tg iter : Expr} {ifs : List Expr} {scope : Scope} {own : List (Str × Nat)} {pos : Pos} {di : Env' → Sto → Res Src} {t : Tg} {dC : Env' → Sto → Res Bool} {dE : Env' → Sto → Res PV} {L : Nat}
theorem d_lcL (hc : X.calm = true) (hN : X.N.Nodup) (hi : PI X tg iter (tI RX X.K W di)) (ok : BlkOk X.N X.env.scope scope own) (hsub : ∀ i ∈ t.ids, i ∈ own.map (·.2))
    (hg : ∀ (s : Shared) (H : Hp) (C : Addr) (cl : List (Str × Addr)) (fp : List Addr), PG (X.blk s H scope (compEnvC scope cl C X.env) fp) tg (gT RX X.K t)) (ht : ∀ (s : Shared) (H : Hp) (C : Addr) (cl : List (Str × Addr)) (fp : List Addr), PTs (X.blk s H scope (compEnvC scope cl C X.env) fp) ifs (tT RX X.K WN dC))
    (he : ∀ (s : Shared) (H : Hp) (C : Addr) (cl : List (Str × Addr)) (fp : List Addr), PE (X.blk s H scope (compEnvC scope cl C X.env) fp) elt (tE RX X.K WN dE)) (hs : ∀ x, foldedSetIterable iter X.env x = pure x) :
    PE X (.ListComp elt [⟨tg, iter, ifs, 0⟩] scope pos) (tL RX X.K W fun e S => (di e S).bind fun s S1 => (lcS L (lcBody t (own.map (·.2)) dC dE e) s S1).bind finL) :=
  (pe_lc hc hN hi ok hg ht he hs).imp fun σ H Q h => tlc_of hsub h
end
end Mn

end

section
set_option Elab.async false
set_option linter.all false
set_option maxRecDepth 100000
set_option maxHeartbeats 1000000
/-! MnDen8: dict comprehensions. -/
namespace Mn
open PySem PySem.Spec PyProof.Rows L2
section
variable {K : PySem.W.Frag} {w : Wd} {H : Hp}
/-- the pairs lie as the dict's -/
def RQs (K : PySem.W.Frag) (w : Wd) (H : Hp) : List (Key × PyData) → List (Key × V) → Prop := Paired fun p q => p.1 = q.1 ∧ RD K w H p.2 q.2
theorem RQs.ext0 {w' : Wd} {H' : Hp} (x : Ext0 w H w' H') {xs : List (Key × PyData)} {vs : List (Key × V)} (h : RQs K w H xs vs) : RQs K w' H' xs vs := Paired.imp (fun _ _ q => ⟨q.1, q.2.ext0 x⟩) h
theorem RQs.any {k : Key} : ∀ {xs : List (Key × PyData)} {vs : List (Key × V)}, RQs K w H xs vs → (xs.any fun p => decide (p.1 = k)) = vs.any fun q => decide (q.1 = k)
  | _, _, .nil => rfl
  | _, _, .cons r t => by
    rw [List.any_cons, List.any_cons, RQs.any t, r.1]
theorem RQs.upd {k : Key} {x : PyData} {v : V} (rx : RD K w H x v) : ∀ {xs : List (Key × PyData)} {vs : List (Key × V)}, RQs K w H xs vs → RQs K w H (xs.map fun p => if p.1 = k then (p.1, x) else p) (vs.map fun q => if q.1 = k then (q.1, v) else q)
  | _, _, .nil => .nil
  | _, _, .cons (a := p) (b := q) r t => by
    refine .cons ?_ (RQs.upd rx t)
    dsimp only
    by_cases h : p.1 = k
    · rw [if_pos h, if_pos (by rw [← r.1]; exact h)]; exact ⟨r.1, rx⟩
    · rw [if_neg h, if_neg (by rw [← r.1]; exact h)]; exact r
theorem RQs.app : ∀ {xs ys : List (Key × PyData)} {vs us : List (Key × V)}, RQs K w H xs vs → RQs K w H ys us → RQs K w H (xs ++ ys) (vs ++ us)
  | _, _, _, _, .nil, h => h
  | _, _, _, _, .cons r t, h => .cons r (RQs.app t h)
theorem RQs.put {k : Key} {x : PyData} {v : V} (rx : RD K w H x v) {xs : List (Key × PyData)} {vs : List (Key × V)} (h : RQs K w H xs vs) : RQs K w H (putQ xs k x) (putK vs k v) := by
  unfold putQ putK
  rw [h.any]
  split
  · exact h.upd rx
  · exact h.app (.cons ⟨rfl, rx⟩ .nil)
theorem RQs.rks : ∀ {xs : List (Key × PyData)} {vs : List (Key × V)}, RQs K w H xs vs → RKs K w H (xs.map fun p => (keyD p.1, p.2)) vs
  | _, _, .nil => .nil
  | _, _, .cons (a := p) (b := q) r t => by
    obtain ⟨k, v⟩ := q
    obtain ⟨k', x⟩ := p
    obtain ⟨e, rd⟩ := r
    cases e
    exact .cons rd (RQs.rks t)
theorem RQs.len {xs : List (Key × PyData)} {vs : List (Key × V)} (h : RQs K w H xs vs) : xs.length = vs.length := Paired.length h
theorem keyP_kV {a : PyData} {k : Key} {v : V} (h : keyP a = some k) (r : RD K w H a v) : v = kV k := by
  cases r with
  | int i => cases h; rfl
  | str s => cases h; rfl
  | _ => cases h
theorem putsQ_app : ∀ (xs ys : List PV) (a : List (Key × PyData)), putsQ a (xs ++ ys) = (putsQ a xs).bind fun b => putsQ b ys
  | [], _, _ => rfl
  | p :: xs, ys, a => by
    match p with
    | .d (.tuple [x, y]) =>
      show ((keyP x).bind fun k => putsQ (putQ a k y) (xs ++ ys)) = ((keyP x).bind fun k => putsQ (putQ a k y) xs).bind fun b => putsQ b ys
      cases keyP x with
      | none => rfl
      | some k => exact putsQ_app xs ys _
    | .d (.tuple []) => rfl
    | .d (.tuple [_]) => rfl
    | .d (.tuple (_ :: _ :: _ :: _)) => rfl
    | .d .none => rfl
    | .d (.bool _) => rfl
    | .d (.int _) => rfl
    | .d (.str _) => rfl
    | .d (.list _) => rfl
    | .d (.dict _) => rfl
    | .r _ => rfl
    | .x _ _ => rfl
    | .s _ => rfl
    | .f _ => rfl
    | .clo _ _ => rfl
theorem putQ_len (kvs : List (Key × PyData)) (k : Key) (v : PyData) : (putQ kvs k v).length ≤ kvs.length + 1 := by
  unfold putQ
  split
  · rw [List.length_map]; omega
  · rw [List.length_append]; exact Nat.le_refl _
theorem finD_some {acc ys : List PV} {S : Sto} {z : PV} {S' : Sto} (h : finD (acc ++ ys) S = .ok z S') : (acc ++ ys).length < sizeLine ∧ ∃ q, putsQ [] (acc ++ ys) = some q ∧ z = .d (.dict (q.map fun p => (keyD p.1, p.2))) ∧ S' = S := by
  unfold finD at h
  split at h
  · rename_i hl
    unfold dctV at h
    cases e : putsQ [] (acc ++ ys) with
    | none => rw [e] at h; cases h
    | some q => rw [e] at h; cases h; exact ⟨hl, q, rfl, rfl, rfl⟩
  · cases h
end
section
variable {K : PySem.W.Frag} {RX : XRel} {W : WX}
theorem tdc_of {σ : L2.St} {H : Hp} {Q : VK} {own : List (Str × Nat)} {di : Env' → Sto → Res Src} {t : Tg} {dK dV : Env' → Sto → Res PV} {L : Nat} (hsub : ∀ i ∈ t.ids, i ∈ own.map (·.2))
    (h : tE RX K W (fun e S => (di e S).bind fun s S1 => (lcS L (dcBody t (own.map (·.2)) dK dV e) s S1).bind finD) σ H Q) : tDc (tI RX K W di) (gT RX K t) tYes (tE RX K WN dK) (tE RX K WN dV) (own.map (·.2)) σ H Q := by
  refine tD.bind h fun w1 e src S J H1 re1 rs1 ok1 h1 => ?_
  intro D hD
  have npv : ∀ a, a ∈ w1.pv → a ≠ D := fun a f => rs1.npv hD f
  have nD : D ∉ w1.pv := fun f => npv D f rfl
  refine ⟨fun i n H' => ∃ w' S' acc kvs ks, w'.pv = D :: w1.pv ∧ Ext0 w1 H1 w' H' ∧ (∀ a ∈ w1.pv, H' a = H1 a) ∧ RS K w' H' S' ∧ H' D = some (.dK ks) ∧ putsQ [] acc = some kvs ∧ kvs.length ≤ acc.length ∧ RQs K w' H' kvs ks ∧
    Post RX K (RV K) w1 H1 ((lcG src (dcBody t (own.map (·.2)) dK dV e) n i S').bind fun ys S2 => finD (acc ++ ys) S2) (fun c d H' => W c d σ H') Q, ⟨src.fuel L, w1.priv D, S, [], [], [], rfl, ext0_new rs1 hD, fun a ha => upd_ne (npv a ha), rs_new rs1 hD, upd_same, rfl, Nat.le_refl _, .nil, h1⟩, ?_⟩
  rintro i n H' ⟨w', S', acc, kvs, ks, hpv, ext, kp, rs, hDl, hput, hkl, rq, h2⟩
  have inD : D ∈ w'.pv := by rw [hpv]; exact List.mem_cons_self
  cases n with
  | zero => exact h2.elim
  | succ n =>
    have stp := ok1 w' H' S' ext rs i
    unfold lcG at h2
    cases hnx : src.next i S' with
    | none => rw [hnx] at h2; exact h2.elim
    | some o =>
      rw [hnx] at h2 stp
      cases o with
      | none =>
        refine .inl ⟨stp, ?_⟩
        change Post RX K (RV K) w1 H1 (finD (acc ++ []) S') _ _ at h2
        cases hf : finD (acc ++ []) S' with
        | bad => rw [hf] at h2; exact h2.elim
        | ex _ _ _ => unfold finD at hf; split at hf <;> (unfold Res.ofOpt at hf; split at hf <;> cases hf)
        | ok z S2 =>
          rw [hf] at h2
          obtain ⟨_, q, e1, rfl, rfl⟩ := finD_some hf
          rw [List.append_nil, hput] at e1
          cases e1
          have e0 := ext0_cut rs hpv
          have ext2 := ext.trans e0
          have rsc := rs_cut rs hpv nD
          have x1 : Ext w1 H1 { w' with pv := w1.pv } (cutH H' D) := ⟨ext2.fz, ext2.keep, ext2.m, ext2.xa, rfl, fun a ha => by rw [cutH_ne (npv a ha)]; exact kp a ha⟩
          have x2 := ext_frozen (o := .dK ks) rsc (p := D) cutH_same
          have r2 := rs_frozen (o := .dK ks) rsc (p := D) cutH_same
          rw [cutH_upd hDl] at x2 r2
          have x3 := e0.trans (by rw [← cutH_upd hDl] at x2 ⊢; exact x2.to0 : Ext0 { w' with pv := w1.pv } (cutH H' D) (({ w' with pv := w1.pv } : Wd).frozen D) H')
          exact h2 _ H' (.ref D) (x1.trans x2) r2 (.dct (.inr rfl) hDl (rq.ext0 x3).rks)
      | some p =>
        refine .inr ⟨stp.1, fun H'' => ∃ w' S' acc kvs ks, w'.pv = D :: w1.pv ∧ Ext0 w1 H1 w' H'' ∧ (∀ a ∈ w1.pv, H'' a = H1 a) ∧ RS K w' H'' S' ∧ H'' D = some (.dK ks) ∧ putsQ [] acc = some kvs ∧ kvs.length ≤ acc.length ∧ RQs K w' H'' kvs ks ∧
          Post RX K (RV K) w1 H1 ((lcG src (dcBody t (own.map (·.2)) dK dV e) n (i + 1) S').bind fun ys S2 => finD (acc ++ ys) S2) (fun c d H' => W c d σ H') Q, fun H'' q => ⟨n, Nat.lt_succ_self n, q⟩, fun x H'' hy => ?_⟩
        obtain ⟨w2, ext2, rs2, rvx⟩ := stp.2 x H'' hy
        change Post RX K (RV K) w1 H1 (((dcBody t (own.map (·.2)) dK dV e p S').noex.bind fun o S1 => (lcG src (dcBody t (own.map (·.2)) dK dV e) n (i + 1) S1).bind fun ys S2 => .ok (o.toList ++ ys) S2).bind fun ys S2 => finD (acc ++ ys) S2) _ _ at h2
        unfold dcBody at h2
        cases hb : bindT t p (wipeE e (own.map (·.2))) with
        | none => rw [hb] at h2; exact h2.elim
        | some e1 =>
          rw [hb] at h2
          have ext02 := ext.trans ext2.to0
          refine ⟨w2, wipeE e (own.map (·.2)), S', p, e1, (re1.ext0 ext02).wipe _, rs2, rvx, hb, fun σ2 re2 so => ⟨wipe_sets so hsub, ?_⟩⟩
          unfold tYes
          dsimp only
          rw [if_pos rfl]
          dsimp only at h2
          refine ⟨w2, e1, S', re2, rs2, ?_⟩
          cases hC : dK e1 S' with
          | bad => rw [hC] at h2; exact h2.elim
          | ex _ _ _ => rw [hC] at h2; exact h2.elim
          | ok y S3 =>
            rw [hC] at h2
            intro w3 H3 kv ext3 rs3 rvk
            refine ⟨w3, e1, S3, re2.ext ext3, rs3, ?_⟩
            change Post RX K (RV K) w1 H1 ((((dV e1 S3).bind fun z S4 => match y, z with
              | .d a, .d b => .ok (some (.d (.tuple [a, b]))) S4
              | _, _ => .bad).noex.bind fun o S1 => (lcG src (dcBody t (own.map (·.2)) dK dV e) n (i + 1) S1).bind fun ys S2 => .ok (o.toList ++ ys) S2).bind fun ys S2 => finD (acc ++ ys) S2) _ _ at h2
            cases hE : dV e1 S3 with
            | bad => rw [hE] at h2; exact h2.elim
            | ex _ _ _ => rw [hE] at h2; exact h2.elim
            | ok z S4 =>
              rw [hE] at h2
              intro w4 H4 zv ext4 rs4 rvz
              have ex4 := (ext2.trans ext3).trans ext4
              have hpv4 : w4.pv = D :: w1.pv := ex4.pv.trans hpv
              have in4 : D ∈ w4.pv := by rw [hpv4]; exact List.mem_cons_self
              match y, z, h2, rvk, rvz with
              | .d a, .d b, h2, rvk, rvz =>
                change Post RX K (RV K) w1 H1 (((lcG src (dcBody t (own.map (·.2)) dK dV e) n (i + 1) S4).bind fun ys S2 => .ok ([PV.d (.tuple [a, b])] ++ ys) S2).bind fun ys S2 => finD (acc ++ ys) S2) _ _ at h2
                rw [Res.bind_assoc] at h2
                have hz : acc.length < sizeLine ∧ ∃ k, keyP a = some k := by
                  rcases lcG_res src (dcBody t (own.map (·.2)) dK dV e) n (i + 1) S4 with q | ⟨ys, S5, q⟩
                  · rw [q] at h2; exact h2.elim
                  · rw [q] at h2
                    change Post RX K (RV K) w1 H1 (finD (acc ++ ([PV.d (.tuple [a, b])] ++ ys)) S5) _ _ at h2
                    cases hf : finD (acc ++ ([PV.d (.tuple [a, b])] ++ ys)) S5 with
                    | bad => rw [hf] at h2; exact h2.elim
                    | ex _ _ _ => unfold finD at hf; split at hf <;> (unfold Res.ofOpt at hf; split at hf <;> cases hf)
                    | ok z S2 =>
                      obtain ⟨hl, q2, e1, _⟩ := finD_some hf
                      refine ⟨by rw [List.length_append] at hl; omega, ?_⟩
                      rw [putsQ_app, hput] at e1
                      change ((keyP a).bind fun k => putsQ (putQ kvs k b) ys) = some q2 at e1
                      cases ek : keyP a with
                      | none => rw [ek] at e1; cases e1
                      | some k => exact ⟨k, rfl⟩
                obtain ⟨hz, k, hk⟩ := hz
                have ep := ext0_put (o := .dK (putK ks k zv)) rs4 in4
                refine ⟨ks, k, keyP_kV hk rvk, (ex4.pvH D inD).trans hDl, by rw [← rq.len]; omega, w4, S4, acc ++ [.d (.tuple [a, b])], putQ kvs k b, putK ks k zv, hpv4, (ext.trans ex4.to0).trans ep, fun a ha => ?_, rs_put rs4 in4, upd_same, ?_, ?_, ((rq.ext0 ex4.to0).put rvz).ext0 ep, ?_⟩
                · rw [upd_ne (npv a ha)]
                  exact (ex4.pvH a (by rw [hpv]; exact List.mem_cons_of_mem _ ha)).trans (kp a ha)
                · rw [putsQ_app, hput]
                  show ((keyP a).bind fun k => putsQ (putQ kvs k b) []) = _
                  rw [hk]
                  rfl
                · rw [List.length_append, List.length_singleton]
                  exact Nat.le_trans (putQ_len _ _ _) (Nat.succ_le_succ hkl)
                · have ef : (fun (ys : List PV) S2 => finD (acc ++ [PV.d (.tuple [a, b])] ++ ys) S2) = fun ys S2 => finD (acc ++ ([PV.d (.tuple [a, b])] ++ ys)) S2 := by
                    funext ys S2
                    rw [List.append_assoc]
                  rw [ef]
                  exact h2
              | .d _, .r _, h2, _, _ => exact False.elim h2
              | .d _, .x _ _, h2, _, _ => exact False.elim h2
              | .d _, .s _, h2, _, _ => exact False.elim h2
              | .d _, .f _, h2, _, _ => exact False.elim h2
              | .d _, .clo _ _, h2, _, _ => exact False.elim h2
              | .r _, _, h2, _, _ => exact False.elim h2
              | .x _ _, _, h2, _, _ => exact False.elim h2
              | .s _, _, h2, _, _ => exact False.elim h2
              | .f _, _, h2, _, _ => exact False.elim h2
              | .clo _ _, _, h2, _, _ => exact False.elim h2
end
section
variable {X : Cx} {RX : XRel} {W : WX} {kx vx tg iter : Expr} {scope : Scope} {own : List (Str × Nat)} {pos : Pos} {di : Env' → Sto → Res Src} {t : Tg} {dK dV : Env' → Sto → Res PV} {L : Nat}
theorem d_dc (hc : X.calm = true) (hN : X.N.Nodup) (hi : PI X tg iter (tI RX X.K W di)) (ok : BlkOk X.N X.env.scope scope own) (hsub : ∀ i ∈ t.ids, i ∈ own.map (·.2))
    (hg : ∀ (s : Shared) (H : Hp) (C : Addr) (cl : List (Str × Addr)) (fp : List Addr), PG (X.blk s H scope (compEnvC scope cl C X.env) fp) tg (gT RX X.K t))
    (hk : ∀ (s : Shared) (H : Hp) (C : Addr) (cl : List (Str × Addr)) (fp : List Addr), PE (X.blk s H scope (compEnvC scope cl C X.env) fp) kx (tE RX X.K WN dK))
    (he : ∀ (s : Shared) (H : Hp) (C : Addr) (cl : List (Str × Addr)) (fp : List Addr), PE (X.blk s H scope (compEnvC scope cl C X.env) fp) vx (tE RX X.K WN dV)) (hs : ∀ x, foldedSetIterable iter X.env x = pure x) :
    PE X (.DictComp kx vx [⟨tg, iter, [], 0⟩] scope pos) (tE RX X.K W fun e S => (di e S).bind fun s S1 => (lcS L (dcBody t (own.map (·.2)) dK dV e) s S1).bind finD) :=
  (pe_dc hc hN hi ok hg (fun _ _ _ _ _ => pts_nil) hk he hs).imp fun σ H Q h => tdc_of hsub h
end
end Mn

end

section
set_option Elab.async false
set_option linter.all false
set_option maxRecDepth 100000
set_option maxHeartbeats 1000000
/-! MnDen9: statements. -/
namespace Mn
open PySem PySem.Spec PyProof.Rows L2
section
variable (RX : XRel) (K : PySem.W.Frag)
def PostO (w : Wd) (H : Hp) (o : Out) (W : WX) (D : Ends) : Prop := match o with
  | .nx e S => ∀ w' H' σ', Ext w H w' H' → RS K w' H' S → RE K w' H' RX e σ' → D.nx σ' H'
  | .rt v S => ∀ w' H' x, Ext w H w' H' → RS K w' H' S → RV K w' H' v x → D.rt x H'
  | .ex c f e S => ∀ w' H' σ' cls d, Ext w H w' H' → RS K w' H' S → RE K w' H' RX e σ' → RX.rel w' H' c f cls d → W cls d σ' H'
  | .bad => False
def tS (W : WX) (den : Env' → Sto → Out) : TS := fun D σ H => ∃ w e S, RE K w H RX e σ ∧ RS K w H S ∧ PostO RX K w H (den e S) W D
end
section
variable {RX : XRel} {K : PySem.W.Frag} {W : WX} {w w' : Wd} {H H' : Hp} {D : Ends} {σ : L2.St} {α β : Type} {R : Wd → Hp → α → β → Prop}
theorem PostO.ext {o : Out} (h : PostO RX K w H o W D) (x : Ext w H w' H') : PostO RX K w' H' o W D := by
  cases o with
  | nx e S => exact fun w2 H2 σ2 x2 => h w2 H2 σ2 (x.trans x2)
  | rt v S => exact fun w2 H2 y x2 => h w2 H2 y (x.trans x2)
  | ex c f e S => exact fun w2 H2 σ2 cls d x2 => h w2 H2 σ2 cls d (x.trans x2)
  | bad => exact h
/-- an expression, then the rest -/
theorem PostO.bindE {e : Env'} {r : Res α} {k : α → Sto → Out} {Q1 : β → Hp → Prop} (re : RE K w H RX e σ) (h : PostO RX K w H (r.out e k) W D)
    (go : ∀ v S x w1 H1, Ext w H w1 H1 → RE K w1 H1 RX e σ → RS K w1 H1 S → R w1 H1 v x → PostO RX K w1 H1 (k v S) W D → Q1 x H1) : Post RX K R w H r (fun c d H' => W c d σ H') Q1 := by
  cases r with
  | ok v S => exact fun w1 H1 x e1 rs rv => go v S x w1 H1 e1 (re.ext e1) rs rv (PostO.ext h e1)
  | ex c f S => exact fun w1 H1 cls d e1 rs rx => h w1 H1 σ cls d e1 rs (re.ext e1) rx
  | bad => exact h
theorem tS.bindE {da : Env' → Sto → Res α} {k : Env' → α → Sto → Out} {Q1 : β → Hp → Prop} (h : tS RX K W (fun e S => (da e S).out e (k e)) D σ H)
    (go : ∀ w1 e v S x H1, RE K w1 H1 RX e σ → RS K w1 H1 S → R w1 H1 v x → PostO RX K w1 H1 (k e v S) W D → Q1 x H1) : tD RX K W R da σ H Q1 := by
  obtain ⟨w, e, S, re, rs, h⟩ := h
  exact ⟨w, e, S, re, rs, PostO.bindE re h fun v S1 x w1 H1 _ re1 rs1 rv h1 => go w1 e v S1 x H1 re1 rs1 rv h1⟩
end
section
variable {X : Cx} {RX : XRel} {W : WX} {a b c : Expr} {da db dc : Env' → Sto → Res PV} {pos : Pos}
theorem s_pass : PS X (.Pass pos) (tS RX X.K W fun e S => .nx e S) := ps_pass.imp fun D σ H ⟨w, e, S, re, rs, h⟩ => h w H σ (Ext.refl _ _) rs re
theorem s_retn : PS X (.Return none pos) (tS RX X.K W fun _ S => .rt .none S) := ps_retN.imp fun D σ H ⟨w, e, S, re, rs, h⟩ => h w H _ (Ext.refl _ _) rs .none
theorem s_ret (ha : PE X a (tE RX X.K W da)) : PS X (.Return (some a) pos) (tS RX X.K W fun e S => (da e S).out e fun v S1 => .rt v S1) := (ps_ret ha).imp fun D σ H h => by
  refine tS.bindE h fun w1 e v S x H1 re1 rs1 rv1 h1 => ?_
  exact h1 w1 H1 x (Ext.refl _ _) rs1 rv1
theorem s_ex (ha : PE X a (tE RX X.K W da)) (hs : swapsWith a none pos.line X.env = pure false) : PS X (.Expr a pos) (tS RX X.K W fun e S => (da e S).out e fun _ S1 => .nx e S1) := (ps_expr ha hs).imp fun D σ H h => by
  refine tS.bindE h fun w1 e v S x H1 re1 rs1 rv1 h1 => ?_
  exact h1 w1 H1 σ (Ext.refl _ _) rs1 re1
theorem s_ite {p q : List Stmt} {dp dq : Env' → Sto → Out} {dt : Env' → Sto → Res Bool} (hc : PT X c (tT RX X.K W dt)) (hp : PSs X p (tS RX X.K W dp)) (hq : PSs X q (tS RX X.K W dq)) :
    PS X (.If c p q pos) (tS RX X.K W fun e S => (dt e S).out e fun k S1 => if k then dp e S1 else dq e S1) := (ps_if hc hp hq).imp fun D σ H h => by
  refine tS.bindE h fun w1 e v S x H1 re1 rs1 rv1 h1 => ?_
  cases rv1
  cases v with
  | true => exact ⟨w1, e, S, re1, rs1, h1⟩
  | false => exact ⟨w1, e, S, re1, rs1, h1⟩
theorem asg_of {K : PySem.W.Frag} {w1 : Wd} {H1 : Hp} {e : Env'} {S : Sto} {t : Tg} {v : PV} {x : V} {σ : L2.St} {D : Ends} (re : RE K w1 H1 RX e σ) (rs : RS K w1 H1 S) (rv : RV K w1 H1 v x) (h : PostO RX K w1 H1 (Out.ofOpt (bindT t v e) fun e1 => .nx e1 S) W D) : gT RX K t x σ H1 D.nx := by
  cases hb : bindT t v e with
  | none => rw [hb] at h; exact h.elim
  | some e1 => rw [hb] at h; exact ⟨w1, e, S, v, e1, re, rs, rv, hb, fun σ' re' _ => h w1 H1 σ' (Ext.refl _ _) rs re'⟩
theorem s_asg {t : Tg} {tg : Expr} (ha : PE X a (tE RX X.K W da)) (hg : PG X tg (gT RX X.K t)) (hs : swapsWithSole [tg] a pos.line X.env = pure false) (hw : swappedStores [tg] a X.env = pure none) (h1 : (assignEach [tg] X.env).map (·.2) = [assign tg X.env]) :
    PS X (.Assign [tg] a pos) (tS RX X.K W fun e S => (da e S).out e fun v S1 => .ofOpt (bindT t v e) fun e1 => .nx e1 S1) := (ps_asg ha hg hs hw h1).imp fun D σ H h => by
  refine tS.bindE h fun w1 e v S x H1 re1 rs1 rv1 h1 => ?_
  exact asg_of re1 rs1 rv1 h1
theorem s_par {i j : Nat} {x y : Str} {ds : Env' → Sto → Res (List PV)} {px py pt : Pos} {kt k2 pt2} (hc : X.calm = true) (hN : X.N.Nodup) (hi : X.N[i]? = some x) (hj : X.N[j]? = some y) (hij : i ≠ j)
    (hx : X.env.scope.names.lookup x = some .local) (hy : X.env.scope.names.lookup y = some .local) (ha : PA X [a, b] (tA RX X.K W ds))
    (hw : swappedStores [.Tuple [.Name x px, .Name y py] kt pt] (.Tuple [a, b] k2 pt2) X.env = pure (some [x, y])) :
    PS X (.Assign [.Tuple [.Name x px, .Name y py] kt pt] (.Tuple [a, b] k2 pt2) pos) (tS RX X.K W fun e S => (ds e S).out e fun vs S1 => .ofOpt (setPar [i, j] vs e) fun e1 => .nx e1 S1) := (ps_par hc hN hi hj hij hx hy ha hw).imp fun D σ H h => by
  refine tS.bindE h fun w1 e v S x H1 re1 rs1 rv1 h1 => ?_
  match v, h1, rv1 with
  | [p, q], h1, .cons r1 (.cons r2 .nil) => exact ⟨_, _, rfl, h1 w1 H1 _ (Ext.refl _ _) rs1 ((re1.set r1).set r2)⟩
  | [], h1, _ => exact h1.elim
  | [_], h1, _ => exact h1.elim
  | _ :: _ :: _ :: _, h1, _ => exact h1.elim
/-- name = [..] on one line -/
theorem s_asgLc {i : Nat} {y : Str} {py : Pos} {elt tg iter : Expr} {ifs : List Expr} {scope : Scope} {own : List (Str × Nat)} {spos : Pos} {di : Env' → Sto → Res Src} {t : Tg} {dC : Env' → Sto → Res Bool} {dE : Env' → Sto → Res PV} {L : Nat} {dv : Env' → Sto → Res PV}
    (hd : ∀ {σ H Q}, tE RX X.K W dv σ H Q → tL RX X.K W (fun e S => (di e S).bind fun s S1 => (lcS L (lcBody t (own.map (·.2)) dC dE e) s S1).bind finL) σ H Q)
    (hc : X.calm = true) (hN : X.N.Nodup) (hy : X.N[i]? = some y) (hyl : X.env.scope.names.lookup y = some .local)
    (hsw : swapsWith (.ListComp elt [⟨tg, iter, ifs, 0⟩] scope pos) (some (.Name y py)) spos.line X.env = pure true) (hi : PI X tg iter (tI RX X.K W di)) (ok : BlkOk X.N X.env.scope scope own) (hsub : ∀ i ∈ t.ids, i ∈ own.map (·.2))
    (hg : ∀ (s : Shared) (H : Hp) (C : Addr) (cl : List (Str × Addr)) (fp : List Addr), PG (X.blk s H scope (compEnvC scope cl C X.env) fp) tg (gT RX X.K t)) (ht : ∀ (s : Shared) (H : Hp) (C : Addr) (cl : List (Str × Addr)) (fp : List Addr), PTs (X.blk s H scope (compEnvC scope cl C X.env) fp) ifs (tT RX X.K WN dC))
    (he : ∀ (s : Shared) (H : Hp) (C : Addr) (cl : List (Str × Addr)) (fp : List Addr), PE (X.blk s H scope (compEnvC scope cl C X.env) fp) elt (tE RX X.K WN dE)) (hs : ∀ x, foldedSetIterable iter X.env x = pure x) :
    PS X (.Assign [.Name y py] (.ListComp elt [⟨tg, iter, ifs, 0⟩] scope pos) spos) (tS RX X.K W fun e S => (dv e S).out e fun v S1 => .ofOpt (bindT (.nm i) v e) fun e1 => .nx e1 S1) :=
  (ps_setLc hc hN hy hyl hsw hi ok hg ht he hs).imp fun D σ H h => by
    refine tlc_of hsub (hd ?_)
    refine tS.bindE h fun w1 e v S x H1 re1 rs1 rv1 h1 => ?_
    exact h1 w1 H1 _ (Ext.refl _ _) rs1 (re1.set rv1)
/-! o[i] = v -/
def rsetM (K : PySem.W.Frag) : TSet := fun o i v H Q => ∃ w S p q r S', RS K w H S ∧ RV K w H p o ∧ RV K w H q i ∧ RV K w H r v ∧ setV S p q r = some S' ∧ ∀ w' H', Ext w H w' H' → RS K w' H' S' → Q H'
theorem set_m : PSet X (rsetM X.K) := by
  intro pins s σ H o i v ov iv u Q I ro ri rv ⟨w, S, p, q, r, S', rs, r1, r2, r3, e, q0⟩
  match p, q, e, r1, r2 with
  | .r c, q, e, r1, r2 =>
    have e : (if below c r then match S[c]? with
      | some (.lst xs) => match q with
        | .d (.int n) => (ixAt xs.length n).map fun j => S.set c (.lst (xs.set j r))
        | _ => none
      | _ => none
      else none) = some S' := e
    split at e
    · rename_i hb
      cases e1 : S[c]? with
      | none => rw [e1] at e; cases e
      | some cl =>
        rw [e1] at e
        cases cl with
        | dct _ => cases e
        | lst xs =>
          match q, e, r2 with
          | .d (.int n), e, r2 =>
            obtain ⟨j, e2, rfl⟩ := Option.map_eq_some_iff.mp e
            cases r2
            obtain ⟨ad, ys, ea, rfl, hH, rvs, bl⟩ := cell_at rs r1 e1
            obtain ⟨x1, rs1⟩ := put_lst rs ea (rvs_set r3 j rvs) (fun z hz => (List.mem_or_eq_of_mem_set hz).elim (bl z) fun q2 => by rw [q2]; exact hb)
            refine set_list pins s σ H _ _ v ov iv u Q I ro ri rv ⟨ad, ys, n, j, rfl, rfl, hH, ?_, q0 w _ x1 rs1⟩
            rw [← rvs.len]
            exact e2
    · cases e
theorem s_seti {o i : Expr} {p : Pos} {dob di : Env' → Sto → Res PV} (ha : PE X a (tE RX X.K W da)) (ho : PE X o (tE RX X.K W dob)) (hi : PE X i (tE RX X.K W di))
    (has : ∀ v, assign (.Subscript o i p) X.env v = (do
      let ov ← holding [v] (eval o X.env)
      let iv ← holding [v, ov] (eval i X.env)
      standAt p
      holding [v, ov, iv] (setItem ov iv v)
      release [v, ov, iv] [])) (hs : swapsWithSole [.Subscript o i p] a pos.line X.env = pure false) (hw : swappedStores [.Subscript o i p] a X.env = pure none) :
    PS X (.Assign [.Subscript o i p] a pos) (tS RX X.K W fun e S => (da e S).out e fun v S1 => (dob e S1).out e fun x S2 => (di e S2).out e fun k S3 => match setV S3 x k v with
      | some S4 => .nx e S4
      | none => .bad) := (ps_asg ha (pg_sub ho hi set_m has) hs hw rfl).imp fun D σ H h => by
  refine tS.bindE h fun w1 e v S x H1 re1 rs1 rv1 h1 => ?_
  refine ⟨w1, e, S, re1, rs1, PostO.bindE re1 h1 fun v2 S2 x2 w2 H2 ext2 re2 rs2 rv2 h2 => ?_⟩
  refine ⟨w2, e, S2, re2, rs2, PostO.bindE re2 h2 fun v3 S3 x3 w3 H3 ext3 re3 rs3 rv3 h3 => ?_⟩
  cases hv : setV S3 v2 v3 v with
  | none => rw [hv] at h3; exact h3.elim
  | some S4 =>
    rw [hv] at h3
    exact ⟨w3, S3, v2, v3, v, S4, rs3, rv2.ext ext3, rv3, (rv1.ext ext2).ext ext3, hv, fun w4 H4 ext4 rs4 => h3 w4 H4 σ ext4 rs4 (re3.ext ext4)⟩
/-! loops -/
theorem s_for {iter tg : Expr} {body : List Stmt} {t : Tg} {di : Env' → Sto → Res Src} {dB : Env' → Sto → Out} {L : Nat} (hp : PassesOwn (model X.prog X.w) X.A X.env X.xe) (hc : X.calm = true) (hi : PI X tg iter (tI RX X.K W di)) (hg : PG X tg (gT RX X.K t)) (hb : PSs X body (tS RX X.K W dB))
    (hs : ∀ x, foldedSetIterable iter X.env x = pure x) :
    PS X (.For tg iter body [] pos) (tS RX X.K W fun e S => (di e S).out e fun s S1 => forS L (fun x e1 S2 => .ofOpt (bindT t x e1) fun e2 => dB e2 S2) s e S1) := (ps_for hp hc hi hg hb hs).imp fun D σ H h => by
  refine tS.bindE h fun w1 e src S J H1 re1 rs1 ok1 h1 => ?_
  refine ⟨fun i n σ' H' => ∃ w' e' S', RE X.K w' H' RX e' σ' ∧ RS X.K w' H' S' ∧ Ext0 w1 H1 w' H' ∧ PostO RX X.K w' H' (forG src (fun x e1 S2 => .ofOpt (bindT t x e1) fun e2 => dB e2 S2) n i e' S') W D, ⟨src.fuel L, w1, e, S, re1, rs1, Ext0.refl _ _, h1⟩, ?_⟩
  rintro i n σ' H' ⟨w', e', S', re, rs, ext, h2⟩
  cases n with
  | zero => exact h2.elim
  | succ n =>
    have stp := ok1 w' H' S' ext rs i
    unfold forG at h2
    cases hnx : src.next i S' with
    | none => rw [hnx] at h2; exact h2.elim
    | some o =>
      rw [hnx] at h2 stp
      cases o with
      | none => exact .inl ⟨stp, h2 w' H' σ' (Ext.refl _ _) rs re⟩
      | some p =>
        refine .inr ⟨stp.1, fun σ' H'' => ∃ w' e' S', RE X.K w' H'' RX e' σ' ∧ RS X.K w' H'' S' ∧ Ext0 w1 H1 w' H'' ∧ PostO RX X.K w' H'' (forG src (fun x e1 S2 => .ofOpt (bindT t x e1) fun e2 => dB e2 S2) n (i + 1) e' S') W D, fun σ2 H2 q => ⟨n, Nat.lt_succ_self n, q⟩, fun x H'' hy => ?_⟩
        obtain ⟨w2, ext2, rs2, rvx⟩ := stp.2 x H'' hy
        change PostO RX X.K w' H' ((Out.ofOpt (bindT t p e') fun e2 => dB e2 S').bind fun e1 S1 => forG src _ n (i + 1) e1 S1) W D at h2
        cases hbt : bindT t p e' with
        | none => rw [hbt] at h2; exact h2.elim
        | some e1 =>
          rw [hbt] at h2
          change PostO RX X.K w' H' ((dB e1 S').bind fun e1 S1 => forG src _ n (i + 1) e1 S1) W D at h2
          refine ⟨w2, e', S', p, e1, re.ext ext2, rs2, rvx, hbt, fun σ2 re2 _ => ⟨w2, e1, S', re2, rs2, ?_⟩⟩
          have h3 := PostO.ext h2 ext2
          cases hB : dB e1 S' with
          | bad => rw [hB] at h3; exact h3.elim
          | rt v S3 => rw [hB] at h3; exact h3
          | ex c f e3 S3 => rw [hB] at h3; exact h3
          | nx e3 S3 =>
            rw [hB] at h3
            exact fun w3 H3 σ3 ext3 rs3 re3 => ⟨w3, e3, S3, re3, rs3, (ext.trans ext2.to0).trans ext3.to0, PostO.ext h3 ext3⟩
theorem s_while {body : List Stmt} {dt : Env' → Sto → Res Bool} {dB : Env' → Sto → Out} {L : Nat} (hp : PassesOwn (model X.prog X.w) X.A X.env X.xe) (hc : PT X c (tT RX X.K W dt)) (hb : PSs X body (tS RX X.K W dB)) :
    PS X (.While c body [] pos) (tS RX X.K W fun e S => whileL dt dB L e S) := (ps_while hp hc hb).imp fun D σ H ⟨w, e, S, re, rs, h⟩ => by
  refine ⟨fun n σ' H' => ∃ w e S, RE X.K w H' RX e σ' ∧ RS X.K w H' S ∧ PostO RX X.K w H' (whileL dt dB n e S) W D, ⟨L, w, e, S, re, rs, h⟩, ?_⟩
  rintro n σ' H' ⟨w, e, S, re, rs, h⟩
  cases n with
  | zero => exact h.elim
  | succ n =>
    unfold whileL at h
    refine ⟨w, e, S, re, rs, PostO.bindE re h fun v S1 x w1 H1 ext re1 rs1 rv h1 => ?_⟩
    cases rv
    cases v with
    | false => rw [if_neg Bool.false_ne_true]; exact h1 w1 H1 σ' (Ext.refl _ _) rs1 re1
    | true =>
      rw [if_pos rfl]
      refine ⟨fun σ' H' => ∃ w e S, RE X.K w H' RX e σ' ∧ RS X.K w H' S ∧ PostO RX X.K w H' (whileL dt dB n e S) W D, fun σ2 H2 q => ⟨n, Nat.lt_succ_self n, q⟩, w1, e, S1, re1, rs1, ?_⟩
      change PostO RX X.K w1 H1 ((dB e S1).bind fun e2 S2 => whileL dt dB n e2 S2) W D at h1
      cases hB : dB e S1 with
      | bad => rw [hB] at h1; exact h1.elim
      | rt v S3 => rw [hB] at h1; exact h1
      | ex c f e3 S3 => rw [hB] at h1; exact h1
      | nx e3 S3 =>
        rw [hB] at h1
        exact fun w3 H3 σ3 ext3 rs3 re3 => ⟨w3, e3, S3, re3, rs3, PostO.ext h1 ext3⟩
theorem s_nil : PSs X [] (tS RX X.K W fun e S => .nx e S) := pss_nil.imp fun D σ H ⟨w, e, S, re, rs, h⟩ => h w H σ (Ext.refl _ _) rs re
theorem s_cons {st : Stmt} {rest : List Stmt} {d1 d2 : Env' → Sto → Out} (h1 : PS X st (tS RX X.K W d1)) (h2 : PSs X rest (tS RX X.K W d2)) : PSs X (st :: rest) (tS RX X.K W fun e S => (d1 e S).bind fun e1 S1 => d2 e1 S1) := (pss_cons h1 h2).imp fun D σ H ⟨w, e, S, re, rs, h⟩ => by
  refine ⟨w, e, S, re, rs, ?_⟩
  dsimp only at h
  cases hB : d1 e S with
  | bad => rw [hB] at h; exact h.elim
  | rt v S3 => rw [hB] at h; exact h
  | ex c f e3 S3 => rw [hB] at h; exact h
  | nx e3 S3 =>
    rw [hB] at h
    exact fun w3 H3 σ3 ext3 rs3 re3 => ⟨w3, e3, S3, re3, rs3, PostO.ext h ext3⟩
end
end Mn

end

section
set_option Elab.async false
set_option linter.all false
set_option maxRecDepth 100000
set_option maxHeartbeats 1000000
/-! MnDen10: raise, try. -/
namespace Mn
open PySem PySem.Spec PyProof.Rows L2
/-- how errors without a field lie: their classes by number -/
structure EA where
  ex : Nat → Option Addr
  fa : Nat → Option Addr
  tb : List (Addr × Str)
instance : CoeFun EA fun _ => Nat → Option Addr := ⟨EA.ex⟩
def RXof (ea : EA) : XRel := ⟨fun _ _ c f cls d => f = none ∧ d = none ∧ ∃ C, ea c = some C ∧ cls = .ref C, ⟨none, none, ea.fa, ea.tb⟩⟩
section
variable {X : Cx} {C : Addr} {bmB : List Value} {B newId initId : String}
theorem pmk_own0 {x : Str} {p pos : Pos} (F : ExcBaseFacts B newId initId bmB) (q : PySem.W.excIn X.K C bmB newId = true) (gC : X.mg x = some (.ref C)) (kC : PySem.W.keepIn X.K (.ref C) = true) (r : Raises X (.ref C)) (hg : Gl X x)
    (hdb : (x == ("__debug__" : Str)) = false) : PMk X (.Call (.Name x p) [] [] pos) (fun _ H Q => Q (.ref C) none H) := by
  intro pins s σ H Q I h
  refine wpAny_Call_Name_kw (ld_glob I hg gC ?_ hdb)
  refine PySem.W.callWith_K0 I.kIn kC ?_
  show wpAny _ _ (call (.ref C) []) _ _ _
  obtain ⟨bm, N, nm, qn, bs, hdct, sn, sub, ab, col, dd, k0, k1, k2, k3, k5, mN, hC, hN, hni, T⟩ := exc_obj I.kIn q
  refine wpAny_call_exc_subT F T hC hN hni (fun h' e hm => ?_) (by show 0 ≤ sizeLine; exact Nat.zero_le _)
  exact mk_of I hm r h (I.hok.gone hm.new)
end
section
variable {X : Cx} {RX : XRel} {W : WX} {pos : Pos}
theorem s_raise {e0 : Expr} {c : Nat} {C : Addr} (hc : X.calm = true) (tk : Takes X W) (hm : PMk X e0 (fun _ H Q => Q (.ref C) none H)) (hr : ∀ w H, RX.rel w H c none (.ref C) none) :
    PS X (.Raise (some e0) none pos) (tS RX X.K W fun e S => (Res.ok ([] : List PV) S).out e fun vs S1 => match vs with
      | [] => .ex c none e S1
      | [.d x] => .ex c (some x) e S1
      | _ => .bad) := (ps_raise hc tk hm).imp fun D σ H ⟨w, e, S, re, rs, h⟩ => h w H σ (.ref C) none (Ext.refl _ _) rs re (hr w H)
end
section
variable {K : PySem.W.Frag} {w : Wd} {H : Hp} {RX : XRel}
def isClo : PV → Bool
  | .clo _ _ => true
  | _ => false
theorem RV.xa_any {z : Xa} {p : PV} {v : V} (hp : isX p = false) (hc : z.th = w.xa.th ∨ isClo p = false) (hf : z.fa = w.xa.fa) (h : RV K w H p v) : RV K { w with xa := z } H p v := by
  cases p with
  | d y => exact RD.mono (w := w) (w' := { w with xa := z }) (fun _ f => f) (fun _ _ _ e => e) h
  | r i => exact h
  | x c f => cases hp
  | s ns => exact h
  | f i =>
    obtain ⟨a, e, q⟩ := h
    exact ⟨a, by show z.fa i = some a; rw [hf]; exact e, q⟩
  | clo u env =>
    obtain ⟨t, e, q⟩ := h
    rcases hc with hc | hc
    · exact ⟨t, by show z.th = some t; rw [hc]; exact e, q⟩
    · cases hc
theorem RV.low {z : Xa} {i : Nat} {p : PV} {v : V} (hb : below i p = true) (h : RV K w H p v) : RV K { w with xa := z } H p v := by
  cases p with
  | d y => exact RD.mono (w := w) (w' := { w with xa := z }) (fun _ f => f) (fun _ _ _ e => e) h
  | r i => exact h
  | x c f => cases hb
  | s ns => cases hb
  | f i => cases hb
  | clo u env => cases hb
theorem RVs.xa_any {z : Xa} {i : Nat} : ∀ {p : List PV} {v : List V}, (∀ x ∈ p, below i x = true) → RVs K w H p v → RVs K { w with xa := z } H p v
  | _, _, _, .nil => .nil
  | _, _, hb, .cons r t => .cons (r.low (hb _ List.mem_cons_self)) (RVs.xa_any (fun x hx => hb x (List.mem_cons_of_mem _ hx)) t)
theorem RC.xa_any {z : Xa} {i : Nat} {a : Addr} {c : Cell} (h : RC K w H i a c) : RC K { w with xa := z } H i a c := by
  cases c with
  | lst xs => obtain ⟨vs, h1, h2, h3⟩ := h; exact ⟨vs, h1, RVs.xa_any h3 h2, h3⟩
  | dct kvs =>
    obtain ⟨ks, h1, h2, h3⟩ := h
    refine ⟨ks, h1, ?_, h3⟩
    clear h1
    induction h2 with
    | nil => exact .nil
    | cons r t ih => exact .cons ⟨r.1, r.2.low (h3 _ List.mem_cons_self)⟩ (ih fun p hp => h3 p (List.mem_cons_of_mem _ hp))
theorem RS.xa_any {z : Xa} {S : Sto} (ht : z.tb = w.xa.tb) (r : RS K w H S) : RS K { w with xa := z } H S :=
  ⟨r.len, r.nd, fun i c e => by
    obtain ⟨a, h1, h2, h3⟩ := r.cell i c e
    exact ⟨a, h1, h2, h3.xa_any⟩, r.fzH, r.fzT, r.pvH, fun p hp => r.tab p (by rw [← ht]; exact hp)⟩
theorem noX_at {e : Env'} (h : noX e = true) {i : Nat} {p : PV} (q : e[i]? = some (some p)) : isX p = false := by
  have h2 := List.all_eq_true.mp h _ (List.mem_of_getElem? q)
  simpa using h2
theorem RE.noX (hx : RX.xa.er = none) {e : Env'} {σ : L2.St} (re : RE K w H RX e σ) {i : Nat} {p : PV} (q : e[i]? = some (some p)) : isX p = false := by
  cases p with
  | x c f =>
    obtain ⟨v, _, a, h, _⟩ := re.at_ i _ q
    rw [re.xa, hx] at h
    cases h
  | _ => rfl
end
section
variable {X : Cx} {RX : XRel} {W : WX} {pos pos' np : Pos} {x n : Str} {cv : Value} {i c : Nat} {body suite : List Stmt} {b₀ : Stmt} {dB dSu : Env' → Sto → Out}
theorem s_try (hxa : RX.xa.er = none) (hs : X.stack = X.env :: X.outer) (hf : X.env.frame = some X.env.locals) (hN : X.N.Nodup) (hi : X.N[i]? = some n) (hln : X.env.kindOf n = some .local) (hcn : Names X x cv) (tk : Takes X W)
    (hex : ∀ w H k f cls d, RX.rel w H k f cls d → PySem.W.exmOne X.K cls cv = some (k == c || c == 0))
    (hb : ∀ (W : WX) (pn : List (Addr × Obj)) (xe : Value → Shared → Prop), Takes (X.tr pn xe) W → PassesOwn (model X.prog X.w) X.A X.env xe → PSs (X.tr pn xe) body (tS RX X.K W dB))
    (hsu : ∀ (a : Addr) (oe : Obj) (cls : Value) (d : Option Addr) (pn : List (Addr × Obj)) (k : Nat) (f : Option PyData) (w : Wd) (H : Hp), RX.rel w H k f cls d → Zc cls d oe → (∃ vs, oe.data = .fields vs) →
      PSs (X.suite a ((a, oe) :: pn)) (b₀ :: suite) (tS { RX with xa := { RX.xa with er := some (a, k, f) } } X.K WN dSu)) :
    PS X (.Try body [.ExceptHandler (some (.Name x np)) (some n) (b₀ :: suite) pos'] [] [] pos) (tS RX X.K W fun e S => match dB e S with
      | .ex k f e1 S1 => if k == c || c == 0 then (dSu (e1.set i (some (.x k f))) S1).unx i else .ex k f e1 S1
      | o => o) := by
  refine (ps_try_as (tb := fun W => tS RX X.K W dB) (ts := fun a cls d D σ H => ∃ k f w H', RX.rel w H' k f cls d ∧ tS { RX with xa := { RX.xa with er := some (a, k, f) } } X.K WN dSu D σ H) hs hf hN hi hln hcn tk hb fun a oe cls d pn hz hd => ?_).imp fun D σ H ⟨w, e, S, re, rs, h⟩ => ?_
  · exact ⟨fun pins s σ H D I ⟨k, f, w, H', hr, h⟩ => (hsu a oe cls d pn k f w H' hr hz hd).run pins s σ H D I h⟩
  · refine ⟨w, e, S, re, rs, ?_⟩
    dsimp only at h
    cases hB : dB e S with
    | bad => rw [hB] at h; exact h.elim
    | rt v S3 => rw [hB] at h; exact h
    | nx e3 S3 => rw [hB] at h; exact h
    | ex k f e1 S1 =>
      rw [hB] at h
      dsimp only at h
      intro w1 H1 σ1 cls d ext1 rs1 re1 rel
      refine ⟨_, hex w1 H1 k f cls d rel, fun hk a ha => ?_, fun hk => ?_⟩
      · rw [hk, if_pos rfl] at h
        refine ⟨k, f, w1, H1, rel, { w1 with xa := { w1.xa with er := some (a, k, f) } }, e1.set i (some (.x k f)), S1, ?_, rs1.xa_any rfl, ?_⟩
        · refine ⟨by show ({ w1.xa with er := some (a, k, f) } : Xa) = _; rw [re1.xa], by rw [List.length_set, List.length_set]; exact re1.len, fun j q hq => ?_, fun t q => re1.th t q⟩
          by_cases hj : i = j
          · subst hj
            by_cases hl : i < e1.length
            · rw [List.getElem?_set_self hl] at hq
              cases hq
              exact ⟨.ref a, by rw [List.getElem?_set_self (by rw [← re1.len]; exact hl)], a, rfl, rfl⟩
            · rw [List.getElem?_eq_none (by simpa using hl)] at hq; cases hq
          · rw [List.getElem?_set_ne hj] at hq ⊢
            obtain ⟨v, h1, h2⟩ := re1.at_ j q hq
            exact ⟨v, h1, h2.xa_any (re1.noX hxa hq) (.inl rfl) rfl⟩
        · have back : ∀ {w2 H2}, Ext { w1 with xa := { w1.xa with er := some (a, k, f) } } H1 w2 H2 → Ext w H { w2 with xa := { w2.xa with er := none } } H2 := fun {w2 H2} x2 => ext1.trans ⟨x2.fz, x2.keep, x2.m, by
              show ({ w2.xa with er := none } : Xa) = w1.xa
              rw [x2.xa]
              have : w1.xa.er = none := by rw [re1.xa, hxa]
              show (⟨none, w1.xa.th, w1.xa.fa, w1.xa.tb⟩ : Xa) = w1.xa
              rw [← this], x2.pv, x2.pvH⟩
          cases hS : dSu (e1.set i (some (.x k f))) S1 with
          | bad => rw [hS] at h; exact h.elim
          | ex _ _ _ _ => rw [hS] at h; exact h.elim
          | rt v S3 =>
            rw [hS] at h
            change PostO RX X.K w H (if isX v then .bad else .rt v S3) W D at h
            split at h
            · exact h.elim
            · rename_i hv
              exact fun w2 H2 y x2 rs2 rv2 => h { w2 with xa := { w2.xa with er := none } } H2 y (back x2) (rs2.xa_any rfl) (rv2.xa_any (by simpa using hv) (.inl rfl) rfl)
          | nx e3 S3 =>
            rw [hS] at h
            change PostO RX X.K w H (if noX (e3.set i none) then .nx (e3.set i none) S3 else .bad) W D at h
            split at h
            · rename_i hv
              intro w2 H2 σ2 x2 rs2 re2
              refine h { w2 with xa := { w2.xa with er := none } } H2 _ (back x2) (rs2.xa_any rfl) ?_
              have re3 := re2.unset (i := i)
              exact ⟨by
                show ({ w2.xa with er := none } : Xa) = _
                rw [re2.xa]
                show (⟨none, RX.xa.th, RX.xa.fa, RX.xa.tb⟩ : Xa) = RX.xa
                rw [← hxa], re3.len, fun j q hq => by
                obtain ⟨v, h1, h2⟩ := re3.at_ j q hq
                exact ⟨v, h1, h2.xa_any (noX_at hv hq) (.inl rfl) rfl⟩, fun t q => re2.th t q⟩
            · exact h.elim
      · rw [hk, if_neg Bool.false_ne_true] at h
        exact h w1 H1 σ1 cls d ext1 rs1 re1 rel
end
end Mn

end

section
set_option Elab.async false
set_option linter.all false
set_option maxRecDepth 100000
set_option maxHeartbeats 1000000
/-! MnDen11: ranges as lists, the index in a constant tuple, tests. -/
namespace Mn
open PySem PySem.Spec PyProof.Rows L2
theorem rvs_rg {K : PySem.W.Frag} {w : Wd} {H : Hp} (a b : Int) : RVs K w H (rgL a (b - a).toNat 1) (rgV a b) := by
  unfold rgL rgV
  generalize (List.range (b - a).toNat) = l
  induction l with
  | nil => exact .nil
  | cons x l ih =>
    refine .cons ?_ ih
    show RV K w H (PV.int (a + (x : Int) * 1)) (.int (a + (x : Nat)))
    rw [Int.mul_one]
    exact .int _
theorem rds_rg {K : PySem.W.Frag} {w : Wd} {H : Hp} {a b : Int} {ys : List PyData} (h : allD (rgL a (b - a).toNat 1) = some ys) : RDs K w H ys (rgV a b) := allD_rds h (rvs_rg a b)
section
variable {X : Cx} {RX : XRel} {W : WX} {a b c : Expr} {da db dc : Env' → Sto → Res PV} {pos p p2 p3 : Pos}
theorem rg_ok {K : PySem.W.Frag} {w1 : Wd} {H1 : Hp} {S : Sto} {i j : Int} {xs : List PV} {WK : XK} {α β : Type} {R : Wd → Hp → α → β → Prop} {k : List PV → Sto → Res α} {Q : β → Hp → Prop} (e5 : rg1 i j = some xs)
    (h1 : Post RX K R w1 H1 (((Res.ofOpt ((some xs).map Src.vals) S : Res Src).bind fun s S1 => match s with
      | .vals xs => if xs.length ≤ sizeLine then .ok xs S1 else .bad
      | .cell _ => .bad : Res (List PV)).bind k) WK Q) : RgOk i j ∧ xs = rgL i (j - i).toNat 1 ∧ Post RX K R w1 H1 (k xs S) WK Q := by
  obtain ⟨⟨k1, k2, k3, k4⟩, k5, rfl⟩ := rg1_some e5
  change Post RX K R w1 H1 ((if (rgL i (j - i).toNat 1).length ≤ sizeLine then Res.ok (rgL i (j - i).toNat 1) S else .bad : Res (List PV)).bind k) WK Q at h1
  split at h1
  · exact ⟨⟨k1, k2, k3, k4, k5⟩, rfl, h1⟩
  · exact h1.elim
theorem rgl1_of {K : PySem.W.Frag} {σ : L2.St} {H : Hp} {Q : VK} {k : List PV → Sto → Res PV} {G : Int → Int → Hp → Prop}
    (h : tE RX K W (fun e S => (rnglV ((da e S).bind fun x S1 => .ofOpt ((intP x).bind fun j => (rg1 0 j).map Src.vals) S1)).bind k) σ H Q)
    (go : ∀ j w1 H1 S e, RE K w1 H1 RX e σ → RS K w1 H1 S → Post RX K (RV K) w1 H1 (k (rgL 0 (j - 0).toNat 1) S) (fun c d H' => W c d σ H') Q → RgOk 0 j → G 0 j H1) : tRg1 (tE RX K W da) σ H G := by
  unfold rnglV at h
  simp only [Res.bind_assoc] at h
  refine tD.bind h fun w1 e v S x H1 re1 rs1 rv1 h1 => ?_
  cases e2 : intP v with
  | none => rw [e2] at h1; exact h1.elim
  | some j =>
    rw [e2] at h1
    have e4 := intP_some e2
    subst e4
    cases rv1
    cases e5 : rg1 0 j with
    | none => rw [Option.bind_some, e5] at h1; exact h1.elim
    | some xs =>
      rw [Option.bind_some, e5] at h1
      rw [← Res.bind_assoc] at h1
      obtain ⟨g1, g2, g3⟩ := rg_ok e5 h1
      subst g2
      exact ⟨j, rfl, go j w1 H1 S e re1 rs1 g3 g1⟩
theorem rgl2_of {K : PySem.W.Frag} {σ : L2.St} {H : Hp} {Q : VK} {k : List PV → Sto → Res PV} {G : Int → Int → Hp → Prop}
    (h : tE RX K W (fun e S => (rnglV ((da e S).bind fun x S1 => (db e S1).bind fun y S2 => .ofOpt ((intP x).bind fun i => (intP y).bind fun j => (rg1 i j).map Src.vals) S2)).bind k) σ H Q)
    (go : ∀ i j w1 H1 S e, RE K w1 H1 RX e σ → RS K w1 H1 S → Post RX K (RV K) w1 H1 (k (rgL i (j - i).toNat 1) S) (fun c d H' => W c d σ H') Q → RgOk i j → G i j H1) : tRg2 (tE RX K W da) (tE RX K W db) σ H G := by
  unfold rnglV at h
  simp only [Res.bind_assoc] at h
  refine tD.bind h fun w1 e v S x H1 re1 rs1 rv1 h1 => ?_
  refine ⟨w1, e, S, re1, rs1, Post.bind h1 fun v2 S2 w2 H2 y ext2 rs2 rv2 h2 => ?_⟩
  cases e2 : intP v with
  | none => rw [e2] at h2; exact h2.elim
  | some i =>
    cases e3 : intP v2 with
    | none => rw [e2, e3] at h2; exact h2.elim
    | some j =>
      rw [e2, e3] at h2
      have e4 := intP_some e2
      have e5 := intP_some e3
      subst e4 e5
      cases rv1
      cases rv2
      cases e6 : rg1 i j with
      | none => rw [Option.bind_some, Option.bind_some, e6] at h2; exact h2.elim
      | some xs =>
        rw [Option.bind_some, Option.bind_some, e6] at h2
        rw [← Res.bind_assoc] at h2
        obtain ⟨g1, g2, g3⟩ := rg_ok e6 h2
        subst g2
        exact ⟨i, j, rfl, rfl, go i j w2 H2 S2 e (re1.ext ext2) rs2 g3 g1⟩
theorem rngF_lst {K : PySem.W.Frag} {w1 : Wd} {H1 : Hp} {S : Sto} {i j : Int} {WK : XK} {Q : VK} (rs : RS K w1 H1 S) (h : Post RX K (RV K) w1 H1 (rngF false (rgL i (j - i).toNat 1) S) WK Q) : ∀ q, H1 q = none → Q (.ref q) (upd H1 q (.lst (rgV i j))) := by
  obtain ⟨z, e1, an⟩ := h.ans
  obtain ⟨xs, e2, rfl⟩ := Option.map_eq_some_iff.mp e1
  rw [if_neg Bool.false_ne_true] at an
  exact fun p hp => an.lst rs (rds_rg e2) hp
theorem rngF_tup {K : PySem.W.Frag} {w1 : Wd} {H1 : Hp} {S : Sto} {i j : Int} {WK : XK} {Q : VK} (rs : RS K w1 H1 S) (h : Post RX K (RV K) w1 H1 (rngF true (rgL i (j - i).toNat 1) S) WK Q) : ∀ q, H1 q = none → Q (.ref q) (upd H1 q (.tup (rgV i j))) := by
  obtain ⟨z, e1, an⟩ := h.ans
  obtain ⟨xs, e2, rfl⟩ := Option.map_eq_some_iff.mp e1
  rw [if_pos rfl] at an
  exact fun p hp => an.tup rs (rds_rg e2) hp
theorem newF_rg {K : PySem.W.Frag} {w1 : Wd} {H1 : Hp} {S : Sto} {i j : Int} {WK : XK} {Q : VK} (rs : RS K w1 H1 S) (h : Post RX K (RV K) w1 H1 (newF (rgL i (j - i).toNat 1) S) WK Q) : ∀ q, H1 q = none → Q (.ref q) (upd H1 q (.lst (rgV i j))) := by
  intro p hp
  unfold newF at h
  split at h
  · rename_i hk
    have rv : RVs K w1 H1 (rgL i (j - i).toNat 1) (rgV i j) := rvs_rg i j
    have ex := ext_celled (o := .lst (rgV i j)) rs hp
    refine h (w1.celled p) _ (.ref p) ex (rs_celled rs hp ⟨rgV i j, upd_same, rv.ext ex, rvs_below rs rv (okL_xs hk)⟩) ⟨p, ?_, rfl⟩
    show (w1.m ++ [p])[S.length]? = some p
    rw [← rs.len, List.getElem?_append_right (Nat.le_refl _), Nat.sub_self]
    rfl
  · exact h.elim
/-- list(range(a)) -/
theorem d_rngl1 {k : List PV → Sto → Res PV} (hk : k = rngF false ∨ k = newF) (hc : X.calm = true) (hgl : Gl X "list") (hml : X.mg "list" = none) (hg : Gl X "range") (hm : X.mg "range" = none) (hn : noStar a = true) (ha : PE X a (tE RX X.K W da)) :
    PE X (.Call (.Name "list" p2) [.Call (.Name "range" p) [a] [] p3] [] pos) (tE RX X.K W fun e S => (rnglV ((da e S).bind fun x S1 => .ofOpt ((intP x).bind fun j => (rg1 0 j).map Src.vals) S1)).bind k) :=
  (pe_listRg hc hgl hml (prg_1 hg hm ha (star_cons hn _ _))).imp fun σ H Q h => rgl1_of h fun j w1 H1 S e re rs h2 ok => ⟨ok, by
    rcases hk with rfl | rfl
    · exact rngF_lst rs h2
    · exact newF_rg rs h2⟩
theorem d_rngl2 {k : List PV → Sto → Res PV} (hk : k = rngF false ∨ k = newF) (hc : X.calm = true) (hgl : Gl X "list") (hml : X.mg "list" = none) (hg : Gl X "range") (hm : X.mg "range" = none) (hn : noStar a = true) (hn2 : noStar b = true) (ha : PE X a (tE RX X.K W da)) (hb : PE X b (tE RX X.K W db)) :
    PE X (.Call (.Name "list" p2) [.Call (.Name "range" p) [a, b] [] p3] [] pos) (tE RX X.K W fun e S => (rnglV ((da e S).bind fun x S1 => (db e S1).bind fun y S2 => .ofOpt ((intP x).bind fun i => (intP y).bind fun j => (rg1 i j).map Src.vals) S2)).bind k) :=
  (pe_listRg hc hgl hml (prg_2 hg hm ha hb (star_cons hn _ _) (star_cons hn2 _ _) (star_any _ _ (by simp [hn2])))).imp fun σ H Q h => rgl2_of h fun i j w1 H1 S e re rs h2 ok => ⟨ok, by
    rcases hk with rfl | rfl
    · exact rngF_lst rs h2
    · exact newF_rg rs h2⟩
theorem d_rngt1 (hc : X.calm = true) (hgl : Gl X "tuple") (hml : X.mg "tuple" = none) (hg : Gl X "range") (hm : X.mg "range" = none) (hn : noStar a = true) (ha : PE X a (tE RX X.K W da)) :
    PE X (.Call (.Name "tuple" p2) [.Call (.Name "range" p) [a] [] p3] [] pos) (tE RX X.K W fun e S => (rnglV ((da e S).bind fun x S1 => .ofOpt ((intP x).bind fun j => (rg1 0 j).map Src.vals) S1)).bind (rngF true)) :=
  (pe_tupRg hc hgl hml (prg_1 hg hm ha (star_cons hn _ _))).imp fun σ H Q h => rgl1_of h fun j w1 H1 S e re rs h2 ok => ⟨ok, rngF_tup rs h2⟩
theorem d_rngt2 (hc : X.calm = true) (hgl : Gl X "tuple") (hml : X.mg "tuple" = none) (hg : Gl X "range") (hm : X.mg "range" = none) (hn : noStar a = true) (hn2 : noStar b = true) (ha : PE X a (tE RX X.K W da)) (hb : PE X b (tE RX X.K W db)) :
    PE X (.Call (.Name "tuple" p2) [.Call (.Name "range" p) [a, b] [] p3] [] pos) (tE RX X.K W fun e S => (rnglV ((da e S).bind fun x S1 => (db e S1).bind fun y S2 => .ofOpt ((intP x).bind fun i => (intP y).bind fun j => (rg1 i j).map Src.vals) S2)).bind (rngF true)) :=
  (pe_tupRg hc hgl hml (prg_2 hg hm ha hb (star_cons hn _ _) (star_cons hn2 _ _) (star_any _ _ (by simp [hn2])))).imp fun σ H Q h => rgl2_of h fun i j w1 H1 S e re rs h2 ok => ⟨ok, rngF_tup rs h2⟩
/-! ### the index in a constant tuple -/
/-- a tuple that stands in the written part -/
def KTup (K : PySem.W.Frag) (l : Addr) (c : List PyData) : Prop := ∃ (o : Obj) (its : Array Value) (n : Nat) (vs : List V), K.lookup l = some o ∧ o.cls = .type "tuple" ∧ o.dict = none ∧ o.data = .seq its n ∧ its.size ≤ sizeLine ∧ Vals vs its.toList ∧ ∀ w H, RDs K w H c vs
theorem KTup.rd {K : PySem.W.Frag} {l : Addr} {c : List PyData} (h : KTup K l c) (w : Wd) (H : Hp) : RD K w H (.tuple c) (.ref l) := by
  obtain ⟨o, its, n, vs, h1, h2, h3, h4, h5, h6, h7⟩ := h
  exact .tup (.inr ⟨o, its, n, h1, h2, h4, h5, h6⟩) (h7 w H)
def rgixM (K : PySem.W.Frag) (c : List PyData) : V → List V → Hp → VK → Prop := fun x vs H Q => ∃ w S l q z v, RS K w H S ∧ x = .ref l ∧ KTup K l c ∧ vs = [v] ∧ RV K w H q v ∧ gixV S c q = some z ∧ Ans K w H S z Q
theorem mm_gix {cs : List PyData} (hu : X.A.units + 65 < cLine) : MtR X "tuple.index" (rgixM X.K cs) := by
  intro pins s σ H x vs v us Q I rx rxs hh
  obtain ⟨w, S, l, q, z, vq, rs, rfl, kt, rfl, rq, e, a⟩ := hh
  cases e0 : cur S q with
  | none => unfold gixV at e; rw [e0] at e; cases e
  | some da =>
    unfold gixV at e
    rw [e0, Option.bind_some] at e
    split at e
    · rename_i hs
      obtain ⟨s1, s2⟩ := Bool.and_eq_true_iff.mp hs
      cases e1 : findD da cs with
      | none => rw [e1] at e; cases e
      | some n =>
        rw [e1] at e
        cases e
        obtain ⟨o, its, nn, vs', k1, k2, k3, k4, k5, k6, k7⟩ := kt
        obtain ⟨uq, rfl, ruq⟩ := rxs.one
        cases rx
        have cl : PyData.canLayAll0 cs = true := by simpa [PyData.canLay0] using shp_lay s2
        obtain ⟨as, z1⟩ := snap_reads I rs 3 e0 (shp_lay s1) rq ruq
        obtain ⟨bs, z2⟩ := RDs.reads0 I _ cl (k7 w H) k6
        obtain ⟨h1, h2, h3⟩ := findD_some e1
        have hlen := reads_len z2
        have hsz : n < its.size := by rw [← Array.length_toList, hlen]; exact h1
        obtain ⟨oc, od, odt, osl⟩ := o
        simp only at k2 k3 k4
        subst k2 k3 k4
        have eo := I.kIn _ _ k1
        have eqs := SeqAt.items_eqAt z2 z1 cl (shp_lay s1) (room_in hu s1)
        refine call_meets F.slot_tuple_index ⟨_, eo, rfl⟩ F.entry_tuple_index (F.args_tuple_index_2 _ _)
          (SeqAt.tuple_index2_found l its nn none osl uq (fun j => match its[j]? with
            | some y => PyData.eqv (SeqAt.readOf s.heap y) da
            | none => false) n hsz (Nat.zero_le _) hsz ?_ ?_)
          ⟨eo, fun j hj => ?_, ⟨.int n, H, I.tok _, ⟨_, rfl⟩, a.int rs⟩⟩
        · show (match its[n]? with
            | some y => PyData.eqv (SeqAt.readOf s.heap y) da
            | none => false) = true
          rw [Array.getElem?_eq_getElem hsz]
          show PyData.eqv (SeqAt.readOf s.heap its[n]) da = true
          have := reads_items cl z2 (j := n) (by simpa using hsz) h1
          rw [Array.getElem_toList] at this
          rw [this]
          exact h2
        · intro m hm _ hlt
          show (match its[m]? with
            | some y => PyData.eqv (SeqAt.readOf s.heap y) da
            | none => false) = false
          rw [Array.getElem?_eq_getElem hm]
          have hm' : m < cs.length := by rw [← hlen]; simpa using hm
          have := reads_items cl z2 (j := m) (by simpa using hm) hm'
          rw [Array.getElem_toList] at this
          show PyData.eqv (SeqAt.readOf s.heap its[m]) da = false
          rw [this]
          exact h3 m hm' hlt
        · show SeqAt.EqAt _ _ _ _ (match its[j]? with
            | some y => PyData.eqv (SeqAt.readOf s.heap y) da
            | none => false)
          rw [Array.getElem?_eq_getElem hj]
          exact eqs _ (Array.getElem_mem hj)
    · cases e
theorem d_gix {x : Str} {l : Addr} {cs : List PyData} {apos : Pos} (hu : X.A.units + 65 < cLine) (hg : Gl X x) (hm : X.mg x = some (.ref l)) (hd : (x == ("__debug__" : Str)) = false) (kt : KTup X.K l cs) (ha : PE X a (tE RX X.K W da)) (hn : noStar a = true) (hline : (apos.endLine == pos.line) = true) :
    PE X (.Call (.Attribute (.Name x p) "index" apos) [a] [] pos) (tE RX X.K W fun e S => (da e S).bind fun x S1 => .ofOpt (gixV S1 cs x) S1) := by
  have ho : PE X (.Name x p) (tC (.ref l)) := pe_glob hg hm rfl hd
  have pa : PA X [a] (tCons (tE RX X.K W da) tNil) := pa_cons ha pa_nil (star_cons hn _ _)
  refine (pe_bm PySem.F.plainAttrs_tuple PySem.F.slot_tuple_index PySem.F.type_tuple_index (mm_gix (cs := cs) hu) ho pa rfl (few1 hn _ _) hline (star_cons hn _ _) (star_any _ _ rfl)).imp fun σ H Q h => ?_
  refine ⟨?_, tD.bind h fun w1 e v S x H1 re1 rs1 rv1 h1 => ?_⟩
  · obtain ⟨o, its, n, vs, h1, h2, h3, _⟩ := kt
    exact .inr (.inl ⟨rfl, o, h1, h2, h3⟩)
  · obtain ⟨z, e1, an⟩ := h1.ans
    exact ⟨w1, S, l, v, z, x, rs1, rfl, kt, rfl, rv1, e1, an⟩
/-! ### tests -/
theorem d_cmp2T {o p : Cop} (hu : X.A.units + 65 < cLine) (hs : (noSet b && noSet c) = true) (ha : PE X a (tE RX X.K W da)) (hb : PE X b (tE RX X.K W db)) (hc : PE X c (tE RX X.K W dc)) :
    PT X (.Compare a [copOf o, copOf p] [b, c] pos) (tT RX X.K W (toT fun e S => (da e S).bind fun x S1 => (db e S1).bind fun y S2 => (Res.ofOpt (cmpV S2 o x y) S2).bind fun k S3 =>
      if k then (dc e S3).bind fun z S4 => .ofOpt ((cmpV S4 p y z).map PV.bool) S4 else .ok (.bool false) S3)) := by
  refine (pt_chain (om_cmp hu o) (om_cmp hu p) ha hb hc (lastMark2 hs _ _)).imp fun σ H Q h => ?_
  have h := tB_of (t := tE RX X.K W da) h
  refine tD.bind h fun w1 e v S x H1 re1 rs1 rv1 h1 => ?_
  refine ⟨w1, e, S, re1, rs1, h1.bind fun v2 S2 w2 H2 y ext rs2 rv2 h2 => ?_⟩
  cases e1 : cmpV S2 o v v2 with
  | none => rw [e1] at h2; exact h2.elim
  | some k =>
    rw [e1] at h2
    refine ⟨w2, S2, v, v2, .bool k, rs2, rv1.ext ext, rv2, by show (cmpV S2 o v v2).map PV.bool = _; rw [e1]; rfl, fun w3 H3 z ext3 rs3 rv3 => ?_⟩
    cases rv3
    refine ⟨k, rfl, ?_⟩
    have h3 := h2.ext ext3
    cases k with
    | true =>
      refine ⟨w3, e, S2, (re1.ext ext).ext ext3, rs3, Post.bind h3 fun v4 S4 w4 H4 u ext4 rs4 rv4 h4 => ?_⟩
      obtain ⟨z, e2, an⟩ := h4.ans
      exact ⟨w4, S4, v2, v4, z, rs4, (rv2.ext ext3).ext ext4, rv4, e2, an⟩
    | false => exact h3 w3 H3 _ (Ext.refl _ _) rs3 (.bool false)
def genT : Expr → Bool
  | .Name _ _ => true
  | .Constant _ _ _ => true
  | .Call _ _ _ _ => true
  | .Subscript _ _ _ => true
  | .BinOp _ _ _ _ => true
  | .Tuple _ _ _ => true
  | .List _ _ => true
  | _ => false
theorem genT_ok {e : Expr} {env : Env} (h : genT e = true) : ∀ whole, isTrue e env whole = (do let v ← whole; standAt e.pos; holding [v] (truthy v)) := by
  cases e <;> first | (intro _; rfl) | cases h
end
def plainIx : Expr → Bool
  | .Name _ _ => true
  | .Constant _ _ _ => true
  | .Call _ _ _ _ => true
  | .Subscript _ _ _ => true
  | .BinOp _ _ _ _ => true
  | .UnaryOp _ _ _ => true
  | .IfExp _ _ _ _ => true
  | _ => false
theorem plainIx_ok {e : Expr} (h : plainIx e = true) : PlainIx e := by
  cases e <;> first | (intro _ _; rfl) | cases h
theorem noSet_fold {e : Expr} {env : Env} (h : noSet e = true) : ∀ x, foldedSetIterable e env x = pure x := by
  cases e <;> first | (intro _; rfl) | cases h
def baseOk (o : Expr) : Bool := match o with
  | .Call (.Name id _) [] [] _ => id != "super"
  | _ => true
theorem baseOk_ok {o : Expr} {name : Str} {env : Env} (h : baseOk o = true) : attributeBase o name env (eval o env) = eval o env := by
  unfold attributeBase
  split
  · rename_i id p pos
    have h2 : (id != "super") = true := h
    rw [h2]
    simp
  · rfl
end Mn

end

section
set_option Elab.async false
set_option linter.all false
set_option maxRecDepth 100000
set_option maxHeartbeats 2000000
/-! MnLam: a lambda handed to a def, what is raised in it wished for where it is called; defs as values. -/
namespace Mn
open PySem PySem.Spec PyProof.Rows L2
section
variable {X : Cx} {pins : List (Addr × Obj)} {τ : L2.St} {H0 HZ : Hp} {s00 s1 : Shared}
/-- the context in which the lambda's taker stands -/
abbrev tkCx (X : Cx) (M : List Str) (x : Str) (sg : Scope) (g : Addr) (cdg : Value) (s00 : Shared) (H0 : Hp) : Cx := cxOf C8.CX0 X.prog X.w X.K X.mg X.base M x sg g cdg X.A X.stack s00 H0 C8.E0
/-- x() in the taker: tb is the lambda's reading, by what is wished of its errors -/
theorem pe_actS {M : List Str} {x : Str} {sg : Scope} {g f c' : Addr} {cdg pm ctv : Value} {params : Arguments} {body : Expr} {scope : Scope} {k i : Nat} {a : Str} {pn : List (Addr × Obj)} {xe : Value → Shared → Prop} {W : WX} {tb : XK → TE} {p1 p2 : Pos}
    (I0 : Inv X pins τ H0 s00) (hL : LamX.LamS X.env.scope scope)
    (hobj : s00.heap.get? f = some (PySem.W.kla_obj "<lambda>" (X.env.qual ++ "<lambda>") params body scope (cloFrom X.env.cells scope.names []) pm c' ctv)) (h0n : H0 f = none) (h0f : f ∉ frs X.stack)
    (hnb : bindArgs (PySem.W.kla_fn "<lambda>" (X.env.qual ++ "<lambda>") params body scope (cloFrom X.env.cells scope.names []) pm (.ref c') ctv) ⟨[], []⟩ = pure [])
    (tk : Takes ((tkCx X M x sg g cdg s00 H0).tr pn xe) W) (room : Room (k + 1) (X.A.deeper (envOfC x sg s00.heap.objs.size g cdg))) (gd : X.A.guards = some [])
    (hbd : ∀ (B : Around) (out : List Env) (s2 : Shared) (H2 : Hp) (E : XK), Room k (B.deeper (LamX.lamEnv X scope s2.heap.objs.size f c')) → B.guards = some [] → PE (LamX.lamCx X B out s2 H2 E scope f c') body (tb E))
    (hN : M[i]? = some a) (hv : Vis sg a) (hd1 : (a == ("__debug__" : Str)) = false) (hd2 : (a == ("__classdict__" : Str)) = false) :
    PE ((tkCx X M x sg g cdg s00 H0).tr pn xe) (.Call (.Name a p1) [] [] p2)
      (fun υ HZ Q => υ[i]? = some (some (.ref f)) ∧ HZ c' = some (LamX.CodeO c' (X.env.qual ++ "<lambda>")) ∧ tb (fun cls d H' => W cls d υ H') τ HZ Q) := by
  refine ⟨fun pinsZ sZ υ HZ Q IZ hh => ?_⟩
  obtain ⟨hslot, hcd, hrd⟩ := hh
  refine wpAny_Call_Name_kw (thn ((pe_var (pos := p1) (i := i) hN hv hd1 hd2).run pinsZ sZ υ HZ (fun v H9 => v = .ref f ∧ H9 = HZ) IZ ⟨.ref f, hslot, rfl, rfl⟩) fun u s9 ⟨v, H9, I9, r9, q9⟩ => ?_)
  obtain ⟨e9, eH⟩ := q9
  subst e9
  rw [eH] at I9
  obtain rfl : u = Value.ref f := r9
  have fobj : s9.heap.get? f = some (PySem.W.kla_obj "<lambda>" (X.env.qual ++ "<lambda>") params body scope (cloFrom X.env.cells scope.names []) pm c' ctv) := I9.base.keep f _ hobj h0n h0f (fun z => nomatch (show f ∈ ([] : List Addr) from z))
  refine PySem.W.callWith_F0 ⟨_, _, _, _, fobj⟩ ?_
  have unZ : Un (frs X.stack) [] H0 HZ s00.heap s9.heap := I9.base
  obtain ⟨⟨oc, vs, tt, g1, g2, g3⟩, _, _⟩ := I9.hok c' _ hcd
  have main : codeAny (model X.prog X.w) (X.A.deeper (envOfC x sg s00.heap.objs.size g cdg)) (.call (.ref f) ⟨[], []⟩) (CR (L2.CX X.prog X.w) (envOfC x sg s00.heap.objs.size g cdg :: X.stack) X.prog X.w HZ s9 Q (fun cls d H' => W cls d υ H')) s9 := by
    refine PySem.W.kla_callFunE room.depth fobj rfl hL.co hL.gen rfl ⟨c', oc, vs, tt, rfl, g1, g2, g3⟩ ?_
    rw [hnb]
    refine wpAny_pure (wpAny_newFunctionEnv (fun y hy => (hL.own y hy).2) (fun y hy => absurd hy (by simp)) (fun h₁ hns hsb => ⟨I9.nolimit.fresh _ hsb, ?_⟩) hL.kind)
    show codeAny _ _ (.expr body (LamX.lamEnv X scope s9.heap.objs.size f c')) _ _
    have kept : ∀ b o, s9.heap.get? b = some o → h₁.get? b = some o := fun b o e => hsb.extBut b o (Nat.ne_of_lt (Heap.lt_size e)) (Heap.get?_push_of_some _ e)
    have J := LamX.lam_start2 (E := fun cls d H' => W cls d υ H') (f := f) (c' := c') (tk := s9.toks + ([] : List (Str × Value)).length) I0 hL I9.env0 room.hd unZ hns kept
    refine PySem.W.kla_codeExpr (wpAny_mono ((hbd _ _ s9 HZ _ (room.deeper _) gd).run [] _ _ HZ Q J hrd) (fun v s' hq => ?_) fun e s' hq => hq)
    obtain ⟨w', H', J', rv, q⟩ := hq
    exact ⟨w', H', J'.os, J'.bare, J'.base, J'.hok, rv, q⟩
  have pas : PassesAt (L2.CX X.prog X.w) ((tkCx X M x sg g cdg s00 H0).tr pn xe) υ (fun cls d H' => W cls d υ H') := passAt tk υ
  refine wpAny_call (codeAny_mono main fun r s' hq => ?_)
  cases r with
  | error e => exact pas pinsZ HZ s9 e s' I9 hq
  | ok fl =>
    cases fl with
    | ret u => exact I9.after hq
    | next => exact False.elim hq
    | brk => exact False.elim hq
    | cont => exact False.elim hq
end
/-- the taker does with its lambda what TT says -/
def GivesS (X : Cx) (M : List Str) (x : Str) (sg : Scope) (g : Addr) (cdg : Value) (bg : List Stmt) (a : Str) (q : Str) (k : Nat) (TT : (XK → Hp → VK → Prop) → Hp → VK → Prop) : Prop :=
  ∀ (f c' : Addr) (s00 : Shared) (H0 : Hp) (Q : VK) (tl : XK → Hp → VK → Prop), Room (k + 1) (X.A.deeper (envOfC x sg s00.heap.objs.size g cdg)) →
    (∀ (W : WX) (pn : List (Addr × Obj)) (xe : Value → Shared → Prop) (p1 p2 : Pos), Takes ((tkCx X M x sg g cdg s00 H0).tr pn xe) W →
      PE ((tkCx X M x sg g cdg s00 H0).tr pn xe) (.Call (.Name a p1) [] [] p2) (fun υ HZ Q => υ[0]? = some (some (.ref f)) ∧ HZ c' = some (LamX.CodeO c' q) ∧ tl (fun cls d H' => W cls d υ H') HZ Q)) →
    H0 c' = some (LamX.CodeO c' q) → TT tl H0 Q →
    ∃ t, PSs (tkCx X M x sg g cdg s00 H0).nox bg t ∧ t { nx := fun _ H' => Q .non H', rt := Q } (L2.start M [.ref f]) H0
/-- what the making of a lambda and its being handed on ask -/
def tLamS (T : List (Addr × Str)) (TT : (XK → Hp → VK → Prop) → Hp → VK → Prop) (t : XK → TE) : TE := fun τ H Q => LamX.Tabs T H ∧ ∀ H1, LamX.ExtN H H1 → LamX.Tabs T H1 → TT (fun E H' Q' => t E τ H' Q') H1 Q
section
variable {X : Cx}
/-- x(lambda: body) -/
theorem pe_lamS {T : List (Addr × Str)} {TT : (XK → Hp → VK → Prop) → Hp → VK → Prop} {x a : Str} {g c P : Addr} {k : Nat} {pg : Arguments} {bg : List Stmt} {sg : Scope} {dV kV doc pm cdv ct oc : Value} {an od : Option Addr} {osl : Array (Option Value)} {M : List Str}
    {params : Arguments} {body : Expr} {scope : Scope} {t : XK → TE} {p lpos pos : Pos} (hg : Gl X x) (hm : X.mg x = some (.ref g)) (hk : PySem.W.keepIn X.K (.ref g) = true)
    (lk : X.K.lookup g = some ⟨oc, od, .func (PySem.W.fnOf x x pg bg sg dV kV doc pm an cdv ct), osl⟩) (hcg : PySem.W.codeIn X.K cdv x = true) (hb : L2.Binds X.K (PySem.W.fnOf x x pg bg sg dV kV doc pm an cdv ct) [a] []) (Sg : FnScope M [a] sg) (h0 : M[0]? = some a) (hva : Vis sg a)
    (hG : GivesS X M x sg g cdv bg a (X.env.qual ++ "<lambda>") k TT)
    (TB : LamX.TabB X.base X.mg c P) (hcode : X.env.code = .ref c) (hmT : (P, X.env.qual ++ "<lambda>") ∈ T) (hu : ∀ p ∈ T, p.1 = P → p.2 = X.env.qual ++ "<lambda>") (hr : Room (k + 2) X.A) (gd : X.A.guards = some []) (hL : LamX.LamS X.env.scope scope) (hdef : defaultsOf params X.env = ([], []))
    (hnb : ∀ (q : Str) (cl : List (Str × Addr)) (pm cv ctv : Value), bindArgs (PySem.W.kla_fn "<lambda>" q params body scope cl pm cv ctv) ⟨[], []⟩ = pure [])
    (hbd : ∀ (B : Around) (out : List Env) (s2 : Shared) (H2 : Hp) (E : XK) (f c' : Addr), Room k (B.deeper (LamX.lamEnv X scope s2.heap.objs.size f c')) → B.guards = some [] → PE (LamX.lamCx X B out s2 H2 E scope f c') body (t E))
    (hdb : (x == ("__debug__" : Str)) = false) (hd1 : (a == ("__debug__" : Str)) = false) (hd2 : (a == ("__classdict__" : Str)) = false) :
    PE X (.Call (.Name x p) [.Lambda params body scope lpos] [] pos) (tLamS T TT t) := by
  refine ⟨fun pins s τ H Q I hh => ?_⟩
  obtain ⟨hT, hh⟩ := hh
  refine wpAny_Call_Name_kw (ld_glob I hg hm ?_ hdb)
  refine PySem.W.callWith_K (h₀ := X.base) I.ok.mod.kin hk ?_ (by rfl) (by rfl)
  show wpAny _ _ (spliced ((false, eval (.Lambda params body scope lpos) X.env) :: backTo pos (starEach [] X.env))) _ _ s
  refine Calls.spliced_cons (LamX.lam_make2 I TB hcode hmT hu hT hdef (hL.has I.ok) fun f c' pm' ctv H1 s1 I1 eN T1 hf hfn hfr hco => ?_)
  refine Calls.spliced_nil ⟨I1.kIn, ?_⟩
  have main : codeAny (model X.prog X.w) X.A (.call (.ref g) ⟨[.ref f], []⟩) (CR C8.CX0 X.stack X.prog X.w H1 s1 Q C8.E0) s1 := by
    refine LamX.run_ofS (N := M) (ps := [a]) (us := [.ref f]) (vs := [.ref f]) lk hcg Sg hr I1.env0 (hb s1 [.ref f] I1.kIn rfl) (.cons rfl .nil) rfl fun hr' => ?_
    obtain ⟨t', ht', hq'⟩ := hG f c' s1 H1 Q (fun E H' Q' => t E τ H' Q') hr' (fun W pn xe p1 p2 tk => pe_actS (i := 0) I1 hL hf hfn hfr (hnb _ _ _ _ _) tk hr' gd (fun B out s2 H2 E hr2 => hbd B out s2 H2 E f c' hr2) h0 hva hd1 hd2) hco (hh H1 eN T1)
    exact ⟨t', ht'.nox, hq'⟩
  refine wpAny_call (codeAny_mono main fun r s2 hq => ?_)
  cases r with
  | error e => exact (show False from hq).elim
  | ok fl =>
    cases fl with
    | ret u => exact I1.after hq
    | next => exact False.elim hq
    | brk => exact False.elim hq
    | cont => exact False.elim hq
end
end Mn

end

section
set_option Elab.async false
set_option linter.all false
set_option maxRecDepth 100000
set_option maxHeartbeats 2000000
/-! MnDen12: defs as values and lambdas by their meanings. -/
namespace Mn
open PySem PySem.Spec PyProof.Rows L2
section
variable {K : PySem.W.Frag} {w : Wd} {H H1 : Hp} {S : Sto}
theorem PvO.at {o : Option HO} (h : PvO o) : ∃ u, o = some u ∧ ∀ ps, u ≠ .tbl ps := by
  cases o with
  | none => exact h.elim
  | some u => exact ⟨u, rfl, fun ps z => by subst z; exact h⟩
theorem rc_at {i : Nat} {a : Addr} {c : Cell} (h : RC K w H i a c) : ∃ u, H a = some u ∧ (∀ ps, u ≠ .tbl ps) ∧ ∀ q, u ≠ LamX.CodeO a q := by
  cases c with
  | lst xs => obtain ⟨vs, h1, _⟩ := h; exact ⟨_, h1, (fun _ z => nomatch z), fun _ z => by unfold LamX.CodeO at z; cases z⟩
  | dct kvs => obtain ⟨ks, h1, _⟩ := h; exact ⟨_, h1, (fun _ z => nomatch z), fun _ z => by unfold LamX.CodeO at z; cases z⟩
/-- all code objects are frozen -/
abbrev Wd.coded (w : Wd) (H1 : Hp) : Wd := { w with fz := fun a => w.fz a ∨ ∃ q, H1 a = some (LamX.CodeO a q) }
theorem lam_ext (rs : RS K w H S) (eN : LamX.ExtN H H1) : Ext w H (w.coded H1) H1 :=
  ⟨fun _ f => .inl f, fun a o f e => eN a o e fun ps z => rs.fzT a f ps (by rw [e, z]), ⟨[], by simp⟩, rfl, rfl, fun a f => by
    obtain ⟨u, e, n⟩ := (rs.pvH a f).2.2.at
    rw [e]
    exact eN a u e n⟩
theorem lam_rs (rs : RS K w H S) (eN : LamX.ExtN H H1) (T1 : LamX.Tabs w.xa.tb H1) : RS K (w.coded H1) H1 S := by
  have x := lam_ext rs eN
  refine ⟨rs.len, rs.nd, fun i c e => ?_, fun a f => ?_, fun a f ps => ?_, fun a f => ?_, fun p hp => ?_⟩
  · obtain ⟨a, e1, nf, rc⟩ := rs.cell i c e
    obtain ⟨u, e2, n, n2⟩ := rc_at rc
    have e3 := eN a u e2 n
    refine ⟨a, e1, fun z => z.elim nf fun ⟨q, z⟩ => ?_, rc.ext x (e3.trans e2.symm)⟩
    rw [e3] at z
    exact n2 q (Option.some.inj z)
  · rcases f with f | ⟨q, f⟩
    · intro z
      cases e : H a with
      | none => exact rs.fzH a f e
      | some o => rw [eN a o e fun ps q => rs.fzT a f ps (by rw [e, q])] at z; cases z
    · rw [f]; exact fun z => nomatch z
  · rcases f with f | ⟨q, f⟩
    · intro z
      cases e : H a with
      | none => exact rs.fzH a f e
      | some o =>
        rw [eN a o e fun ps q => rs.fzT a f ps (by rw [e, q])] at z
        exact rs.fzT a f ps (e.trans z)
    · rw [f]; exact fun z => LamX.codeO_ne ps (Option.some.inj z)
  · obtain ⟨h1, h2, h3⟩ := rs.pvH a f
    have e : H1 a = H a := x.pvH a f
    refine ⟨fun z => z.elim h1 fun ⟨q, z⟩ => ?_, h2, by rw [e]; exact h3⟩
    rw [e] at z
    exact h3.code z
  · obtain ⟨ps, e, ht, hc⟩ := T1 p hp
    refine ⟨fun z => z.elim (rs.tab p hp).1 fun ⟨q, z⟩ => ?_, ps, e, ht, fun pos cv hcv => ?_⟩
    · rw [e] at z
      exact LamX.codeO_ne ps (Option.some.inj z).symm
    · obtain ⟨c, e1, e2⟩ := hc pos cv hcv
      exact ⟨c, e1, e2, .inr ⟨_, e2⟩⟩
theorem rs_tabs (rs : RS K w H S) : LamX.Tabs w.xa.tb H := fun p hp => by
  obtain ⟨_, ps, h1, h2, h3⟩ := rs.tab p hp
  refine ⟨ps, h1, h2, fun pos cv hcv => ?_⟩
  obtain ⟨c, e1, e2, _⟩ := h3 pos cv hcv
  exact ⟨c, e1, e2⟩
end
theorem Post.noexW {α β : Type} {RX : XRel} {K : PySem.W.Frag} {R : Wd → Hp → α → β → Prop} {w : Wd} {H : Hp} {r : Res α} {W W' : XK} {Q : β → Hp → Prop} (h : Post RX K R w H r.noex W Q) : Post RX K R w H r.noex W' Q := by
  cases r <;> exact h
section
variable {X : Cx} {W : WX} {ea : EA}
/-- what the taker is told: tl is the lambda's reading, d2 its meaning at its maker's names -/
def TTm (ea : EA) (K : PySem.W.Frag) (d2 : Env' → Sto → Res PV) (gc : Env' → Sto → Res PV) : (XK → Hp → VK → Prop) → Hp → VK → Prop := fun tl H Q =>
  ∃ w e τ S, RE K w H (RXof ea) e τ ∧ RS K w H S ∧ (∀ c q, H c = some (LamX.CodeO c q) → w.fz c) ∧ (∀ (E : XK) H' Q', tE (RXof ea) K (fun c d _ H'' => E c d H'') d2 τ H' Q' → tl E H' Q') ∧ Post (RXof ea) K (RV K) w H (gc e S).noex (fun _ _ _ => False) Q
theorem d_lcall {d2 gc : Env' → Sto → Res PV} {x a : Str} {g c P : Addr} {k : Nat} {pg : Arguments} {bg : List Stmt} {sg : Scope} {dV kV doc pm cdv ct oc : Value} {an od : Option Addr} {osl : Array (Option Value)} {M : List Str}
    {params : Arguments} {body : Expr} {scope : Scope} {p lpos pos : Pos} (hg : Gl X x) (hm : X.mg x = some (.ref g)) (hk : PySem.W.keepIn X.K (.ref g) = true)
    (lk : X.K.lookup g = some ⟨oc, od, .func (PySem.W.fnOf x x pg bg sg dV kV doc pm an cdv ct), osl⟩) (hcg : PySem.W.codeIn X.K cdv x = true) (hb : L2.Binds X.K (PySem.W.fnOf x x pg bg sg dV kV doc pm an cdv ct) [a] []) (Sg : FnScope M [a] sg) (h0 : M[0]? = some a) (hva : Vis sg a)
    (hG : GivesS X M x sg g cdv bg a (X.env.qual ++ "<lambda>") k (TTm ea X.K d2 gc))
    (TB : LamX.TabB X.base X.mg c P) (hcode : X.env.code = .ref c) (hmT : (P, X.env.qual ++ "<lambda>") ∈ ea.tb) (hu : ∀ p ∈ ea.tb, p.1 = P → p.2 = X.env.qual ++ "<lambda>") (hr : Room (k + 2) X.A) (gd : X.A.guards = some []) (hL : LamX.LamS X.env.scope scope) (hdef : defaultsOf params X.env = ([], []))
    (hnb : ∀ (q : Str) (cl : List (Str × Addr)) (pm cv ctv : Value), bindArgs (PySem.W.kla_fn "<lambda>" q params body scope cl pm cv ctv) ⟨[], []⟩ = pure [])
    (hbd : ∀ (B : Around) (out : List Env) (s2 : Shared) (H2 : Hp) (E : XK) (f c' : Addr), Room k (B.deeper (LamX.lamEnv X scope s2.heap.objs.size f c')) → B.guards = some [] → PE (LamX.lamCx X B out s2 H2 E scope f c') body (tE (RXof ea) X.K (fun c d _ H'' => E c d H'') d2))
    (hdb : (x == ("__debug__" : Str)) = false) (hd1 : (a == ("__debug__" : Str)) = false) (hd2 : (a == ("__classdict__" : Str)) = false) :
    PE X (.Call (.Name x p) [.Lambda params body scope lpos] [] pos) (tE (RXof ea) X.K W fun e S => (gc e S).noex) :=
  (pe_lamS (t := fun E => tE (RXof ea) X.K (fun c d _ H'' => E c d H'') d2) hg hm hk lk hcg hb Sg h0 hva hG TB hcode hmT hu hr gd hL hdef hnb hbd hdb hd1 hd2).imp fun τ H Q ⟨w, e, S, re, rs, h⟩ => by
    have etb : w.xa.tb = ea.tb := by rw [re.xa]; rfl
    refine ⟨by rw [← etb]; exact rs_tabs rs, fun H1 eN T1 => ?_⟩
    rw [← etb] at T1
    have x := lam_ext rs eN
    exact ⟨w.coded H1, e, τ, S, re.ext x, lam_rs rs eN T1, fun c q z => .inr ⟨q, z⟩, fun E H' Q' z => z, (Post.ext h x).noexW⟩
end
/-! ### defs as values -/
section
variable {X : Cx} {RX : XRel} {W : WX} {pos p : Pos}
theorem d_fn {x : Str} {i : Nat} {fa : Addr} (hg : Gl X x) (hm : X.mg x = some (.ref fa)) (hd : (x == ("__debug__" : Str)) = false) (hf : RX.xa.fa i = some fa) : PE X (.Name x p) (tE RX X.K W fun _ S => .ok (.f i) S) :=
  (pe_glob (v := .ref fa) hg hm rfl hd).imp fun σ H Q ⟨w, e, S, re, rs, h⟩ => h w H _ (Ext.refl _ _) rs ⟨fa, by rw [re.xa]; exact hf, rfl⟩
/-- a call of a name that holds a def -/
theorem d_callv {i : Nat} {x : Str} {F : Nat → List PV → Sto → Res PV} {k : Nat} {a : Expr} {es : List Expr} {ds : Env' → Sto → Res (List PV)} (hN : X.N[i]? = some x) (hv : Vis X.env.scope x) (hd : (x == ("__debug__" : Str)) = false) (hcd : (x == ("__classdict__" : Str)) = false)
    (A : ∀ j fa, RX.xa.fa j = some fa → ∃ fd ps ar, PySem.W.keepIn X.K (.ref fa) = true ∧ Binds X.K fd ps [] ∧ FnG X.prog X.w X.K X.mg X.base (L2.CX X.prog X.w) k fa fd ps (spM RX X.K ar (F j)) ∧ ∀ vs S, F j vs S ≠ .bad → vs.length = ar)
    (tk : Takes X W) (hr : Room k X.A) (gd : X.A.guards = some []) (hst : (a :: es).all noStar = true) (ha : PA X (a :: es) (tA RX X.K W ds)) :
    PE X (.Call (.Name x p) (a :: es) [] pos) (tE RX X.K W fun e S => match e[i]? with
      | some (some (.f j)) => (ds e S).bind fun vs S1 => F j vs S1
      | _ => .bad) := by
  have hs1 := (Bool.and_eq_true_iff.mp (by simpa using hst : noStar a = true ∧ es.all noStar = true |> fun q => (noStar a && es.all noStar) = true))
  refine ⟨fun pins s σ H Q I ⟨w, e, S, re, rs, h⟩ => ?_⟩
  dsimp only at h
  cases hi : e[i]? with
  | none => rw [hi] at h; exact h.elim
  | some o =>
    cases o with
    | none => rw [hi] at h; exact h.elim
    | some v =>
      rw [hi] at h
      cases v with
      | f j =>
        obtain ⟨u, h1, fa, h2, rfl⟩ := re.at_ i _ hi
        rw [re.xa] at h2
        obtain ⟨fd, ps, ar, kp, hb, Fo, ga⟩ := A j fa h2
        refine wpAny_Call_Name_kw (thn ((pe_var (pos := p) hN hv hd hcd).run pins s σ H (fun v H1 => v = .ref fa ∧ H1 = H) I ⟨.ref fa, h1, rfl, rfl⟩) fun u s1 ⟨v, H1, I1, r1, q1⟩ => ?_)
        obtain ⟨rfl, rfl⟩ := q1
        cases r1
        have hbind : Post RX X.K (RV X.K) w H1 ((ds e S).bind fun vs S1 => F j vs S1) (fun c d H' => W c d σ H') Q := h
        refine PySem.W.callWith_K (h₀ := X.base) I.ok.mod.kin kp (thn (ha.run pos pins s1 σ H1 (fun vs H2 => spM RX X.K ar (F j) vs H2 Q (WE W σ)) I1 ⟨w, e, S, re, rs, hbind.bind fun vs S1 w1 H2 us ext rs1 rv1 h3 => ?_⟩) fun us s2 ⟨vs, H2, I2, r, q⟩ => ⟨I2.kIn, ?_⟩) (star_cons hs1.1 _ _) (star_any _ _ hs1.2)
        · exact ⟨w1, S1, vs, (re.ext ext).xa, rs1, rv1, ga vs S1 (fun q => by rw [q] at h3; exact h3), h3⟩
        · exact run_fnG (E := WE W) Fo hr gd hb (passAt tk σ) I2 r q
      | _ => exact h.elim
/-- a tuple of defs, walked -/
theorem d_tupv {tg : Expr} {es : List Expr} {k : Nat} {ds : Env' → Sto → Res (List PV)} (hs : PA X es (tA RX X.K W ds)) : PI X tg (.Tuple es k pos) (tI RX X.K W fun e S => (ds e S).bind fun vs S1 => if tupOk vs then .ok (.vals vs) S1 else .bad) :=
  (pi_dyn (pe_tup hs)).imp fun σ H Q h => by
    refine tD.bind h fun w1 e v S x H1 re1 rs1 rv1 h1 => ?_
    cases ht : tupOk v with
    | false => rw [ht] at h1; exact h1.elim
    | true =>
      rw [ht] at h1
      have hl : v.length ≤ sizeLine := by
        unfold tupOk at ht
        exact of_decide_eq_true (Bool.and_eq_true_iff.mp ht).1
      refine ⟨by rw [← rv1.len]; exact hl, fun p hp => ?_⟩
      have ex := ext_frozen (o := .tup x) rs1 hp
      refine .inr (.inl ⟨_, rfl, ⟨x, .inl (.inl upd_same)⟩, h1 (w1.frozen p) _ _ ex (rs_frozen rs1 hp) (srcOk_tup (fun w' H' e => ?_) (rv1.ext ex))⟩)
      exact .inl (.inl (e.keep p _ (.inr rfl) upd_same))
end
end Mn

end

section
set_option Elab.async false
set_option linter.all false
set_option maxRecDepth 100000
set_option maxHeartbeats 1000000
/-! MnDen13: repr; dict displays; lists repeated that are laid. -/
namespace Mn
open PySem PySem.Spec PyProof.Rows L2
section
variable {X : Cx}
theorem reprOk_ok {d : PyData} (h : reprOk d = true) : d.canLay0 = true ∧ d.showable = true ∧ d.depth ≤ 63 ∧ d.shown.length ≤ 16000000 := by
  unfold reprOk at h
  simpa only [Bool.and_eq_true, decide_eq_true_eq] using h
/-- repr of data of any depth -/
theorem bm_repr (gd : X.A.guards = some []) (hu : X.A.units + 65 < cLine) : CallR X (.builtin "repr") (rcM X.K fun S => biV S .repr) := by
  intro pins s σ H xs us Q I r ⟨w, S, ps, z, rs, rps, e, a⟩
  dsimp only at e
  obtain ⟨p, rfl, hz⟩ := one_arg (g := fun p => (cur S p).bind fun d => if reprOk d then some (.str d.shown) else none) e (fun _ => rfl) rfl (fun _ _ _ => rfl)
  obtain ⟨v, rfl, rp⟩ := rv1 rps
  obtain ⟨u, rfl, ru⟩ := vals1 r
  obtain ⟨d, e1, e2⟩ := Option.bind_eq_some_iff.mp hz
  split at e2
  · rename_i hk
    cases e2
    obtain ⟨k1, k2, k3, k4⟩ := reprOk_ok hk
    have k5 : d.shown.length ≤ sizeLine := by rw [sizeLine_eq]; omega
    obtain ⟨as, rd⟩ := snap_reads I rs 3 e1 k1 rp ru
    have fin : ∀ (h' : Heap) (t : Tok) (tk : Nat), (∀ b o, s.heap.get? b = some o → h'.get? b = some o) → EP X pins σ Q (.str d.shown t) { s with heap := h', toks := tk } := fun h' t tk k => ⟨.str d.shown, H, I.kept k, ⟨t, rfl⟩, a.str rs⟩
    cases d with
    | none => cases rd; exact PySem.P.repr_of_none (fin s.heap _ _ fun _ _ e => e)
    | bool b =>
      cases rd
      refine PySem.P.repr_of_bool ?_
      have := fin s.heap s.toks (s.toks + 1) fun _ _ e => e
      cases b <;> exact this
    | int i =>
      cases rd
      exact PySem.P.repr_of_int (of_decide_eq_true (by simpa [PyData.showable] using k2)) (fin s.heap _ _ fun _ _ e => e)
    | str x => cases rd; exact PySem.P.repr_of_str (fin s.heap _ _ fun _ _ e => e) k5
    | list xs => cases rd with | list h1 h2 h3 h4 => exact repr_of_reads' (.list h1 h2 h3 h4) k2 (PyData.noDict_hsm (PyData.hasDict_of_canLay _ k1)) gd (by omega) (fun _ _ e => e) (fun h' t tk k => fin h' t tk k) k5
    | tuple xs => cases rd with | tuple h1 h2 h3 h4 => exact repr_of_reads' (.tuple h1 h2 h3 h4) k2 (PyData.noDict_hsm (PyData.hasDict_of_canLay _ k1)) gd (by omega) (fun _ _ e => e) (fun h' t tk k => fin h' t tk k) k5
    | dict kvs => simp [PyData.canLay0] at k1
  · cases e2
end
section
variable {X : Cx} {RX : XRel} {W : WX} {a b : Expr} {da db : Env' → Sto → Res PV} {pos p : Pos}
theorem d_repr {es : List Expr} {ds : Env' → Sto → Res (List PV)} (gd : X.A.guards = some []) (hu : X.A.units + 65 < cLine) (hg : Gl X "repr") (hm : X.mg "repr" = none) (hst : (a :: es).all noStar = true) (ha : PA X (a :: es) (tA RX X.K W ds)) :
    PE X (.Call (.Name "repr" p) (a :: es) [] pos) (tE RX X.K W fun e S => (ds e S).bind fun vs S1 => .ofOpt (biV S1 .repr vs) S1) := by
  have h1 := (Bool.and_eq_true_iff.mp (by simpa using hst : noStar a = true ∧ es.all noStar = true |> fun q => (noStar a && es.all noStar) = true))
  exact d_cb (es := []) (f := fun S => biV S .repr) (pe_callB (bm_repr gd hu) hg hm (by rfl) ha (he := star_cons h1.1 _ _) (hpl := star_any _ _ h1.2))
/-- [x, ..] * n, laid -/
theorem d_mulL (ha : PE X a (tE RX X.K W da)) (hb : PE X b (tE RX X.K W db)) : PE X (.BinOp a .Mult b pos) (tL RX X.K W fun e S => (da e S).bind fun x S1 => (db e S1).bind fun y S2 => .ofOpt (mulLV .mul x y) S2) :=
  (pe_op op_rep ha hb).imp fun σ H Q h => by
    refine tD.bind h fun w1 e v S x H1 re1 rs1 rv1 h1 => ?_
    refine ⟨w1, e, S, re1, rs1, h1.bind fun v2 S2 w2 H2 y ext rs2 rv2 h2 => ?_⟩
    obtain ⟨z, e1, an⟩ := h2.opt
    unfold mulLV at e1
    split at e1
    · split at e1
      · rename_i hl
        cases e1
        cases rv2
        have rv1' := RV.ext ext rv1
        cases rv1' with
        | lst g1 q1 => exact ⟨_, _, _, rfl, rfl, g1.2, by omega, by omega, by rw [← q1.len]; exact Nat.le_of_lt hl.2.1, an w2 H2 _ (Ext.refl _ _) rs2 (rds_rvs (q1.repl _))⟩
      · cases e1
    · cases e1
end
section
variable {X : Cx} {RX : XRel} {W : WX} {a b : Expr} {da db : Env' → Sto → Res PV} {pos p : Pos}
/-- two lists one behind the other, laid -/
theorem d_addL (ha : PE X a (tE RX X.K W da)) (hb : PE X b (tE RX X.K W db)) : PE X (.BinOp a .Add b pos) (tL RX X.K W fun e S => (da e S).bind fun x S1 => (db e S1).bind fun y S2 => .ofOpt (catLV S2 x y) S2) :=
  (pe_op op_cat ha hb).imp fun σ H Q h => by
    refine tD.bind h fun w1 e v S x H1 re1 rs1 rv1 h1 => ?_
    refine ⟨w1, e, S, re1, rs1, h1.bind fun v2 S2 w2 H2 y ext rs2 rv2 h2 => ?_⟩
    obtain ⟨z, e1, an⟩ := h2.opt
    unfold catLV at e1
    have rv1' := RV.ext ext rv1
    cases e2 : lstD S2 v with
    | none => rw [e2] at e1; cases e1
    | some ds =>
      rw [e2] at e1
      cases e3 : lstD S2 v2 with
      | none => rw [e3] at e1; cases e1
      | some es =>
        rw [e3] at e1
        simp only [Option.bind_some] at e1
        split at e1
        · rename_i hl
          cases e1
          obtain ⟨l1, v1, rfl, g1, q1⟩ := lstD_at rs2 e2 rv1'
          obtain ⟨l2, v3, rfl, g2, q2⟩ := lstD_at rs2 e3 rv2
          exact ⟨l1, l2, v1, v3, rfl, rfl, g1, g2, by rw [← q1.len, ← q2.len]; exact Nat.le_of_lt hl, an w2 H2 _ (Ext.refl _ _) rs2 (rds_rvs (q1.app q2))⟩
        · cases e1
end
/-! ### dict displays -/
theorem d_dic0 {X : Cx} {RX : XRel} {W : WX} {pos : Pos} : PE X (.Dict [] [] pos) (tE RX X.K W fun _ S => .ok (.d (.dict [])) S) := pe_dnewK.imp fun σ H Q ⟨w, e, S, re, rs, h⟩ p hp =>
  h (w.frozen p) _ (.ref p) (ext_frozen rs hp) (rs_frozen rs hp) (.dct (.inr rfl) upd_same .nil)
/-- the pairs' readings -/
def trsD (RX : XRel) (K : PySem.W.Frag) (W : WX) (F : Nat → List PV → Sto → Res PV) (L : Nat) : List Key → Exs → List (TE × TE)
  | k :: ks, .cons v r => (tC (kV k), tE RX K W (ev F L v)) :: trsD RX K W F L ks r
  | _, _ => []
def lenX : Exs → Nat
  | .nil => 0
  | .cons _ r => lenX r + 1
theorem tPairs_of {RX : XRel} {K : PySem.W.Frag} {W : WX} {F : Nat → List PV → Sto → Res PV} {L : Nat} : ∀ (ks : List Key) (vs : Exs) {w : Wd} {e : Env'} {S : Sto} {σ : L2.St} {H : Hp} {Q : List (V × V) → Hp → Prop}, ks.length = lenX vs → RE K w H RX e σ → RS K w H S →
    (∃ ys S', evs F L vs e S = .ok ys S' ∧ ∀ w' H' us, Ext w H w' H' → RS K w' H' S' → RVs K w' H' ys us → Q ((ks.map kV).zip us) H') → tPairs (trsD RX K W F L ks vs) σ H Q
  | [], .nil, w, e, S, σ, H, Q, _, re, rs, ⟨ys, S', h1, h2⟩ => by
    cases h1
    exact h2 w H [] (Ext.refl _ _) rs .nil
  | k :: ks, .cons a r, w, e, S, σ, H, Q, hl, re, rs, ⟨ys, S', h1, h2⟩ => by
    show tC (kV k) σ H fun x H1 => tE RX K W (ev F L a) σ H1 fun y H2 => tPairs (trsD RX K W F L ks r) σ H2 fun ps H3 => Q ((x, y) :: ps) H3
    refine ⟨w, e, S, re, rs, ?_⟩
    have h1 : ((ev F L a e S).bind fun x S1 => (evs F L r e S1).bind fun xs S2 => .ok (x :: xs) S2) = .ok ys S' := h1
    cases h3 : ev F L a e S with
    | bad => rw [h3] at h1; cases h1
    | ex _ _ _ => rw [h3] at h1; cases h1
    | ok x S1 =>
      rw [h3, Res.bind_ok] at h1
      intro w1 H1 u ext1 rs1 rv1
      cases h4 : evs F L r e S1 with
      | bad => rw [h4] at h1; cases h1
      | ex _ _ _ => rw [h4] at h1; cases h1
      | ok xs S2 =>
        rw [h4, Res.bind_ok] at h1
        cases h1
        exact tPairs_of ks r (Nat.succ.inj hl) (re.ext ext1) rs1 ⟨xs, S', h4, fun w2 H2 us ext2 rs2 rv2 => h2 w2 H2 (u :: us) (ext1.trans ext2) rs2 (.cons (rv1.ext ext2) rv2)⟩
  | [], .cons _ _, _, _, _, _, _, _, hl, _, _, _ => by cases hl
  | _ :: _, .nil, _, _, _, _, _, _, hl, _, _, _ => by cases hl
theorem RQs.merge {K : PySem.W.Frag} {w : Wd} {H : Hp} : ∀ {ks : List Key} {xs : List PyData} {us : List V} {acc : List (Key × PyData)} {ac : List (Key × V)}, RDs K w H xs us → RQs K w H acc ac → RQs K w H ((ks.zip xs).foldl (fun acc p => putQ acc p.1 p.2) acc) (mergeK ac (ks.zip us))
  | [], _, _, _, _, _, h => h
  | _ :: _, [], _, _, _, .nil, h => h
  | k :: ks, x :: xs, _ :: _, acc, ac, .cons r t, h => RQs.merge (ks := ks) t (h.put r)
theorem zip_kV : ∀ (ks : List Key) (us : List V), (ks.map kV).zip us = (ks.zip us).map fun kv => (kV kv.1, kv.2)
  | [], _ => rfl
  | _ :: _, [] => rfl
  | k :: ks, u :: us => by
    show (kV k, u) :: (ks.map kV).zip us = _
    rw [zip_kV ks us]
    rfl
theorem d_dicN {X : Cx} {RX : XRel} {W : WX} {pos : Pos} {F : Nat → List PV → Sto → Res PV} {L : Nat} {ks : List Key} {vs : Exs} {keys : List (Option Expr)} {values : List Expr} (hp : PPs X pos keys values (trsD RX X.K W F L ks vs)) (hall : keys.all (·.isSome) = true) (hl : keys.length = values.length) (h0 : keys ≠ []) (h15 : keys.length ≤ 15) (hk : ks.length = lenX vs) (hk2 : ks.length = keys.length) :
    PE X (.Dict keys values pos) (tE RX X.K W fun e S => (evs F L vs e S).noex.bind fun ys S1 => .ofOpt ((allD ys).bind (dicQ ks)) S1) := (pe_disp hp hall hl h0 h15).imp fun σ H Q ⟨w, e, S, re, rs, h⟩ p hn => by
  have npv : ∀ a, a ∈ w.pv → a ≠ p := fun a f => rs.npv hn f
  have nD : p ∉ w.pv := fun f => npv p f rfl
  have ex0 := ext0_new (o := .dK []) rs hn
  have rs0 := rs_new (o := .dK []) rs hn
  dsimp only at h
  cases hv : evs F L vs e S with
  | bad => rw [hv] at h; exact h.elim
  | ex _ _ _ => rw [hv] at h; exact h.elim
  | ok ys S1 =>
    rw [hv] at h
    change Post RX X.K (RV X.K) w H (.ofOpt ((allD ys).bind (dicQ ks)) S1) _ Q at h
    obtain ⟨z, hz, an⟩ := h.opt
    obtain ⟨xs, e1, e2⟩ := Option.bind_eq_some_iff.mp hz
    unfold dicQ at e2
    split at e2
    · rename_i hlen
      cases e2
      refine tPairs_of ks vs hk (re.ext0 ex0) rs0 ⟨ys, S1, hv, fun w2 H2 us ext2 rs2 rv2 => ?_⟩
      have hD : H2 p = some (.dK []) := (ext2.pvH p (by show p ∈ p :: w.pv; exact List.mem_cons_self)).trans upd_same
      have hpv : w2.pv = p :: w.pv := ext2.pv
      have rd := allD_rds e1 rv2
      have lu : us.length = xs.length := by rw [← rd.len]
      refine ⟨hD, ks.zip us, zip_kV ks us, by rw [List.length_zip]; omega, ?_⟩
      have inD : p ∈ w2.pv := by rw [hpv]; exact List.mem_cons_self
      have ext := ex0.trans ext2.to0
      have ep := ext0_put (o := .dK (mergeK [] (ks.zip us))) rs2 inD
      have rs3 := rs_put (o := .dK (mergeK [] (ks.zip us))) rs2 inD
      have e0 := ext0_cut rs3 hpv
      have rsc := rs_cut rs3 hpv nD
      have ext3 := (ext.trans ep).trans e0
      have x1 : Ext w H { w2 with pv := w.pv } (cutH (upd H2 p (.dK (mergeK [] (ks.zip us)))) p) := ⟨ext3.fz, ext3.keep, ext3.m, ext3.xa, rfl, fun a ha => by
        rw [cutH_ne (npv a ha), upd_ne (npv a ha)]
        exact (ext2.pvH a (List.mem_cons_of_mem _ ha)).trans (upd_ne (npv a ha))⟩
      have x2 := ext_frozen (o := .dK (mergeK [] (ks.zip us))) rsc (p := p) cutH_same
      have r2 := rs_frozen (o := .dK (mergeK [] (ks.zip us))) rsc (p := p) cutH_same
      rw [cutH_upd upd_same] at x2 r2
      have x3 : Ext0 w2 H2 (({ w2 with pv := w.pv } : Wd).frozen p) (upd H2 p (.dK (mergeK [] (ks.zip us)))) := (ep.trans e0).trans x2.to0
      exact an _ _ (.ref p) (x1.trans x2) r2 (.dct (.inr rfl) upd_same ((RQs.merge (ks := ks) (RDs.mono x3.fz x3.keep rd) .nil).rks))
    · cases e2
end Mn

end

section
set_option Elab.async false
set_option linter.all false
set_option maxRecDepth 100000
set_option maxHeartbeats 1000000
/-! MnCk: what says that a text of the small language is a given text. -/
namespace Mn
open PySem PySem.Spec PyProof.Rows L2
/-- what is known of a program: a def's names, the defs, the constants, the own errors (the first is the base of all), the builtins that are not hidden -/
structure Stat where
  N : List Str
  fns : List (Str × Nat)
  cons : List (Str × PyData)
  exs : List Str
  bl : List Str
  tks : List Nat := []
  home : Bool := false
  tak : Bool := false
mutual
def same : PyData → PyData → Bool
  | .none, .none => true
  | .bool a, .bool b => decide (a = b)
  | .int a, .int b => decide (a = b)
  | .str a, .str b => decide (a = b)
  | .list a, .list b => sames a b
  | .tuple a, .tuple b => sames a b
  | _, _ => false
def sames : List PyData → List PyData → Bool
  | [], [] => true
  | x :: xs, y :: ys => same x y && sames xs ys
  | _, _ => false
end
mutual
theorem same_eq : ∀ {a b : PyData}, same a b = true → a = b
  | .none, .none, _ => rfl
  | .bool a, .bool b, h => by rw [of_decide_eq_true (show decide (a = b) = true from h)]
  | .int a, .int b, h => by rw [of_decide_eq_true (show decide (a = b) = true from h)]
  | .str a, .str b, h => by rw [of_decide_eq_true (show decide (a = b) = true from h)]
  | .list a, .list b, h => by rw [sames_eq (show sames a b = true from h)]
  | .tuple a, .tuple b, h => by rw [sames_eq (show sames a b = true from h)]
  | .none, .bool _, h => nomatch h
  | .none, .int _, h => nomatch h
  | .none, .str _, h => nomatch h
  | .none, .list _, h => nomatch h
  | .none, .tuple _, h => nomatch h
  | .none, .dict _, h => nomatch h
  | .bool _, .none, h => nomatch h
  | .bool _, .int _, h => nomatch h
  | .bool _, .str _, h => nomatch h
  | .bool _, .list _, h => nomatch h
  | .bool _, .tuple _, h => nomatch h
  | .bool _, .dict _, h => nomatch h
  | .int _, .none, h => nomatch h
  | .int _, .bool _, h => nomatch h
  | .int _, .str _, h => nomatch h
  | .int _, .list _, h => nomatch h
  | .int _, .tuple _, h => nomatch h
  | .int _, .dict _, h => nomatch h
  | .str _, .none, h => nomatch h
  | .str _, .bool _, h => nomatch h
  | .str _, .int _, h => nomatch h
  | .str _, .list _, h => nomatch h
  | .str _, .tuple _, h => nomatch h
  | .str _, .dict _, h => nomatch h
  | .list _, .none, h => nomatch h
  | .list _, .bool _, h => nomatch h
  | .list _, .int _, h => nomatch h
  | .list _, .str _, h => nomatch h
  | .list _, .tuple _, h => nomatch h
  | .list _, .dict _, h => nomatch h
  | .tuple _, .none, h => nomatch h
  | .tuple _, .bool _, h => nomatch h
  | .tuple _, .int _, h => nomatch h
  | .tuple _, .str _, h => nomatch h
  | .tuple _, .list _, h => nomatch h
  | .tuple _, .dict _, h => nomatch h
  | .dict _, .none, h => nomatch h
  | .dict _, .bool _, h => nomatch h
  | .dict _, .int _, h => nomatch h
  | .dict _, .str _, h => nomatch h
  | .dict _, .list _, h => nomatch h
  | .dict _, .tuple _, h => nomatch h
  | .dict _, .dict _, h => nomatch h
theorem sames_eq : ∀ {a b : List PyData}, sames a b = true → a = b
  | [], [], _ => rfl
  | x :: xs, y :: ys, h => by
    have h2 := Bool.and_eq_true_iff.mp (show (same x y && sames xs ys) = true from h)
    rw [same_eq h2.1, sames_eq h2.2]
  | [], _ :: _, h => nomatch h
  | _ :: _, [], h => nomatch h
end
def glB (sc : Scope) (x : Str) : Bool := match sc.names.lookup x with
  | some .globalImplicit => true
  | _ => false
theorem glB_ok {sc : Scope} {x : Str} (h : glB sc x = true) : sc.names.lookup x = some .globalImplicit := by
  unfold glB at h
  split at h
  · assumption
  · cases h
def visB (sc : Scope) (x : Str) : Bool := match sc.names.lookup x with
  | some .local => true
  | some .cell => true
  | some .free => true
  | _ => false
theorem visB_ok {sc : Scope} {x : Str} (h : visB sc x = true) : Vis sc x := by
  unfold visB at h
  unfold Vis
  split at h <;> first | (cases h; done) | (rename_i e; simp [e])
def locB (sc : Scope) (x : Str) : Bool := match sc.names.lookup x with
  | some .local => true
  | some .cell => true
  | _ => false
theorem locB_ok {sc : Scope} {x : Str} (h : locB sc x = true) : L2.Loc sc x := by
  unfold locB at h
  unfold L2.Loc
  split at h <;> first | (cases h; done) | (rename_i e; simp [e])
def lclB (sc : Scope) (x : Str) : Bool := match sc.names.lookup x with
  | some .local => true
  | _ => false
theorem lclB_ok {sc : Scope} {x : Str} (h : lclB sc x = true) : sc.names.lookup x = some .local := by
  unfold lclB at h
  split at h
  · assumption
  · cases h
def litOk : PyData → Const → Bool
  | .int i, .int j => decide (i = j)
  | .bool i, .bool j => decide (i = j)
  | .str i, .str j => decide (i = j)
  | .none, .none => true
  | _, _ => false
def bopIs : Bop → Operator → Bool
  | .add, .Add => true | .sub, .Sub => true | .mul, .Mult => true | .fdiv, .FloorDiv => true | .mod, .Mod => true | .pow, .Pow => true
  | _, _ => false
theorem bopIs_ok {o : Bop} {p : Operator} (h : bopIs o p = true) : p = bopOf o := by cases o <;> cases p <;> first | rfl | cases h
def dbg (x : Str) : Bool := !(x == ("__debug__" : Str)) && !(x == ("__classdict__" : Str))
theorem dbg_ok {x : Str} (h : dbg x = true) : (x == ("__debug__" : Str)) = false ∧ (x == ("__classdict__" : Str)) = false := by
  unfold dbg at h
  simpa using h
def slotB (T : Stat) (i : Nat) (x : Str) : Bool := decide (T.N[i]? = some x)
/-- names that are stored to: fn as the frame stores cells -/
def nmsB (T : Stat) (sc : Scope) (fn : Str → Bool) : List Nat → List Expr → Bool
  | [], [] => true
  | i :: is, .Name x _ :: es => slotB T i x && (locB sc x && ((fn x || lclB sc x) && nmsB T sc fn is es))
  | _, _ => false
def tgB (T : Stat) (sc : Scope) (fn : Str → Bool) : Tg → Expr → Bool
  | .nm i, .Name x _ => slotB T i x && (locB sc x && (fn x || lclB sc x))
  | .tup is, .Tuple es _ _ => nmsB T sc fn is es
  | _, _ => false
def isTup : Expr → Bool
  | .Tuple _ _ _ => true
  | _ => false
def pairsOf (T : Stat) (own : List Nat) : List (Str × Nat) := own.map fun i => ((T.N[i]?).getD "", i)
def blB (T : Stat) (sc : Scope) (x : Str) : Bool := T.bl.contains x && glB sc x
/-- a comprehension; fI, fC, fE: what says so of its parts -/
def lcChk (T : Stat) (hot : Bool) (sc : Scope) (t : Tg) (own : List Nat) (fI : Expr → Expr → Bool) (fC : Scope → List Expr → Bool) (fE : Scope → Expr → Bool) (e : Expr) : Bool := match e with
  | .ListComp ee [⟨tg, iter, ifs, 0⟩] scope _ => !hot && (noSet iter && (fI tg iter && (blkC T.N sc scope (pairsOf T own) && (tgB T (relS scope sc) (fun x => scope.names.lookup x == some .cell) t tg && (decide (∀ i ∈ t.ids, i ∈ own) && (fC (relS scope sc) ifs && fE (relS scope sc) ee))))))
  | _ => false
/-- no parameters -/
def noPar : Arguments → Bool
  | ⟨[], [], none, [], [], none, []⟩ => true
  | _ => false
theorem noPar_ok {a : Arguments} (h : noPar a = true) : a = ⟨[], [], none, [], [], none, []⟩ := by
  unfold noPar at h
  split at h
  · rfl
  · cases h
section
mutual
/-- tst: as a test; hot: in an except suite -/
def ck (T : Stat) (tst hot : Bool) : Scope → Ex → Expr → Bool
  | _, .lit c, e => match e with
    | .Constant k _ _ => litOk c k
    | _ => false
  | sc, .var i, e => match e with
    | .Name x _ => slotB T i x && (visB sc x && dbg x)
    | _ => false
  | sc, .glob c, e => match e with
    | .Name x _ => glB sc x && (dbg x && (T.cons.any fun p => decide (p.1 = x) && same p.2 c))
    | _ => false
  | sc, .bin o a b, e => match e with
    | .BinOp p op q _ => bopIs o op && (ck T false hot sc a p && ck T false hot sc b q)
    | _ => false
  | sc, .neg a, e => match e with
    | .UnaryOp .USub p _ => !tst && ck T false hot sc a p
    | _ => false
  | sc, .not a, e => match e with
    | .UnaryOp .Not p _ => ck T tst hot sc a p
    | _ => false
  | sc, .boo k es, e => match e with
    | .BoolOp .And vs _ => k && ckB T tst hot sc es vs
    | .BoolOp .Or vs _ => !k && ckB T tst hot sc es vs
    | _ => false
  | sc, .ite c a b, e => match e with
    | .IfExp t p q _ => !tst && (ck T true hot sc c t && (ck T false hot sc a p && ck T false hot sc b q))
    | _ => false
  | sc, .cmp o a b, e => match e with
    | .Compare p [op] [q] _ => decide (op = copOf o) && (noSet q && (ck T false hot sc a p && ck T false hot sc b q))
    | _ => false
  | sc, .cmp2 o o2 a b c, e => match e with
    | .Compare p [op, op2] [q, r] _ => decide (op = copOf o) && (decide (op2 = copOf o2) && ((noSet q && noSet r) && (ck T false hot sc a p && (ck T false hot sc b q && ck T false hot sc c r))))
    | _ => false
  | sc, .tup es, e => match e with
    | .Tuple vs _ _ => !tst && cks T hot sc es vs
    | _ => false
  | sc, .lst es, e => match e with
    | .List vs _ => !tst && cks T hot sc es vs
    | _ => false
  | sc, .idx a i, e => match e with
    | .Subscript p q _ => plainIx q && (ck T false hot sc a p && ck T false hot sc i q)
    | _ => false
  | sc, .slc a lo hi, e => match e with
    | .Subscript p (.Slice l h none _) _ => !tst && (ck T false hot sc a p && (ckO T hot sc lo l && ckO T hot sc hi h))
    | _ => false
  | sc, .slc3 a lo hi st, e => match e with
    | .Subscript p (.Slice l h (some t) _) _ => !tst && (ck T false hot sc a p && (ckO T hot sc lo l && (ckO T hot sc hi h && ck T false hot sc st t)))
    | _ => false
  | sc, .call f es, e => match e with
    | .Call (.Name x _) args [] _ => !hot && (!T.tak && (glB sc x && (dbg x && (decide (T.fns[f]?.map (·.1) = some x) && cks T hot sc es args))))
    | _ => false
  | sc, .bi b es, e => match e with
    | .Call (.Name x _) (a :: args) [] _ => decide (x = biName b) && (blB T sc x && ((biHot b || !hot) && ((decide (b ≠ .repr) || !hot) && cks T hot sc es (a :: args))))
    | _ => false
  | sc, .rngl t i, e => match e with
    | .Call (.Name y _) [.Call (.Name x _) args [] _] [] _ => !tst && (!hot && (blB T sc y && (decide (y = if t then "tuple" else "list") && (blB T sc x && (decide (x = ("range" : Str)) && ckR T hot sc i args)))))
    | _ => false
  | sc, .isi a t, e => match e with
    | .Call (.Name x _) [p, .Name y _] [] _ => decide (x = ("isinstance" : Str)) && (blB T sc x && (decide (y = tyN t) && (blB T sc y && (noStar p && ck T false hot sc a p))))
    | _ => false
  | sc, .isx i c, e => match e with
    | .Call (.Name x _) [.Name v _, .Name y _] [] _ => hot && (decide (x = ("isinstance" : Str)) && (blB T sc x && (slotB T i v && (visB sc v && (dbg v && (dbg y && match c with
      | some j => decide (T.exs[j]? = some y) && glB sc y
      | none => decide (y = ("ValueError" : Str)) && blB T sc y))))))
    | _ => false
  | sc, .me m o es, e => match es with
    | .cons a .nil => match e with
      | .Call (.Attribute p nm apos) [q] [] pos => decide (m ≠ .get) && (decide (nm = meN m) && (baseOk p && ((apos.endLine == pos.line) && (noStar q && (ck T false hot sc o p && ck T false hot sc a q)))))
      | _ => false
    | _ => false
  | sc, .gix cs a, e => match e with
    | .Call (.Attribute (.Name x _) nm apos) [q] [] pos => decide (nm = ("index" : Str)) && (glB sc x && (dbg x && ((T.cons.any fun p => decide (p.1 = x) && same p.2 (.tuple cs)) && ((apos.endLine == pos.line) && (noStar q && ck T false hot sc a q)))))
    | _ => false
  | sc, .mu m o es, e => match es with
    | .cons a .nil => match e with
      | .Call (.Attribute p nm apos) [q] [] pos => decide (m ≠ .pop) && (decide (nm = muN m) && (baseOk p && ((apos.endLine == pos.line) && (noStar q && (ck T false hot sc o p && ck T false hot sc a q)))))
      | _ => false
    | .nil => match e with
      | .Call (.Attribute p nm apos) [] [] pos => decide (m = .pop) && (decide (nm = ("pop" : Str)) && (baseOk p && ((apos.endLine == pos.line) && ck T false hot sc o p)))
      | _ => false
    | _ => false
  | sc, .lc elt t i c own, e => !tst && lcChk T hot sc t own (fun x y => ckI T hot sc i x y) (fun s l => ckC T s c l) (fun s x => ck T false false s elt x) e
  | sc, .dc k v t i own, e => match e with
    | .DictComp ke ve [⟨tg, iter, [], 0⟩] scope _ => !tst && (!hot && (noSet iter && (ckI T hot sc i tg iter && (blkC T.N sc scope (pairsOf T own) && (tgB T (relS scope sc) (fun x => scope.names.lookup x == some .cell) t tg && (decide (∀ i ∈ t.ids, i ∈ own) && (ck T false false (relS scope sc) k ke && ck T false false (relS scope sc) v ve)))))))
    | _ => false
  | sc, .new a, e => !tst && ckL T hot sc a e
  | sc, .fn i, e => match e with
    | .Name x _ => glB sc x && (dbg x && decide (T.fns[i]?.map (·.1) = some x))
    | _ => false
  | sc, .callv i es, e => match e with
    | .Call (.Name x _) (a :: args) [] _ => !hot && (!T.tak && (slotB T i x && (visB sc x && (dbg x && cks T hot sc es (a :: args)))))
    | _ => false
  | sc, .lcall f e0, e => match e with
    | .Call (.Name x _) [.Lambda params body scope _] [] _ => !tst && (!hot && (!T.tak && (T.home && (glB sc x && (dbg x && (decide (T.fns[f]? = some (x, 1)) && (T.tks.contains f && (noPar params && (LamX.lamSB sc scope && ck { T with home := false } false false scope e0 body)))))))))
    | _ => false
  | _, .isi2 _ _ _, _ => false
  | sc, .dic ks vs, e => match e with
    | .Dict keys values _ => !tst && (!hot && (decide (keys.length ≤ 15) && ckD T hot sc ks vs keys values))
    | _ => false
/-- a dict display's pairs -/
def ckD (T : Stat) (hot : Bool) : Scope → List Key → Exs → List (Option Expr) → List Expr → Bool
  | _, ks, .nil, keys, vals => ks.isEmpty && (keys.isEmpty && vals.isEmpty)
  | sc, ks, .cons a r, keys, vals => match ks, keys, vals with
    | k :: ks, some (.Constant c _ _) :: keys, v :: vals => litOk (keyD k) c && (ck T false hot sc a v && ckD T hot sc ks r keys vals)
    | _, _, _ => false
/-- a list that is laid -/
def ckL (T : Stat) (hot : Bool) : Scope → Ex → Expr → Bool
  | sc, .lst es, e => match e with
    | .List vs _ => cks T hot sc es vs
    | _ => false
  | sc, .lc elt t i c own, e => lcChk T hot sc t own (fun x y => ckI T hot sc i x y) (fun s l => ckC T s c l) (fun s x => ck T false false s elt x) e
  | sc, .rngl t i, e => match e with
    | .Call (.Name y _) [.Call (.Name x _) args [] _] [] _ => !t && (!hot && (blB T sc y && (decide (y = ("list" : Str)) && (blB T sc x && (decide (x = ("range" : Str)) && ckR T hot sc i args)))))
    | _ => false
  | sc, .bi b es, e => match e with
    | .Call (.Name x _) [a] [] _ => decide (b = .list) && (decide (x = ("list" : Str)) && (blB T sc x && cks T hot sc es [a]))
    | _ => false
  | sc, .bin o a b, e => match e with
    | .BinOp p .Mult q _ => decide (o = .mul) && (ck T false hot sc a p && ck T false hot sc b q)
    | .BinOp p .Add q _ => decide (o = .add) && (ck T false hot sc a p && ck T false hot sc b q)
    | _ => false
  | _, _, _ => false
def ckO (T : Stat) (hot : Bool) : Scope → OEx → Option Expr → Bool
  | _, .none, e => match e with
    | none => true
    | _ => false
  | sc, .some a, e => match e with
    | some p => ck T false hot sc a p
    | _ => false
def ckC (T : Stat) : Scope → OEx → List Expr → Bool
  | _, .none, e => match e with
    | [] => true
    | _ => false
  | sc, .some a, e => match e with
    | [p] => ck T true false sc a p
    | _ => false
def cks (T : Stat) (hot : Bool) : Scope → Exs → List Expr → Bool
  | _, .nil, e => match e with
    | [] => true
    | _ => false
  | sc, .cons a r, e => match e with
    | p :: ps => noStar p && (ck T false hot sc a p && cks T hot sc r ps)
    | _ => false
def ckB (T : Stat) (tst hot : Bool) : Scope → Exs → List Expr → Bool
  | _, .nil, _ => false
  | sc, .cons a r, e => match e with
    | p :: ps => ck T tst hot sc a p && (match r, ps with
      | .nil, [] => true
      | .cons _ _, _ :: _ => ckB T tst hot sc r ps
      | _, _ => false)
    | _ => false
/-- a range's arguments -/
def ckR (T : Stat) (hot : Bool) : Scope → It → List Expr → Bool
  | sc, .rng a, e => match e with
    | [p] => noStar p && ck T false hot sc a p
    | _ => false
  | sc, .rng2 a b, e => match e with
    | [p, q] => noStar p && (noStar q && (ck T false hot sc a p && ck T false hot sc b q))
    | _ => false
  | _, _, _ => false
def ckI (T : Stat) (hot : Bool) : Scope → It → Expr → Expr → Bool
  | sc, .e a, _, e => ck T false hot sc a e
  | sc, .rng a, _, e => match e with
    | .Call (.Name x _) [p] [] _ => decide (x = ("range" : Str)) && (blB T sc x && (noStar p && ck T false hot sc a p))
    | _ => false
  | sc, .rng2 a b, _, e => match e with
    | .Call (.Name x _) [p, q] [] _ => decide (x = ("range" : Str)) && (blB T sc x && (noStar p && (noStar q && (ck T false hot sc a p && ck T false hot sc b q))))
    | _ => false
  | sc, .rng3 a b c, _, e => match e with
    | .Call (.Name x _) [p, q, r] [] _ => decide (x = ("range" : Str)) && (blB T sc x && (([p, q, r] : List Expr).all noStar && (ck T false hot sc a p && (ck T false hot sc b q && ck T false hot sc c r))))
    | _ => false
  | sc, .zip a b, tg, e => match e with
    | .Call (.Name x _) [p, q] [] _ => isTup tg && (decide (x = ("zip" : Str)) && (blB T sc x && (noStar p && (noStar q && (ck T false hot sc a p && ck T false hot sc b q)))))
    | _ => false
  | sc, .tupv es, _, e => match e with
    | .Tuple vs _ _ => cks T hot sc es vs
    | _ => false
  | sc, .enum a, tg, e => match e with
    | .Call (.Name x _) [p] [] _ => isTup tg && (decide (x = ("enumerate" : Str)) && (blB T sc x && (noStar p && ck T false hot sc a p)))
    | _ => false
end
end
end Mn

end

section
set_option Elab.async false
set_option linter.all false
set_option maxRecDepth 100000
set_option maxHeartbeats 1000000
/-! MnSnd: what is said of a program; its expressions by their meanings. -/
namespace Mn
open PySem PySem.Spec PyProof.Rows L2
/-- the def in which a lambda is made: its code object and that one's table -/
def LamHome (X : Cx) (tb : List (Addr × Str)) : Prop := ∃ c P, X.env.code = .ref c ∧ LamX.TabB X.base X.mg c P ∧ (P, X.env.qual ++ "<lambda>") ∈ tb ∧ ∀ p ∈ tb, p.1 = P → p.2 = X.env.qual ++ "<lambda>"
/-- the def i takes a lambda -/
def LamRule (P : Program) (w : World) (K : PySem.W.Frag) (mg : Str → Option Value) (base : Heap) (T : Stat) (ea : EA) (F : Nat → List PV → Sto → Res PV) (n i : Nat) : Prop :=
  ∀ (X : Cx) (W : WX) (e0 : Ex) (x : Str) (p lpos pos : Pos) (body : Expr) (scope : Scope), X.prog = P → X.w = w → X.K = K → X.mg = mg → X.base = base → X.N.Nodup → LamHome X ea.tb → Room (n + 1) X.A → X.A.guards = some [] → Gl X x → dbg x = true → T.fns[i]? = some (x, 1) →
    LamX.lamSB X.env.scope scope = true → ck { T with N := X.N, home := false, tak := false } false false scope e0 body = true →
    PE X (.Call (.Name x p) [.Lambda ⟨[], [], none, [], [], none, []⟩ body scope lpos] [] pos) (tE (RXof ea) K W fun e S => (F i [.clo e0 e] S).noex)
/-- what a program's names are, n calls deep -/
structure GF (P : Program) (w : World) (K : PySem.W.Frag) (mg : Str → Option Value) (base : Heap) (T : Stat) (ea : EA) (F : Nat → List PV → Sto → Res PV) (n : Nat) : Prop where
  fn : ∀ i x ar, T.fns[i]? = some (x, ar) → ∃ fa fd ps, mg x = some (.ref fa) ∧ PySem.W.keepIn K (.ref fa) = true ∧ Binds K fd ps [] ∧ FnG P w K mg base (L2.CX P w) (n + 1) fa fd ps (spM (RXof ea) K ar (F i)) ∧ ∀ vs S, F i vs S ≠ .bad → vs.length = ar
  fA : ∀ i x ar, T.fns[i]? = some (x, ar) → ∃ fa, ea.fa i = some fa ∧ mg x = some (.ref fa)
  fB : ∀ i a, ea.fa i = some a → ∃ x ar, T.fns[i]? = some (x, ar)
  lm : ∀ i, i ∈ T.tks → LamRule P w K mg base T ea F n i
  con : ∀ x c, (x, c) ∈ T.cons → ∃ u v, mg x = some u ∧ RelV v u ∧ ∀ w H, RD K w H c v
  tup : ∀ x cs, (x, PyData.tuple cs) ∈ T.cons → ∃ l, mg x = some (.ref l) ∧ KTup K l cs
  bl : ∀ x, x ∈ T.bl → mg x = none
  exA : ∀ i x, T.exs[i]? = some x → ∃ C B newId initId bmB, ea i = some C ∧ mg x = some (.ref C) ∧ PySem.W.keepIn K (.ref C) = true ∧ ExcBaseFacts B newId initId bmB ∧ PySem.W.excIn K C bmB newId = true
  exB : ∀ k C, ea k = some C → ExcC K C ∧ PySem.W.typeIn K (.ref C) = some (.type "type")
  exm : ∀ k C i D, ea k = some C → ea i = some D → PySem.W.exmOne K (.ref C) (.ref D) = some (k == i || i == 0) ∧ PySem.W.kitOne K (.ref C) (.ref D) = some (k == i || i == 0)
  exv : ∀ k C, ea k = some C → PySem.W.kitOne K (.ref C) (.type "ValueError") = some true
/-- where an expression stands -/
structure GoodE (X : Cx) (RX : XRel) (W : WX) (T : Stat) (ea : EA) (F : Nat → List PV → Sto → Res PV) (hot : Bool) (sc : Scope) : Prop where
  gf : ∃ n, GF X.prog X.w X.K X.mg X.base T ea F n ∧ (hot = false → Room (n + 1) X.A)
  N : X.N = T.N
  nd : T.N.Nodup
  sc : X.env.scope = sc
  tk : Takes X W
  hu : X.A.units + 65 < cLine
  gd : X.A.guards = some []
  cold : hot = false → X.calm = true ∧ RX.xa.er = none ∧ (T.tak = false → RX = RXof ea)
  rel : RX.rel = (RXof ea).rel
  fa : RX.xa.fa = ea.fa
  home : T.home = true → LamHome X ea.tb
  hotd : hot = true → ∃ Y a0 oe pn D k g, X = Cx.suite Y a0 ((a0, oe) :: pn) ∧ Zc (.ref D) none oe ∧ (∃ vs, oe.data = .fields vs) ∧ RX.xa.er = some (a0, k, g) ∧ ea k = some D
section
variable {X : Cx} {RX : XRel} {W : WX} {T : Stat} {ea : EA} {F : Nat → List PV → Sto → Res PV} {L : Nat} {hot : Bool} {sc : Scope}
theorem GoodE.blk (g : GoodE X RX W T ea F false sc) (s : Shared) (H : Hp) (scope : Scope) (C : Addr) (cl : List (Str × Addr)) (fp : List Addr) : GoodE (X.blk s H scope (compEnvC scope cl C X.env) fp) RX WN T ea F false (relS scope sc) :=
  ⟨g.gf, g.N, g.nd, by rw [← g.sc]; rfl, takes_none5, g.hu, g.gd, g.cold, g.rel, g.fa, g.home, fun h => nomatch h⟩
theorem GoodE.gl (g : GoodE X RX W T ea F hot sc) {x : Str} (h : glB sc x = true) : Gl X x := by
  show X.env.scope.names.lookup x = _
  rw [g.sc]; exact glB_ok h
theorem GoodE.blt (g : GoodE X RX W T ea F hot sc) {x : Str} (h : blB T sc x = true) : Gl X x ∧ X.mg x = none := by
  obtain ⟨h1, h2⟩ := Bool.and_eq_true_iff.mp h
  obtain ⟨n, gf, _⟩ := g.gf
  exact ⟨g.gl h2, gf.bl x (by simpa using h1)⟩
theorem GoodE.vis (g : GoodE X RX W T ea F hot sc) {x : Str} (h : visB sc x = true) : Vis X.env.scope x := by rw [g.sc]; exact visB_ok h
theorem GoodE.slot (g : GoodE X RX W T ea F hot sc) {i : Nat} {x : Str} (h : slotB T i x = true) : X.N[i]? = some x := by rw [g.N]; exact of_decide_eq_true h
theorem GoodE.Nd (g : GoodE X RX W T ea F hot sc) : X.N.Nodup := by rw [g.N]; exact g.nd
/-- the value of a test too, where it is any expression -/
theorem both {a : Expr} {tst : Bool} {d : Env' → Sto → Res PV} (h : PE X a (tE RX X.K W d)) (ht : tst = true → genT a = true) : (tst = false → PE X a (tE RX X.K W d)) ∧ (tst = true → PT X a (tT RX X.K W (toT d))) :=
  ⟨fun _ => h, fun q => d_test h (genT_ok (ht q))⟩
theorem only {a : Expr} {tst : Bool} {d : Env' → Sto → Res PV} (h : PE X a (tE RX X.K W d)) (ht : (!tst) = true) : (tst = false → PE X a (tE RX X.K W d)) ∧ (tst = true → PT X a (tT RX X.K W (toT d))) :=
  ⟨fun _ => h, fun q => by rw [q] at ht; cases ht⟩
theorem lit_ok {c : PyData} {k : Const} {j : Nat} {pos : Pos} (h : litOk c k = true) : PE X (.Constant k j pos) (tE RX X.K W (ev F L (.lit c))) := by
  cases c <;> cases k <;> first | (cases h; done) | skip
  · exact d_lit pe_non fun _ _ => .none
  · have e := of_decide_eq_true (show decide (_ = _) = true from h)
    rw [e]
    exact d_lit pe_bl fun _ _ => .bool _
  · have e := of_decide_eq_true (show decide (_ = _) = true from h)
    rw [e]
    exact d_lit pe_int fun _ _ => .int _
  · have e := of_decide_eq_true (show decide (_ = _) = true from h)
    rw [e]
    exact d_lit pe_str fun _ _ => .str _
theorem con_ok (g : GoodE X RX W T ea F hot sc) {x : Str} {c : PyData} {p : Pos} (h1 : glB sc x = true) (h2 : dbg x = true) (h3 : (T.cons.any fun p => decide (p.1 = x) && same p.2 c) = true) : PE X (.Name x p) (tE RX X.K W (ev F L (.glob c))) := by
  obtain ⟨⟨y, d⟩, hm, hp⟩ := List.any_eq_true.mp h3
  obtain ⟨e1, e2⟩ := Bool.and_eq_true_iff.mp hp
  have e3 := of_decide_eq_true e1
  have e4 := same_eq e2
  simp only at e3 e4
  subst e3 e4
  obtain ⟨n, gf, _⟩ := g.gf
  obtain ⟨u, v, h4, h5, h6⟩ := gf.con _ _ hm
  exact d_lit (pe_glob (g.gl h1) h4 h5 (dbg_ok h2).1) h6
theorem tgs_ok (g : GoodE X RX W T ea F hot sc) {fn : Str → Bool} (hf : ∀ x, fn x = true → X.fn x = true) : ∀ {is : List Nat} {es : List Expr}, nmsB T sc fn is es = true → NmsOk X is es
  | [], [], _ => .nil
  | i :: is, .Name x _ :: es, h => by
    have h : (slotB T i x && (locB sc x && ((fn x || lclB sc x) && nmsB T sc fn is es))) = true := h
    simp only [Bool.and_eq_true, Bool.or_eq_true] at h
    obtain ⟨h1, h2, h3, h4⟩ := h
    refine .cons (g.slot h1) (by rw [g.sc]; exact locB_ok h2) (h3.elim (fun z => .inl (hf _ z)) fun z => .inr (by rw [g.sc]; exact lclB_ok z)) (tgs_ok g hf h4)
  | [], _ :: _, h => by cases h
  | _ :: _, [], h => by cases h
  | _ :: _, e :: _, h => by
    cases e <;> first | (cases h; done) | skip
    rename_i i is es x p
    have h : (slotB T i x && (locB sc x && ((fn x || lclB sc x) && nmsB T sc fn is es))) = true := h
    simp only [Bool.and_eq_true, Bool.or_eq_true] at h
    obtain ⟨h1, h2, h3, h4⟩ := h
    exact .cons (g.slot h1) (by rw [g.sc]; exact locB_ok h2) (h3.elim (fun z => .inl (hf _ z)) fun z => .inr (by rw [g.sc]; exact lclB_ok z)) (tgs_ok g hf h4)
theorem tg_ok (g : GoodE X RX W T ea F hot sc) {fn : Str → Bool} (hf : ∀ x, fn x = true → X.fn x = true) (hc : X.calm = true) {t : Tg} {tg : Expr} (h : tgB T sc fn t tg = true) : PG X tg (gT RX X.K t) := by
  cases t with
  | nm i =>
    cases tg <;> first | (cases h; done) | skip
    rename_i x p
    have h : (slotB T i x && (locB sc x && (fn x || lclB sc x))) = true := h
    simp only [Bool.and_eq_true, Bool.or_eq_true] at h
    obtain ⟨h1, h2, h3⟩ := h
    exact g_nm g.Nd (g.slot h1) (by rw [g.sc]; exact locB_ok h2) (h3.elim (fun z => .inl (hf _ z)) fun z => .inr (by rw [g.sc]; exact lclB_ok z))
  | tup is =>
    cases tg <;> first | (cases h; done) | skip
    exact g_tup hc g.Nd (tgs_ok g hf h)
theorem pairs_snd (T : Stat) (own : List Nat) : (pairsOf T own).map (·.2) = own := by
  unfold pairsOf
  rw [List.map_map]
  exact List.map_id own
end
end Mn

end

section
set_option Elab.async false
set_option linter.all false
set_option maxRecDepth 100000
set_option maxHeartbeats 4000000
/-! MnSnd2: each expression by its meaning. -/
namespace Mn
open PySem PySem.Spec PyProof.Rows L2
section
variable {T : Stat} {ea : EA} {F : Nat → List PV → Sto → Res PV} {L : Nat}
/-- the parts of a comprehension -/
theorem lc_parts {X : Cx} {RX : XRel} {W : WX} {hot : Bool} {sc : Scope} {t : Tg} {own : List Nat} {fI : Expr → Expr → Bool} {fC : Scope → List Expr → Bool} {fE : Scope → Expr → Bool} {e : Expr} {di : Env' → Sto → Res Src} {dC : Env' → Sto → Res Bool} {dE : Env' → Sto → Res PV} (g : GoodE X RX W T ea F hot sc) (h : lcChk T hot sc t own fI fC fE e = true)
    (hI : hot = false → ∀ tg it, fI tg it = true → PI X tg it (tI RX X.K W di))
    (hC : ∀ (X' : Cx) (sc' : Scope), X'.K = X.K → GoodE X' RX WN T ea F false sc' → ∀ ifs, fC sc' ifs = true → PTs X' ifs (tT RX X'.K WN dC))
    (hE : ∀ (X' : Cx) (sc' : Scope), X'.K = X.K → GoodE X' RX WN T ea F false sc' → ∀ x, fE sc' x = true → PE X' x (tE RX X'.K WN dE)) :
    ∃ ee tg iter ifs scope pos, e = .ListComp ee [⟨tg, iter, ifs, 0⟩] scope pos ∧ hot = false ∧ X.calm = true ∧ PI X tg iter (tI RX X.K W di) ∧ BlkOk X.N X.env.scope scope (pairsOf T own) ∧ (∀ i ∈ t.ids, i ∈ (pairsOf T own).map (·.2)) ∧
      (∀ (s : Shared) (H : Hp) (C : Addr) (cl : List (Str × Addr)) (fp : List Addr), PG (X.blk s H scope (compEnvC scope cl C X.env) fp) tg (gT RX X.K t)) ∧
      (∀ (s : Shared) (H : Hp) (C : Addr) (cl : List (Str × Addr)) (fp : List Addr), PTs (X.blk s H scope (compEnvC scope cl C X.env) fp) ifs (tT RX X.K WN dC)) ∧
      (∀ (s : Shared) (H : Hp) (C : Addr) (cl : List (Str × Addr)) (fp : List Addr), PE (X.blk s H scope (compEnvC scope cl C X.env) fp) ee (tE RX X.K WN dE)) ∧ ∀ x, foldedSetIterable iter X.env x = pure x := by
  unfold lcChk at h
  split at h
  · rename_i ee tg iter ifs scope pos
    simp only [Bool.and_eq_true, Bool.not_eq_true'] at h
    obtain ⟨h1, h2, h3, h4, h5, h6, h7, h8⟩ := h
    subst h1
    have hc := g.cold rfl
    refine ⟨ee, tg, iter, ifs, scope, pos, rfl, rfl, hc.1, hI rfl _ _ h3, ?_, ?_, fun s H C cl fp => ?_, fun s H C cl fp => ?_, fun s H C cl fp => ?_, noSet_fold h2⟩
    · rw [g.N, g.sc]; exact blkOk_by h4
    · rw [pairs_snd]; exact of_decide_eq_true h6
    · exact tg_ok (g.blk s H scope C cl fp) (fun x hx => hx) hc.1 h5
    · exact hC (X.blk s H scope (compEnvC scope cl C X.env) fp) _ rfl (g.blk s H scope C cl fp) _ h7
    · exact hE (X.blk s H scope (compEnvC scope cl C X.env) fp) _ rfl (g.blk s H scope C cl fp) _ h8
  · cases h
mutual
theorem snd : ∀ (a : Ex) (tst hot : Bool) {X : Cx} {RX : XRel} {W : WX} {sc : Scope} {e : Expr}, GoodE X RX W T ea F hot sc → ck T tst hot sc a e = true →
    (tst = false → PE X e (tE RX X.K W (ev F L a))) ∧ (tst = true → PT X e (tT RX X.K W (toT (ev F L a))))
  | .lit c, tst, hot, X, RX, W, sc, e, g, h => by
    unfold ck at h
    split at h
    · exact both (lit_ok h) fun _ => rfl
    · cases h
  | .var i, tst, hot, X, RX, W, sc, e, g, h => by
    unfold ck at h
    split at h
    · simp only [Bool.and_eq_true] at h
      obtain ⟨h1, h2, h3⟩ := h
      exact both (d_var (g.slot h1) (g.vis h2) (dbg_ok h3).1 (dbg_ok h3).2) fun _ => rfl
    · cases h
  | .glob c, tst, hot, X, RX, W, sc, e, g, h => by
    unfold ck at h
    split at h
    · simp only [Bool.and_eq_true] at h
      obtain ⟨h1, h2, h3⟩ := h
      exact both (con_ok g h1 h2 h3) fun _ => rfl
    · cases h
  | .bin o a b, tst, hot, X, RX, W, sc, e, g, h => by
    unfold ck at h
    split at h
    · simp only [Bool.and_eq_true] at h
      obtain ⟨h1, h2, h3⟩ := h
      rw [bopIs_ok h1]
      exact both (d_bin ((snd a false hot g h2).1 rfl) ((snd b false hot g h3).1 rfl)) fun _ => rfl
    · cases h
  | .neg a, tst, hot, X, RX, W, sc, e, g, h => by
    unfold ck at h
    split at h
    · simp only [Bool.and_eq_true] at h
      exact only (d_neg ((snd a false hot g h.2).1 rfl)) h.1
    · cases h
  | .not a, tst, hot, X, RX, W, sc, e, g, h => by
    unfold ck at h
    split at h
    · have ih := snd a tst hot g h
      exact ⟨fun q => d_not (ih.1 q), fun q => d_notT (ih.2 q)⟩
    · cases h
  | .boo k es, tst, hot, X, RX, W, sc, e, g, h => by
    unfold ck at h
    split at h
    · simp only [Bool.and_eq_true] at h
      obtain ⟨rfl, h⟩ := h
      have ih := sndB es true tst hot g h
      exact ⟨fun q => (ih.1 q).1 rfl _, fun q => ((ih.2 q).1 rfl _).pt⟩
    · simp only [Bool.and_eq_true, Bool.not_eq_true'] at h
      obtain ⟨rfl, h⟩ := h
      have ih := sndB es false tst hot g h
      exact ⟨fun q => (ih.1 q).2 rfl _, fun q => ((ih.2 q).2 rfl _).pt⟩
    · cases h
  | .ite c a b, tst, hot, X, RX, W, sc, e, g, h => by
    unfold ck at h
    split at h
    · simp only [Bool.and_eq_true] at h
      obtain ⟨h1, h2, h3, h4⟩ := h
      exact only (d_ite ((snd c true hot g h2).2 rfl) ((snd a false hot g h3).1 rfl) ((snd b false hot g h4).1 rfl)) h1
    · cases h
  | .cmp o a b, tst, hot, X, RX, W, sc, e, g, h => by
    unfold ck at h
    split at h
    · simp only [Bool.and_eq_true, decide_eq_true_eq] at h
      obtain ⟨rfl, h2, h3, h4⟩ := h
      have i1 := (snd a false hot g h3).1 rfl
      have i2 := (snd b false hot g h4).1 rfl
      exact ⟨fun _ => d_cmp g.hu h2 i1 i2, fun _ => d_cmpT g.hu h2 i1 i2⟩
    · cases h
  | .cmp2 o o2 a b c, tst, hot, X, RX, W, sc, e, g, h => by
    unfold ck at h
    split at h
    · simp only [Bool.and_eq_true, decide_eq_true_eq] at h
      obtain ⟨rfl, rfl, h2, h3, h4, h5⟩ := h
      have h2 := Bool.and_eq_true_iff.mpr h2
      have i1 := (snd a false hot g h3).1 rfl
      have i2 := (snd b false hot g h4).1 rfl
      have i3 := (snd c false hot g h5).1 rfl
      exact ⟨fun _ => d_cmp2 g.hu h2 i1 i2 i3, fun _ => d_cmp2T g.hu h2 i1 i2 i3⟩
    · cases h
  | .tup es, tst, hot, X, RX, W, sc, e, g, h => by
    unfold ck at h
    split at h
    · simp only [Bool.and_eq_true] at h
      exact only (d_tup (snds es hot g h.2).1) h.1
    · cases h
  | .lst es, tst, hot, X, RX, W, sc, e, g, h => by
    unfold ck at h
    split at h
    · simp only [Bool.and_eq_true] at h
      exact only (d_lst (snds es hot g h.2).1) h.1
    · cases h
  | .idx a i, tst, hot, X, RX, W, sc, e, g, h => by
    unfold ck at h
    split at h
    · simp only [Bool.and_eq_true] at h
      obtain ⟨h1, h2, h3⟩ := h
      exact both (d_idx (plainIx_ok h1) ((snd a false hot g h2).1 rfl) ((snd i false hot g h3).1 rfl)) fun _ => rfl
    · cases h
  | .slc a lo hi, tst, hot, X, RX, W, sc, e, g, h => by
    unfold ck at h
    split at h
    · simp only [Bool.and_eq_true] at h
      obtain ⟨h1, h2, h3, h4⟩ := h
      exact only (d_slc ((snd a false hot g h2).1 rfl) (sndO lo hot g h3) (sndO hi hot g h4)) h1
    · cases h
  | .slc3 a lo hi st, tst, hot, X, RX, W, sc, e, g, h => by
    unfold ck at h
    split at h
    · simp only [Bool.and_eq_true] at h
      obtain ⟨h1, h2, h3, h4, h5⟩ := h
      exact only (d_slc3 ((snd a false hot g h2).1 rfl) (sndO lo hot g h3) (sndO hi hot g h4) ((snd st false hot g h5).1 rfl)) h1
    · cases h
  | .call f es, tst, hot, X, RX, W, sc, e, g, h => by
    unfold ck at h
    split at h
    · rename_i x p args pos
      simp only [Bool.and_eq_true, Bool.not_eq_true', decide_eq_true_eq] at h
      obtain ⟨rfl, ht, h2, h3, h4, h5⟩ := h
      obtain ⟨⟨y, ar⟩, e1, rfl⟩ := Option.map_eq_some_iff.mp h4
      obtain ⟨n, gf, hr⟩ := g.gf
      obtain ⟨fa, fd, ps, m1, m2, m3, m4, m5⟩ := gf.fn f y ar e1
      obtain ⟨c1, _, c2⟩ := g.cold rfl
      have c2 := c2 ht
      subst c2
      have ih := snds es false g h5
      refine both (d := ev F L (.call f es)) ?_ fun _ => rfl
      cases args with
      | nil =>
        have en : ev F L (.call f es) = fun e S => (Res.ok ([] : List PV) S).bind fun vs S1 => F f vs S1 := by
          cases es with
          | nil => rfl
          | cons _ _ => exact absurd h5 (by unfold cks; simp)
        rw [en]
        exact d_call0 m4 g.gd m5 g.tk (hr rfl) (g.gl h2) m1 m2 m3 (dbg_ok h3).1
      | cons a args => exact d_call m4 g.gd m5 g.tk (hr rfl) (g.gl h2) m1 m2 m3 (dbg_ok h3).1 ih.2 ih.1
    · cases h
  | .bi b es, tst, hot, X, RX, W, sc, e, g, h => by
    unfold ck at h
    split at h
    · simp only [Bool.and_eq_true, Bool.not_eq_true', decide_eq_true_eq, Bool.or_eq_true] at h
      obtain ⟨rfl, h2, h3, h4, h5⟩ := h
      have ih := snds es hot g h5
      obtain ⟨b1, b2⟩ := g.blt h2
      by_cases hr : b = .repr
      · subst hr
        exact both (d_repr g.gd g.hu b1 b2 ih.2 ih.1) fun _ => rfl
      · exact both (d_bi hr (h3.elim .inl fun z => .inr (g.cold z).1) b1 b2 ih.2 ih.1) fun _ => rfl
    · cases h
  | .rngl t i, tst, hot, X, RX, W, sc, e, g, h => by
    unfold ck at h
    split at h
    · simp only [Bool.and_eq_true, Bool.not_eq_true', decide_eq_true_eq] at h
      obtain ⟨rfl, rfl, h2, h3, h4, rfl, h6⟩ := h
      obtain ⟨g1, g2⟩ := g.blt h2
      obtain ⟨g3, g4⟩ := g.blt h4
      have hc := (g.cold rfl).1
      have ih := sndR i false g h6
      refine ⟨fun _ => ?_, fun q => nomatch q⟩
      rcases ih with ⟨a, p, rfl, rfl, hn, ha⟩ | ⟨a, b, p, q, rfl, rfl, hn, hn2, ha, hb⟩
      · cases t with
        | false => rw [h3] at g1 g2 ⊢; exact d_rngl1 (.inl rfl) hc g1 g2 g3 g4 hn ha
        | true => rw [h3] at g1 g2 ⊢; exact d_rngt1 hc g1 g2 g3 g4 hn ha
      · cases t with
        | false => rw [h3] at g1 g2 ⊢; exact d_rngl2 (.inl rfl) hc g1 g2 g3 g4 hn hn2 ha hb
        | true => rw [h3] at g1 g2 ⊢; exact d_rngt2 hc g1 g2 g3 g4 hn hn2 ha hb
    · cases h
  | .isi a t, tst, hot, X, RX, W, sc, e, g, h => by
    unfold ck at h
    split at h
    · simp only [Bool.and_eq_true, decide_eq_true_eq] at h
      obtain ⟨rfl, h2, rfl, h4, h5, h6⟩ := h
      obtain ⟨g1, g2⟩ := g.blt h2
      obtain ⟨g3, g4⟩ := g.blt h4
      exact both (d_isi g1 g2 g3 g4 h5 ((snd a false hot g h6).1 rfl)) fun _ => rfl
    · cases h
  | .isx i c, tst, hot, X, RX, W, sc, e, g, h => by
    unfold ck at h
    split at h
    · simp only [Bool.and_eq_true, decide_eq_true_eq] at h
      obtain ⟨rfl, rfl, h2, h3, h4, h5, h6, h7⟩ := h
      obtain ⟨g1, g2⟩ := g.blt h2
      obtain ⟨Y, a0, oe, pn, D, k, gg, rfl, q1, q2, q3, q4⟩ := g.hotd rfl
      obtain ⟨n, gf, _⟩ := g.gf
      obtain ⟨qc, _⟩ := gf.exB k D q4
      refine both (d := ev F L (.isx i c)) ?_ fun _ => rfl
      cases c with
      | none =>
        simp only [Bool.and_eq_true, decide_eq_true_eq] at h7
        obtain ⟨rfl, h8⟩ := h7
        obtain ⟨g3, g4⟩ := g.blt h8
        exact d_isx (f := fun _ => true) qc q1 q2 q3 (g.slot h3) (g.vis h4) (dbg_ok h5).1 (dbg_ok h5).2 g1 g2 rfl (pe_bltn (v := .ty "ValueError") g3 g4 (by rfl) rfl) (fun u r => r) (gf.exv k D q4) rfl
      | some j =>
        simp only [Bool.and_eq_true, decide_eq_true_eq] at h7
        obtain ⟨h8, h9⟩ := h7
        obtain ⟨C, B, newId, initId, bmB, c1, c2, c3, c4, c5⟩ := gf.exA j _ h8
        exact d_isx (f := fun k => k == j || j == 0) qc q1 q2 q3 (g.slot h3) (g.vis h4) (dbg_ok h5).1 (dbg_ok h5).2 g1 g2 rfl (pe_glob (v := .ref C) (g.gl h9) c2 rfl (dbg_ok h6).1) (fun u r => r) (gf.exm k D j C q4 c1).2 rfl
    · cases h
  | .me m o es, tst, hot, X, RX, W, sc, e, g, h => by
    unfold ck at h
    split at h
    · rename_i a
      split at h
      · simp only [Bool.and_eq_true, decide_eq_true_eq] at h
        obtain ⟨h1, rfl, h3, h4, h5, h6, h7⟩ := h
        exact both (d_me h1 g.hu ((snd o false hot g h6).1 rfl) ((snd a false hot g h7).1 rfl) h5 (baseOk_ok h3) h4) fun _ => rfl
      · cases h
    · cases h
  | .gix cs a, tst, hot, X, RX, W, sc, e, g, h => by
    unfold ck at h
    split at h
    · simp only [Bool.and_eq_true, decide_eq_true_eq] at h
      obtain ⟨rfl, h2, h3, h4, h5, h6, h7⟩ := h
      obtain ⟨⟨y, d⟩, hm, hp⟩ := List.any_eq_true.mp h4
      obtain ⟨e1, e2⟩ := Bool.and_eq_true_iff.mp hp
      have e3 := of_decide_eq_true e1
      have e4 := same_eq e2
      simp only at e3 e4
      subst e3 e4
      obtain ⟨n, gf, _⟩ := g.gf
      obtain ⟨l, k1, k2⟩ := gf.tup _ _ hm
      exact both (d_gix g.hu (g.gl h2) k1 (dbg_ok h3).1 k2 ((snd a false hot g h7).1 rfl) h6 h5) fun _ => rfl
    · cases h
  | .mu m o es, tst, hot, X, RX, W, sc, e, g, h => by
    unfold ck at h
    split at h
    · rename_i a
      split at h
      · simp only [Bool.and_eq_true, decide_eq_true_eq] at h
        obtain ⟨h1, rfl, h3, h4, h5, h6, h7⟩ := h
        exact both (d_mu1 h1 ((snd o false hot g h6).1 rfl) ((snd a false hot g h7).1 rfl) h5 (baseOk_ok h3) h4) fun _ => rfl
      · cases h
    · split at h
      · simp only [Bool.and_eq_true, decide_eq_true_eq] at h
        obtain ⟨rfl, rfl, h3, h4, h5⟩ := h
        exact both (d_mu0 ((snd o false hot g h5).1 rfl) (baseOk_ok h3) h4) fun _ => rfl
      · cases h
    · cases h
  | .lc elt t i c own, tst, hot, X, RX, W, sc, e, g, h => by
    unfold ck at h
    simp only [Bool.and_eq_true] at h
    obtain ⟨h1, h2⟩ := h
    obtain ⟨ee, tg, iter, ifs, scope, pos, rfl, rfl, p1, p2, p3, p4, p5, p6, p7, p8⟩ := lc_parts (di := evI F L i) (dC := evC F L c) (dE := ev F L elt) g h2 (fun q tg it hh => sndI i hot g hh) (fun X' sc' _ g' ifs hh => sndC c g' hh) (fun X' sc' _ g' x hh => (snd elt false false g' hh).1 rfl)
    have key := d_frzL (d_lcL (L := L) p1 g.Nd p2 p3 p4 p5 p6 p7 p8 (pos := pos))
    rw [pairs_snd] at key
    exact only key h1
  | .dc k v t i own, tst, hot, X, RX, W, sc, e, g, h => by
    unfold ck at h
    split at h
    · rename_i ke ve tg iter scope pos
      simp only [Bool.and_eq_true, Bool.not_eq_true'] at h
      obtain ⟨rfl, rfl, h2, h3, h4, h5, h6, h7, h8⟩ := h
      have hc := g.cold rfl
      have key := d_dc (L := L) (pos := pos) hc.1 g.Nd (sndI i false g h3) (by rw [g.N, g.sc]; exact blkOk_by h4) (by rw [pairs_snd]; exact of_decide_eq_true h6) (fun s H C cl fp => tg_ok (g.blk s H scope C cl fp) (fun x hx => hx) hc.1 h5)
        (fun s H C cl fp => (snd k false false (g.blk s H scope C cl fp) h7).1 rfl) (fun s H C cl fp => (snd v false false (g.blk s H scope C cl fp) h8).1 rfl) (noSet_fold h2)
      rw [pairs_snd] at key
      exact ⟨fun _ => key, fun q => nomatch q⟩
    · cases h
  | .new a, tst, hot, X, RX, W, sc, e, g, h => by
    unfold ck at h
    simp only [Bool.and_eq_true] at h
    exact only (sndL a hot g h.2) h.1
  | .fn i, tst, hot, X, RX, W, sc, e, g, h => by
    unfold ck at h
    split at h
    · simp only [Bool.and_eq_true, decide_eq_true_eq] at h
      obtain ⟨h1, h2, h3⟩ := h
      obtain ⟨⟨y, ar⟩, e1, rfl⟩ := Option.map_eq_some_iff.mp h3
      obtain ⟨n, gf, _⟩ := g.gf
      obtain ⟨fa, f1, f2⟩ := gf.fA i y ar e1
      exact both (d := ev F L (.fn i)) (d_fn (g.gl h1) f2 (dbg_ok h2).1 (by rw [g.fa]; exact f1)) fun _ => rfl
    · cases h
  | .callv i es, tst, hot, X, RX, W, sc, e, g, h => by
    unfold ck at h
    split at h
    · rename_i x p a args pos
      simp only [Bool.and_eq_true, Bool.not_eq_true'] at h
      obtain ⟨rfl, ht, h1, h2, h3, h4⟩ := h
      obtain ⟨n, gf, hr⟩ := g.gf
      obtain ⟨c1, _, c2⟩ := g.cold rfl
      have c2 := c2 ht
      subst c2
      have ih := snds es false g h4
      refine both (d := ev F L (.callv i es)) (d_callv (F := F) (g.slot h1) (g.vis h2) (dbg_ok h3).1 (dbg_ok h3).2 (fun j fa hj => ?_) g.tk (hr rfl) g.gd ih.2 ih.1) fun _ => rfl
      obtain ⟨y, ar, f1⟩ := gf.fB j fa hj
      obtain ⟨fb, fd, ps, m1, m2, m3, m4, m5⟩ := gf.fn j y ar f1
      obtain ⟨fc, f2, f3⟩ := gf.fA j y ar f1
      have e1 := hj.symm.trans f2
      cases e1
      rw [m1] at f3
      cases f3
      exact ⟨fd, ps, ar, m2, m3, m4, m5⟩
    · cases h
  | .lcall f e0, tst, hot, X, RX, W, sc, e, g, h => by
    unfold ck at h
    split at h
    · rename_i x p params body scope lpos pos
      simp only [Bool.and_eq_true, Bool.not_eq_true', decide_eq_true_eq] at h
      obtain ⟨rfl, rfl, ht, hh, h1, h2, h3, h4, h5, h6, h7⟩ := h
      have h5 := noPar_ok h5
      subst h5
      obtain ⟨n, gf, hr⟩ := g.gf
      obtain ⟨c1, _, c2⟩ := g.cold rfl
      have c2 := c2 ht
      subst c2
      have eT : ({ T with home := false } : Stat) = { T with N := X.N, home := false, tak := false } := by
        rw [g.N]
        cases T
        simp only at ht
        subst ht
        rfl
      rw [eT] at h7
      exact ⟨fun _ => gf.lm f (by simpa using h4) X W e0 x p lpos pos body scope rfl rfl rfl rfl rfl g.Nd (g.home hh) (hr rfl) g.gd (g.gl h1) h2 h3 (by rw [g.sc]; exact h6) h7, fun q => nomatch q⟩
    · cases h
  | .isi2 _ _ _, tst, hot, X, RX, W, sc, e, g, h => by
    unfold ck at h
    cases h
  | .dic ks vs, tst, hot, X, RX, W, sc, e, g, h => by
    unfold ck at h
    split at h
    · rename_i keys values pos
      simp only [Bool.and_eq_true, Bool.not_eq_true', decide_eq_true_eq] at h
      obtain ⟨rfl, rfl, h1, h2⟩ := h
      obtain ⟨pp, p1, p2, p3, p4⟩ := sndD vs ks false g h2
      refine ⟨fun _ => ?_, fun q => nomatch q⟩
      by_cases h0 : keys = []
      · subst h0
        have e1 : ks = [] := by
          cases ks with
          | nil => rfl
          | cons _ _ => simp at p4
        subst e1
        have e2 : vs = .nil := by
          cases vs with
          | nil => rfl
          | cons _ _ => simp [lenX] at p3
        subst e2
        have e3 : values = [] := by
          cases values with
          | nil => rfl
          | cons _ _ => simp at p2
        subst e3
        exact d_dic0
      · exact d_dicN (pp pos) p1 p2 h0 h1 p3 p4
    · cases h
theorem sndD : ∀ (a : Exs) (ks : List Key) (hot : Bool) {X : Cx} {RX : XRel} {W : WX} {sc : Scope} {keys : List (Option Expr)} {values : List Expr}, GoodE X RX W T ea F hot sc → ckD T hot sc ks a keys values = true →
    (∀ pos, PPs X pos keys values (trsD RX X.K W F L ks a)) ∧ keys.all (·.isSome) = true ∧ keys.length = values.length ∧ ks.length = lenX a ∧ ks.length = keys.length
  | .nil, ks, hot, X, RX, W, sc, keys, values, g, h => by
    unfold ckD at h
    simp only [Bool.and_eq_true, List.isEmpty_iff] at h
    obtain ⟨rfl, rfl, rfl⟩ := h
    exact ⟨fun _ => pps_nil, rfl, rfl, rfl, rfl⟩
  | .cons a r, ks, hot, X, RX, W, sc, keys, values, g, h => by
    unfold ckD at h
    split at h
    · rename_i k ks' c i pos' keys' v vals'
      simp only [Bool.and_eq_true] at h
      obtain ⟨h1, h2, h3⟩ := h
      obtain ⟨q1, q2, q3, q4, q5⟩ := sndD r ks' hot g h3
      have hk : PE X (.Constant c i pos') (tC (kV k)) := by
        cases k with
        | inl z =>
          cases c <;> first | (cases h1; done) | skip
          have e := of_decide_eq_true (show decide (_ = _) = true from h1)
          rw [← e]
          exact pe_int
        | inr z =>
          cases c <;> first | (cases h1; done) | skip
          have e := of_decide_eq_true (show decide (_ = _) = true from h1)
          rw [← e]
          exact pe_str
      refine ⟨fun pos => pps_cons hk ((snd a false hot g h2).1 rfl) (q1 pos), ?_, ?_, ?_, ?_⟩
      · rw [List.all_cons, q2]; rfl
      · rw [List.length_cons, List.length_cons, q3]
      · rw [List.length_cons, q4]; rfl
      · rw [List.length_cons, List.length_cons, q5]
    · cases h
theorem sndL : ∀ (a : Ex) (hot : Bool) {X : Cx} {RX : XRel} {W : WX} {sc : Scope} {e : Expr}, GoodE X RX W T ea F hot sc → ckL T hot sc a e = true → PE X e (tE RX X.K W fun e S => (evL F L a e S).bind newF)
  | .lst es, hot, X, RX, W, sc, e, g, h => by
    unfold ckL at h
    split at h
    · exact d_newL (d_lstL (snds es hot g h).1)
    · cases h
  | .lc elt t i c own, hot, X, RX, W, sc, e, g, h => by
    unfold ckL at h
    obtain ⟨ee, tg, iter, ifs, scope, pos, rfl, rfl, p1, p2, p3, p4, p5, p6, p7, p8⟩ := lc_parts (di := evI F L i) (dC := evC F L c) (dE := ev F L elt) g h (fun q tg it hh => sndI i hot g hh) (fun X' sc' _ g' ifs hh => sndC c g' hh) (fun X' sc' _ g' x hh => (snd elt false false g' hh).1 rfl)
    have key := d_newL (d_lcL (L := L) p1 g.Nd p2 p3 p4 p5 p6 p7 p8 (pos := pos))
    rw [pairs_snd] at key
    exact key
  | .rngl t i, hot, X, RX, W, sc, e, g, h => by
    unfold ckL at h
    split at h
    · simp only [Bool.and_eq_true, Bool.not_eq_true', decide_eq_true_eq] at h
      obtain ⟨rfl, rfl, h2, rfl, h4, rfl, h6⟩ := h
      obtain ⟨g1, g2⟩ := g.blt h2
      obtain ⟨g3, g4⟩ := g.blt h4
      have hc := (g.cold rfl).1
      have ih := sndR i false g h6
      rcases ih with ⟨a, p, rfl, rfl, hn, ha⟩ | ⟨a, b, p, q, rfl, rfl, hn, hn2, ha, hb⟩
      · exact d_rngl1 (.inr rfl) hc g1 g2 g3 g4 hn ha
      · exact d_rngl2 (.inr rfl) hc g1 g2 g3 g4 hn hn2 ha hb
    · cases h
  | .bi b es, hot, X, RX, W, sc, e, g, h => by
    unfold ckL at h
    split at h
    · rename_i x p a pos
      simp only [Bool.and_eq_true, decide_eq_true_eq] at h
      obtain ⟨rfl, rfl, h2, h3⟩ := h
      have ih := snds es hot g h3
      obtain ⟨g1, g2⟩ := g.blt h2
      have hn : noStar a = true := by simpa using ih.2
      exact d_newL (d_listL g1 g2 hn ih.1)
    · cases h
  | .lit _, hot, X, RX, W, sc, e, g, h => by unfold ckL at h; cases h
  | .var _, hot, X, RX, W, sc, e, g, h => by unfold ckL at h; cases h
  | .glob _, hot, X, RX, W, sc, e, g, h => by unfold ckL at h; cases h
  | .bin o a b, hot, X, RX, W, sc, e, g, h => by
    unfold ckL at h
    split at h
    · simp only [Bool.and_eq_true, decide_eq_true_eq] at h
      obtain ⟨rfl, h1, h2⟩ := h
      exact d_newL (d_mulL ((snd a false hot g h1).1 rfl) ((snd b false hot g h2).1 rfl))
    · simp only [Bool.and_eq_true, decide_eq_true_eq] at h
      obtain ⟨rfl, h1, h2⟩ := h
      exact d_newL (d_addL ((snd a false hot g h1).1 rfl) ((snd b false hot g h2).1 rfl))
    · cases h
  | .neg _, hot, X, RX, W, sc, e, g, h => by unfold ckL at h; cases h
  | .not _, hot, X, RX, W, sc, e, g, h => by unfold ckL at h; cases h
  | .boo _ _, hot, X, RX, W, sc, e, g, h => by unfold ckL at h; cases h
  | .ite _ _ _, hot, X, RX, W, sc, e, g, h => by unfold ckL at h; cases h
  | .cmp _ _ _, hot, X, RX, W, sc, e, g, h => by unfold ckL at h; cases h
  | .cmp2 _ _ _ _ _, hot, X, RX, W, sc, e, g, h => by unfold ckL at h; cases h
  | .tup _, hot, X, RX, W, sc, e, g, h => by unfold ckL at h; cases h
  | .dic _ _, hot, X, RX, W, sc, e, g, h => by unfold ckL at h; cases h
  | .idx _ _, hot, X, RX, W, sc, e, g, h => by unfold ckL at h; cases h
  | .slc _ _ _, hot, X, RX, W, sc, e, g, h => by unfold ckL at h; cases h
  | .slc3 _ _ _ _, hot, X, RX, W, sc, e, g, h => by unfold ckL at h; cases h
  | .call _ _, hot, X, RX, W, sc, e, g, h => by unfold ckL at h; cases h
  | .isi _ _, hot, X, RX, W, sc, e, g, h => by unfold ckL at h; cases h
  | .isx _ _, hot, X, RX, W, sc, e, g, h => by unfold ckL at h; cases h
  | .me _ _ _, hot, X, RX, W, sc, e, g, h => by unfold ckL at h; cases h
  | .gix _ _, hot, X, RX, W, sc, e, g, h => by unfold ckL at h; cases h
  | .mu _ _ _, hot, X, RX, W, sc, e, g, h => by unfold ckL at h; cases h
  | .dc _ _ _ _ _, hot, X, RX, W, sc, e, g, h => by unfold ckL at h; cases h
  | .new _, hot, X, RX, W, sc, e, g, h => by unfold ckL at h; cases h
  | .fn _, hot, X, RX, W, sc, e, g, h => by unfold ckL at h; cases h
  | .callv _ _, hot, X, RX, W, sc, e, g, h => by unfold ckL at h; cases h
  | .lcall _ _, hot, X, RX, W, sc, e, g, h => by unfold ckL at h; cases h
  | .isi2 _ _ _, hot, X, RX, W, sc, e, g, h => by unfold ckL at h; cases h
theorem sndO : ∀ (a : OEx) (hot : Bool) {X : Cx} {RX : XRel} {W : WX} {sc : Scope} {e : Option Expr}, GoodE X RX W T ea F hot sc → ckO T hot sc a e = true → PO X e (tO RX X.K W (evO F L a))
  | .none, hot, X, RX, W, sc, e, g, h => by
    unfold ckO at h
    split at h
    · exact d_noneO
    · cases h
  | .some a, hot, X, RX, W, sc, e, g, h => by
    unfold ckO at h
    split at h
    · exact d_someO ((snd a false hot g h).1 rfl)
    · cases h
theorem sndC : ∀ (a : OEx) {X : Cx} {RX : XRel} {W : WX} {sc : Scope} {e : List Expr}, GoodE X RX W T ea F false sc → ckC T sc a e = true → PTs X e (tT RX X.K W (evC F L a))
  | .none, X, RX, W, sc, e, g, h => by
    unfold ckC at h
    split at h
    · exact ⟨fun pins s σ H Q I ⟨w, e, S, re, rs, q⟩ => pts_nil.run pins s σ H Q I (q w H true (Ext.refl _ _) rs rfl)⟩
    · cases h
  | .some a, X, RX, W, sc, e, g, h => by
    unfold ckC at h
    split at h
    · exact pts_one ((snd a true false g h).2 rfl)
    · cases h
theorem snds : ∀ (a : Exs) (hot : Bool) {X : Cx} {RX : XRel} {W : WX} {sc : Scope} {e : List Expr}, GoodE X RX W T ea F hot sc → cks T hot sc a e = true → PA X e (tA RX X.K W (evs F L a)) ∧ e.all noStar = true
  | .nil, hot, X, RX, W, sc, e, g, h => by
    unfold cks at h
    split at h
    · exact ⟨d_nil, rfl⟩
    · cases h
  | .cons a r, hot, X, RX, W, sc, e, g, h => by
    unfold cks at h
    split at h
    · simp only [Bool.and_eq_true] at h
      obtain ⟨h1, h2, h3⟩ := h
      have ih := snds r hot g h3
      exact ⟨d_cons h1 ((snd a false hot g h2).1 rfl) ih.1, by rw [List.all_cons, h1, ih.2]; rfl⟩
    · cases h
theorem sndB : ∀ (a : Exs) (k tst hot : Bool) {X : Cx} {RX : XRel} {W : WX} {sc : Scope} {e : List Expr}, GoodE X RX W T ea F hot sc → ckB T tst hot sc a e = true →
    (tst = false → (k = true → ∀ pos, PE X (.BoolOp .And e pos) (tE RX X.K W (evB F L k a))) ∧ (k = false → ∀ pos, PE X (.BoolOp .Or e pos) (tE RX X.K W (evB F L k a)))) ∧
    (tst = true → (k = true → ∀ pos, PW X (.BoolOp .And e pos) (tT RX X.K W (toT (evB F L k a)))) ∧ (k = false → ∀ pos, PW X (.BoolOp .Or e pos) (tT RX X.K W (toT (evB F L k a)))))
  | .nil, k, tst, hot, X, RX, W, sc, e, g, h => by
    unfold ckB at h
    cases h
  | .cons a .nil, k, tst, hot, X, RX, W, sc, e, g, h => by
    unfold ckB at h
    split at h
    · simp only [Bool.and_eq_true] at h
      obtain ⟨h1, h2⟩ := h
      split at h2
      · have ih := snd a tst hot g h1
        exact ⟨fun q => ⟨fun _ pos => d_one (ih.1 q), fun _ pos => d_one (ih.1 q)⟩, fun q => ⟨fun _ pos => d_oneT (.inl rfl) (ih.2 q), fun _ pos => d_oneT (.inr rfl) (ih.2 q)⟩⟩
      · rename_i q; cases q
      · cases h2
    · cases h
  | .cons a (.cons b r), k, tst, hot, X, RX, W, sc, e, g, h => by
    unfold ckB at h
    split at h
    · simp only [Bool.and_eq_true] at h
      obtain ⟨h1, h2⟩ := h
      split at h2
      · rename_i q; cases q
      · have i1 := snd a tst hot g h1
        have i2 := sndB (.cons b r) k tst hot g h2
        refine ⟨fun q => ⟨fun z pos => ?_, fun z pos => ?_⟩, fun q => ⟨fun z pos => ?_, fun z pos => ?_⟩⟩
        · subst z; exact d_and (i1.1 q) ((i2.1 q).1 rfl _)
        · subst z; exact d_or (i1.1 q) ((i2.1 q).2 rfl _)
        · subst z; exact d_andT (i1.2 q) ((i2.2 q).1 rfl _)
        · subst z; exact d_orT (i1.2 q) ((i2.2 q).2 rfl _)
      · cases h2
    · cases h
theorem sndR : ∀ (a : It) (hot : Bool) {X : Cx} {RX : XRel} {W : WX} {sc : Scope} {e : List Expr}, GoodE X RX W T ea F hot sc → ckR T hot sc a e = true →
    (∃ x p, a = .rng x ∧ e = [p] ∧ noStar p = true ∧ PE X p (tE RX X.K W (ev F L x))) ∨ ∃ x y p q, a = .rng2 x y ∧ e = [p, q] ∧ noStar p = true ∧ noStar q = true ∧ PE X p (tE RX X.K W (ev F L x)) ∧ PE X q (tE RX X.K W (ev F L y))
  | .rng a, hot, X, RX, W, sc, e, g, h => by
    unfold ckR at h
    split at h
    · simp only [Bool.and_eq_true] at h
      exact .inl ⟨a, _, rfl, rfl, h.1, (snd a false hot g h.2).1 rfl⟩
    · cases h
  | .rng2 a b, hot, X, RX, W, sc, e, g, h => by
    unfold ckR at h
    split at h
    · simp only [Bool.and_eq_true] at h
      obtain ⟨h1, h2, h3, h4⟩ := h
      exact .inr ⟨a, b, _, _, rfl, rfl, h1, h2, (snd a false hot g h3).1 rfl, (snd b false hot g h4).1 rfl⟩
    · cases h
  | .e _, hot, X, RX, W, sc, e, g, h => by unfold ckR at h; cases h
  | .rng3 _ _ _, hot, X, RX, W, sc, e, g, h => by unfold ckR at h; cases h
  | .zip _ _, hot, X, RX, W, sc, e, g, h => by unfold ckR at h; cases h
  | .enum _, hot, X, RX, W, sc, e, g, h => by unfold ckR at h; cases h
  | .tupv _, hot, X, RX, W, sc, e, g, h => by unfold ckR at h; cases h
theorem sndI : ∀ (a : It) (hot : Bool) {X : Cx} {RX : XRel} {W : WX} {sc : Scope} {tg e : Expr}, GoodE X RX W T ea F hot sc → ckI T hot sc a tg e = true → PI X tg e (tI RX X.K W (evI F L a))
  | .e a, hot, X, RX, W, sc, tg, e, g, h => by
    unfold ckI at h
    exact d_itE ((snd a false hot g h).1 rfl)
  | .rng a, hot, X, RX, W, sc, tg, e, g, h => by
    unfold ckI at h
    split at h
    · simp only [Bool.and_eq_true, decide_eq_true_eq] at h
      obtain ⟨rfl, h2, h3, h4⟩ := h
      obtain ⟨g1, g2⟩ := g.blt h2
      exact d_rng g1 g2 h3 ((snd a false hot g h4).1 rfl)
    · cases h
  | .rng2 a b, hot, X, RX, W, sc, tg, e, g, h => by
    unfold ckI at h
    split at h
    · simp only [Bool.and_eq_true, decide_eq_true_eq] at h
      obtain ⟨rfl, h2, h3, h4, h5, h6⟩ := h
      obtain ⟨g1, g2⟩ := g.blt h2
      exact d_rng2 g1 g2 h3 h4 ((snd a false hot g h5).1 rfl) ((snd b false hot g h6).1 rfl)
    · cases h
  | .rng3 a b c, hot, X, RX, W, sc, tg, e, g, h => by
    unfold ckI at h
    split at h
    · simp only [Bool.and_eq_true, decide_eq_true_eq] at h
      obtain ⟨rfl, h2, h3, h4, h5, h6⟩ := h
      obtain ⟨g1, g2⟩ := g.blt h2
      exact d_rng3 g1 g2 h3 ((snd a false hot g h4).1 rfl) ((snd b false hot g h5).1 rfl) ((snd c false hot g h6).1 rfl)
    · cases h
  | .zip a b, hot, X, RX, W, sc, tg, e, g, h => by
    unfold ckI at h
    split at h
    · simp only [Bool.and_eq_true, decide_eq_true_eq] at h
      obtain ⟨h1, rfl, h2, h3, h4, h5, h6⟩ := h
      obtain ⟨g1, g2⟩ := g.blt h2
      cases tg <;> first | (cases h1; done) | skip
      exact d_zip g1 g2 h3 h4 ((snd a false hot g h5).1 rfl) ((snd b false hot g h6).1 rfl)
    · cases h
  | .tupv es, hot, X, RX, W, sc, tg, e, g, h => by
    unfold ckI at h
    split at h
    · exact d_tupv (snds es hot g h).1
    · cases h
  | .enum a, hot, X, RX, W, sc, tg, e, g, h => by
    unfold ckI at h
    split at h
    · simp only [Bool.and_eq_true, decide_eq_true_eq] at h
      obtain ⟨h1, rfl, h2, h3, h4⟩ := h
      obtain ⟨g1, g2⟩ := g.blt h2
      cases tg <;> first | (cases h1; done) | skip
      exact d_enum g1 g2 h3 ((snd a false hot g h4).1 rfl)
    · cases h
end
end
end Mn

end

section
set_option Elab.async false
set_option linter.all false
set_option maxRecDepth 100000
set_option maxHeartbeats 4000000
/-! MnSnd3: each statement by its meaning. -/
namespace Mn
open PySem PySem.Spec PyProof.Rows L2
def notComp : Expr → Bool
  | .ListComp _ _ _ _ => false
  | .SetComp _ _ _ _ => false
  | .DictComp _ _ _ _ _ => false
  | _ => true
theorem notComp_ok {v : Expr} (h : notComp v = true) (t : Option Expr) (l : Nat) (env : Env) : swapsWith v t l env = pure false := by
  cases v <;> first | rfl | cases h
/-- the stores are in order -/
def noSwap : Expr → Expr → Bool
  | .Tuple ts _ _, .Tuple vs _ _ => vs.all (foldedForSure 8) || !(ts.length == 2 || ts.length == 3)
  | .List _ _, _ => false
  | _, _ => true
theorem noSwap_ok {t v : Expr} (h : noSwap t v = true) (env : Env) : swappedStores [t] v env = pure none := by
  cases t <;> first | (cases h; done) | rfl | skip
  cases v <;> first | rfl | skip
  rename_i ts k p vs k2 p2
  have h : (vs.all (foldedForSure 8) || !(ts.length == 2 || ts.length == 3)) = true := h
  unfold swappedStores
  rw [Bool.or_eq_true] at h
  rcases h with h | h
  · simp only [h, if_true]
    repeat' split
    all_goals rfl
  · simp only [h, Bool.true_or, if_true]
/-- two names of which one is no plain local -/
def noSwap2 (sc : Scope) : Expr → Expr → Bool
  | .Tuple [.Name x _, .Name y _] _ _, .Tuple _ _ _ => !(lclB sc x && lclB sc y)
  | _, _ => false
theorem lclB_no {sc : Scope} {x : Str} (h : lclB sc x = false) : (sc.names.lookup x == some NameKind.local) = false := by
  rw [beq_eq_false_iff_ne]
  intro e
  unfold lclB at h
  rw [e] at h
  cases h
theorem noSwap2_ok {sc : Scope} {t v : Expr} {env : Env} (h : noSwap2 sc t v = true) (hsc : env.scope = sc) : swappedStores [t] v env = pure none := by
  unfold noSwap2 at h
  split at h
  · rename_i x px y py k pt vs k2 pt2
    rw [Bool.not_eq_true', Bool.and_eq_false_iff] at h
    have e : ∀ z, (env.kindOf z == some NameKind.local) = (sc.names.lookup z == some NameKind.local) := fun z => by
      rw [← hsc]; rfl
    have key : ∀ l : Nat, ((([.Name x px, .Name y py] : List Expr).filterMap fun
      | .Name id pos => if env.kindOf id == some .local && pos.line == l then some id else none
      | _ => none).length != 2) = true := fun l => by
      rcases h with h | h
      · have e1 := lclB_no h
        rw [← e] at e1
        simp only [List.filterMap_cons, List.filterMap_nil, e1, Bool.false_and]
        cases (env.kindOf y == some NameKind.local && py.line == l) <;> rfl
      · have e1 := lclB_no h
        rw [← e] at e1
        simp only [List.filterMap_cons, List.filterMap_nil, e1, Bool.false_and]
        cases (env.kindOf x == some NameKind.local && px.line == l) <;> rfl
    unfold swappedStores
    dsimp only
    split
    · rfl
    · split
      · rfl
      · have k2 := key ((([.Name x px, .Name y py] : List Expr).head?.map (·.pos.line)).getD 0)
        rw [if_pos]
        rw [Bool.or_eq_true]
        exact .inl k2
  · cases h
/-- a comprehension that is stored to no plain local -/
def nlB (sc : Scope) : Expr → Bool
  | .Name y _ => !lclB sc y
  | _ => false
theorem nlB_ok {sc : Scope} {t v : Expr} {env : Env} {l : Nat} (h : nlB sc t = true) (hsc : env.scope = sc) (hv : match v with
    | .ListComp _ _ _ _ => True
    | _ => False) : swapsWith v (some t) l env = pure false := by
  unfold nlB at h
  split at h
  · rename_i y py
    rw [Bool.not_eq_true'] at h
    have e1 := lclB_no h
    have e : (env.kindOf y == some NameKind.local) = false := by
      show (env.scope.names.lookup y == some NameKind.local) = false
      rw [hsc]; exact e1
    cases v <;> first | exact hv.elim | skip
    unfold swapsWith
    simp [e]
  · cases h
/-- two plain names in a line: the stores are swapped -/
def swap2 (px py : Pos) (x y : Str) (a b : Expr) : Bool := (py.line == px.line) && (decide (x ≠ y) && (noStar a && (noStar b && (!(([a, b] : List Expr).all (foldedForSure 8)) && !(([a, b] : List Expr).all (constantsAlone 8))))))
theorem swap2_ok {px py pt pt2 : Pos} {x y : Str} {a b : Expr} {k k2 : Nat} {env : Env} (h : swap2 px py x y a b = true) (hk : env.scope.kind = .function) (hx : env.scope.names.lookup x = some .local) (hy : env.scope.names.lookup y = some .local) :
    swappedStores [.Tuple [.Name x px, .Name y py] k pt] (.Tuple [a, b] k2 pt2) env = pure (some [x, y]) := by
  unfold swap2 at h
  simp only [Bool.and_eq_true, decide_eq_true_eq, Bool.not_eq_true'] at h
  obtain ⟨h1, h2, h3, h4, h5, h6⟩ := h
  have hb : env.blockKind = .function := by unfold Env.blockKind; rw [hk]; rfl
  have kx : env.kindOf x = some .local := hx
  have ky : env.kindOf y = some .local := hy
  have hs : (([a, b] : List Expr).any fun | .Starred .. => true | _ => false) = false := by
    cases a <;> first | (cases h3; done) | (cases b <;> first | (cases h4; done) | rfl)
  have hne : (y == x) = false := by
    rw [beq_eq_false_iff_ne]; exact fun e => h2 e.symm
  unfold swappedStores
  simp only [List.length_cons, List.length_nil, hb, hs, h5, h6, List.filterMap_cons, List.filterMap_nil, List.head?_cons, Option.map_some, Option.getD_some, kx, ky, h1, Expr.pos]
  simp [List.eraseDups_cons, hne]
  intro hh
  rcases hh with hh | hh
  · cases a <;> first | (cases h3; done) | cases hh
  · cases b <;> first | (cases h4; done) | cases hh
/-- the value of 'name = [..]' that is stored within the block's end -/
def lcHead (sc : Scope) : Expr → Expr → Bool
  | .Name y py, .ListComp _ _ scope pos => lclB sc y && ((py.line == pos.line) && !(scope.names.any fun (n, k) => n == y && (k == .local || k == .cell)))
  | _, _ => false
section
variable (T : Stat)
mutual
def ckS (hot : Bool) (sc : Scope) : Stm → Stmt → Bool
  | .asg t a, s => match s with
    | .Assign [tg] v _ => (match t with
      | .nm _ => true
      | .tup _ => !hot) && (tgB T sc (fun _ => true) t tg && ((noSwap tg v || noSwap2 sc tg v) && (match v with
      | .ListComp ee gs scope pos => (nlB sc tg && ck T false hot sc a (.ListComp ee gs scope pos)) || (lcHead sc tg (.ListComp ee gs scope pos) && (match t, a with
        | .nm _, .lc elt t2 i c own => lcChk T hot sc t2 own (fun x y => ckI T hot sc i x y) (fun s l => ckC T s c l) (fun s x => ck T false false s elt x) (.ListComp ee gs scope pos)
        | .nm _, .new (.lc elt t2 i c own) => lcChk T hot sc t2 own (fun x y => ckI T hot sc i x y) (fun s l => ckC T s c l) (fun s x => ck T false false s elt x) (.ListComp ee gs scope pos)
        | _, _ => false))
      | v => notComp v && ck T false hot sc a v)))
    | _ => false
  | .par is es, s => match s with
    | .Assign [.Tuple [.Name x px, .Name y py] _ _] (.Tuple [a, b] _ _) _ => !hot && (match is with
      | [i, j] => decide (i ≠ j) && (slotB T i x && (slotB T j y && (lclB sc x && (lclB sc y && (swap2 px py x y a b && cks T hot sc es [a, b])))))
      | _ => false)
    | _ => false
  | .seti o i a, s => match s with
    | .Assign [.Subscript p q _] v _ => plainIx q && (notComp v && (ck T false hot sc a v && (ck T false hot sc o p && ck T false hot sc i q)))
    | _ => false
  | .ex a, s => match s with
    | .Expr v _ => notComp v && ck T false hot sc a v
    | _ => false
  | .ret a, s => match s with
    | .Return (some v) _ => ck T false hot sc a v
    | _ => false
  | .retn, s => match s with
    | .Return none _ => true
    | _ => false
  | .pass, s => match s with
    | .Pass _ => true
    | _ => false
  | .act t, s => match t with
    | none => match s with
      | .Expr (.Call (.Name x _) [] [] _) _ => !hot && (slotB T 0 x && (visB sc x && dbg x))
      | _ => false
    | some j => match s with
      | .Assign [.Name y _] (.Call (.Name x _) [] [] _) _ => !hot && (slotB T 0 x && (visB sc x && (dbg x && (slotB T j y && locB sc y))))
      | _ => false
  | .ite c a b, s => match s with
    | .If t p q _ => ck T true hot sc c t && (ckSs hot sc a p && ckSs hot sc b q)
    | _ => false
  | .for_ t i b, s => match s with
    | .For tg it body [] _ => !hot && (noSet it && (ckI T hot sc i tg it && (tgB T sc (fun _ => true) t tg && ckSs hot sc b body)))
    | _ => false
  | .whil c b, s => match s with
    | .While t body [] _ => !hot && (ck T true hot sc c t && ckSs hot sc b body)
    | _ => false
  | .raise c es, s => match es with
    | .nil => match s with
      | .Raise (some (.Call (.Name x _) [] [] _)) none _ => !hot && (glB sc x && (dbg x && decide (T.exs[c]? = some x)))
      | _ => false
    | _ => false
  | .try_ b c nm s', s => match nm with
    | some n => match s with
      | .Try body [.ExceptHandler (some (.Name x _)) (some y) (s0 :: ss) _] [] [] _ => !hot && (glB sc x && (dbg x && (decide (T.exs[c]? = some x) && (slotB T n y && (lclB sc y && (ckSs hot sc b body && ckSs true sc s' (s0 :: ss)))))))
      | _ => false
    | none => false
  | _, _ => false
def ckSs (hot : Bool) (sc : Scope) : Stms → List Stmt → Bool
  | .nil, s => match s with
    | [] => true
    | _ => false
  | .cons a r, s => match s with
    | p :: ps => ckS hot sc a p && ckSs hot sc r ps
    | _ => false
end
end
/-- where a statement stands -/
structure GoodS (X : Cx) (RX : XRel) (W : WX) (T : Stat) (ea : EA) (F : Nat → List PV → Sto → Res PV) (hot : Bool) (s0 : Scope) : Prop extends GoodE X RX W T ea F hot s0 where
  kind : s0.kind = .function
  po : hot = false → PassesOwn (model X.prog X.w) X.A X.env X.xe
  stk : hot = false → X.stack = X.env :: X.outer
  frm : hot = false → X.env.frame = some X.env.locals
  fn : ∀ x, X.fn x = true
  act : hot = false → ∀ t, RX.xa.th = some t → ∀ (W' : WX) (pn : List (Addr × Obj)) (xe : Value → Shared → Prop), Takes (X.tr pn xe) W' → ∀ (x : Str) (p1 p2 : Pos), X.N[0]? = some x → Vis X.env.scope x → dbg x = true → PE (X.tr pn xe) (.Call (.Name x p1) [] [] p2) (tE RX X.K W' (actM F))
section
variable {T : Stat} {ea : EA} {F : Nat → List PV → Sto → Res PV} {L : Nat} {X : Cx} {RX : XRel} {W : WX} {sc : Scope}
theorem GoodS.tr (g : GoodS X RX W T ea F false sc) {W' : WX} {pn : List (Addr × Obj)} {xe : Value → Shared → Prop} (tk : Takes (X.tr pn xe) W') (po : PassesOwn (model X.prog X.w) X.A X.env xe) : GoodS (X.tr pn xe) RX W' T ea F false sc :=
  ⟨⟨g.gf, g.N, g.nd, g.sc, tk, g.hu, g.gd, g.cold, g.rel, g.fa, g.home, fun h => nomatch h⟩, g.kind, fun _ => po, g.stk, g.frm, g.fn, g.act⟩
theorem GoodS.suite (g : GoodS X RX W T ea F false sc) {a : Addr} {oe : Obj} {pn : List (Addr × Obj)} {D : Addr} {k : Nat} {f : Option PyData} (hz : Zc (.ref D) none oe) (hf : ∃ vs, oe.data = .fields vs) (hk : ea k = some D) :
    GoodS (X.suite a ((a, oe) :: pn)) { RX with xa := { RX.xa with er := some (a, k, f) } } WN T ea F true sc := by
  obtain ⟨n, gf, _⟩ := g.gf
  exact ⟨⟨⟨n, gf, fun h => nomatch h⟩, g.N, g.nd, g.sc, takes_none5, g.hu, g.gd, fun h => (nomatch h), g.rel, g.fa, g.home, fun _ => ⟨X, a, oe, pn, D, k, f, rfl, hz, hf, rfl, hk⟩⟩, g.kind, fun h => (nomatch h), fun h => (nomatch h), fun h => (nomatch h), g.fn, fun h => (nomatch h)⟩
/-- the taker's call -/
theorem act_pe (g : GoodS X RX W T ea F false sc) {x : Str} {p1 p2 : Pos} (h1 : X.N[0]? = some x) (h2 : Vis X.env.scope x) (h3 : dbg x = true) : PE X (.Call (.Name x p1) [] [] p2) (tE RX X.K W (actM F)) := by
  cases ht : RX.xa.th with
  | some t => exact g.act rfl t ht W X.pn X.xe g.tk x p1 p2 h1 h2 h3
  | none =>
    refine ⟨fun pins s σ H Q I ⟨w, e, S, re, rs, h⟩ => False.elim ?_⟩
    unfold actM at h
    split at h
    · rename_i a e0 e1
      obtain ⟨_, _, t, h4, _⟩ := re.at_ 0 _ e1
      rw [re.xa, ht] at h4
      cases h4
    · exact h
mutual
theorem sndS : ∀ (a : Stm) (hot : Bool) {X : Cx} {RX : XRel} {W : WX} {sc : Scope} {s : Stmt}, GoodS X RX W T ea F hot sc → ckS T hot sc a s = true → PS X s (tS RX X.K W (exec F L a))
  | .asg t a, hot, X, RX, W, sc, s, g, h => by
    unfold ckS at h
    split at h
    · rename_i tg v pos
      rw [Bool.and_eq_true, Bool.and_eq_true, Bool.and_eq_true] at h
      obtain ⟨h1, h2, h3, h4⟩ := h
      have hw : swappedStores [tg] v X.env = pure none := (Bool.or_eq_true_iff.mp h3).elim (fun z => noSwap_ok z X.env) fun z => noSwap2_ok z g.sc
      have hg : PG X tg (gT RX X.K t) := by
        cases t with
        | nm i =>
          cases tg <;> first | (cases h2; done) | skip
          rename_i x p
          have h2 : (slotB T i x && (locB sc x && (true || lclB sc x))) = true := h2
          simp only [Bool.and_eq_true] at h2
          exact g_nm g.Nd (g.slot h2.1) (by rw [g.sc]; exact locB_ok h2.2.1) (.inl (g.fn _))
        | tup is =>
          have hh : hot = false := by simpa using h1
          subst hh
          exact tg_ok g.toGoodE (fun x _ => g.fn x) (g.cold rfl).1 h2
      have h1' : (assignEach [tg] X.env).map (·.2) = [assign tg X.env] := by
        cases tg <;> first | rfl | (cases t <;> cases h2)
      split at h4
      · rename_i ee gs scope vpos
        rcases Bool.or_eq_true_iff.mp h4 with h4 | h4
        · rw [Bool.and_eq_true] at h4
          exact s_asg ((snd a false hot g.toGoodE h4.2).1 rfl) hg (nlB_ok (v := .ListComp ee gs scope vpos) (l := pos.line) h4.1 g.sc trivial) hw h1'
        simp only [Bool.and_eq_true] at h4
        obtain ⟨h5, h6⟩ := h4
        cases tg <;> first | (cases h5; done) | skip
        rename_i y py
        have h5 : (lclB sc y && ((py.line == vpos.line) && !(scope.names.any fun (n, k) => n == y && (k == .local || k == .cell)))) = true := h5
        rw [Bool.and_eq_true, Bool.and_eq_true, Bool.not_eq_true'] at h5
        obtain ⟨q1, q2, q3⟩ := h5
        have hyl : X.env.scope.names.lookup y = some .local := by rw [g.sc]; exact lclB_ok q1
        have hkd : X.env.scope.kind = .function := by rw [g.sc]; exact g.kind
        split at h6
        · rename_i i elt t2 it c own
          obtain ⟨ee', tg', iter', ifs', scope', pos', e0, rfl, p1, p2, p3, p4, p5, p6, p7, p8⟩ := lc_parts (di := evI F L it) (dC := evC F L c) (dE := ev F L elt) g.toGoodE h6 (fun q tg it' hh => sndI it hot g.toGoodE hh) (fun X' sc' _ g' ifs hh => sndC c g' hh) (fun X' sc' _ g' x hh => (snd elt false false g' hh).1 rfl)
          cases e0
          have hy : X.N[i]? = some y := by
            have h2 : (slotB T i y && (locB sc y && (true || lclB sc y))) = true := h2
            exact g.slot (Bool.and_eq_true_iff.mp h2).1
          refine s_asgLc (L := L) (dv := ev F L (.lc elt t2 it c own)) (fun {σ H Q} hh => ?_) p1 g.Nd hy hyl (sw_true hkd hyl q2 q3) p2 p3 p4 p5 p6 p7 p8
          rw [pairs_snd]
          exact frzL_of hh
        · rename_i i elt t2 it c own
          obtain ⟨ee', tg', iter', ifs', scope', pos', e0, rfl, p1, p2, p3, p4, p5, p6, p7, p8⟩ := lc_parts (di := evI F L it) (dC := evC F L c) (dE := ev F L elt) g.toGoodE h6 (fun q tg it' hh => sndI it hot g.toGoodE hh) (fun X' sc' _ g' ifs hh => sndC c g' hh) (fun X' sc' _ g' x hh => (snd elt false false g' hh).1 rfl)
          cases e0
          have hy : X.N[i]? = some y := by
            have h2 : (slotB T i y && (locB sc y && (true || lclB sc y))) = true := h2
            exact g.slot (Bool.and_eq_true_iff.mp h2).1
          refine s_asgLc (L := L) (dv := ev F L (.new (.lc elt t2 it c own))) (fun {σ H Q} hh => ?_) p1 g.Nd hy hyl (sw_true hkd hyl q2 q3) p2 p3 p4 p5 p6 p7 p8
          rw [pairs_snd]
          exact newL_of hh
        · cases h6
      · rw [Bool.and_eq_true] at h4
        exact s_asg ((snd a false hot g.toGoodE h4.2).1 rfl) hg (notComp_ok h4.1 (some tg) pos.line X.env) hw h1'
    · cases h
  | .par is es, hot, X, RX, W, sc, s, g, h => by
    unfold ckS at h
    split at h
    · simp only [Bool.and_eq_true, Bool.not_eq_true'] at h
      obtain ⟨rfl, h⟩ := h
      split at h
      · simp only [Bool.and_eq_true, decide_eq_true_eq] at h
        obtain ⟨h1, h2, h3, h4, h5, h6, h7⟩ := h
        have hx := lclB_ok h4
        have hy := lclB_ok h5
        rw [← g.sc] at hx hy
        have hkd : X.env.scope.kind = .function := by rw [g.sc]; exact g.kind
        exact s_par (g.cold rfl).1 g.Nd (g.slot h2) (g.slot h3) h1 hx hy (snds es false g.toGoodE h7).1 (swap2_ok h6 hkd hx hy)
      · cases h
    · cases h
  | .seti o i a, hot, X, RX, W, sc, s, g, h => by
    unfold ckS at h
    split at h
    · rename_i p q pp v pos
      simp only [Bool.and_eq_true] at h
      obtain ⟨h1, h2, h3, h4, h5⟩ := h
      exact s_seti ((snd a false hot g.toGoodE h3).1 rfl) ((snd o false hot g.toGoodE h4).1 rfl) ((snd i false hot g.toGoodE h5).1 rfl) (by cases q <;> first | (intro _; rfl) | cases h1) (notComp_ok h2 (some (.Subscript p q pp)) pos.line X.env) rfl
    · cases h
  | .ex a, hot, X, RX, W, sc, s, g, h => by
    unfold ckS at h
    split at h
    · rw [Bool.and_eq_true] at h
      exact s_ex ((snd a false hot g.toGoodE h.2).1 rfl) (notComp_ok h.1 _ _ _)
    · cases h
  | .ret a, hot, X, RX, W, sc, s, g, h => by
    unfold ckS at h
    split at h
    · exact s_ret ((snd a false hot g.toGoodE h).1 rfl)
    · cases h
  | .retn, hot, X, RX, W, sc, s, g, h => by
    unfold ckS at h
    split at h
    · exact s_retn
    · cases h
  | .pass, hot, X, RX, W, sc, s, g, h => by
    unfold ckS at h
    split at h
    · exact s_pass
    · cases h
  | .act t, hot, X, RX, W, sc, s, g, h => by
    unfold ckS at h
    cases t with
    | none =>
      dsimp only at h
      split at h
      · simp only [Bool.and_eq_true, Bool.not_eq_true'] at h
        obtain ⟨rfl, h1, h2, h3⟩ := h
        exact s_ex (act_pe g (g.slot h1) (g.vis h2) h3) (notComp_ok rfl _ _ _)
      · cases h
    | some j =>
      dsimp only at h
      split at h
      · rename_i y py x px p2 pos
        simp only [Bool.and_eq_true, Bool.not_eq_true'] at h
        obtain ⟨rfl, h1, h2, h3, h4, h5⟩ := h
        exact s_asg (act_pe g (g.slot h1) (g.vis h2) h3) (g_nm g.Nd (g.slot h4) (by rw [g.sc]; exact locB_ok h5) (.inl (g.fn _))) (notComp_ok (v := .Call (.Name x px) [] [] p2) rfl (some (.Name y py)) pos.line X.env) (noSwap_ok rfl _) rfl
      · cases h
  | .ite c a b, hot, X, RX, W, sc, s, g, h => by
    unfold ckS at h
    split at h
    · simp only [Bool.and_eq_true] at h
      obtain ⟨h1, h2, h3⟩ := h
      exact s_ite (dt := evT F L c) ((snd c true hot g.toGoodE h1).2 rfl) (sndSs a hot g h2) (sndSs b hot g h3)
    · cases h
  | .for_ t i b, hot, X, RX, W, sc, s, g, h => by
    unfold ckS at h
    split at h
    · simp only [Bool.and_eq_true, Bool.not_eq_true'] at h
      obtain ⟨rfl, h1, h2, h3, h4⟩ := h
      exact s_for (g.po rfl) (g.cold rfl).1 (sndI i false g.toGoodE h2) (tg_ok g.toGoodE (fun x _ => g.fn x) (g.cold rfl).1 h3) (sndSs b false g h4) (noSet_fold h1)
    · cases h
  | .whil c b, hot, X, RX, W, sc, s, g, h => by
    unfold ckS at h
    split at h
    · simp only [Bool.and_eq_true, Bool.not_eq_true'] at h
      obtain ⟨rfl, h1, h2⟩ := h
      exact s_while (dt := evT F L c) (g.po rfl) ((snd c true false g.toGoodE h1).2 rfl) (sndSs b false g h2)
    · cases h
  | .raise c es, hot, X, RX, W, sc, s, g, h => by
    unfold ckS at h
    split at h
    · split at h
      · simp only [Bool.and_eq_true, Bool.not_eq_true', decide_eq_true_eq] at h
        obtain ⟨rfl, h1, h2, h3⟩ := h
        obtain ⟨n, gf, _⟩ := g.gf
        obtain ⟨C, B, newId, initId, bmB, c1, c2, c3, c4, c5⟩ := gf.exA c _ h3
        obtain ⟨c6, c7⟩ := gf.exB c C c1
        obtain ⟨hc, _⟩ := g.cold rfl
        exact s_raise hc g.tk (pmk_own0 c4 c5 c2 c3 (raises_own c6.hs c7) (g.gl h1) (dbg_ok h2).1) fun w H => by rw [g.rel]; exact ⟨rfl, rfl, C, c1, rfl⟩
      · cases h
    · cases h
  | .try_ b c nm s', hot, X, RX, W, sc, s, g, h => by
    unfold ckS at h
    split at h
    · split at h
      · rename_i n _ body x np y s0 ss pos' pos
        simp only [Bool.and_eq_true, Bool.not_eq_true', decide_eq_true_eq] at h
        obtain ⟨rfl, h1, h2, h3, h4, h5, h6, h7⟩ := h
        obtain ⟨n', gf, _⟩ := g.gf
        obtain ⟨C, B, newId, initId, bmB, c1, c2, c3, c4, c5⟩ := gf.exA c _ h3
        obtain ⟨hc, hEr, _⟩ := g.cold rfl
        have hRX := g.rel
        have hln : X.env.kindOf y = some .local := by
          show X.env.scope.names.lookup y = _
          rw [g.sc]; exact lclB_ok h5
        have rel : ∀ w H k f cls d, RX.rel w H k f cls d → f = none ∧ d = none ∧ ∃ C, ea k = some C ∧ cls = .ref C := fun w H k f cls d hh => by rw [hRX] at hh; exact hh
        refine s_try (dB := execs F L b) (dSu := execs F L s') hEr (g.stk rfl) (g.frm rfl) g.Nd (g.slot h4) hln ⟨g.gl h1, (dbg_ok h2).1, .inl c2⟩ g.tk (fun w H k f cls d hh => ?_) (fun W' pn xe tk po => ?_) (fun a oe cls d pn k f w H hh hz hd => ?_)
        · obtain ⟨_, _, D, e1, rfl⟩ := rel w H k f cls d hh
          exact (gf.exm k D c C e1 c1).1
        · exact sndSs b false (g.tr tk po) h6
        · obtain ⟨rfl, rfl, D, e1, rfl⟩ := rel w H k f cls d hh
          exact sndSs s' true (g.suite hz hd e1) h7
      · cases h
    · cases h
  | .aug _ _ _, hot, X, RX, W, sc, s, g, h => by unfold ckS at h; cases h
  | .augi _ _ _ _, hot, X, RX, W, sc, s, g, h => by unfold ckS at h; cases h
theorem sndSs : ∀ (a : Stms) (hot : Bool) {X : Cx} {RX : XRel} {W : WX} {sc : Scope} {s : List Stmt}, GoodS X RX W T ea F hot sc → ckSs T hot sc a s = true → PSs X s (tS RX X.K W (execs F L a))
  | .nil, hot, X, RX, W, sc, s, g, h => by
    unfold ckSs at h
    split at h
    · exact s_nil
    · cases h
  | .cons a r, hot, X, RX, W, sc, s, g, h => by
    unfold ckSs at h
    split at h
    · rw [Bool.and_eq_true] at h
      exact s_cons (sndS a hot g h.1) (sndSs r hot g h.2)
    · cases h
end
end
end Mn

end

section
set_option Elab.async false
set_option linter.all false
set_option maxRecDepth 100000
set_option maxHeartbeats 1000000
/-! MnFun: the defs, n calls deep; the facts of the written part. -/
namespace Mn
open PySem PySem.Spec PyProof.Rows L2
/-- a def of the text with its reading -/
structure DS where
  dd : He.DefD
  ps : List Str
  N : List Str
  d : Def
  lam : Bool := false
  tak : Bool := false
def BindOk (s : DS) : Prop := ∀ (kV doc pm : Value) (an : Option Addr) (cdv ct : Value) (us : List Value), us.length = s.ps.length → bindArgs (PySem.W.fnOf s.dd.name s.dd.qual s.dd.params s.dd.body s.dd.scope .none kV doc pm an cdv ct) ⟨us, []⟩ = pure (s.ps.zip us)
def scpB (N P : List Str) (sc : Scope) : Bool := decide (sc.kind = .function) && (!sc.isCoroutine && (!sc.isGenerator && (decide N.Nodup && (decide (N.take P.length = P) && (P.all (fun x => locB sc x) && sc.names.all fun y => decide (y.2 ≠ .free))))))
theorem scpB_ok {N P : List Str} {sc : Scope} (h : scpB N P sc = true) : FnScope N P sc := by
  unfold scpB at h
  simp only [Bool.and_eq_true, decide_eq_true_eq, Bool.not_eq_true', List.all_eq_true] at h
  obtain ⟨h1, h2, h3, h4, h5, h6, h7⟩ := h
  exact ⟨h1, h2, h3, h4, h5, fun x hx => locB_ok (h6 x hx), h7⟩
/-- what is known within a def -/
def DS.st (T : Stat) (s : DS) : Stat := { T with N := s.N, home := s.lam, tak := s.tak }
/-- what is looked at of a def -/
def stB (T : Stat) (s : DS) : Bool := decide (s.dd.at_ = (s.dd.name, none)) && (decide (s.dd.qual = s.dd.name) && (s.dd.dfl.isEmpty && (s.dd.kwd.isEmpty && (scpB s.N s.ps s.dd.scope && (decide (s.ps.length = s.d.ar) && (decide (s.N.length = s.d.nm) && ckSs (s.st T) false s.dd.scope s.d.body s.dd.body))))))
/-- what is looked at of a taker -/
def tkB (s : DS) : Bool := s.tak && (!s.lam && (!s.d.keep && (decide (s.d.ar = 1) && (s.ps.all dbg && s.ps.all (visB s.dd.scope)))))
theorem st_ok {T : Stat} {s : DS} (h : stB T s = true) : s.dd.at_ = (s.dd.name, none) ∧ s.dd.qual = s.dd.name ∧ s.dd.dfl = [] ∧ s.dd.kwd = [] ∧ FnScope s.N s.ps s.dd.scope ∧ s.ps.length = s.d.ar ∧ s.N.length = s.d.nm ∧ ckSs (s.st T) false s.dd.scope s.d.body s.dd.body = true := by
  unfold stB at h
  simp only [Bool.and_eq_true, decide_eq_true_eq, List.isEmpty_iff] at h
  obtain ⟨h1, h2, h3, h4, h5, h6, h7, h8⟩ := h
  exact ⟨h1, h2, h3, h4, scpB_ok h5, h6, h7, h8⟩
/-- the promise without errors -/
theorem toG0 {P : Program} {w : World} {K : PySem.W.Frag} {mg : Str → Option Value} {base : Heap} {k : Nat} {f : Addr} {fd : FuncData} {ps : List Str} {sp : Sp} (F : FnG P w K mg base (L2.CX P w) k f fd ps sp) :
    FnG P w K mg base CX0 k f fd ps (fun vs H Q _ => sp vs H Q fun _ _ _ => False) :=
  ⟨fun vs H Q E h => F.len _ _ _ _ h, fun B out s0 H as us vs Q E hr gd he hb hv hs => codeAny_mono (F.run B out s0 H as us vs Q (fun _ _ _ => False) hr gd he hb hv hs) fun r s' hq => by
    cases r with
    | error e =>
      obtain ⟨_, _, _, _, _, _, _, _, _, _, _, _, z⟩ := hq
      exact z.elim
    | ok fl => cases fl <;> exact hq⟩
theorem runD_len {F : Nat → List PV → Sto → Res PV} {L : Nat} {d : Def} {vs : List PV} {S : Sto} (h : runD F L d vs S ≠ .bad) : vs.length = d.ar := by
  unfold runD at h
  split at h
  · assumption
  · exact absurd rfl h
theorem run_len {D : List Def} {L n i : Nat} {d : Def} (hd : D[i]? = some d) {vs : List PV} {S : Sto} (h : run D L n i vs S ≠ .bad) : vs.length = d.ar := by
  cases n with
  | zero => exact absurd rfl h
  | succ n =>
    unfold run at h
    rw [hd] at h
    exact runD_len h
theorem run_at {D : List Def} {L n i : Nat} {d : Def} (hd : D[i]? = some d) {vs : List PV} {S : Sto} : run D L (n + 1) i vs S = runD (run D L n) L d vs S := by
  unfold run
  rw [hd]
theorem run_clo {D : List Def} {L n : Nat} (hD : D.length ≤ cloN) {a : Ex} {e : Env'} {S : Sto} : run D L (n + 1) cloN [.clo a e] S = ev (run D L n) L a e S := by
  unfold run
  rw [List.getElem?_eq_none hD]
/-! ### the way out of a def -/
section
variable {K : PySem.W.Frag} {w w' : Wd} {H H' : Hp}
/-- the cells laid within are forgotten -/
theorem rs_take {S : Sto} (r : RS K w H S) (n : Nat) : RS K { w with m := w.m.take n } H (S.take n) := by
  refine ⟨by rw [List.length_take, List.length_take, r.len], r.nd.sublist (List.take_sublist _ _), fun i c e => ?_, r.fzH, r.fzT, fun a f => ?_, fun p hp => r.tab p hp⟩
  · have hi : i < n := by
      have := (List.getElem?_eq_some_iff.mp e).1
      rw [List.length_take] at this
      omega
    rw [List.getElem?_take_of_lt hi] at e
    obtain ⟨a, e1, nf, rc⟩ := r.cell i c e
    refine ⟨a, by show (w.m.take n)[i]? = some a; rw [List.getElem?_take_of_lt hi]; exact e1, nf, ?_⟩
    have low : ∀ {p : PV} {v : V}, below i p = true → RV K w H p v → RV K { w with m := w.m.take n } H p v := fun {p v} hb rv => by
      cases p with
      | d y => exact RD.mono (w := w) (w' := { w with m := w.m.take n }) (H' := H) (fun _ f => f) (fun _ _ _ e => e) rv
      | r j =>
        obtain ⟨b, e2, e3⟩ := rv
        have hj : j < i := of_decide_eq_true hb
        exact ⟨b, by show (w.m.take n)[j]? = some b; rw [List.getElem?_take_of_lt (by omega)]; exact e2, e3⟩
      | x _ _ => cases hb
      | s _ => cases hb
      | f _ => cases hb
      | clo _ _ => cases hb
    cases c with
    | lst xs =>
      obtain ⟨vs, h1, h2, h3⟩ := rc
      refine ⟨vs, h1, ?_, h3⟩
      clear h1 e
      induction h2 with
      | nil => exact .nil
      | cons r t ih => exact .cons (low (h3 _ List.mem_cons_self) r) (ih fun x hx => h3 x (List.mem_cons_of_mem _ hx))
    | dct kvs =>
      obtain ⟨ks, h1, h2, h3⟩ := rc
      refine ⟨ks, h1, ?_, h3⟩
      clear h1 e
      induction h2 with
      | nil => exact .nil
      | cons r t ih => exact .cons ⟨r.1, low (h3 _ List.mem_cons_self) r.2⟩ (ih fun x hx => h3 x (List.mem_cons_of_mem _ hx))
  · obtain ⟨h1, h2, h3⟩ := r.pvH a f
    exact ⟨h1, fun q => h2 ((List.take_sublist _ _).subset q), h3⟩
theorem ext_take {S : Sto} (x : Ext w H w' H') (r : RS K w H S) : Ext w H { w' with m := w'.m.take S.length } H' := by
  refine ⟨x.fz, x.keep, ⟨[], ?_⟩, x.xa, x.pv, x.pvH⟩
  obtain ⟨l, e⟩ := x.m
  show w'.m.take S.length = w.m ++ []
  rw [e, ← r.len, List.take_left', List.append_nil]
  rfl
/-- what is handed back -/
theorem leave_ok {S S1 : Sto} {keep : Bool} {v : PV} {y : V} {RX : XRel} {W : XK} {Q : VK} (r0 : RS K w H S) (x : Ext w H w' H') (r : RS K w' H' S1) (rv : RV K w' H' v y) (h : Post RX K (RV K) w H (leave keep S.length v S1) W Q) : Q y H' := by
  unfold leave at h
  split at h
  · exact h w' H' y x r rv
  · obtain ⟨z, e, an⟩ := h.opt
    have rt := rs_take r S.length
    have xt := ext_take x r0
    cases v with
    | d d =>
      cases e
      exact an _ H' y xt rt (RD.mono (w := w') (w' := { w' with m := w'.m.take S.length }) (H' := H') (fun _ f => f) (fun _ _ _ e => e) rv)
    | r i =>
      have e : (if i < S.length then some (PV.r i) else match S1[i]? with
        | some (.lst xs) => (allD xs).map PV.lst
        | _ => none) = some z := e
      split at e
      · rename_i hi
        cases e
        obtain ⟨b, e2, e3⟩ := rv
        exact an _ H' y xt rt ⟨b, by show (w'.m.take S.length)[i]? = some b; rw [List.getElem?_take_of_lt hi]; exact e2, e3⟩
      · rename_i hi
        obtain ⟨a, ea, rfl⟩ := rv
        obtain ⟨cl, es, nf, rc⟩ := r.at ea
        rw [es] at e
        cases cl with
        | dct _ => cases e
        | lst xs =>
          obtain ⟨vs, hH, rvs, _⟩ := rc
          obtain ⟨ds, e1, rfl⟩ := Option.map_eq_some_iff.mp (show (allD xs).map PV.lst = some z from e)
          have rd := allD_rds e1 rvs
          have na : a ∉ w'.m.take S.length := fun q => by
            obtain ⟨j, hj⟩ := List.getElem?_of_mem q
            have hjl := (List.getElem?_eq_some_iff.mp hj).1
            rw [List.length_take] at hjl
            rw [List.getElem?_take_of_lt (by omega)] at hj
            have := nodup_at r.nd hj ea
            omega
          have npv : a ∉ w'.pv := fun q => (r.pvH a q).2.1 (List.mem_of_getElem? ea)
          refine an { w' with m := w'.m.take S.length, fz := fun b => w'.fz b ∨ b = a } H' (.ref a) ⟨fun b f => .inl (xt.fz b f), xt.keep, xt.m, xt.xa, xt.pv, xt.pvH⟩ ⟨rt.len, rt.nd, fun i c e => ?_, fun b f => ?_, fun b f ps => ?_, fun b f => ?_, fun p hp => (rt.tab p hp).mono (w := { w' with m := w'.m.take S.length }) (fun _ f => Or.inl f) (fun _ _ _ e => e) rfl fun z => z.elim (rt.tab p hp).1 fun q => ?_⟩ (.lst ⟨.inr rfl, hH⟩ (RDs.mono (w := w') (fun _ f => Or.inl f) (fun _ _ _ e => e) rd))
          · obtain ⟨b, h1, h2, h3⟩ := rt.cell i c e
            refine ⟨b, h1, fun q => q.elim h2 fun z => na (by rw [← z]; exact List.mem_of_getElem? h1), RC.mono (w := { w' with m := w'.m.take S.length }) (w' := { w' with m := w'.m.take S.length, fz := fun b => w'.fz b ∨ b = a }) (H' := H') (fun _ f => Or.inl f) (fun _ _ _ e => e) (fun _ _ e => e) rfl h3 rfl⟩
          · rcases f with f | rfl
            · exact rt.fzH b f
            · rw [hH]; exact fun z => nomatch z
          · rcases f with f | rfl
            · exact rt.fzT b f ps
            · rw [hH]; exact fun z => nomatch z
          · obtain ⟨h1, h2, h3⟩ := rt.pvH b f
            exact ⟨fun q => q.elim h1 fun z => npv (by rw [← z]; exact f), h2, h3⟩
          · obtain ⟨ps, e⟩ := (rt.tab p hp).some
            rw [q, hH] at e
            cases e
    | x _ _ => cases e
    | s _ => cases e
    | f _ => cases e
    | clo _ _ => cases e
end
theorem start_re {K : PySem.W.Frag} {w : Wd} {H : Hp} {RX : Pm} {N : List Str} {nm : Nat} {ps : List PV} {vs : List V} (hx : w.xa = RX.xa) (hN : N.length = nm) (r : RVs K w H ps vs) (th : ∀ t, w.xa.th = some t → ThR K w H t) : RE K w H RX (startE nm ps) (L2.start N vs) := by
  have hl := r.len
  refine ⟨hx, ?_, fun i p h => ?_, th⟩
  · unfold startE L2.start
    rw [List.length_append, List.length_append, List.length_map, List.length_map, List.length_replicate, List.length_replicate, hl, hN]
  · unfold startE at h
    have hi : i < ps.length := by
      by_cases hi : i < ps.length
      · exact hi
      · rw [List.getElem?_append_right (by simpa using hi), List.getElem?_replicate] at h
        split at h <;> cases h
    rw [List.getElem?_append_left (by simpa using hi), List.getElem?_map] at h
    obtain ⟨q, h1, h2⟩ := Option.map_eq_some_iff.mp h
    cases h2
    obtain ⟨v, h3, h4⟩ := r.get h1
    refine ⟨v, ?_, h4⟩
    unfold L2.start
    rw [List.getElem?_append_left (by rw [List.length_map]; omega), List.getElem?_map, h3]
    rfl
/-- where its lambdas are made -/
def HomeAt (mg : Str → Option Value) (base : Heap) (ea : EA) (s : DS) (cdv : Value) : Prop := ∃ c P, cdv = .ref c ∧ LamX.TabB base mg c P ∧ (P, s.dd.qual ++ ".<locals>." ++ "<lambda>") ∈ ea.tb ∧ ∀ p ∈ ea.tb, p.1 = P → p.2 = s.dd.qual ++ ".<locals>." ++ "<lambda>"
theorem GF.stat {P : Program} {w : World} {K : PySem.W.Frag} {mg : Str → Option Value} {base : Heap} {T : Stat} {ea : EA} {F : Nat → List PV → Sto → Res PV} {n : Nat} (g : GF P w K mg base T ea F n) (N : List Str) (home tak : Bool) : GF P w K mg base { T with N := N, home := home, tak := tak } ea F n :=
  ⟨g.fn, g.fA, g.fB, g.lm, g.con, g.tup, g.bl, g.exA, g.exB, g.exm, g.exv⟩
/-- a def keeps the promise one call deeper -/
theorem fn_step {P : Program} {w : World} {K : PySem.W.Frag} {mg : Str → Option Value} {base : Heap} {T : Stat} {ea : EA} {D : List Def} {L n i : Nat} {s : DS} {f : Addr} {fd : FuncData} (g : GF P w K mg base T ea (run D L n) n) (hd : D[i]? = some s.d)
    (hF : FunD K s.dd.name s.dd.qual s.dd.params s.dd.body s.dd.scope [] [] f fd) (hs : stB T s = true) (hh : s.lam = true → HomeAt mg base ea s fd.code) : FnG P w K mg base (L2.CX P w) (n + 2) f fd s.ps (spM (RXof ea) K s.d.ar (run D L (n + 1) i)) := by
  obtain ⟨_, _, _, _, S, h2, h3, h4⟩ := st_ok hs
  obtain ⟨oc, od, dV, kV, doc, pm, an, cdv, ct, osl, rfl, lk, hcd, _, _⟩ := hF.ex
  refine ⟨fun vs H Q E ⟨_, _, ps, _, _, r, hl, _⟩ => by rw [← r.len, hl, h2], fun A outer s0 H as us vs Q E room gd env0 hbd hv ⟨w1, S1, ps, hx, rs, rv, hl, hp⟩ => ?_⟩
  refine LamX.run_ofS (N := s.N) (ps := s.ps) (us := us) (vs := vs) lk hcd S room env0 hbd hv (by rw [← rv.len, hl, h2]) fun hr => ?_
  refine ⟨tS (RXof ea) K (fun cls d _ H' => E cls d H') (execs (run D L n) L s.d.body), ?_, w1, startE s.d.nm ps, S1, start_re hx h3 rv (fun t z => by rw [hx] at z; cases z), rs, ?_⟩
  · refine sndSs (T := s.st T) (ea := ea) s.d.body false (sc := s.dd.scope) ⟨⟨⟨n, g.stat _ _ _, fun _ => hr⟩, rfl, S.nd, rfl, ?_, ?_, gd, fun _ => ⟨rfl, rfl, fun _ => rfl⟩, rfl, rfl, fun z => hh z, fun z => nomatch z⟩, S.kind, fun _ => ?_, fun _ => rfl, fun _ => rfl, fun _ => rfl, fun _ t z => nomatch z⟩ h4
    · exact takes_of (E := E) rfl rfl rfl (E₁ := fun e' s'' => L2.CX P w outer H s0 E e' s'') rfl
    · have := hr.un
      show (A.deeper _).units + 65 < cLine
      omega
    · exact passes_of (K := fun e s'' => L2.CX P w outer H s0 E e s'') (E₁ := fun e' s'' => L2.CX P w outer H s0 E e' s'') rfl
  · have e0 : run D L (n + 1) i ps S1 = runD (run D L n) L s.d ps S1 := run_at hd
    rw [e0] at hp
    unfold runD at hp
    rw [if_pos hl] at hp
    cases hB : execs (run D L n) L s.d.body (startE s.d.nm ps) S1 with
    | bad => rw [hB] at hp; exact hp.elim
    | rt v S2 =>
      rw [hB] at hp
      exact fun w' H' y x r rv => leave_ok rs x r rv hp
    | nx e S2 =>
      rw [hB] at hp
      exact fun w' H' σ' x r _ => leave_ok (v := PV.none) rs x r (RD.none (K := K) (w := w') (H := H')) hp
    | ex c f e S2 =>
      rw [hB] at hp
      exact fun w' H' σ' cls d x r _ rel => hp { w' with m := w'.m.take S1.length } H' cls d (ext_take x rs) (rs_take r _) rel
/-- a value that is handed back is no lambda, no error -/
theorem frz_low {K : PySem.W.Frag} {w : Wd} {H : Hp} {n : Nat} {S : Sto} {v z : PV} {y : V} {xa : Xa} (h : frz n S v = some z) (r : RV K w H v y) : RV K { w with xa := xa } H v y := by
  cases v with
  | d x => exact RV.low (i := 0) rfl r
  | r i => exact r
  | _ => cases h
theorem ofOpt_noex {α : Type} (o : Option α) (S : Sto) : (Res.ofOpt o S).noex = Res.ofOpt o S := by cases o <;> rfl
/-- a taker's body: tl the lambda's reading -/
theorem gives_ok {T : Stat} {ea : EA} {D : List Def} {L k i : Nat} {s : DS} {X : Cx} {cdv : Value} {g0 : Addr} {e0 : Ex} {q a : Str} {d2 : Env' → Sto → Res PV} (gd : X.A.guards = some []) (g1 : GF X.prog X.w X.K X.mg X.base T ea (run D L k) k) (hd : D[i]? = some s.d) (hs : stB T s = true) (ht : tkB s = true) (hp1 : s.ps = [a])
    (hcl : ∀ e S, run D L k cloN [.clo e0 e] S = d2 e S) : GivesS X s.N s.dd.name s.dd.scope g0 cdv s.dd.body a q k (TTm ea X.K d2 fun e S => run D L (k + 1) i [.clo e0 e] S) := by
  obtain ⟨_, _, _, _, Sc, h2, h3, h4⟩ := st_ok hs
  unfold tkB at ht
  simp only [Bool.and_eq_true, Bool.not_eq_true', decide_eq_true_eq] at ht
  obtain ⟨t1, t2, t3, t4, _⟩ := ht
  intro f c' s00 H0 Q tl room act hco ⟨w, e, τ, S, re, rs, hfz, htl, hp⟩
  have hw : w.xa = (RXof ea).xa := re.xa
  have noC : ∀ {j : Nat} {p : PV}, e[j]? = some (some p) → isClo p = false := fun {j p} hj => by
    cases p with
    | clo u v =>
      obtain ⟨_, _, t, z, _⟩ := re.at_ j _ hj
      rw [hw] at z
      cases z
    | _ => rfl
  let th : Thk := ⟨f, c', q, e0, e, τ⟩
  have thr : ThR X.K { w with xa := { w.xa with th := some th } } H0 th := ⟨⟨hfz _ _ hco, hco⟩, re.len, fun j p hj => by
    obtain ⟨v, z1, z2⟩ := re.at_ j p hj
    exact ⟨v, z1, (RV.xa_any (w := w) (z := ⟨none, none, w.xa.fa, w.xa.tb⟩) (re.noX rfl hj) (.inr (noC hj)) rfl z2 : RV X.K { w with xa := ⟨none, none, w.xa.fa, w.xa.tb⟩ } H0 p v)⟩⟩
  refine ⟨tS { RXof ea with xa := { (RXof ea).xa with th := some th } } X.K WN (execs (run D L k) L s.d.body), ?_, { w with xa := { w.xa with th := some th } }, startE s.d.nm [.clo e0 e], S, start_re (by show ({ w.xa with th := some th } : Xa) = _; rw [hw]) h3 (.cons ⟨th, rfl, rfl, rfl, rfl⟩ .nil) (fun t z => by cases z; exact thr), rs.xa_any rfl, ?_⟩
  · refine sndSs (T := s.st T) (ea := ea) s.d.body false (sc := s.dd.scope) ⟨⟨⟨k, g1.stat _ _ _, fun _ => room⟩, rfl, Sc.nd, rfl, takes_none5, ?_, gd, fun _ => ⟨rfl, rfl, fun z => ?_⟩, rfl, rfl, fun z => ?_, fun z => nomatch z⟩, Sc.kind, fun _ => PassesOwn.never, fun _ => rfl, fun _ => rfl, fun _ => rfl, fun _ t ht W' pn xe tk x p1 p2 hx hv hdb => ?_⟩ h4
    · have := room.un
      show (X.A.deeper _).units + 65 < cLine
      omega
    · rw [show (s.st T).tak = true from t1] at z; cases z
    · rw [show (s.st T).home = false from t2] at z; cases z
    · cases ht
      have ea1 : x = a := by
        have n0 := Sc.pre
        rw [hp1] at n0
        cases hN : s.N with
        | nil => rw [hN] at n0; cases n0
        | cons y r =>
          rw [hN] at n0
          have hx' : s.N[0]? = some x := hx
          rw [hN] at hx'
          cases hx'
          exact (List.cons.inj n0).1
      subst ea1
      refine (act W' pn xe p1 p2 tk).imp fun υ HZ Q2 ⟨w2, e2, S2, re2, rs2, hq⟩ => ?_
      unfold actM at hq
      split at hq
      · rename_i u e1 he
        obtain ⟨v, v1, t, v2, rfl, rfl, rfl⟩ := re2.at_ 0 _ he
        have v3 := v2
        rw [re2.xa] at v3
        cases v3
        obtain ⟨⟨_, hcd⟩, hl, hat⟩ := re2.th _ v2
        refine ⟨v1, hcd, htl _ HZ Q2 ⟨{ w2 with xa := { w2.xa with er := none, th := none } }, e, S2, ⟨?_, hl, hat, fun t z => by cases z⟩, rs2.xa_any rfl, ?_⟩⟩
        · show (⟨none, none, w2.xa.fa, w2.xa.tb⟩ : Xa) = _
          rw [re2.xa] <;> rfl
        · rw [hcl] at hq
          have back : ∀ {w3 : Wd} {H3 : Hp}, Ext { w2 with xa := { w2.xa with er := none, th := none } } HZ w3 H3 → Ext w2 HZ { w3 with xa := w2.xa } H3 := fun {w3 H3} x3 => ⟨x3.fz, x3.keep, x3.m, rfl, x3.pv, x3.pvH⟩
          cases hr : d2 e S2 with
          | bad => rw [hr] at hq; exact hq.elim
          | ok v S3 =>
            rw [hr] at hq
            intro w3 H3 y x3 rs3 rv3
            refine hq { w3 with xa := w2.xa } H3 y (back x3) (rs3.xa_any (by rw [x3.xa])) (rv3.xa_any ?_ (.inr ?_) (by rw [x3.xa]))
            · cases v with
              | x _ _ => obtain ⟨_, z, _⟩ := rv3; rw [x3.xa] at z; cases z
              | _ => rfl
            · cases v with
              | clo _ _ => obtain ⟨_, z, _⟩ := rv3; rw [x3.xa] at z; cases z
              | _ => rfl
          | ex c f S3 =>
            rw [hr] at hq
            exact fun w3 H3 cls dd x3 rs3 rel => hq { w3 with xa := w2.xa } H3 cls dd (back x3) (rs3.xa_any (by rw [x3.xa])) rel
      · exact hq.elim
  · have hp : Post (RXof ea) X.K (RV X.K) w H0 (run D L (k + 1) i [.clo e0 e] S).noex (fun _ _ _ => False) Q := hp
    rw [run_at hd] at hp
    unfold runD at hp
    rw [if_pos (by rw [t4]; rfl), t3] at hp
    have back : ∀ {w3 : Wd} {H3 : Hp}, Ext { w with xa := { w.xa with th := some th } } H0 w3 H3 → Ext w H0 { w3 with xa := w.xa } H3 := fun {w3 H3} x3 => ⟨x3.fz, x3.keep, x3.m, rfl, x3.pv, x3.pvH⟩
    cases hB : execs (run D L k) L s.d.body (startE s.d.nm [.clo e0 e]) S with
    | bad => rw [hB] at hp; exact hp.elim
    | ex c f e S2 => rw [hB] at hp; exact hp.elim
    | rt v S2 =>
      rw [hB] at hp
      intro w' H' y x r rv
      change Post (RXof ea) X.K (RV X.K) w H0 (Res.noex (Res.ofOpt (frz S.length S2 v) (S2.take S.length))) _ Q at hp
      rw [ofOpt_noex] at hp
      obtain ⟨z, hz, _⟩ := hp.opt
      exact leave_ok (keep := false) rs (back x) (r.xa_any (by rw [x.xa])) (frz_low hz rv) hp
    | nx e2 S2 =>
      rw [hB] at hp
      intro w' H' σ' x r _
      change Post (RXof ea) X.K (RV X.K) w H0 (Res.noex (Res.ofOpt (frz S.length S2 .none) (S2.take S.length))) _ Q at hp
      rw [ofOpt_noex] at hp
      exact leave_ok (keep := false) (v := PV.none) rs (back x) (r.xa_any (by rw [x.xa])) (RD.none (K := X.K) (w := { w' with xa := w.xa }) (H := H')) hp
/-- a taker takes a lambda; k deep within, k2 in the lambda's body -/
theorem lam_ok {P : Program} {w : World} {K : PySem.W.Frag} {mg : Str → Option Value} {base : Heap} {T : Stat} {ea : EA} {D : List Def} {L k i : Nat} {s : DS} {f : Addr} {fd : FuncData} (g1 : GF P w K mg base T ea (run D L k) k)
    (g2 : ∀ m, k = m + 1 → GF P w K mg base T ea (run D L m) m) (hD : D.length ≤ cloN) (hd : D[i]? = some s.d) (hF : FunD K s.dd.name s.dd.qual s.dd.params s.dd.body s.dd.scope [] [] f fd) (hb : Binds K fd s.ps []) (hm : mg s.dd.name = some (.ref f)) (hT : T.fns[i]? = some (s.dd.name, s.d.ar)) (hs : stB T s = true) (ht : tkB s = true) :
    LamRule P w K mg base T ea (run D L (k + 1)) (k + 1) i := by
  intro X W e0 x p lpos pos body scope eP ew eK emg eb nd home room gd hg hdx hfn hls hck
  subst eP ew eK emg eb
  have hs' := hs
  have ht' := ht
  obtain ⟨_, q2, _, _, Sc, h2, h3, h4⟩ := st_ok hs
  unfold tkB at ht
  simp only [Bool.and_eq_true, Bool.not_eq_true', decide_eq_true_eq] at ht
  obtain ⟨t1, t2, t3, t4, t5, t6⟩ := ht
  rw [hT] at hfn
  have ex : x = s.dd.name := (congrArg (fun z => (z.getD ("", 0)).1) hfn).symm
  subst ex
  obtain ⟨oc, od, dV, kV, doc, pm, an, cdv, ct, osl, rfl, lk, hcd, _, _⟩ := hF.ex
  rw [q2] at lk hcd hb
  obtain ⟨c, P, c1, c2, c3, c4⟩ := home
  obtain ⟨a, hps⟩ : ∃ a, s.ps = [a] := by
    rw [t4] at h2
    match hp : s.ps, h2 with
    | [a], _ => exact ⟨a, rfl⟩
  have hN0 : s.N[0]? = some a := by
    have n0 := Sc.pre
    rw [hps] at n0
    cases hN : s.N with
    | nil => rw [hN] at n0; cases n0
    | cons y r =>
      rw [hN] at n0
      rw [(List.cons.inj n0).1]
      rfl
  have hda : dbg a = true := List.all_eq_true.mp t5 a (by rw [hps]; exact List.mem_singleton.mpr rfl)
  have hva : Vis s.dd.scope a := visB_ok (List.all_eq_true.mp t6 a (by rw [hps]; exact List.mem_singleton.mpr rfl))
  have Sa : FnScope s.N [a] s.dd.scope := by rw [← hps]; exact Sc
  rw [hps] at hb
  have un : ∀ (B : Around) (env : Env) (j : Nat), Room j (B.deeper env) → (B.deeper env).units + 65 < cLine := fun B env j r => by
    have := r.un
    omega
  obtain ⟨d2, hcl, hsnd⟩ : ∃ d2 : Env' → Sto → Res PV, (∀ e S, run D L k cloN [.clo e0 e] S = d2 e S) ∧ ∀ (B : Around) (out : List Env) (s2 : Shared) (H2 : Hp) (E : XK) (f c' : Addr), Room k (B.deeper (LamX.lamEnv X scope s2.heap.objs.size f c')) → B.guards = some [] →
      PE (LamX.lamCx X B out s2 H2 E scope f c') body (tE (RXof ea) X.K (fun c d _ H'' => E c d H'') d2) := by
    cases k with
    | zero => exact ⟨fun _ _ => .bad, fun _ _ => rfl, fun B out s2 H2 E f c' r _ => ⟨fun _ _ _ _ _ _ ⟨_, _, _, _, _, z⟩ => z.elim⟩⟩
    | succ m =>
      refine ⟨ev (run D L m) L e0, fun e S => run_clo hD, fun B out s2 H2 E f c' r gB => ?_⟩
      refine (snd (X := LamX.lamCx X B out s2 H2 E scope f c') (T := { T with N := X.N, home := false, tak := false }) (ea := ea) e0 false false (sc := scope) ⟨⟨m, (g2 m rfl).stat _ _ _, fun _ => r⟩, rfl, nd, rfl, ?_, un _ _ _ r, gB, fun _ => ⟨rfl, rfl, fun _ => rfl⟩, rfl, rfl, (fun z => nomatch z), fun z => nomatch z⟩ hck).1 rfl
      exact takes_of (E := E) rfl rfl rfl (E₁ := fun e' s'' => L2.CX X.prog X.w out H2 s2 E e' s'') rfl
  exact d_lcall (gc := fun e S => run D L (k + 1) i [.clo e0 e] S) hg hm hF.kp lk hcd hb Sa hN0 hva (gives_ok gd g1 hd hs' ht' hps hcl) c2 c1 c3 c4 room gd (LamX.lamS_by hls) rfl (fun _ _ _ _ _ => rfl) hsnd (dbg_ok hdx).1 (dbg_ok hda).1 (dbg_ok hda).2
/-- all the defs, n calls deep -/
theorem gf_all {P : Program} {w : World} {K : PySem.W.Frag} {mg : Str → Option Value} {base : Heap} {T : Stat} {ea : EA} {D : List DS} {L : Nat} (hD : D.length ≤ cloN) (hT : T.fns = D.map fun s => (s.dd.name, s.d.ar))
    (hF : ∀ s ∈ D, ∃ f fd, mg s.dd.name = some (.ref f) ∧ FunD K s.dd.name s.dd.qual s.dd.params s.dd.body s.dd.scope [] [] f fd ∧ Binds K fd s.ps [] ∧ (s.lam = true → HomeAt mg base ea s fd.code)) (hs : ∀ s ∈ D, stB T s = true)
    (hk : ∀ i, i ∈ T.tks → ∃ s, D[i]? = some s ∧ tkB s = true)
    (fA : ∀ i x ar, T.fns[i]? = some (x, ar) → ∃ fa, ea.fa i = some fa ∧ mg x = some (.ref fa)) (fB : ∀ i a, ea.fa i = some a → ∃ x ar, T.fns[i]? = some (x, ar))
    (con : ∀ x c, (x, c) ∈ T.cons → ∃ u v, mg x = some u ∧ RelV v u ∧ ∀ w H, RD K w H c v) (tup : ∀ x cs, (x, PyData.tuple cs) ∈ T.cons → ∃ l, mg x = some (.ref l) ∧ KTup K l cs) (bl : ∀ x, x ∈ T.bl → mg x = none)
    (exA : ∀ i x, T.exs[i]? = some x → ∃ C B newId initId bmB, ea i = some C ∧ mg x = some (.ref C) ∧ PySem.W.keepIn K (.ref C) = true ∧ ExcBaseFacts B newId initId bmB ∧ PySem.W.excIn K C bmB newId = true)
    (exB : ∀ k C, ea k = some C → ExcC K C ∧ PySem.W.typeIn K (.ref C) = some (.type "type"))
    (exm : ∀ k C i D, ea k = some C → ea i = some D → PySem.W.exmOne K (.ref C) (.ref D) = some (k == i || i == 0) ∧ PySem.W.kitOne K (.ref C) (.ref D) = some (k == i || i == 0))
    (exv : ∀ k C, ea k = some C → PySem.W.kitOne K (.ref C) (.type "ValueError") = some true) : ∀ n, GF P w K mg base T ea (run (D.map (·.d)) L n) n := by
  have at_ : ∀ {i x ar}, T.fns[i]? = some (x, ar) → ∃ s : DS, D[i]? = some s ∧ x = s.dd.name ∧ ar = s.d.ar := fun {i x ar} h => by
    rw [hT, List.getElem?_map] at h
    obtain ⟨s, h1, h2⟩ := Option.map_eq_some_iff.mp h
    cases h2
    exact ⟨s, h1, rfl, rfl⟩
  have hd : ∀ {i : Nat} {s : DS}, D[i]? = some s → (D.map (·.d))[i]? = some s.d := fun {i s} h1 => by rw [List.getElem?_map, h1]; rfl
  have low : ∀ n, (∀ m, m < n → GF P w K mg base T ea (run (D.map (·.d)) L m) m) → GF P w K mg base T ea (run (D.map (·.d)) L n) n := by
    intro n ih
    refine ⟨fun i x ar h => ?_, fA, fB, fun i hi => ?_, con, tup, bl, exA, exB, exm, exv⟩
    · obtain ⟨s, h1, rfl, rfl⟩ := at_ h
      obtain ⟨f, fd, m1, m2, m3, m4⟩ := hF s (List.mem_of_getElem? h1)
      cases n with
      | zero => exact ⟨f, fd, s.ps, m1, m2.kp, m3, ⟨fun vs H Q E ⟨_, _, _, _, _, _, _, hp⟩ => hp.elim, fun B out s0 H as us vs Q E hr gd he hb hv ⟨_, _, _, _, _, _, _, hp⟩ => hp.elim⟩, fun vs S h => absurd rfl h⟩
      | succ n => exact ⟨f, fd, s.ps, m1, m2.kp, m3, fn_step (ih n (Nat.lt_succ_self n)) (hd h1) m2 (hs s (List.mem_of_getElem? h1)) m4, fun vs S h => run_len (hd h1) h⟩
    · obtain ⟨s, h1, ht⟩ := hk i hi
      obtain ⟨f, fd, m1, m2, m3, m4⟩ := hF s (List.mem_of_getElem? h1)
      cases n with
      | zero => exact fun X W e0 x p lpos pos body scope _ _ _ _ _ _ _ _ _ _ _ _ _ _ => ⟨fun _ _ _ _ _ _ ⟨_, _, _, _, _, z⟩ => z.elim⟩
      | succ n => exact lam_ok (ih n (Nat.lt_succ_self n)) (fun m e => ih m (by omega)) (by rw [List.length_map]; exact hD) (hd h1) m2 m3 m1 (by rw [hT, List.getElem?_map, h1]; rfl) (hs s (List.mem_of_getElem? h1)) ht
  intro n
  induction n using Nat.strongRecOn with
  | ind n ih => exact low n ih
end Mn

end

section
set_option Elab.async false
set_option linter.all false
set_option maxRecDepth 100000
set_option maxHeartbeats 1000000
/-! MnEnd: the end of a law whose def keeps its promise where no repr is under way. -/
namespace Mn
open PySem PySem.Spec PyProof.Rows L2
/-- what is tracked at first: the tables, the script where it is not written -/
def endH (K : PySem.W.Frag) (Tb : List Addr) (a : Addr) (ob : Obj) (us : List V) : Hp := fun b => if b ∈ Tb then some (.tbl #[]) else if b = a ∧ K.lookup a = none then some (.frz ob (.lst us)) else none
section
variable {P : Program} {w : World} {K : PySem.W.Frag} {mg mb : Str → Option Value} {k : Nat} {fa a : Addr} {Cs : List (Addr × Addr)} {fd : FuncData} {x : Str} {sp : Sp} {S1 : Shared} {vals : List Value} {ns : List Int}
theorem endG (KX : K.In S1.heap) (gns : S1.heap.Ns mainGlobals mg) (bns : S1.heap.Ns builtinsNs mb) (bok : ∀ x : Str, x ≠ "__name__" → mb x = bootBuiltins x) (nl : S1.heap.NoLimit) (ng : S1.gens = #[])
    (tE : ∀ p ∈ Cs, S1.heap.get? p.2 = some { cls := .none, data := .fields #[] }) (tN : ∀ p ∈ Cs, K.lookup p.2 = none) (tC : ∀ p ∈ Cs, PySem.W.CodeHd S1.heap p.1 p.2)
    (bmain : ∃ (bm : Addr) (ob : Obj), mg "__builtins__" = some (.ref bm) ∧ bm ≠ builtinsNs ∧ S1.heap.get? bm = some ob ∧ ob.cls = .type "module" ∧ ob.dict = some builtinsNs ∧ ob.data = .plain)
    (hobj : S1.heap.get? a = some { cls := .type "list", data := .seq vals.toArray }) (hi : IntsAre vals ns) (hl : ns.length ≤ sizeLine) (room : Room k callerA)
    (F : ∀ base : Heap, K.In base → base.Ns mainGlobals mg → (∀ p ∈ Cs, LamX.TabB base mg p.1 p.2) → FnG P w K mg base CX0 k fa fd [x] sp) (hbind : ∀ (s : Shared) (u : Value), BindsTo s fd ⟨[u], []⟩ [(x, u)])
    (hsp : ∀ H : Hp, (∀ p ∈ Cs, H p.2 = some (.tbl #[])) → SqL K H a (ns.map V.int) → sp [.ref a] H (fun v _ => v = .bl true) fun _ _ _ => False) :
    codeAny (model P w) callerA (.call (.ref fa) ⟨[.ref a], []⟩) (fun r s' => r = .ok (.ret (.bool true)) ∧ OldK S1.heap s'.heap ∧ s'.os = S1.os ∧ AllBare s'.gens) S1 := by
  let Tb : List Addr := Cs.map (·.2)
  let ob : Obj := { cls := .type "list", data := .seq vals.toArray }
  let H : Hp := endH K Tb a ob (ns.map V.int)
  have rv := vals_ints hi
  have inT : ∀ b, b ∈ Tb → ∃ p ∈ Cs, p.2 = b := fun b hb => List.mem_map.mp hb
  have ofT : ∀ p ∈ Cs, p.2 ∈ Tb := fun p hp => List.mem_map.mpr ⟨p, hp, rfl⟩
  have objT : ∀ b, b ∈ Tb → S1.heap.get? b = some { cls := .none, data := .fields #[] } := fun b hb => by
    obtain ⟨p, hp, e⟩ := inT b hb
    rw [← e]; exact tE p hp
  have aT : a ∉ Tb := fun z => by
    have q := objT a z
    rw [hobj] at q
    have q2 := congrArg Obj.data (Option.some.inj q)
    cases q2
  have hT : ∀ b, b ∈ Tb → H b = some (.tbl #[]) := fun b hb => if_pos hb
  have hS : K.lookup a = none → H a = some (.frz ob (.lst (ns.map V.int))) := fun e => (if_neg aT).trans (if_pos ⟨rfl, e⟩)
  have hN : ∀ b, b ∉ Tb → (b ≠ a ∨ K.lookup a ≠ none) → H b = none := fun b h1 h2 => (if_neg h1).trans (if_neg fun z => h2.elim (fun q => q z.1) fun q => q z.2)
  -- an object that is neither a list nor an empty table is untracked
  have un : ∀ {b : Addr} {o : Obj}, S1.heap.get? b = some o → (∀ xs n, o.data ≠ .seq xs n) → o.data ≠ .fields #[] → H b = none := fun {b o} e h1 h2 => by
    refine hN b (fun z => ?_) (.inl fun z => ?_)
    · rw [objT b z] at e; cases e; exact h2 rfl
    · rw [z, hobj] at e; cases e; exact h1 _ _ rfl
  have seen : ∀ {b : Addr} {o : Obj}, S1.heap.get? b = some o → (∀ xs n, o.data ≠ .seq xs n) → o.data ≠ .fields #[] → (hidT S1.heap H).get? b = some o := fun e h1 h2 => hidT_get e (un e h1 h2)
  have ns_ : ∀ {b : Addr} {m : Str → Option Value}, S1.heap.Ns b m → (hidT S1.heap H).Ns b m := fun {b m} ⟨o, es, ep, e, d, r⟩ => ⟨o, es, ep, seen e (fun xs n z => by rw [d] at z; cases z) (fun z => by rw [d] at z; cases z), d, r⟩
  have KB : K.In (hidT S1.heap H) := fun b o e => hidT_get (KX b o e) (hN b (fun z => by
    obtain ⟨p, hp, ep⟩ := inT b z
    rw [← ep, tN p hp] at e
    cases e) (by
    by_cases z : b = a
    · exact .inr fun q => by rw [z, q] at e; cases e
    · exact .inl z))
  have hM : L2.Mod K mg (hidT S1.heap H) := ⟨KB, ns_ gns, ⟨mb, ns_ bns, bok⟩, let ⟨mc, q1, q2⟩ := nl; ⟨mc, ns_ q1, q2⟩⟩
  have TB : ∀ p ∈ Cs, LamX.TabB (hidT S1.heap H) mg p.1 p.2 := fun p hp => by
    refine ⟨?_, ?_, fun z => ?_⟩
    · obtain ⟨o, us, file, tf, flags, tg, inF, text, tt, e1, r1, r2, r3, r⟩ := tC p hp
      refine ⟨o, us, file, tf, flags, tg, inF, text, tt, seen e1 (fun xs n z => by rw [r2] at z; cases z) (fun z => ?_), r1, r2, r3, r⟩
      rw [r2] at z
      cases z
      simp at r3
    · obtain ⟨bm, o, b1, b2, b3, b4, b5, b6⟩ := bmain
      refine ⟨bm, o, b1, b2, fun q => ?_, fun q => ?_, seen b3 (fun xs n z => by rw [b6] at z; cases z) (fun z => by rw [b6] at z; cases z), b4, b5, b6⟩
      · obtain ⟨o2, es, ep, e, d, _⟩ := gns
        rw [q, e] at b3
        cases b3
        rw [d] at b6
        cases b6
      · rw [q, tE p hp] at b3
        cases b3
        cases b6
    · obtain ⟨o2, es, ep, e, d, _⟩ := gns
      rw [z, tE p hp] at e
      cases e
      cases d
  have hok : HOk P w H S1.heap := fun b u e => by
    by_cases z : b ∈ Tb
    · rw [hT b z] at e
      cases e
      exact objT b z
    · by_cases z2 : b = a ∧ K.lookup a = none
      · obtain ⟨rfl, z3⟩ := z2
        rw [hS z3] at e
        cases e
        exact ⟨hobj, by rw [List.length_map]; exact hl, vals, _, rv, hobj⟩
      · rw [show H b = none from (if_neg z).trans (if_neg z2)] at e
        cases e
  have sq : SqL K H a (ns.map V.int) := by
    cases hk : K.lookup a with
    | none => exact .inl (.inr ⟨ob, hS hk⟩)
    | some o =>
      have e := KX a o hk
      rw [hobj] at e
      cases e
      exact .inr ⟨_, vals.toArray, _, hk, rfl, rfl, rfl, by rw [List.size_toArray, hi.length]; exact hl, by simpa using rv⟩
  have env0 : Env0 P w K mg (hidT S1.heap H) callerA [] S1 H := ⟨rfl, hM, fun b o e => of_hidT e, Nat.le_of_eq (hidT_size _ _), trivial, fun b hb => absurd (show b ∈ ([] : List Addr) from hb) (by simp), hok, .of_eq ng⟩
  refine codeAny_mono ((F _ KB (ns_ gns) TB).run callerA [] S1 H ⟨[.ref a], []⟩ [.ref a] [.ref a] _ _ room rfl env0 (hbind S1 (.ref a)) (.cons rfl .nil) (hsp H (fun p hp => hT _ (ofT p hp)) sq)) fun r s' h => ?_
  cases r with
  | error e => exact (show False from h).elim
  | ok fl =>
    cases fl with
    | next => exact False.elim h
    | brk => exact False.elim h
    | cont => exact False.elim h
    | ret u =>
      obtain ⟨v, H', os, bare, uu, hok', r', q⟩ := h
      have q : v = .bl true := q
      subst q
      obtain rfl : u = Value.bool true := r'
      have kept : ∀ b o, b ∉ Tb → S1.heap.get? b = some o → s'.heap.get? b = some o := fun b o nb e => by
        by_cases z : b = a ∧ K.lookup a = none
        · obtain ⟨rfl, z3⟩ := z
          have f1 := uu.frzs b ob _ (hS z3)
          rw [hobj] at e
          cases e
          exact (hok' b _ f1).1
        · exact uu.keep b o e ((if_neg nb).trans (if_neg z)) (fun z => absurd (show b ∈ ([] : List Addr) from z) (by simp)) (by simp)
      have grown : ∀ b, b ∈ Tb → ∃ more : Array Value, s'.heap.get? b = some { cls := .none, data := .fields more } := fun b hb => by
        obtain ⟨more, z⟩ := uu.tbls b #[] (hT b hb)
        exact ⟨_, hok' b _ z⟩
      refine ⟨rfl, ⟨fun b o e => ?_, fun b o e => ?_⟩, os, bare⟩
      · by_cases hb : b ∈ Tb
        · obtain ⟨more, hm⟩ := grown b hb
          obtain ⟨p, hp, ep⟩ := inT b hb
          rw [objT b hb] at e
          cases e
          subst ep
          exact .inr (.inl ⟨((tC p hp).tab (tE p hp)).isCodeTable, rfl, #[], more, rfl, by rw [Array.empty_append]; exact hm⟩)
        · exact .inl (kept b o hb e)
      · by_cases hb : b ∈ Tb
        · obtain ⟨more, hm⟩ := grown b hb
          exact ⟨_, hm⟩
        · exact ⟨o, kept b o hb e⟩
end
end Mn

end

section
set_option Elab.async false
set_option linter.all false
set_option maxRecDepth 100000
set_option maxHeartbeats 1000000
/-! MnHead: what the written part says of the names; the law's promise. -/
namespace Mn
open PySem PySem.Spec PyProof.Rows L2
mutual
/-- a constant as it stands in the written part -/
def rdB (K : PySem.W.Frag) : PyData → Value → Bool
  | .none, u => match u with
    | .none => true
    | _ => false
  | .bool b, u => match u with
    | .bool c => decide (b = c)
    | _ => false
  | .int i, u => match u with
    | .int j _ => decide (i = j)
    | _ => false
  | .str x, u => match u with
    | .str y _ => decide (x = y)
    | _ => false
  | .tuple xs, u => match u with
    | .ref a => (match K.lookup a with
      | some ⟨.type c, none, .seq its _, _⟩ => decide (c = "tuple") && (decide (its.size ≤ sizeLine) && rdsB K xs its.toList)
      | _ => false)
    | _ => false
  | .list _, _ => false
  | .dict _, _ => false
def rdsB (K : PySem.W.Frag) : List PyData → List Value → Bool
  | [], us => us.isEmpty
  | x :: xs, us => match us with
    | u :: us => rdB K x u && rdsB K xs us
    | [] => false
end
section
variable {K : PySem.W.Frag}
mutual
theorem rdB_ok : ∀ (d : PyData) {u : Value}, rdB K d u = true → ∃ v, RelV v u ∧ ∀ w H, RD K w H d v
  | .none, u, h => by
    unfold rdB at h
    split at h
    · exact ⟨.non, rfl, fun _ _ => .none⟩
    · cases h
  | .bool b, u, h => by
    unfold rdB at h
    split at h
    · have e := of_decide_eq_true h
      subst e
      exact ⟨.bl b, rfl, fun _ _ => .bool b⟩
    · cases h
  | .int i, u, h => by
    unfold rdB at h
    split at h
    · have e := of_decide_eq_true h
      subst e
      exact ⟨.int i, ⟨_, rfl⟩, fun _ _ => .int i⟩
    · cases h
  | .str x, u, h => by
    unfold rdB at h
    split at h
    · have e := of_decide_eq_true h
      subst e
      exact ⟨.str x, ⟨_, rfl⟩, fun _ _ => .str x⟩
    · cases h
  | .tuple xs, u, h => by
    obtain ⟨l, rfl, kt⟩ := rdB_tup xs h
    exact ⟨.ref l, rfl, fun w H => kt.rd w H⟩
  | .list _, u, h => by unfold rdB at h; cases h
  | .dict _, u, h => by unfold rdB at h; cases h
theorem rdB_tup : ∀ (xs : List PyData) {u : Value}, rdB K (.tuple xs) u = true → ∃ l, u = .ref l ∧ KTup K l xs
  | xs, u, h => by
    unfold rdB at h
    split at h
    · rename_i a
      split at h
      · rename_i c its n sl q
        simp only [Bool.and_eq_true, decide_eq_true_eq] at h
        obtain ⟨h1, h2, h3⟩ := h
        obtain ⟨vs, r, rd⟩ := rdsB_ok xs h3
        exact ⟨a, rfl, _, its, n, vs, q, congrArg Value.type h1, rfl, rfl, h2, r, rd⟩
      · cases h
    · cases h
theorem rdsB_ok : ∀ (xs : List PyData) {us : List Value}, rdsB K xs us = true → ∃ vs, Vals vs us ∧ ∀ w H, RDs K w H xs vs
  | [], us, h => by
    unfold rdsB at h
    cases us with
    | nil => exact ⟨[], .nil, fun _ _ => .nil⟩
    | cons _ _ => cases h
  | x :: xs, us, h => by
    unfold rdsB at h
    split at h
    · obtain ⟨h1, h2⟩ := Bool.and_eq_true_iff.mp h
      obtain ⟨v, r1, d1⟩ := rdB_ok x h1
      obtain ⟨vs, r2, d2⟩ := rdsB_ok xs h2
      exact ⟨v :: vs, .cons r1 r2, fun w H => .cons (d1 w H) (d2 w H)⟩
    · cases h
end
end
/-! ### the facts -/
def conB (K : PySem.W.Frag) (x : Str) (c : PyData) : Bool := match PySem.W.nsIn K mainGlobals x with
  | some (some u) => rdB K c u
  | _ => false
def excCB (K : PySem.W.Frag) (D : Addr) : Bool := He.eqO (PySem.W.findIn K (.ref D) "__getattribute__") (some (some (.builtin "BaseException.__getattribute__"))) && (He.eqO (PySem.W.findIn K (.ref D) "__getattr__") (some none) && (decide (PySem.W.subIn K (.ref D) (.type "BaseException") = some true) &&
  (PySem.W.hasDictIn K D && (He.eqO (PySem.W.findIn K (.ref D) "__class__") (some (some (.builtin "object.__class__"))) && (He.eqO (PySem.W.specialIn K (.builtin "object.__class__") "__get__") (some (some (.builtin "getset_descriptor.__get__"))) &&
  (decide (PySem.W.takesIn K (.builtin "object.__class__") = some true) && decide (PySem.W.mroIn K D (.type "object") = some true)))))))
theorem excCB_ok {K : PySem.W.Frag} {D : Addr} (h : excCB K D = true) : ExcC K D := by
  unfold excCB at h
  simp only [Bool.and_eq_true, decide_eq_true_eq] at h
  obtain ⟨h1, h2, h3, h4, h5, h6, h7, h8⟩ := h
  exact ⟨He.eqO_ok h1, He.eqO_ok h2, h3, h4, He.eqO_ok h5, He.eqO_ok h6, h7, h8⟩
def exOneB (K : PySem.W.Frag) (x : Str) : Bool := (He.Fa.glo x).ok K && ((He.Fa.exc x).ok K && (excCB K (He.ga K x) && decide (PySem.W.kitOne K (.ref (He.ga K x)) (.type "ValueError") = some true)))
def exTwoB (K : PySem.W.Frag) (k i : Nat) (x y : Str) : Bool := decide (PySem.W.exmOne K (.ref (He.ga K x)) (.ref (He.ga K y)) = some (k == i || i == 0)) && decide (PySem.W.kitOne K (.ref (He.ga K x)) (.ref (He.ga K y)) = some (k == i || i == 0))
def exsB (K : PySem.W.Frag) (xs : List Str) : Bool := xs.all (exOneB K) && (List.range xs.length).all fun k => (List.range xs.length).all fun i => match xs[k]?, xs[i]? with
  | some x, some y => exTwoB K k i x y
  | _, _ => true
/-- all that is looked at of the written part -/
def factsB (T : Stat) (K : PySem.W.Frag) : Bool := (T.cons.all fun p => conB K p.1 p.2) && (T.bl.all (fun x => (He.Fa.free x).ok K) && (exsB K T.exs && T.fns.all fun p => (He.Fa.glo p.1).ok K))
/-- the tables of the defs in which lambdas are made -/
def tbOf (D : List DS) (K : PySem.W.Frag) : List (Addr × Str) := (D.filter (·.lam)).map fun s => ((He.cT K (s.dd.name, none)).2, s.dd.qual ++ ".<locals>." ++ "<lambda>")
def tfOf (D : List DS) : List He.Defn := (D.filter (·.lam)).map fun s => (s.dd.name, none)
def tbB (D : List DS) (K : PySem.W.Frag) : Bool := (tbOf D K).all fun p => (tbOf D K).all fun q => !decide (p.1 = q.1) || decide (p.2 = q.2)
def factsD (D : List DS) (T : Stat) (K : PySem.W.Frag) : Bool := factsB T K && tbB D K
def eaOf (D : List DS) (T : Stat) (K : PySem.W.Frag) : EA := ⟨fun i => (T.exs[i]?).map (He.ga K), fun i => (T.fns[i]?).map fun p => He.ga K p.1, tbOf D K⟩
/-- the takers -/
def tksB (D : List DS) (T : Stat) : Bool := T.tks.all fun i => match D[i]? with
  | some s => tkB s
  | none => false
section
variable {T : Stat} {K : PySem.W.Frag} {h : Heap} {mg : Str → Option Value} {w : World} {D : List DS}
theorem gf_of {P : Program} {base : Heap} {L : Nat} (X : K.In h) (G : h.Ns mainGlobals mg) (c : He.SaysX [] (D.map (·.dd)) [] (tfOf D) (factsD D T) w h K) (hD : D.length ≤ cloN) (hT : T.fns = D.map fun s => (s.dd.name, s.d.ar)) (hs : ∀ s ∈ D, stB T s = true) (hb : ∀ s ∈ D, BindOk s) (hk : tksB D T = true)
    (TB : ∀ p ∈ (tfOf D).map (He.cT K), LamX.TabB base mg p.1 p.2) : ∀ n, GF P w K mg base T (eaOf D T K) (run (D.map (·.d)) L n) n := by
  have cm := c.more
  unfold factsD at cm
  rw [Bool.and_eq_true] at cm
  obtain ⟨cm, ctb⟩ := cm
  unfold factsB at cm
  simp only [Bool.and_eq_true] at cm
  obtain ⟨c1, c2, c3, c4⟩ := cm
  unfold exsB at c3
  rw [Bool.and_eq_true] at c3
  obtain ⟨c5, c6⟩ := c3
  have hgl : ∀ s ∈ D, (He.Fa.glo s.dd.name).ok K = true := fun s hsm => List.all_eq_true.mp c4 (s.dd.name, s.d.ar) (by rw [hT]; exact List.mem_map_of_mem (f := fun s : DS => (s.dd.name, s.d.ar)) hsm)
  have exa : ∀ k C, eaOf D T K k = some C → ∃ x, T.exs[k]? = some x ∧ C = He.ga K x ∧ exOneB K x = true := fun k C e => by
    obtain ⟨x, e1, e2⟩ := Option.map_eq_some_iff.mp e
    exact ⟨x, e1, e2.symm, List.all_eq_true.mp c5 x (List.mem_of_getElem? e1)⟩
  have one : ∀ x, exOneB K x = true → (He.Fa.glo x).ok K = true ∧ (He.Fa.exc x).ok K = true ∧ excCB K (He.ga K x) = true ∧ PySem.W.kitOne K (.ref (He.ga K x)) (.type "ValueError") = some true := fun x e => by
    unfold exOneB at e
    simp only [Bool.and_eq_true, decide_eq_true_eq] at e
    exact e
  refine gf_all hD hT (fun s hsm => ?_) hs (fun i hi => ?_) (fun i x ar e => ?_) (fun i a e => ?_) (fun x d hm => ?_) (fun x cs hm => ?_) (fun x hm => ?_) (fun i x e => ?_) (fun k C e => ?_) (fun k C i D e1 e2 => ?_) (fun k C e => ?_)
  · obtain ⟨s1, s1q, s2, s3, _⟩ := st_ok (hs s hsm)
    obtain ⟨fd, F⟩ := c.t.d.defs (List.mem_map_of_mem (f := fun s : DS => s.dd) hsm)
    have e1 : s.dd.dvs K = [] := by unfold He.DefD.dvs; rw [s2]; rfl
    have e2 : s.dd.kws K = [] := by unfold He.DefD.kws; rw [s3]; rfl
    have e3 : He.fAd K s.dd.at_ = He.ga K s.dd.name := by rw [s1]; rfl
    rw [e1, e2, e3] at F
    refine ⟨_, fd, He.glo_ok X G (hgl s hsm), F, FunD.bindsN F (hb s hsm), fun hl => ?_⟩
    obtain ⟨oc, od, dV, kV, doc, pm, an, cdv, ct, osl, e, lk, hcd, _, _⟩ := F.ex
    obtain ⟨cc, e4⟩ := He.codeIn_ref hcd
    subst e
    have hco : He.codeOf K (s.dd.name, none) = cc := He.codeOf_eq (p := (s.dd.name, none)) lk e4
    have hin : s ∈ D.filter (·.lam) := List.mem_filter.mpr ⟨hsm, hl⟩
    have hin2 : He.cT K (s.dd.name, none) ∈ (tfOf D).map (He.cT K) := List.mem_map_of_mem (f := He.cT K) (List.mem_map_of_mem (f := fun s : DS => ((s.dd.name, none) : He.Defn)) hin)
    have hin3 : ((He.cT K (s.dd.name, none)).2, s.dd.qual ++ ".<locals>." ++ "<lambda>") ∈ tbOf D K := List.mem_map_of_mem (f := fun s : DS => ((He.cT K (s.dd.name, none)).2, s.dd.qual ++ ".<locals>." ++ "<lambda>")) hin
    refine ⟨cc, (He.cT K (s.dd.name, none)).2, e4, ?_, hin3, fun p hp ep => ?_⟩
    · have z := TB _ hin2
      rw [show (He.cT K (s.dd.name, none)).1 = cc from hco] at z
      exact z
    · have z := List.all_eq_true.mp (List.all_eq_true.mp ctb p hp) _ hin3
      rw [Bool.or_eq_true, Bool.not_eq_true', decide_eq_false_iff_not, decide_eq_true_eq] at z
      exact z.elim (fun q => absurd ep q) id
  · have z := List.all_eq_true.mp hk i hi
    split at z
    · rename_i s hs1
      exact ⟨s, hs1, z⟩
    · cases z
  · have hx : (x, ar) ∈ D.map fun s : DS => (s.dd.name, s.d.ar) := by rw [← hT]; exact List.mem_of_getElem? e
    obtain ⟨s, hsm, es⟩ := List.mem_map.mp hx
    cases es
    exact ⟨He.ga K s.dd.name, by show (T.fns[i]?).map _ = _; rw [e]; rfl, He.glo_ok X G (hgl s hsm)⟩
  · obtain ⟨p, e1, _⟩ := Option.map_eq_some_iff.mp (show (T.fns[i]?).map (fun p => He.ga K p.1) = some a from e)
    exact ⟨p.1, p.2, e1⟩
  · have q := List.all_eq_true.mp c1 _ hm
    unfold conB at q
    split at q
    · rename_i u hu
      obtain ⟨v, r, rd⟩ := rdB_ok d q
      exact ⟨u, v, PySem.W.mg_of X G hu, r, rd⟩
    · cases q
  · have q := List.all_eq_true.mp c1 _ hm
    unfold conB at q
    split at q
    · rename_i u hu
      obtain ⟨l, rfl, kt⟩ := rdB_tup cs q
      exact ⟨l, PySem.W.mg_of X G hu, kt⟩
    · cases q
  · exact He.free_ok X G (List.all_eq_true.mp c2 x hm)
  · obtain ⟨y, e1, e2, e3⟩ := exa i (He.ga K x) (by show (T.exs[i]?).map (He.ga K) = _; rw [e]; rfl)
    rw [e] at e1
    cases e1
    obtain ⟨o1, o2, o3, o4⟩ := one x e3
    obtain ⟨p1, p2, p3, p4⟩ := He.exc_ok o2
    exact ⟨He.ga K x, _, _, _, _, by show (T.exs[i]?).map (He.ga K) = _; rw [e]; rfl, He.glo_ok X G o1, p2, PySem.F.excBase_ValueError, p1⟩
  · obtain ⟨x, e1, rfl, e3⟩ := exa k C e
    obtain ⟨o1, o2, o3, o4⟩ := one x e3
    exact ⟨excCB_ok o3, (He.exc_ok o2).2.2.2⟩
  · obtain ⟨x, f1, rfl, _⟩ := exa k C e1
    obtain ⟨y, f2, rfl, _⟩ := exa i D e2
    have q := List.all_eq_true.mp c6 k (List.mem_range.mpr (List.getElem?_eq_some_iff.mp f1).1)
    have q2 := List.all_eq_true.mp q i (List.mem_range.mpr (List.getElem?_eq_some_iff.mp f2).1)
    rw [f1, f2] at q2
    have q3 : exTwoB K k i x y = true := q2
    unfold exTwoB at q3
    simp only [Bool.and_eq_true, decide_eq_true_eq] at q3
    exact q3
  · obtain ⟨x, f1, rfl, f3⟩ := exa k C e
    exact (one x f3).2.2.2
/-- the law's promise, of a script -/
theorem law_sp {ea : EA} {g : List PV → Sto → Res PV} {H : Hp} {a : Addr} {ns : List Int} {S' : Sto} (hS : SqL K H a (ns.map V.int)) (hH : ∀ p ∈ ea.tb, H p.1 = some (.tbl #[])) (hr : g [.s ns] [] = .ok (PV.bool true) S') : spM (RXof ea) K 1 g [.ref a] H (fun v _ => v = .bl true) (fun _ _ _ => False) := by
  have fin : ∀ (w : Wd), w.xa = (RXof ea).xa → RS K w H [] → ScrAt K w H a (ns.map V.int) → spM (RXof ea) K 1 g [.ref a] H (fun v _ => v = .bl true) (fun _ _ _ => False) := fun w hx rs sc => by
    refine ⟨w, [], [.s ns], hx, rs, .cons ⟨a, rfl, sc⟩ .nil, rfl, ?_⟩
    rw [hr]
    intro w' H' x _ _ rv
    cases rv
    rfl
  have tab : ∀ (fz : Addr → Prop) (p : Addr × Str), (¬ fz p.1) → p ∈ ea.tb → TabF { fz := fz, m := [], xa := (RXof ea).xa, pv := [] } H p.1 p.2 := fun fz p nf hp => ⟨nf, #[], hH p hp, True.intro, fun pos cv e => by
    have e : codeAmong pos [] = some cv := e
    simp [codeAmong] at e⟩
  rcases hS with hS | hS
  · have nt : ∀ ps, H a ≠ some (.tbl ps) := fun ps q => by
      rcases hS with z | ⟨o, z⟩ <;> (rw [z] at q; cases q)
    refine fin { fz := fun b => b = a, m := [], xa := (RXof ea).xa, pv := [] } rfl ⟨rfl, List.nodup_nil, fun i c e => by simp at e, fun b f => ?_, fun b f ps => ?_, (fun b f => by cases f), fun p hp => tab _ p (fun z => nt #[] (by rw [← show p.1 = a from z]; exact hH p hp)) hp⟩ (.inl ⟨rfl, hS⟩)
    · rw [show b = a from f]
      rcases hS with z | ⟨o, z⟩ <;> (rw [z]; exact fun q => nomatch q)
    · rw [show b = a from f]
      exact nt ps
  · exact fin { fz := fun _ => False, m := [], xa := (RXof ea).xa, pv := [] } rfl ⟨rfl, List.nodup_nil, fun i c e => by simp at e, fun b f => f.elim, fun b f => f.elim, (fun b f => by cases f), fun p hp => tab _ p id hp⟩ (.inr hS)
/-- the law's def -/
theorem law_fn {P : Program} {L n li : Nat} {s : DS} (X : K.In h) (G : h.Ns mainGlobals mg) (c : He.SaysX [] (D.map (·.dd)) [] (tfOf D) (factsD D T) w h K) (hD : D.length ≤ cloN) (hT : T.fns = D.map fun s => (s.dd.name, s.d.ar)) (hs : ∀ s ∈ D, stB T s = true) (hb : ∀ s ∈ D, BindOk s) (hk : tksB D T = true)
    (hl : D[li]? = some s) {fa : Addr} (hfa : mg s.dd.name = some (.ref fa)) (hlm : s.lam = false) : ∃ fd : FuncData, (∀ (s0 : Shared) (us : List Value), us.length = s.ps.length → BindsTo s0 fd ⟨us, []⟩ (s.ps.zip us)) ∧
      ∀ base : Heap, (∀ p ∈ (tfOf D).map (He.cT K), LamX.TabB base mg p.1 p.2) → FnG P w K mg base CX0 (n + 2) fa fd s.ps (fun vs H Q _ => spM (RXof (eaOf D T K)) K s.d.ar (run (D.map (·.d)) L (n + 1) li) vs H Q fun _ _ _ => False) := by
  have hsm := List.mem_of_getElem? hl
  have hst := hs s hsm
  obtain ⟨s1, _, s2, s3, _⟩ := st_ok hst
  obtain ⟨fd, F⟩ := c.t.d.defs (List.mem_map_of_mem (f := fun s : DS => s.dd) hsm)
  have e1 : s.dd.dvs K = [] := by unfold He.DefD.dvs; rw [s2]; rfl
  have e2 : s.dd.kws K = [] := by unfold He.DefD.kws; rw [s3]; rfl
  have e3 : He.fAd K s.dd.at_ = He.ga K s.dd.name := by rw [s1]; rfl
  rw [e1, e2, e3] at F
  have cm := c.more
  unfold factsD factsB at cm
  simp only [Bool.and_eq_true] at cm
  have hg : (He.Fa.glo s.dd.name).ok K = true := List.all_eq_true.mp cm.1.2.2.2 (s.dd.name, s.d.ar) (by rw [hT]; exact List.mem_map_of_mem (f := fun s : DS => (s.dd.name, s.d.ar)) hsm)
  have e := hfa.symm.trans (He.glo_ok X G hg)
  cases e
  refine ⟨fd, fun s0 us hl => FunD.bindsA F (hb s hsm) s0 us hl, fun base TB => toG0 (fn_step (gf_of X G c hD hT hs hb hk TB n) ?_ F hst fun z => by rw [hlm] at z; cases z)⟩
  rw [List.getElem?_map, hl]
  rfl
/-- the end of a law, with tables -/
theorem walk_ofET {l : PySem.W.OpenLaw} {n k : Nat} {q : Program} {loose : List Str} {XP : (Str → Option Value) → Heap → Prop} {YP : World → Heap → Prop} {d : DefRec} {x : Str}
    (hn : l.most = some n) (hn2 : n ≤ sizeLine) (hdf : d.params.defaults = []) (hr : Room k callerA)
    (F : ∀ (w : World) (mg : Str → Option Value) (fa : Addr) (h : Heap), YP w h → h.Ns mainGlobals mg → mg d.name = some (.ref fa) →
      ∃ (K : PySem.W.Frag) (fd : FuncData) (cs : List (Addr × Addr)) (sp : Sp), K.In h ∧ (∀ p ∈ cs, h.get? p.2 = some { cls := .none, data := .fields #[] }) ∧ (∀ p ∈ cs, K.lookup p.2 = none) ∧ (∀ p ∈ cs, PySem.W.CodeHd h p.1 p.2) ∧ (∀ (s : Shared) (u : Value), BindsTo s fd ⟨[u], []⟩ [(x, u)]) ∧
        (∀ (H : Hp) (a : Addr) (ns : List Int), ns.length ≤ n → (∀ p ∈ cs, H p.2 = some (.tbl #[])) → SqL K H a (ns.map V.int) → sp [.ref a] H (fun v _ => v = .bl true) fun _ _ _ => False) ∧
        ∀ base : Heap, K.In base → base.Ns mainGlobals mg → (∀ p ∈ cs, LamX.TabB base mg p.1 p.2) → FnG l.prog w K mg base CX0 k fa fd [x] sp) :
    PySem.W.WalkO q loose XP YP l.row.toRowW d [] (fun f vs => PySem.call f vs) := by
  refine Att.attach_callB hn hdf fun w s₀ s₁ mg mb fa o pm cd doc a vs ns G Y ho hd hcd hmg hobj hints hlen hbits hg => ?_
  obtain ⟨K, fd, cs, sp, KX, hT, nT, C, hb, hsp, hF⟩ := F w mg fa _ Y G.T.g hmg
  exact endG KX G.T.g G.T.b G.T.builtins G.T.nolimit hg hT nT C G.T.bmain hobj hints (Nat.le_trans hlen hn2) hr hF hb (fun H hH hS => hsp H a ns hlen hH hS)
end
end Mn

end

section
set_option Elab.async false
set_option linter.all false
set_option maxRecDepth 100000
set_option maxHeartbeats 4000000
namespace Mn73
open PySem PySem.Spec PyProof.Rows L2 Mn
/-! ### the text, carried over -/
def pTop (i : Nat) : Stmt := PySem.Challenge.pw_cardtable_k73_whole_every_nth_and_monge.main.body.getD i (.Pass ⟨0, 0, 0, 0⟩)
def pDef (x : Str) (i : Nat) : He.DefD := ⟨(x, none), x, x, defArgs (pTop i), defBody (pTop i), defScope (pTop i), [], []⟩
def cIsInteger : Def := ⟨1, 1, (.cons (.ret (.boo true (.cons (.isi (.var 0) .int) (.cons (.not (.isi (.var 0) .bool)) .nil)))) .nil), false⟩
def cIsWithin : Def := ⟨3, 3, (.cons (.ret (.boo true (.cons (.call 0 (.cons (.var 0) .nil)) (.cons (.cmp2 .le .le (.var 1) (.var 0) (.var 2)) .nil)))) .nil), false⟩
def cIsLetters : Def := ⟨3, 4, (.cons (.ret (.boo true (.cons (.isi (.var 0) .str) (.cons (.cmp2 .le .le (.var 1) (.bi .len (.cons (.var 0) .nil)) (.var 2)) (.cons (.bi .all (.cons (.lc (.cmp .in_ (.var 3) (.glob (.str "abcdefghijklmnopqrstuvwxyz"))) (.nm 3) (.e (.var 0)) .none [3]) .nil)) .nil))))) .nil), false⟩
def cIsName : Def := ⟨1, 1, (.cons (.ret (.call 2 (.cons (.var 0) (.cons (.lit (.int 1)) (.cons (.glob (.int 12)) .nil))))) .nil), false⟩
def cIsCard : Def := ⟨1, 1, (.cons (.ret (.call 1 (.cons (.var 0) (.cons (.lit (.int 0)) (.cons (.bin .sub (.glob (.int 52)) (.lit (.int 1))) .nil))))) .nil), false⟩
def cIsDeck : Def := ⟨1, 2, (.cons (.ite (.boo false (.cons (.not (.isi (.var 0) .tuple)) (.cons (.cmp .gt (.bi .len (.cons (.var 0) .nil)) (.glob (.int 52))) (.cons (.not (.bi .all (.cons (.lc (.call 4 (.cons (.var 1) .nil)) (.nm 1) (.e (.var 0)) .none [1]) .nil))) .nil)))) (.cons (.ret (.lit (.bool false))) .nil) .nil) (.cons (.ret (.cmp .eq (.bi .len (.cons (.dc (.var 1) (.lit (.bool true)) (.nm 1) (.e (.var 0)) [1]) .nil)) (.bi .len (.cons (.var 0) .nil)))) .nil)), false⟩
def cCheckDeck : Def := ⟨1, 1, (.cons (.ite (.not (.call 5 (.cons (.var 0) .nil))) (.cons (.raise 3 .nil) .nil) .nil) .nil), false⟩
def cCheckSize : Def := ⟨1, 1, (.cons (.ite (.not (.call 1 (.cons (.var 0) (.cons (.lit (.int 1)) (.cons (.glob (.int 20)) .nil))))) (.cons (.raise 1 .nil) .nil) .nil) .nil), false⟩
def cPutUnder : Def := ⟨2, 3, (.cons (.ite (.cmp .eq (.bi .len (.cons (.var 0) .nil)) (.lit (.int 0))) (.cons (.ret (.var 0)) .nil) .nil) (.cons (.asg (.nm 2) (.bin .sub (.var 1) (.bin .mul (.bi .len (.cons (.var 0) .nil)) (.bin .fdiv (.var 1) (.bi .len (.cons (.var 0) .nil)))))) (.cons (.ret (.bin .add (.slc (.var 0) (.some (.var 2)) .none) (.slc (.var 0) .none (.some (.var 2))))) .nil))), false⟩
def cDealtBy_b1 : Stms := (.cons (.ex (.mu .append (.var 3) (.cons (.idx (.var 4) (.lit (.int 0))) .nil))) (.cons (.asg (.nm 4) (.call 8 (.cons (.slc (.var 4) (.some (.lit (.int 1))) .none) (.cons (.var 2) .nil)))) .nil))
def cDealtBy : Def := ⟨3, 5, (.cons (.par [3, 4] (.cons (.new (.lst .nil)) (.cons (.call 8 (.cons (.bi .list (.cons (.var 0) .nil)) (.cons (.var 1) .nil))) .nil))) (.cons (.whil (.cmp .gt (.bi .len (.cons (.var 4) .nil)) (.lit (.int 0))) cDealtBy_b1) (.cons (.ret (.var 3)) .nil))), false⟩
def cRawDown : Def := ⟨1, 1, (.cons (.ret (.bi .tuple (.cons (.call 9 (.cons (.var 0) (.cons (.lit (.int 0)) (.cons (.lit (.int 1)) .nil)))) .nil))) .nil), false⟩
def cDownUnder : Def := ⟨1, 1, (.cons (.ex (.call 6 (.cons (.var 0) .nil))) (.cons (.ret (.call 10 (.cons (.var 0) .nil))) .nil)), false⟩
def cLastDown : Def := ⟨1, 1, (.cons (.ex (.call 7 (.cons (.var 0) .nil))) (.cons (.ret (.idx (.call 9 (.cons (.rngl false (.rng (.var 0))) (.cons (.lit (.int 0)) (.cons (.lit (.int 1)) .nil)))) (.neg (.lit (.int 1))))) .nil)), false⟩
def cDeckFor_b1 : Stms := (.cons (.seti (.var 1) (.var 2) (.var 3)) .nil)
def cDeckFor : Def := ⟨1, 4, (.cons (.ex (.call 6 (.cons (.var 0) .nil))) (.cons (.asg (.nm 1) (.new (.bin .mul (.lst (.cons (.lit .none) .nil)) (.bi .len (.cons (.var 0) .nil))))) (.cons (.for_ (.tup [2, 3]) (.zip (.call 9 (.cons (.rngl false (.rng (.bi .len (.cons (.var 0) .nil)))) (.cons (.lit (.int 0)) (.cons (.lit (.int 1)) .nil)))) (.var 0)) cDeckFor_b1) (.cons (.ret (.bi .tuple (.cons (.var 1) .nil))) .nil)))), false⟩
def cEveryNth : Def := ⟨2, 2, (.cons (.ex (.call 6 (.cons (.var 0) .nil))) (.cons (.ite (.not (.call 1 (.cons (.var 1) (.cons (.lit (.int 1)) (.cons (.glob (.int 60)) .nil))))) (.cons (.raise 2 .nil) .nil) .nil) (.cons (.ret (.bi .tuple (.cons (.call 9 (.cons (.var 0) (.cons (.bin .sub (.var 1) (.lit (.int 1))) (.cons (.bin .sub (.var 1) (.lit (.int 1))) .nil)))) .nil))) .nil))), false⟩
def cAreWords : Def := ⟨2, 3, (.cons (.ret (.boo true (.cons (.isi (.var 0) .tuple) (.cons (.cmp .le (.bi .len (.cons (.var 0) .nil)) (.var 1)) (.cons (.bi .all (.cons (.lc (.call 3 (.cons (.var 2) .nil)) (.nm 2) (.e (.var 0)) .none [2]) .nil)) .nil))))) .nil), false⟩
def cSpelled_b1 : Stms := (.cons (.asg (.nm 4) (.call 8 (.cons (.var 4) (.cons (.bi .len (.cons (.var 2) .nil)) .nil)))) (.cons (.ex (.mu .append (.var 3) (.cons (.idx (.var 4) (.lit (.int 0))) .nil))) (.cons (.asg (.nm 4) (.slc (.var 4) (.some (.lit (.int 1))) .none)) .nil)))
def cSpelled : Def := ⟨2, 5, (.cons (.ex (.call 6 (.cons (.var 0) .nil))) (.cons (.ite (.not (.call 15 (.cons (.var 1) (.cons (.bi .len (.cons (.var 0) .nil)) .nil)))) (.cons (.raise 5 .nil) .nil) .nil) (.cons (.par [3, 4] (.cons (.new (.lst .nil)) (.cons (.bi .list (.cons (.var 0) .nil)) .nil))) (.cons (.for_ (.nm 2) (.e (.var 1)) cSpelled_b1) (.cons (.ret (.bi .tuple (.cons (.var 3) .nil))) .nil))))), false⟩
def cRawMonge_b1 : Stms := (.cons (.asg (.nm 2) (.ite (.var 3) (.bin .add (.lst (.cons (.var 1) .nil)) (.var 2)) (.bin .add (.var 2) (.lst (.cons (.var 1) .nil))))) (.cons (.asg (.nm 3) (.not (.var 3))) .nil))
def cRawMonge : Def := ⟨1, 4, (.cons (.par [2, 3] (.cons (.lst .nil) (.cons (.lit (.bool false)) .nil))) (.cons (.for_ (.nm 1) (.e (.var 0)) cRawMonge_b1) (.cons (.ret (.bi .tuple (.cons (.var 2) .nil))) .nil))), false⟩
def cMonge : Def := ⟨1, 1, (.cons (.ex (.call 6 (.cons (.var 0) .nil))) (.cons (.ret (.call 17 (.cons (.var 0) .nil))) .nil)), false⟩
def cOnceMore : Def := ⟨2, 2, (.cons (.ret (.ite (.cmp .eq (.var 0) (.glob (.str "down"))) (.call 10 (.cons (.var 1) .nil)) (.call 17 (.cons (.var 1) .nil)))) .nil), false⟩
def cTurnsBack_b1 : Stms := (.cons (.par [3, 4] (.cons (.call 19 (.cons (.var 1) (.cons (.var 3) .nil))) (.cons (.bin .add (.var 4) (.lit (.int 1))) .nil))) .nil)
def cTurnsBack : Def := ⟨2, 5, (.cons (.ex (.call 7 (.cons (.var 0) .nil))) (.cons (.ite (.boo false (.cons (.not (.isi (.var 1) .str)) (.cons (.cmp .nin (.var 1) (.tup (.cons (.glob (.str "down")) (.cons (.glob (.str "monge")) .nil)))) .nil))) (.cons (.raise 4 .nil) .nil) .nil) (.cons (.asg (.nm 2) (.rngl true (.rng (.var 0)))) (.cons (.par [3, 4] (.cons (.call 19 (.cons (.var 1) (.cons (.var 2) .nil))) (.cons (.lit (.int 1)) .nil))) (.cons (.whil (.cmp .ne (.var 3) (.var 2)) cTurnsBack_b1) (.cons (.ret (.var 4)) .nil)))))), false⟩
def cLawHand : Def := ⟨1, 3, (.cons (.asg (.nm 1) (.new (.lc (.bi .abs (.cons (.bi .int (.cons (.var 2) .nil)) .nil)) (.nm 2) (.e (.slc (.var 0) .none (.some (.lit (.int 63))))) .none [2]))) (.cons (.ret (.new (.lst (.cons (.var 1) (.cons (.lit (.int 0)) (.cons (.lit (.int 0)) (.cons (.bin .add (.lit (.int 397)) (.bin .mul (.lit (.int 271)) (.bi .len (.cons (.var 1) .nil)))) (.cons (.lit (.int 0)) .nil)))))))) .nil)), true⟩
def cLawDraw : Def := ⟨2, 5, (.cons (.ite (.boo true (.cons (.cmp .eq (.idx (.var 0) (.lit (.int 2))) (.lit (.int 0))) (.cons (.cmp .lt (.idx (.var 0) (.lit (.int 1))) (.bi .len (.cons (.idx (.var 0) (.lit (.int 0))) .nil))) .nil))) (.cons (.asg (.nm 3) (.idx (.idx (.var 0) (.lit (.int 0))) (.idx (.var 0) (.lit (.int 1))))) (.cons (.seti (.var 0) (.lit (.int 1)) (.bin .add (.idx (.var 0) (.lit (.int 1))) (.lit (.int 1)))) (.cons (.seti (.var 0) (.lit (.int 3)) (.bin .mod (.bi .int (.cons (.bin .add (.bin .add (.bin .mul (.idx (.var 0) (.lit (.int 3))) (.lit (.int 69621))) (.bin .mul (.var 3) (.lit (.int 48271)))) (.lit (.int 17))) .nil)) (.lit (.int 2147483629)))) (.cons (.ite (.cmp .ge (.var 3) (.bin .pow (.lit (.int 10)) (.lit (.int 18)))) (.cons (.seti (.var 0) (.lit (.int 2)) (.var 3)) .nil) .nil) .nil)))) .nil) (.cons (.ite (.cmp .gt (.idx (.var 0) (.lit (.int 2))) (.lit (.int 0))) (.cons (.asg (.nm 4) (.bin .mod (.bi .int (.cons (.idx (.var 0) (.lit (.int 2))) .nil)) (.var 1))) (.cons (.seti (.var 0) (.lit (.int 2)) (.bin .fdiv (.idx (.var 0) (.lit (.int 2))) (.var 1))) (.cons (.ret (.var 4)) .nil))) .nil) (.cons (.seti (.var 0) (.lit (.int 4)) (.bin .add (.idx (.var 0) (.lit (.int 4))) (.lit (.int 1)))) (.cons (.asg (.nm 2) (.bin .mod (.bi .int (.cons (.bin .mul (.bi .int (.cons (.bin .add (.idx (.var 0) (.lit (.int 3))) (.bin .mul (.lit (.int 7919)) (.idx (.var 0) (.lit (.int 4))))) .nil)) (.lit (.int 40692))) .nil)) (.lit (.int 2147483647)))) (.cons (.asg (.nm 2) (.bin .mod (.bi .int (.cons (.bin .mul (.var 2) (.bin .add (.bin .fdiv (.var 2) (.lit (.int 1009))) (.lit (.int 69621)))) .nil)) (.lit (.int 2147483647)))) (.cons (.asg (.nm 2) (.bin .mod (.bi .int (.cons (.bin .mul (.var 2) (.bin .add (.bin .fdiv (.var 2) (.lit (.int 2003))) (.lit (.int 40014)))) .nil)) (.lit (.int 2147483563)))) (.cons (.ret (.bin .mod (.bi .int (.cons (.bin .fdiv (.var 2) (.lit (.int 16))) .nil)) (.var 1))) .nil))))))), false⟩
def cLawAny : Def := ⟨2, 2, (.cons (.ret (.idx (.var 1) (.call 22 (.cons (.var 0) (.cons (.bi .len (.cons (.var 1) .nil)) .nil))))) .nil), false⟩
def cLawCards_b1 : Stms := (.cons (.ex (.mu .append (.var 5) (.cons (.mu .pop1 (.var 4) (.cons (.call 22 (.cons (.var 0) (.cons (.bi .len (.cons (.var 4) .nil)) .nil))) .nil)) .nil))) .nil)
def cLawCards : Def := ⟨3, 6, (.cons (.par [4, 5] (.cons (.new (.rngl false (.rng2 (.var 2) (.lit (.int 52))))) (.cons (.new (.lst .nil)) .nil))) (.cons (.for_ (.nm 3) (.rng (.var 1)) cLawCards_b1) (.cons (.ret (.var 5)) .nil))), false⟩
def cLawSaid : Def := ⟨1, 3, (.cons (.try_ (.cons (.act none) .nil) 0 (some 1) (.cons (.asg (.nm 2) (.lst (.cons (.isx 1 (some 3)) (.cons (.isx 1 (some 2)) (.cons (.isx 1 (some 1)) .nil))))) (.cons (.asg (.nm 2) (.bin .add (.var 2) (.lst (.cons (.isx 1 (some 4)) (.cons (.isx 1 (some 5)) .nil))))) (.cons (.ite (.boo false (.cons (.cmp .ne (.me .count (.var 2) (.cons (.lit (.bool true)) .nil)) (.lit (.int 1))) (.cons (.not (.isx 1 none)) .nil))) (.cons (.ret (.lit (.str "odd"))) .nil) .nil) (.cons (.ret (.idx (.lst (.cons (.lit (.str "deck")) (.cons (.lit (.str "number")) (.cons (.lit (.str "size")) (.cons (.lit (.str "way")) (.cons (.lit (.str "words")) .nil)))))) (.me .index (.var 2) (.cons (.lit (.bool true)) .nil)))) .nil))))) (.cons (.ret (.lit (.str "let"))) .nil)), false⟩
def cLawDealt_b1 : Stms := (.cons (.ite (.boo false (.cons (.cmp .ne (.var 4) (.lst .nil)) (.cons (.not (.var 2)) .nil))) (.cons (.asg (.nm 5) (.bin .mod (.bi .int (.cons (.var 1) .nil)) (.bi .len (.cons (.var 3) .nil)))) (.cons (.asg (.nm 3) (.new (.bin .add (.slc (.var 3) (.some (.var 5)) .none) (.slc (.var 3) .none (.some (.var 5)))))) .nil)) .nil) (.cons (.ex (.mu .append (.var 4) (.cons (.mu .pop1 (.var 3) (.cons (.lit (.int 0)) .nil)) .nil))) .nil))
def cLawDealt : Def := ⟨3, 6, (.cons (.par [3, 4] (.cons (.new (.bi .list (.cons (.var 0) .nil))) (.cons (.new (.lst .nil)) .nil))) (.cons (.whil (.cmp .ne (.var 3) (.lst .nil)) cLawDealt_b1) (.cons (.ret (.bi .tuple (.cons (.var 4) .nil))) .nil))), false⟩
def cLawMonge_b1 : Stms := (.cons (.asg (.nm 1) (.ite (.cmp .eq (.bin .mod (.bi .int (.cons (.var 2) .nil)) (.lit (.int 2))) (.lit (.int 1))) (.bin .add (.lst (.cons (.var 3) .nil)) (.var 1)) (.bin .add (.var 1) (.lst (.cons (.var 3) .nil))))) .nil)
def cLawMonge : Def := ⟨1, 4, (.cons (.asg (.nm 1) (.lst .nil)) (.cons (.for_ (.tup [2, 3]) (.enum (.var 0)) cLawMonge_b1) (.cons (.ret (.bi .tuple (.cons (.var 1) .nil))) .nil))), false⟩
def cLawOften_b1 : Stms := (.cons (.asg (.nm 3) (.ite (.cmp .eq (.var 1) (.lit (.str "down"))) (.call 26 (.cons (.var 3) (.cons (.lit (.int 1)) (.cons (.lit (.bool true)) .nil)))) (.call 27 (.cons (.var 3) .nil)))) (.cons (.asg (.nm 4) (.bin .add (.var 4) (.lit (.int 1)))) .nil))
def cLawOften : Def := ⟨2, 5, (.cons (.asg (.nm 2) (.rngl true (.rng (.var 0)))) (.cons (.par [3, 4] (.cons (.var 2) (.cons (.lit (.int 0)) .nil))) (.cons (.whil (.boo false (.cons (.cmp .ne (.var 3) (.var 2)) (.cons (.cmp .eq (.var 4) (.lit (.int 0))) .nil))) cLawOften_b1) (.cons (.ret (.var 4)) .nil)))), false⟩
def cLawRefusedRight : Def := ⟨2, 6, (.cons (.asg (.nm 2) (.call 23 (.cons (.var 0) (.cons (.lst (.cons (.lit .none) (.cons (.bi .list (.cons (.var 1) .nil)) (.cons (.bin .add (.var 1) (.var 1)) (.cons (.tup (.cons (.lit (.int 52)) .nil)) (.cons (.tup (.cons (.lit (.bool true)) .nil)) (.cons (.lit (.int 0)) (.cons (.lit (.str "ab")) .nil)))))))) .nil)))) (.cons (.asg (.nm 3) (.call 23 (.cons (.var 0) (.cons (.lst (.cons (.lit (.int 0)) (.cons (.lit (.int 61)) (.cons (.neg (.lit (.int 1))) (.cons (.lit .none) (.cons (.lit (.bool true)) (.cons (.lit (.str "2")) .nil))))))) .nil)))) (.cons (.asg (.nm 4) (.call 23 (.cons (.var 0) (.cons (.lst (.cons (.lit (.int 0)) (.cons (.lit (.int 21)) (.cons (.neg (.lit (.int 1))) (.cons (.lit .none) (.cons (.lit (.bool true)) .nil)))))) .nil)))) (.cons (.asg (.nm 5) (.new (.lst (.cons (.lcall 25 (.call 14 (.cons (.var 2) (.cons (.var 3) .nil)))) .nil)))) (.cons (.ex (.mu .append (.var 5) (.cons (.lcall 25 (.call 11 (.cons (.var 2) .nil))) .nil))) (.cons (.ex (.mu .append (.var 5) (.cons (.lcall 25 (.call 13 (.cons (.var 2) .nil))) .nil))) (.cons (.ex (.mu .append (.var 5) (.cons (.lcall 25 (.call 18 (.cons (.var 2) .nil))) .nil))) (.cons (.ex (.mu .append (.var 5) (.cons (.lcall 25 (.call 14 (.cons (.var 1) (.cons (.var 3) .nil)))) .nil))) (.cons (.ex (.mu .append (.var 5) (.cons (.lcall 25 (.call 20 (.cons (.var 4) (.cons (.lit (.str "x")) .nil)))) .nil))) (.cons (.ex (.mu .append (.var 5) (.cons (.lcall 25 (.call 20 (.cons (.lit (.int 3)) (.cons (.call 23 (.cons (.var 0) (.cons (.lst (.cons (.lit (.str "up")) (.cons (.lit .none) (.cons (.lit (.int 0)) (.cons (.lit (.str "")) (.cons (.tup (.cons (.lit (.str "down")) .nil)) .nil)))))) .nil))) .nil)))) .nil))) (.cons (.ex (.mu .append (.var 5) (.cons (.lcall 25 (.call 16 (.cons (.var 2) (.cons (.lit .none) .nil)))) .nil))) (.cons (.ex (.mu .append (.var 5) (.cons (.lcall 25 (.call 16 (.cons (.var 1) (.cons (.call 23 (.cons (.var 0) (.cons (.lst (.cons (.lit .none) (.cons (.lst (.cons (.lit (.str "a")) .nil)) (.cons (.tup (.cons (.lit (.str "A")) .nil)) (.cons (.tup (.cons (.lit (.str "")) .nil)) (.cons (.tup (.cons (.lit (.int 1)) .nil)) (.cons (.lit (.str "a")) .nil))))))) .nil))) .nil)))) .nil))) (.cons (.ret (.cmp .eq (.var 5) (.bin .add (.bin .mul (.lst (.cons (.lit (.str "deck")) .nil)) (.lit (.int 4))) (.lst (.cons (.lit (.str "number")) (.cons (.lit (.str "size")) (.cons (.lit (.str "way")) (.cons (.lit (.str "deck")) (.cons (.lit (.str "words")) .nil))))))))) .nil))))))))))))), false⟩
def cLaw_b1 : Stms := (.cons (.asg (.nm 3) (.bin .add (.lit (.int 1)) (.call 22 (.cons (.var 1) (.cons (.lit (.int 12)) .nil))))) (.cons (.par [5, 6] (.cons (.bi .tuple (.cons (.call 24 (.cons (.var 1) (.cons (.var 3) (.cons (.lit (.int 0)) .nil)))) .nil)) (.cons (.bin .add (.lit (.int 1)) (.call 22 (.cons (.var 1) (.cons (.lit (.int 60)) .nil)))) .nil))) (.cons (.ite (.boo false (.cons (.cmp .ne (.bi .repr (.cons (.call 14 (.cons (.var 5) (.cons (.var 6) .nil))) .nil)) (.bi .repr (.cons (.call 26 (.cons (.var 5) (.cons (.bin .sub (.var 6) (.lit (.int 1))) (.cons (.lit (.bool false)) .nil)))) .nil))) (.cons (.cmp .ne (.call 14 (.cons (.var 5) (.cons (.lit (.int 1)) .nil))) (.var 5)) .nil))) (.cons (.ret (.lit (.bool false))) .nil) .nil) (.cons (.ite (.boo false (.cons (.cmp .ne (.bi .repr (.cons (.call 18 (.cons (.var 5) .nil)) .nil)) (.bi .repr (.cons (.call 27 (.cons (.var 5) .nil)) .nil))) (.cons (.cmp .ne (.bi .sorted (.cons (.call 18 (.cons (.var 5) .nil)) .nil)) (.bi .sorted (.cons (.var 5) .nil))) .nil))) (.cons (.ret (.lit (.bool false))) .nil) .nil) (.cons (.asg (.nm 4) (.call 26 (.cons (.var 5) (.cons (.lit (.int 1)) (.cons (.lit (.bool true)) .nil))))) (.cons (.ite (.cmp .ne (.bi .repr (.cons (.call 11 (.cons (.var 5) .nil)) .nil)) (.bi .repr (.cons (.var 4) .nil))) (.cons (.ret (.lit (.bool false))) .nil) .nil) (.cons (.ite (.boo false (.cons (.cmp .ne (.call 11 (.cons (.call 13 (.cons (.var 5) .nil)) .nil)) (.var 5)) (.cons (.cmp .ne (.call 13 (.cons (.var 4) .nil)) (.var 5)) .nil))) (.cons (.ret (.lit (.bool false))) .nil) .nil) (.cons (.ite (.cmp .ne (.bi .repr (.cons (.call 12 (.cons (.var 3) .nil)) .nil)) (.bi .repr (.cons (.idx (.call 26 (.cons (.rngl true (.rng (.var 3))) (.cons (.lit (.int 1)) (.cons (.lit (.bool true)) .nil)))) (.neg (.lit (.int 1)))) .nil))) (.cons (.ret (.lit (.bool false))) .nil) .nil) (.cons (.par [7, 8] (.cons (.bin .add (.lit (.int 1)) (.call 22 (.cons (.var 1) (.cons (.lit (.int 20)) .nil)))) (.cons (.call 23 (.cons (.var 1) (.cons (.lst (.cons (.lit (.str "down")) (.cons (.lit (.str "monge")) .nil))) .nil))) .nil))) (.cons (.ite (.cmp .ne (.bi .repr (.cons (.call 20 (.cons (.var 7) (.cons (.var 8) .nil))) .nil)) (.bi .repr (.cons (.call 28 (.cons (.var 7) (.cons (.var 8) .nil))) .nil))) (.cons (.ret (.lit (.bool false))) .nil) .nil) (.cons (.ite (.not (.call 29 (.cons (.var 1) (.cons (.var 5) .nil)))) (.cons (.ret (.lit (.bool false))) .nil) .nil) .nil)))))))))))
def cLaw : Def := ⟨1, 9, (.cons (.asg (.nm 1) (.call 21 (.cons (.var 0) .nil))) (.cons (.for_ (.nm 2) (.rng (.lit (.int 5))) cLaw_b1) (.cons (.ret (.boo true (.cons (.cmp .eq (.call 18 (.cons (.tup (.cons (.lit (.int 0)) (.cons (.lit (.int 1)) (.cons (.lit (.int 2)) (.cons (.lit (.int 3)) .nil))))) .nil)) (.tup (.cons (.lit (.int 3)) (.cons (.lit (.int 1)) (.cons (.lit (.int 0)) (.cons (.lit (.int 2)) .nil)))))) (.cons (.cmp .eq (.call 11 (.cons (.tup (.cons (.lit (.int 0)) (.cons (.lit (.int 1)) (.cons (.lit (.int 2)) (.cons (.lit (.int 3)) .nil))))) .nil)) (.tup (.cons (.lit (.int 0)) (.cons (.lit (.int 2)) (.cons (.lit (.int 1)) (.cons (.lit (.int 3)) .nil)))))) .nil)))) .nil))), false⟩
def pDS : List DS := [
  ⟨pDef "is_integer" 3, ["thing"], ["thing"], cIsInteger, false, false⟩,
  ⟨pDef "is_within" 4, ["thing", "least", "most"], ["thing", "least", "most"], cIsWithin, false, false⟩,
  ⟨pDef "is_letters" 5, ["thing", "least", "most"], ["thing", "least", "most", "sign"], cIsLetters, false, false⟩,
  ⟨pDef "is_name" 6, ["thing"], ["thing"], cIsName, false, false⟩,
  ⟨pDef "is_card" 16, ["thing"], ["thing"], cIsCard, false, false⟩,
  ⟨pDef "is_deck" 17, ["thing"], ["thing", "card"], cIsDeck, false, false⟩,
  ⟨pDef "check_deck" 23, ["deck"], ["deck"], cCheckDeck, false, false⟩,
  ⟨pDef "check_size" 24, ["size"], ["size"], cCheckSize, false, false⟩,
  ⟨pDef "put_under" 25, ["cards", "many"], ["cards", "many", "rest"], cPutUnder, false, false⟩,
  ⟨pDef "dealt_by" 26, ["cards", "begin", "between"], ["cards", "begin", "between", "found", "left"], cDealtBy, false, false⟩,
  ⟨pDef "raw_down" 27, ["deck"], ["deck"], cRawDown, false, false⟩,
  ⟨pDef "down_under" 28, ["deck"], ["deck"], cDownUnder, false, false⟩,
  ⟨pDef "last_down" 29, ["size"], ["size"], cLastDown, false, false⟩,
  ⟨pDef "deck_for" 30, ["order"], ["order", "found", "place", "card"], cDeckFor, false, false⟩,
  ⟨pDef "every_nth" 31, ["deck", "n"], ["deck", "n"], cEveryNth, false, false⟩,
  ⟨pDef "are_words" 32, ["thing", "most"], ["thing", "most", "word"], cAreWords, false, false⟩,
  ⟨pDef "spelled" 33, ["deck", "words"], ["deck", "words", "word", "found", "left"], cSpelled, false, false⟩,
  ⟨pDef "raw_monge" 34, ["deck"], ["deck", "card", "found", "is_above"], cRawMonge, false, false⟩,
  ⟨pDef "monge" 35, ["deck"], ["deck"], cMonge, false, false⟩,
  ⟨pDef "once_more" 36, ["way", "deck"], ["way", "deck"], cOnceMore, false, false⟩,
  ⟨pDef "turns_back" 37, ["size", "way"], ["size", "way", "first", "here", "many"], cTurnsBack, false, false⟩,
  ⟨pDef "_law_hand" 39, ["script"], ["script", "cells", "cell"], cLawHand, false, false⟩,
  ⟨pDef "_law_draw" 40, ["hand", "many"], ["hand", "many", "number", "cell", "digit"], cLawDraw, false, false⟩,
  ⟨pDef "_law_any" 41, ["hand", "some"], ["hand", "some"], cLawAny, false, false⟩,
  ⟨pDef "_law_cards" 42, ["hand", "many", "low"], ["hand", "many", "low", "card", "left", "found_ones"], cLawCards, false, false⟩,
  ⟨pDef "_law_said" 43, ["call"], ["call", "error", "some"], cLawSaid, false, true⟩,
  ⟨pDef "_law_dealt" 44, ["deck", "put_under_many", "is_first"], ["deck", "put_under_many", "is_first", "left", "found_ones", "by"], cLawDealt, false, false⟩,
  ⟨pDef "_law_monge" 45, ["deck"], ["deck", "found_ones", "at", "card"], cLawMonge, false, false⟩,
  ⟨pDef "_law_often" 46, ["size", "way"], ["size", "way", "first", "here", "found_ones"], cLawOften, false, false⟩,
  ⟨pDef "_law_refused_right" 47, ["hand", "deck"], ["hand", "deck", "bad", "odd", "none", "said"], cLawRefusedRight, true, false⟩,
  ⟨pDef "law" 48, ["script"], ["script", "hand", "pass_no", "size", "down", "deck", "n", "few", "way"], cLaw, false, false⟩]
def pT : Stat := ⟨[], pDS.map fun s => (s.dd.name, s.d.ar), [("LETTERS", (.str "abcdefghijklmnopqrstuvwxyz")), ("MOST_LETTERS", (.int 12)), ("CARDS_MANY", (.int 52)), ("MOST_NTH", (.int 60)), ("MOST_SIZE", (.int 20)), ("DOWN", (.str "down")), ("MONGE", (.str "monge"))], ["CardError", "NoSize", "NoNumber", "NoDeck", "NoWay", "NoWords"], ["ValueError", "abs", "all", "bool", "enumerate", "int", "isinstance", "len", "list", "range", "repr", "sorted", "str", "tuple", "zip"], [25], false, false⟩
abbrev iIsInteger : Nat := 0
abbrev iIsWithin : Nat := 1
abbrev iIsLetters : Nat := 2
abbrev iIsName : Nat := 3
abbrev iIsCard : Nat := 4
abbrev iIsDeck : Nat := 5
abbrev iCheckDeck : Nat := 6
abbrev iCheckSize : Nat := 7
abbrev iPutUnder : Nat := 8
abbrev iDealtBy : Nat := 9
abbrev iRawDown : Nat := 10
abbrev iDownUnder : Nat := 11
abbrev iLastDown : Nat := 12
abbrev iDeckFor : Nat := 13
abbrev iEveryNth : Nat := 14
abbrev iAreWords : Nat := 15
abbrev iSpelled : Nat := 16
abbrev iRawMonge : Nat := 17
abbrev iMonge : Nat := 18
abbrev iOnceMore : Nat := 19
abbrev iTurnsBack : Nat := 20
abbrev iLawHand : Nat := 21
abbrev iLawDraw : Nat := 22
abbrev iLawAny : Nat := 23
abbrev iLawCards : Nat := 24
abbrev iLawSaid : Nat := 25
abbrev iLawDealt : Nat := 26
abbrev iLawMonge : Nat := 27
abbrev iLawOften : Nat := 28
abbrev iLawRefusedRight : Nat := 29
abbrev iLaw : Nat := 30
abbrev xCardError : Nat := 0
abbrev xNoSize : Nat := 1
abbrev xNoNumber : Nat := 2
abbrev xNoDeck : Nat := 3
abbrev xNoWay : Nat := 4
abbrev xNoWords : Nat := 5
theorem pBind : ∀ s ∈ pDS, BindOk s := by
  unfold pDS
  simp only [List.forall_mem_cons]
  exact ⟨(fun _ _ _ _ _ _ us hl => match us, hl with | [_], _ => rfl),
    (fun _ _ _ _ _ _ us hl => match us, hl with | [_, _, _], _ => rfl),
    (fun _ _ _ _ _ _ us hl => match us, hl with | [_, _, _], _ => rfl),
    (fun _ _ _ _ _ _ us hl => match us, hl with | [_], _ => rfl),
    (fun _ _ _ _ _ _ us hl => match us, hl with | [_], _ => rfl),
    (fun _ _ _ _ _ _ us hl => match us, hl with | [_], _ => rfl),
    (fun _ _ _ _ _ _ us hl => match us, hl with | [_], _ => rfl),
    (fun _ _ _ _ _ _ us hl => match us, hl with | [_], _ => rfl),
    (fun _ _ _ _ _ _ us hl => match us, hl with | [_, _], _ => rfl),
    (fun _ _ _ _ _ _ us hl => match us, hl with | [_, _, _], _ => rfl),
    (fun _ _ _ _ _ _ us hl => match us, hl with | [_], _ => rfl),
    (fun _ _ _ _ _ _ us hl => match us, hl with | [_], _ => rfl),
    (fun _ _ _ _ _ _ us hl => match us, hl with | [_], _ => rfl),
    (fun _ _ _ _ _ _ us hl => match us, hl with | [_], _ => rfl),
    (fun _ _ _ _ _ _ us hl => match us, hl with | [_, _], _ => rfl),
    (fun _ _ _ _ _ _ us hl => match us, hl with | [_, _], _ => rfl),
    (fun _ _ _ _ _ _ us hl => match us, hl with | [_, _], _ => rfl),
    (fun _ _ _ _ _ _ us hl => match us, hl with | [_], _ => rfl),
    (fun _ _ _ _ _ _ us hl => match us, hl with | [_], _ => rfl),
    (fun _ _ _ _ _ _ us hl => match us, hl with | [_, _], _ => rfl),
    (fun _ _ _ _ _ _ us hl => match us, hl with | [_, _], _ => rfl),
    (fun _ _ _ _ _ _ us hl => match us, hl with | [_], _ => rfl),
    (fun _ _ _ _ _ _ us hl => match us, hl with | [_, _], _ => rfl),
    (fun _ _ _ _ _ _ us hl => match us, hl with | [_, _], _ => rfl),
    (fun _ _ _ _ _ _ us hl => match us, hl with | [_, _, _], _ => rfl),
    (fun _ _ _ _ _ _ us hl => match us, hl with | [_], _ => rfl),
    (fun _ _ _ _ _ _ us hl => match us, hl with | [_, _, _], _ => rfl),
    (fun _ _ _ _ _ _ us hl => match us, hl with | [_], _ => rfl),
    (fun _ _ _ _ _ _ us hl => match us, hl with | [_, _], _ => rfl),
    (fun _ _ _ _ _ _ us hl => match us, hl with | [_, _], _ => rfl),
    (fun _ _ _ _ _ _ us hl => match us, hl with | [_], _ => rfl), fun _ h => nomatch h⟩
theorem pSt : ∀ s ∈ pDS, stB pT s = true := by
  have h : (pDS.all fun s => stB pT s) = true := by decide +kernel
  exact fun s hs => List.all_eq_true.mp h s hs
/-! ### the head -/
abbrev R : PySem.W.OpenRow := PySem.W.OpenLaw.row PySem.Challenge.rw_cardtable_k73_whole_every_nth_and_monge
def pFn : List He.DefD := pDS.map (·.dd)
abbrev hk : PySem.W.Hook := He.hookX 4 [] pFn [] (tfOf pDS) (factsD pDS pT)
def ob (s : PySem.W.SharedT) : He.AlX := He.obsX 4 [] pFn [] (tfOf pDS) (factsD pDS pT) (HandSHeadRun.getT s)
theorem ob_eq (s : PySem.W.SharedT) : ob s = hk.obs s.abs := He.obsX_eq (HandSHeadRun.getT_eq s)
def lo0 : List Str := ["LETTERS", "MOST_LETTERS", "is_integer", "is_within", "is_letters", "is_name", "CardError", "NoSize", "NoNumber", "NoDeck", "NoWay", "NoWords", "CARDS_MANY", "is_card", "is_deck", "MOST_NTH", "MOST_SIZE", "DOWN", "MONGE", "check_deck", "check_size", "put_under", "dealt_by", "raw_down", "down_under", "last_down", "deck_for", "every_nth", "are_words", "spelled"]
def lo1 : List Str := ["raw_monge", "monge", "once_more", "turns_back", "_law_hand", "_law_draw", "_law_any", "_law_cards", "_law_said", "_law_dealt", "_law_monge", "_law_often", "_law_refused_right"]
def lo : List Str := lo0 ++ lo1
theorem top_run (w : World) : HandSHeadRun.RunEq R (PySem.W.view R.prog [48]) hk ob 6000 lo w := by
  intro os
  kernel_rfl
def pD : List Def := pDS.map (·.d)
theorem holds_of (hrun : ∀ ns : List Int, ns.length ≤ 63 → ∃ S', run pD 1000000 12 30 [.s ns] [] = .ok (PV.bool true) S') : PySem.Challenge.rw_cardtable_k73_whole_every_nth_and_monge.Holds := by
  w_on; o_law
  refine HandSHeadRun.head_any (r := R) (q := PySem.W.view R.prog [48]) (H := hk) (ob := ob) (M := 6000) (loose := lo) (d := HandSHeadRun.topDef R.prog 48) (kwd := []) ob_eq
    (by kernel_rfl) (fun s => by kernel_rfl) top_run (by kernel_rfl) (by kernel_rfl) (by kernel_rfl) (by rfl) (by first | assumption | decide +kernel) (by decide +kernel) ⟨rfl, rfl, rfl, rfl, rfl, by decide +kernel⟩ ?hw ?hc
  case hw => w_witness2
  case hc =>
    refine walk_ofET (l := PySem.Challenge.rw_cardtable_k73_whole_every_nth_and_monge) (n := 63) (k := 13) (x := "script") rfl (by decide) (by kernel_rfl) ⟨rfl, by decide, by decide⟩ ?F
    intro w mg fa h Y G hmg0
    obtain ⟨K, KX, c⟩ := Y
    have hmg : mg ("law" : PySem.Str) = some (.ref fa) := by
      have e : (HandSHeadRun.topDef R.prog 48).name = ("law" : PySem.Str) := by kernel_rfl
      rw [← e]
      exact hmg0
    obtain ⟨fd, hb, hF⟩ := law_fn (T := pT) (D := pDS) (L := 1000000) (n := 11) (li := 30) (s := ⟨pDef "law" 48, ["script"], ["script", "hand", "pass_no", "size", "down", "deck", "n", "few", "way"], cLaw, false, false⟩) (P := R.prog) KX G c (by decide) rfl pSt pBind (by decide +kernel) rfl hmg rfl
    refine ⟨K, fd, (tfOf pDS).map (He.cT K), _, KX, fun p hp => ?_, fun p hp => ?_, fun p hp => ?_, fun s u => hb s [u] rfl, fun H a ns hl hH hS => ?_, fun base _ _ hTB => hF base hTB⟩
    · obtain ⟨q, hq, rfl⟩ := List.mem_map.mp hp
      exact c.empty q hq
    · obtain ⟨q, hq, rfl⟩ := List.mem_map.mp hp
      exact c.out q hq
    · obtain ⟨q, hq, rfl⟩ := List.mem_map.mp hp
      exact PySem.W.codeHd_of_K KX (c.hd q hq)
    · obtain ⟨S', e⟩ := hrun ns hl
      exact law_sp hS (fun p hp => by
        obtain ⟨s, hs, rfl⟩ := List.mem_map.mp hp
        exact hH _ (List.mem_map_of_mem (f := He.cT K) (List.mem_map_of_mem (f := fun s : DS => ((s.dd.name, none) : He.Defn)) hs))) e
end Mn73

end

section
set_option Elab.async false
set_option linter.all false
set_option maxRecDepth 100000
set_option maxHeartbeats 1000000
namespace Mn73
open Mn
open PySem (PyData Str sizeLine)
abbrev G (n f : Nat) (vs : List PV) (S : Sto) : Res PV := run pD 1000000 n f vs S
theorem is_integer (n : Nat) (x : PyData) (S : Sto) : G (n + 1) iIsInteger [.d x] S = .ok (PV.bool (isIntD x)) S := by
  rw [G, run_def (d := cIsInteger) rfl rfl, ← finO_d S]
  cases x <;> rfl
theorem is_within (n : Nat) (x : PyData) (a b : Int) (S : Sto) : G (n + 2) iIsWithin [.d x, .d (.int a), .d (.int b)] S = .ok (PV.bool (inD x a b)) S := by
  rw [G, run_def (d := cIsWithin) rfl rfl, ← finO_d S]
  congr 1
  simp -implicitDefEqProofs only [cIsWithin, execs, exec, ev, evs, evB, evT, evI, evC, evO, evL, startE]
  simp -implicitDefEqProofs [is_integer]
  cases x <;> simp -implicitDefEqProofs [isIntD, inD, cmpV]
  split <;> simp_all
  omega
def cardD (x : PyData) : Bool := inD x 0 51
theorem is_card (n : Nat) (x : PyData) (S : Sto) : G (n + 3) iIsCard [.d x] S = .ok (PV.bool (cardD x)) S := by
  rw [G, run_def (d := cIsCard) rfl rfl, ← finO_d S]
  congr 1
  simp -implicitDefEqProofs only [cIsCard, execs, exec, ev, evs, evB, evT, evI, evC, evO, evL, startE]
  simp -implicitDefEqProofs [binV, is_within, cardD]
/-- is it a deck -/
def deckD (x : PyData) : Bool := match x with
  | .tuple xs => decide (xs.length ≤ 52) && (xs.all cardD && decide ((intsOf xs).Nodup))
  | _ => false
theorem is_deck (n : Nat) (x : PyData) (S : Sto) : G (n + 4) iIsDeck [.d x] S = .ok (PV.bool (deckD x)) S := by
  rw [G, run_def (d := cIsDeck) rfl rfl, ← finO_d S]
  congr 1
  simp -implicitDefEqProofs only [cIsDeck, execs, exec, ev, evs, evB, evT, evI, evC, evO, evL, startE]
  cases x with
  | tuple xs =>
    by_cases hl : xs.length ≤ 52
    · have hz : xs.length < sizeLine := ltS' (by omega)
      have hl2 : ¬ (52 : Int) < (xs.length : Int) := by omega
      simp -implicitDefEqProofs [isTy, bi_all, bi_any, bi_sum, bi_tup, bi_tupt, bi_lst, bi_lstt, bi_len, bi_lent, bi_sort, bi_sortt, bi_int, bi_abs, bi_intb, src_t, src_l, slc_t, slc_l, zip_t, zip_l, zip_lt, bindT_nm, int_P, add_i, sub_i, mul_i, fdiv_i, mod_i, add_t, lt_i, le_i, gt_i, ge_i, eq_i, ne_i, lcS_vals, forS_vals, allD_map, bools_map, all_map, hl2]
      rw [lcV_map (f := fun x => PyData.bool (cardD x)) (h := fun x hx => ?_)]
      · simp -implicitDefEqProofs only [finL, List.length_map, if_pos hz, Res.ofOpt_some, Res.ofOpt_none, Res.bind_ok, Res.bind_ex, Res.out_ok, Res.out_ex, Out.bind_nx, Out.bind_rt, Out.bind_ex, Out.ofOpt_some, asB_b, Option.map_some, Option.bind_some, bi_all, bi_any, bi_sum, bi_tup, bi_tupt, bi_lst, bi_lstt, bi_len, bi_lent, bi_sort, bi_sortt, bi_int, bi_abs, bi_intb, src_t, src_l, slc_t, slc_l, zip_t, zip_l, zip_lt, bindT_nm, int_P, add_i, sub_i, mul_i, fdiv_i, mod_i, add_t, lt_i, le_i, gt_i, ge_i, eq_i, ne_i, lcS_vals, forS_vals, allD_map, bools_map, all_map]
        cases hc : xs.all cardD with
        | false => simp -implicitDefEqProofs [deckD, hc]
        | true =>
          have hi := ints_back (all_in hc)
          obtain ⟨is, hi2⟩ : ∃ is, is = intsOf xs := ⟨_, rfl⟩
          rw [← hi2] at hi
          subst hi
          have hz2 : is.length < sizeLine := by rw [← dIs_len]; exact hz
          obtain ⟨q, e1, e2⟩ := dict_len S (.bool true) is hz2
          simp -implicitDefEqProofs [bi_all, bi_any, bi_sum, bi_tup, bi_tupt, bi_lst, bi_lstt, bi_len, bi_lent, bi_sort, bi_sortt, bi_int, bi_abs, bi_intb, src_t, src_l, slc_t, slc_l, zip_t, zip_l, zip_lt, bindT_nm, int_P, add_i, sub_i, mul_i, fdiv_i, mod_i, add_t, lt_i, le_i, gt_i, ge_i, eq_i, ne_i, lcS_vals, forS_vals, allD_map, bools_map, all_map]
          rw [lcV_ints (f := fun i => PyData.tuple [.int i, .bool true]) (h := fun i hi => ?_)]
          · rw [Res.bind_ok, List.map_map]
            have e3 : finD (is.map (PV.d ∘ fun i => PyData.tuple [.int i, .bool true])) S = .ok (.d (.dict q)) S := e1
            have e4 : ∀ q, biV S .len [.d (.dict q)] = some (PV.int (q.length : Nat)) := fun _ => rfl
            rw [e3]
            simp -implicitDefEqProofs [e4, bi_all, bi_any, bi_sum, bi_tup, bi_tupt, bi_lst, bi_lstt, bi_len, bi_lent, bi_sort, bi_sortt, bi_int, bi_abs, bi_intb, src_t, src_l, slc_t, slc_l, zip_t, zip_l, zip_lt, bindT_nm, int_P, add_i, sub_i, mul_i, fdiv_i, mod_i, add_t, lt_i, le_i, gt_i, ge_i, eq_i, ne_i, lcS_vals, forS_vals, allD_map, bools_map, all_map, deckD, hc, hl, dIs_len, intsOf_dIs]
            have hl3 : is.length ≤ 52 := by rw [← dIs_len]; exact hl
            simp -implicitDefEqProofs only [hl3, decide_true, Bool.true_and]
            rw [decide_eq_decide, ← e2]
            omega
          · simp -implicitDefEqProofs [dcBody, bindT, wipeE]
      · simp -implicitDefEqProofs [lcBody, bindT, wipeE, is_card]
    · have hl2 : (52 : Int) < (xs.length : Int) := by omega
      simp -implicitDefEqProofs [isTy, bi_all, bi_any, bi_sum, bi_tup, bi_tupt, bi_lst, bi_lstt, bi_len, bi_lent, bi_sort, bi_sortt, bi_int, bi_abs, bi_intb, src_t, src_l, slc_t, slc_l, zip_t, zip_l, zip_lt, bindT_nm, int_P, add_i, sub_i, mul_i, fdiv_i, mod_i, add_t, lt_i, le_i, gt_i, ge_i, eq_i, ne_i, lcS_vals, forS_vals, allD_map, bools_map, all_map, hl2, deckD, hl]
  | _ => simp -implicitDefEqProofs [isTy, deckD]
end Mn73

end

section
set_option Elab.async false
set_option linter.all false
set_option maxRecDepth 100000
set_option maxHeartbeats 1000000
namespace Mn73
open Mn
open PySem (PyData Str sizeLine)
theorem check_deck (n : Nat) (x : PyData) (S : Sto) : G (n + 5) iCheckDeck [.d x] S = if deckD x then .ok PV.none S else .ex xNoDeck none S := by
  rw [G, run_def (d := cCheckDeck) rfl rfl]
  simp -implicitDefEqProofs only [cCheckDeck, execs, exec, ev, evs, evB, evT, evI, evC, evO, evL, startE]
  simp -implicitDefEqProofs [is_deck]
  cases deckD x
  · exact finO_x S _ _ _
  · exact finO_n S _
theorem check_size (n : Nat) (x : PyData) (S : Sto) : G (n + 3) iCheckSize [.d x] S = if inD x 1 20 then .ok PV.none S else .ex xNoSize none S := by
  rw [G, run_def (d := cCheckSize) rfl rfl]
  simp -implicitDefEqProofs only [cCheckSize, execs, exec, ev, evs, evB, evT, evI, evC, evO, evL, startE]
  simp -implicitDefEqProofs [is_within]
  cases inD x 1 20
  · exact finO_x S _ _ _
  · exact finO_n S _
theorem put_under (n : Nat) (xs : List Int) (m : Nat) (S : Sto) (h : xs.length ≤ 1000) : G (n + 1) iPutUnder [PV.lst (dIs xs), PV.int m] S = .ok (PV.lst (dIs (rot m xs))) S := by
  rw [G, run_def (d := cPutUnder) rfl rfl, ← finO_d S]
  congr 1
  simp -implicitDefEqProofs only [cPutUnder, execs, exec, ev, evs, evB, evT, evI, evC, evO, evL, startE]
  cases xs with
  | nil =>
    have e : rot m ([] : List Int) = [] := by simp -implicitDefEqProofs [rot]
    simp -implicitDefEqProofs [bi_all, bi_any, bi_sum, bi_tup, bi_tupt, bi_lst, bi_lstt, bi_len, bi_lent, bi_sort, bi_sortt, bi_int, bi_abs, bi_intb, src_t, src_l, slc_t, slc_l, zip_t, zip_l, zip_lt, bindT_nm, int_P, add_i, sub_i, mul_i, fdiv_i, mod_i, add_t, lt_i, le_i, gt_i, ge_i, eq_i, ne_i, lcS_vals, forS_vals, allD_map, bools_map, all_map, dIs_nil, e]
  | cons x r =>
    obtain ⟨xs, hx⟩ : ∃ xs, xs = x :: r := ⟨_, rfl⟩
    rw [← hx] at h ⊢
    have hl : 0 < xs.length := by rw [hx]; exact Nat.succ_pos _
    have h0 : ¬ xs = [] := by rw [hx]; exact fun z => nomatch z
    have hd : divOk (xs.length : Int) = true := divOk_p (by omega) (by omega)
    have hm : ∀ y, mulOk (xs.length : Int) y = true := mulOk_l (by omega)
    obtain ⟨k, hk⟩ : ∃ k : Nat, k = m % xs.length := ⟨_, rfl⟩
    have e1 : (m : Int) - (xs.length : Int) * (m : Int).fdiv (xs.length : Int) = (k : Int) := by
      rw [hk]
      rw [Int.fdiv_eq_ediv_of_nonneg _ (by omega)]
      have := Int.emod_def (m : Int) (xs.length : Int)
      rw [← this]
      omega
    have hz : (rot m xs).length ≤ sizeLine := by rw [rot_len]; exact Nat.le_of_lt (ltS' (by omega))
    unfold rot at hz ⊢
    rw [← hk] at hz ⊢
    simp -implicitDefEqProofs [bi_all, bi_any, bi_sum, bi_tup, bi_tupt, bi_lst, bi_lstt, bi_len, bi_lent, bi_sort, bi_sortt, bi_int, bi_abs, bi_intb, src_t, src_l, slc_t, slc_l, zip_t, zip_l, zip_lt, bindT_nm, int_P, add_i, sub_i, mul_i, fdiv_i, mod_i, add_t, lt_i, le_i, gt_i, ge_i, eq_i, ne_i, lcS_vals, forS_vals, allD_map, bools_map, all_map, dIs_len, h0, hd, hm, bindT, e1]
    simp -implicitDefEqProofs only [dIs_cut]
    simp -implicitDefEqProofs only [cut_from, cut_to, add_lI]
    rw [List.length_append] at hz
    rw [if_pos hz]
    simp -implicitDefEqProofs only [Res.ofOpt_some, Res.ofOpt_none, Res.bind_ok, Res.bind_ex, Res.out_ok, Res.out_ex, Out.bind_nx, Out.bind_rt, Out.bind_ex, Out.ofOpt_some, asB_b, Option.map_some, Option.bind_some]
end Mn73

end

section
set_option Elab.async false
set_option linter.all false
set_option maxRecDepth 100000
set_option maxHeartbeats 1000000
namespace Mn73
open Mn
open PySem (PyData Str sizeLine)
section
variable (n : Nat) (b t : Nat) (v : PV) (S : Sto)
def Cdb (n : Nat) : Env' → Sto → Res Bool := evT (run pD 1000000 n) 1000000 (.cmp .gt (.bi .len (.cons (.var 4) .nil)) (.lit (.int 0)))
def Bdb (n : Nat) : Env' → Sto → Out := execs (run pD 1000000 n) 1000000 cDealtBy_b1
theorem db_c (xs acc : List Int) : Cdb n [some v, some (PV.int b), some (PV.int t), some (.r S.length), some (PV.lst (dIs xs))] (S ++ [.lst ((dIs acc).map PV.d)]) = .ok (decide (0 < xs.length)) (S ++ [.lst ((dIs acc).map PV.d)]) := by
  unfold Cdb
  simp -implicitDefEqProofs only [execs, exec, ev, evs, evB, evT, evI, evC, evO, evL, startE]
  simp -implicitDefEqProofs [bi_all, bi_any, bi_sum, bi_tup, bi_tupt, bi_lst, bi_lstt, bi_len, bi_lent, bi_sort, bi_sortt, bi_int, bi_abs, bi_intb, src_t, src_l, slc_t, slc_l, zip_t, zip_l, zip_lt, bindT_nm, int_P, add_i, sub_i, mul_i, fdiv_i, mod_i, add_t, lt_i, le_i, gt_i, ge_i, eq_i, ne_i, lcS_vals, forS_vals, allD_map, bools_map, all_map, dIs_len]
theorem db_b (x : Int) (r acc : List Int) (h : r.length ≤ 1000) (ha : acc.length ≤ 1000) : Bdb (n + 1) [some v, some (PV.int b), some (PV.int t), some (.r S.length), some (PV.lst (dIs (x :: r)))] (S ++ [.lst ((dIs acc).map PV.d)]) =
    .nx [some v, some (PV.int b), some (PV.int t), some (.r S.length), some (PV.lst (dIs (rot t r)))] (S ++ [.lst ((dIs (acc ++ [x])).map PV.d)]) := by
  unfold Bdb
  simp -implicitDefEqProofs only [cDealtBy_b1, execs, exec, ev, evs, evB, evT, evI, evC, evO, evL, startE]
  have e2 := put_under n r t (S ++ [.lst ((dIs (acc ++ [x])).map PV.d)]) h
  have e3 := app_last S (dIs acc) (.int x) (by rw [dIs_len]; exact ltS' (by omega))
  rw [show dIs acc ++ [PyData.int x] = dIs (acc ++ [x]) from dIs_app acc [x]] at e3
  simp -implicitDefEqProofs [bi_all, bi_any, bi_sum, bi_tup, bi_tupt, bi_lst, bi_lstt, bi_len, bi_lent, bi_sort, bi_sortt, bi_int, bi_abs, bi_intb, src_t, src_l, slc_t, slc_l, zip_t, zip_l, zip_lt, bindT_nm, int_P, add_i, sub_i, mul_i, fdiv_i, mod_i, add_t, lt_i, le_i, gt_i, ge_i, eq_i, ne_i, lcS_vals, forS_vals, allD_map, bools_map, all_map, last_isL, idx_hlI, e3, cut_tl, bindT, e2]
theorem db_loop : ∀ (k : Nat) (xs acc : List Int) (N : Nat), xs.length = k → k < N → k + acc.length ≤ 1000 → whileL (Cdb (n + 1)) (Bdb (n + 1)) N [some v, some (PV.int b), some (PV.int t), some (.r S.length), some (PV.lst (dIs xs))] (S ++ [.lst ((dIs acc).map PV.d)]) =
    .nx [some v, some (PV.int b), some (PV.int t), some (.r S.length), some (PV.lst [])] (S ++ [.lst ((dIs (acc ++ dealN t k xs)).map PV.d)])
  | 0, [], acc, N + 1, _, _, _ => by
    rw [while_f (db_c (n + 1) b t v S [] acc)]
    simp -implicitDefEqProofs [dealN, dIs_nil]
  | k + 1, x :: r, acc, N + 1, h, hN, hl => by
    have hr : r.length = k := Nat.succ.inj h
    rw [while_t (db_c (n + 1) b t v S (x :: r) acc) (db_b n b t v S x r acc (by omega) (by omega)), db_loop k (rot t r) (acc ++ [x]) N (by rw [rot_len]; exact hr) (by omega) (by simp; omega)]
    simp -implicitDefEqProofs [dealN]
  | 0, _ :: _, _, _, h, _, _ => by cases h
  | _ + 1, [], _, _, h, _, _ => by cases h
  | _, _, _, 0, _, h, _ => by omega
end
theorem dealt_by (n : Nat) (v : PV) (xs : List Int) (b t : Nat) (S : Sto) (hv : ∀ S, seqD S v = some (dIs xs)) (h : xs.length ≤ 1000) : G (n + 2) iDealtBy [v, PV.int b, PV.int t] S = .ok (PV.lst (dIs (dealP t (rot b xs)))) S := by
  rw [G, run_def (d := cDealtBy) rfl rfl]
  have e1 := put_under n xs b (S ++ [.lst []]) h
  have key := db_loop n b t v S xs.length (rot b xs) [] 1000000 (rot_len b xs) (by omega) (by simp; exact h)
  unfold Cdb Bdb at key
  have hz : ([] : List PV).length < sizeLine := ltS' (by simp)
  simp -implicitDefEqProofs only [dIs_nil, List.map_nil, List.nil_append] at key
  simp -implicitDefEqProofs only [cDealtBy, execs, exec, ev, evs, evB, evT, evI, evC, evO, evL, startE]
  simp -implicitDefEqProofs only [Res.ofOpt_some, Res.ofOpt_none, Res.bind_ok, Res.bind_ex, Res.out_ok, Res.out_ex, Out.bind_nx, Out.bind_rt, Out.bind_ex, Out.ofOpt_some, asB_b, Option.map_some, Option.bind_some, if_pos hz, newF_nil]
  simp -implicitDefEqProofs [bi_list_of (hv _), setPar, e1]
  rw [key]
  simp -implicitDefEqProofs only [Res.ofOpt_some, Res.ofOpt_none, Res.bind_ok, Res.bind_ex, Res.out_ok, Res.out_ex, Out.bind_nx, Out.bind_rt, Out.bind_ex, Out.ofOpt_some, asB_b, Option.map_some, Option.bind_some]
  rw [← rot_len b xs]
  exact finO_cell1 S _
end Mn73

end

section
set_option Elab.async false
set_option linter.all false
set_option maxRecDepth 100000
set_option maxHeartbeats 1000000
namespace Mn73
open Mn
open PySem (PyData Str sizeLine)
theorem raw_down (n : Nat) (xs : List Int) (S : Sto) (h : xs.length ≤ 1000) : G (n + 3) iRawDown [PV.tup (dIs xs)] S = .ok (PV.tup (dIs (dealP 1 xs))) S := by
  rw [G, run_def (d := cRawDown) rfl rfl, ← finO_d S]
  congr 1
  have e := dealt_by n (PV.tup (dIs xs)) xs 0 1 S (fun _ => rfl) h
  rw [rot_zero] at e
  rw [show ((0 : Nat) : Int) = 0 from rfl, show ((1 : Nat) : Int) = 1 from rfl] at e
  simp -implicitDefEqProofs only [cRawDown, execs, exec, ev, evs, evB, evT, evI, evC, evO, evL, startE]
  simp -implicitDefEqProofs [e, bi_all, bi_any, bi_sum, bi_tup, bi_tupt, bi_lst, bi_lstt, bi_len, bi_lent, bi_sort, bi_sortt, bi_int, bi_abs, bi_intb, src_t, src_l, slc_t, slc_l, zip_t, zip_l, zip_lt, bindT_nm, int_P, add_i, sub_i, mul_i, fdiv_i, mod_i, add_t, lt_i, le_i, gt_i, ge_i, eq_i, ne_i, lcS_vals, forS_vals, allD_map, bools_map, all_map]
theorem down_under (n : Nat) (xs : List Int) (S : Sto) (h : deckD (.tuple (dIs xs)) = true) (hl : xs.length ≤ 1000) : G (n + 6) iDownUnder [PV.tup (dIs xs)] S = .ok (PV.tup (dIs (dealP 1 xs))) S := by
  rw [G, run_def (d := cDownUnder) rfl rfl, ← finO_d S]
  congr 1
  simp -implicitDefEqProofs only [cDownUnder, execs, exec, ev, evs, evB, evT, evI, evC, evO, evL, startE]
  simp -implicitDefEqProofs [check_deck, h, raw_down _ xs S hl]
theorem down_underX (n : Nat) (x : PyData) (S : Sto) (h : deckD x = false) : G (n + 6) iDownUnder [.d x] S = .ex xNoDeck none S := by
  rw [G, run_def (d := cDownUnder) rfl rfl, ← finO_x S [some (.d x)]]
  congr 1
  simp -implicitDefEqProofs only [cDownUnder, execs, exec, ev, evs, evB, evT, evI, evC, evO, evL, startE]
  simp -implicitDefEqProofs [check_deck, h]
theorem dealP_last {xs : List Int} (h : 0 < xs.length) : ∃ z, (dealP 1 xs).getLast? = some z := by
  cases e : dealP 1 xs with
  | nil =>
    have := dealP_len 1 xs
    rw [e, List.length_nil] at this
    omega
  | cons a b => exact ⟨(a :: b).getLast (fun z => nomatch z), List.getLast?_eq_some_getLast _⟩
theorem last_dIs {ys : List Int} {z : Int} (h : ys.getLast? = some z) : (dIs ys).getLast? = some (.int z) := by
  unfold dIs
  rw [List.getLast?_map, h]
  rfl
theorem last_down (n m : Nat) (S : Sto) (h1 : 1 ≤ m) (h2 : m ≤ 20) (z : Int) (hz : (dealP 1 (iota m)).getLast? = some z) : G (n + 4) iLastDown [PV.int m] S = .ok (PV.int z) S := by
  rw [G, run_def (d := cLastDown) rfl rfl, ← finO_d S]
  congr 1
  have e := dealt_by (n + 1) (PV.lst (dIs (iota m))) (iota m) 0 1 S (fun _ => rfl) (by rw [iota_len]; omega)
  rw [rot_zero] at e
  rw [show ((0 : Nat) : Int) = 0 from rfl, show ((1 : Nat) : Int) = 1 from rfl] at e
  have hin : inD (.int (m : Int)) 1 20 = true := by
    simp -implicitDefEqProofs [inD]
    omega
  have e2 := rnglF_iota m (by omega) S
  simp -implicitDefEqProofs only [cLastDown, execs, exec, ev, evs, evB, evT, evI, evC, evO, evL, startE]
  simp -implicitDefEqProofs [check_size, hin, bi_all, bi_any, bi_sum, bi_tup, bi_tupt, bi_lst, bi_lstt, bi_len, bi_lent, bi_sort, bi_sortt, bi_int, bi_abs, bi_intb, src_t, src_l, slc_t, slc_l, zip_t, zip_l, zip_lt, bindT_nm, int_P, add_i, sub_i, mul_i, fdiv_i, mod_i, add_t, lt_i, le_i, gt_i, ge_i, eq_i, ne_i, lcS_vals, forS_vals, allD_map, bools_map, all_map, rg1_iota m (by omega), e2, e, (idx_last (S := S) (last_dIs hz)).1]
theorem last_downX (n : Nat) (x : PyData) (S : Sto) (h : inD x 1 20 = false) : G (n + 4) iLastDown [.d x] S = .ex xNoSize none S := by
  rw [G, run_def (d := cLastDown) rfl rfl, ← finO_x S [some (.d x)]]
  congr 1
  simp -implicitDefEqProofs only [cLastDown, execs, exec, ev, evs, evB, evT, evI, evC, evO, evL, startE]
  simp -implicitDefEqProofs [check_size, h]
theorem every_nth (n : Nat) (xs : List Int) (m : Nat) (S : Sto) (h : deckD (.tuple (dIs xs)) = true) (hl : xs.length ≤ 1000) (h1 : 1 ≤ m) (h2 : m ≤ 60) : G (n + 6) iEveryNth [PV.tup (dIs xs), PV.int m] S = .ok (PV.tup (dIs (dealP (m - 1) (rot (m - 1) xs)))) S := by
  rw [G, run_def (d := cEveryNth) rfl rfl, ← finO_d S]
  congr 1
  have hin : inD (.int (m : Int)) 1 60 = true := by
    simp -implicitDefEqProofs [inD]
    omega
  have e := dealt_by (n + 3) (PV.tup (dIs xs)) xs (m - 1) (m - 1) S (fun _ => rfl) hl
  have em : ((m - 1 : Nat) : Int) = (m : Int) - 1 := by omega
  rw [em] at e
  simp -implicitDefEqProofs only [cEveryNth, execs, exec, ev, evs, evB, evT, evI, evC, evO, evL, startE]
  simp -implicitDefEqProofs [check_deck, h, is_within, hin, bi_all, bi_any, bi_sum, bi_tup, bi_tupt, bi_lst, bi_lstt, bi_len, bi_lent, bi_sort, bi_sortt, bi_int, bi_abs, bi_intb, src_t, src_l, slc_t, slc_l, zip_t, zip_l, zip_lt, bindT_nm, int_P, add_i, sub_i, mul_i, fdiv_i, mod_i, add_t, lt_i, le_i, gt_i, ge_i, eq_i, ne_i, lcS_vals, forS_vals, allD_map, bools_map, all_map, e]
theorem every_nthX (n : Nat) (x y : PyData) (S : Sto) (h : deckD x = false) : G (n + 6) iEveryNth [.d x, .d y] S = .ex xNoDeck none S := by
  rw [G, run_def (d := cEveryNth) rfl rfl, ← finO_x S [some (.d x), some (.d y)]]
  congr 1
  simp -implicitDefEqProofs only [cEveryNth, execs, exec, ev, evs, evB, evT, evI, evC, evO, evL, startE]
  simp -implicitDefEqProofs [check_deck, h]
theorem every_nthY (n : Nat) (x y : PyData) (S : Sto) (h : deckD x = true) (hy : inD y 1 60 = false) : G (n + 6) iEveryNth [.d x, .d y] S = .ex xNoNumber none S := by
  rw [G, run_def (d := cEveryNth) rfl rfl, ← finO_x S [some (.d x), some (.d y)]]
  congr 1
  simp -implicitDefEqProofs only [cEveryNth, execs, exec, ev, evs, evB, evT, evI, evC, evO, evL, startE]
  simp -implicitDefEqProofs [check_deck, h, is_within, hy]
/-! deck_for -/
theorem deck_forX (n : Nat) (x : PyData) (S : Sto) (h : deckD x = false) : G (n + 6) iDeckFor [.d x] S = .ex xNoDeck none S := by
  rw [G, run_def (d := cDeckFor) rfl rfl, ← finO_x S [some (.d x), none, none, none]]
  congr 1
  simp -implicitDefEqProofs only [cDeckFor, execs, exec, ev, evs, evB, evT, evI, evC, evO, evL, startE]
  simp -implicitDefEqProofs [check_deck, h]
def Bdf (n : Nat) : PV → Env' → Sto → Out := fun x e1 S2 => Out.ofOpt (bindT (.tup [2, 3]) x e1) fun e2 => execs (run pD 1000000 n) 1000000 cDeckFor_b1 e2 S2
theorem df_loop (n : Nat) (a : PV) (S : Sto) : ∀ (prs : List (Int × Int)) (c : List PyData) (u v : Option PV), (∀ p ∈ prs, 0 ≤ p.1 ∧ p.1 < c.length) → ∃ u' v', forV (Bdf n) ((dPs prs).map PV.d) [some a, some (.r S.length), u, v] (S ++ [.lst (c.map PV.d)]) = .nx [some a, some (.r S.length), u', v'] (S ++ [.lst ((putsI c prs).map PV.d)])
  | [], c, u, v, _ => ⟨u, v, rfl⟩
  | p :: prs, c, u, v, h => by
    have hp := h p List.mem_cons_self
    obtain ⟨u', v', e⟩ := df_loop n a S prs (c.set p.1.toNat (.int p.2)) (some (PV.int p.1)) (some (PV.int p.2)) (fun q hq => by rw [List.length_set]; exact h q (List.mem_cons_of_mem _ hq))
    refine ⟨u', v', ?_⟩
    show forV (Bdf n) (PV.tup [.int p.1, .int p.2] :: (dPs prs).map PV.d) _ _ = _
    rw [forV_cons]
    have e1 : Bdf n (PV.tup [.int p.1, .int p.2]) [some a, some (.r S.length), u, v] (S ++ [.lst (c.map PV.d)]) = .nx [some a, some (.r S.length), some (PV.int p.1), some (PV.int p.2)] (S ++ [.lst ((c.set p.1.toNat (.int p.2)).map PV.d)]) := by
      unfold Bdf
      have ix : ixAt c.length p.1 = some p.1.toNat := by
        unfold ixAt
        rw [if_pos hp.1, if_pos hp.2]
      have es : setV (S ++ [.lst (c.map PV.d)]) (.r S.length) (PV.int p.1) (PV.int p.2) = some (S ++ [.lst ((c.set p.1.toNat (.int p.2)).map PV.d)]) := by
        show (if true then match (S ++ [Cell.lst (c.map PV.d)])[S.length]? with
          | some (.lst xs) => (ixAt xs.length p.1).map fun j => (S ++ [Cell.lst (c.map PV.d)]).set S.length (.lst (xs.set j (PV.int p.2)))
          | _ => none else none) = _
        rw [if_pos rfl, last_at]
        show (ixAt (c.map PV.d).length p.1).map _ = _
        rw [List.length_map, ix, Option.map_some, last_set, List.map_set]
      simp -implicitDefEqProofs only [cDeckFor_b1, execs, exec, ev, evs, evB, evT, evI, evC, evO, evL, startE]
      simp -implicitDefEqProofs [bindT, setAll, es]
    rw [e1, Out.bind_nx, e]
    rfl
theorem deck_for (n : Nat) (d : List Int) (S : Sto) (h : deckD (.tuple (dIs (dealP 1 d))) = true) (hl : d.length ≤ 1000) : G (n + 6) iDeckFor [PV.tup (dIs (dealP 1 d))] S = .ok (PV.tup (dIs d)) S := by
  rw [G, run_def (d := cDeckFor) rfl rfl]
  obtain ⟨ys, hy⟩ : ∃ ys, ys = dealP 1 d := ⟨_, rfl⟩
  rw [← hy] at h ⊢
  have ly : ys.length = d.length := by rw [hy, dealP_len]
  obtain ⟨ps, hps⟩ : ∃ ps, ps = dealP 1 (iota d.length) := ⟨_, rfl⟩
  have pp : ps.Perm (iota d.length) := by rw [hps]; exact dealP_perm 1 _
  have ey : ys = ps.map fun p => d.getD p.toNat 0 := by
    rw [hy, hps, ← dealP_map, ← iota_get]
  obtain ⟨c0, hc0⟩ : ∃ c0, c0 = List.replicate d.length PyData.none := ⟨_, rfl⟩
  have lc : c0.length = d.length := by rw [hc0, List.length_replicate]
  have e := dealt_by (n + 3) (PV.lst (dIs (iota d.length))) (iota d.length) 0 1 (S ++ [.lst (c0.map PV.d)]) (fun _ => rfl) (by rw [iota_len]; omega)
  rw [rot_zero, ← hps] at e
  rw [show ((0 : Nat) : Int) = 0 from rfl, show ((1 : Nat) : Int) = 1 from rfl] at e
  obtain ⟨u', v', lp⟩ := df_loop (n + 5) (PV.tup (dIs ys)) S (ps.zip ys) c0 none none (fun p hp => by
    have := mem_iota.mp (pp.mem_iff.mp (List.of_mem_zip hp).1)
    rw [lc]
    exact this)
  have ef : putsI c0 (ps.zip ys) = dIs d := by
    rw [ey, zip_map_self]
    exact putsI_all d ps pp _ lc
  rw [ef] at lp
  unfold Bdf at lp
  have em := mulLV_one .none d.length (by omega)
  rw [← hc0] at em
  have en := newF_d S c0
  have e2 := rnglF_iota d.length (by omega) (S ++ [.lst (c0.map PV.d)])
  have ez := zip_dIs ps ys
  have h1 : 1 ≤ sizeLine := Nat.le_of_lt (ltS' (by omega))
  have hs : seqD (S ++ [.lst ((dIs d).map PV.d)]) (.r S.length) = some (dIs d) := last_seq S (dIs d)
  simp -implicitDefEqProofs only [cDeckFor, execs, exec, ev, evs, evB, evT, evI, evC, evO, evL, startE]
  simp -implicitDefEqProofs [check_deck, h, bi_all, bi_any, bi_sum, bi_tup, bi_tupt, bi_lst, bi_lstt, bi_len, bi_lent, bi_sort, bi_sortt, bi_int, bi_abs, bi_intb, src_t, src_l, slc_t, slc_l, zip_t, zip_l, zip_lt, bindT_nm, int_P, add_i, sub_i, mul_i, fdiv_i, mod_i, add_t, lt_i, le_i, gt_i, ge_i, eq_i, ne_i, lcS_vals, forS_vals, allD_map, bools_map, all_map, dIs_len, ly, h1, allD, em, en, rg1_iota d.length (by omega), e2, e, ez]
  rw [lp]
  simp -implicitDefEqProofs only [Res.ofOpt_some, Res.ofOpt_none, Res.bind_ok, Res.bind_ex, Res.out_ok, Res.out_ex, Out.bind_nx, Out.bind_rt, Out.bind_ex, Out.ofOpt_some, asB_b, Option.map_some, Option.bind_some, bi_tup_of hs]
  simp -implicitDefEqProofs [bi_tup_of hs]
  exact finO_da S _ _
end Mn73

end

section
set_option Elab.async false
set_option linter.all false
set_option maxRecDepth 100000
set_option maxHeartbeats 2000000
namespace Mn73
open Mn
open PySem (PyData Str sizeLine)
/-! ### the draws -/
def drawRest : Stms := match c@DRAW@.body with
  | .cons _ r => r
  | _ => .nil
def drawHead : Stm := match c@DRAW@.body with
  | .cons s _ => s
  | _ => .pass
theorem draw_rest (n : Nat) (h : Hd) (R : Sto) (many : Int) (ok : h.ok) (h0 : 0 < many) (h1 : many < 1000000) (a b c : Option PV) :
    ∃ (v : Int) (h' : Hd), h'.ok ∧ 0 ≤ v ∧ v < many ∧ execs (run pD 1000000 n) 1000000 drawRest [some (.r 1), some (PV.int many), a, b, c] (h.st R) = .rt (PV.int v) (h'.st R) := by
  have hd : divOk many = true := divOk_p h0 (by omega)
  have hm0 : many ≠ 0 := by omega
  by_cases hl : 0 < h.l
  · refine ⟨h.l.fmod many, ⟨h.cs, h.i, h.l.fdiv many, h.m, h.k⟩, ⟨ok.1, ok.2.1, ?_⟩, (mod_pos _ _ h0).1, (mod_pos _ _ h0).2, ?_⟩
    · show 0 ≤ h.l.fdiv many
      rw [Int.fdiv_eq_ediv_of_nonneg _ (by omega)]
      exact Int.ediv_nonneg (by omega) (by omega)
    · simp -implicitDefEqProofs only [drawRest, c@DRAW@, execs, exec, ev, evs, evB, evT, evI, evC, evO, evL, startE]
      simp -implicitDefEqProofs [bi_all, bi_any, bi_sum, bi_tup, bi_tupt, bi_lst, bi_lstt, bi_len, bi_lent, bi_sort, bi_sortt, bi_int, bi_abs, bi_intb, src_t, src_l, slc_t, slc_l, zip_t, zip_l, zip_lt, bindT_nm, int_P, add_i, sub_i, mul_i, fdiv_i, mod_i, add_t, lt_i, le_i, gt_i, ge_i, eq_i, ne_i, lcS_vals, forS_vals, allD_map, bools_map, all_map, hd_0, hd_1, hd_2, hd_3, hd_4, hd_s1, hd_s2, hd_s3, hd_s4, hd_len, hl, hd, hm0]
  · have key : ∃ w : Int, execs (run pD 1000000 n) 1000000 drawRest [some (.r 1), some (PV.int many), a, b, c] (h.st R) = .rt (PV.int (w.fmod many)) ((⟨h.cs, h.i, h.l, h.m, h.k + 1⟩ : Hd).st R) := by
      refine ⟨?w, ?p3⟩
      case p3 =>
        simp -implicitDefEqProofs only [drawRest, c@DRAW@, execs, exec, ev, evs, evB, evT, evI, evC, evO, evL, startE]
        simp -implicitDefEqProofs [bi_all, bi_any, bi_sum, bi_tup, bi_tupt, bi_lst, bi_lstt, bi_len, bi_lent, bi_sort, bi_sortt, bi_int, bi_abs, bi_intb, src_t, src_l, slc_t, slc_l, zip_t, zip_l, zip_lt, bindT_nm, int_P, add_i, sub_i, mul_i, fdiv_i, mod_i, add_t, lt_i, le_i, gt_i, ge_i, eq_i, ne_i, lcS_vals, forS_vals, allD_map, bools_map, all_map, hd_0, hd_1, hd_2, hd_3, hd_4, hd_s1, hd_s2, hd_s3, hd_s4, hd_len, hl, hd, hm0, mulOk_fmod, mulOk_lit, mulOk_litl, divOk_p]
        rfl
    obtain ⟨w, hw⟩ := key
    exact ⟨_, ⟨h.cs, h.i, h.l, h.m, h.k + 1⟩, ⟨ok.1, ok.2.1, ok.2.2⟩, (mod_pos _ _ h0).1, (mod_pos _ _ h0).2, hw⟩
theorem draw_head (n : Nat) (h : Hd) (R : Sto) (many : Int) (ok : h.ok) :
    ∃ (b : Option PV) (h' : Hd), h'.ok ∧ exec (run pD 1000000 n) 1000000 drawHead [some (.r 1), some (PV.int many), none, none, none] (h.st R) = .nx [some (.r 1), some (PV.int many), none, b, none] (h'.st R) := by
  by_cases hl : h.l = 0
  · by_cases hi : h.i < (h.cs.length : Int)
    · have hlt : h.i.toNat < h.cs.length := by have := ok.2.1; omega
      obtain ⟨z, hz⟩ : ∃ z, h.cs[h.i.toNat]? = some z := ⟨_, List.getElem?_eq_getElem hlt⟩
      have hz0 : 0 ≤ z := ok.1 z (List.mem_of_getElem? hz)
      have e1 := hd_at h R h.i.toNat z hz
      rw [Int.toNat_of_nonneg ok.2.1] at e1
      by_cases hc : (1000000000000000000 : Int) ≤ z
      · have key : ∃ m : Int, exec (run pD 1000000 n) 1000000 drawHead [some (.r 1), some (PV.int many), none, none, none] (h.st R) = .nx [some (.r 1), some (PV.int many), none, some (PV.int z), none] ((⟨h.cs, h.i + 1, z, m, h.k⟩ : Hd).st R) := by
          refine ⟨?m1, ?q1⟩
          case q1 =>
            simp -implicitDefEqProofs only [drawHead, c@DRAW@, execs, exec, ev, evs, evB, evT, evI, evC, evO, evL, startE]
            simp -implicitDefEqProofs [bi_all, bi_any, bi_sum, bi_tup, bi_tupt, bi_lst, bi_lstt, bi_len, bi_lent, bi_sort, bi_sortt, bi_int, bi_abs, bi_intb, src_t, src_l, slc_t, slc_l, zip_t, zip_l, zip_lt, bindT_nm, int_P, add_i, sub_i, mul_i, fdiv_i, mod_i, add_t, lt_i, le_i, gt_i, ge_i, eq_i, ne_i, lcS_vals, forS_vals, allD_map, bools_map, all_map, hd_0, hd_1, hd_2, hd_3, hd_4, hd_s1, hd_s2, hd_s3, hd_s4, hd_len, hl, hi, e1, mulOk_lit, pow18, hc]
            rfl
        obtain ⟨m, hm⟩ := key
        exact ⟨some (PV.int z), ⟨h.cs, h.i + 1, z, m, h.k⟩, ⟨ok.1, by have := ok.2.1; show 0 ≤ h.i + 1; omega, hz0⟩, hm⟩
      · have key : ∃ m : Int, exec (run pD 1000000 n) 1000000 drawHead [some (.r 1), some (PV.int many), none, none, none] (h.st R) = .nx [some (.r 1), some (PV.int many), none, some (PV.int z), none] ((⟨h.cs, h.i + 1, h.l, m, h.k⟩ : Hd).st R) := by
          refine ⟨?m2, ?q2⟩
          case q2 =>
            simp -implicitDefEqProofs only [drawHead, c@DRAW@, execs, exec, ev, evs, evB, evT, evI, evC, evO, evL, startE]
            simp -implicitDefEqProofs [bi_all, bi_any, bi_sum, bi_tup, bi_tupt, bi_lst, bi_lstt, bi_len, bi_lent, bi_sort, bi_sortt, bi_int, bi_abs, bi_intb, src_t, src_l, slc_t, slc_l, zip_t, zip_l, zip_lt, bindT_nm, int_P, add_i, sub_i, mul_i, fdiv_i, mod_i, add_t, lt_i, le_i, gt_i, ge_i, eq_i, ne_i, lcS_vals, forS_vals, allD_map, bools_map, all_map, hd_0, hd_1, hd_2, hd_3, hd_4, hd_s1, hd_s2, hd_s3, hd_s4, hd_len, hl, hi, e1, mulOk_lit, pow18, hc]
            rfl
        obtain ⟨m, hm⟩ := key
        exact ⟨some (PV.int z), ⟨h.cs, h.i + 1, h.l, m, h.k⟩, ⟨ok.1, by have := ok.2.1; show 0 ≤ h.i + 1; omega, ok.2.2⟩, hm⟩
    · refine ⟨none, h, ok, ?_⟩
      simp -implicitDefEqProofs only [drawHead, c@DRAW@, execs, exec, ev, evs, evB, evT, evI, evC, evO, evL, startE]
      simp -implicitDefEqProofs [bi_all, bi_any, bi_sum, bi_tup, bi_tupt, bi_lst, bi_lstt, bi_len, bi_lent, bi_sort, bi_sortt, bi_int, bi_abs, bi_intb, src_t, src_l, slc_t, slc_l, zip_t, zip_l, zip_lt, bindT_nm, int_P, add_i, sub_i, mul_i, fdiv_i, mod_i, add_t, lt_i, le_i, gt_i, ge_i, eq_i, ne_i, lcS_vals, forS_vals, allD_map, bools_map, all_map, hd_0, hd_1, hd_2, hd_3, hd_4, hd_s1, hd_s2, hd_s3, hd_s4, hd_len, hl, hi]
  · refine ⟨none, h, ok, ?_⟩
    simp -implicitDefEqProofs only [drawHead, c@DRAW@, execs, exec, ev, evs, evB, evT, evI, evC, evO, evL, startE]
    simp -implicitDefEqProofs [bi_all, bi_any, bi_sum, bi_tup, bi_tupt, bi_lst, bi_lstt, bi_len, bi_lent, bi_sort, bi_sortt, bi_int, bi_abs, bi_intb, src_t, src_l, slc_t, slc_l, zip_t, zip_l, zip_lt, bindT_nm, int_P, add_i, sub_i, mul_i, fdiv_i, mod_i, add_t, lt_i, le_i, gt_i, ge_i, eq_i, ne_i, lcS_vals, forS_vals, allD_map, bools_map, all_map, hd_0, hd_1, hd_2, hd_3, hd_4, hd_s1, hd_s2, hd_s3, hd_s4, hd_len, hl]
/-- a number that is drawn -/
theorem draw (n : Nat) (h : Hd) (R : Sto) (many : Int) (ok : h.ok) (h0 : 0 < many) (h1 : many < 1000000) : ∃ (v : Int) (h' : Hd), h'.ok ∧ 0 ≤ v ∧ v < many ∧ G (n + 1) i@DRAW@ [.r 1, PV.int many] (h.st R) = .ok (PV.int v) (h'.st R) := by
  obtain ⟨b, g, og, e1⟩ := draw_head n h R many ok
  obtain ⟨v, g', og', v0, v1, e2⟩ := draw_rest n g R many og h0 h1 none b none
  refine ⟨v, g', og', v0, v1, ?_⟩
  rw [G, run_def (d := c@DRAW@) rfl rfl, ← finO_len (h.st R) (g'.st R) _ (Hd.len _ _ _ _ rfl)]
  congr 1
  show (exec (run pD 1000000 n) 1000000 drawHead [some (.r 1), some (PV.int many), none, none, none] (h.st R)).bind (fun e1 S1 => execs (run pD 1000000 n) 1000000 drawRest e1 S1) = _
  rw [e1, Out.bind_nx, e2]
end Mn73

end

section
set_option Elab.async false
set_option linter.all false
set_option maxRecDepth 100000
set_option maxHeartbeats 2000000
namespace Mn73
open Mn
open PySem (PyData Str sizeLine)
/-! ### one of several, mixed -/
theorem any_one (n : Nat) (h : Hd) (R : Sto) (xs : List PyData) (ok : h.ok) (h0 : 0 < xs.length) (h1 : xs.length < 1000000) : ∃ (x : PyData) (h' : Hd), h'.ok ∧ x ∈ xs ∧ G (n + 2) iLawAny [.r 1, .d (.list xs)] (h.st R) = .ok (.d x) (h'.st R) := by
  obtain ⟨v, g, og, v0, v1, e⟩ := draw n h R xs.length ok (by omega) (by omega)
  have hlt : v.toNat < xs.length := by omega
  refine ⟨xs[v.toNat], g, og, List.getElem_mem hlt, ?_⟩
  rw [G, run_def (d := cLawAny) rfl rfl, ← finO_len (h.st R) (g.st R) _ (Hd.len _ _ _ _ rfl)]
  congr 1
  simp -implicitDefEqProofs only [cLawAny, execs, exec, ev, evs, evB, evT, evI, evC, evO, evL, startE]
  simp -implicitDefEqProofs [bi_all, bi_any, bi_sum, bi_tup, bi_tupt, bi_lst, bi_lstt, bi_len, bi_lent, bi_sort, bi_sortt, bi_int, bi_abs, bi_intb, src_t, src_l, slc_t, slc_l, zip_t, zip_l, zip_lt, bindT_nm, int_P, add_i, sub_i, mul_i, fdiv_i, mod_i, add_t, lt_i, le_i, gt_i, ge_i, eq_i, ne_i, lcS_vals, forS_vals, allD_map, bools_map, all_map, idx_l, e, ix_in v0 v1, List.getElem?_eq_getElem hlt]
end Mn73

end

section
set_option Elab.async false
set_option linter.all false
set_option maxRecDepth 100000
set_option maxHeartbeats 2000000
namespace Mn73
open Mn
open PySem (PyData Str sizeLine)
/-! ### cards drawn -/
def Bcd (n : Nat) : PV → Env' → Sto → Out := fun x e1 S2 => execs (run pD 1000000 n) 1000000 cLawCards_b1 (e1.set 3 (some x)) S2
theorem cd_b (n : Nat) (p q u : Option PV) (k : PV) (h : Hd) (R : Sto) (a b : List PyData) (ok : h.ok) (h0 : 0 < a.length) (h1 : a.length < 1000000) (hb : b.length < sizeLine) : ∃ (x : PyData) (a' : List PyData) (h' : Hd), h'.ok ∧ (x :: a').Perm a ∧ Bcd (n + 1) k [some (.r 1), p, q, u, some (.r (h.st R).length), some (.r ((h.st R).length + 1))] (two (h.st R) a b) = .nx [some (.r 1), p, q, some k, some (.r (h.st R).length), some (.r ((h.st R).length + 1))] (two (h'.st R) a' (b ++ [x])) := by
  obtain ⟨v, g, og, v0, v1, e⟩ := draw n h (two R a b) a.length ok (by omega) (by omega)
  have hlt : v.toNat < a.length := by omega
  have hx := List.getElem?_eq_getElem hlt
  refine ⟨a[v.toNat], a.eraseIdx v.toNat, g, og, era_perm a _ hlt, ?_⟩
  rw [← two_hd, ← two_hd] at e
  have hl : (g.st R).length = (h.st R).length := rfl
  have e2 := two_pop (g.st R) a b v _ v0 hx
  have e3 := two_app (g.st R) (a.eraseIdx v.toNat) b a[v.toNat] hb
  rw [hl] at e2 e3
  unfold Bcd
  simp -implicitDefEqProofs only [cLawCards_b1, execs, exec, ev, evs, evB, evT, evI, evC, evO, evL, startE]
  simp -implicitDefEqProofs [two_is0, two_is1, two_len0, e, e2, e3]
theorem cd_loop (n : Nat) (p q : Option PV) (R : Sto) : ∀ (ks : List PV) (u : Option PV) (h : Hd) (a b : List PyData), h.ok → ks.length ≤ a.length → a.length + b.length < 1000000 → ∃ (u' : Option PV) (ys zs : List PyData) (h' : Hd), h'.ok ∧ (ys ++ zs).Perm a ∧ ys.length = ks.length ∧ forV (Bcd (n + 1)) ks [some (.r 1), p, q, u, some (.r (h.st R).length), some (.r ((h.st R).length + 1))] (two (h.st R) a b) = .nx [some (.r 1), p, q, u', some (.r (h.st R).length), some (.r ((h.st R).length + 1))] (two (h'.st R) zs (b ++ ys))
  | [], u, h, a, b, ok, _, _ => ⟨u, [], a, h, ok, .refl _, rfl, by rw [List.append_nil]; rfl⟩
  | k :: ks, u, h, a, b, ok, hk, hl => by
    obtain ⟨x, a', g, og, pr, e⟩ := cd_b n p q u k h R a b ok (by rw [List.length_cons] at hk; omega) (by omega) (ltS' (by omega))
    have la : a'.length + 1 = a.length := by
      have := pr.length_eq
      rw [List.length_cons] at this
      exact this
    obtain ⟨u', ys, zs, g', og', pr', ly, e'⟩ := cd_loop n p q R ks (some k) g a' (b ++ [x]) og (by rw [List.length_cons] at hk; omega) (by rw [List.length_append, List.length_singleton]; omega)
    refine ⟨u', x :: ys, zs, g', og', (pr'.cons x).trans pr, by rw [List.length_cons, ly, List.length_cons], ?_⟩
    rw [forV_cons, e, Out.bind_nx]
    rw [show b ++ x :: ys = b ++ [x] ++ ys by simp]
    exact e'
theorem cards (n : Nat) (h : Hd) (R : Sto) (many low : Nat) (ok : h.ok) (hm : many + low ≤ 52) : ∃ (ys : List Int) (h' : Hd), h'.ok ∧ ys.length = many ∧ ys.Nodup ∧ (∀ y ∈ ys, (low : Int) ≤ y ∧ y ≤ 51) ∧ G (n + 2) iLawCards [.r 1, PV.int many, PV.int low] (h.st R) = .ok (PV.lst (dIs ys)) (h'.st R) := by
  have hr : ∃ xs : List Int, xs.length = 52 - low ∧ xs.Nodup ∧ (∀ y ∈ xs, (low : Int) ≤ y ∧ y ≤ 51) ∧ rg1 (low : Int) 52 = some ((dIs xs).map PV.d) := by
    exact ⟨iotaA low (52 - low), iotaA_len _ _, iotaA_nodup _ _, fun y hy => by have := mem_iotaA.mp hy; omega, rg1_iotaA low (52 - low) (by omega) (by omega) (by omega) 52 (by omega)⟩
  obtain ⟨xs, lx, nx, bx, eg⟩ := hr
  obtain ⟨u', ys, zs, g, og, pr, ly, e⟩ := cd_loop n (some (PV.int many)) (some (PV.int low)) R ((dIs (iota many)).map PV.d) none h (dIs xs) [] ok (by rw [List.length_map, dIs_len, dIs_len, iota_len, lx]; omega) (by rw [dIs_len, lx]; simp; omega)
  rw [List.length_map, dIs_len, iota_len] at ly
  have hb : ys = dIs (intsOf ys) := (ints_back (List.all_eq_true.mpr fun z hz => by
    obtain ⟨i, _, rfl⟩ := List.mem_map.mp (pr.mem_iff.mp (List.mem_append_left _ hz))
    rfl)).symm
  obtain ⟨ws, hw⟩ : ∃ ws, ws = intsOf ys := ⟨_, rfl⟩
  rw [← hw] at hb
  subst hb
  have sub : ∀ y ∈ ws, y ∈ xs := fun y hy => by
    have := pr.mem_iff.mp (List.mem_append_left _ (List.mem_map_of_mem (f := PyData.int) hy))
    obtain ⟨i, hi, e⟩ := List.mem_map.mp this
    cases e
    exact hi
  have nd : (dIs ws ++ zs).Nodup := pr.nodup_iff.mpr (List.pairwise_map.mpr (List.Pairwise.imp (fun {a b} hne e => hne (PyData.int.inj e)) nx))
  have ndw : ws.Nodup := by
    have := (List.nodup_append.mp nd).1
    exact List.Pairwise.imp (fun {a b} hne e => hne (congrArg PyData.int e)) (List.pairwise_map.mp this)
  refine ⟨ws, g, og, by rw [← dIs_len]; exact ly, ndw, fun y hy => bx y (sub y hy), ?_⟩
  rw [G, run_def (d := cLawCards) rfl rfl, ← two_fin (g.st R) zs (dIs ws)]
  have en := newF_d (h.st R) (dIs xs)
  have e2 := two_new (h.st R) (dIs xs)
  have hz : ([] : List PV).length < sizeLine := ltS' (by simp)
  have hz2 : (List.map PV.d (dIs xs)).length ≤ sizeLine := by rw [List.length_map, dIs_len, lx]; exact Nat.le_of_lt (ltS' (by omega))
  unfold Bcd at e
  have e9 := rngl_vals xs (by omega) (h.st R)
  simp -implicitDefEqProofs only [cLawCards, execs, exec, ev, evs, evB, evT, evI, evC, evO, evL, startE]
  simp -implicitDefEqProofs only [Res.ofOpt_some, Res.ofOpt_none, Res.bind_ok, Res.bind_ex, Res.out_ok, Res.out_ex, Out.bind_nx, Out.bind_rt, Out.bind_ex, Out.ofOpt_some, asB_b, Option.map_some, Option.bind_some, if_pos hz, e2, en]
  simp -implicitDefEqProofs [bi_all, bi_any, bi_sum, bi_tup, bi_tupt, bi_lst, bi_lstt, bi_len, bi_lent, bi_sort, bi_sortt, bi_int, bi_abs, bi_intb, src_t, src_l, slc_t, slc_l, zip_t, zip_l, zip_lt, bindT_nm, int_P, add_i, sub_i, mul_i, fdiv_i, mod_i, add_t, lt_i, le_i, gt_i, ge_i, eq_i, ne_i, lcS_vals, forS_vals, allD_map, bools_map, all_map, eg, e9, en, e2, hz, setPar, rg1_iota many (by omega)]
  rw [e]
  rfl
end Mn73

end

section
set_option Elab.async false
set_option linter.all false
set_option maxRecDepth 100000
set_option maxHeartbeats 2000000
namespace Mn73
open Mn
open PySem (PyData Str sizeLine)
/-! ### the law's own dealing -/
theorem rot_nil {α : Type} (m : Nat) : rot m ([] : List α) = [] := by unfold rot; simp
/-- left at j, found behind T's end -/
structure Dl (T : Sto) (U : Sto) (j : Nat) (xs acc : List Int) : Prop where
  l : U[j]? = some (.lst ((dIs xs).map PV.d))
  f : U[T.length + 1]? = some (.lst ((dIs acc).map PV.d))
  ne : j ≠ T.length + 1
  le : T.length ≤ j
  tk : U.take T.length = T
  ln : T.length ≤ U.length
def Cdl (n : Nat) : Env' → Sto → Res Bool := evT (run pD 1000000 n) 1000000 (.cmp .ne (.var 3) (.lst .nil))
def Bdl (n : Nat) : Env' → Sto → Out := execs (run pD 1000000 n) 1000000 cLawDealt_b1
section
variable (n : Nat) (v : PV) (t : Nat) (T : Sto) (fst : Bool)
abbrev eDl (v : PV) (t : Nat) (fst : Bool) (T : Sto) (j : Nat) (u : Option PV) : Env' := [some v, some (PV.int t), some (PV.bool fst), some (.r j), some (.r (T.length + 1)), u]
theorem dl_c {U : Sto} {j : Nat} {xs acc : List Int} (h : Dl T U j xs acc) (u : Option PV) : Cdl n (eDl v t fst T j u) U = .ok (!decide (xs = [])) U := by
  have e : cmpV U .ne (.r j) (PV.lst []) = some (!decide (xs = [])) := by
    have := eqV_cell (ys := dIs []) h.l (shp_lI xs) (shp_lI [])
    rw [eqv_dIs] at this
    rw [cmp_ne, show (PV.lst [] : PV) = PV.lst (dIs []) from rfl, this]
    rfl
  have z0 : 0 ≤ sizeLine := Nat.zero_le _
  unfold Cdl
  simp -implicitDefEqProofs only [execs, exec, ev, evs, evB, evT, evI, evC, evO, evL, startE]
  simp -implicitDefEqProofs [allD, e, z0]
theorem dl_f {U : Sto} {j : Nat} {xs acc : List Int} (h : Dl T U j xs acc) : cmpV U .ne (.r (T.length + 1)) (PV.lst []) = some (!decide (acc = [])) := by
  have := eqV_cell (ys := dIs []) h.f (shp_lI acc) (shp_lI [])
  rw [eqv_dIs] at this
  rw [cmp_ne, show (PV.lst [] : PV) = PV.lst (dIs []) from rfl, this]
  rfl
/-- the first one down -/
theorem dl_pop {U : Sto} {j : Nat} {x : Int} {r acc : List Int} (h : Dl T U j (x :: r) acc) (hl : acc.length ≤ 1000) : ∃ V U', Dl T U' j r (acc ++ [x]) ∧ muV U .pop1 (.r j) [PV.int 0] = .ok (PV.int x) V ∧ isL U (.r (T.length + 1)) = true ∧ muV V .append (.r (T.length + 1)) [PV.int x] = .ok .none U' := by
  have h1 := c_pop0 (S := U) (c := j) (x := .int x) (r := dIs r) h.l
  have f2 : (U.set j (.lst ((dIs r).map PV.d)))[T.length + 1]? = some (.lst ((dIs acc).map PV.d)) := by rw [set_ne (Ne.symm h.ne)]; exact h.f
  have h2 := c_appD (x := .int x) f2 (by rw [dIs_len]; exact ltS' (by omega))
  rw [show dIs acc ++ [PyData.int x] = dIs (acc ++ [x]) from dIs_app acc [x]] at h2
  refine ⟨_, _, ⟨?_, set_at f2, h.ne, h.le, ?_, ?_⟩, h1, c_isL h.f, h2⟩
  · rw [set_ne h.ne]; exact set_at h.l
  · rw [take_set (Nat.le_succ _), take_set h.le]; exact h.tk
  · rw [List.length_set, List.length_set]; exact h.ln
/-- turned on, in a new list -/
theorem dl_rot {U : Sto} {j : Nat} {xs acc : List Int} (h : Dl T U j xs acc) (h0 : 0 < xs.length) (hl : xs.length ≤ 1000) (ht : t ≤ 1000) : Dl T (U ++ [.lst ((dIs (rot t xs)).map PV.d)]) U.length (rot t xs) acc := by
  have fl := (List.getElem?_eq_some_iff.mp h.f).1
  exact ⟨last_at U _, app_old h.f, by omega, h.ln, by rw [take_app h.ln]; exact h.tk, by rw [List.length_append]; have := h.ln; omega⟩
theorem dl_b1 {U : Sto} {j : Nat} {x : Int} {r acc : List Int} (h : Dl T U j (x :: r) acc) (hf : acc = [] ∧ fst = true) (u : Option PV) : ∃ U', Dl T U' j r (acc ++ [x]) ∧ Bdl n (eDl v t fst T j u) U = .nx (eDl v t fst T j u) U' := by
  obtain ⟨V, U', d, e1, i2, e2⟩ := dl_pop T h (by rw [hf.1]; simp)
  refine ⟨U', d, ?_⟩
  have ef := dl_f T h
  have z0 : 0 ≤ sizeLine := Nat.zero_le _
  have i1 := c_isL h.l
  unfold Bdl
  simp -implicitDefEqProofs only [cLawDealt_b1, execs, exec, ev, evs, evB, evT, evI, evC, evO, evL, startE]
  simp -implicitDefEqProofs [allD, ef, z0, hf.1, hf.2, i1, i2, e1, e2]
theorem dl_b2 {U : Sto} {j : Nat} {xs r acc : List Int} {y : Int} (h : Dl T U j xs acc) (hf : ¬ (acc = [] ∧ fst = true)) (hy : rot t xs = y :: r) (hl : xs.length ≤ 1000) (ha : acc.length ≤ 1000) (ht : t ≤ 1000) (u : Option PV) : ∃ (U' : Sto) (j' : Nat) (u' : Option PV), Dl T U' j' r (acc ++ [y]) ∧ Bdl n (eDl v t fst T j u) U = .nx (eDl v t fst T j' u') U' := by
  have h0 : 0 < xs.length := by
    have := congrArg List.length hy
    rw [rot_len, List.length_cons] at this
    omega
  have h2 := dl_rot t T h h0 hl ht
  rw [hy] at h2
  obtain ⟨V, U', d, e1, i2, e2⟩ := dl_pop T h2 ha
  obtain ⟨k, hk⟩ : ∃ k : Nat, k = t % xs.length := ⟨_, rfl⟩
  refine ⟨U', U.length, some (PV.int (k : Int)), d, ?_⟩
  have ef := dl_f T h
  have z0 : 0 ≤ sizeLine := Nat.zero_le _
  have i1 := c_isL h2.l
  have el := c_lenD h.l
  rw [dIs_len] at el
  have em : (t : Int).fmod (xs.length : Int) = (k : Int) := by
    rw [Int.fmod_eq_emod_of_nonneg _ (by omega), hk]
    omega
  have hx0 : ¬ xs = [] := fun z => by rw [z] at h0; cases h0
  have s1 := c_slc h.l (some (k : Int)) none
  have s2 := c_slc h.l none (some (k : Int))
  rw [dIs_cut, cut_from] at s1
  rw [dIs_cut, cut_to] at s2
  have er : xs.drop k ++ xs.take k = y :: r := by rw [← hy, hk]; rfl
  have hz : (xs.drop k).length + (xs.take k).length < sizeLine := by
    rw [← List.length_append, er, ← hy, rot_len]
    exact ltS' (by omega)
  have en := newF_d U (dIs (y :: r))
  have ec : catLV U (PV.lst (dIs (xs.drop k))) (PV.lst (dIs (xs.take k))) = some ((dIs (y :: r)).map PV.d) := by
    show (if (dIs (xs.drop k)).length + (dIs (xs.take k)).length < sizeLine then some ((dIs (xs.drop k) ++ dIs (xs.take k)).map PV.d) else none) = _
    rw [dIs_len, dIs_len, if_pos hz, dIs_app, er]
  have hff : ¬ acc = [] ∨ fst = false := by
    by_cases ha : acc = []
    · right
      cases fst
      · rfl
      · exact absurd ⟨ha, rfl⟩ hf
    · exact .inl ha
  obtain ⟨ds, hds⟩ : ∃ ds, ds = dIs (y :: r) := ⟨_, rfl⟩
  rw [← hds] at ec en i1 i2 e1
  unfold Bdl
  simp -implicitDefEqProofs only [cLawDealt_b1, execs, exec, ev, evs, evB, evT, evI, evC, evO, evL, startE]
  by_cases ha : acc = []
  · have hfs : fst = false := hff.resolve_left fun z => z ha
    simp -implicitDefEqProofs [bi_all, bi_any, bi_sum, bi_tup, bi_tupt, bi_lst, bi_lstt, bi_len, bi_lent, bi_sort, bi_sortt, bi_int, bi_abs, bi_intb, src_t, src_l, slc_t, slc_l, zip_t, zip_l, zip_lt, bindT_nm, int_P, add_i, sub_i, mul_i, fdiv_i, mod_i, add_t, lt_i, le_i, gt_i, ge_i, eq_i, ne_i, lcS_vals, forS_vals, allD_map, bools_map, all_map, allD, ef, z0, ha, hfs, el, hx0, em, s1, s2, ec, en, i1, i2, e1, e2, bindT]
  · simp -implicitDefEqProofs [bi_all, bi_any, bi_sum, bi_tup, bi_tupt, bi_lst, bi_lstt, bi_len, bi_lent, bi_sort, bi_sortt, bi_int, bi_abs, bi_intb, src_t, src_l, slc_t, slc_l, zip_t, zip_l, zip_lt, bindT_nm, int_P, add_i, sub_i, mul_i, fdiv_i, mod_i, add_t, lt_i, le_i, gt_i, ge_i, eq_i, ne_i, lcS_vals, forS_vals, allD_map, bools_map, all_map, allD, ef, z0, ha, el, hx0, em, s1, s2, ec, en, i1, i2, e1, e2, bindT]
theorem dl_loop (ht : t ≤ 1000) : ∀ (k : Nat) (xs acc : List Int) (U : Sto) (j : Nat) (u : Option PV) (N : Nat), Dl T U j xs acc → ¬ (acc = [] ∧ fst = true) → xs.length = k → k < N → k + acc.length ≤ 1000 → ∃ (U' : Sto) (j' : Nat) (u' : Option PV), Dl T U' j' [] (acc ++ dealN t k (rot t xs)) ∧ whileL (Cdl n) (Bdl n) N (eDl v t fst T j u) U = .nx (eDl v t fst T j' u') U'
  | 0, [], acc, U, j, u, N + 1, h, _, _, _, _ => by
    refine ⟨U, j, u, by simpa [dealN] using h, ?_⟩
    rw [while_f (dl_c n v t T fst h u)]
  | k + 1, x :: r0, acc, U, j, u, N + 1, h, hf, hk, hN, hl => by
    have hlen : (rot t (x :: r0)).length = k + 1 := by rw [rot_len]; exact hk
    cases hy : rot t (x :: r0) with
    | nil => rw [hy] at hlen; cases hlen
    | cons y r =>
      rw [hy] at hlen
      have hr : r.length = k := Nat.succ.inj hlen
      obtain ⟨U1, j1, u1, d1, e1⟩ := dl_b2 n v t T fst h hf hy (by omega) (by omega) ht u
      obtain ⟨U', j', u', d, e⟩ := dl_loop ht k r (acc ++ [y]) U1 j1 u1 N d1 (fun z => by simp at z) hr (by omega) (by simp; omega)
      refine ⟨U', j', u', by simpa [dealN] using d, ?_⟩
      rw [while_t' (dl_c n v t T fst h u) e1, e]
  | 0, _ :: _, _, _, _, _, _, _, _, h, _, _ => by cases h
  | _ + 1, [], _, _, _, _, _, _, _, h, _, _ => by cases h
  | _, _, _, _, _, _, 0, _, _, _, h, _ => by omega
end
theorem law_dealt (n : Nat) (xs : List Int) (t : Nat) (fst : Bool) (T : Sto) (h : xs.length ≤ 1000) (ht : t ≤ 1000) : G (n + 1) iLawDealt [PV.tup (dIs xs), PV.int t, PV.bool fst] T = .ok (PV.tup (dIs (dealP t (if fst then xs else rot t xs)))) T := by
  rw [G, run_def (d := cLawDealt) rfl rfl]
  have hz : ([] : List PV).length < sizeLine := ltS' (by simp)
  have eb : biL T .list [PV.tup (dIs xs)] = some ((dIs xs).map PV.d) := rfl
  have en := newF_d T (dIs xs)
  have e2 := two_new T (dIs xs)
  have d0 : Dl T (two T (dIs xs) (dIs [])) T.length xs [] := ⟨two_0 T _ _, two_1 T _ _, by omega, Nat.le_refl _, by unfold two; rw [List.take_left], by unfold two; rw [List.length_append]; omega⟩
  have key : ∃ (U' : Sto) (j' : Nat) (u' : Option PV), Dl T U' j' [] (dealP t (if fst then xs else rot t xs)) ∧ whileL (Cdl n) (Bdl n) 1000000 (eDl (PV.tup (dIs xs)) t fst T T.length none) (two T (dIs xs) (dIs [])) = .nx (eDl (PV.tup (dIs xs)) t fst T j' u') U' := by
    cases fst with
    | false =>
      obtain ⟨U', j', u', d, e⟩ := dl_loop n (PV.tup (dIs xs)) t T false ht xs.length xs [] _ T.length none 1000000 d0 (fun z => nomatch z.2) rfl (by omega) (by simp; omega)
      refine ⟨U', j', u', ?_, e⟩
      unfold dealP
      rw [if_neg Bool.false_ne_true, rot_len]
      simpa using d
    | true =>
      cases xs with
      | nil =>
        refine ⟨_, T.length, none, ?_, while_f (dl_c n _ t T true d0 none)⟩
        exact d0
      | cons x r =>
        obtain ⟨U1, d1, e1⟩ := dl_b1 n (PV.tup (dIs (x :: r))) t T true d0 ⟨rfl, rfl⟩ none
        obtain ⟨U', j', u', d, e⟩ := dl_loop n (PV.tup (dIs (x :: r))) t T true ht r.length r ([] ++ [x]) U1 T.length none 999999 d1 (fun z => by simp at z) rfl (by rw [List.length_cons] at h; omega) (by simp; simpa using h)
        refine ⟨U', j', u', ?_, ?_⟩
        · rw [if_pos rfl, dealP_cons]
          unfold dealP
          rw [rot_len]
          simpa using d
        · rw [show (1000000 : Nat) = 999999 + 1 from rfl, while_t' (dl_c n _ t T true d0 none) e1, e]
  obtain ⟨U', j', u', d, e⟩ := key
  have hs := bi_tup_of (c_seq d.f)
  unfold Cdl Bdl eDl at e
  rw [dIs_nil] at e
  simp -implicitDefEqProofs only [cLawDealt, execs, exec, ev, evs, evB, evT, evI, evC, evO, evL, startE]
  simp -implicitDefEqProofs only [Res.ofOpt_some, Res.ofOpt_none, Res.bind_ok, Res.bind_ex, Res.out_ok, Res.out_ex, Out.bind_nx, Out.bind_rt, Out.bind_ex, Out.ofOpt_some, asB_b, Option.map_some, Option.bind_some, if_pos hz, e2, en]
  have hlx : xs.length < sizeLine := ltS' (by omega)
  simp -implicitDefEqProofs [eb, en, e2, setPar, hz, dIs_len, hlx]
  rw [e]
  simp -implicitDefEqProofs only [Res.ofOpt_some, Res.ofOpt_none, Res.bind_ok, Res.bind_ex, Res.out_ok, Res.out_ex, Out.bind_nx, Out.bind_rt, Out.bind_ex, Out.ofOpt_some, asB_b, Option.map_some, Option.bind_some]
  simp -implicitDefEqProofs [hs]
  exact finO_take T U' _ d.tk
end Mn73

end

section
set_option Elab.async false
set_option linter.all false
set_option maxRecDepth 100000
set_option maxHeartbeats 2000000
namespace Mn73
open Mn
open PySem (PyData Str sizeLine)
/-! ### monge -/
def mgG {α : Type} : Bool → List α → List α → List α
  | _, acc, [] => acc
  | b, acc, x :: r => mgG (!b) (if b then x :: acc else acc ++ [x]) r
def mongeP {α : Type} (xs : List α) : List α := mgG false [] xs
theorem mgG_perm {α : Type} : ∀ (b : Bool) (acc xs : List α), (mgG b acc xs).Perm (acc ++ xs)
  | _, acc, [] => by rw [List.append_nil]; exact .refl _
  | b, acc, x :: r => by
    refine (mgG_perm (!b) _ r).trans ?_
    cases b
    · show ((acc ++ [x]) ++ r).Perm _
      rw [List.append_assoc]
      exact .refl _
    · show ((x :: acc) ++ r).Perm _
      exact List.perm_middle.symm
theorem mongeP_perm {α : Type} (xs : List α) : (mongeP xs).Perm xs := mgG_perm false [] xs
theorem mongeP_len {α : Type} (xs : List α) : (mongeP xs).length = xs.length := (mongeP_perm xs).length_eq
section
variable (n : Nat) (v : Option PV) (S : Sto)
def Brm (n : Nat) : PV → Env' → Sto → Out := fun x e1 S2 => execs (run pD 1000000 n) 1000000 cRawMonge_b1 (e1.set 1 (some x)) S2
theorem rm_loop : ∀ (xs : List Int) (u : Option PV) (acc : List Int) (b : Bool), xs.length + acc.length ≤ 1000 → ∃ u' b', forV (Brm n) ((dIs xs).map PV.d) [v, u, some (PV.lst (dIs acc)), some (PV.bool b)] S = .nx [v, u', some (PV.lst (dIs (mgG b acc xs))), some (PV.bool b')] S
  | [], u, acc, b, _ => ⟨u, b, rfl⟩
  | x :: r, u, acc, b, h => by
    rw [List.length_cons] at h
    obtain ⟨u', b', e⟩ := rm_loop r (some (PV.int x)) (if b then x :: acc else acc ++ [x]) (!b) (by cases b <;> simp <;> omega)
    refine ⟨u', b', ?_⟩
    show forV (Brm n) (PV.int x :: (dIs r).map PV.d) _ _ = _
    rw [forV_cons]
    have hz : acc.length + 1 ≤ sizeLine := Nat.le_of_lt (ltS' (by omega))
    have hz' : 1 + acc.length ≤ sizeLine := by omega
    have z1 : 1 ≤ sizeLine := Nat.le_of_lt (ltS' (by omega))
    have e1 : Brm n (PV.int x) [v, u, some (PV.lst (dIs acc)), some (PV.bool b)] S = .nx [v, some (PV.int x), some (PV.lst (dIs (if b then x :: acc else acc ++ [x]))), some (PV.bool (!b))] S := by
      have ea := add_lI S [x] acc
      have eb := add_lI S acc [x]
      rw [if_pos (by simpa using hz')] at ea
      rw [if_pos (by simpa using hz)] at eb
      rw [show dIs [x] = [PyData.int x] from rfl] at ea eb
      unfold Brm
      simp -implicitDefEqProofs only [cRawMonge_b1, execs, exec, ev, evs, evB, evT, evI, evC, evO, evL, startE]
      cases b <;> simp -implicitDefEqProofs [allD, z1, ea, eb, bindT]
    rw [e1, Out.bind_nx, e]
    rfl
end
theorem raw_monge (n : Nat) (xs : List Int) (S : Sto) (h : xs.length ≤ 1000) : G (n + 1) iRawMonge [PV.tup (dIs xs)] S = .ok (PV.tup (dIs (mongeP xs))) S := by
  rw [G, run_def (d := cRawMonge) rfl rfl, ← finO_d S]
  congr 1
  obtain ⟨u', b', e⟩ := rm_loop n (some (PV.tup (dIs xs))) S xs none [] false (by simpa using h)
  have z0 : 0 ≤ sizeLine := Nat.zero_le _
  unfold Brm at e
  rw [dIs_nil] at e
  simp -implicitDefEqProofs only [cRawMonge, execs, exec, ev, evs, evB, evT, evI, evC, evO, evL, startE]
  simp -implicitDefEqProofs [allD, z0, setPar, bi_all, bi_any, bi_sum, bi_tup, bi_tupt, bi_lst, bi_lstt, bi_len, bi_lent, bi_sort, bi_sortt, bi_int, bi_abs, bi_intb, src_t, src_l, slc_t, slc_l, zip_t, zip_l, zip_lt, bindT_nm, int_P, add_i, sub_i, mul_i, fdiv_i, mod_i, add_t, lt_i, le_i, gt_i, ge_i, eq_i, ne_i, lcS_vals, forS_vals, allD_map, bools_map, all_map]
  rw [e]
  simp -implicitDefEqProofs [bi_all, bi_any, bi_sum, bi_tup, bi_tupt, bi_lst, bi_lstt, bi_len, bi_lent, bi_sort, bi_sortt, bi_int, bi_abs, bi_intb, src_t, src_l, slc_t, slc_l, zip_t, zip_l, zip_lt, bindT_nm, int_P, add_i, sub_i, mul_i, fdiv_i, mod_i, add_t, lt_i, le_i, gt_i, ge_i, eq_i, ne_i, lcS_vals, forS_vals, allD_map, bools_map, all_map]
  rfl
theorem monge (n : Nat) (xs : List Int) (S : Sto) (h : deckD (.tuple (dIs xs)) = true) (hl : xs.length ≤ 1000) : G (n + 6) iMonge [PV.tup (dIs xs)] S = .ok (PV.tup (dIs (mongeP xs))) S := by
  rw [G, run_def (d := cMonge) rfl rfl, ← finO_d S]
  congr 1
  have e := raw_monge (n + 4) xs S hl
  simp -implicitDefEqProofs only [cMonge, execs, exec, ev, evs, evB, evT, evI, evC, evO, evL, startE]
  simp -implicitDefEqProofs [check_deck, h, e]
theorem mongeX (n : Nat) (x : PyData) (S : Sto) (h : deckD x = false) : G (n + 6) iMonge [.d x] S = .ex xNoDeck none S := by
  rw [G, run_def (d := cMonge) rfl rfl, ← finO_x S [some (.d x)]]
  congr 1
  simp -implicitDefEqProofs only [cMonge, execs, exec, ev, evs, evB, evT, evI, evC, evO, evL, startE]
  simp -implicitDefEqProofs [check_deck, h]
/-! the law's -/
def enI (k : Nat) : List Int → List PyData
  | [] => []
  | x :: r => PyData.tuple [.int k, .int x] :: enI (k + 1) r
theorem enumD_ints : ∀ (k : Nat) (xs : List Int), enumD k (dIs xs) = (enI k xs).map PV.d
  | _, [] => rfl
  | k, x :: r => by
    show PV.tup [.int k, .int x] :: enumD (k + 1) (dIs r) = _
    rw [enumD_ints (k + 1) r]
    rfl
section
variable (n : Nat) (v : Option PV) (S : Sto)
def Blm (n : Nat) : PV → Env' → Sto → Out := fun x e1 S2 => Out.ofOpt (bindT (.tup [2, 3]) x e1) fun e2 => execs (run pD 1000000 n) 1000000 cLawMonge_b1 e2 S2
theorem lm_loop : ∀ (xs : List Int) (k : Nat) (u w : Option PV) (acc : List Int) (b : Bool), b = decide (k % 2 = 1) → xs.length + acc.length ≤ 1000 → ∃ u' w', forV (Blm n) ((enI k xs).map PV.d) [v, some (PV.lst (dIs acc)), u, w] S = .nx [v, some (PV.lst (dIs (mgG b acc xs))), u', w'] S
  | [], k, u, w, acc, b, _, _ => ⟨u, w, rfl⟩
  | x :: r, k, u, w, acc, b, hb, h => by
    rw [List.length_cons] at h
    obtain ⟨u', w', e⟩ := lm_loop r (k + 1) (some (PV.int k)) (some (PV.int x)) (if b then x :: acc else acc ++ [x]) (!b) (by
      rw [hb]
      by_cases q : k % 2 = 1
      · simp -implicitDefEqProofs [q]; omega
      · simp -implicitDefEqProofs [q]; omega) (by cases b <;> simp <;> omega)
    refine ⟨u', w', ?_⟩
    show forV (Blm n) (PV.tup [.int k, .int x] :: (enI (k + 1) r).map PV.d) _ _ = _
    rw [forV_cons]
    have hz : acc.length + 1 ≤ sizeLine := Nat.le_of_lt (ltS' (by omega))
    have hz' : 1 + acc.length ≤ sizeLine := by omega
    have z1 : 1 ≤ sizeLine := Nat.le_of_lt (ltS' (by omega))
    have e1 : Blm n (PV.tup [.int k, .int x]) [v, some (PV.lst (dIs acc)), u, w] S = .nx [v, some (PV.lst (dIs (if b then x :: acc else acc ++ [x]))), some (PV.int k), some (PV.int x)] S := by
      have ea := add_lI S [x] acc
      have eb := add_lI S acc [x]
      rw [if_pos (by simpa using hz')] at ea
      rw [if_pos (by simpa using hz)] at eb
      rw [show dIs [x] = [PyData.int x] from rfl] at ea eb
      have em : decide ((k : Int).fmod 2 = 1) = b := by
        rw [hb, Int.fmod_eq_emod_of_nonneg _ (by omega)]
        by_cases q : k % 2 = 1
        · rw [decide_eq_true q, decide_eq_true (by omega)]
        · rw [decide_eq_false q, decide_eq_false (by omega)]
      unfold Blm
      simp -implicitDefEqProofs only [cLawMonge_b1, execs, exec, ev, evs, evB, evT, evI, evC, evO, evL, startE]
      simp -implicitDefEqProofs only [bindT, setAll, Res.ofOpt_some, Res.ofOpt_none, Res.bind_ok, Res.bind_ex, Res.out_ok, Res.out_ex, Out.bind_nx, Out.bind_rt, Out.bind_ex, Out.ofOpt_some, asB_b, Option.map_some, Option.bind_some]
      simp -implicitDefEqProofs [allD, z1, ea, eb, bi_all, bi_any, bi_sum, bi_tup, bi_tupt, bi_lst, bi_lstt, bi_len, bi_lent, bi_sort, bi_sortt, bi_int, bi_abs, bi_intb, src_t, src_l, slc_t, slc_l, zip_t, zip_l, zip_lt, bindT_nm, int_P, add_i, sub_i, mul_i, fdiv_i, mod_i, add_t, lt_i, le_i, gt_i, ge_i, eq_i, ne_i, lcS_vals, forS_vals, allD_map, bools_map, all_map]
      cases b with
      | false => rw [if_neg (of_decide_eq_false em)]; simp
      | true => rw [if_pos (of_decide_eq_true em)]; simp
    rw [e1, Out.bind_nx, e]
    rfl
end
theorem law_monge (n : Nat) (xs : List Int) (S : Sto) (h : xs.length ≤ 1000) : G (n + 1) iLawMonge [PV.tup (dIs xs)] S = .ok (PV.tup (dIs (mongeP xs))) S := by
  rw [G, run_def (d := cLawMonge) rfl rfl, ← finO_d S]
  congr 1
  obtain ⟨u', w', e⟩ := lm_loop n (some (PV.tup (dIs xs))) S xs 0 none none [] false rfl (by simpa using h)
  have z0 : 0 ≤ sizeLine := Nat.zero_le _
  have en : enumV (PV.tup (dIs xs)) = some (.vals ((enI 0 xs).map PV.d)) := by
    show some (Src.vals (enumD 0 (dIs xs))) = _
    rw [enumD_ints]
  unfold Blm at e
  rw [dIs_nil] at e
  simp -implicitDefEqProofs only [cLawMonge, execs, exec, ev, evs, evB, evT, evI, evC, evO, evL, startE]
  simp -implicitDefEqProofs [allD, z0, en, bi_all, bi_any, bi_sum, bi_tup, bi_tupt, bi_lst, bi_lstt, bi_len, bi_lent, bi_sort, bi_sortt, bi_int, bi_abs, bi_intb, src_t, src_l, slc_t, slc_l, zip_t, zip_l, zip_lt, bindT_nm, int_P, add_i, sub_i, mul_i, fdiv_i, mod_i, add_t, lt_i, le_i, gt_i, ge_i, eq_i, ne_i, lcS_vals, forS_vals, allD_map, bools_map, all_map]
  rw [e]
  simp -implicitDefEqProofs [bi_all, bi_any, bi_sum, bi_tup, bi_tupt, bi_lst, bi_lstt, bi_len, bi_lent, bi_sort, bi_sortt, bi_int, bi_abs, bi_intb, src_t, src_l, slc_t, slc_l, zip_t, zip_l, zip_lt, bindT_nm, int_P, add_i, sub_i, mul_i, fdiv_i, mod_i, add_t, lt_i, le_i, gt_i, ge_i, eq_i, ne_i, lcS_vals, forS_vals, allD_map, bools_map, all_map]
  rfl
end Mn73

end

section
set_option Elab.async false
set_option linter.all false
set_option maxRecDepth 100000
set_option maxHeartbeats 2000000
namespace Mn73
open Mn
open PySem (PyData Str sizeLine)
/-! ### how often till a deck is as at first -/
def wayF (w : Bool) (xs : List Int) : List Int := if w then dealP 1 xs else mongeP xs
def wayS (w : Bool) : Str := if w then "down" else "monge"
theorem wayF_len (w : Bool) (xs : List Int) : (wayF w xs).length = xs.length := by cases w <;> simp -implicitDefEqProofs [wayF, dealP_len, mongeP_len]
def itF (w : Bool) : Nat → List Int → List Int
  | 0, xs => xs
  | k + 1, xs => itF w k (wayF w xs)
def ordF (w : Bool) (first : List Int) : Nat → List Int → Nat
  | 0, _ => 0
  | f + 1, cur => if cur = first then 0 else ordF w first f (wayF w cur) + 1
theorem ordF_ne (w : Bool) (first : List Int) : ∀ (f : Nat) (cur : List Int) (i : Nat), i < ordF w first f cur → itF w i cur ≠ first
  | 0, _, _, h => by cases h
  | f + 1, cur, i, h => by
    unfold ordF at h
    by_cases e : cur = first
    · rw [if_pos e] at h; cases h
    · rw [if_neg e] at h
      cases i with
      | zero => exact e
      | succ i => exact ordF_ne w first f (wayF w cur) i (Nat.lt_of_succ_lt_succ h)
def ordN (w : Bool) (m : Nat) : Nat := ordF w (iota m) 3000 (wayF w (iota m))
theorem ord_all : ∀ m : Nat, m < 21 → ∀ w : Bool, itF w (ordN w m) (wayF w (iota m)) = iota m ∧ ordN w m < 3000 := by
  have h : ((List.range 21).all fun m => [true, false].all fun w => decide (itF w (ordN w m) (wayF w (iota m)) = iota m) && decide (ordN w m < 3000)) = true := by decide +kernel
  intro m hm w
  have h1 := List.all_eq_true.mp (List.all_eq_true.mp h m (List.mem_range.mpr hm)) w (by cases w <;> simp)
  simpa using h1
theorem once_more (n : Nat) (w : Bool) (xs : List Int) (S : Sto) (h : xs.length ≤ 1000) : G (n + 4) iOnceMore [PV.str (wayS w), PV.tup (dIs xs)] S = .ok (PV.tup (dIs (wayF w xs))) S := by
  rw [G, run_def (d := cOnceMore) rfl rfl, ← finO_d S]
  congr 1
  have e1 := raw_down n xs S h
  have e2 := raw_monge (n + 2) xs S h
  have ew : cmpV S .eq (PV.str (wayS w)) (PV.str "down") = some w := by
    rw [eq_s]
    cases w <;> rfl
  simp -implicitDefEqProofs only [cOnceMore, execs, exec, ev, evs, evB, evT, evI, evC, evO, evL, startE]
  simp -implicitDefEqProofs [ew]
  cases w <;> simp -implicitDefEqProofs [e1, e2, wayF]
section
variable (n : Nat) (w : Bool) (p : Option PV) (m : Nat) (S : Sto)
def Ctb (n : Nat) : Env' → Sto → Res Bool := evT (run pD 1000000 n) 1000000 (.cmp .ne (.var 3) (.var 2))
def Btb (n : Nat) : Env' → Sto → Out := execs (run pD 1000000 n) 1000000 cTurnsBack_b1
theorem tb_loop (hm : m ≤ 1000) : ∀ (j : Nat) (cur : List Int) (k : Int) (N : Nat), (∀ i < j, itF w i cur ≠ iota m) → itF w j cur = iota m → cur.length = m → j < N → whileL (Ctb (n + 4)) (Btb (n + 4)) N [p, some (PV.str (wayS w)), some (PV.tup (dIs (iota m))), some (PV.tup (dIs cur)), some (PV.int k)] S = .nx [p, some (PV.str (wayS w)), some (PV.tup (dIs (iota m))), some (PV.tup (dIs (iota m))), some (PV.int (k + j))] S
  | 0, cur, k, N + 1, _, h, _, _ => by
    have h : cur = iota m := h
    subst h
    have ec : Ctb (n + 4) [p, some (PV.str (wayS w)), some (PV.tup (dIs (iota m))), some (PV.tup (dIs (iota m))), some (PV.int k)] S = .ok false S := by
      unfold Ctb
      simp -implicitDefEqProofs only [execs, exec, ev, evs, evB, evT, evI, evC, evO, evL, startE]
      simp -implicitDefEqProofs [ne_tI]
    rw [while_f ec]
    simp
  | j + 1, cur, k, N + 1, h0, h, hl, hN => by
    have hne : cur ≠ iota m := h0 0 (Nat.succ_pos _)
    have ec : Ctb (n + 4) [p, some (PV.str (wayS w)), some (PV.tup (dIs (iota m))), some (PV.tup (dIs cur)), some (PV.int k)] S = .ok true S := by
      unfold Ctb
      simp -implicitDefEqProofs only [execs, exec, ev, evs, evB, evT, evI, evC, evO, evL, startE]
      simp -implicitDefEqProofs [ne_tI, hne]
    have eb : Btb (n + 4) [p, some (PV.str (wayS w)), some (PV.tup (dIs (iota m))), some (PV.tup (dIs cur)), some (PV.int k)] S = .nx [p, some (PV.str (wayS w)), some (PV.tup (dIs (iota m))), some (PV.tup (dIs (wayF w cur))), some (PV.int (k + 1))] S := by
      have e := once_more n w cur S (by omega)
      unfold Btb
      simp -implicitDefEqProofs only [cTurnsBack_b1, execs, exec, ev, evs, evB, evT, evI, evC, evO, evL, startE]
      simp -implicitDefEqProofs [e, setPar, bi_all, bi_any, bi_sum, bi_tup, bi_tupt, bi_lst, bi_lstt, bi_len, bi_lent, bi_sort, bi_sortt, bi_int, bi_abs, bi_intb, src_t, src_l, slc_t, slc_l, zip_t, zip_l, zip_lt, bindT_nm, int_P, add_i, sub_i, mul_i, fdiv_i, mod_i, add_t, lt_i, le_i, gt_i, ge_i, eq_i, ne_i, lcS_vals, forS_vals, allD_map, bools_map, all_map]
    rw [while_t ec eb, tb_loop hm j (wayF w cur) (k + 1) N (fun i hi => h0 (i + 1) (Nat.succ_lt_succ hi)) h (by rw [wayF_len]; exact hl) (by omega)]
    rw [show k + 1 + (j : Int) = k + ((j + 1 : Nat) : Int) by omega]
  | _, _, _, 0, _, _, _, h => by omega
end
theorem way_in (S : Sto) (w : Bool) : inD0 S (PV.str (wayS w)) (PV.tup [.str "down", .str "monge"]) = some true := by cases w <;> (show (if _ then _ else _) = _; decide +kernel)
theorem turns_back (n m : Nat) (w : Bool) (S : Sto) (h1 : 1 ≤ m) (h2 : m ≤ 20) : G (n + 5) iTurnsBack [PV.int m, PV.str (wayS w)] S = .ok (PV.int ((1 : Int) + (ordN w m : Nat))) S := by
  rw [G, run_def (d := cTurnsBack) rfl rfl, ← finO_d S]
  congr 1
  have hin : inD (.int (m : Int)) 1 20 = true := by
    simp -implicitDefEqProofs [inD]
    omega
  obtain ⟨o1, o2⟩ := ord_all m (by omega) w
  have key := tb_loop n w (some (PV.int m)) m S (by omega) (ordN w m) (wayF w (iota m)) 1 1000000 (fun i hi => ordF_ne w _ _ _ i hi) o1 (by rw [wayF_len, iota_len]) (by omega)
  have e1 := once_more n w (iota m) S (by rw [iota_len]; omega)
  have er := rnglT_iota m (by omega) S
  have ew := way_in S w
  have ew2 : cmpV S .nin (PV.str (wayS w)) (PV.tup [.str "down", .str "monge"]) = some false := by
    show (inD0 S _ _).map (!·) = _
    rw [ew]
    rfl
  have z2 : 2 ≤ sizeLine := Nat.le_of_lt (ltS' (by omega))
  unfold Ctb Btb at key
  simp -implicitDefEqProofs only [cTurnsBack, execs, exec, ev, evs, evB, evT, evI, evC, evO, evL, startE]
  simp -implicitDefEqProofs [check_size, hin, isTy, allD, z2, ew2, bi_all, bi_any, bi_sum, bi_tup, bi_tupt, bi_lst, bi_lstt, bi_len, bi_lent, bi_sort, bi_sortt, bi_int, bi_abs, bi_intb, src_t, src_l, slc_t, slc_l, zip_t, zip_l, zip_lt, bindT_nm, int_P, add_i, sub_i, mul_i, fdiv_i, mod_i, add_t, lt_i, le_i, gt_i, ge_i, eq_i, ne_i, lcS_vals, forS_vals, allD_map, bools_map, all_map, rg1_iota m (by omega), er, e1, setPar, key]
/-! the law's count -/
section
variable (n : Nat) (w : Bool) (p : Option PV) (m : Nat) (S : Sto)
def Clo (n : Nat) : Env' → Sto → Res Bool := evT (run pD 1000000 n) 1000000 (.boo false (.cons (.cmp .ne (.var 3) (.var 2)) (.cons (.cmp .eq (.var 4) (.lit (.int 0))) .nil)))
def Blo (n : Nat) : Env' → Sto → Out := execs (run pD 1000000 n) 1000000 cLawOften_b1
theorem lo_b (cur : List Int) (k : Int) (hl : cur.length ≤ 1000) : Blo (n + 1) [p, some (PV.str (wayS w)), some (PV.tup (dIs (iota m))), some (PV.tup (dIs cur)), some (PV.int k)] S = .nx [p, some (PV.str (wayS w)), some (PV.tup (dIs (iota m))), some (PV.tup (dIs (wayF w cur))), some (PV.int (k + 1))] S := by
  have e1 := law_dealt n cur 1 true S hl (by omega)
  have e2 := law_monge n cur S hl
  have ew : cmpV S .eq (PV.str (wayS w)) (PV.str "down") = some w := by
    rw [eq_s]
    cases w <;> rfl
  rw [show ((1 : Nat) : Int) = 1 from rfl] at e1
  unfold Blo
  simp -implicitDefEqProofs only [cLawOften_b1, execs, exec, ev, evs, evB, evT, evI, evC, evO, evL, startE]
  simp -implicitDefEqProofs [ew]
  cases w <;> simp -implicitDefEqProofs [e1, e2, wayF, bi_all, bi_any, bi_sum, bi_tup, bi_tupt, bi_lst, bi_lstt, bi_len, bi_lent, bi_sort, bi_sortt, bi_int, bi_abs, bi_intb, src_t, src_l, slc_t, slc_l, zip_t, zip_l, zip_lt, bindT_nm, int_P, add_i, sub_i, mul_i, fdiv_i, mod_i, add_t, lt_i, le_i, gt_i, ge_i, eq_i, ne_i, lcS_vals, forS_vals, allD_map, bools_map, all_map, bindT]
theorem lo_loop (hm : m ≤ 1000) : ∀ (j : Nat) (cur : List Int) (k : Int) (N : Nat), 1 ≤ k → (∀ i < j, itF w i cur ≠ iota m) → itF w j cur = iota m → cur.length = m → j < N → whileL (Clo (n + 1)) (Blo (n + 1)) N [p, some (PV.str (wayS w)), some (PV.tup (dIs (iota m))), some (PV.tup (dIs cur)), some (PV.int k)] S = .nx [p, some (PV.str (wayS w)), some (PV.tup (dIs (iota m))), some (PV.tup (dIs (iota m))), some (PV.int (k + j))] S
  | 0, cur, k, N + 1, hk, _, h, _, _ => by
    have h : cur = iota m := h
    subst h
    have hk0 : ¬ k = 0 := by omega
    have ec : Clo (n + 1) [p, some (PV.str (wayS w)), some (PV.tup (dIs (iota m))), some (PV.tup (dIs (iota m))), some (PV.int k)] S = .ok false S := by
      unfold Clo
      simp -implicitDefEqProofs only [execs, exec, ev, evs, evB, evT, evI, evC, evO, evL, startE]
      simp -implicitDefEqProofs [ne_tI, bi_all, bi_any, bi_sum, bi_tup, bi_tupt, bi_lst, bi_lstt, bi_len, bi_lent, bi_sort, bi_sortt, bi_int, bi_abs, bi_intb, src_t, src_l, slc_t, slc_l, zip_t, zip_l, zip_lt, bindT_nm, int_P, add_i, sub_i, mul_i, fdiv_i, mod_i, add_t, lt_i, le_i, gt_i, ge_i, eq_i, ne_i, lcS_vals, forS_vals, allD_map, bools_map, all_map, hk0]
    rw [while_f ec]
    simp
  | j + 1, cur, k, N + 1, hk, h0, h, hl, hN => by
    have hne : cur ≠ iota m := h0 0 (Nat.succ_pos _)
    have ec : Clo (n + 1) [p, some (PV.str (wayS w)), some (PV.tup (dIs (iota m))), some (PV.tup (dIs cur)), some (PV.int k)] S = .ok true S := by
      unfold Clo
      simp -implicitDefEqProofs only [execs, exec, ev, evs, evB, evT, evI, evC, evO, evL, startE]
      simp -implicitDefEqProofs [ne_tI, hne]
    rw [while_t ec (lo_b n w p m S cur k (by omega)), lo_loop hm j (wayF w cur) (k + 1) N (by omega) (fun i hi => h0 (i + 1) (Nat.succ_lt_succ hi)) h (by rw [wayF_len]; exact hl) (by omega)]
    rw [show k + 1 + (j : Int) = k + ((j + 1 : Nat) : Int) by omega]
  | _, _, _, 0, _, _, _, _, h => by omega
end
theorem law_often (n m : Nat) (w : Bool) (S : Sto) (h2 : m ≤ 20) : G (n + 2) iLawOften [PV.int m, PV.str (wayS w)] S = .ok (PV.int ((1 : Int) + (ordN w m : Nat))) S := by
  rw [G, run_def (d := cLawOften) rfl rfl, ← finO_d S]
  refine congrArg (finO false S) ?_
  obtain ⟨o1, o2⟩ := ord_all m (by omega) w
  have key := lo_loop n w (some (PV.int m)) m S (by omega) (ordN w m) (wayF w (iota m)) 1 999999 (by omega) (fun i hi => ordF_ne w _ _ _ i hi) o1 (by rw [wayF_len, iota_len]) (by omega)
  have ec : Clo (n + 1) [some (PV.int m), some (PV.str (wayS w)), some (PV.tup (dIs (iota m))), some (PV.tup (dIs (iota m))), some (PV.int 0)] S = .ok true S := by
    unfold Clo
    simp -implicitDefEqProofs only [execs, exec, ev, evs, evB, evT, evI, evC, evO, evL, startE]
    simp -implicitDefEqProofs [ne_tI, bi_all, bi_any, bi_sum, bi_tup, bi_tupt, bi_lst, bi_lstt, bi_len, bi_lent, bi_sort, bi_sortt, bi_int, bi_abs, bi_intb, src_t, src_l, slc_t, slc_l, zip_t, zip_l, zip_lt, bindT_nm, int_P, add_i, sub_i, mul_i, fdiv_i, mod_i, add_t, lt_i, le_i, gt_i, ge_i, eq_i, ne_i, lcS_vals, forS_vals, allD_map, bools_map, all_map]
  have eb := lo_b n w (some (PV.int m)) m S (iota m) 0 (by rw [iota_len]; omega)
  rw [show (0 : Int) + 1 = 1 from rfl] at eb
  have k2 := (while_t (n := 999999) ec eb).trans key
  rw [show (999999 : Nat) + 1 = 1000000 from rfl] at k2
  have er := rnglT_iota m (by omega) S
  unfold Clo Blo at k2
  simp -implicitDefEqProofs only [cLawOften, execs, exec, ev, evs, evB, evT, evI, evC, evO, evL, startE]
  simp -implicitDefEqProofs [bi_all, bi_any, bi_sum, bi_tup, bi_tupt, bi_lst, bi_lstt, bi_len, bi_lent, bi_sort, bi_sortt, bi_int, bi_abs, bi_intb, src_t, src_l, slc_t, slc_l, zip_t, zip_l, zip_lt, bindT_nm, int_P, add_i, sub_i, mul_i, fdiv_i, mod_i, add_t, lt_i, le_i, gt_i, ge_i, eq_i, ne_i, lcS_vals, forS_vals, allD_map, bools_map, all_map, rg1_iota m (by omega), er, setPar]
  rw [k2]
  simp
end Mn73

end

section
set_option Elab.async false
set_option linter.all false
set_option maxRecDepth 100000
set_option maxHeartbeats 4000000
namespace Mn73
open Mn
open PySem (PyData Str sizeLine)
/-! ### refusals -/
theorem act_clo (n : Nat) (a : Ex) (e r : Env') (S : Sto) : actM (run pD 1000000 (n + 1)) (some (.clo a e) :: r) S = ev (run pD 1000000 n) 1000000 a e S := by
  have h := run_clo (D := pD) (L := 1000000) (n := n) (by decide) (a := a) (e := e) (S := S)
  rw [← h]
  rfl
inductive Tag : Nat → Str → Prop where
  | deck : Tag xNoDeck "deck"
  | number : Tag xNoNumber "number"
  | size : Tag xNoSize "size"
  | way : Tag xNoWay "way"
  | words : Tag xNoWords "words"
theorem said (n : Nat) (a : Ex) (e : Env') (S S' : Sto) (c : Nat) (tg : Str) (hl : S'.length = S.length) (ht : Tag c tg) (h : ev (run pD 1000000 n) 1000000 a e S = .ex c none S') : G (n + 2) iLawSaid [.clo a e] S = .ok (PV.str tg) S' := by
  have z2 : 2 ≤ sizeLine := Nat.le_of_lt (ltS' (by omega))
  have z3 : 3 ≤ sizeLine := Nat.le_of_lt (ltS' (by omega))
  have z5 : 5 ≤ sizeLine := Nat.le_of_lt (ltS' (by omega))
  rw [G, run_def (d := cLawSaid) rfl rfl, ← finO_len S S' _ hl]
  refine congrArg (finO false S) ?_
  cases ht
  all_goals
    simp -implicitDefEqProofs only [cLawSaid, execs, exec, ev, evs, evB, evT, evI, evC, evO, evL, startE]
    simp -implicitDefEqProofs [act_clo, h, allD, bindT, bi_all, bi_any, bi_sum, bi_tup, bi_tupt, bi_lst, bi_lstt, bi_len, bi_lent, bi_sort, bi_sortt, bi_int, bi_abs, bi_intb, src_t, src_l, slc_t, slc_l, zip_t, zip_l, zip_lt, bindT_nm, int_P, add_i, sub_i, mul_i, fdiv_i, mod_i, add_t, lt_i, le_i, gt_i, ge_i, eq_i, ne_i, lcS_vals, forS_vals, allD_map, bools_map, all_map, add_l, z2, z3, z5]
    rfl
def lam5 (b : Ex) : Stm := .ex (.mu .append (.var 5) (.cons (.lcall iLawSaid b) .nil))
theorem ap (n : Nat) (b : Ex) (e : Env') (T T' : Sto) (ss : List PyData) (c : Nat) (tg : Str) (he : e[5]? = some (some (.r T.length))) (hl : T'.length = T.length) (hs : ss.length ≤ 100) (ht : Tag c tg) (h : ev (run pD 1000000 n) 1000000 b e (T ++ [.lst (ss.map PV.d)]) = .ex c none (T' ++ [.lst (ss.map PV.d)])) : exec (run pD 1000000 (n + 2)) 1000000 (lam5 b) e (T ++ [.lst (ss.map PV.d)]) = .nx e (T' ++ [.lst ((ss ++ [PyData.str tg]).map PV.d)]) := by
  have e1 := said n b e _ _ c tg (by rw [List.length_append, List.length_append, hl]) ht h
  have e2 := last_isL T (ss.map PV.d)
  have e3 := app_last T' ss (.str tg) (ltS' (by omega))
  rw [hl] at e3
  unfold lam5
  simp -implicitDefEqProofs only [execs, exec, ev, evs, evB, evT, evI, evC, evO, evL, startE]
  simp -implicitDefEqProofs [he, e1, e2, e3]
/-! what is none -/
theorem turns_backX (n : Nat) (x : PyData) (w : PV) (S : Sto) (h : inD x 1 20 = false) : G (n + 4) iTurnsBack [.d x, w] S = .ex xNoSize none S := by
  rw [G, run_def (d := cTurnsBack) rfl rfl, ← finO_x S [some (.d x), some w, none, none, none]]
  refine congrArg (finO false S) ?_
  simp -implicitDefEqProofs only [cTurnsBack, execs, exec, ev, evs, evB, evT, evI, evC, evO, evL, startE]
  simp -implicitDefEqProofs [check_size, h]
def noWays : List PyData := [.str "up", .none, .int 0, .str "", .tuple [.str "down"]]
theorem turns_backW (n : Nat) (x : PyData) (hx : x ∈ noWays) (S : Sto) : G (n + 4) iTurnsBack [PV.int 3, .d x] S = .ex xNoWay none S := by
  rw [G, run_def (d := cTurnsBack) rfl rfl, ← finO_x S [some (PV.int 3), some (.d x), none, none, none]]
  refine congrArg (finO false S) ?_
  have h3 : inD (.int 3) 1 20 = true := by decide
  have z2 : 2 ≤ sizeLine := Nat.le_of_lt (ltS' (by omega))
  have w1 : cmpV S .nin (PV.str "up") (PV.tup [.str "down", .str "monge"]) = some true := by
    show ((if _ then _ else _ : Option Bool).map (!·)) = _
    decide +kernel
  have w2 : cmpV S .nin (PV.str "") (PV.tup [.str "down", .str "monge"]) = some true := by
    show ((if _ then _ else _ : Option Bool).map (!·)) = _
    decide +kernel
  simp -implicitDefEqProofs only [noWays, List.mem_cons, List.not_mem_nil, or_false] at hx
  simp -implicitDefEqProofs only [cTurnsBack, execs, exec, ev, evs, evB, evT, evI, evC, evO, evL, startE]
  rcases hx with rfl | rfl | rfl | rfl | rfl
  · simp -implicitDefEqProofs [check_size, h3, isTy, allD, z2, w1]
  · simp -implicitDefEqProofs [check_size, h3, isTy, allD]
  · simp -implicitDefEqProofs [check_size, h3, isTy, allD]
  · simp -implicitDefEqProofs [check_size, h3, isTy, allD, z2, w2]
  · simp -implicitDefEqProofs [check_size, h3, isTy, allD]
theorem spelledX (n : Nat) (x : PyData) (w : PV) (S : Sto) (h : deckD x = false) : G (n + 6) iSpelled [.d x, w] S = .ex xNoDeck none S := by
  rw [G, run_def (d := cSpelled) rfl rfl, ← finO_x S [some (.d x), some w, none, none, none]]
  refine congrArg (finO false S) ?_
  simp -implicitDefEqProofs only [cSpelled, execs, exec, ev, evs, evB, evT, evI, evC, evO, evL, startE]
  simp -implicitDefEqProofs [check_deck, h]
def noWords : List PyData := [.none, .list [.str "a"], .tuple [.str "A"], .tuple [.str ""], .tuple [.int 1], .str "a"]
theorem name_A (n : Nat) (S : Sto) : G (n + 2) iIsName [PV.str "A"] S = .ok (PV.bool false) S := by
  have h : G (n + 1) iIsLetters [PV.str "A", PV.int 1, PV.int 12] S = .ok (PV.bool false) S := by
    rw [G, run_def (d := cIsLetters) rfl rfl, ← finO_d S]
    refine congrArg (finO false S) ?_
    have hl : biV S .len [PV.str "A"] = some (PV.int 1) := by
      show (if ("A" : Str).length ≤ sizeLine then some ("A" : Str).length else none).map (fun n : Nat => PV.int (n : Int)) = _
      rw [if_pos (by decide +kernel)]
      rfl
    have hs : srcV S (PV.str "A") = some (.vals [PV.str "A"]) := rfl
    have hi : cmpV S .in_ (PV.str "A") (PV.str "abcdefghijklmnopqrstuvwxyz") = some false := by
      show some (inS _ _) = _
      decide +kernel
    have z1 : 1 < sizeLine := ltS' (by omega)
    simp -implicitDefEqProofs only [cIsLetters, execs, exec, ev, evs, evB, evT, evI, evC, evO, evL, startE]
    simp -implicitDefEqProofs [isTy, hl, hs, bi_all, bi_any, bi_sum, bi_tup, bi_tupt, bi_lst, bi_lstt, bi_len, bi_lent, bi_sort, bi_sortt, bi_int, bi_abs, bi_intb, src_t, src_l, slc_t, slc_l, zip_t, zip_l, zip_lt, bindT_nm, int_P, add_i, sub_i, mul_i, fdiv_i, mod_i, add_t, lt_i, le_i, gt_i, ge_i, eq_i, ne_i, lcS_vals, forS_vals, allD_map, bools_map, all_map, lcV, lcBody, bindT, wipeE, hi, finL, z1, allD]
    rfl
  rw [G, run_def (d := cIsName) rfl rfl, ← finO_d S]
  refine congrArg (finO false S) ?_
  simp -implicitDefEqProofs only [cIsName, execs, exec, ev, evs, evB, evT, evI, evC, evO, evL, startE]
  simp -implicitDefEqProofs [h]
theorem name_e (n : Nat) (S : Sto) : G (n + 2) iIsName [PV.str ""] S = .ok (PV.bool false) S := by
  have h : G (n + 1) iIsLetters [PV.str "", PV.int 1, PV.int 12] S = .ok (PV.bool false) S := by
    rw [G, run_def (d := cIsLetters) rfl rfl, ← finO_d S]
    refine congrArg (finO false S) ?_
    have hl : biV S .len [PV.str ""] = some (PV.int 0) := by
      show (if ("" : Str).length ≤ sizeLine then some ("" : Str).length else none).map (fun n : Nat => PV.int (n : Int)) = _
      rw [if_pos (by decide +kernel)]
      rfl
    simp -implicitDefEqProofs only [cIsLetters, execs, exec, ev, evs, evB, evT, evI, evC, evO, evL, startE]
    simp -implicitDefEqProofs [isTy, hl, bi_all, bi_any, bi_sum, bi_tup, bi_tupt, bi_lst, bi_lstt, bi_len, bi_lent, bi_sort, bi_sortt, bi_int, bi_abs, bi_intb, src_t, src_l, slc_t, slc_l, zip_t, zip_l, zip_lt, bindT_nm, int_P, add_i, sub_i, mul_i, fdiv_i, mod_i, add_t, lt_i, le_i, gt_i, ge_i, eq_i, ne_i, lcS_vals, forS_vals, allD_map, bools_map, all_map]
  rw [G, run_def (d := cIsName) rfl rfl, ← finO_d S]
  refine congrArg (finO false S) ?_
  simp -implicitDefEqProofs only [cIsName, execs, exec, ev, evs, evB, evT, evI, evC, evO, evL, startE]
  simp -implicitDefEqProofs [h]
theorem name_1 (n : Nat) (S : Sto) : G (n + 2) iIsName [PV.int 1] S = .ok (PV.bool false) S := by
  have h : G (n + 1) iIsLetters [PV.int 1, PV.int 1, PV.int 12] S = .ok (PV.bool false) S := by
    rw [G, run_def (d := cIsLetters) rfl rfl, ← finO_d S]
    refine congrArg (finO false S) ?_
    simp -implicitDefEqProofs only [cIsLetters, execs, exec, ev, evs, evB, evT, evI, evC, evO, evL, startE]
    simp -implicitDefEqProofs [isTy, bi_all, bi_any, bi_sum, bi_tup, bi_tupt, bi_lst, bi_lstt, bi_len, bi_lent, bi_sort, bi_sortt, bi_int, bi_abs, bi_intb, src_t, src_l, slc_t, slc_l, zip_t, zip_l, zip_lt, bindT_nm, int_P, add_i, sub_i, mul_i, fdiv_i, mod_i, add_t, lt_i, le_i, gt_i, ge_i, eq_i, ne_i, lcS_vals, forS_vals, allD_map, bools_map, all_map]
  rw [G, run_def (d := cIsName) rfl rfl, ← finO_d S]
  refine congrArg (finO false S) ?_
  simp -implicitDefEqProofs only [cIsName, execs, exec, ev, evs, evB, evT, evI, evC, evO, evL, startE]
  simp -implicitDefEqProofs [h]
theorem are_words_no (n m : Nat) (x : PyData) (hx : x ∈ noWords) (hm : 1 ≤ m) (S : Sto) : G (n + 3) iAreWords [.d x, PV.int m] S = .ok (PV.bool false) S := by
  rw [G, run_def (d := cAreWords) rfl rfl, ← finO_d S]
  refine congrArg (finO false S) ?_
  have z1 : 1 < sizeLine := ltS' (by omega)
  have hm2 : (1 : Int) ≤ (m : Int) := by omega
  simp -implicitDefEqProofs only [noWords, List.mem_cons, List.not_mem_nil, or_false] at hx
  simp -implicitDefEqProofs only [cAreWords, execs, exec, ev, evs, evB, evT, evI, evC, evO, evL, startE]
  rcases hx with rfl | rfl | rfl | rfl | rfl | rfl
  · simp -implicitDefEqProofs [isTy]
  · simp -implicitDefEqProofs [isTy]
  · simp -implicitDefEqProofs [isTy, bi_all, bi_any, bi_sum, bi_tup, bi_tupt, bi_lst, bi_lstt, bi_len, bi_lent, bi_sort, bi_sortt, bi_int, bi_abs, bi_intb, src_t, src_l, slc_t, slc_l, zip_t, zip_l, zip_lt, bindT_nm, int_P, add_i, sub_i, mul_i, fdiv_i, mod_i, add_t, lt_i, le_i, gt_i, ge_i, eq_i, ne_i, lcS_vals, forS_vals, allD_map, bools_map, all_map, hm2, lcV, lcBody, bindT, wipeE, name_A, finL, z1, allD]
    rfl
  · simp -implicitDefEqProofs [isTy, bi_all, bi_any, bi_sum, bi_tup, bi_tupt, bi_lst, bi_lstt, bi_len, bi_lent, bi_sort, bi_sortt, bi_int, bi_abs, bi_intb, src_t, src_l, slc_t, slc_l, zip_t, zip_l, zip_lt, bindT_nm, int_P, add_i, sub_i, mul_i, fdiv_i, mod_i, add_t, lt_i, le_i, gt_i, ge_i, eq_i, ne_i, lcS_vals, forS_vals, allD_map, bools_map, all_map, hm2, lcV, lcBody, bindT, wipeE, name_e, finL, z1, allD]
    rfl
  · simp -implicitDefEqProofs [isTy, bi_all, bi_any, bi_sum, bi_tup, bi_tupt, bi_lst, bi_lstt, bi_len, bi_lent, bi_sort, bi_sortt, bi_int, bi_abs, bi_intb, src_t, src_l, slc_t, slc_l, zip_t, zip_l, zip_lt, bindT_nm, int_P, add_i, sub_i, mul_i, fdiv_i, mod_i, add_t, lt_i, le_i, gt_i, ge_i, eq_i, ne_i, lcS_vals, forS_vals, allD_map, bools_map, all_map, hm2, lcV, lcBody, bindT, wipeE, name_1, finL, z1, allD]
    rfl
  · simp -implicitDefEqProofs [isTy]
theorem spelledW (n : Nat) (xs : List Int) (x : PyData) (hx : x ∈ noWords) (S : Sto) (h : deckD (.tuple (dIs xs)) = true) (h0 : 1 ≤ xs.length) : G (n + 6) iSpelled [PV.tup (dIs xs), .d x] S = .ex xNoWords none S := by
  rw [G, run_def (d := cSpelled) rfl rfl, ← finO_x S [some (PV.tup (dIs xs)), some (.d x), none, none, none]]
  refine congrArg (finO false S) ?_
  have e := are_words_no (n + 2) xs.length x hx h0 S
  simp -implicitDefEqProofs only [cSpelled, execs, exec, ev, evs, evB, evT, evI, evC, evO, evL, startE]
  simp -implicitDefEqProofs [check_deck, h, bi_all, bi_any, bi_sum, bi_tup, bi_tupt, bi_lst, bi_lstt, bi_len, bi_lent, bi_sort, bi_sortt, bi_int, bi_abs, bi_intb, src_t, src_l, slc_t, slc_l, zip_t, zip_l, zip_lt, bindT_nm, int_P, add_i, sub_i, mul_i, fdiv_i, mod_i, add_t, lt_i, le_i, gt_i, ge_i, eq_i, ne_i, lcS_vals, forS_vals, allD_map, bools_map, all_map, dIs_len, e]
end Mn73

end

section
set_option Elab.async false
set_option linter.all false
set_option maxRecDepth 100000
set_option maxHeartbeats 4000000
namespace Mn73
open Mn
open PySem (PyData Str sizeLine)
theorem deckD_iff (xs : List Int) : deckD (.tuple (dIs xs)) = true ↔ xs.length ≤ 52 ∧ (∀ x ∈ xs, 0 ≤ x ∧ x ≤ 51) ∧ xs.Nodup := by
  unfold deckD
  simp -implicitDefEqProofs only [Bool.and_eq_true, decide_eq_true_eq, intsOf_dIs, dIs_len, List.all_eq_true]
  refine and_congr_right fun _ => and_congr_left fun _ => ⟨fun h x hx => ?_, fun h z hz => ?_⟩
  · have := h _ (List.mem_map_of_mem (f := PyData.int) hx)
    unfold cardD inD at this
    simpa using this
  · obtain ⟨i, hi, rfl⟩ := List.mem_map.mp hz
    unfold cardD inD
    simpa using h i hi
theorem deckD_perm {xs ys : List Int} (p : xs.Perm ys) (h : deckD (.tuple (dIs ys)) = true) : deckD (.tuple (dIs xs)) = true := by
  rw [deckD_iff] at h ⊢
  exact ⟨by rw [p.length_eq]; exact h.1, fun x hx => h.2.1 x (p.mem_iff.mp hx), p.nodup_iff.mpr h.2.2⟩
theorem deck_repr {xs : List Int} (h : deckD (.tuple (dIs xs)) = true) : reprOk (.tuple (dIs xs)) = true := by
  rw [deckD_iff] at h
  exact repr_tI (fun x hx => by have := h.2.1 x hx; omega) (by omega)
/-! ### all refusals -/
def cQ (i : Nat) : Stm := match cLawRefusedRight.body with
  | .cons a (.cons b (.cons c (.cons d _))) => [a, b, c, d].getD i .pass
  | _ => .pass
def noDecks (xs : List Int) : List PyData := [.none, .list (dIs xs), .tuple (dIs xs ++ dIs xs), .tuple [.int 52], .tuple [.bool true], .int 0, .str "ab"]
def noNums : List PyData := [.int 0, .int 61, .int (-1), .none, .bool true, .str "2"]
def noSizes : List PyData := [.int 0, .int 21, .int (-1), .none, .bool true]
theorem noDecks_no (xs : List Int) (h0 : 1 ≤ xs.length) : ∀ x ∈ noDecks xs, deckD x = false := by
  intro x hx
  simp -implicitDefEqProofs only [noDecks, List.mem_cons, List.not_mem_nil, or_false] at hx
  rcases hx with rfl | rfl | rfl | rfl | rfl | rfl | rfl
  · rfl
  · rfl
  · rw [dIs_app]
    cases e : deckD (.tuple (dIs (xs ++ xs))) with
    | false => rfl
    | true =>
      rw [deckD_iff] at e
      exfalso
      cases xs with
      | nil => simp at h0
      | cons x r => exact (List.nodup_append.mp e.2.2).2.2 x List.mem_cons_self x List.mem_cons_self rfl
  · decide +kernel
  · decide +kernel
  · rfl
  · rfl
theorem noNums_no : ∀ x ∈ noNums, inD x 1 60 = false := by
  have h : noNums.all (fun x => !inD x 1 60) = true := by decide +kernel
  intro x hx
  simpa using List.all_eq_true.mp h x hx
theorem noSizes_no : ∀ x ∈ noSizes, inD x 1 20 = false := by
  have h : noSizes.all (fun x => !inD x 1 20) = true := by decide +kernel
  intro x hx
  simpa using List.all_eq_true.mp h x hx
section
variable (n : Nat) (h : Hd) (R : Sto) (xs : List Int)
theorem q0 (ok : h.ok) (hl : xs.length ≤ 100) (h0 : 1 ≤ xs.length) : ∃ (x : PyData) (h' : Hd), h'.ok ∧ deckD x = false ∧ exec (run pD 1000000 (n + 2)) 1000000 (cQ 0) [some (.r 1), some (PV.tup (dIs xs)), none, none, none, none] (h.st R) = .nx [some (.r 1), some (PV.tup (dIs xs)), some (.d x), none, none, none] (h'.st R) := by
  obtain ⟨x, g, og, hx, e⟩ := any_one n h R (noDecks xs) ok (by simp -implicitDefEqProofs [noDecks]) (by simp -implicitDefEqProofs [noDecks])
  refine ⟨x, g, og, noDecks_no xs h0 x hx, ?_⟩
  have z1 : 1 ≤ sizeLine := Nat.le_of_lt (ltS' (by omega))
  have z7 : 7 ≤ sizeLine := Nat.le_of_lt (ltS' (by omega))
  have zz : xs.length + xs.length ≤ sizeLine := Nat.le_of_lt (ltS' (by omega))
  unfold noDecks at e
  simp -implicitDefEqProofs only [cQ, cLawRefusedRight, List.getD, List.getElem?_cons_succ, List.getElem?_cons_zero, Option.getD_some, execs, exec, ev, evs, evB, evT, evI, evC, evO, evL, startE]
  simp -implicitDefEqProofs [allD, z1, z7, zz, bi_all, bi_any, bi_sum, bi_tup, bi_tupt, bi_lst, bi_lstt, bi_len, bi_lent, bi_sort, bi_sortt, bi_int, bi_abs, bi_intb, src_t, src_l, slc_t, slc_l, zip_t, zip_l, zip_lt, bindT_nm, int_P, add_i, sub_i, mul_i, fdiv_i, mod_i, add_t, lt_i, le_i, gt_i, ge_i, eq_i, ne_i, lcS_vals, forS_vals, allD_map, bools_map, all_map, dIs_len, e]
theorem q1 (ok : h.ok) (a b : Option PV) : ∃ (x : PyData) (h' : Hd), h'.ok ∧ inD x 1 60 = false ∧ exec (run pD 1000000 (n + 2)) 1000000 (cQ 1) [some (.r 1), a, b, none, none, none] (h.st R) = .nx [some (.r 1), a, b, some (.d x), none, none] (h'.st R) := by
  obtain ⟨x, g, og, hx, e⟩ := any_one n h R noNums ok (by decide) (by decide)
  refine ⟨x, g, og, noNums_no x hx, ?_⟩
  have z6 : 6 ≤ sizeLine := Nat.le_of_lt (ltS' (by omega))
  unfold noNums at e
  simp -implicitDefEqProofs only [cQ, cLawRefusedRight, List.getD, List.getElem?_cons_succ, List.getElem?_cons_zero, Option.getD_some, execs, exec, ev, evs, evB, evT, evI, evC, evO, evL, startE]
  simp -implicitDefEqProofs [allD, z6, bi_all, bi_any, bi_sum, bi_tup, bi_tupt, bi_lst, bi_lstt, bi_len, bi_lent, bi_sort, bi_sortt, bi_int, bi_abs, bi_intb, src_t, src_l, slc_t, slc_l, zip_t, zip_l, zip_lt, bindT_nm, int_P, add_i, sub_i, mul_i, fdiv_i, mod_i, add_t, lt_i, le_i, gt_i, ge_i, eq_i, ne_i, lcS_vals, forS_vals, allD_map, bools_map, all_map, e]
theorem q2 (ok : h.ok) (a b c : Option PV) : ∃ (x : PyData) (h' : Hd), h'.ok ∧ inD x 1 20 = false ∧ exec (run pD 1000000 (n + 2)) 1000000 (cQ 2) [some (.r 1), a, b, c, none, none] (h.st R) = .nx [some (.r 1), a, b, c, some (.d x), none] (h'.st R) := by
  obtain ⟨x, g, og, hx, e⟩ := any_one n h R noSizes ok (by decide) (by decide)
  refine ⟨x, g, og, noSizes_no x hx, ?_⟩
  have z5 : 5 ≤ sizeLine := Nat.le_of_lt (ltS' (by omega))
  unfold noSizes at e
  simp -implicitDefEqProofs only [cQ, cLawRefusedRight, List.getD, List.getElem?_cons_succ, List.getElem?_cons_zero, Option.getD_some, execs, exec, ev, evs, evB, evT, evI, evC, evO, evL, startE]
  simp -implicitDefEqProofs [allD, z5, bi_all, bi_any, bi_sum, bi_tup, bi_tupt, bi_lst, bi_lstt, bi_len, bi_lent, bi_sort, bi_sortt, bi_int, bi_abs, bi_intb, src_t, src_l, slc_t, slc_l, zip_t, zip_l, zip_lt, bindT_nm, int_P, add_i, sub_i, mul_i, fdiv_i, mod_i, add_t, lt_i, le_i, gt_i, ge_i, eq_i, ne_i, lcS_vals, forS_vals, allD_map, bools_map, all_map, e]
end
abbrev eQ (xs : List Int) (x y z : PyData) (T : Nat) : Env' := [some (.r 1), some (PV.tup (dIs xs)), some (.d x), some (.d y), some (.d z), some (.r T)]
theorem q3 (n : Nat) (S : Sto) (xs : List Int) (x y z : PyData) (hx : deckD x = false) : exec (run pD 1000000 (n + 8)) 1000000 (cQ 3) [some (.r 1), some (PV.tup (dIs xs)), some (.d x), some (.d y), some (.d z), none] S = .nx (eQ xs x y z S.length) (S ++ [.lst ([PyData.str "deck"].map PV.d)]) := by
  have e1 := said (n + 6) (.call 14 (.cons (.var 2) (.cons (.var 3) .nil))) [some (.r 1), some (PV.tup (dIs xs)), some (.d x), some (.d y), some (.d z), none] S S xNoDeck "deck" rfl .deck (by simp -implicitDefEqProofs only [execs, exec, ev, evs, evB, evT, evI, evC, evO, evL, startE]; simp -implicitDefEqProofs [every_nthX n x y S hx])
  have en := newF_d S [PyData.str "deck"]
  have z1 : 1 < sizeLine := ltS' (by omega)
  rw [List.map_cons, List.map_nil] at en
  simp -implicitDefEqProofs only [cQ, cLawRefusedRight, List.getD, List.getElem?_cons_succ, List.getElem?_cons_zero, Option.getD_some, execs, exec, ev, evs, evB, evT, evI, evC, evO, evL, startE]
  simp -implicitDefEqProofs [e1, en, z1, bindT]
theorem t_split (F : Nat → List PV → Sto → Res PV) (L : Nat) (e : Env') (S : Sto) : execs F L cLawRefusedRight.body e S = (exec F L (cQ 0) e S).bind fun e S => (exec F L (cQ 1) e S).bind fun e S => (exec F L (cQ 2) e S).bind fun e S => (exec F L (cQ 3) e S).bind fun e S =>
    (exec F L (lam5 (.call 11 (.cons (.var 2) .nil))) e S).bind fun e S => (exec F L (lam5 (.call 13 (.cons (.var 2) .nil))) e S).bind fun e S => (exec F L (lam5 (.call 18 (.cons (.var 2) .nil))) e S).bind fun e S => (exec F L (lam5 (.call 14 (.cons (.var 1) (.cons (.var 3) .nil)))) e S).bind fun e S => (exec F L (lam5 (.call 20 (.cons (.var 4) (.cons (.lit (.str "x")) .nil)))) e S).bind fun e S =>
    (exec F L (lam5 (.call 20 (.cons (.lit (.int 3)) (.cons (.call 23 (.cons (.var 0) (.cons (.lst (.cons (.lit (.str "up")) (.cons (.lit .none) (.cons (.lit (.int 0)) (.cons (.lit (.str "")) (.cons (.tup (.cons (.lit (.str "down")) .nil)) .nil)))))) .nil))) .nil)))) e S).bind fun e S =>
    (exec F L (lam5 (.call 16 (.cons (.var 2) (.cons (.lit .none) .nil)))) e S).bind fun e S =>
    (exec F L (lam5 (.call 16 (.cons (.var 1) (.cons (.call 23 (.cons (.var 0) (.cons (.lst (.cons (.lit .none) (.cons (.lst (.cons (.lit (.str "a")) .nil)) (.cons (.tup (.cons (.lit (.str "A")) .nil)) (.cons (.tup (.cons (.lit (.str "")) .nil)) (.cons (.tup (.cons (.lit (.int 1)) .nil)) (.cons (.lit (.str "a")) .nil))))))) .nil))) .nil)))) e S).bind fun e S =>
    (exec F L (.ret (.cmp .eq (.var 5) (.bin .add (.bin .mul (.lst (.cons (.lit (.str "deck")) .nil)) (.lit (.int 4))) (.lst (.cons (.lit (.str "number")) (.cons (.lit (.str "size")) (.cons (.lit (.str "way")) (.cons (.lit (.str "deck")) (.cons (.lit (.str "words")) .nil))))))))) e S).bind fun e S => .nx e S := rfl
theorem refused_right (n : Nat) (h : Hd) (R : Sto) (xs : List Int) (ok : h.ok) (hd : deckD (.tuple (dIs xs)) = true) (h0 : 1 ≤ xs.length) : ∃ h' : Hd, h'.ok ∧ G (n + 10) iLawRefusedRight [.r 1, PV.tup (dIs xs)] (h.st R) = .ok (PV.bool true) (h'.st R) := by
  have hl : xs.length ≤ 52 := ((deckD_iff xs).mp hd).1
  obtain ⟨x, g, og, hx, e0⟩ := q0 (n + 7) h R xs ok (by omega) h0
  obtain ⟨y, g1, og1, hy, e1⟩ := q1 (n + 7) g R og (some (PV.tup (dIs xs))) (some (.d x))
  obtain ⟨z, g2, og2, hz, e2⟩ := q2 (n + 7) g1 R og1 (some (PV.tup (dIs xs))) (some (.d x)) (some (.d y))
  have e3 := q3 (n + 1) (g2.st R) xs x y z hx
  have a1 := ap (n + 7) (.call 11 (.cons (.var 2) .nil)) (eQ xs x y z (g2.st R).length) (g2.st R) (g2.st R) [.str "deck"] xNoDeck "deck" rfl rfl (by simp) .deck (by simp -implicitDefEqProofs only [execs, exec, ev, evs, evB, evT, evI, evC, evO, evL, startE]; simp -implicitDefEqProofs [down_underX (n + 1) x _ hx])
  have a2 := ap (n + 7) (.call 13 (.cons (.var 2) .nil)) (eQ xs x y z (g2.st R).length) (g2.st R) (g2.st R) ([.str "deck"] ++ [.str "deck"]) xNoDeck "deck" rfl rfl (by simp) .deck (by simp -implicitDefEqProofs only [execs, exec, ev, evs, evB, evT, evI, evC, evO, evL, startE]; simp -implicitDefEqProofs [deck_forX (n + 1) x _ hx])
  have a3 := ap (n + 7) (.call 18 (.cons (.var 2) .nil)) (eQ xs x y z (g2.st R).length) (g2.st R) (g2.st R) ([.str "deck"] ++ [.str "deck"] ++ [.str "deck"]) xNoDeck "deck" rfl rfl (by simp) .deck (by simp -implicitDefEqProofs only [execs, exec, ev, evs, evB, evT, evI, evC, evO, evL, startE]; simp -implicitDefEqProofs [mongeX (n + 1) x _ hx])
  have a4 := ap (n + 7) (.call 14 (.cons (.var 1) (.cons (.var 3) .nil))) (eQ xs x y z (g2.st R).length) (g2.st R) (g2.st R) ([.str "deck"] ++ [.str "deck"] ++ [.str "deck"] ++ [.str "deck"]) xNoNumber "number" rfl rfl (by simp) .number (by simp -implicitDefEqProofs only [execs, exec, ev, evs, evB, evT, evI, evC, evO, evL, startE]; simp -implicitDefEqProofs [every_nthY (n + 1) (.tuple (dIs xs)) y _ hd hy])
  have a5 := ap (n + 7) (.call 20 (.cons (.var 4) (.cons (.lit (.str "x")) .nil))) (eQ xs x y z (g2.st R).length) (g2.st R) (g2.st R) ([.str "deck"] ++ [.str "deck"] ++ [.str "deck"] ++ [.str "deck"] ++ [.str "number"]) xNoSize "size" rfl rfl (by simp) .size (by simp -implicitDefEqProofs only [execs, exec, ev, evs, evB, evT, evI, evC, evO, evL, startE]; simp -implicitDefEqProofs [turns_backX (n + 3) z _ _ hz])
  obtain ⟨s6, hs6⟩ : ∃ s6 : List PyData, s6 = [.str "deck"] ++ [.str "deck"] ++ [.str "deck"] ++ [.str "deck"] ++ [.str "number"] ++ [.str "size"] := ⟨_, rfl⟩
  obtain ⟨w, g3, og3, hw, ew⟩ := any_one (n + 5) g2 (R ++ [.lst (s6.map PV.d)]) noWays og2 (by decide) (by decide)
  rw [← Hd.app, ← Hd.app] at ew
  have z1 : 1 ≤ sizeLine := Nat.le_of_lt (ltS' (by omega))
  have z4 : 4 ≤ sizeLine := Nat.le_of_lt (ltS' (by omega))
  have z5 : 5 ≤ sizeLine := Nat.le_of_lt (ltS' (by omega))
  have z6 : 6 ≤ sizeLine := Nat.le_of_lt (ltS' (by omega))
  have z9 : 9 ≤ sizeLine := Nat.le_of_lt (ltS' (by omega))
  have a6 := ap (n + 7) (.call 20 (.cons (.lit (.int 3)) (.cons (.call 23 (.cons (.var 0) (.cons (.lst (.cons (.lit (.str "up")) (.cons (.lit .none) (.cons (.lit (.int 0)) (.cons (.lit (.str "")) (.cons (.tup (.cons (.lit (.str "down")) .nil)) .nil)))))) .nil))) .nil))) (eQ xs x y z (g2.st R).length) (g2.st R) (g3.st R) s6 xNoWay "way" rfl rfl (by rw [hs6]; simp) .way (by
    have e9 := turns_backW (n + 3) w hw (g3.st R ++ [.lst (s6.map PV.d)])
    unfold noWays at ew
    simp -implicitDefEqProofs only [execs, exec, ev, evs, evB, evT, evI, evC, evO, evL, startE]
    simp -implicitDefEqProofs [allD, z1, z5, bi_all, bi_any, bi_sum, bi_tup, bi_tupt, bi_lst, bi_lstt, bi_len, bi_lent, bi_sort, bi_sortt, bi_int, bi_abs, bi_intb, src_t, src_l, slc_t, slc_l, zip_t, zip_l, zip_lt, bindT_nm, int_P, add_i, sub_i, mul_i, fdiv_i, mod_i, add_t, lt_i, le_i, gt_i, ge_i, eq_i, ne_i, lcS_vals, forS_vals, allD_map, bools_map, all_map, ew, e9])
  have a7 := ap (n + 7) (.call 16 (.cons (.var 2) (.cons (.lit .none) .nil))) (eQ xs x y z (g2.st R).length) (g3.st R) (g3.st R) (s6 ++ [.str "way"]) xNoDeck "deck" rfl rfl (by rw [hs6]; simp) .deck (by simp -implicitDefEqProofs only [execs, exec, ev, evs, evB, evT, evI, evC, evO, evL, startE]; simp -implicitDefEqProofs [spelledX (n + 1) x _ _ hx])
  obtain ⟨s8, hs8⟩ : ∃ s8 : List PyData, s8 = s6 ++ [.str "way"] ++ [.str "deck"] := ⟨_, rfl⟩
  obtain ⟨v, g4, og4, hv, eww⟩ := any_one (n + 5) g3 (R ++ [.lst (s8.map PV.d)]) noWords og3 (by decide) (by decide)
  rw [← Hd.app, ← Hd.app] at eww
  have a8 := ap (n + 7) (.call 16 (.cons (.var 1) (.cons (.call 23 (.cons (.var 0) (.cons (.lst (.cons (.lit .none) (.cons (.lst (.cons (.lit (.str "a")) .nil)) (.cons (.tup (.cons (.lit (.str "A")) .nil)) (.cons (.tup (.cons (.lit (.str "")) .nil)) (.cons (.tup (.cons (.lit (.int 1)) .nil)) (.cons (.lit (.str "a")) .nil))))))) .nil))) .nil))) (eQ xs x y z (g2.st R).length) (g3.st R) (g4.st R) s8 xNoWords "words" rfl rfl (by rw [hs8, hs6]; simp) .words (by
    have e9 := spelledW (n + 1) xs v hv (g4.st R ++ [.lst (s8.map PV.d)]) hd h0
    unfold noWords at eww
    simp -implicitDefEqProofs only [execs, exec, ev, evs, evB, evT, evI, evC, evO, evL, startE]
    simp -implicitDefEqProofs [allD, z1, z6, bi_all, bi_any, bi_sum, bi_tup, bi_tupt, bi_lst, bi_lstt, bi_len, bi_lent, bi_sort, bi_sortt, bi_int, bi_abs, bi_intb, src_t, src_l, slc_t, slc_l, zip_t, zip_l, zip_lt, bindT_nm, int_P, add_i, sub_i, mul_i, fdiv_i, mod_i, add_t, lt_i, le_i, gt_i, ge_i, eq_i, ne_i, lcS_vals, forS_vals, allD_map, bools_map, all_map, eww, e9])
  rw [← hs6] at a5
  rw [← hs8] at a7
  obtain ⟨s9, hs9⟩ : ∃ s9 : List PyData, s9 = s8 ++ [.str "words"] := ⟨_, rfl⟩
  rw [← hs9] at a8
  have e9 : cmpV (g4.st R ++ [.lst (s9.map PV.d)]) .eq (.r (g2.st R).length) (PV.lst [.str "deck", .str "deck", .str "deck", .str "deck", .str "number", .str "size", .str "way", .str "deck", .str "words"]) = some true := by
    rw [hs9, hs8, hs6]
    exact last_eq (S := g4.st R) rfl (by decide +kernel) (by decide +kernel)
  refine ⟨g4, og4, ?_⟩
  rw [G, run_def (d := cLawRefusedRight) rfl rfl, ← finO_lenA (h.st R) (g4.st R) [.lst (s9.map PV.d)] _ (Hd.len _ _ _ _ rfl)]
  refine congrArg (finO false (h.st R)) ?_
  rw [t_split]
  show (exec (run pD 1000000 (n + 9)) 1000000 (cQ 0) [some (.r 1), some (PV.tup (dIs xs)), none, none, none, none] (h.st R)).bind _ = _
  rw [e0, Out.bind_nx, e1, Out.bind_nx, e2, Out.bind_nx, e3, Out.bind_nx, a1, Out.bind_nx, a2, Out.bind_nx, a3, Out.bind_nx, a4, Out.bind_nx, a5, Out.bind_nx, a6, Out.bind_nx, a7, Out.bind_nx, a8, Out.bind_nx]
  have em : binV (g4.st R ++ [.lst (s9.map PV.d)]) .mul (PV.lst [.str "deck"]) (PV.int 4) = some (PV.lst [.str "deck", .str "deck", .str "deck", .str "deck"]) := by
    simp -implicitDefEqProofs only [binV]
    rw [if_pos (by refine ⟨?_, ?_, ?_⟩ <;> first | omega | (show 1 * 4 ≤ sizeLine; omega))]
    rfl
  simp -implicitDefEqProofs only [execs, exec, ev, evs, evB, evT, evI, evC, evO, evL, startE]
  simp -implicitDefEqProofs [allD, z1, z5, em, add_l, z9, e9]
end Mn73

end

section
set_option Elab.async false
set_option linter.all false
set_option maxRecDepth 100000
set_option maxHeartbeats 4000000
namespace Mn73
open Mn
open PySem (PyData Str sizeLine)
/-! ### the drawer at first -/
theorem tape (n : Nat) (ns : List Int) (h : ns.length ≤ 63) : ∃ d : Hd, d.ok ∧ G (n + 1) iLawHand [.s ns] [] = .ok (.r 1) (d.st []) := by
  obtain ⟨ms, hms⟩ : ∃ ms, ms = cutD ns none (some 63) := ⟨_, rfl⟩
  have hl : ms.length < 1000 := by
    have e := cut_to ns 63
    rw [show ((63 : Nat) : Int) = 63 from rfl] at e
    rw [hms, e, List.length_take]
    omega
  have es : slcV [] (.s ns) none (some 63) = some (PV.lst (dIs ms)) := by rw [hms]; rfl
  have hz : (ms.map absI).length < sizeLine := ltS' (by rw [List.length_map]; omega)
  have z5 : 5 < sizeLine := ltS' (by omega)
  have hz2 : ms.length < sizeLine := ltS' (by omega)
  have ef : (ms.map fun i => PV.d (PyData.int (absI i))) = (dIs (ms.map absI)).map PV.d := by
    unfold dIs
    rw [List.map_map, List.map_map]
    rfl
  have en := newF_d [] (dIs (ms.map absI))
  have eq : biV ([Cell.lst ((dIs (ms.map absI)).map PV.d)] : Sto) .len [.r 0] = some (PV.int (ms.length : Nat)) := by
    show some (PV.int ((((dIs (ms.map absI)).map PV.d).length : Nat) : Int)) = _
    rw [List.length_map, dIs_len, List.length_map]
  have key : ∃ m : Int, G (n + 1) iLawHand [.s ns] [] = .ok (.r 1) ((⟨ms.map absI, 0, 0, m, 0⟩ : Hd).st []) := by
    refine ⟨?mixed0, ?proof0⟩
    case proof0 =>
      rw [G, run_def (d := cLawHand) rfl rfl]
      simp -implicitDefEqProofs only [cLawHand, execs, exec, ev, evs, evB, evT, evI, evC, evO, evL, startE]
      simp -implicitDefEqProofs only [Res.ofOpt_some, Res.ofOpt_none, Res.bind_ok, Res.bind_ex, Res.out_ok, Res.out_ex, Out.bind_nx, Out.bind_rt, Out.bind_ex, Out.ofOpt_some, asB_b, Option.map_some, Option.bind_some, List.getElem?_cons_zero]
      simp -implicitDefEqProofs [int_P, es, src_l, lcS_vals]
      rw [lcV_ints (f := fun i => PyData.int (absI i)) (h := fun i hi => ?_)]
      · simp -implicitDefEqProofs only [Res.bind_ok]
        unfold finL
        rw [if_pos (by rw [List.length_map, List.length_map]; exact hz2)]
        rw [show (ms.map (fun i => PyData.int (absI i))).map PV.d = (dIs (ms.map absI)).map PV.d by unfold dIs; rw [List.map_map, List.map_map, List.map_map]; rfl]
        simp -implicitDefEqProofs only [Res.bind_ok, en, List.nil_append, List.length_nil]
        simp -implicitDefEqProofs [bindT, eq, z5, bi_all, bi_any, bi_sum, bi_tup, bi_tupt, bi_lst, bi_lstt, bi_len, bi_lent, bi_sort, bi_sortt, bi_int, bi_abs, bi_intb, src_t, src_l, slc_t, slc_l, zip_t, zip_l, zip_lt, bindT_nm, int_P, add_i, sub_i, mul_i, fdiv_i, mod_i, add_t, lt_i, le_i, gt_i, ge_i, eq_i, ne_i, lcS_vals, forS_vals, allD_map, bools_map, all_map, mulOk_litl, mulOk_lit]
        rfl
      · unfold lcBody
        simp -implicitDefEqProofs [bindT, wipeE, bi_all, bi_any, bi_sum, bi_tup, bi_tupt, bi_lst, bi_lstt, bi_len, bi_lent, bi_sort, bi_sortt, bi_int, bi_abs, bi_intb, src_t, src_l, slc_t, slc_l, zip_t, zip_l, zip_lt, bindT_nm, int_P, add_i, sub_i, mul_i, fdiv_i, mod_i, add_t, lt_i, le_i, gt_i, ge_i, eq_i, ne_i, lcS_vals, forS_vals, allD_map, bools_map, all_map]
  obtain ⟨m, e⟩ := key
  refine ⟨_, ⟨fun z hz => ?_, Int.le_refl _, Int.le_refl _⟩, e⟩
  obtain ⟨i, _, rfl⟩ := List.mem_map.mp hz
  unfold absI
  split <;> omega
end Mn73

end

section
set_option Elab.async false
set_option linter.all false
set_option maxRecDepth 100000
set_option maxHeartbeats 4000000
namespace Mn73
open Mn
open PySem (PyData Str sizeLine)
/-! ### the law -/
def sN : Nat → Stms → Stm
  | 0, .cons s _ => s
  | n + 1, .cons _ r => sN n r
  | _, .nil => .pass
abbrev X (n : Nat) (i : Nat) (e : Env') (S : Sto) : Out := exec (run pD 1000000 n) 1000000 (sN i cLaw_b1) e S
theorem b_split (F : Nat → List PV → Sto → Res PV) (L : Nat) (e : Env') (S : Sto) : execs F L cLaw_b1 e S = (exec F L (sN 0 cLaw_b1) e S).bind fun e S => (exec F L (sN 1 cLaw_b1) e S).bind fun e S => (exec F L (sN 2 cLaw_b1) e S).bind fun e S => (exec F L (sN 3 cLaw_b1) e S).bind fun e S => (exec F L (sN 4 cLaw_b1) e S).bind fun e S => (exec F L (sN 5 cLaw_b1) e S).bind fun e S => (exec F L (sN 6 cLaw_b1) e S).bind fun e S => (exec F L (sN 7 cLaw_b1) e S).bind fun e S => (exec F L (sN 8 cLaw_b1) e S).bind fun e S => (exec F L (sN 9 cLaw_b1) e S).bind fun e S => (exec F L (sN 10 cLaw_b1) e S).bind fun e S => .nx e S := rfl
theorem w01 (n : Nat) (h : Hd) (R : Sto) (ok : h.ok) (a c d p q r s t : Option PV) : ∃ (m k : Nat) (xs : List Int) (h' : Hd), h'.ok ∧ 1 ≤ m ∧ m ≤ 12 ∧ xs.length = m ∧ deckD (.tuple (dIs xs)) = true ∧ k < 60 ∧ (X (n + 2) 0 [a, some (.r 1), c, d, p, q, r, s, t] (h.st R)).bind (fun e S => X (n + 2) 1 e S) = .nx [a, some (.r 1), c, some (PV.int m), p, some (PV.tup (dIs xs)), some (PV.int ((k : Int) + 1)), s, t] (h'.st R) := by
  obtain ⟨v, g, og, v0, v1, e1⟩ := draw (n + 1) h R 12 ok (by omega) (by omega)
  obtain ⟨m, hm⟩ : ∃ m : Nat, (1 : Int) + v = (m : Int) := ⟨(1 + v).toNat, by omega⟩
  obtain ⟨xs, g1, og1, lx, nx, bx, e2⟩ := cards n g R m 0 og (by omega)
  obtain ⟨w, g2, og2, w0, w1, e3⟩ := draw (n + 1) g1 R 60 og1 (by omega) (by omega)
  obtain ⟨k, hk⟩ : ∃ k : Nat, w = (k : Int) := ⟨w.toNat, by omega⟩
  subst hk
  refine ⟨m, k, xs, g2, og2, by omega, by omega, lx, (deckD_iff xs).mpr ⟨by omega, fun x hx => by have := bx x hx; omega, nx⟩, by omega, ?_⟩
  have ec : (1 : Int) + (k : Int) = (k : Int) + 1 := by omega
  rw [show ((0 : Nat) : Int) = 0 from rfl] at e2
  simp -implicitDefEqProofs only [X, sN, cLaw_b1, execs, exec, ev, evs, evB, evT, evI, evC, evO, evL, startE]
  simp -implicitDefEqProofs [e1, hm, e2, e3, ec, bi_all, bi_any, bi_sum, bi_tup, bi_tupt, bi_lst, bi_lstt, bi_len, bi_lent, bi_sort, bi_sortt, bi_int, bi_abs, bi_intb, src_t, src_l, slc_t, slc_l, zip_t, zip_l, zip_lt, bindT_nm, int_P, add_i, sub_i, mul_i, fdiv_i, mod_i, add_t, lt_i, le_i, gt_i, ge_i, eq_i, ne_i, lcS_vals, forS_vals, allD_map, bools_map, all_map, setPar, bindT]
section
variable (n : Nat) (S : Sto) (m k : Nat) (xs : List Int) (a c s t : Option PV) (hd : deckD (.tuple (dIs xs)) = true) (hk : k < 60)
abbrev eW (a c p s t : Option PV) (m k : Nat) (xs : List Int) : Env' := [a, some (.r 1), c, some (PV.int m), p, some (PV.tup (dIs xs)), some (PV.int ((k : Int) + 1)), s, t]
theorem w2 (p : Option PV) (hd : deckD (.tuple (dIs xs)) = true) (hk : k < 60) : X (n + 6) 2 (eW a c p s t m k xs) S = .nx (eW a c p s t m k xs) S := by
  have hl : xs.length ≤ 1000 := by have := ((deckD_iff xs).mp hd).1; omega
  have e1 := every_nth n xs 1 S hd hl (by omega) (by omega)
  have e3 := every_nth n xs (k + 1) S hd hl (by omega) (by omega)
  rw [Nat.add_sub_cancel] at e3
  rw [show ((k + 1 : Nat) : Int) = (k : Int) + 1 by omega] at e3
  rw [show ((1 : Nat) : Int) = 1 from rfl, Nat.sub_self, rot_zero, dealP_zero] at e1
  have e4 := law_dealt (n + 5) xs k false S hl (by omega)
  rw [if_neg Bool.false_ne_true] at e4
  have q2 := bi_repr (S := S) (deck_repr (deckD_perm ((dealP_perm k (rot k xs)).trans (rot_perm k xs)) hd))
  have ek : (k : Int) + 1 - 1 = (k : Int) := by omega
  simp -implicitDefEqProofs only [X, sN, cLaw_b1, execs, exec, ev, evs, evB, evT, evI, evC, evO, evL, startE]
  simp -implicitDefEqProofs [e1, e3, e4, q2, bi_all, bi_any, bi_sum, bi_tup, bi_tupt, bi_lst, bi_lstt, bi_len, bi_lent, bi_sort, bi_sortt, bi_int, bi_abs, bi_intb, src_t, src_l, slc_t, slc_l, zip_t, zip_l, zip_lt, bindT_nm, int_P, add_i, sub_i, mul_i, fdiv_i, mod_i, add_t, lt_i, le_i, gt_i, ge_i, eq_i, ne_i, lcS_vals, forS_vals, allD_map, bools_map, all_map, ne_s, ne_tI, ek]
theorem w3 (p : Option PV) (hd : deckD (.tuple (dIs xs)) = true) : X (n + 6) 3 (eW a c p s t m k xs) S = .nx (eW a c p s t m k xs) S := by
  have hl : xs.length ≤ 1000 := by have := ((deckD_iff xs).mp hd).1; omega
  have e1 := monge n xs S hd hl
  have e2 := law_monge (n + 5) xs S hl
  have q := bi_repr (S := S) (deck_repr (deckD_perm (mongeP_perm xs) hd))
  have es := sortI_congr (mongeP_perm xs)
  simp -implicitDefEqProofs only [X, sN, cLaw_b1, execs, exec, ev, evs, evB, evT, evI, evC, evO, evL, startE]
  simp -implicitDefEqProofs [e1, e2, q, bi_all, bi_any, bi_sum, bi_tup, bi_tupt, bi_lst, bi_lstt, bi_len, bi_lent, bi_sort, bi_sortt, bi_int, bi_abs, bi_intb, src_t, src_l, slc_t, slc_l, zip_t, zip_l, zip_lt, bindT_nm, int_P, add_i, sub_i, mul_i, fdiv_i, mod_i, add_t, lt_i, le_i, gt_i, ge_i, eq_i, ne_i, lcS_vals, forS_vals, allD_map, bools_map, all_map, ne_s, ne_lI, intsD_ints, es]
theorem w4 (p : Option PV) (hd : deckD (.tuple (dIs xs)) = true) : X (n + 6) 4 (eW a c p s t m k xs) S = .nx (eW a c (some (PV.tup (dIs (dealP 1 xs)))) s t m k xs) S := by
  have hl : xs.length ≤ 1000 := by have := ((deckD_iff xs).mp hd).1; omega
  have e4 := law_dealt (n + 5) xs 1 true S hl (by omega)
  rw [if_pos rfl, show ((1 : Nat) : Int) = 1 from rfl] at e4
  simp -implicitDefEqProofs only [X, sN, cLaw_b1, execs, exec, ev, evs, evB, evT, evI, evC, evO, evL, startE]
  simp -implicitDefEqProofs [e4, bindT]
theorem w56 (hd : deckD (.tuple (dIs xs)) = true) : (X (n + 6) 5 (eW a c (some (PV.tup (dIs (dealP 1 xs)))) s t m k xs) S).bind (fun e S => X (n + 6) 6 e S) = .nx (eW a c (some (PV.tup (dIs (dealP 1 xs)))) s t m k xs) S := by
  have hl : xs.length ≤ 1000 := by have := ((deckD_iff xs).mp hd).1; omega
  obtain ⟨d, hdl, ed⟩ := dealP_onto 1 xs.length xs rfl
  have pd : d.Perm xs := by rw [← ed]; exact (dealP_perm 1 d).symm
  have hdd : deckD (.tuple (dIs d)) = true := deckD_perm pd hd
  have hl2 : d.length ≤ 1000 := by omega
  have e1 := deck_for n d S (by rw [ed]; exact hd) hl2
  rw [ed] at e1
  have e3 := deck_for n xs S (deckD_perm (dealP_perm 1 xs) hd) hl
  have e4 := down_under n d S hdd hl2
  rw [ed] at e4
  have e5 := down_under n xs S hd hl
  have q := bi_repr (S := S) (deck_repr (deckD_perm (dealP_perm 1 xs) hd))
  simp -implicitDefEqProofs only [X, sN, cLaw_b1, execs, exec, ev, evs, evB, evT, evI, evC, evO, evL, startE]
  simp -implicitDefEqProofs [e1, e3, e4, e5, q, bi_all, bi_any, bi_sum, bi_tup, bi_tupt, bi_lst, bi_lstt, bi_len, bi_lent, bi_sort, bi_sortt, bi_int, bi_abs, bi_intb, src_t, src_l, slc_t, slc_l, zip_t, zip_l, zip_lt, bindT_nm, int_P, add_i, sub_i, mul_i, fdiv_i, mod_i, add_t, lt_i, le_i, gt_i, ge_i, eq_i, ne_i, lcS_vals, forS_vals, allD_map, bools_map, all_map, ne_s, ne_tI]
theorem w7 (p : Option PV) (h1 : 1 ≤ m) (h2 : m ≤ 12) : X (n + 6) 7 (eW a c p s t m k xs) S = .nx (eW a c p s t m k xs) S := by
  obtain ⟨z, hz⟩ := dealP_last (xs := iota m) (by rw [iota_len]; omega)
  have zm : z ∈ dealP 1 (iota m) := List.mem_of_getLast? hz
  have zb := mem_iota.mp ((dealP_perm 1 _).mem_iff.mp zm)
  have e1 := last_down (n + 2) m S (by omega) (by omega) z hz
  have e2 := law_dealt (n + 5) (iota m) 1 true S (by rw [iota_len]; omega) (by omega)
  rw [if_pos rfl, show ((1 : Nat) : Int) = 1 from rfl] at e2
  have er := rnglT_iota m (by omega) S
  have q := bi_repr (S := S) (repr_i (i := z) (by omega))
  have ei := (idx_last (S := S) (last_dIs hz)).2
  simp -implicitDefEqProofs only [X, sN, cLaw_b1, execs, exec, ev, evs, evB, evT, evI, evC, evO, evL, startE]
  simp -implicitDefEqProofs [bi_all, bi_any, bi_sum, bi_tup, bi_tupt, bi_lst, bi_lstt, bi_len, bi_lent, bi_sort, bi_sortt, bi_int, bi_abs, bi_intb, src_t, src_l, slc_t, slc_l, zip_t, zip_l, zip_lt, bindT_nm, int_P, add_i, sub_i, mul_i, fdiv_i, mod_i, add_t, lt_i, le_i, gt_i, ge_i, eq_i, ne_i, lcS_vals, forS_vals, allD_map, bools_map, all_map, e1, q, rg1_iota m (by omega), er, e2, ei, ne_s]
end
theorem w89 (n : Nat) (h : Hd) (R : Sto) (ok : h.ok) (a c p s t : Option PV) (m k : Nat) (xs : List Int) : ∃ (s' t' : Option PV) (h' : Hd), h'.ok ∧ (X (n + 6) 8 (eW a c p s t m k xs) (h.st R)).bind (fun e S => X (n + 6) 9 e S) = .nx (eW a c p s' t' m k xs) (h'.st R) := by
  obtain ⟨v, g, og, v0, v1, e1⟩ := draw (n + 5) h R 20 ok (by omega) (by omega)
  obtain ⟨j, hj⟩ : ∃ j : Nat, (1 : Int) + v = (j : Int) := ⟨(1 + v).toNat, by omega⟩
  obtain ⟨x, g1, og1, hx, e2⟩ := any_one (n + 4) g R [.str "down", .str "monge"] og (by simp) (by simp)
  obtain ⟨w, hw⟩ : ∃ w : Bool, x = .str (wayS w) := by
    simp -implicitDefEqProofs only [List.mem_cons, List.not_mem_nil, or_false] at hx
    rcases hx with rfl | rfl
    · exact ⟨true, rfl⟩
    · exact ⟨false, rfl⟩
  subst hw
  have e3 := turns_back (n + 1) j w (g1.st R) (by omega) (by omega)
  have e4 := law_often (n + 4) j w (g1.st R) (by omega)
  have o2 := (ord_all j (by omega) w).2
  have q := bi_repr (S := g1.st R) (repr_i (i := (1 : Int) + (ordN w j : Nat)) (by omega))
  have z2 : 2 ≤ sizeLine := Nat.le_of_lt (ltS' (by omega))
  refine ⟨some (PV.int j), some (PV.str (wayS w)), g1, og1, ?_⟩
  simp -implicitDefEqProofs only [X, sN, cLaw_b1, execs, exec, ev, evs, evB, evT, evI, evC, evO, evL, startE]
  simp -implicitDefEqProofs [e1, hj, e2, z2, allD, setPar, bi_all, bi_any, bi_sum, bi_tup, bi_tupt, bi_lst, bi_lstt, bi_len, bi_lent, bi_sort, bi_sortt, bi_int, bi_abs, bi_intb, src_t, src_l, slc_t, slc_l, zip_t, zip_l, zip_lt, bindT_nm, int_P, add_i, sub_i, mul_i, fdiv_i, mod_i, add_t, lt_i, le_i, gt_i, ge_i, eq_i, ne_i, lcS_vals, forS_vals, allD_map, bools_map, all_map, e3, e4, q, ne_s]
theorem w10 (n : Nat) (h : Hd) (R : Sto) (ok : h.ok) (a c p s t : Option PV) (m k : Nat) (xs : List Int) (hd : deckD (.tuple (dIs xs)) = true) (h0 : 1 ≤ xs.length) : ∃ (h' : Hd), h'.ok ∧ X (n + 10) 10 (eW a c p s t m k xs) (h.st R) = .nx (eW a c p s t m k xs) (h'.st R) := by
  obtain ⟨g, og, e⟩ := refused_right n h R xs ok hd h0
  refine ⟨g, og, ?_⟩
  simp -implicitDefEqProofs only [X, sN, cLaw_b1, execs, exec, ev, evs, evB, evT, evI, evC, evO, evL, startE]
  simp -implicitDefEqProofs [e]
def Blw : PV → Env' → Sto → Out := fun x e1 S2 => execs (run pD 1000000 11) 1000000 cLaw_b1 (e1.set 2 (some x)) S2
theorem lw_loop (a : Option PV) : ∀ (ys : List PV) (h : Hd) (c d p q r s t : Option PV), h.ok → ∃ (h' : Hd) (c' d' p' q' r' s' t' : Option PV), h'.ok ∧ forV Blw ys [a, some (.r 1), c, d, p, q, r, s, t] (h.st []) = .nx [a, some (.r 1), c', d', p', q', r', s', t'] (h'.st [])
  | [], h, c, d, p, q, r, s, t, ok => ⟨h, c, d, p, q, r, s, t, ok, rfl⟩
  | y :: ys, h, c, d, p, q, r, s, t, ok => by
    obtain ⟨m, k, xs, g, og, m1, m2, lx, hd, hk, e01⟩ := w01 9 h [] ok a (some y) d p q r s t
    have e2 := w2 5 (g.st []) m k xs a (some y) s t p hd hk
    have e3 := w3 5 (g.st []) m k xs a (some y) s t p hd
    have e4 := w4 5 (g.st []) m k xs a (some y) s t p hd
    have e56 := w56 5 (g.st []) m k xs a (some y) s t hd
    have e7 := w7 5 (g.st []) m k xs a (some y) s t (some (PV.tup (dIs (dealP 1 xs)))) m1 m2
    obtain ⟨s', t', g1, og1, e89⟩ := w89 5 g [] og a (some y) (some (PV.tup (dIs (dealP 1 xs)))) s t m k xs
    obtain ⟨g2, og2, e10⟩ := w10 1 g1 [] og1 a (some y) (some (PV.tup (dIs (dealP 1 xs)))) s' t' m k xs hd (by omega)
    obtain ⟨h', c', d', p', q', r', s'', t'', ok', e⟩ := lw_loop a ys g2 (some y) (some (PV.int m)) (some (PV.tup (dIs (dealP 1 xs)))) (some (PV.tup (dIs xs))) (some (PV.int ((k : Int) + 1))) s' t' og2
    refine ⟨h', c', d', p', q', r', s'', t'', ok', ?_⟩
    rw [forV_cons]
    have eb : Blw y [a, some (.r 1), c, d, p, q, r, s, t] (h.st []) = .nx (eW a (some y) (some (PV.tup (dIs (dealP 1 xs)))) s' t' m k xs) (g2.st []) := by
      unfold Blw
      rw [b_split]
      exact bnx2 e01 (bnx e2 (bnx e3 (bnx e4 (bnx2 e56 (bnx e7 (bnx2 e89 (bnx e10 rfl)))))))
    rw [eb, Out.bind_nx]
    exact e
theorem l_split (F : Nat → List PV → Sto → Res PV) (L : Nat) (e : Env') (S : Sto) : execs F L cLaw.body e S = (exec F L (sN 0 cLaw.body) e S).bind fun e S => (exec F L (sN 1 cLaw.body) e S).bind fun e S => (exec F L (sN 2 cLaw.body) e S).bind fun e S => .nx e S := rfl
theorem k73_pure (ns : List Int) (h : ns.length ≤ 63) : ∃ S', run pD 1000000 12 30 [.s ns] [] = .ok (PV.bool true) S' := by
  obtain ⟨d, ok, e0⟩ := tape 10 ns h
  obtain ⟨d', c', d1, p', q', r', s', t', ok', e2⟩ := lw_loop (some (.s ns)) ((dIs (iota 5)).map PV.d) d none none none none none none none ok
  refine ⟨[], ?_⟩
  rw [run_def (d := cLaw) rfl rfl]
  have x0 : exec (run pD 1000000 11) 1000000 (sN 0 cLaw.body) [some (.s ns), none, none, none, none, none, none, none, none] [] = .nx [some (.s ns), some (.r 1), none, none, none, none, none, none, none] (d.st []) := by
    simp -implicitDefEqProofs only [sN, cLaw, execs, exec, ev, evs, evB, evT, evI, evC, evO, evL, startE]
    simp -implicitDefEqProofs [e0, bindT]
  have x1 : exec (run pD 1000000 11) 1000000 (sN 1 cLaw.body) [some (.s ns), some (.r 1), none, none, none, none, none, none, none] (d.st []) = .nx [some (.s ns), some (.r 1), c', d1, p', q', r', s', t'] (d'.st []) := by
    have eg := rg1_iota 5 (by omega)
    rw [show ((5 : Nat) : Int) = 5 from rfl] at eg
    unfold Blw at e2
    simp -implicitDefEqProofs only [sN, cLaw, execs, exec, ev, evs, evB, evT, evI, evC, evO, evL, startE]
    simp -implicitDefEqProofs [bi_all, bi_any, bi_sum, bi_tup, bi_tupt, bi_lst, bi_lstt, bi_len, bi_lent, bi_sort, bi_sortt, bi_int, bi_abs, bi_intb, src_t, src_l, slc_t, slc_l, zip_t, zip_l, zip_lt, bindT_nm, int_P, add_i, sub_i, mul_i, fdiv_i, mod_i, add_t, lt_i, le_i, gt_i, ge_i, eq_i, ne_i, lcS_vals, forS_vals, allD_map, bools_map, all_map, eg, e2]
  have x2 : exec (run pD 1000000 11) 1000000 (sN 2 cLaw.body) [some (.s ns), some (.r 1), c', d1, p', q', r', s', t'] (d'.st []) = .rt (PV.bool true) (d'.st []) := by
    have e1 := monge 5 [0, 1, 2, 3] (d'.st []) (by decide) (by decide)
    have e3 := down_under 5 [0, 1, 2, 3] (d'.st []) (by decide) (by decide)
    rw [show mongeP ([0, 1, 2, 3] : List Int) = [3, 1, 0, 2] by decide] at e1
    rw [show dealP 1 ([0, 1, 2, 3] : List Int) = [0, 2, 1, 3] by decide] at e3
    have c1 := eq_tI (d'.st []) [3, 1, 0, 2] [3, 1, 0, 2]
    have c2 := eq_tI (d'.st []) [0, 2, 1, 3] [0, 2, 1, 3]
    simp -implicitDefEqProofs only [dIs, List.map_cons, List.map_nil] at e1 e3 c1 c2
    have z4 : 4 ≤ sizeLine := Nat.le_of_lt (ltS' (by omega))
    simp -implicitDefEqProofs only [sN, cLaw, execs, exec, ev, evs, evB, evT, evI, evC, evO, evL, startE]
    simp -implicitDefEqProofs [allD, z4, e1, e3, c1, c2]
  rw [l_split]
  show finO false [] ((exec (run pD 1000000 11) 1000000 (sN 0 cLaw.body) [some (.s ns), none, none, none, none, none, none, none, none] []).bind _) = _
  rw [x0, Out.bind_nx, x1, Out.bind_nx, x2]
  rfl
end Mn73

end
theorem PySem.Challenge.cw_cardtable_k73_whole_every_nth_and_monge_holds : PySem.Challenge.rw_cardtable_k73_whole_every_nth_and_monge.Holds := by
  exact Mn73.holds_of Mn73.k73_pure
