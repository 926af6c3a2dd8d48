import PyProof.Rows.All
import HandS.Head0
import HandS.Head1
import HandS.Head2
import OpenK.AllK
import HandS.ForMost
import PyProof.ReprReads
import KE.KeyNested
import PySem.Builtin.Range.Common
import HandS.Text
import KE.LtData
import KE.SortData
import HandS.Iter
import HandS.DictComp
import HandS.TupLen
import KE.KDictKeyed
import KE.KDictWalk
import KE.KDictDisplayH
import KE.KPairComp
import PyProof.Rows.TupDisplay
import HandS.ForExc
import HandS.Flow
import HandS.Lambda
import HandS.TupAny
import HandS.TupMul
import HandS.IsInst
import HandS.Deep
import HandS.Style
import KE.DataCmp
import KE.KDictSum
import HandS.NamedTupSort
import HandS.SortInts
import KE.DataMinMax
import HandS.Star
import KE.GoesEnum
import HandS.Ends
import HandS.Defaults
import HandS.HeadHook2
import PyProof.ReprRoads
import PyProof.CallFns
import HandS.Dict
import HandS.Zip
import HandS.TryOnly
import HandS.HeadHook1
import PyProof.ExcBaseAll.ValueError
import HandS.ExcInit
import KE.KExcSuper
import HandS.ExcIs
import HandS.ExcField
import HandS.SetFor
import HandS.RaiseMore
import HandS.HotCalls
import HandS.WordsExc
import KE.KExcIs
import HandS.HeadHook4
import HandS.NestedK
import HandS.HeadEnd
import PySem.Challenge.RW_handson_k48_wishes_and_messages_by_hand
set_option Elab.async false
set_option linter.all false
set_option maxRecDepth 100000
set_option maxHeartbeats 0
/-! A small language with trees as values: what the defs of a text compute, told as a Lean function. -/
namespace Mi
open PySem
/-- a proof that simp does not take for a step of computing -/
theorem nrfl {α : Sort u} {a b : α} (h : a = b) : a = b := h

/-- values: trees; ref: a list that defs hand on and change (by its place in the store); gl: a def or class of the module, by number -/
inductive W where
  | non | bl (b : Bool) | int (i : Int) | str (s : Str) | tup (l : List W) | lst (l : List W) | dct (ks vs : List W) | ref (n : Nat) | gl (n : Nat) | scr (l : List Int) | map (ks vs : List W)
  deriving Inhabited

/-- a local name's slot: nothing, a value, a list or dict of the def's own -/
inductive Sl where
  | emp | val (w : W) | own (w : W)
  deriving Inhabited
abbrev Env := List Sl
abbrev Sto := List (List W)

structure Exn where
  cls : Nat
  fld : Option (Str × W)

inductive Out (α : Type) where
  | ok (a : α) (s : Sto) | ex (e : Exn) (s : Sto) | no
  deriving Inhabited
def Out.bind {α β : Type} (m : Out α) (f : α → Sto → Out β) : Out β := match m with
  | .ok a s => f a s
  | .ex e s => .ex e s
  | .no => .no
def Out.of {α : Type} (o : Option α) (s : Sto) : Out α := match o with
  | some a => .ok a s
  | none => .no
@[simp] theorem Out.bind_ok {α β : Type} (a : α) (s : Sto) (f : α → Sto → Out β) : (Out.ok a s).bind f = f a s := nrfl rfl
@[simp] theorem Out.bind_ex {α β : Type} (e : Exn) (s : Sto) (f : α → Sto → Out β) : (Out.ex e s : Out α).bind f = .ex e s := nrfl rfl
@[simp] theorem Out.bind_no {α β : Type} (f : α → Sto → Out β) : (Out.no : Out α).bind f = .no := nrfl rfl
@[simp] theorem Out.of_some {α : Type} (a : α) (s : Sto) : Out.of (some a) s = .ok a s := nrfl rfl
@[simp] theorem Out.of_none {α : Type} (s : Sto) : (Out.of none s : Out α) = .no := nrfl rfl

/-! ### operations on values -/
inductive Ty where
  | int | bool | str | tuple | list | dict
  deriving DecidableEq, Inhabited
def isTy : Ty → W → Option Bool
  | .int, .int _ => some true
  | .int, .bl _ => some true
  | .bool, .bl _ => some true
  | .str, .str _ => some true
  | .tuple, .tup _ => some true
  | .list, .lst _ => some true
  | .dict, .dct _ _ => some true
  | _, .ref _ => none
  | _, .gl _ => none
  | _, .scr _ => none
  | _, .map _ _ => none
  | _, _ => some false

/-- the longest list, the widest int that is let -/
def lim : Nat := 16000000
def wir (i : Int) : Bool := decide (-(4611686018427387904) ≤ i ∧ i < 4611686018427387904)
def wid (i : Int) : Bool := decide (-(18446744073709551616) < i ∧ i < 18446744073709551616)

inductive Bop where
  | add | sub | mul | fdiv | mod | pow
  deriving DecidableEq, Inhabited
def bop : Bop → W → W → Option W
  | .add, .int i, .int j => some (.int (i + j))
  | .sub, .int i, .int j => some (.int (i - j))
  | .mul, .int i, .int j => if wid i || wid j then some (.int (i * j)) else none
  | .fdiv, .int i, .int j => if 0 < j ∧ j < 1073741824 then some (.int (i / j)) else none
  | .mod, .int i, .int j => if 0 < j then some (.int (i % j)) else none
  | .pow, .int i, .int j => if 0 ≤ j ∧ j ≤ 1000000 ∧ i.natAbs < 18446744073709551616 then some (.int (i ^ j.toNat)) else none
  | .mul, .tup l, .int n => if 1 ≤ n ∧ n ≤ 1000 ∧ l.length ≤ 1000 ∧ l.isEmpty = false then some (.tup (List.replicate n.toNat l).flatten) else none
  | .add, .tup l, .tup r => if l.length + r.length ≤ lim then some (.tup (l ++ r)) else none
  | .add, .str x, .str y => if x.length + y.length ≤ lim then some (.str (x ++ y)) else none
  | .add, .lst l, .lst r => if l.length + r.length ≤ lim then some (.lst (l ++ r)) else none
  | _, _, _ => none

inductive Cop where
  | lt | le | gt | ge | eq | ne | is_ | isnt | in_ | nin
  deriving DecidableEq, Inhabited
def cmpI : Cop → Int → Int → Bool
  | .lt, i, j => decide (i < j)
  | .le, i, j => decide (i ≤ j)
  | .gt, i, j => decide (j < i)
  | .ge, i, j => decide (j ≤ i)
  | .eq, i, j => decide (i = j)
  | .ne, i, j => !decide (i = j)
  | _, _, _ => false
/-- an order -/
def copI (o : Cop) : Bool := match o with
  | .lt => true
  | .le => true
  | .gt => true
  | .ge => true
  | _ => false

mutual
/-- data -/
def toD : W → PyData
  | .bl b => .bool b
  | .int i => .int i
  | .str x => .str x
  | .tup l => .tuple (toDs l)
  | .lst l => .list (toDs l)
  | .dct ks vs => .dict ((toDs ks).zip (toDs vs))
  | _ => .none
def toDs : List W → List PyData
  | [] => []
  | w :: l => toD w :: toDs l
end
mutual
/-- it is data, so deep at most -/
def isD : W → Nat → Bool
  | .map _ _, _ => false
  | .tup l, n => decide (0 < n) && isDs l (n - 1)
  | .lst l, n => decide (0 < n) && isDs l (n - 1)
  | .dct _ _, _ => false
  | .ref _, _ => false
  | .gl _, _ => false
  | .scr _, _ => false
  | .str x, _ => PyData.strOk x
  | _, _ => true
def isDs : List W → Nat → Bool
  | [], _ => true
  | w :: l, n => isD w n && isDs l n
end
mutual
/-- data without lists, dicts with whole numbers and texts as keys in it, so deep at most -/
def isT : W → Nat → Bool
  | .map _ _, _ => false
  | .tup l, n => decide (0 < n) && isTs l (n - 1)
  | .dct ks vs, n => decide (0 < n) && isKs ks && isTs vs (n - 1) && decide (ks.length = vs.length)
  | .lst _, _ => false
  | .ref _, _ => false
  | .gl _, _ => false
  | .scr _, _ => false
  | .str x, _ => PyData.strOk x
  | _, _ => true
def isTs : List W → Nat → Bool
  | [], _ => true
  | w :: l, n => isT w n && isTs l n
def isKs : List W → Bool
  | [] => true
  | .int _ :: l => isKs l
  | .str _ :: l => isKs l
  | _ :: _ => false
end
/-! dicts that are built up: keys whole numbers, or nested tuples -/
mutual
def keyN : W → Option NestedKey
  | .int i => some (.num i)
  | .non => some .none
  | .tup l => (keyNs l).map .tup
  | _ => none
def keyNs : List W → Option (List NestedKey)
  | [] => some []
  | w :: l => (keyN w).bind fun k => (keyNs l).map (k :: ·)
end
/-- a dict's key -/
def keyD (w : W) : Option NestedKey := match w with
  | .int i => some (.num i)
  | .tup l => (keyN (.tup l)).bind fun k => if k.depth ≤ 8 then some k else none
  | _ => none
def isIntW : W → Bool
  | .int _ => true
  | _ => false
def isTupW : W → Bool
  | .tup _ => true
  | _ => false
/-- keys of one kind -/
def kindD (ks : List W) (x : W) : Bool := match x with
  | .int _ => ks.all isIntW
  | .tup _ => ks.all isTupW
  | _ => false
def lookK : List W → List W → NestedKey → Option W
  | x :: ks, v :: vs, k => if keyN x = some k then some v else lookK ks vs k
  | _, _, _ => none
def replK : List W → List W → NestedKey → W → List W
  | x :: ks, v :: vs, k, y => (if keyN x = some k then y else v) :: replK ks vs k y
  | _, _, _, _ => []
def lookD (ks vs : List W) (x : W) : Option (Option W) := (keyD x).bind fun k => if kindD ks x then some (lookK ks vs k) else none
mutual
/-- hash(k), no texts in it -/
def hashK : NestedKey → Int
  | .none => reduceHash 0xFCA86420
  | .num i => hashInt i
  | .text _ => 0
  | .tup ks => reduceHash (Builtin.Tuple.tupleHashOf (hashKs ks))
def hashKs : List NestedKey → List Int
  | [] => []
  | k :: ks => hashK k :: hashKs ks
end
/-- a key that no None is taken for -/
def farN (w : W) : Bool := isTupW w && (match keyN w with | some k => hashK k != hashK .none | none => false)
/-- d.get(x) -/
def getD (ks vs : List W) (x : W) : Option (Option W) := match x with
  | .non => if ks.all farN then some none else none
  | x => lookD ks vs x
def putD (ks vs : List W) (x y : W) : Option (List W × List W) := (keyD x).bind fun k => if kindD ks x then some (if (lookK ks vs k).isSome then (ks, replK ks vs k y) else (ks ++ [x], vs ++ [y])) else none
def isV : W → W → Option Bool
  | .bl a, .bl b => some (decide (a = b))
  | _, _ => none
def inV (x : W) : W → Option Bool
  | .lst l => if isD x 40 && isD (.lst l) 40 then some ((toDs l).any fun z => PyData.eqv z (toD x)) else none
  | .tup l => if isD x 40 && isD (.tup l) 40 then some ((toDs l).any fun z => PyData.eqv z (toD x)) else none
  | .map ks vs => (lookD ks vs x).map (·.isSome)
  | .str z => match x with
    | .str y => match y.cps.toList with
      | [c] => some (decide (c ∈ z.cps.toList))
      | _ => none
    | _ => none
  | _ => none
def cmpV : Cop → W → W → Option Bool
  | .is_, x, y => isV x y
  | .isnt, x, y => (isV x y).map (!·)
  | .in_, x, y => inV x y
  | .nin, x, y => (inV x y).map (!·)
  | .eq, .str x, .str y => some (decide (x = y))
  | .ne, .str x, .str y => some (!decide (x = y))
  | o, .int i, .int j => some (cmpI o i j)
  | .lt, .tup l, .tup r => if isD (.tup l) 40 && isD (.tup r) 40 && PySem.W.alike (toD (.tup l)) (toD (.tup r)) then some (PySem.W.dataLt (toD (.tup l)) (toD (.tup r))) else none
  | .eq, x, y => if isD x 40 && isD y 40 then some (PyData.eqv (toD x) (toD y)) else none
  | .ne, x, y => if isD x 40 && isD y 40 then some (!PyData.eqv (toD x) (toD y)) else none
  | _, _, _ => none
inductive Sth where
  | join | starts
  deriving DecidableEq, Inhabited
inductive Bi where
  | len | tuple | list | all | sum | max | min | repr | abs | sorted | any | int | str
  deriving DecidableEq, Inhabited

/-! ### syntax -/
inductive Tg where
  | nm (i : Nat) | tup (l : List Tg)
  deriving Inhabited
inductive Ex where
  | var (i : Nat) | cst (w : W) | bin (o : Bop) (a b : Ex) | neg (a : Ex)
  | cmp (o : Cop) (a b : Ex) | chain (o p : Cop) (a b c : Ex) | isN (a : Ex) | notN (a : Ex)
  | and (a b : Ex) | or (a b : Ex) | not (a : Ex) | ite (c a b : Ex)
  | tup (es : List Ex) | lst (es : List Ex) | star (e : Ex)
  | call (f : Nat) (es : List Ex) | bi (b : Bi) (es : List Ex) | isin (e : Ex) (t : Ty)
  | idx (a b : Ex) | slc (a : Ex) (bl : Bool) (lo : Ex) (bh : Bool) (hi : Ex) | rev (a : Ex)
  | addL (a b : Ex) | mulL (a b : Ex)
  | comp (vs : List Nat) (elt : Ex) (tg : Tg) (it : Ex) (cs : List Ex)
  | range (a b : Ex) | enum (a : Ex) | zip (a b : Ex)
  | tru (a : Ex) | dsp (es : List Ex)
  | mp0 | mp1 (k v : Ex) | get (a k : Ex) | items (a : Ex) | range3 (a b c : Ex)
  | told (md : Bool) (tab : List ((Nat × Option Int) × Str)) (e : Ex)
  | meth (m : Sth) (o e : Ex) | split (o e : Ex)
  | callK (f : Nat) (pm : List Nat) (es : List Ex)
  | ixOf (o e : Ex)
  | cntOf (o e : Ex)
  | dcomp (vs : List Nat) (k v : Ex) (tg : Tg) (it : Ex) (cs : List Ex)
  deriving Inhabited
inductive Sm where
  | asg (t : Tg) (e : Ex) | asgN (i : Nat) (e : Ex) | par (fs : List Bool) (is : List Nat) (es : List Ex)
  | ret (e : Ex) | retN | retK (es : List Ex)
  | ifs (c : Ex) (a b : List Sm) | for_ (t : Tg) (it : Ex) (b : List Sm) | whl (c : Ex) (b : List Sm)
  | app (i : Nat) (e : Ex) | ext (i : Nat) (e : Ex) | sts (i : Nat) (k e : Ex) | exp (e : Ex) | frz (is : List Nat)
  | pass | cont | dead | thru (b : List Sm)
  | raise (c : Nat) | raiseF (c : Nat) (f : Str) (e : Ex) | tryR (b : List Sm) (c : Nat) (w : W)
  deriving Inhabited
inductive Fl where
  | nx (e : Env) | rt (w : W) | ct (e : Env)
  deriving Inhabited

/-! ### meaning -/
/-- the classes that keep a field -/
def fldNm (c : Nat) : Option Str := if c = 21 then some "at" else if c = 22 then some "limit" else none
/-- what an except suite tells of an exception -/
def toldX (tab : List ((Nat × Option Int) × Str)) (x : Exn) : Option Str := match x.fld with
  | none => tab.lookup (x.cls, none)
  | some (f, .int n) => if fldNm x.cls = some f then tab.lookup (x.cls, some n) else none
  | _ => none
/-- an exception of class a is one of class b; 0 is the base -/
def subX (a b : Nat) : Bool := a == b || b == 0
abbrev CallI := Nat → List W → Sto → Out W
def elems (s : Sto) : W → Option (List W)
  | .tup l => some l
  | .lst l => some l
  | .ref n => s[n]?
  | .scr l => some (l.map .int)
  | _ => none
def listOf (s : Sto) : W → Option (List W)
  | .lst l => some l
  | .ref n => s[n]?
  | _ => none
def seqOf : W → Option (List W)
  | .map ks _ => some ks
  | .tup l => some l
  | .lst l => some l
  | .scr l => some (l.map .int)
  | .str x => some (x.cps.toList.map fun c => .str ⟨#[c]⟩)
  | _ => none
mutual
/-- no list, dict, ref in it -/
def flat : W → Bool
  | .tup l => flats l
  | .lst _ => false
  | .dct _ _ => false
  | .ref _ => false
  | .scr _ => false
  | .map _ _ => false
  | _ => true
def flats : List W → Bool
  | [] => true
  | w :: l => flat w && flats l
end
def atIx (l : List W) (i : Int) : Option W := (L2.ixN l.length i).bind fun j => l[j]?
/-- a slice's end, where it is written -/
def partV (b : Bool) : W → Option (Option Int)
  | .int i => some (if b then some i else none)
  | _ => if b then none else some none
def cut (l : List W) (lo hi : Option Int) : List W := (l.drop (HT.sIx l.length 0 lo)).take (HT.sIx l.length l.length hi - HT.sIx l.length 0 lo)
def intsL : List W → Option (List Int)
  | [] => some []
  | .int i :: r => (intsL r).map (i :: ·)
  | _ :: _ => none
def boolsL : List W → Option (List Bool)
  | [] => some []
  | .bl i :: r => (boolsL r).map (i :: ·)
  | _ :: _ => none
def strsL : List W → Option (List Str)
  | [] => some []
  | .str x :: r => (strsL r).map (x :: ·)
  | _ :: _ => none
def maxL : List Int → Option Int
  | [] => none
  | i :: r => some (r.foldl max i)
def minL : List Int → Option Int
  | [] => none
  | i :: r => some (r.foldl min i)
def insI (i : Int) : List Int → List Int
  | [] => [i]
  | j :: r => if i ≤ j then i :: j :: r else j :: insI i r
def sortI : List Int → List Int
  | [] => []
  | i :: r => insI i (sortI r)
/-- the key by which a tuple of a number and a tuple of numbers is sorted -/
def stKey : W → Option (List Int)
  | .tup [.int a, .tup l] => (intsL l).map (a :: ·)
  | _ => none
def keyI (w : W) : List Int := (stKey w).getD []
def ltS (x y : W) : Bool := HT.lexLt (keyI x) (keyI y)
def insG {α : Type} (lt : α → α → Bool) (x : α) : List α → List α
  | [] => [x]
  | y :: r => if lt y x then y :: insG lt x r else x :: y :: r
def sortG {α : Type} (lt : α → α → Bool) : List α → List α
  | [] => []
  | x :: r => insG lt x (sortG lt r)
/-- what answers with a new list -/
def newB : Bi → Bool
  | .list => true
  | .sorted => true
  | _ => false
def lenV (s : Sto) (w : W) : Option W := match w with
  | .map ks _ => some (.int ks.length)
  | .str x => if x.length ≤ lim then some (.int x.length) else none
  | w => (elems s w).map fun l => .int l.length
mutual
/-- whole numbers and tuples of such, so deep at most -/
def isN : W → Nat → Bool
  | .int _, _ => true
  | .tup l, n => decide (0 < n) && isNs l (n - 1)
  | _, _ => false
def isNs : List W → Nat → Bool
  | [], _ => true
  | w :: l, n => isN w n && isNs l n
end
/-- the first least of data that are alike -/
def minG : List W → Option W
  | [] => none
  | x :: xs => bif isNs (x :: xs) 30 && (x :: xs).all (fun a => (x :: xs).all fun b => PySem.W.alike (toD a) (toD b)) then some (xs.foldl (fun a y => bif PySem.W.dataLt (toD y) (toD a) then y else a) x) else none
def minW (l : List W) : Option W := match intsL l with
  | some is => (minL is).map .int
  | none => minG l
def isTup1 : W → Bool
  | .tup (_ :: _) => true
  | _ => false
/-- a list of tuples that are alike, sorted -/
def sortN (l : List W) : Option W := bif isNs l 30 && l.all isTup1 && l.all (fun a => l.all fun b => PySem.W.alike (toD a) (toD b)) then some (.lst (l.mergeSort (PySem.W.dataLe false toD))) else none
/-- sorted(w): numbers (fewer than 64), or such tuples; of a dict its keys -/
def sortV (s : Sto) (w : W) : Option W := match w with
  | .map ks _ => if ks.all (fun x => (stKey x).isSome) then some (.lst (sortG ltS ks)) else none
  | w => (elems s w).bind fun l => match intsL l with
    | some is => if is.length < 64 then some (.lst ((sortI is).map .int)) else none
    | none => if l.all (fun x => (stKey x).isSome) then some (.lst (sortG ltS l)) else sortN l
def biV (s : Sto) : Bi → List W → Option W
  | .len, [w] => lenV s w
  | .tuple, [w] => (elems s w).map .tup
  | .list, [w] => (elems s w).map .lst
  | .all, [w] => (listOf s w).bind fun l => (boolsL l).map fun bs => .bl (bs.all id)
  | .any, [w] => (listOf s w).bind fun l => (boolsL l).map fun bs => .bl (bs.any id)
  | .int, [.int i] => some (.int i)
  | .int, [.bl b] => some (.int (if b then 1 else 0))
  | .int, [.str x] => if x.length ≤ 640 then (intText? x).map .int else none
  | .str, [.int i] => if i.natAbs.log2 < 1920 then some (.str (toString i)) else none
  | .repr, [w] => if (isD w 40 || isT w 40) && (toD w).showable && decide ((toD w).shown.length ≤ lim) then some (.str (toD w).shown) else none
  | .sorted, [w] => sortV s w
  | .sum, [w] => (elems s w).bind fun l => (intsL l).map fun is => .int is.sum
  | .max, [.int i, .int j] => some (.int (max i j))
  | .min, [.int i, .int j] => some (.int (min i j))
  | .max, [w] => (listOf s w).bind fun l => (intsL l).bind fun is => (maxL is).map .int
  | .min, [.tup l] => minG l
  | .min, [w] => (listOf s w).bind minW
  | .abs, [.int i] => some (.int (if i < 0 then -i else i))
  | _, _ => none
def idxV (s : Sto) (o i : W) : Option W := match o with
  | .map ks vs => (lookD ks vs i).bind id
  | o => match i with
    | .int i => (elems s o).bind fun l => atIx l i
    | _ => none
/-- methods of texts -/
def methV (s : Sto) : Sth → Str → W → Option W
  | .join, a, y => (elems s y).bind fun l => (strsL l).bind fun ys => if (ys.map (·.length)).sum + ys.length * a.length ≤ 16777216 then some (.str (Txt.join a ys)) else none
  | .starts, a, .str b => some (.bl (Txt.startswith a b))
  | _, _, _ => none
def splitV : Str → W → Option W
  | a, .str b => if (b.length == 0) = false ∧ a.length + 2 ≤ lim then some (.lst ((Txt.split a b).map .str)) else none
  | _, _ => none
/-- some of a list, by their places: keywords in the parameters' order -/
def putO {α : Type} : Option α → List α → List α
  | some x, r => x :: r
  | none, r => r
def permL {α : Type} : List Nat → List α → List α
  | [], _ => []
  | i :: r, l => putO l[i]? (permL r l)
/-- the first place of an equal one -/
def indexV (l : List W) (y : W) : Option W := if isD y 40 && isD (.lst l) 40 then ((toDs l).findIdx? fun z => PyData.eqv z (toD y)).map fun (j : Nat) => .int (j : Int) else none
/-- a comprehension's pair goes into its dict -/
def putP (m : List W × List W) : W → Option (List W × List W)
  | .tup [x, y] => if isTupW x && decide (m.1.length < lim) then putD m.1 m.2 x y else none
  | _ => none
def foldD : List W × List W → List W → Option (List W × List W)
  | m, [] => some m
  | m, p :: r => (putP m p).bind fun m => foldD m r
/-- how many are equal to it -/
def countV (l : List W) (y : W) : Option W := if isD y 40 && isD (.lst l) 40 then some (.int ((toDs l).countP fun z => PyData.eqv z (toD y) : Nat)) else none
/-- a range with a step -/
def rangeC (i j c : Int) : List W := (List.range (Builtin.Range.rangeSize i j c).toNat).map fun (k : Nat) => W.int (i + (k : Int) * c)
def pairsD (ks vs : List W) : List W := List.zipWith (fun k v => .tup [k, v]) ks vs
def slcV (o : W) (lo hi : Option Int) : Option W := match o with
  | .tup l => some (.tup (cut l lo hi))
  | .lst l => some (.lst (cut l lo hi))
  | .str x => if x.length ≤ lim then some (.str (L2.cutS x lo hi)) else none
  | _ => none
def revV : W → Option W
  | .tup l => some (.tup l.reverse)
  | .lst l => some (.lst l.reverse)
  | _ => none
mutual
def bindTg : Tg → W → Env → Option Env
  | .nm i, w, env => some (env.set i (.val w))
  | .tup ts, .tup ws, env => bindTgs ts ws env
  | .tup _, _, _ => none
def bindTgs : List Tg → List W → Env → Option Env
  | [], [], env => some env
  | t :: ts, w :: ws, env => (bindTg t w env).bind (bindTgs ts ws)
  | _, _, _ => none
end
/-- truth, in a test -/
def toT : W → Option Bool
  | .bl b => some b
  | .non => some false
  | .int i => some (i != 0)
  | .lst l => some (!l.isEmpty)
  | .tup l => some (!l.isEmpty)
  | _ => none
def keyW : W → Option L2.Key
  | .int i => some (.inl i)
  | .str x => some (.inr x)
  | _ => none
/-- a display's keys and values, one after the other -/
def pairsW : List W → Option (List (L2.Key × W))
  | [] => some []
  | k :: v :: r => (keyW k).bind fun k => (pairsW r).map ((k, v) :: ·)
  | _ => none
def keyOf : L2.Key → W
  | .inl i => .int i
  | .inr x => .str x
/-- a display's dict: its keys differ -/
def dspV (l : List W) : Option W := (pairsW l).bind fun ps => if ps.length ≤ 15 ∧ (ps.map (·.1)).Nodup then some (.dct (ps.map fun p => keyOf p.1) (ps.map (·.2))) else none
def toB : W → Option Bool
  | .bl b => some b
  | _ => none
/-- an operand that is only read: a list of the def's own may stand there -/
def rdv (env : Env) (e : Ex) (s : Sto) (m : Out W) : Out W := match e with
  | .var i => match env[i]? with
    | some (.own w) => .ok w s
    | _ => m
  | _ => m
/-- what lets no exception out -/
def noEx {α : Type} : Out α → Out α
  | .ex _ _ => .no
  | o => o
def wipeE (env : Env) : List Nat → Env
  | [] => env
  | i :: is => (wipeE env is).set i .emp
def compL (body : W → Sto → Out (Option W)) : List W → Sto → Out (List W)
  | [], s => .ok [] s
  | x :: r, s => (body x s).bind fun o s => (compL body r s).bind fun l s => match o with
    | some w => .ok (w :: l) s
    | none => .ok l s
mutual
def evalE (C : CallI) : Ex → Env → Sto → Out W
  | .var i, env, s => match env[i]? with
    | some (.val w) => .ok w s
    | _ => .no
  | .cst w, _, s => .ok w s
  | .bin o a b, env, s => (evalE C a env s).bind fun x s => (evalE C b env s).bind fun y s => .of (bop o x y) s
  | .neg a, env, s => (evalE C a env s).bind fun x s => match x with
    | .int i => .ok (.int (-i)) s
    | _ => .no
  | .cmp o a b, env, s => (rdv env a s (evalE C a env s)).bind fun x s => (rdv env b s (evalE C b env s)).bind fun y s => (Out.of (cmpV o x y) s).bind fun b s => .ok (.bl b) s
  | .chain o p a b c, env, s => (evalE C a env s).bind fun x s => (evalE C b env s).bind fun y s => match x, y with
    | .int i, .int j => if cmpI o i j then (evalE C c env s).bind fun z s => (match z with
        | .int k => .ok (.bl (cmpI p j k)) s
        | _ => .no) else .ok (.bl false) s
    | _, _ => .no
  | .isN a, env, s => (evalE C a env s).bind fun x s => .ok (.bl (match x with | .non => true | _ => false)) s
  | .notN a, env, s => (evalE C a env s).bind fun x s => .ok (.bl (match x with | .non => false | _ => true)) s
  | .and a b, env, s => (evalE C a env s).bind fun x s => (Out.of (toB x) s).bind fun t s => if t then (evalE C b env s).bind fun y s => (Out.of (toB y) s).bind fun u s => .ok (.bl u) s else .ok (.bl false) s
  | .or a b, env, s => (evalE C a env s).bind fun x s => (Out.of (toB x) s).bind fun t s => if t then .ok (.bl true) s else (evalE C b env s).bind fun y s => (Out.of (toB y) s).bind fun u s => .ok (.bl u) s
  | .not a, env, s => (evalE C a env s).bind fun x s => (Out.of (toB x) s).bind fun t s => .ok (.bl (!t)) s
  | .ite c a b, env, s => (evalE C c env s).bind fun x s => (Out.of (toB x) s).bind fun t s => if t then evalE C a env s else evalE C b env s
  | .tup es, env, s => (evalL C es env s).bind fun l s => .ok (.tup l) s
  | .lst es, env, s => (evalL C es env s).bind fun l s => .ok (.lst l) s
  | .star _, _, _ => .no
  | .call f es, env, s => (evalL C es env s).bind fun l s => C f l s
  | .callK f pm es, env, s => (evalL C es env s).bind fun l s => if l.length = pm.length then C f (permL pm l) s else .no
  | .bi b es, env, s => (evalRs C es env s).bind fun l s => .of (biV s b l) s
  | .isin e t, env, s => (evalE C e env s).bind fun x s => (Out.of (isTy t x) s).bind fun b s => .ok (.bl b) s
  | .idx a b, env, s => (rdv env a s (evalE C a env s)).bind fun x s => (evalE C b env s).bind fun y s => .of (idxV s x y) s
  | .slc a bl lo bh hi, env, s => (rdv env a s (evalE C a env s)).bind fun x s => (if bl then evalE C lo env s else .ok .non s).bind fun y s => (Out.of (partV bl y) s).bind fun lo s =>
    (if bh then evalE C hi env s else .ok .non s).bind fun z s => (Out.of (partV bh z) s).bind fun hi s => .of (slcV x lo hi) s
  | .rev a, env, s => (rdv env a s (evalE C a env s)).bind fun x s => .of (revV x) s
  | .addL a b, env, s => (rdv env a s (evalE C a env s)).bind fun x s => (rdv env b s (evalE C b env s)).bind fun y s => match x, y with
    | .lst l, .lst r => if l.length + r.length ≤ lim then .ok (.lst (l ++ r)) s else .no
    | _, _ => .no
  | .mulL a b, env, s => (evalE C a env s).bind fun x s => (evalE C b env s).bind fun y s => match x, y with
    | .lst l, .int n => if 0 ≤ n ∧ n ≤ 1000 ∧ l.length ≤ 1000 then .ok (.lst (List.replicate n.toNat l).flatten) s else .no
    | _, _ => .no
  | .comp vs elt tg it cs, env, s => (rdv env it s (evalE C it env s)).bind fun x s => (Out.of (seqOf x) s).bind fun l s => if l.length ≤ lim then (noEx (compL (fun w s => (Out.of (bindTg tg w (wipeE env vs)) s).bind fun env s => (evalC C cs env s).bind fun t s => if t then (evalE C elt env s).bind fun v s => .ok (some v) s else .ok none s) l s)).bind fun l s => .ok (.lst l) s else .no
  | .dcomp vs k v tg it cs, env, s => (rdv env it s (evalE C it env s)).bind fun x s => (Out.of (seqOf x) s).bind fun l s => if l.length ≤ lim then (noEx (compL (fun w s => (Out.of (bindTg tg w (wipeE env vs)) s).bind fun env s => (evalC C cs env s).bind fun t s => if t then (evalE C k env s).bind fun x s => (evalE C v env s).bind fun y s => .ok (some (.tup [x, y])) s else .ok none s) l s)).bind fun l s => (Out.of (foldD ([], []) l) s).bind fun m s => .ok (.map m.1 m.2) s else .no
  | .range a b, env, s => (evalE C a env s).bind fun x s => (evalE C b env s).bind fun y s => match x, y with
    | .int i, .int j => if wir i ∧ wir j then .ok (.lst ((List.range (j - i).toNat).map fun (k : Nat) => W.int (i + (k : Int)))) s else .no
    | _, _ => .no
  | .enum a, env, s => (evalE C a env s).bind fun x s => match x with
    | .lst l => .ok (.lst (l.zipIdx.map fun p => .tup [.int p.2, p.1])) s
    | .tup l => .ok (.lst (l.zipIdx.map fun p => .tup [.int p.2, p.1])) s
    | _ => .no
  | .zip a b, env, s => (evalE C a env s).bind fun x s => (evalE C b env s).bind fun y s => match x, y with
    | .lst l, .lst r => .ok (.lst (List.zipWith (fun x y => .tup [x, y]) l r)) s
    | .tup l, .tup r => .ok (.lst (List.zipWith (fun x y => .tup [x, y]) l r)) s
    | _, _ => .no
  | .tru a, env, s => (rdv env a s (evalE C a env s)).bind fun x s => (Out.of (toT x) s).bind fun b s => .ok (.bl b) s
  | .dsp es, env, s => (evalL C es env s).bind fun l s => .of (dspV l) s
  | .mp0, _, s => .ok (.map [] []) s
  | .mp1 k v, env, s => (evalE C k env s).bind fun x s => (evalE C v env s).bind fun y s => (Out.of (keyD x) s).bind fun _ s => if isTupW x then .ok (.map [x] [y]) s else .no
  | .get a k, env, s => (rdv env a s (evalE C a env s)).bind fun x s => match x with
    | .map ks vs => (evalE C k env s).bind fun y s => (Out.of (getD ks vs y) s).bind fun o s => .ok (o.getD .non) s
    | _ => .no
  | .items a, env, s => (evalE C a env s).bind fun x s => match x with
    | .map ks vs => .ok (.lst (pairsD ks vs)) s
    | _ => .no
  | .range3 a b c, env, s => (evalE C a env s).bind fun x s => (evalE C b env s).bind fun y s => (evalE C c env s).bind fun z s => match x, y, z with
    | .int i, .int j, .int c => if c ≠ 0 ∧ c.natAbs < 1073741824 ∧ Builtin.Range.small i j c = true then .ok (.lst (rangeC i j c)) s else .no
    | _, _, _ => .no
  | .told md tab e, env, s => match evalE C e env s with
    | .ok w s => .of (if md then some (.str "told") else biV s .repr [w]) s
    | .ex x s => .of ((toldX tab x).map .str) s
    | .no => .no
  | .meth m o e, env, s => (evalE C o env s).bind fun x s => match x with
    | .str a => (rdv env e s (evalE C e env s)).bind fun y s => .of (methV s m a y) s
    | _ => .no
  | .ixOf o e, env, s => (rdv env o s (evalE C o env s)).bind fun x s => match x with
    | .lst l => (evalE C e env s).bind fun y s => .of (indexV l y) s
    | _ => .no
  | .cntOf o e, env, s => (rdv env o s (evalE C o env s)).bind fun x s => match x with
    | .lst l => (evalE C e env s).bind fun y s => .of (countV l y) s
    | _ => .no
  | .split o e, env, s => (evalE C o env s).bind fun x s => match x with
    | .str a => (evalE C e env s).bind fun y s => .of (splitV a y) s
    | _ => .no
def evalL (C : CallI) : List Ex → Env → Sto → Out (List W)
  | [], _, s => .ok [] s
  | .star e :: es, env, s => (evalE C e env s).bind fun x s => match x with
    | .tup l => (evalL C es env s).bind fun r s => if l.length + r.length ≤ lim then .ok (l ++ r) s else .no
    | _ => .no
  | e :: es, env, s => (evalE C e env s).bind fun x s => (evalL C es env s).bind fun r s => .ok (x :: r) s
def evalRs (C : CallI) : List Ex → Env → Sto → Out (List W)
  | [], _, s => .ok [] s
  | e :: es, env, s => (rdv env e s (evalE C e env s)).bind fun x s => (evalRs C es env s).bind fun r s => .ok (x :: r) s
/-- tests, one after another -/
def evalC (C : CallI) : List Ex → Env → Sto → Out Bool
  | [], _, s => .ok true s
  | e :: es, env, s => (evalE C e env s).bind fun x s => (Out.of (toB x) s).bind fun t s => if t then evalC C es env s else .ok false s
end
def forL (bnd : W → Env → Option Env) (body : Env → Sto → Out Fl) : List W → Env → Sto → Out Fl
  | [], env, s => .ok (.nx env) s
  | x :: r, env, s => (Out.of (bnd x env) s).bind fun env s => (body env s).bind fun f s => match f with
    | .nx env => forL bnd body r env s
    | .ct env => forL bnd body r env s
    | .rt w => .ok (.rt w) s
def whlN (c : Env → Sto → Out Bool) (body : Env → Sto → Out Fl) : Nat → Env → Sto → Out Fl
  | 0, _, _ => .no
  | n + 1, env, s => (c env s).bind fun t s => if t then (body env s).bind fun f s => (match f with
    | .nx env => whlN c body n env s
    | .ct env => whlN c body n env s
    | .rt w => .ok (.rt w) s) else .ok (.nx env) s
/-- turns of a while that are let -/
def turns : Nat := 10000000
def frz : List Nat → Env → Env
  | [], env => env
  | i :: is, env => frz is (match env[i]? with
    | some (.own w) => env.set i (.val w)
    | _ => env)
/-- names, left to right; own ones are lists of one's own -/
def sets : List Bool → List Nat → List W → Env → Option Env
  | [], [], [], env => some env
  | f :: fs, i :: is, w :: ws, env => sets fs is ws (env.set i (if f then .own w else .val w))
  | _, _, _, _ => none
def evalP (C : CallI) : List Ex → Env → Sto → Out (List W)
  | [], _, s => .ok [] s
  | e :: es, env, s => (evalE C e env s).bind fun x s => (evalP C es env s).bind fun r s => .ok (x :: r) s
mutual
def exec (C : CallI) : Sm → Env → Sto → Out Fl
  | .asg t e, env, s => (evalE C e env s).bind fun w s => (Out.of (bindTg t w env) s).bind fun env s => .ok (.nx env) s
  | .asgN i e, env, s => (evalE C e env s).bind fun w s => .ok (.nx (env.set i (.own w))) s
  | .par fs is es, env, s => (evalP C es env s).bind fun ws s => (Out.of (sets fs is ws env) s).bind fun env s => .ok (.nx env) s
  | .ret e, env, s => (evalE C e env s).bind fun w s => .ok (.rt w) s
  | .retN, _, s => .ok (.rt .non) s
  | .retK es, env, s => (evalL C es env s).bind fun l s => if flats l then .ok (.rt (.ref s.length)) (s ++ [l]) else .no
  | .ifs c a b, env, s => (evalE C c env s).bind fun x s => (Out.of (toB x) s).bind fun t s => if t then execs C a env s else execs C b env s
  | .for_ t it b, env, s => (evalE C it env s).bind fun x s => (Out.of (seqOf x) s).bind fun l s => forL (bindTg t) (execs C b) l env s
  | .whl c b, env, s => whlN (fun env s => (evalE C c env s).bind fun x s => .of (toB x) s) (execs C b) turns env s
  | .app i e, env, s => match env[i]? with
    | some (.own (.lst l)) => (evalE C e env s).bind fun w s => if l.length < lim then .ok (.nx (env.set i (.own (.lst (l ++ [w]))))) s else .no
    | some (.val (.ref n)) => (evalE C e env s).bind fun w s => (match s[n]? with
      | some l => if l.length < lim ∧ flat w then .ok (.nx env) (s.set n (l ++ [w])) else .no
      | none => .no)
    | _ => .no
  | .ext i e, env, s => match env[i]? with
    | some (.own (.lst l)) => (evalE C e env s).bind fun x s => (match x with
      | .lst r => if l.length + r.length ≤ lim then .ok (.nx (env.set i (.own (.lst (l ++ r))))) s else .no
      | _ => .no)
    | _ => .no
  | .sts i k e, env, s => (evalE C e env s).bind fun w s => match env[i]? with
    | some (.own (.map ks vs)) => (evalE C k env s).bind fun x s => (Out.of (putD ks vs x w) s).bind fun p s => if ks.length < lim then .ok (.nx (env.set i (.own (.map p.1 p.2)))) s else .no
    | some (.own (.lst l)) => (evalE C k env s).bind fun x s => (match x with
      | .int x => (Out.of (L2.ixN l.length x) s).bind fun j s => .ok (.nx (env.set i (.own (.lst (l.set j w))))) s
      | _ => .no)
    | some (.val (.ref n)) => (evalE C k env s).bind fun x s => (match x, s[n]? with
      | .int x, some l => if flat w then (Out.of (L2.ixN l.length x) s).bind fun j s => .ok (.nx env) (s.set n (l.set j w)) else .no
      | _, _ => .no)
    | _ => .no
  | .exp e, env, s => (evalE C e env s).bind fun _ s => .ok (.nx env) s
  | .frz is, env, s => .ok (.nx (frz is env)) s
  | .pass, env, s => .ok (.nx env) s
  | .cont, env, s => .ok (.ct env) s
  | .dead, _, _ => .no
  | .thru b, env, s => noEx (execs C b env s)
  | .raise c, _, s => .ex ⟨c, none⟩ s
  | .raiseF c f e, env, s => (evalE C e env s).bind fun w s => if flat w then .ex ⟨c, some (f, w)⟩ s else .no
  | .tryR b c w, env, s => match execs C b env s with
    | .ex x s => if subX x.cls c then .ok (.rt w) s else .ex x s
    | o => o
def execs (C : CallI) : List Sm → Env → Sto → Out Fl
  | [], env, s => .ok (.nx env) s
  | st :: r, env, s => (exec C st env s).bind fun f s => match f with
    | .nx env => execs C r env s
    | f => .ok f s
end
structure Dfn where
  np : Nat
  nv : Nat
  body : List Sm
  deriving Inhabited
def start (n : Nat) (ws : List W) : Env := ws.map .val ++ List.replicate (n - ws.length) .emp
def fin : Fl → Sto → Out W
  | .rt w, s => .ok w s
  | .nx _, s => .ok .non s
  | .ct _, _ => .no
def callN (ds : List Dfn) : Nat → CallI
  | 0 => fun _ _ _ => .no
  | k + 1 => fun f ws s => match ds[f]? with
    | none => .no
    | some d => if ws.length = d.np then (execs (callN ds k) d.body (start d.nv ws) s).bind fin else .no
end Mi

/-! Dicts told by their very object: keys whole numbers, or nested tuples. -/
namespace Mi
open PySem PySem.Spec PyProof.Rows L2

/-- at a stands this very object -/
def DO (a : Addr) (o : Obj) : HO := .ext fun h => h.get? a = some o
theorem do_ok {P : Program} {w : World} {H : Hp} {h : Heap} {a : Addr} {o : Obj} (e : h.get? a = some o) : ObjOk P w H h a (DO a o) := ⟨e, ⟨o, e⟩, fun _ _ e1 k => k o e1⟩
theorem do_at {P : Program} {w : World} {H : Hp} {h : Heap} {a : Addr} {o : Obj} (ok : HOk P w H h) (e : H a = some (DO a o)) : h.get? a = some o := (show ObjOk P w H h a (DO a o) from ok a _ e).1

/-! ### nested keys -/
mutual
/-- v is such a key, by values -/
def NV (K : PySem.W.Frag) (H : Hp) : NestedKey → V → Prop
  | .none, v => v = .non
  | .num i, v => v = .int i
  | .text x, v => v = .str x
  | .tup ks, v => ∃ a xs, v = .ref a ∧ SqT K H a xs ∧ NVs K H ks xs
def NVs (K : PySem.W.Frag) (H : Hp) : List NestedKey → List V → Prop
  | [], xs => xs = []
  | k :: ks, xs => ∃ x r, xs = x :: r ∧ NV K H k x ∧ NVs K H ks r
end
mutual
/-- no texts in it -/
def plainN : NestedKey → Bool
  | .text _ => false
  | .tup ks => plainNs ks
  | _ => true
def plainNs : List NestedKey → Bool
  | [] => true
  | k :: ks => plainN k && plainNs ks
end
mutual
theorem hash_plain (w w' : World) : ∀ k : NestedKey, plainN k = true → k.hash w = k.hash w'
  | .none, _ => rfl
  | .num i, _ => rfl
  | .text x, h => by rw [plainN] at h; cases h
  | .tup ks, h => by
    rw [plainN] at h
    rw [NestedKey.hash, NestedKey.hash, hashes_plain w w' ks h]
theorem hashes_plain (w w' : World) : ∀ ks : List NestedKey, plainNs ks = true → NestedKey.hashes w ks = NestedKey.hashes w' ks
  | [], _ => rfl
  | k :: ks, h => by
    rw [plainNs, Bool.and_eq_true] at h
    rw [NestedKey.hashes, NestedKey.hashes, hash_plain w w' k h.1, hashes_plain w w' ks h.2]
end
section
variable {X : Cx} {pins : List (Addr × Obj)} {σ : L2.St} {H : Hp} {s : Shared}
mutual
theorem NV.is (I : Inv X pins σ H s) : ∀ {k : NestedKey} {v : V} {u : Value}, NV X.K H k v → RelV v u → NestedIs s.heap k u
  | .none, v, u, h, r => by
    unfold NV at h
    subst h
    obtain rfl : u = Value.none := r
    exact .none
  | .num i, v, u, h, r => by
    unfold NV at h
    subst h
    obtain ⟨t, rfl⟩ := (show ∃ t, u = Value.int i t from r)
    exact .int i t
  | .text x, v, u, h, r => by
    unfold NV at h
    subst h
    obtain ⟨t, rfl⟩ := (show ∃ t, u = Value.str x t from r)
    exact .text x t
  | .tup ks, v, u, h, r => by
    unfold NV at h
    obtain ⟨a, xs, rfl, ht, hs⟩ := h
    obtain rfl : u = Value.ref a := r
    obtain ⟨its, rv, ⟨o, e, c, n, d⟩, _⟩ := I.tuple ht
    exact .tup e c d (by simpa using NVs.is I hs rv)
theorem NVs.is (I : Inv X pins σ H s) : ∀ {ks : List NestedKey} {xs : List V} {us : List Value}, NVs X.K H ks xs → Vals xs us → NestedAll s.heap ks us
  | [], xs, us, h, r => by
    unfold NVs at h
    subst h
    cases r
    exact .nil
  | k :: ks, xs, us, h, r => by
    unfold NVs at h
    obtain ⟨x, q, rfl, h1, h2⟩ := h
    cases r with
    | cons r1 r2 => exact .cons (NV.is I h1 r1) (NVs.is I h2 r2)
end
end
mutual
theorem NV.mono {K : PySem.W.Frag} {H H' : Hp} (T : ∀ a xs, SqT K H a xs → SqT K H' a xs) : ∀ {k : NestedKey} {v : V}, NV K H k v → NV K H' k v
  | .none, _, h => by unfold NV at h ⊢; exact h
  | .num _, _, h => by unfold NV at h ⊢; exact h
  | .text _, _, h => by unfold NV at h ⊢; exact h
  | .tup ks, _, h => by
    unfold NV at h ⊢
    obtain ⟨a, xs, e, h1, h2⟩ := h
    exact ⟨a, xs, e, T a xs h1, NVs.mono T h2⟩
theorem NVs.mono {K : PySem.W.Frag} {H H' : Hp} (T : ∀ a xs, SqT K H a xs → SqT K H' a xs) : ∀ {ks : List NestedKey} {xs : List V}, NVs K H ks xs → NVs K H' ks xs
  | [], _, h => by unfold NVs at h ⊢; exact h
  | k :: ks, _, h => by
    unfold NVs at h ⊢
    obtain ⟨x, r, e, h1, h2⟩ := h
    exact ⟨x, r, e, NV.mono T h1, NVs.mono T h2⟩
end

/-! ### the tables -/
abbrev NT := List (NestedKey × Addr × V)
abbrev KN : NT → List (NestedKey × Addr × Value) → Prop := Paired fun p q => p.1 = q.1 ∧ p.2.1 = q.2.1 ∧ RelV p.2.2 q.2.2
def valN (kvs : NT) (k : NestedKey) : Option V := (kvs.find? fun x => decide (x.1 = k)).map (·.2.2)
def putN (kvs : NT) (k : NestedKey) (a : Addr) (v : V) : NT := if (valN kvs k).isSome then kvs.map (fun x => if x.1 = k then (x.1, x.2.1, v) else x) else kvs ++ [(k, a, v)]
theorem valN_pos {p : NestedKey × Addr × V} {r : NT} {k : NestedKey} (e : p.1 = k) : valN (p :: r) k = some p.2.2 := by simp [valN, List.find?_cons, e]
theorem valN_neg {p : NestedKey × Addr × V} {r : NT} {k : NestedKey} (e : ¬ p.1 = k) : valN (p :: r) k = valN r k := by simp [valN, List.find?_cons, e]
theorem KN.val {kvs : NT} {us : List (NestedKey × Addr × Value)} (r : KN kvs us) (k : NestedKey) : RelO (valN kvs k) ((atKey us k).map (·.2)) := by
  induction r with
  | nil => exact True.intro
  | @cons p q ps qs h t ih =>
    obtain ⟨h1, _, h2⟩ := h
    by_cases e : p.1 = k
    · have e' : q.1 = k := h1.symm.trans e
      have b : atKey (q :: qs) k = some q.2 := by simp [atKey, List.find?_cons, e']
      rw [valN_pos e, b]; exact h2
    · have e' : ¬ q.1 = k := fun z => e (h1.trans z)
      have b : atKey (q :: qs) k = atKey qs k := by simp [atKey, List.find?_cons, e']
      rw [valN_neg e, b]; exact ih
theorem KN.repl {kvs : NT} {us : List (NestedKey × Addr × Value)} (r : KN kvs us) (k : NestedKey) {y : V} {u : Value} (ry : RelV y u) :
    KN (kvs.map fun x => if x.1 = k then (x.1, x.2.1, y) else x) (us.map (putAt k u)) := by
  induction r with
  | nil => exact .nil
  | @cons p q ps qs h t ih =>
    rw [List.map_cons, List.map_cons]
    refine .cons ?_ ih
    obtain ⟨h1, h2, h3⟩ := h
    unfold putAt
    by_cases e : p.1 = k
    · rw [if_pos e, if_pos (h1.symm.trans e)]; exact ⟨h1, h2, ry⟩
    · rw [if_neg e, if_neg (fun z => e (h1.trans z))]; exact ⟨h1, h2, h3⟩
theorem KN.put {kvs : NT} {us : List (NestedKey × Addr × Value)} (r : KN kvs us) (k : NestedKey) (b : Addr) {y : V} {u : Value} (ry : RelV y u) : KN (putN kvs k b y) (storedH us k b u) := by
  have e : (valN kvs k).isSome = (atKey us k).isSome := by rw [(r.val k).isSome_eq, Option.isSome_map]
  unfold putN storedH
  rw [e]
  by_cases q : (atKey us k).isSome = true
  · rw [if_pos q, if_pos q]; exact r.repl k ry
  · rw [if_neg q, if_neg q]; exact Paired.snoc r ⟨rfl, rfl, ry⟩
theorem putN_len (kvs : NT) (k : NestedKey) (a : Addr) (v : V) : (putN kvs k a v).length ≤ kvs.length + 1 := by
  unfold putN
  split
  · rw [List.length_map]; omega
  · rw [List.length_append, List.length_cons, List.length_nil]; omega
theorem putN_mem {kvs : NT} {k : NestedKey} {a : Addr} {v : V} {P : NestedKey → Addr → Prop} (h : ∀ x ∈ kvs, P x.1 x.2.1) (hk : P k a) : ∀ x ∈ putN kvs k a v, P x.1 x.2.1 := by
  intro x hx
  unfold putN at hx
  split at hx
  · obtain ⟨y, hy, rfl⟩ := List.mem_map.mp hx
    split
    · exact h y hy
    · exact h y hy
  · rcases List.mem_append.mp hx with hx | hx
    · exact h x hx
    · rw [List.mem_singleton.mp hx]; exact hk
/-- the object o is a dict of the whole numbers kvs -/
structure TabI (o : Obj) (kvs : List (Int × V)) : Prop where
  len : kvs.length ≤ sizeLine
  x : ∃ es ep vs, o.ExactDict ∧ o.data = .dict es ep ∧ (∀ P w, KeysOf (intKind P w) es) ∧ (∀ P w, Pairs (intKind P w) es.toList vs) ∧ (vs.map (·.1)).Nodup ∧ KV kvs vs
/-- .. of nested tuples -/
structure TabN (o : Obj) (kvs : NT) : Prop where
  len : kvs.length ≤ sizeLine
  pl : ∀ x ∈ kvs, plainN x.1 = true ∧ x.1.depth ≤ 8
  x : ∃ es ep us, o.ExactDict ∧ o.data = .dict es ep ∧ (∀ P w, es.toList = us.map (entryOfKey (nestedKind P w))) ∧ (us.map (·.1)).Nodup ∧ KN kvs us
theorem tab_new : TabI { cls := .type "dict", data := .dict #[] } [] ∧ TabN { cls := .type "dict", data := .dict #[] } [] :=
  ⟨⟨Nat.zero_le _, #[], 0, [], ⟨rfl, rfl, rfl⟩, rfl, (fun _ _ e he => nomatch he), (fun _ _ => .nil), List.nodup_nil, .nil⟩,
    ⟨Nat.zero_le _, (fun _ h => nomatch h), #[], 0, [], ⟨rfl, rfl, rfl⟩, rfl, (fun _ _ => rfl), List.nodup_nil, .nil⟩⟩
theorem TabI.toN {o : Obj} (h : TabI o []) : TabN o [] := by
  obtain ⟨_, es, ep, vs, h1, h2, h3, h4, h5, h6⟩ := h
  cases h6
  refine ⟨Nat.zero_le _, (fun _ h => nomatch h), es, ep, [], h1, h2, fun P w => ?_, List.nodup_nil, .nil⟩
  have := (h4 P w).length
  rw [List.map_nil]
  exact List.eq_nil_of_length_eq_zero this
theorem TabN.toI {o : Obj} (h : TabN o []) : TabI o [] := by
  obtain ⟨_, _, es, ep, us, h1, h2, h3, h5, h6⟩ := h
  cases h6
  have e0 : ∀ (P : Program) (w : World), es.toList = [] := fun P w => by rw [h3 P w]; rfl
  refine ⟨Nat.zero_le _, es, ep, [], h1, h2, fun P w e he => ?_, fun P w => by rw [e0 P w]; exact .nil, List.nodup_nil, .nil⟩
  have : e ∈ es.toList := by simpa using he
  rw [e0 P w] at this
  cases this
def DctI (H : Hp) (a : Addr) (kvs : List (Int × V)) : Prop := ∃ o, H a = some (DO a o) ∧ TabI o kvs ∧ (a == sysModules) = false
def DctN (K : PySem.W.Frag) (H : Hp) (a : Addr) (kvs : NT) : Prop := ∃ o, H a = some (DO a o) ∧ TabN o kvs ∧ (a == sysModules) = false ∧ ∀ x ∈ kvs, NV K H x.1 (.ref x.2.1)
section
variable {X : Cx} {pins : List (Addr × Obj)} {σ : L2.St} {H : Hp} {s : Shared} {a : Addr}
theorem DctI.of (I : Inv X pins σ H s) {kvs : List (Int × V)} (h : DctI H a kvs) : (a == sysModules) = false ∧ kvs.length ≤ sizeLine ∧ ∃ vs, KV kvs vs ∧ s.heap.DictOf (intKind X.prog X.w) a vs := by
  obtain ⟨o, e, ⟨hl, es, ep, vs, h1, h2, h3, h4, h5, h6⟩, hs⟩ := h
  exact ⟨hs, hl, vs, h6, o, es, ep, do_at I.hok e, h1, h2, h3 _ _, h4 _ _, h5⟩
theorem DctN.of (I : Inv X pins σ H s) {kvs : NT} (h : DctN X.K H a kvs) : (a == sysModules) = false ∧ kvs.length ≤ sizeLine ∧ ∃ us, KN kvs us ∧ s.heap.DictOfH (nestedKind X.prog X.w) a us := by
  obtain ⟨o, e, ⟨hl, hp, es, ep, us, h1, h2, h3, h5, h6⟩, hs, hn⟩ := h
  refine ⟨hs, hl, us, h6, o, es, ep, do_at I.hok e, h1, h2, h3 _ _, ?_, h5⟩
  have all : ∀ {l : NT} {m : List (NestedKey × Addr × Value)}, KN l m → (∀ x ∈ l, NV X.K H x.1 (.ref x.2.1) ∧ x.1.depth ≤ 8) → ∀ x ∈ m, (nestedKind X.prog X.w).is s.heap x.1 x.2.1 := by
    intro l m q
    induction q with
    | nil => intro _ x hx; exact nomatch hx
    | @cons p q ps qs hq t ih =>
      intro hl x hx
      rcases List.mem_cons.mp hx with e | hx
      · subst e
        obtain ⟨z1, z2⟩ := hl p (List.mem_cons_self ..)
        rw [hq.1, hq.2.1] at z1
        rw [hq.1] at z2
        exact ⟨NV.is I z1 rfl, z2⟩
      · exact ih (fun y hy => hl y (List.mem_cons_of_mem _ hy)) x hx
  exact all h6 fun x hx => ⟨hn x hx, (hp x hx).2⟩
/-- what the dict at a holds at the key y -/
def GetD (K : PySem.W.Frag) (H : Hp) (a : Addr) (y : V) (r : Option V) : Prop :=
  (∃ kvs i, DctI H a kvs ∧ y = .int i ∧ r = valV kvs i) ∨ ∃ kvs k b, DctN K H a kvs ∧ NV K H k y ∧ y = .ref b ∧ k.depth ≤ 8 ∧ r = valN kvs k
theorem isInt_of {i : Int} {u : Value} (r : RelV (.int i) u) {P : Program} {w : World} : (intKind P w).is i u = true := by
  obtain ⟨t, rfl⟩ := (show ∃ t, u = Value.int i t from r)
  show Value.isInt i (.int i t) = true
  simp [Value.isInt]
theorem room8 {A : Around} (hu : A.units + 65 < cLine) {P : Program} {w : World} : (nestedKind P w).room A.in1 := by
  show A.units + 1 + 8 < cLine
  omega
theorem opt_some {o : Option V} {p : Option Value} (r : RelO o p) {v : V} (e : o = some v) : ∃ u, p = some u ∧ RelV v u := by
  subst e
  cases p with
  | none => exact (show False from r).elim
  | some u => exact ⟨u, rfl, r⟩
def rInK (K : PySem.W.Frag) : R2 := fun y x H Q => ∃ a r, x = .ref a ∧ GetD K H a y r ∧ Q (.bl r.isSome) H
def rNotInK (K : PySem.W.Frag) : R2 := fun y x H Q => ∃ a r, x = .ref a ∧ GetD K H a y r ∧ Q (.bl (!r.isSome)) H
def rIxK (K : PySem.W.Frag) : R2 := fun x y H Q => ∃ a v, x = .ref a ∧ GetD K H a y (some v) ∧ Q v H
def rGetK (K : PySem.W.Frag) : V → List V → Hp → VK → Prop := fun x xs H Q => ∃ a y r, x = .ref a ∧ xs = [y] ∧ GetD K H a y r ∧ Q (r.getD .non) H
def rLenK (K : PySem.W.Frag) : List V → Hp → VK → Prop := fun xs H Q => ∃ a, xs = [.ref a] ∧ ((∃ kvs, DctI H a kvs ∧ Q (.int kvs.length) H) ∨ ∃ kvs, DctN K H a kvs ∧ Q (.int kvs.length) H)
theorem op_inK (hu : X.A.units + 65 < cLine) : OpR X (compareOp .In) (rInK X.K) := by
  intro pins s σ H y x u v Q I ry rx h
  obtain ⟨a, r, rfl, g, q⟩ := h
  obtain rfl : v = Value.ref a := rx
  rcases g with ⟨kvs, i, hd, rfl, rfl⟩ | ⟨kvs, k, b, hd, hk, rfl, dk, rfl⟩
  · obtain ⟨hs, _, vs, rel, dd⟩ := hd.of I
    refine wpAny_in_of (knd := intKind X.prog X.w) (isInt_of ry) hs dd.mapOf ?_
    rw [← (rel.val i).isSome_eq]
    exact ⟨.bl _, H, I.tok _, rfl, q⟩
  · obtain rfl : u = Value.ref b := ry
    obtain ⟨hs, _, us, rel, dd⟩ := hd.of I
    refine wpAny_in_heap (knd := nestedKind X.prog X.w) (room8 hu) ⟨NV.is I hk rfl, dk⟩ hs dd ?_
    have e := (rel.val k).isSome_eq
    rw [Option.isSome_map] at e
    rw [← e]
    exact ⟨.bl _, H, I.tok _, rfl, q⟩
theorem op_notInK (hu : X.A.units + 65 < cLine) : OpR X (compareOp .NotIn) (rNotInK X.K) := by
  intro pins s σ H y x u v Q I ry rx h
  obtain ⟨a, r, rfl, g, q⟩ := h
  obtain rfl : v = Value.ref a := rx
  rcases g with ⟨kvs, i, hd, rfl, rfl⟩ | ⟨kvs, k, b, hd, hk, rfl, dk, rfl⟩
  · obtain ⟨hs, _, vs, rel, dd⟩ := hd.of I
    refine wpAny_notIn_of (knd := intKind X.prog X.w) (isInt_of ry) hs dd.mapOf ?_
    rw [← (rel.val i).isSome_eq]
    exact ⟨.bl _, H, I.tok _, rfl, q⟩
  · obtain rfl : u = Value.ref b := ry
    obtain ⟨hs, _, us, rel, dd⟩ := hd.of I
    refine wpAny_notIn_heap (knd := nestedKind X.prog X.w) (room8 hu) ⟨NV.is I hk rfl, dk⟩ hs dd ?_
    have e := (rel.val k).isSome_eq
    rw [Option.isSome_map] at e
    rw [← e]
    exact ⟨.bl _, H, I.tok _, rfl, q⟩
theorem ix_K (hu : X.A.units + 65 < cLine) : IxR X (rIxK X.K) := by
  intro value slice pins s σ H x y v u Q I rx ry h hs
  obtain ⟨a, z, rfl, g, q⟩ := h
  obtain rfl : v = Value.ref a := rx
  rcases g with ⟨kvs, i, hd, rfl, e⟩ | ⟨kvs, k, b, hd, hk, rfl, dk, e⟩
  · obtain ⟨_, _, vs, rel, dd⟩ := hd.of I
    obtain ⟨w, hw, rw'⟩ := opt_some (rel.val i) e.symm
    exact subscriptTail_builtinR (x := w) dd.typeIs PySem.F.slot_dict_getitem.lookup (wpAny_getItem_of (knd := intKind X.prog X.w) (isInt_of ry) dd.mapOf hw ⟨rfl, z, H, I.tok _, rw', q⟩) hs
  · obtain rfl : u = Value.ref b := ry
    obtain ⟨_, _, us, rel, dd⟩ := hd.of I
    obtain ⟨w, hw, rw'⟩ := opt_some (rel.val k) e.symm
    obtain ⟨p, hp, rfl⟩ := Option.map_eq_some_iff.mp hw
    exact subscriptTail_builtinR (x := p.2) dd.typeIs PySem.F.slot_dict_getitem.lookup (wpAny_getItem_heap (knd := nestedKind X.prog X.w) (room8 hu) ⟨NV.is I hk rfl, dk⟩ dd hp ⟨rfl, z, H, I.tok _, rw', q⟩) hs
theorem mt_getK (hu : X.A.units + 65 < cLine) : MtR X "dict.get" (rGetK X.K) := by
  intro pins s σ H x xs v us Q I rx rs h
  obtain ⟨a, y, r, rfl, rfl, g, q⟩ := h
  obtain rfl : v = Value.ref a := rx
  obtain ⟨u, rfl, ry⟩ := vals1 rs
  rcases g with ⟨kvs, i, hd, rfl, rfl⟩ | ⟨kvs, k, b, hd, hk, rfl, dk, rfl⟩
  · obtain ⟨hs, _, vs, rel, dd⟩ := hd.of I
    refine call_meetsIn PySem.F.slot_dict_get dd.typeIs PySem.F.entry_dict_get (PySem.F.args_dict_get_2 _ _) (meets_dict_get (intKind X.prog X.w) a (isInt_of ry) hs) ⟨_, dd.mapOf, ?_⟩
    exact ⟨_, H, I.tok _, (rel.val i).getD (d := .non) (d' := .none) rfl, q⟩
  · obtain rfl : u = Value.ref b := ry
    obtain ⟨hs, _, us, rel, dd⟩ := hd.of I
    refine call_meetsIn PySem.F.slot_dict_get dd.typeIs PySem.F.entry_dict_get (PySem.F.args_dict_get_2 _ _) (meetsH_dict_get (nestedKind X.prog X.w) a b hs) ⟨room8 hu, k, us, ⟨NV.is I hk rfl, dk⟩, dd, ?_⟩
    exact ⟨_, H, I.tok _, (rel.val k).getD (d := .non) (d' := .none) rfl, q⟩
theorem call_lenK : CallR X (.builtin "len") (rLenK X.K) := by
  intro pins s σ H xs us Q I r h
  obtain ⟨a, rfl, h⟩ := h
  obtain ⟨u, rfl, rx⟩ := vals1 r
  obtain rfl : u = .ref a := rx
  rcases h with ⟨kvs, hd, q⟩ | ⟨kvs, hd, q⟩
  · obtain ⟨hs, hl, vs, rel, dd⟩ := hd.of I
    refine call_len_dict hs dd (by rw [← rel.length]; rw [sizeLine_eq] at hl; omega) ?_
    rw [← rel.length]
    exact ⟨.int _, H, I.tok _, ⟨_, rfl⟩, q⟩
  · obtain ⟨hs, hl, us, rel, dd⟩ := hd.of I
    have e : kvs.length = us.length := Paired.length rel
    refine call_len_dictH hs dd (by rw [← e]; rw [sizeLine_eq] at hl; omega) ?_
    rw [← e]
    exact ⟨.int _, H, I.tok _, ⟨_, rfl⟩, q⟩
/-- a[i] = v -/
def rSetK (K : PySem.W.Frag) : V → V → V → Hp → (Hp → Prop) → Prop := fun o i v H Q => ∃ a, o = .ref a ∧
  ((∃ kvs n, DctI H a kvs ∧ i = .int n ∧ kvs.length < sizeLine ∧ ∀ ob, TabI ob (putK kvs n v) → Q (upd H a (DO a ob))) ∨
   ∃ kvs k b, DctN K H a kvs ∧ NV K H k i ∧ i = .ref b ∧ plainN k = true ∧ k.depth ≤ 8 ∧ kvs.length < sizeLine ∧ ∀ ob, TabN ob (putN kvs k b v) → Q (upd H a (DO a ob)))
theorem keysOf_any {P P' : Program} {w w' : World} {es : Array DictEntry} (h : KeysOf (intKind P w) es) : KeysOf (intKind P' w') es := h
theorem pairs_any {P P' : Program} {w w' : World} : ∀ {es : List DictEntry} {vs : List (Int × Value)}, Pairs (intKind P w) es vs → Pairs (intKind P' w') es vs
  | _, _, .nil => .nil
  | _, _, .cons h1 h2 t => .cons h1 h2 (pairs_any t)
theorem entries_any {P P' : Program} {w w' : World} {us : List (NestedKey × Addr × Value)} (h : ∀ x ∈ us, plainN x.1 = true) : us.map (entryOfKey (nestedKind P w)) = us.map (entryOfKey (nestedKind P' w')) := by
  refine List.map_congr_left fun x hx => ?_
  unfold entryOfKey
  have : (nestedKind P w).hash x.1 = (nestedKind P' w').hash x.1 := hash_plain w w' x.1 (h x hx)
  rw [this]
theorem KN.plain {kvs : NT} {us : List (NestedKey × Addr × Value)} (r : KN kvs us) {Pr : NestedKey → Prop} (h : ∀ x ∈ kvs, Pr x.1) : ∀ x ∈ us, Pr x.1 := by
  induction r with
  | nil => exact fun _ hx => nomatch hx
  | @cons p q ps qs hq t ih =>
    intro x hx
    rcases List.mem_cons.mp hx with e | hx
    · rw [e, ← hq.1]; exact h p (List.mem_cons_self ..)
    · exact ih (fun y hy => h y (List.mem_cons_of_mem _ hy)) x hx
theorem TabI.of {h : Heap} {kvs : List (Int × V)} {vs : List (Int × Value)} {P : Program} {w : World} (hl : kvs.length ≤ sizeLine) (rel : KV kvs vs) (dd : h.DictOf (intKind P w) a vs) : ∃ o, h.get? a = some o ∧ TabI o kvs := by
  obtain ⟨o, es, ep, h1, h2, h3, h4, h5, h6⟩ := dd
  exact ⟨o, h1, hl, es, ep, vs, h2, h3, fun _ _ => keysOf_any h4, fun _ _ => pairs_any h5, h6, rel⟩
theorem TabN.of {h : Heap} {kvs : NT} {us : List (NestedKey × Addr × Value)} {P : Program} {w : World} (hl : kvs.length ≤ sizeLine) (hp : ∀ x ∈ kvs, plainN x.1 = true ∧ x.1.depth ≤ 8) (rel : KN kvs us) (dd : h.DictOfH (nestedKind P w) a us) : ∃ o, h.get? a = some o ∧ TabN o kvs := by
  obtain ⟨o, es, ep, h1, h2, h3, h4, h5, h6⟩ := dd
  exact ⟨o, h1, hl, hp, es, ep, us, h2, h3, fun _ _ => h4.trans (entries_any (rel.plain (Pr := fun k => plainN k = true) fun x hx => (hp x hx).1)), h6, rel⟩
theorem do_mut {o : Obj} : Mut (some (DO a o)) := True.intro
/-- a store at a, by whatever stores: for d[k] = v and for comprehensions -/
theorem store_I {A : Around} {E : Value → Shared → Prop} {kvs : List (Int × V)} {n : Int} {v : V} {u : Value} {Q : Hp → Prop} {m : Sem Unit} (I : Inv X pins σ H s) (hd : DctI H a kvs) (rv : RelV v u) (hz : kvs.length < sizeLine)
    (q : ∀ ob, TabI ob (putK kvs n v) → Q (upd H a (DO a ob)))
    (hm : ∀ vs, s.heap.DictOf (intKind X.prog X.w) a vs → vs.length ≤ sizeLine → (∀ h' t', h'.DictOf (intKind X.prog X.w) a (stored vs n u) → Heap.SameBut a s.heap h' → ∃ H', Inv X pins σ H' { s with heap := h', toks := t' } ∧ Q H') → wpAny (model X.prog X.w) A m (fun _ s' => ∃ H', Inv X pins σ H' s' ∧ Q H') E s) :
    wpAny (model X.prog X.w) A m (fun _ s' => ∃ H', Inv X pins σ H' s' ∧ Q H') E s := by
  obtain ⟨hs, hl, vs, rel, dd⟩ := hd.of I
  obtain ⟨o, e, _, _⟩ := hd
  refine hm vs dd (by rw [← rel.length]; exact hl) fun h' t' dd' sb => ?_
  obtain ⟨ob, ho, tb⟩ := TabI.of (by have := length_putK kvs n v; omega) (rel.put n rv) dd'
  exact ⟨_, d_write I (by rw [e]; exact do_mut) sb ⟨ob, ho⟩ (do_ok ho), q ob tb⟩
theorem store_N {A : Around} {E : Value → Shared → Prop} {kvs : NT} {k : NestedKey} {b : Addr} {v : V} {u : Value} {Q : Hp → Prop} {m : Sem Unit} (I : Inv X pins σ H s) (hd : DctN X.K H a kvs) (rv : RelV v u) (hk : NV X.K H k (.ref b)) (hp : plainN k = true) (dk : k.depth ≤ 8) (hz : kvs.length < sizeLine)
    (q : ∀ ob, TabN ob (putN kvs k b v) → Q (upd H a (DO a ob)))
    (hm : ∀ us, s.heap.DictOfH (nestedKind X.prog X.w) a us → us.length < sizeLine → (nestedKind X.prog X.w).is s.heap k b → (∀ h' t', h'.DictOfH (nestedKind X.prog X.w) a (storedH us k b u) → Heap.SameBut a s.heap h' → ∃ H', Inv X pins σ H' { s with heap := h', toks := t' } ∧ Q H') → wpAny (model X.prog X.w) A m (fun _ s' => ∃ H', Inv X pins σ H' s' ∧ Q H') E s) :
    wpAny (model X.prog X.w) A m (fun _ s' => ∃ H', Inv X pins σ H' s' ∧ Q H') E s := by
  obtain ⟨hs, hl, us, rel, dd⟩ := hd.of I
  obtain ⟨o, e, tb0, _⟩ := hd
  refine hm us dd (by rw [← Paired.length rel]; exact hz) ⟨NV.is I hk rfl, dk⟩ fun h' t' dd' sb => ?_
  obtain ⟨ob, ho, tb⟩ := TabN.of (by have := putN_len kvs k b v; omega) (fun x hx => putN_mem (P := fun k _ => plainN k = true ∧ k.depth ≤ 8) tb0.pl ⟨hp, dk⟩ x hx) (rel.put k b rv) dd'
  exact ⟨_, d_write I (by rw [e]; exact do_mut) sb ⟨ob, ho⟩ (do_ok ho), q ob tb⟩
theorem set_K (hu : X.A.units + 65 < cLine) : PSet X (rSetK X.K) := by
  intro pins s σ H o i v ov iv u Q I ro ri rv h
  obtain ⟨a, rfl, h⟩ := h
  obtain rfl : ov = Value.ref a := ro
  rcases h with ⟨kvs, n, hd, rfl, hz, q⟩ | ⟨kvs, k, b, hd, hk, rfl, hp, dk, hz, q⟩
  · exact store_I I hd rv hz q fun vs dd hl fin => wpAny_setItem_pairs (hsz := hl) (isInt_of ri) dd fun h' dd' sb => fin h' _ dd' sb
  · obtain rfl : iv = Value.ref b := ri
    exact store_N I hd rv hk hp dk hz q fun us dd hl ik fin => wpAny_setItem_heap (hsz := Nat.le_of_lt hl) (room8 hu) ik dd fun h' dd' sb => fin h' _ dd' sb
mutual
theorem hashK_eq (w : World) : ∀ k : NestedKey, plainN k = true → k.hash w = hashK k
  | .none, _ => rfl
  | .num i, _ => rfl
  | .text x, h => by rw [plainN] at h; cases h
  | .tup ks, h => by
    rw [plainN] at h
    rw [NestedKey.hash, hashK, hashKs_eq w ks h]
theorem hashKs_eq (w : World) : ∀ ks : List NestedKey, plainNs ks = true → NestedKey.hashes w ks = hashKs ks
  | [], _ => rfl
  | k :: ks, h => by
    rw [plainNs, Bool.and_eq_true] at h
    rw [NestedKey.hashes, hashKs, hashK_eq w k h.1, hashKs_eq w ks h.2]
end
/-- no key has that hash -/
theorem find_none {P : Program} {w : World} {A : Around} {E : Value → Shared → Prop} {d : Addr} {o : Obj} {es : Array DictEntry} {ep : Nat} {h : Int} {Q : Option Nat → Shared → Prop} (ho : s.heap.get? d = some o) (hd : o.data = .dict es ep) (hno : ∀ e ∈ es, e.hash ≠ h) (q : Q none s) :
    wpAny (model P w) A (dictFind d .none h) Q E s := by
  have hp : placesWithHash es.size (fun i => es[i]?.map (·.hash)) h = [] := by
    unfold placesWithHash
    rw [List.filter_eq_nil_iff]
    intro i hi z
    have hi := List.mem_range.mp hi
    have z : (Option.map (fun x => x.hash) es[i]? == some h) = true := z
    rw [Array.getElem?_eq_getElem hi, Option.map_some] at z
    exact hno _ (Array.getElem_mem hi) (Option.some.inj (eq_of_beq z))
  unfold dictFind
  try with_reducible refine wpAny_holding ?_
  refine wpAny_bind (wpAny_dictEntries ho hd ?_)
  dsimp only
  have hall : ((Value.none :: (placesWithHash es.size (fun i => es[i]?.map (·.hash)) h).filterMap fun i => es[i]?.map (·.key)).all carriedByValue) = true := by
    rw [hp]
    rfl
  rw [if_pos hall, hp]
  exact wpAny_bind (wpAny_pure (wpAny_pure q))
theorem meets_getN {P : Program} {w : World} {d : Addr} (hd : (d == sysModules) = false) :
    MeetsIn P w (Builtin.«dict.get» ⟨[.ref d, .none], []⟩) (fun A R s => A.in1.units + 8 < cLine ∧ ∃ o es ep, s.heap.get? d = some o ∧ o.data = .dict es ep ∧ (∀ e ∈ es, e.hash ≠ NestedKey.none.hash w) ∧
      ∀ t, R (.ok (.ret .none)) { s with toks := t }) :=
  .of_wp fun A R s ⟨hu, o, es, ep, ho, hdt, hno, h⟩ => by
    show wpAny _ _ (dictGet d .none >>= _) _ _ s
    refine wpAny_bind ?_
    unfold dictGet
    try with_reducible refine wpAny_holding ?_
    refine wpAny_bind (pyHash_key (w := w) .none .none _ s _ .none (by show A.in1.units + 0 < cLine; omega) (wpAny_bind (find_none (s := { s with toks := _ }) ho hdt hno (wpAny_pure ?_))))
    show wpAny _ _ (Builtin.Dict.missed d .none >>= _) _ _ _
    exact wpAny_bind (wpAny_missed_other hd (wpAny_pure ⟨.none, rfl, h _⟩))
/-- .. of None, which is no key -/
def rGetN (K : PySem.W.Frag) : V → List V → Hp → VK → Prop := fun x xs H Q => ∃ a kvs, x = .ref a ∧ xs = [.non] ∧ DctN K H a kvs ∧ (∀ z ∈ kvs, hashK z.1 ≠ hashK .none) ∧ Q .non H
def rGetA (K : PySem.W.Frag) : V → List V → Hp → VK → Prop := fun x xs H Q => rGetK K x xs H Q ∨ rGetN K x xs H Q
theorem mt_getN (hu : X.A.units + 65 < cLine) : MtR X "dict.get" (rGetN X.K) := by
  intro pins s σ H x xs v us Q I rx rs h
  obtain ⟨a, kvs, rfl, rfl, hd, hf, q⟩ := h
  obtain rfl : v = Value.ref a := rx
  obtain ⟨u, rfl, ry⟩ := vals1 rs
  obtain rfl : u = Value.none := ry
  obtain ⟨hs, _, us, rel, dd⟩ := hd.of I
  obtain ⟨_, _, ⟨_, hpl, _⟩, _⟩ := hd
  have hf2 : ∀ z ∈ us, z.1.hash X.w ≠ NestedKey.none.hash X.w := fun z hz => by
    have h1 := KN.plain rel (Pr := fun k => plainN k = true ∧ hashK k ≠ hashK .none) (fun x hx => ⟨(hpl x hx).1, hf x hx⟩) z hz
    rw [hashK_eq _ _ h1.1]
    exact h1.2
  have ty := dd.typeIs
  obtain ⟨o, es, ep, h1, h2, h3, h4, h5, h6⟩ := dd
  refine call_meetsIn PySem.F.slot_dict_get ty PySem.F.entry_dict_get (PySem.F.args_dict_get_2 _ _) (meets_getN hs) ⟨by show X.A.units + 1 + 8 < cLine; omega, o, es, ep, h1, h3, fun e he => ?_, fun t => ⟨.non, H, I.tok _, rfl, q⟩⟩
  have : e ∈ us.map (entryOfKey (nestedKind X.prog X.w)) := h4 ▸ Array.mem_toList_iff.mpr he
  obtain ⟨z, hz, rfl⟩ := List.mem_map.mp this
  exact hf2 z hz
/-- {} -/
def tNewK : TE := fun _ H Q => ∀ p o, H p = none → (p == sysModules) = false → TabI o [] → Q (.ref p) (upd H p (DO p o))
theorem pe_newK {pos : Pos} : PE X (.Dict [] [] pos) tNewK := ⟨fun pins s σ H Q I h => by
  have hb := I.big
  have ho : (s.heap.push { cls := .type "dict", data := .dict #[] }).get? s.heap.objs.size = some { cls := .type "dict", data := .dict #[] } := Heap.get?_push_size _ rfl
  exact wpAny_Dict_empty ⟨.ref s.heap.objs.size, _, I.laid (a := s.heap.objs.size) (o := DO s.heap.objs.size { cls := .type "dict", data := .dict #[] }) (t' := s.toks) (fun _ _ q => Heap.get?_push_of_some _ q) (Nat.le_refl _) (do_ok ho), rfl,
    h _ _ (I.hok.fresh (Nat.le_refl _)) (beq_eq_false_iff_ne.mpr (Ne.symm (Nat.ne_of_lt hb))) tab_new.1⟩⟩
/-- {k: v}, k a tuple -/
def tMp1K (K : PySem.W.Frag) (tk tv : TE) : TE := fun σ H Q => ∀ p o, H p = none → (p == sysModules) = false → TabN o [] → tPairs [(tk, tv)] σ (upd H p (DO p o)) fun ps H2 =>
  ∃ k b v, ps = [(.ref b, v)] ∧ H2 p = some (DO p o) ∧ NV K H2 k (.ref b) ∧ plainN k = true ∧ k.depth ≤ 8 ∧ ∀ ob, TabN ob [(k, b, v)] → Q (.ref p) (upd H2 p (DO p ob))
theorem pe_mp1K {ke ve : Expr} {tk tv : TE} {pos : Pos} (hu : X.A.units + 65 < cLine) (hk : PE X ke tk) (hv : PE X ve tv) : PE X (.Dict [some ke] [ve] pos) (tMp1K X.K tk tv) := ⟨fun pins s σ H Q I h => by
  have hb := I.big
  have ho : (s.heap.push { cls := .type "dict", data := .dict #[] }).get? s.heap.objs.size = some { cls := .type "dict", data := .dict #[] } := Heap.get?_push_size _ rfl
  have hs : (s.heap.objs.size == sysModules) = false := beq_eq_false_iff_ne.mpr (Ne.symm (Nat.ne_of_lt hb))
  have I1 := I.laid (a := s.heap.objs.size) (o := DO s.heap.objs.size { cls := .type "dict", data := .dict #[] }) (t' := s.toks) (fun _ _ q => Heap.get?_push_of_some _ q) (Nat.le_refl _) (do_ok ho)
  refine wpAny_Dict_any rfl rfl (by simp) (by show 1 ≤ 15; decide) (thn ((pps_cons hk hv pps_nil).run pins _ σ _ _ I1 (h _ _ (I.hok.fresh (Nat.le_refl _)) hs tab_new.2)) fun ws s2 ⟨ps, H2, I2, rel, k, b, v, ep, e, nv, pl, dk, q⟩ => ?_)
  subst ep
  cases rel with
  | @cons _ w _ ws r t =>
    cases t
    obtain ⟨w1, w2⟩ := w
    obtain rfl : w1 = Value.ref b := r.1
    have hd : DctN X.K H2 s.heap.objs.size [] := ⟨_, e, tab_new.2, hs, fun _ h => nomatch h⟩
    refine thn (store_N I2 hd r.2 nv pl dk (by decide) q fun us dd hl ik fin => wpAny_storeAllH (knd := nestedKind X.prog X.w) (A := X.A) (show X.A.units + 8 < cLine by omega) [(.ref b, w2)] [(k, b, w2)] us s2 _ ⟨rfl, rfl, ik, True.intro⟩ dd hl fun h' tk dd' sb => fin h' tk dd' sb) fun _ s3 ⟨H3, I3, q3⟩ => ⟨V.ref s.heap.objs.size, H3, I3, rfl, q3⟩⟩
/-- d.get(k) -/
def tGetK (K : PySem.W.Frag) (to te : TE) : TE := fun σ H Q => to σ H fun x H1 => (∃ a o, x = .ref a ∧ H1 a = some (DO a o) ∧ o.ExactDict) ∧ te σ H1 fun y H2 => rGetA K x [y] H2 Q
theorem pe_getK {o e : Expr} {to te : TE} {apos cpos : Pos} (hu : X.A.units + 65 < cLine) (ho : PE X o to) (he : PE X e te) (hbase : attributeBase o "get" X.env (eval o X.env) = eval o X.env) (hline : (apos.endLine == cpos.line) = true)
    (hs : starEach [e] X.env = (false, eval e X.env) :: starEach [] X.env) : PE X (.Call (.Attribute o "get" apos) [e] [] cpos) (tGetK X.K to te) := by
  refine ⟨fun pins s σ H Q I h => ?_⟩
  refine wpAny_Call_method_late hbase (by rw [hs]; rfl) hline rfl (thn (ho.run pins s σ H _ I h) fun v s1 ⟨x, H1, I1, r1, ⟨a, ob, ex, ea, xd⟩, q1⟩ => ?_)
  subst ex
  obtain rfl : v = Value.ref a := r1
  have hg := do_at I1.hok ea
  refine ⟨"dict", "dict.get", PySem.F.plainAttrs_dict, PySem.F.slot_dict_get, PySem.F.type_dict_get, ⟨ob, hg, xd.1⟩, fun b z => ?_, ?_⟩
  · cases z
    exact ⟨ob, hg, xd.2.1⟩
  have hA := (pa_cons he pa_nil hs).run cpos pins s1 σ H1 (fun vs H2 => rGetA X.K (V.ref a) vs H2 Q) I1 q1
  rw [hs] at hA ⊢
  refine Calls.callWith_builtin rfl (Calls.evalArgs_plain ?_)
  exact thn hA fun us s2 ⟨vs, H2, I2, r2, q2⟩ => q2.elim (fun q2 => mt_getK hu pins s2 σ H2 (.ref a) vs _ us Q I2 rfl r2 q2) fun q2 => mt_getN hu pins s2 σ H2 (.ref a) vs _ us Q I2 rfl r2 q2
end
/-! ### walks -/
/-- the entries of a dict, by values -/
def EnV (o : Obj) (ks vs : List V) : Prop := ∃ es ep, o.ExactDict ∧ o.data = .dict es ep ∧ es.size = ks.length ∧ vs.length = ks.length ∧ ∀ (i : Nat) (en : DictEntry), es[i]? = some en → ∃ k v, ks[i]? = some k ∧ vs[i]? = some v ∧ RelV k en.key ∧ RelV v en.val
theorem pairs_at {P : Program} {w : World} : ∀ {es : List DictEntry} {vs : List (Int × Value)}, Pairs (intKind P w) es vs → ∀ (i : Nat) (en : DictEntry), es[i]? = some en → ∃ k, vs[i]? = some (k, en.val) ∧ RelV (.int k) en.key
  | _, _, .nil, i, en, h => by simp at h
  | e :: es, kv :: vs, .cons h1 h2 t, 0, en, h => by
    simp only [List.getElem?_cons_zero, Option.some.injEq] at h
    subst h
    refine ⟨kv.1, ?_, ?_⟩
    · rw [List.getElem?_cons_zero, h2]
    · have h1 : Value.isInt kv.1 e.key = true := h1
      obtain ⟨t, e⟩ := Value.isInt_shape h1
      exact ⟨t, e⟩
  | _, _, .cons h1 h2 t, i + 1, en, h => by
    simp only [List.getElem?_cons_succ] at h ⊢
    exact pairs_at t i en h
theorem TabI.env {o : Obj} {kvs : List (Int × V)} (h : TabI o kvs) (P : Program) (w : World) : EnV o (kvs.map fun p => .int p.1) (kvs.map (·.2)) := by
  obtain ⟨_, es, ep, vs, h1, h2, h3, h4, h5, h6⟩ := h
  have hp := h4 P w
  have hl := hp.length
  have hk : kvs.length = vs.length := Paired.length h6
  rw [Array.length_toList] at hl
  refine ⟨es, ep, h1, h2, by rw [List.length_map]; omega, by rw [List.length_map, List.length_map], fun i en he => ?_⟩
  obtain ⟨k, e1, e2⟩ := pairs_at hp i en (by rw [← Array.getElem?_toList] at he; exact he)
  have hi : i < kvs.length := by rw [hk]; exact (List.getElem?_eq_some_iff.mp e1).1
  obtain ⟨b, e3, e4, e5⟩ := paired_get h6 (List.getElem?_eq_getElem hi)
  rw [e1] at e3
  cases e3
  refine ⟨.int k, kvs[i].2, ?_, ?_, e2, e5⟩
  · rw [List.getElem?_map, List.getElem?_eq_getElem hi, Option.map_some, e4]
  · rw [List.getElem?_map, List.getElem?_eq_getElem hi]
    rfl
theorem TabN.env {o : Obj} {kvs : NT} (h : TabN o kvs) (P : Program) (w : World) : EnV o (kvs.map fun p => .ref p.2.1) (kvs.map (·.2.2)) := by
  obtain ⟨_, _, es, ep, us, h1, h2, h3, h5, h6⟩ := h
  have he := h3 P w
  have hs := size_of_entries he
  have hk : kvs.length = us.length := Paired.length h6
  refine ⟨es, ep, h1, h2, by rw [List.length_map]; omega, by rw [List.length_map, List.length_map], fun i en hen => ?_⟩
  have q := entry_at he i
  rw [hen] at q
  cases eu : us[i]? with
  | none => rw [eu] at q; cases q
  | some u =>
    rw [eu] at q
    cases q
    have hi : i < kvs.length := by rw [hk]; exact (List.getElem?_eq_some_iff.mp eu).1
    obtain ⟨b, e3, e4, e5, e6⟩ := paired_get h6 (List.getElem?_eq_getElem hi)
    rw [eu] at e3
    cases e3
    refine ⟨.ref u.2.1, kvs[i].2.2, ?_, ?_, rfl, e6⟩
    · rw [List.getElem?_map, List.getElem?_eq_getElem hi, Option.map_some, e5]
    · rw [List.getElem?_map, List.getElem?_eq_getElem hi]
      rfl
/-- the keys, the dict stays this object -/
def ItE (a : Addr) (o : Obj) (ks : List V) : It := ⟨fun i H => H a = some (DO a o) ∧ i < ks.length, fun i H x H' => H' = H ∧ ks[i]? = some x, fun i H => H a = some (DO a o) ∧ ks.length ≤ i⟩
/-- the pairs, each a new tuple -/
def ItP (a : Addr) (o : Obj) (ks vs : List V) : It :=
  ⟨fun i H => H a = some (DO a o) ∧ i < ks.length, fun i H x H' => ∃ T k v, ks[i]? = some k ∧ vs[i]? = some v ∧ x = .ref T ∧ H T = none ∧ H' = upd H T (.tup [k, v]), fun i H => H a = some (DO a o) ∧ ks.length ≤ i⟩
section
variable {P : Program} {w : World} {K : PySem.W.Frag} {tg : Expr} {d : Addr} {o : Obj} {es : Array DictEntry} {ep : Nat} {ks vs : List V}
theorem turn_keysE (it : Addr) (hod : o.data = .dict es ep) (hsz : es.size = ks.length) (hen : ∀ (i : Nat) (en : DictEntry), es[i]? = some en → ∃ k, ks[i]? = some k ∧ RelV k en.key) : Turn P w K tg (ItE d o ks) [it] it (fun i h => h.IsKeyIter it d i ks.length ep) where
  mem := by simp
  obj := fun i h st b hb => by
    have e : b = it := by simpa using hb
    subst e
    obtain ⟨oi, e, c, dd⟩ := st
    exact ⟨oi, e, fun v z => by rw [dd] at z; cases z⟩
  keep := fun i h h' st k => st.at fun oi e => k it (by simp) oi e
  item := by
    intro X hP hw hK hc i pins s σ H E I hf st hg
    subst hP hw hK
    obtain ⟨hd, hi⟩ := hg
    obtain ⟨f0, f1, f2, f3, f4, f5⟩ := hf it (by simp)
    have hgd := do_at I.hok hd
    have hi2 : i < es.size := by omega
    obtain ⟨k, hk, rk⟩ := hen i es[i] (Array.getElem?_eq_getElem hi2)
    refine next_key_item st hgd hod hsz (Array.getElem?_eq_getElem hi2) fun h' st' sb => ?_
    have I1 : Inv X pins σ H { s with heap := h' } := I.turned (t' := s.toks) (fun b ob hb e => (sb.2 b hb).trans e) f0 f1 f3 f4 f5
    obtain ⟨oi, e, c, dd⟩ := id st'
    exact ⟨es[i].key, rfl, go_of (s := { s with heap := h' }) e c dd (by decide) ⟨k, H, I1, rk, ⟨rfl, hk⟩, st', fun b hb => (hf b hb).1⟩⟩
  done := by
    intro X hP hw hK hc i pins s σ H E I hf st hg
    subst hP hw hK
    obtain ⟨hd, hi⟩ := hg
    obtain ⟨f0, f1, f2, f3, f4, f5⟩ := hf it (by simp)
    exact next_key_end (I.ok.hd hc) st (do_at I.hok hd) hod hsz hi fun h' eb => ⟨rfl, I.turned (t' := s.toks) (fun b ob hb e => eb b ob hb e) f0 f1 f3 f4 f5⟩
  self := fun A i s Q E st h => by
    refine wpAny_pyIter_slot st.typeIs F.slot_dict_keyiterator_iter (wpAny_call_entry F.slot_dict_keyiterator_iter st.typeIs F.entry_dict_keyiterator_iter ?_ (F.args_dict_keyiterator_iter_1 _))
    show wpAny _ _ (ret (.ref it)) _ _ s
    exact wpAny_pure ⟨_, rfl, "dict_keyiterator", _, st.typeIs, F.slot_dict_keyiterator_next.lookup, h⟩
theorem turn_itemsE {elts : List Expr} {kk : Nat} {tpos : Pos} (it : Addr) (hx : o.ExactDict) (hod : o.data = .dict es ep) (hsz : es.size = ks.length) (hen : ∀ (i : Nat) (en : DictEntry), es[i]? = some en → ∃ k v, ks[i]? = some k ∧ vs[i]? = some v ∧ RelV k en.key ∧ RelV v en.val) :
    Turn P w K (.Tuple elts kk tpos) (ItP d o ks vs) [it] it (fun i h => ∃ ok ov, IsItemIter h it d i ks.length ep ok ov) where
  mem := by simp
  obj := fun i h st b hb => by
    have e : b = it := by simpa using hb
    subst e
    obtain ⟨ok, ov, e⟩ := st
    exact ⟨_, e, fun v z => nomatch z⟩
  keep := fun i h h' st k => let ⟨ok, ov, e⟩ := st; ⟨ok, ov, k it (by simp) _ e⟩
  item := by
    intro X hP hw hK hc i pins s σ H E I hf st hg
    subst hP hw hK
    obtain ⟨hd, hi⟩ := hg
    have hgd := do_at I.hok hd
    have hi2 : i < es.size := by omega
    obtain ⟨k, v, hk, hv, rk, rv⟩ := hen i es[i] (Array.getElem?_eq_getElem hi2)
    obtain ⟨ok, ov, he⟩ := st
    rw [← hsz] at he
    have hlt : it < s.heap.objs.size := Heap.lt_size he
    refine wpAny_pyNext_items_item_raw he ⟨o, hgd, hx, hod⟩ hi2 fun h' ho hT hz hkp => ?_
    refine ⟨_, rfl, wpAny_letOwnedTupleGo_items (s := { s with heap := h' }) ho fun h'' he' sb => ?_⟩
    have hT2 : h''.get? s.heap.objs.size = some { cls := .type "tuple", data := .seq #[es[i].key, es[i].val] } := (sb.2 _ (Nat.ne_of_gt hlt)).trans hT
    have new : ObjOk X.prog X.w (upd H s.heap.objs.size (.tup [k, v])) h'' s.heap.objs.size (.tup [k, v]) :=
      ⟨by show 2 ≤ sizeLine; decide, [es[i].key, es[i].val], .cons rk (.cons rv .nil), ⟨_, hT2, rfl, _, rfl⟩⟩
    have I1 : Inv X pins σ (upd H s.heap.objs.size (.tup [k, v])) { s with heap := h'' } :=
      I.turnedNew (t' := s.toks) (ch := [it]) (fun b ob hb e => (sb.2 b (by simpa using hb)).trans (hkp b ob (by simpa using hb) e)) hf (Nat.le_refl _) new
    refine ⟨.ref s.heap.objs.size, _, I1, rfl, ⟨_, k, v, hk, hv, rfl, I.hok.fresh (Nat.le_refl _), rfl⟩, ⟨es[i].key, es[i].val, ?_⟩, fun b hb => ?_⟩
    · rw [← hsz]; exact he'
    · have e : b = it := by simpa using hb
      rw [e, upd_ne (Nat.ne_of_lt hlt)]
      exact (hf it (by simp)).1
  done := by
    intro X hP hw hK hc i pins s σ H E I hf st hg
    subst hP hw hK
    obtain ⟨hd, hi⟩ := hg
    obtain ⟨f0, f1, f2, f3, f4, f5⟩ := hf it (by simp)
    obtain ⟨ok, ov, he⟩ := st
    rw [← hsz] at he
    exact wpAny_pyNext_items_end_raw (I.ok.hd hc) he ⟨o, do_at I.hok hd, hx, hod⟩ (by omega) fun h' eb => ⟨rfl, I.turned (t' := s.toks) (fun b ob hb e => eb b ob hb e) f0 f1 f3 f4 f5⟩
  self := fun A i s Q E st h => let ⟨_, _, e⟩ := st; PySem.W.kcp_self e h
end
def iKeysE (td : TE) : TI := fun σ H R => td σ H fun x H1 => ∃ d o ks vs, x = .ref d ∧ H1 d = some (DO d o) ∧ (d == sysModules) = false ∧ EnV o ks vs ∧ R (ItE d o ks) H1
def iItemsE (td : TE) : TI := fun σ H R => td σ H fun x H1 => ∃ d o ks vs, x = .ref d ∧ H1 d = some (DO d o) ∧ (d == sysModules) = false ∧ EnV o ks vs ∧ R (ItP d o ks vs) H1
section
variable {X : Cx} {tg e : Expr} {td : TE} {apos cpos : Pos}
theorem pi_keysE (he : PE X e td) : PI X tg e (iKeysE td) := by
  refine ⟨fun pins s σ H R I h => ?_⟩
  refine thn (he.run pins s σ H _ I h) fun u s1 ⟨x, H1, I1, rx, d, o, ks, vs, ex, hd, hs, en, q⟩ => ?_
  subst ex
  obtain rfl : u = Value.ref d := rx
  obtain ⟨es, ep, hx, hdt, hsz, hl, hen⟩ := en
  refine iter_keys hs (do_at I1.hok hd) hx hdt (pi_one (tk := s1.toks) I1 _ (turn_keysE _ hdt hsz fun i en h => let ⟨k, _, h1, _, h3, _⟩ := hen i en h; ⟨k, h1, h3⟩) ⟨_, Heap.get?_push_size _ rfl, rfl, ?_⟩ q)
  rw [hsz] <;> rfl
theorem pi_itemsE {elts : List Expr} {kk : Nat} {tpos : Pos} (he : PE X e td) (hbase : attributeBase e "items" X.env (eval e X.env) = eval e X.env := by rfl) (hline : (apos.endLine == cpos.line) = true := by rfl) :
    PI X (.Tuple elts kk tpos) (.Call (.Attribute e "items" apos) [] [] cpos) (iItemsE td) := by
  refine ⟨fun pins s σ H R I h => ?_⟩
  refine wpAny_Call_method (T := "dict") (id := "dict.items") hbase rfl hline F.plainAttrs_dict F.slot_dict_items F.type_dict_items (thn (he.run pins s σ H _ I h) fun u s1 ⟨x, H1, I1, rx, d, o, ks, vs, ex, hd, hs, en, q⟩ => ?_)
  subst ex
  obtain rfl : u = Value.ref d := rx
  obtain ⟨es, ep, hx, hdt, hsz, hl, hen⟩ := en
  have hgd := do_at I1.hok hd
  have hr : s1.heap.DictRaw d es ep := ⟨o, hgd, hx, hdt⟩
  refine ⟨hr.typeIs, fun b z => by cases z; exact ⟨o, hgd, hx.2.1⟩, ?_⟩
  have I2 : Inv X pins σ H1 { s1 with heap := s1.heap.push { cls := .type "dict_items", data := .fields #[.ref d] } } := I1.kept (t' := s1.toks) fun b ob q => Heap.get?_push_of_some _ q
  have fin : wpAny (model X.prog X.w) X.A (pyIter (.ref s1.heap.objs.size)) (PIE X pins σ (.Tuple elts kk tpos) R) X.xe { s1 with heap := s1.heap.push { cls := .type "dict_items", data := .fields #[.ref d] } } := by
    refine wpAny_pyIter_items_raw (d := d) ⟨_, Heap.get?_push_size _ rfl, rfl, rfl⟩ (hr.at fun _ e => Heap.get?_push_of_some _ e) (pi_one (tk := s1.toks) I2 _ (turn_itemsE _ hx hdt hsz hen) ⟨.none, .none, ?_⟩ q)
    rw [← hsz]
    exact Heap.get?_push_size _ rfl
  show wpAny _ _ (callWith cpos (.builtin "dict.items") [.ref d] [] []) _ X.xe s1
  exact method_meetsIn F.slot_dict_items F.entry_dict_items rfl (PySem.evalArgs_none ⟨rfl, hr.typeIs, F.args_dict_items_1 _, _, meets_dict_items_raw d hs, ⟨es, ep, hr⟩, fin⟩)
end
/-! ### dicts and the small language's words -/
theorem lookK_int : ∀ (kvs : List (Int × V)) (vs : List W) (i : Int), vs.length = kvs.length → ∃ o : Option Nat, lookK (kvs.map fun p => W.int p.1) vs (.num i) = o.bind (vs[·]?) ∧ valV kvs i = o.bind fun n => (kvs[n]?).map (·.2)
  | [], vs, i, _ => ⟨none, by cases vs <;> rfl, rfl⟩
  | p :: kvs, [], i, h => by simp at h
  | p :: kvs, v :: vs, i, h => by
    rw [List.map_cons, lookK]
    by_cases e : p.1 = i
    · refine ⟨some 0, ?_, ?_⟩
      · rw [if_pos (by rw [keyN, e])]
        rfl
      · rw [valV_pos e]
        rfl
    · obtain ⟨o, h1, h2⟩ := lookK_int kvs vs i (by simpa using h)
      refine ⟨o.map (· + 1), ?_, ?_⟩
      · rw [if_neg (by rw [keyN]; intro z; cases z; exact e rfl), h1]
        cases o <;> rfl
      · rw [valV_neg e, h2]
        cases o <;> rfl
theorem lookK_nest : ∀ (kvs : NT) (ks vs : List W) (k : NestedKey), ks.map keyN = kvs.map (fun p => some p.1) → vs.length = kvs.length → ∃ o : Option Nat, lookK ks vs k = o.bind (vs[·]?) ∧ valN kvs k = o.bind fun n => (kvs[n]?).map (·.2.2)
  | [], ks, vs, k, h, _ => ⟨none, by cases ks <;> first | rfl | simp at h, rfl⟩
  | p :: kvs, [], vs, k, h, _ => by simp at h
  | p :: kvs, x :: ks, [], k, _, h => by simp at h
  | p :: kvs, x :: ks, v :: vs, k, hk, h => by
    rw [List.map_cons, List.map_cons] at hk
    injection hk with h1 h2
    rw [lookK]
    by_cases e : p.1 = k
    · refine ⟨some 0, ?_, ?_⟩
      · rw [if_pos (by rw [h1, e])]
        rfl
      · rw [valN_pos e]
        rfl
    · obtain ⟨o, q1, q2⟩ := lookK_nest kvs ks vs k h2 (by simpa using h)
      refine ⟨o.map (· + 1), ?_, ?_⟩
      · rw [if_neg (by rw [h1]; intro z; cases z; exact e rfl), q1]
        cases o <;> rfl
      · rw [valN_neg e, q2]
        cases o <;> rfl
mutual
theorem keyN_plain : ∀ {w : W} {k : NestedKey}, keyN w = some k → plainN k = true
  | .int i, k, h => by rw [keyN] at h; cases h; rfl
  | .non, k, h => by rw [keyN] at h; cases h; rfl
  | .tup l, k, h => by
    rw [keyN] at h
    cases e : keyNs l with
    | none => rw [e] at h; cases h
    | some ks =>
      rw [e] at h
      cases h
      rw [plainN]
      exact keyNs_plain e
  | .bl _, k, h => by simp [keyN] at h
  | .str _, k, h => by simp [keyN] at h
  | .lst _, k, h => by simp [keyN] at h
  | .dct _ _, k, h => by simp [keyN] at h
  | .ref _, k, h => by simp [keyN] at h
  | .gl _, k, h => by simp [keyN] at h
  | .scr _, k, h => by simp [keyN] at h
  | .map _ _, k, h => by simp [keyN] at h
theorem keyNs_plain : ∀ {l : List W} {ks : List NestedKey}, keyNs l = some ks → plainNs ks = true
  | [], ks, h => by rw [keyNs] at h; cases h; rfl
  | w :: l, ks, h => by
    rw [keyNs] at h
    cases e : keyN w with
    | none => rw [e] at h; cases h
    | some k =>
      rw [e, Option.bind_some] at h
      cases e2 : keyNs l with
      | none => rw [e2] at h; cases h
      | some r =>
        rw [e2] at h
        cases h
        rw [plainNs, keyN_plain e, keyNs_plain e2]
        rfl
end
end Mi

/-! Worlds, and how trees stand in the heap. -/
namespace Mi
open PySem PySem.Spec PyProof.Rows L2

/-- what is known all along: the addresses of the module's defs and classes, by number; its tables of code objects -/
structure Gm where
  c : Nat → Option Addr
  T : List (Addr × Str)
/-- an object, none of the code objects' -/
structure Here (H : Hp) (a : Addr) : Prop where
  ne : H a ≠ none
  nt : ∀ ps, H a ≠ some (.tbl ps)
  nc : ∀ q, H a ≠ some (LamX.CodeO a q)
theorem code_two (a : Addr) (q : Str) (t : Tok) : ∃ h : Heap, h.get? a = some { cls := .none, data := .fields #[.none, .str q t] } :=
  ⟨({ objs := Array.replicate a default } : Heap).push { cls := .none, data := .fields #[.none, .str q t] }, by
    have := Heap.get?_push_size ({ objs := Array.replicate a default } : Heap) (o := { cls := .none, data := .fields #[.none, .str q t] }) rfl
    rw [show ({ objs := Array.replicate a default } : Heap).objs.size = a from Array.size_replicate] at this
    exact this⟩
theorem do_code {a : Addr} {o : Obj} {q : Str} : DO a o ≠ LamX.CodeO a q := fun e => by
  unfold DO LamX.CodeO at e
  injection e with e
  have at_ : ∀ t : Tok, some ({ cls := .none, data := .fields #[.none, .str q t] } : Obj) = some o := fun t => by
    obtain ⟨h, hh⟩ := code_two a q t
    rw [← hh]
    have : (fun h : Heap => h.get? a = some o) h := by
      rw [e]
      exact ⟨_, _, t, hh, rfl, rfl⟩
    exact this
  have z := (at_ 0).trans (at_ 1).symm
  simp at z
theorem Here.of {H H' : Hp} {a : Addr} (h : Here H a) (e : H' a = H a) : Here H' a := ⟨by rw [e]; exact h.ne, by rw [e]; exact h.nt, by rw [e]; exact h.nc⟩
theorem Here.lst {H : Hp} {a : Addr} {xs : List V} (h : H a = some (.lst xs)) : Here H a := by
  refine ⟨?_, fun ps => ?_, fun q => ?_⟩ <;> rw [h]
  · exact fun z => nomatch z
  · exact fun z => nomatch z
  · unfold LamX.CodeO
    exact fun z => nomatch z
theorem Here.tup {H : Hp} {a : Addr} {xs : List V} (h : H a = some (.tup xs)) : Here H a := by
  refine ⟨?_, fun ps => ?_, fun q => ?_⟩ <;> rw [h]
  · exact fun z => nomatch z
  · exact fun z => nomatch z
  · unfold LamX.CodeO
    exact fun z => nomatch z
theorem Here.dK {H : Hp} {a : Addr} {xs : List (L2.Key × V)} (h : H a = some (.dK xs)) : Here H a := by
  refine ⟨?_, fun ps => ?_, fun q => ?_⟩ <;> rw [h]
  · exact fun z => nomatch z
  · exact fun z => nomatch z
  · unfold LamX.CodeO
    exact fun z => nomatch z
theorem Here.frz {H : Hp} {a : Addr} {o : Obj} {u : HO} (h : H a = some (.frz o u)) : Here H a := by
  refine ⟨?_, fun ps => ?_, fun q => ?_⟩ <;> rw [h]
  · exact fun z => nomatch z
  · exact fun z => nomatch z
  · unfold LamX.CodeO
    exact fun z => nomatch z
theorem Here.do {H : Hp} {a : Addr} {o : Obj} (h : H a = some (DO a o)) : Here H a := by
  refine ⟨?_, fun ps => ?_, fun q => ?_⟩ <;> rw [h]
  · exact fun z => nomatch z
  · unfold DO
    exact fun z => nomatch z
  · exact fun z => do_code (Option.some.inj z)
theorem tabs_none {T : List (Addr × Str)} {H : Hp} {p : Addr} {o : HO} (t : LamX.Tabs T H) (h : H p = none) : LamX.Tabs T (upd H p o) := t.ext fun b o' e => by
  rw [upd_ne (ne_of_none e h)]
  exact e
theorem tabs_upd {T : List (Addr × Str)} {H : Hp} {p : Addr} {o : HO} (t : LamX.Tabs T H) (h : Here H p) : LamX.Tabs T (upd H p o) := fun x hx => by
  obtain ⟨ps, h1, h2, h3⟩ := t x hx
  have n1 : x.1 ≠ p := fun e => h.nt ps (by rw [← e]; exact h1)
  refine ⟨ps, by rw [upd_ne n1]; exact h1, h2, fun pos cv hc => ?_⟩
  obtain ⟨c, e1, e2⟩ := h3 pos cv hc
  have n2 : c ≠ p := fun e => h.nc x.2 (by rw [← e]; exact e2)
  exact ⟨c, e1, by rw [upd_ne n2]; exact e2⟩
/-- where the store's lists stand, what is never changed again, what is a def's own, the abstract heap -/
structure Wd where
  al : List Addr
  F : Addr → Prop
  Ow : Addr → Prop
  H : Hp

/-- a dict that is built up: its keys, their values' and its values' addresses -/
def MapT (K : PySem.W.Frag) (H : Hp) (a : Addr) (ks : List W) (kl vl : List V) : Prop :=
  (∃ kvs, DctI H a kvs ∧ ks = kvs.map (fun p => .int p.1) ∧ kl = kvs.map (fun p => .int p.1) ∧ vl = kvs.map (·.2)) ∨
  ∃ kvs, DctN K H a kvs ∧ ks.map keyN = kvs.map (fun p => some p.1) ∧ kl = kvs.map (fun p => .ref p.2.1) ∧ vl = kvs.map (·.2.2)
theorem MapT.mono {K : PySem.W.Frag} {H H' : Hp} {a : Addr} {ks : List W} {kl vl : List V} (e : H' a = H a) (T : ∀ a xs, SqT K H a xs → SqT K H' a xs) (h : MapT K H a ks kl vl) : MapT K H' a ks kl vl := by
  rcases h with ⟨kvs, ⟨o, h1, h2⟩, h3⟩ | ⟨kvs, ⟨o, h1, h2, h4, h5⟩, h3⟩
  · exact .inl ⟨kvs, ⟨o, e.trans h1, h2⟩, h3⟩
  · exact .inr ⟨kvs, ⟨o, e.trans h1, h2, h4, fun x hx => NV.mono T (h5 x hx)⟩, h3⟩
theorem MapT.ne {K : PySem.W.Frag} {H : Hp} {a : Addr} {ks : List W} {kl vl : List V} (h : MapT K H a ks kl vl) : Here H a := by
  rcases h with ⟨kvs, ⟨o, h1, _⟩, _⟩ | ⟨kvs, ⟨o, h1, _⟩, _⟩ <;> exact .do h1
section
variable (K : PySem.W.Frag) (G : Gm)
mutual
def RW (d : Wd) : W → V → Prop
  | .non, v => v = .non
  | .bl b, v => v = .bl b
  | .int i, v => v = .int i
  | .str s, v => v = .str s
  | .tup l, v => ∃ a xs, v = .ref a ∧ SqT K d.H a xs ∧ RWs d l xs
  | .lst l, v => ∃ a xs, v = .ref a ∧ d.F a ∧ d.H a = some (.lst xs) ∧ RWs d l xs
  | .scr l, v => ∃ a, v = .ref a ∧ ((d.F a ∧ Rd d.H a (.lst (l.map V.int))) ∨ ∀ H, SqL K H a (l.map V.int))
  | .dct ks vs, v => ∃ a kvs, v = .ref a ∧ d.F a ∧ d.H a = some (.dK kvs) ∧ ks = kvs.map (fun p => keyOf p.1) ∧ RWs d vs (kvs.map (·.2))
  | .map ks vs, v => ∃ a kl vl, v = .ref a ∧ d.F a ∧ MapT K d.H a ks kl vl ∧ RWs d ks kl ∧ RWs d vs vl
  | .ref n, v => ∃ a, v = .ref a ∧ d.al[n]? = some a
  | .gl n, v => ∃ a, v = .ref a ∧ G.c n = some a
def RWs (d : Wd) : List W → List V → Prop
  | [], xs => xs = []
  | w :: l, xs => ∃ x r, xs = x :: r ∧ RW d w x ∧ RWs d l r
end
/-- from d to d': what stands in F and in S is kept -/
structure Evo (S : Addr → Prop) (d d' : Wd) : Prop where
  al : ∃ more, d'.al = d.al ++ more
  F : ∀ a, d.F a → d'.F a
  H : ∀ a, d.F a ∨ S a → d'.H a = d.H a
  T : ∀ a xs, SqT K d.H a xs → SqT K d'.H a xs
variable {K G}
theorem Evo.refl {S : Addr → Prop} (d : Wd) : Evo K S d d := ⟨⟨[], by simp⟩, fun _ h => h, fun _ _ => rfl, fun _ _ h => h⟩
theorem Evo.trans {S : Addr → Prop} {d d1 d2 : Wd} (a : Evo K S d d1) (b : Evo K S d1 d2) : Evo K S d d2 := by
  refine ⟨?_, fun x h => b.F x (a.F x h), fun x h => ?_, fun x xs h => b.T x xs (a.T x xs h)⟩
  · obtain ⟨m1, e1⟩ := a.al
    obtain ⟨m2, e2⟩ := b.al
    exact ⟨m1 ++ m2, by rw [e2, e1, List.append_assoc]⟩
  · rw [b.H x (h.imp (a.F x) id), a.H x h]
theorem Evo.sub {S S' : Addr → Prop} {d d' : Wd} (a : Evo K S d d') (h : ∀ x, S' x → S x) : Evo K S' d d' := ⟨a.al, a.F, fun x hx => a.H x (hx.imp id (h x)), a.T⟩
theorem Evo.get {S : Addr → Prop} {d d' : Wd} (e : Evo K S d d') {n : Nat} {a : Addr} (h : d.al[n]? = some a) : d'.al[n]? = some a := by
  obtain ⟨m, e⟩ := e.al
  rw [e, List.getElem?_append_left (List.getElem?_eq_some_iff.mp h).1, h]
theorem Evo.rd {S : Addr → Prop} {d d' : Wd} (e : Evo K S d d') {a : Addr} {u : HO} (hf : d.F a ∨ S a) (h : Rd d.H a u) : Rd d'.H a u := by
  have := e.H a hf
  rcases h with h | ⟨o, h⟩
  · exact .inl (this.trans h)
  · exact .inr ⟨o, this.trans h⟩
mutual
theorem RW.mono {S : Addr → Prop} {d d' : Wd} (e : Evo K S d d') : ∀ {w : W} {v : V}, RW K G d w v → RW K G d' w v
  | .non, _, h => by unfold RW at h ⊢; exact h
  | .bl _, _, h => by unfold RW at h ⊢; exact h
  | .int _, _, h => by unfold RW at h ⊢; exact h
  | .str _, _, h => by unfold RW at h ⊢; exact h
  | .tup l, _, h => by
    unfold RW at h ⊢
    obtain ⟨a, xs, e1, h1, h2⟩ := h
    exact ⟨a, xs, e1, e.T a xs h1, RWs.mono e h2⟩
  | .lst l, _, h => by
    unfold RW at h ⊢
    obtain ⟨a, xs, e1, hf, h1, h2⟩ := h
    exact ⟨a, xs, e1, e.F a hf, (e.H a (.inl hf)).trans h1, RWs.mono e h2⟩
  | .scr l, _, h => by
    unfold RW at h ⊢
    obtain ⟨a, e1, h⟩ := h
    exact ⟨a, e1, h.imp (fun h => ⟨e.F a h.1, e.rd (.inl h.1) h.2⟩) id⟩
  | .dct _ vs, _, h => by
    unfold RW at h ⊢
    obtain ⟨a, kvs, e1, hf, h1, h2, h3⟩ := h
    exact ⟨a, kvs, e1, e.F a hf, (e.H a (.inl hf)).trans h1, h2, RWs.mono e h3⟩
  | .map ks vs, _, h => by
    unfold RW at h ⊢
    obtain ⟨a, kl, vl, e1, hf, h1, h2, h3⟩ := h
    exact ⟨a, kl, vl, e1, e.F a hf, h1.mono (e.H a (.inl hf)) e.T, RWs.mono e h2, RWs.mono e h3⟩
  | .ref n, _, h => by
    unfold RW at h ⊢
    obtain ⟨a, e1, h1⟩ := h
    exact ⟨a, e1, e.get h1⟩
  | .gl n, _, h => by unfold RW at h ⊢; exact h
theorem RWs.mono {S : Addr → Prop} {d d' : Wd} (e : Evo K S d d') : ∀ {l : List W} {xs : List V}, RWs K G d l xs → RWs K G d' l xs
  | [], _, h => by unfold RWs at h ⊢; exact h
  | w :: l, _, h => by
    unfold RWs at h ⊢
    obtain ⟨x, r, e1, h1, h2⟩ := h
    exact ⟨x, r, e1, RW.mono e h1, RWs.mono e h2⟩
end
mutual
/-- flat values lean on tuples alone -/
theorem RW.flat {d d' : Wd} (T : ∀ a xs, SqT K d.H a xs → SqT K d'.H a xs) : ∀ {w : W} {v : V}, Mi.flat w = true → RW K G d w v → RW K G d' w v
  | .non, _, _, h => by unfold RW at h ⊢; exact h
  | .bl _, _, _, h => by unfold RW at h ⊢; exact h
  | .int _, _, _, h => by unfold RW at h ⊢; exact h
  | .str _, _, _, h => by unfold RW at h ⊢; exact h
  | .tup l, _, f, h => by
    unfold RW at h ⊢
    unfold Mi.flat at f
    obtain ⟨a, xs, e1, h1, h2⟩ := h
    exact ⟨a, xs, e1, T a xs h1, RWs.flat T f h2⟩
  | .lst l, _, f, h => by unfold Mi.flat at f; cases f
  | .scr l, _, f, h => by unfold Mi.flat at f; cases f
  | .dct _ _, _, f, h => by unfold Mi.flat at f; cases f
  | .ref n, _, f, h => by unfold Mi.flat at f; cases f
  | .map _ _, _, f, h => by unfold Mi.flat at f; cases f
  | .gl n, _, _, h => by unfold RW at h ⊢; exact h
theorem RWs.flat {d d' : Wd} (T : ∀ a xs, SqT K d.H a xs → SqT K d'.H a xs) : ∀ {l : List W} {xs : List V}, Mi.flats l = true → RWs K G d l xs → RWs K G d' l xs
  | [], _, _, h => by unfold RWs at h ⊢; exact h
  | w :: l, _, f, h => by
    unfold RWs at h ⊢
    unfold Mi.flats at f
    rw [Bool.and_eq_true] at f
    obtain ⟨x, r, e1, h1, h2⟩ := h
    exact ⟨x, r, e1, RW.flat T f.1 h1, RWs.flat T f.2 h2⟩
end
theorem RWs.len {d : Wd} : ∀ {l : List W} {xs : List V}, RWs K G d l xs → xs.length = l.length
  | [], _, h => by unfold RWs at h; rw [h]; rfl
  | w :: l, _, h => by
    unfold RWs at h
    obtain ⟨x, r, e1, h1, h2⟩ := h
    rw [e1, List.length_cons, List.length_cons, RWs.len h2]
theorem RWs.get {d : Wd} : ∀ {l : List W} {xs : List V} {i : Nat} {w : W}, RWs K G d l xs → l[i]? = some w → ∃ v, xs[i]? = some v ∧ RW K G d w v
  | [], _, _, _, _, e => by simp at e
  | w :: l, _, 0, _, h, e => by
    unfold RWs at h
    obtain ⟨x, r, rfl, h1, h2⟩ := h
    simp at e
    subst e
    exact ⟨x, rfl, h1⟩
  | w :: l, _, i + 1, _, h, e => by
    unfold RWs at h
    obtain ⟨x, r, rfl, h1, h2⟩ := h
    simp at e
    obtain ⟨v, e1, e2⟩ := RWs.get h2 e
    exact ⟨v, by simpa using e1, e2⟩
theorem RWs.getV {d : Wd} {l : List W} {xs : List V} {i : Nat} {v : V} (h : RWs K G d l xs) (e : xs[i]? = some v) : ∃ w, l[i]? = some w ∧ RW K G d w v := by
  have hi : i < l.length := by rw [← h.len]; exact (List.getElem?_eq_some_iff.mp e).1
  obtain ⟨v', e1, r⟩ := h.get (List.getElem?_eq_getElem hi)
  rw [e] at e1
  cases e1
  exact ⟨_, List.getElem?_eq_getElem hi, r⟩
theorem RWs.append {d : Wd} : ∀ {l r : List W} {xs ys : List V}, RWs K G d l xs → RWs K G d r ys → RWs K G d (l ++ r) (xs ++ ys)
  | [], _, _, _, h, h2 => by unfold RWs at h; subst h; exact h2
  | w :: l, _, _, _, h, h2 => by
    unfold RWs at h
    obtain ⟨x, r, rfl, h1, h3⟩ := h
    show RWs K G d (w :: (l ++ _)) (x :: (r ++ _))
    unfold RWs
    exact ⟨x, _, rfl, h1, RWs.append h3 h2⟩
theorem RWs.nil {d : Wd} : RWs K G d [] [] := by unfold RWs; rfl
theorem RWs.cons {d : Wd} {w : W} {l : List W} {x : V} {xs : List V} (h : RW K G d w x) (h2 : RWs K G d l xs) : RWs K G d (w :: l) (x :: xs) := by unfold RWs; exact ⟨x, xs, rfl, h, h2⟩
theorem RWs.one {d : Wd} {w : W} {x : V} (h : RW K G d w x) : RWs K G d [w] [x] := .cons h .nil
theorem RWs.take {d : Wd} : ∀ {l : List W} {xs : List V} (n : Nat), RWs K G d l xs → RWs K G d (l.take n) (xs.take n)
  | [], _, n, h => by unfold RWs at h; subst h; simp; exact .nil
  | w :: l, _, 0, h => by simp; exact .nil
  | w :: l, _, n + 1, h => by
    unfold RWs at h
    obtain ⟨x, r, rfl, h1, h2⟩ := h
    exact .cons h1 (RWs.take n h2)
theorem RWs.drop {d : Wd} : ∀ {l : List W} {xs : List V} (n : Nat), RWs K G d l xs → RWs K G d (l.drop n) (xs.drop n)
  | [], _, n, h => by unfold RWs at h; subst h; simp; exact .nil
  | w :: l, _, 0, h => h
  | w :: l, _, n + 1, h => by
    unfold RWs at h
    obtain ⟨x, r, rfl, h1, h2⟩ := h
    exact RWs.drop n h2
theorem RWs.set {d : Wd} {w : W} {v : V} (hw : RW K G d w v) : ∀ {l : List W} {xs : List V} (n : Nat), RWs K G d l xs → RWs K G d (l.set n w) (xs.set n v)
  | [], _, n, h => by unfold RWs at h; subst h; simp; exact .nil
  | _ :: l, _, 0, h => by
    unfold RWs at h
    obtain ⟨x, r, rfl, h1, h2⟩ := h
    exact .cons hw h2
  | _ :: l, _, n + 1, h => by
    unfold RWs at h
    obtain ⟨x, r, rfl, h1, h2⟩ := h
    exact .cons h1 (RWs.set hw n h2)
theorem RWs.reverse {d : Wd} : ∀ {l : List W} {xs : List V}, RWs K G d l xs → RWs K G d l.reverse xs.reverse
  | [], _, h => by unfold RWs at h; subst h; exact .nil
  | w :: l, _, h => by
    unfold RWs at h
    obtain ⟨x, r, rfl, h1, h2⟩ := h
    rw [List.reverse_cons, List.reverse_cons]
    exact .append (RWs.reverse h2) (.one h1)
theorem RWs.flatten {d : Wd} {l : List W} {xs : List V} (h : RWs K G d l xs) : ∀ n, RWs K G d (List.replicate n l).flatten (List.replicate n xs).flatten
  | 0 => by simp; exact .nil
  | n + 1 => by
    rw [List.replicate_succ, List.replicate_succ, List.flatten_cons, List.flatten_cons]
    exact .append h (RWs.flatten h n)

/-! ### worlds that are in order -/
structure Good (d : Wd) : Prop where
  fo : ∀ a, d.Ow a → ¬ d.F a
  af : ∀ a ∈ d.al, ¬ d.F a ∧ ¬ d.Ow a
  nd : d.al.Nodup
  fh : ∀ a, d.F a → Here d.H a
  oh : ∀ a, d.Ow a → Here d.H a
variable (K G) in
structure SimS (s : Sto) (d : Wd) : Prop where
  good : Good d
  len : s.length = d.al.length
  at_ : ∀ (n : Nat) (l : List W), s[n]? = some l → ∃ a xs, d.al[n]? = some a ∧ d.H a = some (.lst xs) ∧ RWs K G d l xs ∧ flats l = true
  tb : LamX.Tabs G.T d.H
variable (K G) in
/-- what a list (dict) of one's own holds -/
def RC (d : Wd) : W → Addr → Prop
  | .lst l, p => ∃ xs, d.H p = some (.lst xs) ∧ RWs K G d l xs
  | .map ks vs, p => ∃ kl vl, MapT K d.H p ks kl vl ∧ RWs K G d ks kl ∧ RWs K G d vs vl
  | _, _ => False
theorem RC.ne {d : Wd} {w : W} {p : Addr} (h : RC K G d w p) : Here d.H p := by
  cases w with
  | lst l =>
    obtain ⟨xs, h1, _⟩ := h
    exact .lst h1
  | map ks vs =>
    obtain ⟨kl, vl, h1, _⟩ := h
    exact h1.ne
  | _ => exact h.elim
theorem RC.mono {S : Addr → Prop} {d d' : Wd} (e : Evo K S d d') {w : W} {p : Addr} (hp : S p) (h : RC K G d w p) : RC K G d' w p := by
  cases w with
  | lst l =>
    obtain ⟨xs, h1, h2⟩ := h
    exact ⟨xs, (e.H p (.inr hp)).trans h1, h2.mono e⟩
  | map ks vs =>
    obtain ⟨kl, vl, h1, h2, h3⟩ := h
    exact ⟨kl, vl, h1.mono (e.H p (.inr hp)) e.T, h2.mono e, h3.mono e⟩
  | _ => exact h.elim
variable (K G) in
structure SimE (Ob : Addr → Prop) (env : Env) (d : Wd) (σ : L2.St) : Prop where
  len : env.length = σ.length
  val : ∀ (i : Nat) (w : W), env[i]? = some (.val w) → ∃ v, σ[i]? = some (some v) ∧ RW K G d w v
  own : ∀ (i : Nat) (w : W), env[i]? = some (.own w) → ∃ p, σ[i]? = some (some (.ref p)) ∧ d.Ow p ∧ ¬ Ob p ∧ RC K G d w p
  sep : ∀ (i j : Nat) (wi wj : W) (p : Addr), env[i]? = some (.own wi) → env[j]? = some (.own wj) → σ[i]? = some (some (.ref p)) → σ[j]? = some (some (.ref p)) → i = j
  ob : ∀ p, Ob p → d.Ow p
theorem SimE.mono {Ob : Addr → Prop} {env : Env} {d d' : Wd} {σ : L2.St} (h : SimE K G Ob env d σ) (e : Evo K d.Ow d d') (eo : d'.Ow = d.Ow) : SimE K G Ob env d' σ := by
  refine ⟨h.len, fun i w hi => ?_, fun i w hi => ?_, h.sep, fun p hp => ?_⟩
  · obtain ⟨v, e1, r⟩ := h.val i w hi
    exact ⟨v, e1, r.mono e⟩
  · obtain ⟨p, e1, o, nb, r⟩ := h.own i w hi
    exact ⟨p, e1, by rw [eo]; exact o, nb, r.mono e o⟩
  · rw [eo]; exact h.ob p hp

/-! ### outcomes -/
variable (K G) in
/-- an exception, as it flies -/
def RX (x : Exn) (cls : Value) (dd : Option Addr) (d : Wd) : Prop :=
  ∃ a, G.c x.cls = some a ∧ cls = .ref a ∧ match x.fld with
    | none => dd = none
    | some (f, w) => ∃ p v, dd = some p ∧ d.H p = some (.xd [(f, v)]) ∧ RW K G d w v ∧ flat w = true
variable (K G) in
/-- what is wanted of an outcome: S is kept on the way -/
def Oks (S : Addr → Prop) {α : Type} (d : Wd) (Q : α → Sto → Wd → Prop) (X : Value → Option Addr → Wd → Prop) : Out α → Prop
  | .ok a s' => ∀ d', Evo K S d d' → d'.Ow = d.Ow → SimS K G s' d' → Q a s' d'
  | .ex x s' => ∀ d' cls dd, Evo K S d d' → d'.Ow = d.Ow → SimS K G s' d' → RX K G x cls dd d' → X cls dd d'
  | .no => False
theorem Oks.weak {S : Addr → Prop} {α : Type} {d d1 : Wd} {Q : α → Sto → Wd → Prop} {X : Value → Option Addr → Wd → Prop} {o : Out α} (h : Oks K G S d Q X o) (e : Evo K S d d1) (eo : d1.Ow = d.Ow) : Oks K G S d1 Q X o := by
  cases o with
  | ok a s => exact fun d' e' eo' ss => h d' (e.trans e') (eo'.trans eo) ss
  | ex x s => exact fun d' cls dd e' eo' ss r => h d' cls dd (e.trans e') (eo'.trans eo) ss r
  | no => exact h
theorem Oks.bind {S : Addr → Prop} {α β : Type} {d : Wd} {Q : β → Sto → Wd → Prop} {X : Value → Option Addr → Wd → Prop} {o : Out α} {f : α → Sto → Out β} (h : Oks K G S d Q X (o.bind f)) :
    Oks K G S d (fun a s1 d1 => Oks K G S d1 Q X (f a s1)) X o := by
  cases o with
  | ok a s => exact fun d' e' eo' ss => Oks.weak h e' eo'
  | ex x s => exact h
  | no => exact h
theorem Oks.imp {S : Addr → Prop} {α : Type} {d : Wd} {Q Q' : α → Sto → Wd → Prop} {X : Value → Option Addr → Wd → Prop} {o : Out α} (h : Oks K G S d Q X o) (hi : ∀ a s' d', Evo K S d d' → d'.Ow = d.Ow → SimS K G s' d' → Q a s' d' → Q' a s' d') : Oks K G S d Q' X o := by
  cases o with
  | ok a s => exact fun d' e' eo' ss => hi a s d' e' eo' ss (h d' e' eo' ss)
  | ex x s => exact h
  | no => exact h
theorem Oks.of {S : Addr → Prop} {α : Type} {d : Wd} {s : Sto} {Q : α → Sto → Wd → Prop} {X : Value → Option Addr → Wd → Prop} {o : Option α} (h : Oks K G S d Q X (.of o s)) : ∃ a, o = some a ∧ Oks K G S d Q X (.ok a s) := by
  cases o with
  | none => exact h.elim
  | some a => exact ⟨a, rfl, h⟩
theorem Oks.of_bind {S : Addr → Prop} {α β : Type} {d : Wd} {s : Sto} {Q : β → Sto → Wd → Prop} {X : Value → Option Addr → Wd → Prop} {o : Option α} {f : α → Sto → Out β} (h : Oks K G S d Q X ((Out.of o s).bind f)) : ∃ a, o = some a ∧ Oks K G S d Q X (f a s) := by
  cases o with
  | none => exact h.elim
  | some a => exact ⟨a, rfl, h⟩
end
end Mi

/-! Expressions: what the small language says of them holds of the model. -/
namespace Mi
open PySem PySem.Spec PyProof.Rows L2
theorem PE.imp {X : Cx} {e : Expr} {t t' : TE} (h : PE X e t) (i : ∀ σ H Q, t' σ H Q → t σ H Q) : PE X e t' := ⟨fun pins s σ H Q I hq => h.run pins s σ H Q I (i σ H Q hq)⟩
theorem PT.imp {X : Cx} {e : Expr} {t t' : TT} (h : PT X e t) (i : ∀ σ H Q, t' σ H Q → t σ H Q) : PT X e t' := ⟨fun pins s σ H Q I hq => h.run pins s σ H Q I (i σ H Q hq)⟩
theorem PA.imp {X : Cx} {e : List Expr} {t t' : TA} (h : PA X e t) (i : ∀ σ H Q, t' σ H Q → t σ H Q) : PA X e t' := ⟨fun pos pins s σ H Q I hq => h.run pos pins s σ H Q I (i σ H Q hq)⟩
theorem PS.imp {X : Cx} {e : Stmt} {t t' : TS} (h : PS X e t) (i : ∀ D σ H, t' D σ H → t D σ H) : PS X e t' := ⟨fun pins s σ H D I hq => h.run pins s σ H D I (i D σ H hq)⟩
theorem PSs.imp {X : Cx} {e : List Stmt} {t t' : TS} (h : PSs X e t) (i : ∀ D σ H, t' D σ H → t D σ H) : PSs X e t' := ⟨fun pins s σ H D I hq => h.run pins s σ H D I (i D σ H hq)⟩
abbrev EV := Env → Sto → Out W
section
variable (K : PySem.W.Frag) (G : Gm) (Z : WX)
/-- the reading of an outcome: m ends well from every state that env, s tell -/
def tG {α β : Type} (R : Wd → α → β → Prop) (m : Env → Sto → Out α) : L2.St → Hp → (β → Hp → Prop) → Prop := fun σ H Q =>
  ∃ env s d Ob, d.H = H ∧ SimE K G Ob env d σ ∧ SimS K G s d ∧ Oks K G d.Ow d (fun w _ d' => ∀ v, R d' w v → Q v d'.H) (fun cls dd d' => Z cls dd σ d'.H) (m env s)
/-- a value that is only read: a list of the def's own, too -/
def RR (d : Wd) (w : W) (v : V) : Prop := RW K G d w v ∨ ∃ p, v = .ref p ∧ d.Ow p ∧ RC K G d w p
/-- a new list, not known elsewhere -/
def RN (d : Wd) (w : W) (v : V) : Prop := ∃ p, v = .ref p ∧ ¬ d.F p ∧ ¬ d.Ow p ∧ p ∉ d.al ∧ RC K G d w p
def RB (_ : Wd) (w : W) (b : Bool) : Prop := w = .bl b
abbrev tE : EV → TE := tG K G Z (RW K G)
abbrev tR : EV → TE := tG K G Z (RR K G)
abbrev tN : EV → TE := tG K G Z (RN K G)
abbrev tL (m : Env → Sto → Out (List W)) : TA := tG K G Z (RWs K G) m
abbrev tT : EV → TT := tG K G Z RB
end
section
variable {X : Cx} {G : Gm} {Z : WX}
/-- from where one stands -/
theorem tG.go {K : PySem.W.Frag} {α β : Type} {R : Wd → α → β → Prop} {m : Env → Sto → Out α} {env : Env} {s : Sto} {d : Wd} {Ob : Addr → Prop} {σ : L2.St} {Q : β → Hp → Prop} (hE : SimE K G Ob env d σ) (hS : SimS K G s d)
    (h : Oks K G d.Ow d (fun w _ d' => ∀ v, R d' w v → Q v d'.H) (fun cls dd d' => Z cls dd σ d'.H) (m env s)) : tG K G Z R m σ d.H Q := ⟨env, s, d, Ob, rfl, hE, hS, h⟩
/-- .. a first part, then the rest -/
theorem tG.step {K : PySem.W.Frag} {α β γ : Type} {R : Wd → α → β → Prop} {m : Env → Sto → Out α} {f : α → Sto → Out γ} {env : Env} {s : Sto} {d : Wd} {Ob : Addr → Prop} {σ : L2.St} {Q : β → Hp → Prop} {P : γ → Sto → Wd → Prop} (hE : SimE K G Ob env d σ) (hS : SimS K G s d)
    (h : Oks K G d.Ow d P (fun cls dd d' => Z cls dd σ d'.H) ((m env s).bind f))
    (k : ∀ a s1 d1, SimE K G Ob env d1 σ → SimS K G s1 d1 → Evo K d.Ow d d1 → d1.Ow = d.Ow → Oks K G d1.Ow d1 P (fun cls dd d' => Z cls dd σ d'.H) (f a s1) → ∀ v, R d1 a v → Q v d1.H) : tG K G Z R m σ d.H Q :=
  tG.go hE hS (Oks.imp (Oks.bind h) fun a s1 d1 e eo ss h1 v r => k a s1 d1 (hE.mono e eo) ss e eo (by rw [eo]; exact h1) v r)
theorem Oks.now {K : PySem.W.Frag} {S : Addr → Prop} {α : Type} {d : Wd} {a : α} {s : Sto} {Q : α → Sto → Wd → Prop} {Y : Value → Option Addr → Wd → Prop} (h : Oks K G S d Q Y (.ok a s)) (hS : SimS K G s d) : Q a s d := h d (.refl d) rfl hS
/-- the heap has one object more, told to be frozen -/
theorem SimS.fresh {K : PySem.W.Frag} {s : Sto} {d : Wd} {p : Addr} {o : HO} (h : SimS K G s d) (hp : d.H p = none) (f : Bool) (ho : ∀ H : Hp, H p = some o → Here H p := by first | exact fun _ e => .lst e | exact fun _ e => .tup e | exact fun _ e => .dK e | exact fun _ e => .do e) :
    Evo K d.Ow d { d with H := upd d.H p o, F := fun a => d.F a ∨ (f = true ∧ a = p) } ∧ SimS K G s { d with H := upd d.H p o, F := fun a => d.F a ∨ (f = true ∧ a = p) } := by
  have nF : ∀ a, d.F a → a ≠ p := fun a ha e => (h.good.fh a ha).ne (e ▸ hp)
  have nO : ∀ a, d.Ow a → a ≠ p := fun a ha e => (h.good.oh a ha).ne (e ▸ hp)
  have nA : ∀ a ∈ d.al, a ≠ p := fun a ha e => by
    obtain ⟨n, hn⟩ := List.getElem?_of_mem ha
    have hl : n < s.length := by rw [h.len]; exact (List.getElem?_eq_some_iff.mp hn).1
    obtain ⟨b, xs, e1, e2, _⟩ := h.at_ n _ (List.getElem?_eq_getElem hl)
    rw [hn] at e1
    cases e1
    rw [e, hp] at e2
    cases e2
  have T : ∀ a xs, SqT K d.H a xs → SqT K (upd d.H p o) a xs := fun a xs ht => by
    rcases ht with ht | ht
    · refine .inl ?_
      rcases ht with ht | ⟨u, ht⟩
      · exact .inl (by rw [upd_ne (ne_of_none ht hp)]; exact ht)
      · exact .inr ⟨u, by rw [upd_ne (ne_of_none ht hp)]; exact ht⟩
    · exact .inr ht
  have ev : Evo K d.Ow d { d with H := upd d.H p o, F := fun a => d.F a ∨ (f = true ∧ a = p) } :=
    ⟨⟨[], by simp⟩, fun a ha => .inl ha, fun a ha => upd_ne (ha.elim (nF a) (nO a)), T⟩
  refine ⟨ev, ⟨⟨fun a ha hf => ?_, fun a ha => ⟨fun hf => ?_, (h.good.af a ha).2⟩, h.good.nd, fun a ha => ?_, fun a ha => ?_⟩, h.len, fun n l hn => ?_, tabs_none h.tb hp⟩⟩
  · rcases hf with hf | ⟨_, hf⟩
    · exact h.good.fo a ha hf
    · exact nO a ha hf
  · rcases hf with hf | ⟨_, hf⟩
    · exact (h.good.af a ha).1 hf
    · exact nA a ha hf
  · show Here (upd d.H p o) a
    rcases ha with ha | ⟨_, ha⟩
    · exact (h.good.fh a ha).of (upd_ne (nF a ha))
    · rw [ha]
      exact ho _ upd_same
  · show Here (upd d.H p o) a
    exact (h.good.oh a ha).of (upd_ne (nO a ha))
  · obtain ⟨a, xs, e1, e2, e3, e4⟩ := h.at_ n l hn
    exact ⟨a, xs, e1, by show upd d.H p o a = _; rw [upd_ne (nA a (List.mem_of_getElem? e1))]; exact e2, e3.mono ev, e4⟩
/-- a new list that is let stand -/
theorem SimS.keep {K : PySem.W.Frag} {s : Sto} {d : Wd} {p : Addr} (h : SimS K G s d) (hp : Here d.H p) (hF : ¬ d.F p) (hO : ¬ d.Ow p) (hA : p ∉ d.al) :
    Evo K d.Ow d { d with F := fun a => d.F a ∨ a = p } ∧ SimS K G s { d with F := fun a => d.F a ∨ a = p } := by
  have ev : Evo K d.Ow d { d with F := fun a => d.F a ∨ a = p } := ⟨⟨[], by simp⟩, fun a ha => .inl ha, fun _ _ => rfl, fun _ _ ht => ht⟩
  refine ⟨ev, ⟨⟨fun a ha hf => ?_, fun a ha => ⟨fun hf => ?_, (h.good.af a ha).2⟩, h.good.nd, fun a ha => ?_, h.good.oh⟩, h.len, fun n l hn => ?_, h.tb⟩⟩
  · rcases hf with hf | rfl
    · exact h.good.fo a ha hf
    · exact hO ha
  · rcases hf with hf | rfl
    · exact (h.good.af a ha).1 hf
    · exact hA ha
  · rcases ha with ha | rfl
    · exact h.good.fh a ha
    · exact hp
  · obtain ⟨a, xs, e1, e2, e3, e4⟩ := h.at_ n l hn
    exact ⟨a, xs, e1, e2, e3.mono ev, e4⟩
/-- a new list, as a value -/
theorem of_new {e : Expr} {m : EV} (h : PE X e (tN X.K G Z m)) : PE X e (tE X.K G Z m) := PE.imp h fun σ H Q hq => by
  obtain ⟨env, s, d, Ob, rfl, hE, hS, ho⟩ := hq
  refine tG.go hE hS ?_
  revert ho
  cases m env s with
  | no => exact id
  | ex x s' => exact id
  | ok w s' =>
    intro ho d' ev eo ss v hv
    obtain ⟨p, rfl, hF, hO, hA, rc⟩ := hv
    obtain ⟨e1, s1⟩ := ss.keep rc.ne hF hO hA
    refine ho { d' with F := fun a => d'.F a ∨ a = p } (ev.trans (by rw [← eo]; exact e1)) eo s1 _ ?_
    cases w with
    | lst l =>
      obtain ⟨xs, hp, hr⟩ := rc
      unfold RW
      exact ⟨p, xs, rfl, .inr rfl, hp, hr.mono e1⟩
    | map ks vs =>
      obtain ⟨kl, vl, hp, h2, h3⟩ := rc
      unfold RW
      exact ⟨p, kl, vl, rfl, .inr rfl, hp, h2.mono e1, h3.mono e1⟩
    | _ => exact rc.elim

/-! ### names and constants -/
theorem se_var {C : CallI} {i : Nat} {x : Str} {pos : Pos} (hN : X.N[i]? = some x) (hv : Vis X.env.scope x) (hd : (x == ("__debug__" : Str)) = false) (hcd : (x == ("__classdict__" : Str)) = false) : PE X (.Name x pos) (tE X.K G Z (evalE C (.var i))) :=
  PE.imp (pe_var hN hv hd hcd) fun σ H Q hq => by
    obtain ⟨env, s, d, Ob, rfl, hE, hS, ho⟩ := hq
    unfold evalE at ho
    revert ho
    cases e : env[i]? with
    | none => exact fun z => z.elim
    | some o => cases o with
      | emp => exact fun z => z.elim
      | own w => exact fun z => z.elim
      | val w =>
        intro ho
        obtain ⟨v, e1, r⟩ := hE.val i w e
        exact ⟨v, e1, ho.now hS v r⟩
/-- a name that is only read -/
theorem sr_var {C : CallI} {i : Nat} {x : Str} {pos : Pos} (hN : X.N[i]? = some x) (hv : Vis X.env.scope x) (hd : (x == ("__debug__" : Str)) = false) (hcd : (x == ("__classdict__" : Str)) = false) : PE X (.Name x pos) (tR X.K G Z fun env s => rdv env (.var i) s (evalE C (.var i) env s)) :=
  PE.imp (pe_var hN hv hd hcd) fun σ H Q hq => by
    obtain ⟨env, s, d, Ob, rfl, hE, hS, ho⟩ := hq
    cases e : env[i]? with
    | none => simp only [rdv, evalE, e] at ho; exact ho.elim
    | some o => cases o with
      | emp => simp only [rdv, evalE, e] at ho; exact ho.elim
      | own w =>
        simp only [rdv, evalE, e] at ho
        obtain ⟨p, e1, ow, _, r⟩ := hE.own i w e
        refine ⟨.ref p, e1, ho.now hS _ ?_⟩
        exact .inr ⟨p, rfl, ow, r⟩
      | val w =>
        simp only [rdv, evalE, e] at ho
        obtain ⟨v, e1, r⟩ := hE.val i w e
        exact ⟨v, e1, ho.now hS v (.inl r)⟩
/-- any other expression that is only read -/
theorem sr_of {C : CallI} {e : Expr} {a : Ex} (hn : ∀ i, a ≠ .var i) (h : PE X e (tE X.K G Z (evalE C a))) : PE X e (tR X.K G Z fun env s => rdv env a s (evalE C a env s)) := PE.imp h fun σ H Q hq => by
  obtain ⟨env, s, d, Ob, rfl, hE, hS, ho⟩ := hq
  refine tG.go hE hS ?_
  have : rdv env a s (evalE C a env s) = evalE C a env s := by
    cases a with
    | var i => exact absurd rfl (hn i)
    | _ => rfl
  simp only [this] at ho
  exact Oks.imp ho fun w s' d' _ _ _ h v r => h v (.inl r)
theorem se_cst {C : CallI} {e : Expr} {w : W} {v : V} (h : PE X e (tC v)) (r : ∀ d, RW X.K G d w v) : PE X e (tE X.K G Z (evalE C (.cst w))) := PE.imp h fun σ H Q hq => by
  obtain ⟨env, s, d, Ob, rfl, hE, hS, ho⟩ := hq
  unfold evalE at ho
  exact ho.now hS v (r d)

/-! ### operators -/
theorem tuple_mul1 (l : Addr) (items : Array Value) (n : Nat) (dd : Option Addr) (sl : Array (Option Value)) (u : Tok) :
    Meets (Builtin.«tuple.__mul__» ⟨[.ref l, .int 1 u], []⟩) (fun _ R s => s.heap.get? l = some { cls := .type "tuple", dict := dd, data := .seq items n, slots := sl } ∧ R (.ok (.ret (Value.ref l))) s) :=
  .of_wp fun prog w A R s h => by
    obtain ⟨hp, g, d, tk, os⟩ := s
    obtain ⟨hl, h⟩ := h
    have f1 := AutoSeq1.idx_int
    wp_walk using wpAny_loadPart' hl
    repeat (first
      | (refine wpAny_ite_false (by decide) ?_; wp_walk using wpAny_loadPart' hl)
      | (refine wpAny_ite_true (by simp) ?_; wp_walk using wpAny_loadPart' hl))
    exact ⟨_, rfl, h⟩
/-- a tuple once: the same -/
def rRep1 (K : PySem.W.Frag) : R2 := fun x y H Q => ∃ l xs, x = .ref l ∧ y = .int 1 ∧ SqT K H l xs ∧ Q (.ref l) H
theorem op_rep1 : OpR X (binaryOp .Mult) (rRep1 X.K) := by
  intro pins s σ H x y v u Q I rx ry h
  obtain ⟨l, xs, rfl, rfl, hT, q⟩ := h
  cases rx
  obtain ⟨t, rfl⟩ := ry
  obtain ⟨its, r, ⟨⟨cls, dd, data, sl⟩, ho, hc, n, hd⟩, hs⟩ := I.tuple hT
  simp only at hc hd
  subst hc hd
  refine wpAny_binaryOp_repeat_ref (T := "tuple") (U := "int") (by decide) ⟨_, ho, rfl⟩ (fun s' => typeIs_int s' 1 t) noFill_tuple_mul F.fills_int_mul F.slot_int_rmul repeat_tuple F.slot_int_index.lookup
    (call_meets F.slot_int_rmul (typeIs_int s 1 t) F.entry_int_rmul (F.args_int_rmul_2 _ _) (int_rmul_tuple 1 t l its.toArray n dd sl)
      ⟨ho, rfl, ⟨_, ho, rfl⟩, call_meets F.slot_tuple_mul ⟨_, ho, rfl⟩ F.entry_tuple_mul (F.args_tuple_mul_2 _ _) (tuple_mul1 l its.toArray n dd sl t) ⟨ho, ?_⟩⟩)
  exact ⟨.ref l, H, I, rfl, q⟩
def opOf : Bop → Operator
  | .add => .Add
  | .sub => .Sub
  | .mul => .Mult
  | .fdiv => .FloorDiv
  | .mod => .Mod
  | .pow => .Pow
theorem RW.int {K : PySem.W.Frag} {d : Wd} {i : Int} {v : V} (h : RW K G d (.int i) v) : v = .int i := by unfold RW at h; exact h
theorem RW.bl {K : PySem.W.Frag} {d : Wd} {i : Bool} {v : V} (h : RW K G d (.bl i) v) : v = .bl i := by unfold RW at h; exact h
theorem RW.mkI {K : PySem.W.Frag} {d : Wd} {i : Int} : RW K G d (.int i) (.int i) := by unfold RW; rfl
theorem RW.mkB {K : PySem.W.Frag} {d : Wd} {i : Bool} : RW K G d (.bl i) (.bl i) := by unfold RW; rfl
theorem RW.mkT {K : PySem.W.Frag} {d : Wd} {l : List W} {a : Addr} {xs : List V} (h : SqT K d.H a xs) (r : RWs K G d l xs) : RW K G d (.tup l) (.ref a) := by unfold RW; exact ⟨a, xs, rfl, h, r⟩
theorem RW.tup {K : PySem.W.Frag} {d : Wd} {l : List W} {v : V} (h : RW K G d (.tup l) v) : ∃ a xs, v = .ref a ∧ SqT K d.H a xs ∧ RWs K G d l xs := by unfold RW at h; exact h
theorem RW.lst {K : PySem.W.Frag} {d : Wd} {l : List W} {v : V} (h : RW K G d (.lst l) v) : ∃ a xs, v = .ref a ∧ d.F a ∧ d.H a = some (.lst xs) ∧ RWs K G d l xs := by unfold RW at h; exact h
/-- a new tuple -/
theorem new_tup {K : PySem.W.Frag} {s : Sto} {d : Wd} {p : Addr} {l : List W} {xs : List V} {Y : Value → Option Addr → Wd → Prop} {Q : V → Hp → Prop} (hS : SimS K G s d) (hp : d.H p = none) (r : RWs K G d l xs)
    (h : Oks K G d.Ow d (fun w _ d' => ∀ v, RW K G d' w v → Q v d'.H) Y (.ok (.tup l) s)) : Q (.ref p) (upd d.H p (.tup xs)) := by
  obtain ⟨e1, s1⟩ := hS.fresh (o := .tup xs) hp false
  exact h _ e1 rfl s1 (.ref p) (.mkT (.inl (.inl upd_same)) (r.mono e1))
theorem wid_ok {i j : Int} (h : (wid i || wid j) = true) : CMul i j := by
  rw [Bool.or_eq_true] at h
  unfold wid at h
  rcases h with h | h
  · exact .inl (of_decide_eq_true h)
  · exact .inr (of_decide_eq_true h)
/-- the rule of an operator, by the outcome of bop -/
theorem bop_ok (o : Bop) : ∃ r : R2, OpR X (binaryOp (opOf o)) r ∧ ∀ (s : Sto) (d : Wd) (x y w : W) (vx vy : V) (Q : VK) (Y : Value → Option Addr → Wd → Prop), SimS X.K G s d → RW X.K G d x vx → RW X.K G d y vy → bop o x y = some w →
    Oks X.K G d.Ow d (fun w _ d' => ∀ v, RW X.K G d' w v → Q v d'.H) Y (.ok w s) → r vx vy d.H Q := by
  cases o with
  | add =>
    refine ⟨_, OpR.or (OpR.or op_add (OpR.or op_catA op_cat)) op_add_str, fun s d x y w vx vy Q Y hS rx ry hb h => ?_⟩
    by_cases hst : ∃ p q, x = .str p ∧ y = .str q
    · obtain ⟨p, q, rfl, rfl⟩ := hst
      simp only [bop] at hb
      split at hb
      · rename_i hl
        cases hb
        refine .inr ⟨p, q, by unfold RW at rx; exact rx, by unfold RW at ry; exact ry, Nat.le_trans hl (by decide), h.now hS _ (by unfold RW; rfl)⟩
      · cases hb
    refine .inl ?_
    cases x with
    | str p => cases y with
      | str q => exact absurd ⟨p, q, rfl, rfl⟩ hst
      | _ => cases hb
    | int i => cases y with
      | int j =>
        cases hb
        exact .inl ⟨i, j, rx.int, ry.int, h.now hS _ .mkI⟩
      | _ => cases hb
    | tup l => cases y with
      | tup r =>
        simp only [bop] at hb
        split at hb
        · rename_i hl
          cases hb
          obtain ⟨a, xs, rfl, t1, r1⟩ := rx.tup
          obtain ⟨b, ys, rfl, t2, r2⟩ := ry.tup
          refine .inr (.inl ⟨a, b, xs, ys, rfl, rfl, t1, t2, ?_, fun e => ?_, fun _ e => ?_, fun _ _ p hp => new_tup hS hp (r1.append r2) h⟩)
          · rw [r1.len, r2.len]
            exact Nat.le_trans hl (by decide)
          · subst e
            have e2 : l = [] := List.eq_nil_of_length_eq_zero (by rw [← r1.len]; rfl)
            subst e2
            exact h.now hS _ (.mkT t2 r2)
          · subst e
            have e2 : r = [] := List.eq_nil_of_length_eq_zero (by rw [← r2.len]; rfl)
            subst e2
            rw [List.append_nil] at h
            exact h.now hS _ (.mkT t1 r1)
        · cases hb
      | _ => cases hb
    | lst l => cases y with
      | lst r =>
        simp only [bop] at hb
        split at hb
        · rename_i hl
          cases hb
          obtain ⟨a, xs, rfl, _, t1, r1⟩ := rx.lst
          obtain ⟨b, ys, rfl, _, t2, r2⟩ := ry.lst
          refine .inr (.inr ⟨a, b, xs, ys, rfl, rfl, t1, t2, ?_, fun p hp => ?_⟩)
          · rw [r1.len, r2.len]
            exact Nat.le_trans hl (by decide)
          · obtain ⟨e1, s1⟩ := hS.fresh (o := .lst (xs ++ ys)) hp true
            refine h _ e1 rfl s1 (.ref p) ?_
            unfold RW
            exact ⟨p, _, rfl, .inr ⟨rfl, rfl⟩, upd_same, (r1.append r2).mono e1⟩
        · cases hb
      | _ => cases hb
    | _ => cases y <;> cases hb
  | sub =>
    refine ⟨_, op_sub, fun s d x y w vx vy Q Y hS rx ry hb h => ?_⟩
    cases x with
    | int i => cases y with
      | int j =>
        cases hb
        exact ⟨i, j, rx.int, ry.int, h.now hS _ .mkI⟩
      | _ => cases hb
    | _ => cases y <;> cases hb
  | mul =>
    refine ⟨_, OpR.or op_mul (OpR.or op_rep1 op_repT), fun s d x y w vx vy Q Y hS rx ry hb h => ?_⟩
    cases x with
    | int i => cases y with
      | int j =>
        simp only [bop] at hb
        split at hb
        · rename_i hl
          cases hb
          exact .inl ⟨i, j, rx.int, ry.int, wid_ok hl, h.now hS _ .mkI⟩
        · cases hb
      | _ => cases hb
    | tup l => cases y with
      | int n =>
        simp only [bop] at hb
        split at hb
        · rename_i hl
          obtain ⟨h1, h2, h3, h4⟩ := hl
          cases hb
          obtain ⟨a, xs, rfl, ht, r⟩ := rx.tup
          by_cases hn : n = 1
          · subst hn
            refine .inr (.inl ⟨a, xs, rfl, ry.int, ht, ?_⟩)
            have : (List.replicate (1 : Int).toNat l).flatten = l := by simp
            rw [this] at h
            exact h.now hS _ (.mkT ht r)
          · refine .inr (.inr ⟨a, n, xs, rfl, ry.int, ht, ?_, by omega, h2, by rw [r.len]; exact h3, fun p hp => new_tup hS hp (r.flatten _) h⟩)
            intro e
            subst e
            have e2 : l = [] := List.eq_nil_of_length_eq_zero (by rw [← r.len]; rfl)
            subst e2
            cases h4
        · cases hb
      | _ => cases hb
    | _ => cases y <;> cases hb
  | fdiv =>
    refine ⟨_, op_fdiv, fun s d x y w vx vy Q Y hS rx ry hb h => ?_⟩
    cases x with
    | int i => cases y with
      | int j =>
        simp only [bop] at hb
        split at hb
        · rename_i hl
          cases hb
          exact ⟨i, j, rx.int, ry.int, hl, h.now hS _ .mkI⟩
        · cases hb
      | _ => cases hb
    | _ => cases y <;> cases hb
  | mod =>
    refine ⟨_, op_mod, fun s d x y w vx vy Q Y hS rx ry hb h => ?_⟩
    cases x with
    | int i => cases y with
      | int j =>
        simp only [bop] at hb
        split at hb
        · rename_i hl
          cases hb
          exact ⟨i, j, rx.int, ry.int, hl, h.now hS _ .mkI⟩
        · cases hb
      | _ => cases hb
    | _ => cases y <;> cases hb
  | pow =>
    refine ⟨_, op_pow, fun s d x y w vx vy Q Y hS rx ry hb h => ?_⟩
    cases x with
    | int i => cases y with
      | int j =>
        simp only [bop] at hb
        split at hb
        · rename_i hl
          cases hb
          exact ⟨i, j, rx.int, ry.int, hl, h.now hS _ .mkI⟩
        · cases hb
      | _ => cases hb
    | _ => cases y <;> cases hb
theorem se_bin {C : CallI} {o : Bop} {a b : Expr} {x y : Ex} {pos : Pos} (ha : PE X a (tE X.K G Z (evalE C x))) (hb : PE X b (tE X.K G Z (evalE C y))) : PE X (.BinOp a (opOf o) b pos) (tE X.K G Z (evalE C (.bin o x y))) := by
  obtain ⟨r, ho, hr⟩ := bop_ok (X := X) (G := G) o
  refine PE.imp (pe_op ho ha hb) fun σ H Q hq => ?_
  obtain ⟨env, s, d, Ob, rfl, hE, hS, hk⟩ := hq
  unfold evalE at hk
  show tE X.K G Z (evalE C x) σ d.H fun vx H1 => tE X.K G Z (evalE C y) σ H1 fun vy H2 => r vx vy H2 Q
  refine tG.step hE hS hk fun u s1 d1 hE1 hS1 _ _ h1 v rv => ?_
  refine tG.step hE1 hS1 h1 fun u2 s2 d2 hE2 hS2 e2 _ h2 v2 rv2 => ?_
  obtain ⟨w, ew, h3⟩ := h2.of
  exact hr s2 d2 u u2 w v v2 Q _ hS2 (rv.mono e2) rv2 ew h3
theorem se_neg {C : CallI} {a : Expr} {x : Ex} {pos : Pos} (ha : PE X a (tE X.K G Z (evalE C x))) : PE X (.UnaryOp .USub a pos) (tE X.K G Z (evalE C (.neg x))) := by
  refine PE.imp (pe_un un_neg ha) fun σ H Q hq => ?_
  obtain ⟨env, s, d, Ob, rfl, hE, hS, hk⟩ := hq
  unfold evalE at hk
  show tE X.K G Z (evalE C x) σ d.H fun v H1 => ∃ i, v = .int i ∧ Q (.int (-i)) H1
  refine tG.step hE hS hk fun u s1 d1 hE1 hS1 _ _ h1 v rv => ?_
  cases u with
  | int i => exact ⟨i, rv.int, h1.now hS1 _ .mkI⟩
  | _ => exact h1.elim
theorem se_isN {C : CallI} {a : Expr} {x : Ex} {j pos' pos} (ha : PE X a (tE X.K G Z (evalE C x))) : PE X (.Compare a [.Is] [.Constant .none j pos'] pos) (tE X.K G Z (evalE C (.isN x))) := by
  refine PE.imp (pe_cmp (pc_isN ha)) fun σ H Q hq => ?_
  obtain ⟨env, s, d, Ob, rfl, hE, hS, hk⟩ := hq
  unfold evalE at hk
  show tE X.K G Z (evalE C x) σ d.H _
  refine tG.step hE hS hk fun u s1 d1 hE1 hS1 _ _ h1 v rv => ?_
  refine h1.now hS1 _ ?_
  unfold RW
  cases u <;> unfold RW at rv <;> first | (subst rv; rfl) | (obtain ⟨a, xs, rfl, _⟩ := rv; rfl) | (obtain ⟨a, rfl, _⟩ := rv; rfl) | (obtain ⟨a, kl, vl, rfl, _⟩ := rv; rfl) | exact rv.elim
theorem se_notN {C : CallI} {a : Expr} {x : Ex} {j pos' pos} (ha : PE X a (tE X.K G Z (evalE C x))) : PE X (.Compare a [.IsNot] [.Constant .none j pos'] pos) (tE X.K G Z (evalE C (.notN x))) := by
  refine PE.imp (pe_cmp (pc_notN ha)) fun σ H Q hq => ?_
  obtain ⟨env, s, d, Ob, rfl, hE, hS, hk⟩ := hq
  unfold evalE at hk
  show tE X.K G Z (evalE C x) σ d.H _
  refine tG.step hE hS hk fun u s1 d1 hE1 hS1 _ _ h1 v rv => ?_
  refine h1.now hS1 _ ?_
  unfold RW
  cases u <;> unfold RW at rv <;> first | (subst rv; rfl) | (obtain ⟨a, xs, rfl, _⟩ := rv; rfl) | (obtain ⟨a, rfl, _⟩ := rv; rfl) | (obtain ⟨a, kl, vl, rfl, _⟩ := rv; rfl) | exact rv.elim

/-! ### what is read -/
theorem RWs.ofInts {K : PySem.W.Frag} {d : Wd} : ∀ (l : List Int), RWs K G d (l.map W.int) (l.map V.int)
  | [] => .nil
  | _ :: l => .cons .mkI (RWs.ofInts l)
theorem RR.seq {K : PySem.W.Frag} {s : Sto} {d : Wd} {w : W} {v : V} {l : List W} (hS : SimS K G s d) (r : RR K G d w v) (e : elems s w = some l) : ∃ a xs, v = .ref a ∧ (SqL K d.H a xs ∨ SqT K d.H a xs) ∧ RWs K G d l xs := by
  rcases r with r | ⟨p, rfl, _, rc⟩
  · cases w with
    | tup l' =>
      cases e
      obtain ⟨a, xs, rfl, t, q⟩ := r.tup
      exact ⟨a, xs, rfl, .inr t, q⟩
    | lst l' =>
      cases e
      obtain ⟨a, xs, rfl, _, t, q⟩ := r.lst
      exact ⟨a, xs, rfl, .inl (.of t), q⟩
    | ref n =>
      unfold RW at r
      obtain ⟨a, rfl, ha⟩ := r
      obtain ⟨a', xs, e1, e2, e3, _⟩ := hS.at_ n l e
      rw [ha] at e1
      cases e1
      exact ⟨a, xs, rfl, .inl (.of e2), e3⟩
    | scr l' =>
      cases e
      unfold RW at r
      obtain ⟨a, rfl, h⟩ := r
      exact ⟨a, _, rfl, .inl (h.elim (fun h => .inl h.2) fun h => h _), .ofInts l'⟩
    | _ => cases e
  · cases w with
    | lst l' =>
      cases e
      obtain ⟨xs, h1, h2⟩ := rc
      exact ⟨p, xs, rfl, .inl (.of h1), h2⟩
    | map ks vs => cases e
    | _ => exact rc.elim
theorem RR.list {K : PySem.W.Frag} {s : Sto} {d : Wd} {w : W} {v : V} {l : List W} (hS : SimS K G s d) (r : RR K G d w v) (e : listOf s w = some l) : ∃ a xs, v = .ref a ∧ SqL K d.H a xs ∧ RWs K G d l xs := by
  rcases r with r | ⟨p, rfl, _, rc⟩
  · cases w with
    | lst l' =>
      cases e
      obtain ⟨a, xs, rfl, _, t, q⟩ := r.lst
      exact ⟨a, xs, rfl, .of t, q⟩
    | ref n =>
      unfold RW at r
      obtain ⟨a, rfl, ha⟩ := r
      obtain ⟨a', xs, e1, e2, e3, _⟩ := hS.at_ n l e
      rw [ha] at e1
      cases e1
      exact ⟨a, xs, rfl, .of e2, e3⟩
    | _ => cases e
  · cases w with
    | lst l' =>
      cases e
      obtain ⟨xs, h1, h2⟩ := rc
      exact ⟨p, xs, rfl, .of h1, h2⟩
    | map ks vs => cases e
    | _ => exact rc.elim
theorem RR.mono {K : PySem.W.Frag} {d d' : Wd} {w : W} {v : V} (e : Evo K d.Ow d d') (eo : d'.Ow = d.Ow) (r : RR K G d w v) : RR K G d' w v := by
  rcases r with r | ⟨p, rfl, o, rc⟩
  · exact .inl (r.mono e)
  · exact .inr ⟨p, rfl, by rw [eo]; exact o, rc.mono e o⟩
theorem RWs.ints {K : PySem.W.Frag} {d : Wd} : ∀ {l : List W} {is : List Int} {xs : List V}, intsL l = some is → RWs K G d l xs → xs = is.map V.int
  | [], is, xs, e, r => by
    cases e
    unfold RWs at r
    exact r
  | w :: l, is, xs, e, r => by
    unfold RWs at r
    obtain ⟨x, r', rfl, h1, h2⟩ := r
    cases w with
    | int i =>
      simp only [intsL] at e
      cases e2 : intsL l with
      | none => rw [e2] at e; cases e
      | some is' =>
        rw [e2] at e
        cases e
        rw [RWs.ints e2 h2, h1.int]
        rfl
    | _ => cases e
theorem RWs.bools {K : PySem.W.Frag} {d : Wd} : ∀ {l : List W} {is : List Bool} {xs : List V}, boolsL l = some is → RWs K G d l xs → xs = is.map V.bl
  | [], is, xs, e, r => by
    cases e
    unfold RWs at r
    exact r
  | w :: l, is, xs, e, r => by
    unfold RWs at r
    obtain ⟨x, r', rfl, h1, h2⟩ := r
    cases w with
    | bl i =>
      simp only [boolsL] at e
      cases e2 : boolsL l with
      | none => rw [e2] at e; cases e
      | some is' =>
        rw [e2] at e
        cases e
        rw [RWs.bools e2 h2, h1.bl]
        rfl
    | _ => cases e
mutual
theorem RW.dp {K : PySem.W.Frag} {d : Wd} : ∀ {w : W} {v : V} {n : Nat}, isD w n = true → RW K G d w v → Dp K d.H v (toD w)
  | .non, _, _, _, r => by unfold RW at r; subst r; exact .non
  | .bl b, _, _, _, r => by unfold RW at r; subst r; exact .bl b
  | .int i, _, _, _, r => by unfold RW at r; subst r; exact .int i
  | .str x, _, _, _, r => by unfold RW at r; subst r; exact .str x
  | .tup l, _, n, f, r => by
    obtain ⟨a, xs, rfl, t, q⟩ := r.tup
    unfold isD at f
    rw [Bool.and_eq_true] at f
    exact .tup t (RWs.dp f.2 q)
  | .lst l, _, n, f, r => by
    obtain ⟨a, xs, rfl, _, t, q⟩ := r.lst
    unfold isD at f
    rw [Bool.and_eq_true] at f
    exact .lst (.of t) (RWs.dp f.2 q)
  | .dct _ _, _, _, f, _ => by unfold isD at f; cases f
  | .map _ _, _, _, f, _ => by unfold isD at f; cases f
  | .ref _, _, _, f, _ => by unfold isD at f; cases f
  | .gl _, _, _, f, _ => by unfold isD at f; cases f
  | .scr _, _, _, f, _ => by unfold isD at f; cases f
theorem RWs.dp {K : PySem.W.Frag} {d : Wd} : ∀ {l : List W} {xs : List V} {n : Nat}, isDs l n = true → RWs K G d l xs → DpAll K d.H xs (toDs l)
  | [], _, _, _, r => by unfold RWs at r; subst r; exact .nil
  | w :: l, _, n, f, r => by
    unfold RWs at r
    obtain ⟨x, r', rfl, h1, h2⟩ := r
    unfold isDs at f
    rw [Bool.and_eq_true] at f
    exact .cons (RW.dp f.1 h1) (RWs.dp f.2 h2)
end
theorem RR.dp {K : PySem.W.Frag} {d : Wd} {w : W} {v : V} {n : Nat} (f : isD w n = true) (r : RR K G d w v) : Dp K d.H v (toD w) := by
  rcases r with r | ⟨p, rfl, _, rc⟩
  · exact r.dp f
  · cases w with
    | lst l =>
      obtain ⟨xs, h1, h2⟩ := rc
      unfold isD at f
      rw [Bool.and_eq_true] at f
      exact .lst (.of h1) (RWs.dp f.2 h2)
    | map ks vs => unfold isD at f; cases f
    | _ => exact rc.elim
mutual
theorem isD_ok : ∀ (w : W) (n : Nat), isD w n = true → PyData.canLay0 (toD w) = true ∧ PyData.depth (toD w) ≤ n
  | .non, _, _ => ⟨by simp [toD, PyData.canLay0], by simp [toD, PyData.depth]⟩
  | .bl b, _, _ => ⟨by simp [toD, PyData.canLay0], by simp [toD, PyData.depth]⟩
  | .int i, _, _ => ⟨by simp [toD, PyData.canLay0], by simp [toD, PyData.depth]⟩
  | .str x, _, f => ⟨by unfold isD at f; simpa [toD, PyData.canLay0] using f, by simp [toD, PyData.depth]⟩
  | .tup l, n, f => by
    unfold isD at f
    rw [Bool.and_eq_true, decide_eq_true_eq] at f
    obtain ⟨h1, h2⟩ := isDs_ok l (n - 1) f.2
    exact ⟨by simpa [toD, PyData.canLay0] using h1, by simp only [toD, PyData.depth]; omega⟩
  | .lst l, n, f => by
    unfold isD at f
    rw [Bool.and_eq_true, decide_eq_true_eq] at f
    obtain ⟨h1, h2⟩ := isDs_ok l (n - 1) f.2
    exact ⟨by simpa [toD, PyData.canLay0] using h1, by simp only [toD, PyData.depth]; omega⟩
  | .dct _ _, _, f => by unfold isD at f; cases f
  | .map _ _, _, f => by unfold isD at f; cases f
  | .ref _, _, f => by unfold isD at f; cases f
  | .gl _, _, f => by unfold isD at f; cases f
  | .scr _, _, f => by unfold isD at f; cases f
theorem isDs_ok : ∀ (l : List W) (n : Nat), isDs l n = true → PyData.canLayAll0 (toDs l) = true ∧ PyData.depthAll (toDs l) ≤ n
  | [], _, _ => ⟨by simp [toDs, PyData.canLayAll0], by simp [toDs, PyData.depthAll]⟩
  | w :: l, n, f => by
    unfold isDs at f
    rw [Bool.and_eq_true] at f
    obtain ⟨h1, h2⟩ := isD_ok w n f.1
    obtain ⟨h3, h4⟩ := isDs_ok l n f.2
    exact ⟨by simp [toDs, PyData.canLayAll0, h1, h3], by simp only [toDs, PyData.depthAll]; omega⟩
end
theorem shaped_of {w : W} (f : isD w 40 = true) : SeqAt.shaped (toD w) = true := by
  obtain ⟨h1, h2⟩ := isD_ok w 40 f
  unfold SeqAt.shaped
  rw [h1, decide_eq_true (by omega)]
  rfl
/-! ### comparisons -/
def copOf : Cop → CmpOp
  | .lt => .Lt
  | .le => .LtE
  | .gt => .Gt
  | .ge => .GtE
  | .eq => .Eq
  | .ne => .NotEq
  | .is_ => .Is
  | .isnt => .IsNot
  | .in_ => .In
  | .nin => .NotIn
theorem RR.int {K : PySem.W.Frag} {d : Wd} {i : Int} {v : V} (h : RR K G d (.int i) v) : v = .int i := by
  rcases h with h | ⟨p, rfl, _, rc⟩
  · exact h.int
  · exact rc.elim
theorem room65 {k : Nat} {A : Around} (r : Room k A) : A.units + 65 < cLine := by
  have := r.un
  omega
theorem RR.str {K : PySem.W.Frag} {d : Wd} {i : Str} {v : V} (h : RR K G d (.str i) v) : v = .str i := by
  rcases h with h | ⟨p, rfl, _, rc⟩
  · unfold RW at h
    exact h
  · exact rc.elim
theorem RR.bl {K : PySem.W.Frag} {d : Wd} {i : Bool} {v : V} (h : RR K G d (.bl i) v) : v = .bl i := by
  rcases h with h | ⟨p, rfl, _, rc⟩
  · exact RW.bl h
  · exact rc.elim
theorem isV_ok {x y : W} {b : Bool} (h : isV x y = some b) : ∃ i j, x = .bl i ∧ y = .bl j ∧ b = decide (i = j) := by
  cases x <;> cases y <;> simp only [isV] at h <;> first | cases h | skip
  exact ⟨_, _, rfl, rfl, rfl⟩
theorem inV_ok {x y : W} {b : Bool} (h : inV x y = some b) : (∃ l, y = .lst l ∧ isD x 40 = true ∧ isD (.lst l) 40 = true ∧ b = (toDs l).any fun z => PyData.eqv z (toD x)) ∨ (∃ ks vs o, y = .map ks vs ∧ lookD ks vs x = some o ∧ b = o.isSome) ∨
    (∃ l, y = .tup l ∧ isD x 40 = true ∧ isD (.tup l) 40 = true ∧ b = (toDs l).any fun z => PyData.eqv z (toD x)) ∨ ∃ c z, x = .str ⟨#[c]⟩ ∧ y = .str z ∧ b = decide (c ∈ z.cps.toList) := by
  cases y <;> simp only [inV] at h <;> first | cases h | skip
  · rename_i z
    split at h
    · rename_i u
      split at h
      · rename_i c hc
        cases h
        refine .inr (.inr (.inr ⟨c, z, ?_, rfl, rfl⟩))
        obtain ⟨⟨a⟩⟩ := u
        simp only at hc
        rw [hc]
      · cases h
    · cases h
  · split at h
    · rename_i hc
      rw [Bool.and_eq_true] at hc
      cases h
      exact .inr (.inr (.inl ⟨_, rfl, hc.1, hc.2, rfl⟩))
    · cases h
  · split at h
    · rename_i hc
      rw [Bool.and_eq_true] at hc
      cases h
      exact .inl ⟨_, rfl, hc.1, hc.2, rfl⟩
    · cases h
  · rename_i ks vs
    cases e : lookD ks vs x with
    | none => rw [e] at h; cases h
    | some o =>
      rw [e] at h
      cases h
      exact .inr (.inl ⟨ks, vs, o, rfl, e, rfl⟩)
/-- x in a tuple of data -/
def rInU (K : PySem.W.Frag) (neg : Bool) : R2 := fun x y H Q => ∃ dx items, Dp K H x dx ∧ Dp K H y (.tuple items) ∧ SeqAt.shaped dx = true ∧ SeqAt.shaped (.tuple items) = true ∧ Q (.bl (neg ^^ (items.any fun z => PyData.eqv z dx))) H
theorem op_inU (room : X.A.units + 65 < cLine) : OpR X (compareOp .In) (rInU X.K false) := by
  intro pins s σ H x y vx vy Q I rx ry ⟨dx, items, hx, hy, shx, shy, q⟩
  obtain ⟨_, readx⟩ := Dp.reads I dx x vx hx rx
  obtain ⟨_, ready⟩ := Dp.reads I (.tuple items) y vy hy ry
  refine SeqAt.in_tuple_reads ready readx (SeqAt.canLay_of_shaped shy) (SeqAt.canLay_of_shaped shx) (room_in_shaped shx room) ⟨.bl _, H, I, rfl, ?_⟩
  rw [Bool.false_xor] at q
  exact q
theorem op_notInU (room : X.A.units + 65 < cLine) : OpR X (compareOp .NotIn) (rInU X.K true) := by
  intro pins s σ H x y vx vy Q I rx ry ⟨dx, items, hx, hy, shx, shy, q⟩
  obtain ⟨_, readx⟩ := Dp.reads I dx x vx hx rx
  obtain ⟨_, ready⟩ := Dp.reads I (.tuple items) y vy hy ry
  refine SeqAt.notIn_tuple_reads ready readx (SeqAt.canLay_of_shaped shy) (SeqAt.canLay_of_shaped shx) (room_in_shaped shx room) ⟨.bl _, H, I, rfl, ?_⟩
  rw [Bool.true_xor] at q
  exact q
/-! ### dicts that are built up -/
mutual
theorem RW.nv {K : PySem.W.Frag} {d : Wd} : ∀ {w : W} {k : NestedKey} {v : V}, keyN w = some k → RW K G d w v → NV K d.H k v
  | .int i, k, v, h, r => by
    rw [keyN] at h
    cases h
    unfold NV
    exact r.int
  | .non, k, v, h, r => by
    rw [keyN] at h
    cases h
    unfold RW at r
    unfold NV
    exact r
  | .tup l, k, v, h, r => by
    rw [keyN] at h
    cases e : keyNs l with
    | none => rw [e] at h; cases h
    | some ks =>
      rw [e] at h
      cases h
      obtain ⟨a, xs, rfl, t, q⟩ := r.tup
      unfold NV
      exact ⟨a, xs, rfl, t, RWs.nv e q⟩
  | .bl _, k, v, h, _ => by simp [keyN] at h
  | .str _, k, v, h, _ => by simp [keyN] at h
  | .lst _, k, v, h, _ => by simp [keyN] at h
  | .dct _ _, k, v, h, _ => by simp [keyN] at h
  | .ref _, k, v, h, _ => by simp [keyN] at h
  | .gl _, k, v, h, _ => by simp [keyN] at h
  | .scr _, k, v, h, _ => by simp [keyN] at h
  | .map _ _, k, v, h, _ => by simp [keyN] at h
theorem RWs.nv {K : PySem.W.Frag} {d : Wd} : ∀ {l : List W} {ks : List NestedKey} {xs : List V}, keyNs l = some ks → RWs K G d l xs → NVs K d.H ks xs
  | [], ks, xs, h, r => by
    rw [keyNs] at h
    cases h
    unfold RWs at r
    unfold NVs
    exact r
  | w :: l, ks, xs, h, r => by
    rw [keyNs] at h
    cases e : keyN w with
    | none => rw [e] at h; cases h
    | some k =>
      rw [e, Option.bind_some] at h
      cases e2 : keyNs l with
      | none => rw [e2] at h; cases h
      | some q =>
        rw [e2] at h
        cases h
        unfold RWs at r
        obtain ⟨x, r', rfl, h1, h2⟩ := r
        unfold NVs
        exact ⟨x, r', rfl, RW.nv e h1, RWs.nv e2 h2⟩
end
theorem RR.map {K : PySem.W.Frag} {d : Wd} {ks vs : List W} {v : V} (r : RR K G d (.map ks vs) v) : ∃ a kl vl, v = .ref a ∧ MapT K d.H a ks kl vl ∧ RWs K G d ks kl ∧ RWs K G d vs vl := by
  rcases r with r | ⟨p, rfl, _, rc⟩
  · unfold RW at r
    obtain ⟨a, kl, vl, e, _, h1, h2, h3⟩ := r
    exact ⟨a, kl, vl, e, h1, h2, h3⟩
  · obtain ⟨kl, vl, h1, h2, h3⟩ := rc
    exact ⟨p, kl, vl, rfl, h1, h2, h3⟩
theorem ints_nest {K : PySem.W.Frag} {d : Wd} : ∀ {ks : List W} {kvs : NT}, ks.all isIntW = true → RWs K G d ks (kvs.map fun p => V.ref p.2.1) → ks = [] ∧ kvs = []
  | [], kvs, _, r => by
    unfold RWs at r
    cases kvs with
    | nil => exact ⟨rfl, rfl⟩
    | cons p kvs => cases r
  | w :: ks, kvs, h, r => by
    unfold RWs at r
    obtain ⟨x, r', e, h1, h2⟩ := r
    cases kvs with
    | nil => cases e
    | cons p kvs =>
      rw [List.map_cons] at e
      injection e with e1 e2
      cases w with
      | int i =>
        rw [← e1] at h1
        cases h1.int
      | _ => simp [isIntW] at h
theorem tups_int {kvs : List (Int × V)} (h : (kvs.map fun p => W.int p.1).all isTupW = true) : kvs = [] := by
  cases kvs with
  | nil => rfl
  | cons p kvs => simp [isTupW] at h
/-- a key's value -/
theorem key_v {K : PySem.W.Frag} {d : Wd} {x : W} {k : NestedKey} {vx : V} (hk : keyD x = some k) (rx : RW K G d x vx) : (∃ i, x = .int i ∧ k = .num i ∧ vx = .int i) ∨ ∃ l b, x = .tup l ∧ vx = .ref b ∧ NV K d.H k vx ∧ k.depth ≤ 8 ∧ plainN k = true := by
  cases x with
  | int i =>
    cases hk
    exact .inl ⟨i, rfl, rfl, rx.int⟩
  | tup l =>
    refine .inr ⟨l, ?_⟩
    unfold keyD at hk
    cases e : keyN (.tup l) with
    | none => simp only [e] at hk; cases hk
    | some k' =>
      simp only [e, Option.bind_some] at hk
      split at hk
      · rename_i hd
        cases hk
        have nv := rx.nv e
        obtain ⟨a, xs, rfl, _⟩ := rx.tup
        exact ⟨a, rfl, rfl, nv, hd, keyN_plain e⟩
      · cases hk
  | _ => cases hk
theorem look_at {K : PySem.W.Frag} {d : Wd} {ks vs : List W} {a : Addr} {kl vl : List V} {x : W} {vx : V} {o : Option W} (t : MapT K d.H a ks kl vl) (rk : RWs K G d ks kl) (rv : RWs K G d vs vl) (rx : RW K G d x vx) (h : lookD ks vs x = some o) :
    ∃ r, GetD K d.H a vx r ∧ (∀ w, o = some w → ∃ v, r = some v ∧ RW K G d w v) ∧ (o = none → r = none) := by
  unfold lookD at h
  cases hk : keyD x with
  | none => rw [hk] at h; cases h
  | some k =>
    rw [hk, Option.bind_some] at h
    split at h
    rotate_left
    · cases h
    rename_i hkind
    cases h
    have both : ∀ {vl : List V} (q : Option Nat), RWs K G d vs vl → (∀ w, q.bind (vs[·]?) = some w → ∃ v, q.bind (vl[·]?) = some v ∧ RW K G d w v) ∧ (q.bind (vs[·]?) = none → q.bind (vl[·]?) = none) := fun {vl} q rv => by
      cases q with
      | none => exact ⟨(fun _ z => nomatch z), fun _ => rfl⟩
      | some n => exact ⟨fun w hw => rv.get hw, fun hn => List.getElem?_eq_none (by rw [rv.len]; exact List.getElem?_eq_none_iff.mp hn)⟩
    rcases key_v hk rx with ⟨i, rfl, rfl, rfl⟩ | ⟨l, b, rfl, rfl, nv, dk, pk⟩
    · rcases t with ⟨kvs, hd, rfl, rfl, rfl⟩ | ⟨kvs, hd, hks, rfl, rfl⟩
      · obtain ⟨q, q1, q2⟩ := lookK_int kvs vs i (by rw [← rv.len, List.length_map])
        refine ⟨_, .inl ⟨kvs, i, hd, rfl, rfl⟩, ?_⟩
        obtain ⟨b1, b2⟩ := both q rv
        rw [q1, q2]
        simp only [List.getElem?_map] at b1 b2
        exact ⟨b1, b2⟩
      · obtain ⟨rfl, rfl⟩ := ints_nest hkind rk
        obtain ⟨ob, h1, h2, h3, _⟩ := hd
        refine ⟨none, .inl ⟨[], i, ⟨ob, h1, h2.toI, h3⟩, rfl, rfl⟩, fun w hw => ?_, fun _ => rfl⟩
        cases vs <;> cases hw
    · rcases t with ⟨kvs, hd, rfl, rfl, rfl⟩ | ⟨kvs, hd, hks, rfl, rfl⟩
      · have : kvs = [] := tups_int hkind
        subst this
        obtain ⟨ob, h1, h2, h3⟩ := hd
        refine ⟨none, .inr ⟨[], k, b, ⟨ob, h1, h2.toN, h3, fun _ h => nomatch h⟩, nv, rfl, dk, rfl⟩, fun w hw => ?_, fun _ => rfl⟩
        cases vs <;> cases hw
      · obtain ⟨q, q1, q2⟩ := lookK_nest kvs ks vs k hks (by rw [← rv.len, List.length_map])
        refine ⟨_, .inr ⟨kvs, k, b, hd, nv, rfl, dk, rfl⟩, ?_⟩
        obtain ⟨b1, b2⟩ := both q rv
        rw [q1, q2]
        simp only [List.getElem?_map] at b1 b2
        exact ⟨b1, b2⟩
theorem look_some {ks vs : List W} {x : W} {o : Option W} (h : lookD ks vs x = some o) : isIntW x = true ∨ isTupW x = true := by
  unfold lookD at h
  cases x <;> first | exact .inl rfl | exact .inr rfl | cases h
theorem RR.key {K : PySem.W.Frag} {d : Wd} {x : W} {v : V} (r : RR K G d x v) (h : isIntW x = true ∨ isTupW x = true) : RW K G d x v := by
  rcases r with r | ⟨p, rfl, _, rc⟩
  · exact r
  · cases x <;> first | exact rc.elim | (rcases h with h | h <;> cases h)
theorem in_map {K : PySem.W.Frag} {d : Wd} {ks vs : List W} {x : W} {vx vy : V} {o : Option W} (rx : RR K G d x vx) (ry : RR K G d (.map ks vs) vy) (h : lookD ks vs x = some o) : ∃ a r, vy = .ref a ∧ GetD K d.H a vx r ∧ r.isSome = o.isSome ∧ (∀ w, o = some w → ∃ v, r = some v ∧ RW K G d w v) ∧ (o = none → r = none) := by
  obtain ⟨a, kl, vl, rfl, t, rk, rv⟩ := ry.map
  obtain ⟨r, g, h1, h2⟩ := look_at t rk rv (rx.key (look_some h)) h
  refine ⟨a, r, rfl, g, ?_, h1, h2⟩
  cases o with
  | none =>
    rw [h2 rfl]
    rfl
  | some w =>
    obtain ⟨v, e, _⟩ := h1 w rfl
    rw [e]
    rfl
/-- x < y, both data and alike -/
def rLtD (K : PySem.W.Frag) : R2 := fun x y H Q => ∃ d e, Dp K H x d ∧ Dp K H y e ∧ PySem.W.alike d e = true ∧ d ≠ .none ∧ d.depth ≤ 60 ∧ Q (.bl (PySem.W.dataLt d e)) H
theorem op_ltD (hu : X.A.units + 65 < cLine) : OpR X (compareOp .Lt) (rLtD X.K) := by
  rintro pins s σ H x y v u Q I rx ry ⟨d, e, hd, he, al, nn, dp, q⟩
  obtain ⟨as, r1⟩ := Dp.reads I d x v hd rx
  obtain ⟨bs, r2⟩ := Dp.reads I e y u he ry
  have := Nat.min_le_left d.depth e.depth
  exact PySem.W.lt_data r1 r2 al nn (by omega) ⟨.bl _, H, I, rfl, q⟩
theorem cop_ok (hu : X.A.units + 65 < cLine) (o : Cop) : ∃ r : R2, OpR X (compareOp (copOf o)) r ∧ ∀ (d : Wd) (x y : W) (b : Bool) (vx vy : V) (Q : VK), RR X.K G d x vx → RR X.K G d y vy → cmpV o x y = some b → Q (.bl b) d.H → r vx vy d.H Q := by
  cases o with
  | lt =>
    refine ⟨_, OpR.or op_lt (op_ltD hu), fun d x y b vx vy Q rx ry hb h => ?_⟩
    cases x <;> cases y <;> simp only [cmpV] at hb <;> first | (cases hb; done) | skip
    · cases hb
      exact .inl ⟨_, _, rx.int, ry.int, h⟩
    · rename_i l r
      split at hb
      · rename_i hd
        cases hb
        rw [Bool.and_eq_true, Bool.and_eq_true] at hd
        obtain ⟨⟨h1, h2⟩, h3⟩ := hd
        have dp := (isD_ok _ _ h1).2
        exact .inr ⟨_, _, rx.dp h1, ry.dp h2, h3, by rw [toD]; exact fun z => (nomatch z), by omega, h⟩
      · cases hb
  | le =>
    refine ⟨_, op_le, fun d x y b vx vy Q rx ry hb h => ?_⟩
    cases x <;> cases y <;> simp only [cmpV] at hb <;> first | cases hb | skip
    exact ⟨_, _, rx.int, ry.int, h⟩
  | gt =>
    refine ⟨_, op_gt, fun d x y b vx vy Q rx ry hb h => ?_⟩
    cases x <;> cases y <;> simp only [cmpV] at hb <;> first | cases hb | skip
    exact ⟨_, _, rx.int, ry.int, h⟩
  | ge =>
    refine ⟨_, op_ge, fun d x y b vx vy Q rx ry hb h => ?_⟩
    cases x <;> cases y <;> simp only [cmpV] at hb <;> first | cases hb | skip
    exact ⟨_, _, rx.int, ry.int, h⟩
  | eq =>
    refine ⟨_, OpR.or op_eq (op_eqD (by omega)), fun d x y b vx vy Q rx ry hb h => ?_⟩
    have key : (∃ p q, x = .str p ∧ y = .str q ∧ b = decide (p = q)) ∨ isD x 40 = true ∧ isD y 40 = true ∧ b = PyData.eqv (toD x) (toD y) := by
      unfold cmpV at hb
      split at hb <;> try contradiction
      · cases hb
        exact .inl ⟨_, _, rfl, rfl, rfl⟩
      · cases hb
        refine .inr ⟨rfl, rfl, ?_⟩
        simp [cmpI, toD, PyData.eqv, Bool.beq_eq_decide_eq]
      · split at hb
        · rename_i hc
          rw [Bool.and_eq_true] at hc
          cases hb
          exact .inr ⟨hc.1, hc.2, rfl⟩
        · cases hb
    rcases key with ⟨p, q, rfl, rfl, rfl⟩ | ⟨h1, h2, rfl⟩
    · refine .inl ?_
      rw [rx.str, ry.str]
      refine ⟨rfl, ?_⟩
      rw [show decide (V.str p = V.str q) = decide (p = q) by simp]
      exact h
    · exact .inr ⟨_, _, rx.dp h1, ry.dp h2, shaped_of h1, shaped_of h2, h⟩
  | ne =>
    refine ⟨_, OpR.or op_ne (op_neD (by omega)), fun d x y b vx vy Q rx ry hb h => ?_⟩
    have key : (∃ p q, x = .str p ∧ y = .str q ∧ b = !decide (p = q)) ∨ isD x 40 = true ∧ isD y 40 = true ∧ b = !PyData.eqv (toD x) (toD y) := by
      unfold cmpV at hb
      split at hb <;> try contradiction
      · cases hb
        exact .inl ⟨_, _, rfl, rfl, rfl⟩
      · cases hb
        refine .inr ⟨rfl, rfl, ?_⟩
        simp [cmpI, toD, PyData.eqv, Bool.beq_eq_decide_eq]
      · split at hb
        · rename_i hc
          rw [Bool.and_eq_true] at hc
          cases hb
          exact .inr ⟨hc.1, hc.2, rfl⟩
        · cases hb
    rcases key with ⟨p, q, rfl, rfl, rfl⟩ | ⟨h1, h2, rfl⟩
    · refine .inl ?_
      rw [rx.str, ry.str]
      refine ⟨rfl, ?_⟩
      rw [show decide (V.str p = V.str q) = decide (p = q) by simp]
      exact h
    · exact .inr ⟨_, _, rx.dp h1, ry.dp h2, shaped_of h1, shaped_of h2, h⟩
  | is_ =>
    refine ⟨_, op_isBl, fun d x y b vx vy Q rx ry hb h => ?_⟩
    obtain ⟨i, j, rfl, rfl, rfl⟩ := isV_ok (show isV x y = some b from hb)
    exact ⟨_, _, rx.bl, ry.bl, h⟩
  | isnt =>
    refine ⟨_, op_notBl, fun d x y b vx vy Q rx ry hb h => ?_⟩
    have hb2 : (isV x y).map (!·) = some b := hb
    cases e : isV x y with
    | none => rw [e] at hb2; cases hb2
    | some c =>
      rw [e] at hb2
      cases hb2
      obtain ⟨i, j, rfl, rfl, rfl⟩ := isV_ok e
      exact ⟨_, _, rx.bl, ry.bl, h⟩
  | in_ =>
    refine ⟨_, OpR.or (OpR.or (OpR.or (op_inD hu) op_in_sign) (op_inU hu)) (op_inK hu), fun d x y b vx vy Q rx ry hb h => ?_⟩
    rcases inV_ok (show inV x y = some b from hb) with ⟨l, rfl, h1, h2, rfl⟩ | ⟨ks, vs, o, rfl, h1, rfl⟩ | ⟨l, rfl, h1, h2, rfl⟩ | ⟨c, z, rfl, rfl, rfl⟩
    · exact .inl (.inl (.inl ⟨_, _, rx.dp h1, ry.dp h2, shaped_of h1, shaped_of h2, h⟩))
    · obtain ⟨a, r, rfl, g, e, _⟩ := in_map rx ry h1
      exact .inr ⟨a, r, rfl, g, by rw [e]; exact h⟩
    · exact .inl (.inr ⟨_, _, rx.dp h1, ry.dp h2, shaped_of h1, shaped_of h2, by rw [Bool.false_xor]; exact h⟩)
    · exact .inl (.inl (.inr ⟨c, z, rx.str, ry.str, h⟩))
  | nin =>
    refine ⟨_, OpR.or (OpR.or (OpR.or (op_notInD hu) op_notIn_sign) (op_notInU hu)) (op_notInK hu), fun d x y b vx vy Q rx ry hb h => ?_⟩
    have hb2 : (inV x y).map (!·) = some b := hb
    cases e : inV x y with
    | none => rw [e] at hb2; cases hb2
    | some c =>
      rw [e] at hb2
      cases hb2
      rcases inV_ok e with ⟨l, rfl, h1, h2, rfl⟩ | ⟨ks, vs, o, rfl, h1, rfl⟩ | ⟨l, rfl, h1, h2, rfl⟩ | ⟨c, z, rfl, rfl, rfl⟩
      · exact .inl (.inl (.inl ⟨_, _, rx.dp h1, ry.dp h2, shaped_of h1, shaped_of h2, h⟩))
      · obtain ⟨a, r, rfl, g, e, _⟩ := in_map rx ry h1
        exact .inr ⟨a, r, rfl, g, by rw [e]; exact h⟩
      · exact .inl (.inr ⟨_, _, rx.dp h1, ry.dp h2, shaped_of h1, shaped_of h2, by rw [Bool.true_xor]; exact h⟩)
      · exact .inl (.inl (.inr ⟨c, z, rx.str, ry.str, h⟩))
abbrev rdE (C : CallI) (a : Ex) : EV := fun env s => rdv env a s (evalE C a env s)
theorem se_cmp {C : CallI} {o : Cop} {a b : Expr} {x y : Ex} {pos : Pos} (hu : X.A.units + 65 < cLine) (hm : behindInMarks (copOf o) b = false) (ha : PE X a (tR X.K G Z (rdE C x))) (hb : PE X b (tR X.K G Z (rdE C y))) : PE X (.Compare a [copOf o] [b] pos) (tE X.K G Z (evalE C (.cmp o x y))) := by
  obtain ⟨r, ho, hr⟩ := cop_ok (G := G) hu o
  refine PE.imp (pe_cmpR ho ha hb hm) fun σ H Q hq => ?_
  obtain ⟨env, s, d, Ob, rfl, hE, hS, hk⟩ := hq
  unfold evalE at hk
  show tR X.K G Z (rdE C x) σ d.H fun vx H1 => tR X.K G Z (rdE C y) σ H1 fun vy H2 => r vx vy H2 Q
  refine tG.step hE hS hk fun u s1 d1 hE1 hS1 _ _ h1 v rv => ?_
  refine tG.step hE1 hS1 h1 fun u2 s2 d2 hE2 hS2 e2 eo2 h2 v2 rv2 => ?_
  obtain ⟨w, ew, h3⟩ := h2.of_bind
  exact hr d2 u u2 w v v2 Q (rv.mono e2 eo2) rv2 ew (h3.now hS2 _ .mkB)
end
end Mi

/-! Sorting of what is no plain list of whole numbers: tuples of numbers, lists of states. -/
namespace Mi
open PySem PySem.Spec PyProof.Rows L2 PySem.SeqAt
section
variable {prog : Program} {w : World} {A : Around} {E : Value → Shared → Prop} {s : Shared}
theorem isTup_keep {h h' : Heap} {q : Addr} {its : Array Value} (k : ∀ o, h.get? q = some o → h'.get? q = some o) (e : IsTup h q its) : IsTup h' q its := by
  obtain ⟨o, ho, r⟩ := e
  exact ⟨o, k o ho, r⟩
theorem ints_fun : ∀ {vs : List Value} {ns ms : List Int}, IntsAre vs ns → IntsAre vs ms → ns = ms := fun {vs ns ms} h g => by
  have l1 := h.length
  have l2 := g.length
  refine List.ext_getElem? fun j => ?_
  cases e : ns[j]? with
  | none =>
    have := List.getElem?_eq_none_iff.mp e
    exact (List.getElem?_eq_none_iff.mpr (by omega)).symm
  | some i =>
    obtain ⟨t, ht⟩ := h.get j i e
    cases e2 : ms[j]? with
    | none =>
      have h1 := List.getElem?_eq_none_iff.mp e2
      have h2 := (List.getElem?_eq_some_iff.mp e).1
      omega
    | some i2 =>
      obtain ⟨t2, ht2⟩ := g.get j i2 e2
      rw [ht] at ht2
      cases ht2
      rfl
theorem all_eq {ns ms : List Int} : ((List.range (min ns.length ms.length)).all (fun j => decide (ns[j]? = ms[j]?)) && ns.length == ms.length) = decide (ns = ms) := by
  rw [Bool.eq_iff_iff, Bool.and_eq_true, List.all_eq_true, decide_eq_true_eq, beq_iff_eq]
  constructor
  · rintro ⟨h1, h2⟩
    refine List.ext_getElem? fun j => ?_
    by_cases hj : j < ns.length
    · exact of_decide_eq_true (h1 j (List.mem_range.mpr (by omega)))
    · rw [List.getElem?_eq_none_iff.mpr (by omega), List.getElem?_eq_none_iff.mpr (by omega)]
  · rintro rfl
    exact ⟨fun j _ => decide_eq_true rfl, rfl⟩
/-- tuples of numbers, asked whether they are equal -/
theorem tup_eq {q r : Addr} {is js : Array Value} {ns ms : List Int} (h1 : IsTup s.heap q is) (h2 : IsTup s.heap r js) (i1 : IntsAre is.toList ns) (i2 : IntsAre js.toList ms) (hu : A.units < cLine) :
    EqAt A s (.ref q) (.ref r) (decide (ns = ms)) := by
  by_cases hne : q = r
  · subst hne
    obtain ⟨o, e1, _, n, d1⟩ := h1
    obtain ⟨o', e2, _, n', d2⟩ := h2
    rw [e1] at e2
    cases e2
    rw [d1] at d2
    cases d2
    rw [decide_eq_true (ints_fun i1 i2)]
    exact .same _
  · have l1 := i1.length
    have l2 := i2.length
    rw [Array.length_toList] at l1 l2
    have e := RcAt.tuples (A := A) (s := s) (e := fun j => decide (ns[j]? = ms[j]?)) h1 h2 hu fun j g1 g2 => by
      obtain ⟨t, ht⟩ := i1.get j ns[j] (List.getElem?_eq_getElem (by omega))
      obtain ⟨u, hu2⟩ := i2.get j ms[j] (List.getElem?_eq_getElem (by omega))
      rw [Array.getElem?_toList, Array.getElem?_eq_getElem g1] at ht
      rw [Array.getElem?_toList, Array.getElem?_eq_getElem g2] at hu2
      rw [Option.some.inj ht, Option.some.inj hu2, List.getElem?_eq_getElem (show j < ns.length by omega), List.getElem?_eq_getElem (show j < ms.length by omega)]
      have e3 := EqAt.int_int (A := A.in1) (s := s) ns[j] t ms[j] u
      rwa [show (ns[j] == ms[j]) = decide (some ns[j] = some ms[j]) by
        rw [Bool.eq_iff_iff, beq_iff_eq, decide_eq_true_eq]
        exact ⟨fun z => by rw [z], fun z => Option.some.inj z⟩] at e3
    rw [l1, l2, all_eq] at e
    exact .of_refs hne e
/-- v is a tuple of a number and a tuple of numbers -/
def StAt (h : Heap) (v : Value) (k : List Int) : Prop := ∃ (p q : Addr) (o : Obj) (t : Tok) (n : Nat) (a : Int) (ns : List Int) (its : Array Value),
  k = a :: ns ∧ v = .ref p ∧ h.get? p = some o ∧ o.cls = .type "tuple" ∧ o.data = .seq #[.int a t, .ref q] n ∧ IsTup h q its ∧ IntsAre its.toList ns
theorem StAt.keep {h h' : Heap} {v : Value} {k : List Int} (e : StAt h v k) (kp : ∀ b o, h.get? b = some o → h'.get? b = some o) : StAt h' v k := by
  obtain ⟨p, q, o, t, n, a, ns, its, rfl, rfl, ho, hc, hd, hq, hi⟩ := e
  exact ⟨p, q, o, t, n, a, ns, its, rfl, rfl, kp _ _ ho, hc, hd, isTup_keep (kp q) hq, hi⟩
theorem lex_same : ∀ ns : List Int, HT.lexLt ns ns = false
  | [] => rfl
  | a :: r => by
    rw [HT.lexLt_cons, if_pos rfl]
    exact lex_same r
theorem st_less {vs : List Value} {k : Value → List Int} (hu : A.units < cLine) (hv : ∀ v ∈ vs, StAt s.heap v (k v)) : SrtO.Cmp prog w A s (tuples' true) (fun p => p.1 ∈ vs) (SrtO.lt2 fun v u => HT.lexLt (k v) (k u)) := by
  intro x y hx hy
  have g1 := hv _ hx
  have g2 := hv _ hy
  show wpAny (model prog w) A (keyLt' (tuples' true) x.1 y.1) (fun r s' => s' = s ∧ r = HT.lexLt (k x.1) (k y.1)) (fun _ _ => False) s
  generalize k x.1 = kx at g1 ⊢
  generalize k y.1 = ky at g2 ⊢
  obtain ⟨p, q, o, t, n, a, ns, its, rfl, e, ho, hc, hd, hq, hi⟩ := g1
  obtain ⟨p', q', o', t', n', a', ns', its', rfl, e', ho', hc', hd', hq', hi'⟩ := g2
  rw [e, e', HT.lexLt_cons]
  refine PySem.W.kat_lt ho hd ho' hd' ?_
  show PySem.W.KatLex prog w A true (decide (2 < 2)) _ [(.int a t, .int a' t'), (.ref q, .ref q')] 0 s
  refine PySem.W.kat_cons (EqAt.int_int a t a' t' prog w _ _ (PySem.W.kat_go (fun h1 => ?_) fun h1 => ?_))
  · have ea : a = a' := by simpa using h1
    rw [if_pos ea]
    refine PySem.W.kat_yes (PySem.W.kat_cons (tup_eq hq hq' hi hi' hu prog w _ _ (PySem.W.kat_go (fun h2 => ?_) fun h2 => ?_)))
    · rw [of_decide_eq_true h2]
      exact PySem.W.kat_yes (PySem.W.kat_nil ⟨rfl, (lex_same _).symm⟩)
    · exact PySem.W.kat_no (PySem.W.kat_one _ _ (HT.lt_tupInts hq hq' hi hi' hu ⟨rfl, rfl⟩))
  · have ea : ¬ a = a' := by simpa using h1
    rw [if_neg ea]
    exact PySem.W.kat_no (oneLt_int ⟨rfl, rfl⟩)
theorem st_firsts {h : Heap} {k : Value → List Int} : ∀ {vs : List Value}, (∀ v ∈ vs, StAt h v (k v)) → ∃ fs : List Value, PySem.W.KatTups h vs fs ∧ fs.length = vs.length ∧ ∀ f ∈ fs, ∃ a t, f = Value.int a t
  | [], _ => ⟨[], .nil, rfl, fun _ z => nomatch z⟩
  | v :: r, hv => by
    obtain ⟨fs, h1, h2, h3⟩ := st_firsts (vs := r) fun u hu => hv u (List.mem_cons_of_mem _ hu)
    obtain ⟨p, q, o, t, n, a, ns, its, _, e, ho, hc, hd, _, _⟩ := hv v List.mem_cons_self
    refine ⟨.int a t :: fs, ?_, by rw [List.length_cons, List.length_cons, h2], fun f hf => ?_⟩
    · rw [e]
      exact .cons ho hc hd rfl h1
    · rcases List.mem_cons.mp hf with rfl | hf
      · exact ⟨_, _, rfl⟩
      · exact h3 f hf
theorem st_sortable {b : Addr} {vs : List Value} {k : Value → List Int} (h2 : 2 ≤ vs.length) (hu : A.units < cLine) (hv : ∀ v ∈ vs, StAt s.heap v (k v))
    (hb : ∀ h' : Heap, (∀ c o, c ≠ b → s.heap.get? c = some o → h'.get? c = some o) → ∀ v ∈ vs, StAt h' v (k v)) : SrtO.SortableO prog w A s b vs fun v u => HT.lexLt (k v) (k u) := by
  intro h' keep
  have hv' := hb h' keep
  refine ⟨tuples' true, fun Q E hq => ?_, st_less (s := { s with heap := h' }) hu hv'⟩
  obtain ⟨fs, g1, g2, g3⟩ := st_firsts hv'
  refine PySem.W.kat_kind (s := { s with heap := h' }) (T := .type "int") g1 (by omega) (fun f hf => ?_) (by rfl) hq
  obtain ⟨a, t, rfl⟩ := g3 f hf
  exact .now
/-- sorted(u), told by what collecting u gives -/
theorem sorted_col {u : Value} {vs : List Value} {ltv : Value → Value → Bool} {Q : Value → Shared → Prop} (O : SrtO.Swo ltv) (hz : vs.length ≤ sizeLine)
    (hcol : ∀ P : List Value → Shared → Prop, (∀ (h' : Heap) (tk : Nat), (∀ c o, s.heap.get? c = some o → h'.get? c = some o) → P vs { s with heap := h', toks := tk }) → wpAny (model prog w) A.in1 (collect u) P E s)
    (hS : 2 ≤ vs.length → ∀ (s' : Shared) (b : Addr), (∀ c o, s.heap.get? c = some o → c ≠ b ∧ s'.heap.get? c = some o) → SrtO.SortableO prog w A.in1.in1 s' b vs ltv)
    (h : ∀ (out : List Value) (h1 h' : Heap) (tk n : Nat), SrtO.Srtd ltv out → SrtO.Stb ltv out vs → (∀ c o, s.heap.get? c = some o → h1.get? c = some o) → (∀ c o, h1.get? c = some o → h'.get? c = some o) →
      h'.get? h1.objs.size = some (seqObj "list" out.toArray n) → Q (.ref h1.objs.size) { s with heap := h', toks := tk }) :
    wpAny (model prog w) A (call (.builtin "sorted") [u]) Q E s := by
  refine Calls.call_function_entry PyProof.Rows.kind_sorted plain_sorted entry_sorted (args_sorted1 u) ?_
  unfold Builtin.«sorted»
  refine wpAny_bind (m := checkCount "sorted" 1 1 _) (wpAny_pure (wpAny_bind (hcol _ fun h1 tk k1 => ?_)))
  refine wpAny_bind (wpAny_newList ?_ hz)
  have g0 : (h1.push (seqObj "list" vs.toArray 0)).get? h1.objs.size = some (seqObj "list" vs.toArray 0) := Heap.get?_push_size _ rfl
  have sz : (h1.push (seqObj "list" vs.toArray 0)).objs.size = h1.objs.size + 1 := size_push' ..
  have old : ∀ c o, h1.get? c = some o → c ≠ h1.objs.size := fun c o e => Nat.ne_of_lt (Heap.lt_size e)
  show wpAny _ _ _ _ _ { s with heap := h1.push (seqObj "list" vs.toArray 0), toks := tk }
  refine wpAny_bind (wpAny_holding (wpAny_call_entry slot_list_sort ⟨_, g0, rfl⟩ entry_list_sort
    (SrtO.list_sort_ord (s := { s with heap := h1.push (seqObj "list" vs.toArray 0), toks := tk }) O g0 hz (fun h2 => ?_) fun out g1 g2 => ⟨_, rfl, ?_⟩) (args_list_sort _)))
  · exact hS h2 _ _ fun c o e => ⟨old c o (k1 c o e), Heap.get?_push_of_some _ (k1 c o e)⟩
  · obtain ⟨n, hn⟩ := sortedHeap_at (vs := vs) (out := out.toArray) g0
    refine wpAny_pure ⟨_, rfl, h out h1 _ tk n g1 g2 k1 (fun c o e => ?_) hn⟩
    rw [sortedHeap_old (old c o e) (by rw [sz]; exact Nat.lt_succ_of_lt (Heap.lt_size e))]
    exact Heap.get?_push_of_some _ e
end
section
variable {X : Cx}
/-- a tuple of a number and a tuple of numbers, told by its key -/
def StV (K : PySem.W.Frag) (H : Hp) (x : V) (k : List Int) : Prop := ∃ (p q : Addr) (a : Int) (ns : List Int), x = V.ref p ∧ k = a :: ns ∧ SqT K H p [.int a, .ref q] ∧ SqT K H q (ns.map V.int)
theorem StV.at {pins : List (Addr × Obj)} {σ : L2.St} {H : Hp} {s : Shared} {x : V} {v : Value} {k : List Int} (I : Inv X pins σ H s) (e : StV X.K H x k) (r : RelV x v) : StAt s.heap v k := by
  obtain ⟨p, q, a, ns, rfl, rfl, h1, h2⟩ := e
  obtain rfl : v = Value.ref p := r
  obtain ⟨is, r1, ⟨o, ho, hc, n, hd⟩, _⟩ := I.tuple h1
  obtain ⟨js, r2, hq, _⟩ := I.tuple h2
  obtain ⟨u1, u2, rfl, ri, rj⟩ := vals2 r1
  obtain ⟨t, rfl⟩ := ri
  obtain rfl : u2 = Value.ref q := rj
  exact ⟨p, q, o, t, n, a, ns, js.toArray, rfl, rfl, ho, hc, hd, hq, by simpa using r2.ints⟩
abbrev lexV {α : Type} (k : α → List Int) (x y : α) : Bool := HT.lexLt (k x) (k y)
theorem StAt.one {h : Heap} {v : Value} {k k' : List Int} (e : StAt h v k) (e' : StAt h v k') : k = k' := by
  obtain ⟨p, q, o, t, n, a, ns, its, rfl, rfl, ho, hc, hd, ⟨o2, g1, _, n2, g2⟩, hi⟩ := e
  obtain ⟨p', q', o', t', n', a', ns', its', rfl, z, ho', hc', hd', ⟨o3, g3, _, n3, g4⟩, hi'⟩ := e'
  cases z
  rw [ho] at ho'
  cases ho'
  rw [hd] at hd'
  cases hd'
  rw [g1] at g3
  cases g3
  rw [g2] at g4
  cases g4
  rw [ints_fun hi hi']
/-- the key that the heap tells -/
noncomputable def keyAt (h : Heap) (v : Value) : List Int := by
  classical exact if e : ∃ k, StAt h v k then e.choose else []
theorem keyAt_eq {h : Heap} {v : Value} {k : List Int} (e : StAt h v k) : keyAt h v = k := by
  unfold keyAt
  rw [dif_pos ⟨k, e⟩]
  exact (Exists.choose_spec (⟨k, e⟩ : ∃ k, StAt h v k)).one e
abbrev lexP {α : Type} (x y : α × List Int) : Bool := HT.lexLt x.2 y.2
/-- sorted(xs), xs a list or a tuple of such, told with their keys -/
def rSortSt (K : PySem.W.Frag) : List V → Hp → VK → Prop := fun vs H Q => ∃ (a : Addr) (ps : List (V × List Int)), vs = [V.ref a] ∧ (SqL K H a (ps.map (·.1)) ∨ SqT K H a (ps.map (·.1))) ∧ (∀ p ∈ ps, StV K H p.1 p.2) ∧
  ∀ qs p, SrtO.Srtd lexP qs → SrtO.Stb lexP qs ps → H p = none → Q (.ref p) (upd H p (.lst (qs.map (·.1))))
theorem keyed {pins : List (Addr × Obj)} {σ : L2.St} {H : Hp} {s : Shared} (I : Inv X pins σ H s) : ∀ {ps : List (V × List Int)} {its : List Value}, (∀ p ∈ ps, StV X.K H p.1 p.2) → Vals (ps.map (·.1)) its →
    (∀ v ∈ its, StAt s.heap v (keyAt s.heap v)) ∧ (∀ v ∈ its, ∃ a, v = Value.ref a) ∧ ps = its.map fun v => (backV v, keyAt s.heap v)
  | [], its, _, r => by
    cases r
    exact ⟨(fun _ z => nomatch z), (fun _ z => nomatch z), rfl⟩
  | p :: ps, its, h, r => by
    rw [List.map_cons] at r
    cases r with
    | @cons x v xs us rv rt =>
      obtain ⟨h1, h2, h3⟩ := keyed I (ps := ps) (fun q hq => h q (List.mem_cons_of_mem _ hq)) rt
      have hp := h p List.mem_cons_self
      have e := hp.at I rv
      have ek := keyAt_eq e
      obtain ⟨t, _, _, _, ep, _⟩ := hp
      have ev : v = Value.ref t := by rw [ep] at rv; exact rv
      refine ⟨fun u hu => ?_, fun u hu => ?_, ?_⟩
      · rcases List.mem_cons.mp hu with rfl | hu
        · rw [ek]
          exact e
        · exact h1 u hu
      · rcases List.mem_cons.mp hu with rfl | hu
        · exact ⟨t, ev⟩
        · exact h2 u hu
      · rw [List.map_cons, ← h3, ek, ev]
        refine congrArg (· :: ps) ?_
        show p = (V.ref t, p.2)
        rw [← ep]
theorem seq_at {pins : List (Addr × Obj)} {σ : L2.St} {H : Hp} {s : Shared} {a : Addr} {xs : List V} (I : Inv X pins σ H s) (h : SqL X.K H a xs ∨ SqT X.K H a xs) :
    ∃ (its : List Value) (T : String) (o : Obj) (n : Nat), Vals xs its ∧ (T = "list" ∨ T = "tuple") ∧ s.heap.get? a = some o ∧ o.cls = .type T ∧ o.data = .seq its.toArray n ∧ its.length ≤ sizeLine := by
  rcases h with h | h
  · obtain ⟨its, rv, hl, hz⟩ := I.list h
    obtain ⟨o, ho, hc, n, hd⟩ := hl.isList
    exact ⟨its, "list", o, n, rv, .inl rfl, ho, hc, hd, by rw [← rv.length]; exact hz⟩
  · obtain ⟨its, rv, ⟨o, ho, hc, n, hd⟩, hz⟩ := I.tuple h
    exact ⟨its, "tuple", o, n, rv, .inr rfl, ho, hc, hd, by rw [← rv.length]; exact hz⟩
theorem cr_sortSt (hu : X.A.in1.in1.units < cLine) : CallR X (.builtin "sorted") (rSortSt X.K) := by
  intro pins s σ H vs us Q I r h
  obtain ⟨a, ps, rfl, hs, hx, q⟩ := h
  obtain ⟨its, T, o, n, rv, hT, ho, hc, hd, hz⟩ := seq_at I hs
  rw [Vals.ref1 r]
  obtain ⟨hv, e2, e1⟩ := keyed I hx rv
  refine sorted_col (ltv := lexV (keyAt s.heap)) (NtL.swo_lexL _) hz (fun P hP => ?_) (fun h2 s' b keep => ?_) fun out h1 h' tk m g1 g2 k1 k2 hn => ?_
  · refine wpAny_collect_seq a hT ho hc hd (fun h' kp => ?_) (by simpa using hz)
    simpa using hP h' s.toks kp
  · exact st_sortable h2 hu (fun v m => (hv v m).keep fun c o e => (keep c o e).2) fun h'' kp v m => (hv v m).keep fun c o e => kp c o (keep c o e).1 (keep c o e).2
  · have I1 : Inv X pins σ H { s with heap := h1, toks := tk } := I.kept k1
    have h3 : ∀ u ∈ out, ∃ a, u = Value.ref a := fun u hu => e2 u (g2.perm.mem_iff.mp hu)
    have hb : SrtO.Stb lexP (out.map fun v => (backV v, keyAt s.heap v)) ps := by
      rw [e1]
      exact SrtO.Stb.map (NtL.swo_lexL fun p : V × List Int => p.2) (fun v => (backV v, keyAt s.heap v)) g2
    have em : (out.map fun v => (backV v, keyAt s.heap v)).map (·.1) = out.map backV := by rw [List.map_map]; rfl
    have hq := q _ h1.objs.size (SrtO.srtd_map g1) hb (I1.hok.fresh (Nat.le_refl _))
    rw [em] at hq
    refine ⟨.ref h1.objs.size, upd H h1.objs.size (.lst (out.map backV)), I1.laid (t' := tk) k2 (Nat.le_refl _) ⟨?_, out, m, vals_back h3, hn⟩, rfl, hq⟩
    rw [List.length_map, g2.len]
    exact hz
/-- sorted(xs), xs a tuple of numbers -/
def rSortTI (K : PySem.W.Frag) : List V → Hp → VK → Prop := fun vs H Q => ∃ (a : Addr) (ns : List Int), vs = [V.ref a] ∧ (SqL K H a (ns.map V.int) ∨ SqT K H a (ns.map V.int)) ∧
  ∀ (ns' : List Int) (p : Addr), ns'.Perm ns → ns'.Pairwise (· ≤ ·) → H p = none → Q (.ref p) (upd H p (.lst (ns'.map V.int)))
theorem cr_sortTI : CallR X (.builtin "sorted") (rSortTI X.K) := by
  intro pins s σ H vs us Q I r h
  obtain ⟨a, ns, rfl, hs, q⟩ := h
  obtain ⟨its, T, o, n, rv, hT, ho, hc, hd, hz⟩ := seq_at I hs
  rw [Vals.ref1 r]
  have hi := rv.ints
  refine sorted_col SrtO.swo_int hz (fun P hP => ?_) (fun h2 s' b keep => SrtO.ints_sortable hi h2) fun out h1 h' tk m g1 g2 k1 k2 hn => ?_
  · refine wpAny_collect_seq a hT ho hc hd (fun h' kp => ?_) (by simpa using hz)
    simpa using hP h' s.toks kp
  · obtain ⟨j1, j2, j3⟩ := SrtO.ints_out hi g1 g2
    have I1 : Inv X pins σ H { s with heap := h1, toks := tk } := I.kept k1
    refine ⟨.ref h1.objs.size, upd H h1.objs.size (.lst ((out.map SrtO.iv).map V.int)), I1.laid (t' := tk) k2 (Nat.le_refl _) ⟨?_, out, m, vals_of_ints j1, hn⟩, rfl, q _ _ j2 j3 (I1.hok.fresh (Nat.le_refl _))⟩
    rw [List.length_map, j2.length_eq, ← rv.length.symm.trans (List.length_map ..)]
    exact hz
end
section
variable {prog : Program} {w : World} {d : Addr} {es : Array DictEntry} {ep : Nat}
/-- a dict's entries, as a source of its keys -/
theorem src_raw (lo : (d == sysModules) = false) : PySem.W.KdlSrc prog w "dict" d d es.size (fun i v => ∃ hi : i < es.size, v = es[i].key) (fun h => h.DictRaw d es ep) where
  type := fun _ g => g.typeIs
  there := fun _ g => ⟨g.lt_size, g.lt_size⟩
  keep := fun _ _ g k => g.at fun o e => k d (.inl rfl) o e
  notList := by rfl
  notTuple := by rfl
  hint := fun _ _ _ _ g q => PySem.W.kdl_hint_dict g.typeIs q
  iter := fun _ _ hh g => ⟨_, _, (fun _ _ q => wpAny_pyIter_dict_raw lo g q), Walks.rawKeys hh _ d (Nat.ne_of_lt g.lt_size) es ep, ⟨⟨_, Heap.get?_push_size _ rfl, rfl, rfl⟩, g.push _⟩⟩
end
section
variable {X : Cx}
/-- sorted(d), d a dict keyed by such -/
def rSortD (K : PySem.W.Frag) : List V → Hp → VK → Prop := fun vs H Q => ∃ (d : Addr) (o : Obj) (ps : List (V × List Int)) (us : List V), vs = [V.ref d] ∧ H d = some (DO d o) ∧ (d == sysModules) = false ∧ EnV o (ps.map (·.1)) us ∧ ps.length ≤ sizeLine ∧ (∀ p ∈ ps, StV K H p.1 p.2) ∧
  ∀ qs p, SrtO.Srtd lexP qs → SrtO.Stb lexP qs ps → H p = none → Q (.ref p) (upd H p (.lst (qs.map (·.1))))
theorem vals_all : ∀ {xs : List V} {us : List Value}, xs.length = us.length → (∀ (j : Nat) (x : V) (u : Value), xs[j]? = some x → us[j]? = some u → RelV x u) → Vals xs us
  | [], [], _, _ => .nil
  | [], _ :: _, h, _ => by cases h
  | _ :: _, [], h, _ => by cases h
  | x :: r, u :: t, h, f => .cons (f 0 x u rfl rfl) (vals_all (by simpa using h) fun j y z e1 e2 => f (j + 1) y z (by simpa using e1) (by simpa using e2))
theorem cr_sortD (hc : X.calm = true) (hu : X.A.in1.in1.units < cLine) : CallR X (.builtin "sorted") (rSortD X.K) := by
  intro pins s σ H vs us Q I r h
  obtain ⟨d, o, ps, us', rfl, hd, lo, ⟨es, ep, hx, hdt, hsz, hl, hen⟩, hz, hk, q⟩ := h
  rw [Vals.ref1 r]
  have g : s.heap.DictRaw d es ep := ⟨o, do_at I.hok hd, hx, hdt⟩
  have rv : Vals (ps.map (·.1)) (es.toList.map (·.key)) := vals_all (by rw [← hsz]; simp) fun j x u e1 e2 => by
    rw [List.getElem?_map, Array.getElem?_toList] at e2
    cases e3 : es[j]? with
    | none => rw [e3] at e2; cases e2
    | some en =>
      rw [e3] at e2
      cases e2
      obtain ⟨k', _, e4, _, e5, _⟩ := hen j en e3
      rw [e1] at e4
      cases e4
      exact e5
  obtain ⟨hv, e2, e1⟩ := keyed I hk rv
  rw [List.length_map] at hsz
  have hlen : (es.toList.map (·.key)).length = es.size := by rw [List.length_map, Array.length_toList]
  refine sorted_col (vs := es.toList.map (·.key)) (ltv := lexV (keyAt s.heap)) (NtL.swo_lexL _) (by omega) (fun P hP => ?_) (fun h2 s' b keep => ?_) fun out h1 h' tk m g1 g2 k1 k2 hn => ?_
  · refine PySem.W.kdu_collect (src_raw (prog := X.prog) (w := X.w) (es := es) (ep := ep) lo) (I.ok.hd hc) g (by omega) fun h' tk acc kp hacc => ?_
    have ea : acc.toList = es.toList.map (·.key) := by
      refine List.ext_getElem? fun j => ?_
      rw [Array.getElem?_toList, List.getElem?_map, Array.getElem?_toList]
      cases e3 : acc[j]? with
      | none =>
        have := Array.getElem?_eq_none_iff.mp e3
        have h0 := hacc.1
        rw [Array.getElem?_eq_none (by omega)]
        rfl
      | some v =>
        obtain ⟨hi, rfl⟩ := hacc.2 j v e3
        rw [Array.getElem?_eq_getElem hi]
        rfl
    rw [ea]
    exact hP h' tk kp
  · exact st_sortable h2 hu (fun v m => (hv v m).keep fun c o e => (keep c o e).2) fun h'' kp v m => (hv v m).keep fun c o e => kp c o (keep c o e).1 (keep c o e).2
  · have I1 : Inv X pins σ H { s with heap := h1, toks := tk } := I.kept k1
    have h3 : ∀ u ∈ out, ∃ a, u = Value.ref a := fun u hu => e2 u (g2.perm.mem_iff.mp hu)
    have hb : SrtO.Stb lexP (out.map fun v => (backV v, keyAt s.heap v)) ps := by
      rw [e1]
      exact SrtO.Stb.map (NtL.swo_lexL fun p : V × List Int => p.2) (fun v => (backV v, keyAt s.heap v)) g2
    have em : (out.map fun v => (backV v, keyAt s.heap v)).map (·.1) = out.map backV := by rw [List.map_map]; rfl
    have hq := q _ h1.objs.size (SrtO.srtd_map g1) hb (I1.hok.fresh (Nat.le_refl _))
    rw [em] at hq
    refine ⟨.ref h1.objs.size, upd H h1.objs.size (.lst (out.map backV)), I1.laid (t' := tk) k2 (Nat.le_refl _) ⟨?_, out, m, vals_back h3, hn⟩, rfl, hq⟩
    rw [List.length_map, g2.len, hlen, hsz]
    exact hz
end
section
variable {α : Type} {lt : α → α → Bool}
theorem insG_perm (x : α) : ∀ l : List α, (insG lt x l).Perm (x :: l)
  | [] => .refl _
  | y :: r => by
    unfold insG
    split
    · exact ((insG_perm x r).cons y).trans (.swap x y r)
    · exact .refl _
theorem sortG_perm : ∀ l : List α, (sortG lt l).Perm l
  | [] => .refl _
  | x :: r => (insG_perm x _).trans ((sortG_perm r).cons x)
theorem insG_srtd (O : SrtO.Swo lt) (x : α) : ∀ l : List α, SrtO.Srtd lt l → SrtO.Srtd lt (insG lt x l)
  | [], _ => List.pairwise_singleton ..
  | y :: r, h => by
    have h1 := List.pairwise_cons.mp h
    unfold insG
    split
    · rename_i hl
      refine List.pairwise_cons.mpr ⟨fun z hz => ?_, insG_srtd O x r h1.2⟩
      rcases List.mem_cons.mp ((insG_perm x r).mem_iff.mp hz) with rfl | hz
      · exact O.asym _ _ hl
      · exact h1.1 z hz
    · rename_i hl
      have hl : lt y x = false := by simpa using hl
      refine List.pairwise_cons.mpr ⟨fun z hz => ?_, h⟩
      rcases List.mem_cons.mp hz with rfl | hz
      · exact hl
      · exact O.tr x y z hl (h1.1 z hz)
theorem sortG_srtd (O : SrtO.Swo lt) : ∀ l : List α, SrtO.Srtd lt (sortG lt l)
  | [] => .nil
  | x :: r => insG_srtd O x _ (sortG_srtd O r)
theorem insG_cls (O : SrtO.Swo lt) (x z : α) : ∀ l : List α, (insG lt x l).filter (SrtO.eqv lt z) = (x :: l).filter (SrtO.eqv lt z)
  | [] => rfl
  | y :: r => by
    unfold insG
    split
    · rename_i hl
      rw [List.filter_cons, insG_cls O x z r, List.filter_cons, List.filter_cons, List.filter_cons]
      by_cases hx : SrtO.eqv lt z x = true
      · have hy : ¬ SrtO.eqv lt z y = true := fun hy => by
          obtain ⟨a1, a2⟩ := SrtO.eqv_iff.mp hx
          obtain ⟨b1, b2⟩ := SrtO.eqv_iff.mp hy
          have := O.tr x z y a1 b2
          rw [hl] at this
          cases this
        simp [hx, hy]
      · simp [hx]
    · rfl
theorem sortG_stb (O : SrtO.Swo lt) : ∀ l : List α, SrtO.Stb lt (sortG lt l) l
  | [] => .refl _
  | x :: r => ⟨sortG_perm _, fun z => by
    show (insG lt x (sortG lt r)).filter _ = _
    rw [insG_cls O x z, List.filter_cons, List.filter_cons, (sortG_stb O r).cls z]⟩
theorem sortG_uniq (O : SrtO.Swo lt) {l qs : List α} (h1 : SrtO.Srtd lt qs) (h2 : SrtO.Stb lt qs l) : qs = sortG lt l :=
  SrtO.stb_uniq O h1 (sortG_srtd O l) (h2.trans ⟨(sortG_stb O l).perm.symm, fun z => ((sortG_stb O l).cls z).symm⟩)
theorem insG_map {β : Type} (f : β → α) (x : β) : ∀ l : List β, insG lt (f x) (l.map f) = (insG (fun a b => lt (f a) (f b)) x l).map f
  | [] => rfl
  | y :: r => by
    rw [List.map_cons, insG, insG]
    split
    · rw [insG_map f x r]
      rfl
    · rfl
theorem sortG_map {β : Type} (f : β → α) : ∀ l : List β, sortG lt (l.map f) = (sortG (fun a b => lt (f a) (f b)) l).map f
  | [] => rfl
  | x :: r => by
    rw [List.map_cons, sortG, sortG_map f r, insG_map, sortG]
end
section
variable {K : PySem.W.Frag} {G : Gm} {d : Wd}
theorem RW.st {w : W} {x : V} (r : RW K G d w x) (e : (stKey w).isSome = true) : StV K d.H x (keyI w) := by
  unfold keyI
  unfold stKey at e ⊢
  split at e
  · rename_i a l
    cases e2 : intsL l with
    | none => rw [e2] at e; cases e
    | some ns =>
      obtain ⟨p, xs, rfl, h1, h2⟩ := r.tup
      unfold RWs at h2
      obtain ⟨y, r1, rfl, h3, h4⟩ := h2
      unfold RWs at h4
      obtain ⟨z, r2, rfl, h5, h6⟩ := h4
      unfold RWs at h6
      subst h6
      obtain ⟨q, ys, rfl, h7, h8⟩ := h5.tup
      rw [RWs.ints e2 h8] at h7
      rw [h3.int] at h1
      exact ⟨p, q, a, ns, rfl, rfl, h1, h7⟩
  · cases e
theorem zip_rw : ∀ {l : List W} {xs : List V}, RWs K G d l xs → (∀ p ∈ l.zip xs, RW K G d p.1 p.2) ∧ (l.zip xs).map (·.1) = l ∧ (l.zip xs).map (·.2) = xs
  | [], xs, h => by
    unfold RWs at h
    subst h
    exact ⟨(fun _ z => nomatch z), rfl, rfl⟩
  | w :: l, xs, h => by
    unfold RWs at h
    obtain ⟨x, r, rfl, h1, h2⟩ := h
    obtain ⟨g1, g2, g3⟩ := zip_rw h2
    refine ⟨fun p hp => ?_, by rw [List.zip_cons_cons, List.map_cons, g2], by rw [List.zip_cons_cons, List.map_cons, g3]⟩
    rw [List.zip_cons_cons] at hp
    rcases List.mem_cons.mp hp with rfl | hp
    · exact h1
    · exact g1 p hp
theorem rw_zip : ∀ {z : List (W × V)}, (∀ p ∈ z, RW K G d p.1 p.2) → RWs K G d (z.map (·.1)) (z.map (·.2))
  | [], _ => .nil
  | p :: z, h => .cons (h p List.mem_cons_self) (rw_zip fun q hq => h q (List.mem_cons_of_mem _ hq))
/-- such tuples, sorted -/
theorem sort_rel {l : List W} {xs : List V} (r : RWs K G d l xs) (hs : l.all (fun x => (stKey x).isSome) = true) : ∃ ps : List (V × List Int), ps.map (·.1) = xs ∧ (∀ p ∈ ps, StV K d.H p.1 p.2) ∧
    ∀ qs, SrtO.Srtd lexP qs → SrtO.Stb lexP qs ps → RWs K G d (sortG ltS l) (qs.map (·.1)) := by
  obtain ⟨g1, g2, g3⟩ := zip_rw r
  refine ⟨(l.zip xs).map fun p => (p.2, keyI p.1), by rw [List.map_map]; exact g3, fun p hp => ?_, fun qs h1 h2 => ?_⟩
  · obtain ⟨q, hq, rfl⟩ := List.mem_map.mp hp
    exact (g1 q hq).st (List.all_eq_true.mp hs q.1 (List.of_mem_zip hq).1)
  · rw [sortG_uniq (NtL.swo_lexL fun p : V × List Int => p.2) h1 h2, sortG_map, List.map_map]
    have e : sortG ltS l = (sortG (fun a b : W × V => HT.lexLt (keyI a.1) (keyI b.1)) (l.zip xs)).map (·.1) := by
      have e0 := sortG_map (lt := ltS) (fun p : W × V => p.1) (l.zip xs)
      rw [g2] at e0
      exact e0
    rw [e]
    exact rw_zip fun p hp => g1 p ((sortG_perm _).mem_iff.mp hp)
theorem MapT.obj {K : PySem.W.Frag} {H : Hp} {a : Addr} {ks : List W} {kl vl : List V} (h : MapT K H a ks kl vl) (P : Program) (w : World) : ∃ o, H a = some (DO a o) ∧ (a == sysModules) = false ∧ EnV o kl vl := by
  rcases h with ⟨kvs, ⟨o, h1, h2, h3⟩, h4, rfl, rfl⟩ | ⟨kvs, ⟨o, h1, h2, h3, _⟩, h4, rfl, rfl⟩
  · exact ⟨o, h1, h3, h2.env P w⟩
  · exact ⟨o, h1, h3, h2.env P w⟩
theorem MapT.kl_le {H : Hp} {a : Addr} {ks : List W} {kl vl : List V} (h : MapT K H a ks kl vl) : kl.length ≤ sizeLine := by
  rcases h with ⟨kvs, ⟨o, h1, h2, h3⟩, h4, rfl, rfl⟩ | ⟨kvs, ⟨o, h1, h2, h3, _⟩, h4, rfl, rfl⟩
  · rw [List.length_map]
    exact h2.len
  · rw [List.length_map]
    exact h2.len
end
end Mi

/-! min of numbers' tuples. -/
namespace Mi
variable {G : Gm}
open PySem PySem.Spec PyProof.Rows L2 PySem.SeqAt PySem.W
mutual
theorem isN_isD : ∀ (w : W) (n : Nat), isN w n = true → isD w n = true
  | .int i, _, _ => by unfold isD; rfl
  | .tup l, n, h => by
    unfold isN at h
    unfold isD
    rw [Bool.and_eq_true] at h ⊢
    exact ⟨h.1, isNs_isDs l (n - 1) h.2⟩
  | .non, _, h => by unfold isN at h; cases h
  | .bl _, _, h => by unfold isN at h; cases h
  | .str _, _, h => by unfold isN at h; cases h
  | .lst _, _, h => by unfold isN at h; cases h
  | .scr _, _, h => by unfold isN at h; cases h
  | .dct _ _, _, h => by unfold isN at h; cases h
  | .map _ _, _, h => by unfold isN at h; cases h
  | .ref _, _, h => by unfold isN at h; cases h
  | .gl _, _, h => by unfold isN at h; cases h
theorem isNs_isDs : ∀ (l : List W) (n : Nat), isNs l n = true → isDs l n = true
  | [], _, _ => by unfold isDs; rfl
  | w :: l, n, h => by
    unfold isNs at h
    unfold isDs
    rw [Bool.and_eq_true] at h ⊢
    exact ⟨isN_isD w n h.1, isNs_isDs l n h.2⟩
end
mutual
theorem toD_inj : ∀ (a b : W) (n m : Nat), isN a n = true → isN b m = true → toD a = toD b → a = b
  | .int i, .int j, _, _, _, _, e => by simp only [toD, PyData.int.injEq] at e; rw [e]
  | .tup l, .tup r, n, m, h, k, e => by
    unfold isN at h k
    rw [Bool.and_eq_true] at h k
    simp only [toD, PyData.tuple.injEq] at e
    rw [toDs_inj l r _ _ h.2 k.2 e]
  | .int i, .tup r, _, _, _, _, e => by simp [toD] at e
  | .tup l, .int j, _, _, _, _, e => by simp [toD] at e
  | .non, _, _, _, h, _, _ => by unfold isN at h; cases h
  | .bl _, _, _, _, h, _, _ => by unfold isN at h; cases h
  | .str _, _, _, _, h, _, _ => by unfold isN at h; cases h
  | .lst _, _, _, _, h, _, _ => by unfold isN at h; cases h
  | .scr _, _, _, _, h, _, _ => by unfold isN at h; cases h
  | .dct _ _, _, _, _, h, _, _ => by unfold isN at h; cases h
  | .map _ _, _, _, _, h, _, _ => by unfold isN at h; cases h
  | .ref _, _, _, _, h, _, _ => by unfold isN at h; cases h
  | .gl _, _, _, _, h, _, _ => by unfold isN at h; cases h
  | _, .non, _, _, _, h, _ => by unfold isN at h; cases h
  | _, .bl _, _, _, _, h, _ => by unfold isN at h; cases h
  | _, .str _, _, _, _, h, _ => by unfold isN at h; cases h
  | _, .lst _, _, _, _, h, _ => by unfold isN at h; cases h
  | _, .scr _, _, _, _, h, _ => by unfold isN at h; cases h
  | _, .dct _ _, _, _, _, h, _ => by unfold isN at h; cases h
  | _, .map _ _, _, _, _, h, _ => by unfold isN at h; cases h
  | _, .ref _, _, _, _, h, _ => by unfold isN at h; cases h
  | _, .gl _, _, _, _, h, _ => by unfold isN at h; cases h
theorem toDs_inj : ∀ (l r : List W) (n m : Nat), isNs l n = true → isNs r m = true → toDs l = toDs r → l = r
  | [], [], _, _, _, _, _ => rfl
  | [], _ :: _, _, _, _, _, e => by simp [toDs] at e
  | _ :: _, [], _, _, _, _, e => by simp [toDs] at e
  | a :: l, b :: r, n, m, h, k, e => by
    unfold isNs at h k
    rw [Bool.and_eq_true] at h k
    simp only [toDs, List.cons.injEq] at e
    rw [toD_inj a b _ _ h.1 k.1 e.1, toDs_inj l r _ _ h.2 k.2 e.2]
end
theorem toDs_map : ∀ l : List W, toDs l = l.map toD
  | [] => by unfold toDs; rfl
  | w :: l => by unfold toDs; rw [toDs_map l]; rfl
theorem isNs_mem : ∀ {l : List W} {n : Nat} {w : W}, isNs l n = true → w ∈ l → isN w n = true
  | [], _, _, _, h => nomatch h
  | x :: l, n, w, h, hm => by
    unfold isNs at h
    rw [Bool.and_eq_true] at h
    rcases List.mem_cons.mp hm with rfl | hm
    · exact h.1
    · exact isNs_mem h.2 hm
theorem minG_fold : ∀ (xs : List W) (x : W), (xs.foldl (fun a y => bif PySem.W.dataLt (toD y) (toD a) then y else a) x) ∈ x :: xs ∧ toD (xs.foldl (fun a y => bif PySem.W.dataLt (toD y) (toD a) then y else a) x) = minD (toD x) (toDs xs)
  | [], x => ⟨List.mem_cons_self, by unfold toDs; rfl⟩
  | y :: xs, x => by
    obtain ⟨h1, h2⟩ := minG_fold xs (bif PySem.W.dataLt (toD y) (toD x) then y else x)
    refine ⟨?_, ?_⟩
    · show xs.foldl _ (bif PySem.W.dataLt (toD y) (toD x) then y else x) ∈ _
      rcases List.mem_cons.mp h1 with e | e
      · rw [e]
        cases PySem.W.dataLt (toD y) (toD x)
        · exact List.mem_cons_self
        · exact List.mem_cons_of_mem _ List.mem_cons_self
      · exact List.mem_cons_of_mem _ (List.mem_cons_of_mem _ e)
    · show toD (xs.foldl _ (bif PySem.W.dataLt (toD y) (toD x) then y else x)) = _
      rw [h2, toDs]
      unfold minD
      rw [List.foldl_cons]
      cases PySem.W.dataLt (toD y) (toD x) <;> rfl
theorem minG_ok {l : List W} {w : W} (h : minG l = some w) : ∃ x xs, l = x :: xs ∧ isNs l 30 = true ∧ AlikeAll (toDs l) ∧ w ∈ l ∧ toD w = minD (toD x) (toDs xs) := by
  cases l with
  | nil => cases h
  | cons x xs =>
    unfold minG at h
    dsimp only at h
    cases e : isNs (x :: xs) 30 && (x :: xs).all (fun a => (x :: xs).all fun b => PySem.W.alike (toD a) (toD b)) with
    | false => rw [e] at h; cases h
    | true =>
      rw [e] at h
      cases h
      rw [Bool.and_eq_true, List.all_eq_true] at e
      obtain ⟨e1, e2⟩ := e
      obtain ⟨h1, h2⟩ := minG_fold xs x
      refine ⟨x, xs, rfl, e1, ⟨fun a ha b hb => ?_, fun a ha => ?_⟩, h1, h2⟩
      · rw [toDs_map] at ha hb
        obtain ⟨u, hu, rfl⟩ := List.mem_map.mp ha
        obtain ⟨v, hv, rfl⟩ := List.mem_map.mp hb
        exact List.all_eq_true.mp (e2 u hu) v hv
      · rw [toDs_map] at ha
        obtain ⟨u, hu, rfl⟩ := List.mem_map.mp ha
        have := isNs_mem e1 hu
        cases u <;> first | (unfold isN at this; cases this; done) | simp [toD]
theorem minD_mem : ∀ (xs : List PyData) (x : PyData), minD x xs ∈ x :: xs
  | [], x => List.mem_cons_self
  | y :: xs, x => by
    have := minD_mem xs (if dataLt y x then y else x)
    show minD (if dataLt y x then y else x) xs ∈ _
    rcases List.mem_cons.mp this with e | e
    · rw [e]
      split
      · exact List.mem_cons_of_mem _ List.mem_cons_self
      · exact List.mem_cons_self
    · exact List.mem_cons_of_mem _ (List.mem_cons_of_mem _ e)
section
variable {X : Cx}
def rMinD (K : PySem.W.Frag) : List V → Hp → VK → Prop := fun vs H Q => ∃ (a : Addr) (xs : List V) (d : PyData) (ds : List PyData), vs = [V.ref a] ∧ (SqL K H a xs ∨ SqT K H a xs) ∧ DpAll K H xs (d :: ds) ∧ AlikeAll (d :: ds) ∧ PyData.depthAll (d :: ds) ≤ 40 ∧
  ∀ (i : Nat) (v : V), xs[i]? = some v → (d :: ds)[i]? = some (minD d ds) → Q v H
theorem cr_minD (hc : X.calm = true) (hu : X.A.units + 65 < cLine) : CallR X (.builtin "min") (rMinD X.K) := by
  intro pins s σ H vs us Q I r h
  obtain ⟨a, xs, d, ds, rfl, hs, hd, ha, hdep, q⟩ := h
  rw [Vals.ref1 r]
  have key : ∀ {its : List Value} {as : List Addr}, Vals xs its → ReadsAll s.heap its (d :: ds) as → ∀ (i : Nat) (v : Value) (h' : Heap) (tk : Nat) (bs : List Addr), its[i]? = some v → Reads h' v (minD d ds) bs → (∀ b o, s.heap.get? b = some o → h'.get? b = some o) → EP X pins σ Q v { s with heap := h', toks := tk } := by
    intro its as rv hr i v h' tk bs hi hm keep
    cases hx : xs[i]? with
    | none => rw [rv.none_of hx] at hi; cases hi
    | some x =>
      obtain ⟨u, e1, e2⟩ := rv.get hx
      rw [hi] at e1
      cases e1
      obtain ⟨cs, r1, r2, r3, _⟩ := readsAll_at hr i v hi
      have r4 := reads_keeps keep r1
      have e3 := alike_unique _ _ _ _ _ (ha.1 _ r3 _ (minD_mem ds d)) r4 hm
      refine ⟨x, H, I.kept keep, e2, q i x hx ?_⟩
      rw [← e3, List.getD_eq_getElem?_getD, List.getElem?_eq_getElem r2]
      rfl
  have hu2 : X.A.units + 1 + PyData.depthAll (d :: ds) < cLine := by omega
  rcases hs with hs | hs
  · obtain ⟨its, rv, pl, _⟩ := I.list hs
    obtain ⟨as, hr⟩ := Dp.readsAll I (d :: ds) xs its hd rv
    exact min_list_data (I.ok.hd hc) pl.isList (by simpa using hr) ha hu2 fun i v h' tk bs hi hm keep => key rv hr i v h' tk bs (by simpa using hi) hm keep
  · obtain ⟨its, rv, pl, _⟩ := I.tuple hs
    obtain ⟨as, hr⟩ := Dp.readsAll I (d :: ds) xs its hd rv
    exact min_tuple_data (I.ok.hd hc) pl (by simpa using hr) ha hu2 fun i v h' tk bs hi hm keep => key rv hr i v h' tk bs (by simpa using hi) hm keep
/-! ### sorted -/
theorem vals_each {β : Type} {f : β → V} : ∀ {bs : List β} {its : List Value}, Vals (bs.map f) its → EachIs (fun v b => RelV (f b) v) its bs
  | [], _, r => by cases r; exact .nil
  | b :: bs, _, r => by
    rw [List.map_cons] at r
    cases r with
    | cons r1 r2 => exact .cons r1 (vals_each r2)
theorem each_vals {β : Type} {f : β → V} : ∀ {bs : List β} {its : List Value}, EachIs (fun v b => RelV (f b) v) its bs → Vals (bs.map f) its
  | [], _, .nil => .nil
  | _ :: _, _, .cons r1 r2 => .cons r1 (each_vals r2)
def rSortN (K : PySem.W.Frag) : List V → Hp → VK → Prop := fun vs H Q => ∃ (a : Addr) (bs : List (W × V)), vs = [V.ref a] ∧ (SqL K H a (bs.map (·.2)) ∨ SqT K H a (bs.map (·.2))) ∧ DpAll K H (bs.map (·.2)) (bs.map fun b => toD b.1) ∧ PySem.W.AllAlike (bs.map fun b => toD b.1) ∧
  PySem.W.Sortable (bs.map fun b => toD b.1) ∧ (∀ b ∈ bs, (toD b.1).depth ≤ 40) ∧ ∀ p, H p = none → Q (.ref p) (upd H p (.lst ((bs.mergeSort (PySem.W.dataLe false fun b => toD b.1)).map (·.2))))
section
variable {prog : Program} {w : World} {A : Around} {E : Value → Shared → Prop} {s : Shared}
/-- sorted(u) of data, told by what collecting u gives -/
theorem sorted_colN {β : Type} {R : Value → β → Prop} {enc : β → PyData} {u : Value} {vs : List Value} {bs : List β} {Q : Value → Shared → Prop} (hz : bs.length ≤ sizeLine)
    (hcol : ∀ P : List Value → Shared → Prop, (∀ (h' : Heap) (tk : Nat), (∀ c o, s.heap.get? c = some o → h'.get? c = some o) → P vs { s with heap := h', toks := tk }) → wpAny (model prog w) A.in1 (collect u) P E s)
    (e : EachIs R vs bs) (er : EachIs (fun v b => ∃ as, Reads s.heap v (enc b) as) vs bs) (hal : PySem.W.AllAlike (bs.map enc)) (hk : PySem.W.Sortable (bs.map enc)) (hu : ∀ b, b ∈ bs → A.units + 2 + (enc b).depth < cLine)
    (h : ∀ (out : List Value) (h1 h' : Heap) (tk n : Nat), out.length = bs.length → EachIs R out (bs.mergeSort (PySem.W.dataLe false enc)) → (∀ c o, s.heap.get? c = some o → h1.get? c = some o) → (∀ c o, h1.get? c = some o → h'.get? c = some o) →
      h'.get? h1.objs.size = some (seqObj "list" out.toArray n) → Q (.ref h1.objs.size) { s with heap := h', toks := tk }) :
    wpAny (model prog w) A (call (.builtin "sorted") [u]) Q E s := by
  refine Calls.call_function_entry PyProof.Rows.kind_sorted plain_sorted entry_sorted (args_sorted1 u) ?_
  unfold Builtin.«sorted»
  refine wpAny_bind (m := checkCount "sorted" 1 1 _) (wpAny_pure (wpAny_bind (hcol _ fun h1 tk k1 => ?_)))
  have hz2 : vs.length ≤ sizeLine := by rw [e.length]; exact hz
  refine wpAny_bind (wpAny_newList ?_ hz2)
  have g0 : (h1.push (seqObj "list" vs.toArray 0)).get? h1.objs.size = some (seqObj "list" vs.toArray 0) := Heap.get?_push_size _ rfl
  have sz : (h1.push (seqObj "list" vs.toArray 0)).objs.size = h1.objs.size + 1 := size_push' ..
  have old : ∀ c o, h1.get? c = some o → c ≠ h1.objs.size := fun c o e => Nat.ne_of_lt (Heap.lt_size e)
  show wpAny _ _ _ _ _ { s with heap := h1.push (seqObj "list" vs.toArray 0), toks := tk }
  have er' : EachIs (fun v b => ∃ as, Reads (sortingHeap (h1.push (seqObj "list" vs.toArray 0)) h1.objs.size vs) v (enc b) as) vs bs :=
    er.mono fun _ _ ⟨as, r⟩ => ⟨as, PyProof.Rows.Reads.keeps (fun c o q => sortingHeap_old (old c o (k1 c o q)) (Heap.get?_push_of_some _ (k1 c o q))) r⟩
  refine wpAny_bind (wpAny_holding (wpAny_call_entry slot_list_sort ⟨_, g0, rfl⟩ entry_list_sort
    (list_sort_vals (s := { s with heap := h1.push (seqObj "list" vs.toArray 0), toks := tk }) g0
      (SortsAt.data (s := { s with heap := sortingHeap (h1.push (seqObj "list" vs.toArray 0)) h1.objs.size vs, toks := tk }) (each_map (R := fun v d => ∃ as, Reads (sortingHeap (h1.push (seqObj "list" vs.toArray 0)) h1.objs.size vs) v d as) enc er') hal hk (bound_map hu)) hz2 ⟨_, rfl, ?_⟩) (args_list_sort _)))
  obtain ⟨n, hn⟩ := sortedHeap_at (vs := vs) (out := (sortVals (dataKind (sortingHeap (h1.push (seqObj "list" vs.toArray 0)) h1.objs.size vs) (bs.map enc)) false vs vs).toArray) g0
  refine wpAny_pure ⟨_, rfl, h _ h1 _ tk n (by rw [sortVals_length false rfl]; exact e.length) (sortVals_data false e er' hal) k1 (fun c o e => ?_) hn⟩
  rw [sortedHeap_old (old c o e) (by rw [sz]; exact Nat.lt_succ_of_lt (Heap.lt_size e))]
  exact Heap.get?_push_of_some _ e
end
theorem cr_sortN (hu : X.A.units + 65 < cLine) : CallR X (.builtin "sorted") (rSortN X.K) := by
  intro pins s σ H vs us Q I r h
  obtain ⟨a, bs, rfl, hs, hd, ha, hk, hdep, q⟩ := h
  rw [Vals.ref1 r]
  obtain ⟨its, T, o, n, rv, hT, ho, hc, hdt, hz⟩ := seq_at I hs
  obtain ⟨as, hr⟩ := Dp.readsAll I _ _ its hd rv
  have hlen : bs.length ≤ sizeLine := by
    have := rv.length
    rw [List.length_map] at this
    omega
  refine sorted_colN (R := fun v (b : W × V) => RelV b.2 v) (enc := fun b : W × V => toD b.1) (vs := its) (bs := bs) hlen (fun P hP => ?_) (vals_each rv) (PySem.W.readsAll_each (fun b : W × V => toD b.1) hr) ha hk (fun b hb => ?_) fun out h1 h' tk m el eo k1 k2 hn => ?_
  · refine wpAny_collect_seq a hT ho hc hdt (fun h' kp => ?_) (by simpa using hz)
    simpa using hP h' s.toks kp
  · have := hdep b hb
    omega
  · have I1 : Inv X pins σ H { s with heap := h1, toks := tk } := I.kept k1
    refine ⟨.ref h1.objs.size, upd H h1.objs.size (.lst ((bs.mergeSort (PySem.W.dataLe false fun b => toD b.1)).map (·.2))), I1.laid (t' := tk) k2 (Nat.le_refl _) ⟨?_, out, m, each_vals eo, hn⟩, rfl, q _ (I1.hok.fresh (Nat.le_refl _))⟩
    rw [List.length_map, List.length_mergeSort]
    exact hlen
theorem sortN_ok {l : List W} {w : W} (h : sortN l = some w) : isNs l 30 = true ∧ (∀ a ∈ l, ∃ x r, toD a = .tuple (x :: r)) ∧ PySem.W.AllAlike (l.map toD) ∧ w = .lst (l.mergeSort (PySem.W.dataLe false toD)) := by
  unfold sortN at h
  cases e : isNs l 30 && l.all isTup1 && l.all (fun a => l.all fun b => PySem.W.alike (toD a) (toD b)) with
  | false => rw [e] at h; cases h
  | true =>
    rw [e] at h
    cases h
    simp only [Bool.and_eq_true, List.all_eq_true] at e
    obtain ⟨⟨e1, e2⟩, e3⟩ := e
    refine ⟨e1, fun a ha => ?_, fun x hx y hy => ?_, rfl⟩
    · have := e2 a ha
      unfold isTup1 at this
      split at this
      · rename_i x r
        exact ⟨toD x, toDs r, by simp [toD, toDs]⟩
      · cases this
    · obtain ⟨u, hu, rfl⟩ := List.mem_map.mp hx
      obtain ⟨v, hv, rfl⟩ := List.mem_map.mp hy
      exact e3 u hu v hv
theorem rws_pairs {K : PySem.W.Frag} {d : Wd} : ∀ {l : List W} {xs : List V}, RWs K G d l xs → ∃ bs : List (W × V), bs.map (·.1) = l ∧ bs.map (·.2) = xs ∧ ∀ b ∈ bs, RW K G d b.1 b.2
  | [], xs, r => by
    unfold RWs at r
    subst r
    exact ⟨[], rfl, rfl, fun _ z => nomatch z⟩
  | w :: l, _, r => by
    unfold RWs at r
    obtain ⟨x, xs, rfl, h1, h2⟩ := r
    obtain ⟨bs, e1, e2, e3⟩ := rws_pairs h2
    refine ⟨(w, x) :: bs, by rw [List.map_cons, e1], by rw [List.map_cons, e2], fun b hb => ?_⟩
    rcases List.mem_cons.mp hb with rfl | hb
    · exact h1
    · exact e3 b hb
theorem pairs_rws {K : PySem.W.Frag} {d : Wd} : ∀ {bs : List (W × V)}, (∀ b ∈ bs, RW K G d b.1 b.2) → RWs K G d (bs.map (·.1)) (bs.map (·.2))
  | [], _ => .nil
  | b :: bs, h => .cons (h b List.mem_cons_self) (pairs_rws fun c hc => h c (List.mem_cons_of_mem _ hc))
theorem sortN_rel {K : PySem.W.Frag} {d : Wd} {bs : List (W × V)} (h : ∀ b ∈ bs, RW K G d b.1 b.2) : RWs K G d ((bs.map (·.1)).mergeSort (PySem.W.dataLe false toD)) ((bs.mergeSort (PySem.W.dataLe false fun b => toD b.1)).map (·.2)) := by
  have e : (bs.mergeSort (PySem.W.dataLe false fun b => toD b.1)).map (·.1) = (bs.map (·.1)).mergeSort (PySem.W.dataLe false toD) := List.map_mergeSort fun a _ b _ => rfl
  rw [← e]
  exact pairs_rws fun b hb => h b ((List.mergeSort_perm _ _).mem_iff.mp hb)
end
end Mi

/-! Tests, displays, built-ins, subscripts, calls. -/
namespace Mi
open PySem PySem.Spec PyProof.Rows L2
theorem PW.imp {X : Cx} {e : Expr} {t t' : TT} (h : PW X e t) (i : ∀ σ H Q, t' σ H Q → t σ H Q) : PW X e t' := ⟨fun wh pins s σ H Q I hq => h.run wh pins s σ H Q I (i σ H Q hq)⟩
def evalT (C : CallI) (a : Ex) (env : Env) (s : Sto) : Out Bool := (evalE C a env s).bind fun x s => .of (toB x) s
abbrev tB' (K : PySem.W.Frag) (G : Gm) (Z : WX) (m : Env → Sto → Out Bool) : TT := tG K G Z (fun _ b b' => b = b') m
section
variable {X : Cx} {G : Gm} {Z : WX} {C : CallI}
theorem Out.bind_bind {α β γ : Type} (m : Out α) (f : α → Sto → Out β) (g : β → Sto → Out γ) : (m.bind f).bind g = m.bind fun a s => (f a s).bind g := by cases m <;> rfl
theorem evalT_and {a b : Ex} {env : Env} {s : Sto} : evalT C (.and a b) env s = (evalT C a env s).bind fun t s => if t then evalT C b env s else .ok false s := by
  unfold evalT
  rw [evalE]
  cases evalE C a env s with
  | no => rfl
  | ex x s => rfl
  | ok w s1 =>
    cases w <;> try rfl
    rename_i t
    cases t with
    | false => rfl
    | true =>
      show ((evalE C b env s1).bind fun y s => (Out.of (toB y) s).bind fun u s => Out.ok (W.bl u) s).bind (fun x s => Out.of (toB x) s) = (evalE C b env s1).bind fun x s => .of (toB x) s
      cases evalE C b env s1 with
      | no => rfl
      | ex x s => rfl
      | ok w s1 => cases w <;> rfl
theorem evalT_or {a b : Ex} {env : Env} {s : Sto} : evalT C (.or a b) env s = (evalT C a env s).bind fun t s => if t then .ok true s else evalT C b env s := by
  unfold evalT
  rw [evalE]
  cases evalE C a env s with
  | no => rfl
  | ex x s => rfl
  | ok w s1 =>
    cases w <;> try rfl
    rename_i t
    cases t with
    | true => rfl
    | false =>
      show ((evalE C b env s1).bind fun y s => (Out.of (toB y) s).bind fun u s => Out.ok (W.bl u) s).bind (fun x s => Out.of (toB x) s) = (evalE C b env s1).bind fun x s => .of (toB x) s
      cases evalE C b env s1 with
      | no => rfl
      | ex x s => rfl
      | ok w s1 => cases w <;> rfl
theorem evalT_not {a : Ex} {env : Env} {s : Sto} : evalT C (.not a) env s = (evalT C a env s).bind fun t s => .ok (!t) s := by
  unfold evalT
  rw [evalE]
  cases evalE C a env s with
  | no => rfl
  | ex x s => rfl
  | ok w s1 => cases w <;> rfl
theorem st_val {e : Expr} {a : Ex} (h : PE X e (tE X.K G Z (evalE C a))) (he : ∀ whole, isTrue e X.env whole = (do let v ← whole; standAt e.pos; holding [v] (truthy v))) : PT X e (tB' X.K G Z (evalT C a)) := by
  refine PT.imp (pt_val h he) fun σ H Q hq => ?_
  obtain ⟨env, s, d, Ob, rfl, hE, hS, hk⟩ := hq
  unfold evalT at hk
  show tE X.K G Z (evalE C a) σ d.H fun v H1 => ∃ c, v = .bl c ∧ Q c H1
  refine tG.step hE hS hk fun u s1 d1 hE1 hS1 _ _ h1 v rv => ?_
  cases u with
  | bl b => exact ⟨b, rv.bl, h1.now hS1 _ rfl⟩
  | _ => exact h1.elim
theorem sw_and1 {a : Expr} {x : Ex} {pos : Pos} (h : PT X a (tB' X.K G Z (evalT C x))) : PW X (.BoolOp .And [a] pos) (tB' X.K G Z (evalT C x)) := pw_and1 h
theorem sw_or1 {a : Expr} {x : Ex} {pos : Pos} (h : PT X a (tB' X.K G Z (evalT C x))) : PW X (.BoolOp .Or [a] pos) (tB' X.K G Z (evalT C x)) := pw_or1 h
theorem sw_and {a b : Expr} {rest : List Expr} {x y : Ex} {pos : Pos} (h : PT X a (tB' X.K G Z (evalT C x))) (h2 : PW X (.BoolOp .And (b :: rest) pos) (tB' X.K G Z (evalT C y))) : PW X (.BoolOp .And (a :: b :: rest) pos) (tB' X.K G Z (evalT C (.and x y))) := by
  refine PW.imp (pw_and h h2) fun σ H Q hq => ?_
  obtain ⟨env, s, d, Ob, rfl, hE, hS, hk⟩ := hq
  rw [evalT_and] at hk
  show tB' X.K G Z (evalT C x) σ d.H fun c H1 => if c = true then tB' X.K G Z (evalT C y) σ H1 Q else Q false H1
  refine tG.step hE hS hk fun u s1 d1 hE1 hS1 _ _ h1 v rv => ?_
  subst rv
  cases u with
  | true => exact tG.go hE1 hS1 h1
  | false => exact h1.now hS1 _ rfl
theorem sw_or {a b : Expr} {rest : List Expr} {x y : Ex} {pos : Pos} (h : PT X a (tB' X.K G Z (evalT C x))) (h2 : PW X (.BoolOp .Or (b :: rest) pos) (tB' X.K G Z (evalT C y))) : PW X (.BoolOp .Or (a :: b :: rest) pos) (tB' X.K G Z (evalT C (.or x y))) := by
  refine PW.imp (pw_or h h2) fun σ H Q hq => ?_
  obtain ⟨env, s, d, Ob, rfl, hE, hS, hk⟩ := hq
  rw [evalT_or] at hk
  show tB' X.K G Z (evalT C x) σ d.H fun c H1 => if c = true then Q true H1 else tB' X.K G Z (evalT C y) σ H1 Q
  refine tG.step hE hS hk fun u s1 d1 hE1 hS1 _ _ h1 v rv => ?_
  subst rv
  cases u with
  | false => exact tG.go hE1 hS1 h1
  | true => exact h1.now hS1 _ rfl
theorem st_not {a : Expr} {x : Ex} {pos : Pos} (h : PT X a (tB' X.K G Z (evalT C x))) : PT X (.UnaryOp .Not a pos) (tB' X.K G Z (evalT C (.not x))) := by
  refine PT.imp (pt_not h) fun σ H Q hq => ?_
  obtain ⟨env, s, d, Ob, rfl, hE, hS, hk⟩ := hq
  rw [evalT_not] at hk
  show tB' X.K G Z (evalT C x) σ d.H fun c H1 => Q (!c) H1
  refine tG.step hE hS hk fun u s1 d1 hE1 hS1 _ _ h1 v rv => ?_
  subst rv
  exact h1.now hS1 _ rfl
theorem st_cmp {o : Cop} {a b : Expr} {x y : Ex} {pos : Pos} (hu : X.A.units + 65 < cLine) (hm : behindInMarks (copOf o) b = false) (ha : PE X a (tR X.K G Z (rdE C x))) (hb : PE X b (tR X.K G Z (rdE C y))) : PT X (.Compare a [copOf o] [b] pos) (tB' X.K G Z (evalT C (.cmp o x y))) := by
  obtain ⟨r, ho, hr⟩ := cop_ok (G := G) hu o
  refine PT.imp (pt_cmpR ho ha hb hm) fun σ H Q hq => ?_
  obtain ⟨env, s, d, Ob, rfl, hE, hS, hk⟩ := hq
  unfold evalT at hk
  rw [evalE, Out.bind_bind] at hk
  show tR X.K G Z (rdE C x) σ d.H fun vx H1 => tR X.K G Z (rdE C y) σ H1 fun vy H2 => r vx vy H2 fun z H' => ∃ k, z = .bl k ∧ Q k H'
  refine tG.step hE hS hk fun u s1 d1 hE1 hS1 _ _ h1 v rv => ?_
  rw [Out.bind_bind] at h1
  refine tG.step hE1 hS1 h1 fun u2 s2 d2 hE2 hS2 e2 eo2 h2 v2 rv2 => ?_
  rw [Out.bind_bind] at h2
  obtain ⟨w, ew, h3⟩ := h2.of_bind
  exact hr d2 u u2 w v v2 _ (rv.mono e2 eo2) rv2 ew ⟨w, rfl, h3.now hS2 _ rfl⟩
theorem st_isN {a : Expr} {x : Ex} {j pos' pos} (ha : PE X a (tE X.K G Z (evalE C x))) : PT X (.Compare a [.Is] [.Constant .none j pos'] pos) (tB' X.K G Z (evalT C (.isN x))) := by
  refine PT.imp (pt_cmp (pc_isN ha)) fun σ H Q hq => ?_
  obtain ⟨env, s, d, Ob, rfl, hE, hS, hk⟩ := hq
  unfold evalT at hk
  rw [evalE, Out.bind_bind] at hk
  show tE X.K G Z (evalE C x) σ d.H fun v H1 => ∃ c, V.bl (decide (v = .non)) = .bl c ∧ Q c H1
  refine tG.step hE hS hk fun u s1 d1 hE1 hS1 _ _ h1 v rv => ?_
  refine ⟨_, rfl, h1.now hS1 _ ?_⟩
  cases u <;> unfold RW at rv <;> first | (subst rv; rfl) | (obtain ⟨a, xs, rfl, _⟩ := rv; rfl) | (obtain ⟨a, rfl, _⟩ := rv; rfl) | (obtain ⟨a, kl, vl, rfl, _⟩ := rv; rfl) | exact rv.elim
theorem st_notN {a : Expr} {x : Ex} {j pos' pos} (ha : PE X a (tE X.K G Z (evalE C x))) : PT X (.Compare a [.IsNot] [.Constant .none j pos'] pos) (tB' X.K G Z (evalT C (.notN x))) := by
  refine PT.imp (pt_cmp (pc_notN ha)) fun σ H Q hq => ?_
  obtain ⟨env, s, d, Ob, rfl, hE, hS, hk⟩ := hq
  unfold evalT at hk
  rw [evalE, Out.bind_bind] at hk
  show tE X.K G Z (evalE C x) σ d.H fun v H1 => ∃ c, V.bl (!decide (v = .non)) = .bl c ∧ Q c H1
  refine tG.step hE hS hk fun u s1 d1 hE1 hS1 _ _ h1 v rv => ?_
  refine ⟨_, rfl, h1.now hS1 _ ?_⟩
  cases u <;> unfold RW at rv <;> first | (subst rv; rfl) | (obtain ⟨a, xs, rfl, _⟩ := rv; rfl) | (obtain ⟨a, rfl, _⟩ := rv; rfl) | (obtain ⟨a, kl, vl, rfl, _⟩ := rv; rfl) | exact rv.elim
/-! ### .. as values -/
theorem se_and {a b : Expr} {rest : List Expr} {x y : Ex} {pos : Pos} (h : PE X a (tE X.K G Z (evalE C x))) (h2 : PE X (.BoolOp .And (b :: rest) pos) (tE X.K G Z (evalE C y))) : PE X (.BoolOp .And (a :: b :: rest) pos) (tE X.K G Z (evalE C (.and x y))) := by
  refine PE.imp (pe_and h h2) fun σ H Q hq => ?_
  obtain ⟨env, s, d, Ob, rfl, hE, hS, hk⟩ := hq
  rw [evalE] at hk
  show tE X.K G Z (evalE C x) σ d.H fun v H1 => ∃ c, v = .bl c ∧ if c = true then tE X.K G Z (evalE C y) σ H1 Q else Q (.bl false) H1
  refine tG.step hE hS hk fun u s1 d1 hE1 hS1 _ _ h1 v rv => ?_
  cases u with
  | bl t =>
    refine ⟨t, rv.bl, ?_⟩
    cases t with
    | false => exact h1.now hS1 _ .mkB
    | true =>
      refine tG.step hE1 hS1 h1 fun u2 s2 d2 hE2 hS2 _ _ h2 v2 rv2 => ?_
      cases u2 with
      | bl t2 => exact h2.now hS2 _ rv2
      | _ => exact h2.elim
  | _ => exact h1.elim
theorem se_or {a b : Expr} {rest : List Expr} {x y : Ex} {pos : Pos} (h : PE X a (tE X.K G Z (evalE C x))) (h2 : PE X (.BoolOp .Or (b :: rest) pos) (tE X.K G Z (evalE C y))) : PE X (.BoolOp .Or (a :: b :: rest) pos) (tE X.K G Z (evalE C (.or x y))) := by
  refine PE.imp (pe_or h h2) fun σ H Q hq => ?_
  obtain ⟨env, s, d, Ob, rfl, hE, hS, hk⟩ := hq
  rw [evalE] at hk
  show tE X.K G Z (evalE C x) σ d.H fun v H1 => ∃ c, v = .bl c ∧ if c = true then Q (.bl true) H1 else tE X.K G Z (evalE C y) σ H1 Q
  refine tG.step hE hS hk fun u s1 d1 hE1 hS1 _ _ h1 v rv => ?_
  cases u with
  | bl t =>
    refine ⟨t, rv.bl, ?_⟩
    cases t with
    | true => exact h1.now hS1 _ .mkB
    | false =>
      refine tG.step hE1 hS1 h1 fun u2 s2 d2 hE2 hS2 _ _ h2 v2 rv2 => ?_
      cases u2 with
      | bl t2 => exact h2.now hS2 _ rv2
      | _ => exact h2.elim
  | _ => exact h1.elim
theorem se_not {a : Expr} {x : Ex} {pos : Pos} (h : PE X a (tE X.K G Z (evalE C x))) : PE X (.UnaryOp .Not a pos) (tE X.K G Z (evalE C (.not x))) := by
  refine PE.imp (pe_not h) fun σ H Q hq => ?_
  obtain ⟨env, s, d, Ob, rfl, hE, hS, hk⟩ := hq
  rw [evalE] at hk
  show tE X.K G Z (evalE C x) σ d.H fun v H1 => ∃ c, v = .bl c ∧ Q (.bl (!c)) H1
  refine tG.step hE hS hk fun u s1 d1 hE1 hS1 _ _ h1 v rv => ?_
  cases u with
  | bl t => exact ⟨t, rv.bl, h1.now hS1 _ .mkB⟩
  | _ => exact h1.elim
theorem se_ite {c a b : Expr} {z x y : Ex} {pos : Pos} (hc : PT X c (tB' X.K G Z (evalT C z))) (h : PE X a (tE X.K G Z (evalE C x))) (h2 : PE X b (tE X.K G Z (evalE C y))) : PE X (.IfExp c a b pos) (tE X.K G Z (evalE C (.ite z x y))) := by
  refine PE.imp (pe_ifExp hc h h2) fun σ H Q hq => ?_
  obtain ⟨env, s, d, Ob, rfl, hE, hS, hk⟩ := hq
  rw [evalE, ← Out.bind_bind] at hk
  show tB' X.K G Z (evalT C z) σ d.H fun c H1 => if c = true then tE X.K G Z (evalE C x) σ H1 Q else tE X.K G Z (evalE C y) σ H1 Q
  refine tG.step hE hS hk fun u s1 d1 hE1 hS1 _ _ h1 v rv => ?_
  subst rv
  cases u with
  | true => exact tG.go hE1 hS1 h1
  | false => exact tG.go hE1 hS1 h1
/-- a chain of two comparisons of ints -/
theorem chain_ok (o : Cop) (hn : copI o = true) : OpR X (compareOp (copOf o)) (rI0 fun i j => .bl (cmpI o i j)) := by
  cases o with
  | lt => exact op_lt
  | le => exact op_le
  | gt => exact op_gt
  | ge => exact op_ge
  | _ => cases hn
theorem se_chain {o p : Cop} {a b c : Expr} {x y z : Ex} {pos : Pos} (ho : copI o = true) (hp : copI p = true) (ha : PE X a (tE X.K G Z (evalE C x))) (hb : PE X b (tE X.K G Z (evalE C y))) (hc : PE X c (tE X.K G Z (evalE C z))) :
    PE X (.Compare a [copOf o, copOf p] [b, c] pos) (tE X.K G Z (evalE C (.chain o p x y z))) := by
  refine PE.imp (pe_chain (chain_ok o ho) (chain_ok p hp) ha hb hc (by cases p <;> first | exact nobehind _ (by decide) (by decide) | cases hp)) fun σ H Q hq => ?_
  obtain ⟨env, s, d, Ob, rfl, hE, hS, hk⟩ := hq
  rw [evalE] at hk
  show tE X.K G Z (evalE C x) σ d.H fun vx H1 => tE X.K G Z (evalE C y) σ H1 fun vy H2 => ∃ i j, vx = .int i ∧ vy = .int j ∧ ∃ k, V.bl (cmpI o i j) = .bl k ∧
    (if k = true then tE X.K G Z (evalE C z) σ H2 fun vz H4 => ∃ i j, vy = .int i ∧ vz = .int j ∧ Q (.bl (cmpI p i j)) H4 else Q (.bl false) H2)
  refine tG.step hE hS hk fun u s1 d1 hE1 hS1 _ _ h1 v rv => ?_
  refine tG.step hE1 hS1 h1 fun u2 s2 d2 hE2 hS2 e2 _ h2 v2 rv2 => ?_
  cases u with
  | int i => cases u2 with
    | int j =>
      refine ⟨i, j, rv.int, rv2.int, _, rfl, ?_⟩
      dsimp only at h2
      cases hk : cmpI o i j with
      | true =>
        rw [hk, if_pos rfl] at h2
        show tE X.K G Z (evalE C z) σ d2.H fun vz H4 => ∃ i j, v2 = .int i ∧ vz = .int j ∧ Q (.bl (cmpI p i j)) H4
        refine tG.step hE2 hS2 h2 fun u3 s3 d3 hE3 hS3 e3 _ h3 v3 rv3 => ?_
        cases u3 with
        | int k => exact ⟨j, k, rv2.int, rv3.int, h3.now hS3 _ .mkB⟩
        | _ => exact h3.elim
      | false =>
        rw [hk, if_neg Bool.false_ne_true] at h2
        exact h2.now hS2 _ .mkB
    | _ => exact h2.elim
  | _ => exact h2.elim
theorem st_chain {o p : Cop} {a b c : Expr} {x y z : Ex} {pos : Pos} (ho : copI o = true) (hp : copI p = true) (ha : PE X a (tE X.K G Z (evalE C x))) (hb : PE X b (tE X.K G Z (evalE C y))) (hc : PE X c (tE X.K G Z (evalE C z))) :
    PT X (.Compare a [copOf o, copOf p] [b, c] pos) (tB' X.K G Z (evalT C (.chain o p x y z))) := by
  refine PT.imp (pt_chain (chain_ok o ho) (chain_ok p hp) ha hb hc (by cases p <;> first | exact nobehind _ (by decide) (by decide) | cases hp)) fun σ H Q hq => ?_
  obtain ⟨env, s, d, Ob, rfl, hE, hS, hk⟩ := hq
  unfold evalT at hk
  rw [evalE, Out.bind_bind] at hk
  show tE X.K G Z (evalE C x) σ d.H fun vx H1 => tE X.K G Z (evalE C y) σ H1 fun vy H2 => ∃ i j, vx = .int i ∧ vy = .int j ∧ ∃ k, V.bl (cmpI o i j) = .bl k ∧
    (if k = true then tE X.K G Z (evalE C z) σ H2 fun vz H4 => ∃ i j, vy = .int i ∧ vz = .int j ∧ ∃ k, V.bl (cmpI p i j) = .bl k ∧ Q k H4 else ∃ k, V.bl false = .bl k ∧ Q k H2)
  refine tG.step hE hS hk fun u s1 d1 hE1 hS1 _ _ h1 v rv => ?_
  rw [Out.bind_bind] at h1
  refine tG.step hE1 hS1 h1 fun u2 s2 d2 hE2 hS2 e2 _ h2 v2 rv2 => ?_
  cases u with
  | int i => cases u2 with
    | int j =>
      refine ⟨i, j, rv.int, rv2.int, _, rfl, ?_⟩
      dsimp only at h2
      cases hk : cmpI o i j with
      | true =>
        rw [hk, if_pos rfl, Out.bind_bind] at h2
        show tE X.K G Z (evalE C z) σ d2.H fun vz H4 => ∃ i j, v2 = .int i ∧ vz = .int j ∧ ∃ k, V.bl (cmpI p i j) = .bl k ∧ Q k H4
        refine tG.step hE2 hS2 h2 fun u3 s3 d3 hE3 hS3 e3 _ h3 v3 rv3 => ?_
        cases u3 with
        | int k => exact ⟨j, k, rv2.int, rv3.int, _, rfl, h3.now hS3 _ rfl⟩
        | _ => exact h3.elim
      | false =>
        rw [hk, if_neg Bool.false_ne_true] at h2
        exact ⟨_, rfl, h2.now hS2 _ rfl⟩
    | _ => exact h2.elim
  | _ => exact h2.elim

/-! ### displays -/
theorem sl_nil : PA X [] (tL X.K G Z (evalL C [])) := by
  refine PA.imp pa_nil fun σ H Q hq => ?_
  obtain ⟨env, s, d, Ob, rfl, hE, hS, hk⟩ := hq
  rw [evalL] at hk
  exact hk.now hS _ .nil
theorem sl_cons {e : Expr} {es : List Expr} {x : Ex} {xs : List Ex} (hx : ∀ y, x ≠ .star y) (h : PE X e (tE X.K G Z (evalE C x))) (h2 : PA X es (tL X.K G Z (evalL C xs))) (hs : starEach (e :: es) X.env = (false, eval e X.env) :: starEach es X.env) : PA X (e :: es) (tL X.K G Z (evalL C (x :: xs))) := by
  refine PA.imp (pa_cons h h2 hs) fun σ H Q hq => ?_
  obtain ⟨env, s, d, Ob, rfl, hE, hS, hk⟩ := hq
  have : evalL C (x :: xs) env s = (evalE C x env s).bind fun x s => (evalL C xs env s).bind fun r s => .ok (x :: r) s := by
    cases x <;> first | rfl | exact absurd rfl (hx _)
  rw [this] at hk
  show tE X.K G Z (evalE C x) σ d.H fun v H1 => tL X.K G Z (evalL C xs) σ H1 fun vs H2 => Q (v :: vs) H2
  refine tG.step hE hS hk fun u s1 d1 hE1 hS1 _ _ h1 v rv => ?_
  refine tG.step hE1 hS1 h1 fun u2 s2 d2 hE2 hS2 e2 _ h2 v2 rv2 => ?_
  exact h2.now hS2 _ (.cons (rv.mono e2) rv2)
theorem sl_star {e : Expr} {p : Pos} {es : List Expr} {x : Ex} {xs : List Ex} (h : PE X e (tE X.K G Z (evalE C x))) (h2 : PA X es (tL X.K G Z (evalL C xs))) : PA X (.Starred e p :: es) (tL X.K G Z (evalL C (.star x :: xs))) := by
  refine PA.imp (StX.pa_star h h2) fun σ H Q hq => ?_
  obtain ⟨env, s, d, Ob, rfl, hE, hS, hk⟩ := hq
  rw [evalL] at hk
  show tE X.K G Z (evalE C x) σ d.H fun v H1 => ∃ p xs', v = V.ref p ∧ (SqT X.K H1 p xs' ∨ SqL X.K H1 p xs') ∧ tL X.K G Z (evalL C xs) σ H1 fun ys H2 => Q (xs' ++ ys) H2
  refine tG.step hE hS hk fun u s1 d1 hE1 hS1 _ _ h1 v rv => ?_
  cases u with
  | tup l =>
    obtain ⟨a, vs, rfl, ht, r⟩ := rv.tup
    refine ⟨a, vs, rfl, .inl ht, ?_⟩
    refine tG.step hE1 hS1 h1 fun u2 s2 d2 hE2 hS2 e2 _ h2 v2 rv2 => ?_
    split at h2
    · exact h2.now hS2 _ ((r.mono e2).append rv2)
    · exact h2.elim
  | _ => exact h1.elim
theorem Out.bind_inv {α β : Type} {m : Out α} {f : α → Sto → Out β} {b : β} {s' : Sto} (h : m.bind f = .ok b s') : ∃ a s1, m = .ok a s1 ∧ f a s1 = .ok b s' := by
  cases m with
  | ok a s => exact ⟨a, s, rfl, h⟩
  | ex x s => cases h
  | no => cases h
theorem evalL_len : ∀ (xs : List Ex) (env : Env) (s : Sto) (l : List W) (s' : Sto), evalL C xs env s = .ok l s' → l.length ≤ lim + xs.length
  | [], env, s, l, s', h => by
    rw [evalL] at h
    cases h
    simp
  | x :: xs, env, s, l, s', h => by
    by_cases hx : ∃ y, x = .star y
    · obtain ⟨y, rfl⟩ := hx
      rw [evalL] at h
      obtain ⟨a, s1, e1, h⟩ := Out.bind_inv h
      cases a with
      | tup k =>
        obtain ⟨r, s2, e2, h⟩ := Out.bind_inv h
        split at h
        · cases h
          rename_i hl
          rw [List.length_append, List.length_cons]
          omega
        · cases h
      | _ => cases h
    · have : evalL C (x :: xs) env s = (evalE C x env s).bind fun x s => (evalL C xs env s).bind fun r s => .ok (x :: r) s := by
        cases x <;> first | rfl | exact absurd ⟨_, rfl⟩ hx
      rw [this] at h
      obtain ⟨a, s1, e1, h⟩ := Out.bind_inv h
      obtain ⟨r, s2, e2, h⟩ := Out.bind_inv h
      cases h
      have := evalL_len xs env s1 r _ e2
      rw [List.length_cons, List.length_cons]
      omega
theorem lim_line {n : Nat} (h : n ≤ lim + 400000) : n ≤ sizeLine := Nat.le_trans h (by decide)
/-- .. with the equation of the outcome -/
theorem tG.stepE {K : PySem.W.Frag} {α β γ : Type} {R : Wd → α → β → Prop} {m : Env → Sto → Out α} {f : α → Sto → Out γ} {env : Env} {s : Sto} {d : Wd} {Ob : Addr → Prop} {σ : L2.St} {Q : β → Hp → Prop} {P : γ → Sto → Wd → Prop} (hE : SimE K G Ob env d σ) (hS : SimS K G s d)
    (h : Oks K G d.Ow d P (fun cls dd d' => Z cls dd σ d'.H) ((m env s).bind f))
    (k : ∀ a s1 d1, m env s = .ok a s1 → SimE K G Ob env d1 σ → SimS K G s1 d1 → Evo K d.Ow d d1 → d1.Ow = d.Ow → Oks K G d1.Ow d1 P (fun cls dd d' => Z cls dd σ d'.H) (f a s1) → ∀ v, R d1 a v → Q v d1.H) : tG K G Z R m σ d.H Q := by
  refine tG.go hE hS ?_
  have hb := Oks.bind h
  revert hb
  cases hm : m env s with
  | no => exact id
  | ex x s' => exact id
  | ok a s1 => exact fun hb d1 e eo ss v r => k a s1 d1 hm (hE.mono e eo) ss e eo (by rw [eo]; exact hb d1 e eo ss) v r
theorem se_tup {es : List Expr} {xs : List Ex} {k pos} (h : PA X es (tL X.K G Z (evalL C xs))) (hl : xs.length ≤ 400000) : PE X (.Tuple es k pos) (tE X.K G Z (evalE C (.tup xs))) := by
  refine PE.imp (pe_tup h) fun σ H Q hq => ?_
  obtain ⟨env, s, d, Ob, rfl, hE, hS, hk⟩ := hq
  rw [evalE] at hk
  show tL X.K G Z (evalL C xs) σ d.H fun vs H1 => vs.length ≤ sizeLine ∧ ∀ p, H1 p = none → Q (.ref p) (upd H1 p (.tup vs))
  refine tG.stepE hE hS hk fun u s1 d1 hm hE1 hS1 _ _ h1 v rv => ⟨?_, fun p hp => new_tup hS1 hp rv h1⟩
  rw [rv.len]
  have := evalL_len xs env s u s1 hm
  exact lim_line (by omega)
/-- a new list, at hand -/
theorem new_lst {K : PySem.W.Frag} {s : Sto} {d : Wd} {p : Addr} {l : List W} {xs : List V} {Y : Value → Option Addr → Wd → Prop} {Q : V → Hp → Prop} (hS : SimS K G s d) (hp : d.H p = none) (r : RWs K G d l xs)
    (h : Oks K G d.Ow d (fun w _ d' => ∀ v, RN K G d' w v → Q v d'.H) Y (.ok (.lst l) s)) : Q (.ref p) (upd d.H p (.lst xs)) := by
  obtain ⟨e1, s1⟩ := hS.fresh (o := .lst xs) hp false
  refine h _ e1 rfl s1 (.ref p) ⟨p, rfl, ?_, ?_, ?_, xs, upd_same, r.mono e1⟩
  · rintro (hf | ⟨hf, _⟩)
    · exact (hS.good.fh p hf).ne hp
    · cases hf
  · exact fun ho => (hS.good.oh p ho).ne hp
  · intro ha
    obtain ⟨n, hn⟩ := List.getElem?_of_mem ha
    have hl : n < s.length := by rw [hS.len]; exact (List.getElem?_eq_some_iff.mp hn).1
    obtain ⟨b, xs, e1, e2, _⟩ := hS.at_ n _ (List.getElem?_eq_getElem hl)
    rw [hn] at e1
    cases e1
    rw [hp] at e2
    cases e2
theorem sn_lst {es : List Expr} {xs : List Ex} {pos} (h : PA X es (tL X.K G Z (evalL C xs))) (hl : xs.length ≤ 400000) : PE X (.List es pos) (tN X.K G Z (evalE C (.lst xs))) := by
  refine PE.imp (pe_lst h) fun σ H Q hq => ?_
  obtain ⟨env, s, d, Ob, rfl, hE, hS, hk⟩ := hq
  rw [evalE] at hk
  show tL X.K G Z (evalL C xs) σ d.H fun vs H1 => vs.length ≤ sizeLine ∧ ∀ p, H1 p = none → Q (.ref p) (upd H1 p (.lst vs))
  refine tG.stepE hE hS hk fun u s1 d1 hm hE1 hS1 _ _ h1 v rv => ⟨?_, fun p hp => new_lst hS1 hp rv h1⟩
  rw [rv.len]
  have := evalL_len xs env s u s1 hm
  exact lim_line (by omega)

/-! ### built-ins -/
inductive RRs (K : PySem.W.Frag) (G : Gm) (d : Wd) : List W → List V → Prop where
  | nil : RRs K G d [] []
  | cons {w : W} {v : V} {ws : List W} {vs : List V} (h : RR K G d w v) (t : RRs K G d ws vs) : RRs K G d (w :: ws) (v :: vs)
theorem RRs.mono {K : PySem.W.Frag} {d d' : Wd} {ws : List W} {vs : List V} (e : Evo K d.Ow d d') (eo : d'.Ow = d.Ow) (r : RRs K G d ws vs) : RRs K G d' ws vs := by
  induction r with
  | nil => exact .nil
  | cons h _ ih => exact .cons (h.mono e eo) ih
abbrev tRs (K : PySem.W.Frag) (G : Gm) (Z : WX) (m : Env → Sto → Out (List W)) : TA := tG K G Z (RRs K G) m
theorem sr_nil : PA X [] (tRs X.K G Z (evalRs C [])) := by
  refine PA.imp pa_nil fun σ H Q hq => ?_
  obtain ⟨env, s, d, Ob, rfl, hE, hS, hk⟩ := hq
  rw [evalRs] at hk
  exact hk.now hS _ .nil
theorem sr_cons {e : Expr} {es : List Expr} {x : Ex} {xs : List Ex} (h : PE X e (tR X.K G Z (rdE C x))) (h2 : PA X es (tRs X.K G Z (evalRs C xs))) (hs : starEach (e :: es) X.env = (false, eval e X.env) :: starEach es X.env) : PA X (e :: es) (tRs X.K G Z (evalRs C (x :: xs))) := by
  refine PA.imp (pa_cons h h2 hs) fun σ H Q hq => ?_
  obtain ⟨env, s, d, Ob, rfl, hE, hS, hk⟩ := hq
  rw [evalRs] at hk
  show tR X.K G Z (rdE C x) σ d.H fun v H1 => tRs X.K G Z (evalRs C xs) σ H1 fun vs H2 => Q (v :: vs) H2
  refine tG.step hE hS hk fun u s1 d1 hE1 hS1 _ _ h1 v rv => ?_
  refine tG.step hE1 hS1 h1 fun u2 s2 d2 hE2 hS2 e2 eo2 h2 v2 rv2 => ?_
  exact h2.now hS2 _ (.cons (rv.mono e2 eo2) rv2)
/-- a built-in of the small language and the model's -/
def biId : Bi → Value
  | .len => .builtin "len"
  | .tuple => .type "tuple"
  | .list => .type "list"
  | .all => .builtin "all"
  | .sum => .builtin "sum"
  | .max => .builtin "max"
  | .min => .builtin "min"
  | .repr => .builtin "repr"
  | .abs => .builtin "abs"
  | .sorted => .builtin "sorted"
  | .any => .builtin "any"
  | .int => .type "int"
  | .str => .type "str"
theorem foldl_max : ∀ (r : List Int) (i : Int), (r.foldl max i = i ∨ r.foldl max i ∈ r) ∧ i ≤ r.foldl max i ∧ ∀ y ∈ r, y ≤ r.foldl max i
  | [], i => ⟨.inl rfl, Int.le_refl _, fun y h => nomatch h⟩
  | j :: r, i => by
    obtain ⟨h1, h2, h3⟩ := foldl_max r (max i j)
    show (r.foldl max (max i j) = i ∨ r.foldl max (max i j) ∈ j :: r) ∧ i ≤ r.foldl max (max i j) ∧ ∀ y ∈ j :: r, y ≤ r.foldl max (max i j)
    refine ⟨?_, by omega, fun y hy => ?_⟩
    · rcases h1 with h1 | h1
      · rcases Int.le_total i j with q | q
        · exact .inr (by rw [h1, Int.max_eq_right q]; exact List.mem_cons_self)
        · exact .inl (by rw [h1, Int.max_eq_left q])
      · exact .inr (List.mem_cons_of_mem _ h1)
    · rcases List.mem_cons.mp hy with rfl | hy
      · omega
      · exact h3 y hy
theorem foldl_min : ∀ (r : List Int) (i : Int), (r.foldl min i = i ∨ r.foldl min i ∈ r) ∧ r.foldl min i ≤ i ∧ ∀ y ∈ r, r.foldl min i ≤ y
  | [], i => ⟨.inl rfl, Int.le_refl _, fun y h => nomatch h⟩
  | j :: r, i => by
    obtain ⟨h1, h2, h3⟩ := foldl_min r (min i j)
    show (r.foldl min (min i j) = i ∨ r.foldl min (min i j) ∈ j :: r) ∧ r.foldl min (min i j) ≤ i ∧ ∀ y ∈ j :: r, r.foldl min (min i j) ≤ y
    refine ⟨?_, by omega, fun y hy => ?_⟩
    · rcases h1 with h1 | h1
      · rcases Int.le_total i j with q | q
        · exact .inl (by rw [h1, Int.min_eq_left q])
        · exact .inr (by rw [h1, Int.min_eq_right q]; exact List.mem_cons_self)
      · exact .inr (List.mem_cons_of_mem _ h1)
    · rcases List.mem_cons.mp hy with rfl | hy
      · omega
      · exact h3 y hy
theorem RRs.one {K : PySem.W.Frag} {d : Wd} {w : W} {vs : List V} (h : RRs K G d [w] vs) : ∃ v, vs = [v] ∧ RR K G d w v := by
  cases h with
  | cons h t => cases t; exact ⟨_, rfl, h⟩
theorem RRs.two {K : PySem.W.Frag} {d : Wd} {w w' : W} {vs : List V} (h : RRs K G d [w, w'] vs) : ∃ v v', vs = [v, v'] ∧ RR K G d w v ∧ RR K G d w' v' := by
  cases h with
  | cons h t =>
    obtain ⟨v', rfl, h'⟩ := t.one
    exact ⟨_, _, rfl, h, h'⟩
/-- what a rule gives, from the values of the small language -/
def BiOk (X : Cx) (G : Gm) (R : Wd → W → V → Prop) (b : Bi) (f : Value) : Prop := ∃ r, CallR X f r ∧ ∀ (s : Sto) (d : Wd) (ws : List W) (w : W) (vs : List V) (Q : VK) (Y : Value → Option Addr → Wd → Prop), SimS X.K G s d → RRs X.K G d ws vs → biV s b ws = some w →
    Oks X.K G d.Ow d (fun w _ d' => ∀ v, R d' w v → Q v d'.H) Y (.ok w s) → r vs d.H Q
theorem bi_len : BiOk X G (RW X.K G) .len (.builtin "len") := by
  refine ⟨_, CallR.or (CallR.or call_len_seq call_lenK) call_len_str, fun s d ws w vs Q Y hS rs hb h => ?_⟩
  match ws, rs, hb with
  | [], _, hb => cases hb
  | [u], rs, hb =>
    obtain ⟨v, rfl, r⟩ := rs.one
    by_cases hu : ∃ ks vs, u = .map ks vs
    · obtain ⟨ks, vs, rfl⟩ := hu
      simp only [biV, lenV] at hb
      cases hb
      obtain ⟨a, kl, vl, rfl, t, rk, _⟩ := r.map
      refine .inl (.inr ⟨a, rfl, ?_⟩)
      have hl := rk.len
      have := h.now hS (.int (ks.length : Int)) .mkI
      rcases t with ⟨kvs, hd, h1, rfl, _⟩ | ⟨kvs, hd, h1, rfl, _⟩
      · rw [List.length_map] at hl
        exact .inl ⟨kvs, hd, by rw [hl]; exact this⟩
      · rw [List.length_map] at hl
        exact .inr ⟨kvs, hd, by rw [hl]; exact this⟩
    by_cases hz : ∃ z, u = .str z
    · obtain ⟨z, rfl⟩ := hz
      simp only [biV, lenV] at hb
      split at hb
      · rename_i hz
        cases hb
        exact .inr ⟨z, by rw [r.str], lim_line (Nat.le_trans hz (Nat.le_add_right _ _)), h.now hS _ .mkI⟩
      · cases hb
    have hb : (elems s u).map (fun l => W.int l.length) = some w := by
      cases u <;> first | exact hb | exact absurd ⟨_, _, rfl⟩ hu | exact absurd ⟨_, rfl⟩ hz
    cases e : elems s u with
    | none => rw [e] at hb; cases hb
    | some l =>
      rw [e] at hb
      cases hb
      obtain ⟨a, xs, rfl, hq, q⟩ := r.seq hS e
      refine .inl (.inl ⟨a, xs, rfl, hq, ?_⟩)
      have := h.now hS (.int (l.length : Int)) .mkI
      rw [q.len]
      exact this
  | _ :: _ :: _, _, hb => cases hb
theorem bi_tuple : BiOk X G (RW X.K G) .tuple (.type "tuple") := by
  refine ⟨_, call_tuple_of, fun s d ws w vs Q Y hS rs hb h => ?_⟩
  match ws, rs, hb with
  | [], _, hb => cases hb
  | [u], rs, hb =>
    obtain ⟨v, rfl, r⟩ := rs.one
    simp only [biV] at hb
    cases e : elems s u with
    | none => rw [e] at hb; cases hb
    | some l =>
      rw [e] at hb
      cases hb
      obtain ⟨a, xs, rfl, hq, q⟩ := r.seq hS e
      refine ⟨a, xs, rfl, ?_⟩
      rcases hq with hq | hq
      · exact .inl ⟨hq, fun p hp => new_tup hS hp q h⟩
      · exact .inr ⟨hq, h.now hS _ (.mkT hq q)⟩
  | _ :: _ :: _, _, hb => cases hb
theorem bi_list : BiOk X G (RN X.K G) .list (.type "list") := by
  refine ⟨_, call_list_of, fun s d ws w vs Q Y hS rs hb h => ?_⟩
  match ws, rs, hb with
  | [], _, hb => cases hb
  | [u], rs, hb =>
    obtain ⟨v, rfl, r⟩ := rs.one
    simp only [biV] at hb
    cases e : elems s u with
    | none => rw [e] at hb; cases hb
    | some l =>
      rw [e] at hb
      cases hb
      obtain ⟨a, xs, rfl, hq, q⟩ := r.seq hS e
      exact ⟨a, xs, rfl, hq, fun p hp => new_lst hS hp q h⟩
  | _ :: _ :: _, _, hb => cases hb
theorem bi_all (hc : X.calm = true) : BiOk X G (RW X.K G) .all (.builtin "all") := by
  refine ⟨_, cr_all hc, fun s d ws w vs Q Y hS rs hb h => ?_⟩
  match ws, rs, hb with
  | [], _, hb => cases hb
  | [u], rs, hb =>
    obtain ⟨v, rfl, r⟩ := rs.one
    simp only [biV] at hb
    cases e : listOf s u with
    | none => rw [e] at hb; cases hb
    | some l =>
      rw [e] at hb
      cases e2 : boolsL l with
      | none => simp [e2] at hb
      | some bs =>
        simp [e2] at hb
        subst hb
        obtain ⟨a, xs, rfl, hq, q⟩ := r.list hS e
        rw [RWs.bools e2 q] at hq
        exact ⟨a, bs, rfl, hq, h.now hS _ .mkB⟩
  | _ :: _ :: _, _, hb => cases hb
theorem bi_any (hc : X.calm = true) : BiOk X G (RW X.K G) .any (.builtin "any") := by
  refine ⟨_, cr_any hc, fun s d ws w vs Q Y hS rs hb h => ?_⟩
  match ws, rs, hb with
  | [], _, hb => cases hb
  | [u], rs, hb =>
    obtain ⟨v, rfl, r⟩ := rs.one
    simp only [biV] at hb
    cases e : listOf s u with
    | none => rw [e] at hb; cases hb
    | some l =>
      rw [e] at hb
      cases e2 : boolsL l with
      | none => simp [e2] at hb
      | some bs =>
        simp [e2] at hb
        subst hb
        obtain ⟨a, xs, rfl, hq, q⟩ := r.list hS e
        rw [RWs.bools e2 q] at hq
        exact ⟨a, bs, rfl, hq, by simpa using h.now hS _ .mkB⟩
  | _ :: _ :: _, _, hb => cases hb
theorem bi_int : BiOk X G (RW X.K G) .int (.type "int") := by
  refine ⟨_, CallR.or call_int1 call_int_str, fun s d ws w vs Q Y hS rs hb h => ?_⟩
  match ws, rs, hb with
  | [], _, hb => cases hb
  | [u], rs, hb =>
    obtain ⟨v, rfl, r⟩ := rs.one
    cases u with
    | int i =>
      simp only [biV] at hb
      cases hb
      exact .inl (.inl ⟨i, by rw [r.int], h.now hS _ .mkI⟩)
    | bl b =>
      simp only [biV] at hb
      cases hb
      exact .inl (.inr ⟨b, by rw [r.bl], h.now hS _ .mkI⟩)
    | str z =>
      simp only [biV] at hb
      split at hb
      · rename_i hz
        cases e : intText? z with
        | none => rw [e] at hb; cases hb
        | some n =>
          rw [e] at hb
          cases hb
          exact .inr ⟨z, n, by rw [r.str], e, hz, h.now hS _ .mkI⟩
      · cases hb
    | _ => simp only [biV] at hb; cases hb
  | u :: u' :: r, _, hb => cases u <;> cases hb
theorem bi_str : BiOk X G (RW X.K G) .str (.type "str") := by
  refine ⟨_, call_str_int, fun s d ws w vs Q Y hS rs hb h => ?_⟩
  match ws, rs, hb with
  | [], _, hb => cases hb
  | [u], rs, hb =>
    obtain ⟨v, rfl, r⟩ := rs.one
    cases u with
    | int i =>
      simp only [biV] at hb
      split at hb
      · rename_i hz
        cases hb
        exact ⟨i, by rw [r.int], hz, h.now hS _ (by unfold RW; rfl)⟩
      · cases hb
    | _ => simp only [biV] at hb; cases hb
  | u :: u' :: r, _, hb => cases u <;> cases hb
/-- sum(t) of a tuple of ints -/
theorem sum_tupG {prog : Program} {w : World} {A : Around} {E : Value → Shared → Prop} {s : Shared} {l : Addr} {xs : Array (Int × Tok)} {Q : Value → Shared → Prop} (hh : A.handled = none) (hl : s.heap.IsTuple l (intItems xs))
    (h : ∀ h' tk t', (∀ b o, s.heap.get? b = some o → h'.get? b = some o) → Q (.int (preSum (numAt xs) xs.size) t') { s with heap := h', toks := tk }) :
    wpAny (model prog w) A (call (.builtin "sum") [.ref l]) Q E s := by
  have hlt : l < s.heap.objs.size := by obtain ⟨_, e, _⟩ := hl; exact Heap.lt_size e
  refine call_sum_walkG (wpAny_pyIter_tuple hl ?_)
  refine ⟨_, _, _, _, _, _, numAt xs, rfl, Walks.tuple (A := A.in1) hh _ l (Nat.ne_of_lt hlt) (intItems xs), ⟨⟨_, Heap.get?_push_size _ rfl, rfl, rfl⟩, hl.push _⟩, fun b hb => ?_, (fun _ _ => intItems_at), fun h' tk t' hk => ?_⟩
  · show b < (s.heap.push _).objs.size
    rw [Heap.size_push]
    rcases List.mem_cons.mp hb with rfl | hb
    · exact Nat.lt_succ_self _
    · rcases List.mem_cons.mp hb with rfl | hb
      · exact Nat.lt_succ_of_lt hlt
      · cases hb
  · have := h h' tk t' (fun b o eb => hk b o (fun hb => absurd (Heap.lt_size eb) ((List.mem_singleton.mp hb) ▸ Nat.lt_irrefl _)) (Heap.get?_push_of_some _ eb))
    simpa [intItems] using this
def rSumT (K : PySem.W.Frag) : List V → Hp → VK → Prop := fun vs H Q => ∃ (a : Addr) (ns : List Int), vs = [V.ref a] ∧ SqT K H a (ns.map V.int) ∧ Q (.int ns.sum) H
theorem cr_sumT (hc : X.calm = true) : CallR X (.builtin "sum") (rSumT X.K) := by
  intro pins s σ H vs us Q I r h
  obtain ⟨a, ns, rfl, hs, q⟩ := h
  obtain ⟨its, rv, hl, _⟩ := I.tuple hs
  rw [Vals.ref1 r]
  have hi := rv.ints
  obtain ⟨xs, e⟩ := hi.allInts.items
  have hn : numsOf (intItems xs).toList = ns := by rw [← e]; exact hi.numsOf
  rw [nums_intItems] at hn
  rw [e] at hl
  refine sum_tupG (I.ok.hd hc) (show s.heap.IsTuple a (intItems xs) from hl) fun h' tk t' hk => ?_
  rw [preSum_eq, List.take_of_length_le (by simp), hn]
  exact ⟨.int _, H, I.kept hk, ⟨_, rfl⟩, q⟩
theorem bi_sum (hc : X.calm = true) : BiOk X G (RW X.K G) .sum (.builtin "sum") := by
  refine ⟨_, (cr_sum hc).or (cr_sumT hc), fun s d ws w vs Q Y hS rs hb h => ?_⟩
  match ws, rs, hb with
  | [], _, hb => cases hb
  | [u], rs, hb =>
    obtain ⟨v, rfl, r⟩ := rs.one
    simp only [biV] at hb
    cases e : elems s u with
    | none => rw [e] at hb; cases hb
    | some l =>
      rw [e] at hb
      cases e2 : intsL l with
      | none => simp [e2] at hb
      | some bs =>
        simp [e2] at hb
        subst hb
        obtain ⟨a, xs, rfl, hq, q⟩ := RR.seq hS r e
        rw [RWs.ints e2 q] at hq
        rcases hq with hq | hq
        · exact .inl ⟨a, bs, rfl, hq, h.now hS _ .mkI⟩
        · exact .inr ⟨a, bs, rfl, hq, h.now hS _ .mkI⟩
  | _ :: _ :: _, _, hb => cases hb
theorem bi_max (hc : X.calm = true) : BiOk X G (RW X.K G) .max (.builtin "max") := by
  refine ⟨_, (call_max2 hc).or (cr_max hc), fun s d ws w vs Q Y hS rs hb h => ?_⟩
  match ws, rs, hb with
  | [], _, hb => cases hb
  | [u], rs, hb =>
    refine .inr ?_
    obtain ⟨v, rfl, r⟩ := rs.one
    simp only [biV] at hb
    cases e : listOf s u with
    | none => rw [e] at hb; cases hb
    | some l =>
      rw [e] at hb
      cases e2 : intsL l with
      | none => simp [e2] at hb
      | some is =>
        cases is with
        | nil => simp [e2, maxL] at hb
        | cons i is =>
          simp [e2, maxL] at hb
          subst hb
          obtain ⟨a, xs, rfl, hq, q⟩ := r.list hS e
          rw [RWs.ints e2 q] at hq
          refine ⟨a, i :: is, rfl, hq, Nat.succ_pos _, fun m hm hy => ?_⟩
          obtain ⟨h1, h2, h3⟩ := foldl_max is i
          have hin : is.foldl max i ∈ i :: is := h1.elim (fun z => by rw [z]; exact List.mem_cons_self) (List.mem_cons_of_mem _)
          have e3 : m = is.foldl max i := Int.le_antisymm ((List.mem_cons.mp hm).elim (fun z => z ▸ h2) (h3 m)) (hy _ hin)
          rw [e3]
          exact h.now hS _ .mkI
  | [u, u'], rs, hb =>
    refine .inl ?_
    obtain ⟨v, v', rfl, r, r'⟩ := rs.two
    cases u <;> cases u' <;> simp only [biV] at hb <;> first | cases hb | skip
    refine ⟨_, _, by rw [r.int, r'.int], ?_⟩
    have := h.now hS _ .mkI
    rename_i i j
    have e : (if j > i then j else i) = max i j := by
      rw [Int.max_def]
      split <;> split <;> omega
    rw [e]
    exact this
  | u :: u' :: u'' :: r, _, hb => cases u <;> cases u' <;> cases hb
theorem bi_min (hc : X.calm = true) (hu : X.A.units + 65 < cLine) : BiOk X G (RW X.K G) .min (.builtin "min") := by
  refine ⟨_, (call_min2 hc).or ((cr_min hc).or (cr_minD hc hu)), fun s d ws w vs Q Y hS rs hb h => ?_⟩
  match ws, rs, hb with
  | [], _, hb => cases hb
  | [u], rs, hb =>
    refine .inr ?_
    obtain ⟨v, rfl, r⟩ := rs.one
    have data : ∀ {l : List W} {a : Addr} {xs : List V}, minG l = some w → v = .ref a → (SqL X.K d.H a xs ∨ SqT X.K d.H a xs) → RWs X.K G d l xs → rMinD X.K [v] d.H fun v H => Q v H := fun {l a xs} hb ev hq q => by
      subst ev
      obtain ⟨x, xs', rfl, n1, al, hm, hd⟩ := minG_ok hb
      have nd := isNs_isDs _ _ n1
      have dp := RWs.dp nd q
      refine ⟨a, xs, toD x, toDs xs', rfl, hq, by rw [toDs] at dp; exact dp, by rw [toDs] at al; exact al, ?_, fun i v hv hi => ?_⟩
      · have := (isDs_ok _ _ nd).2
        rw [toDs] at this
        omega
      · obtain ⟨u', e3, r3⟩ := q.getV hv
        have hw : u' = w := by
          refine toD_inj u' w 30 30 (isNs_mem n1 (List.mem_of_getElem? e3)) (isNs_mem n1 hm) ?_
          have e4 : (toDs (x :: xs'))[i]? = some (PySem.W.minD (toD x) (toDs xs')) := by rw [toDs]; exact hi
          rw [toDs_map, List.getElem?_map, e3] at e4
          rw [hd]
          exact Option.some.inj e4
        subst hw
        exact h.now hS _ r3
    by_cases ht : ∃ l, u = .tup l
    · obtain ⟨l, rfl⟩ := ht
      simp only [biV] at hb
      obtain ⟨a, xs, ev, hq, q⟩ := r.seq hS (show elems s (.tup l) = some l from rfl)
      exact .inr (data hb ev hq q)
    have hb : (listOf s u).bind minW = some w := by
      rw [← hb]
      cases u <;> first | rfl | exact absurd ⟨_, rfl⟩ ht
    cases e : listOf s u with
    | none => rw [e] at hb; cases hb
    | some l =>
      rw [e, Option.bind_some] at hb
      unfold minW at hb
      cases e2 : intsL l with
      | none =>
        rw [e2] at hb
        refine .inr ?_
        obtain ⟨a, xs, ev, hq, q⟩ := r.list hS e
        exact data hb ev (.inl hq) q
      | some is =>
        refine .inl ?_
        cases is with
        | nil => simp [e2, minL] at hb
        | cons i is =>
          simp [e2, minL] at hb
          subst hb
          obtain ⟨a, xs, rfl, hq, q⟩ := r.list hS e
          rw [RWs.ints e2 q] at hq
          refine ⟨a, i :: is, rfl, hq, Nat.succ_pos _, fun m hm hy => ?_⟩
          obtain ⟨h1, h2, h3⟩ := foldl_min is i
          have hin : is.foldl min i ∈ i :: is := h1.elim (fun z => by rw [z]; exact List.mem_cons_self) (List.mem_cons_of_mem _)
          have e3 : m = is.foldl min i := Int.le_antisymm (hy _ hin) ((List.mem_cons.mp hm).elim (fun z => z ▸ h2) (h3 m))
          rw [e3]
          exact h.now hS _ .mkI
  | [u, u'], rs, hb =>
    refine .inl ?_
    obtain ⟨v, v', rfl, r, r'⟩ := rs.two
    cases u <;> cases u' <;> simp only [biV] at hb <;> first | cases hb | skip
    refine ⟨_, _, by rw [r.int, r'.int], ?_⟩
    have := h.now hS _ .mkI
    rename_i i j
    have e : (if j < i then j else i) = min i j := by
      rw [Int.min_def]
      split <;> split <;> omega
    rw [e]
    exact this
  | u :: u' :: u'' :: r, _, hb => cases u <;> cases u' <;> cases hb
theorem insI_perm (i : Int) : ∀ l : List Int, (insI i l).Perm (i :: l)
  | [] => .refl _
  | j :: r => by
    unfold insI
    split
    · exact .refl _
    · exact ((insI_perm i r).cons j).trans (.swap i j r)
theorem sortI_perm : ∀ l : List Int, (sortI l).Perm l
  | [] => .refl _
  | i :: r => (insI_perm i (sortI r)).trans ((sortI_perm r).cons i)
theorem insI_up (i : Int) : ∀ l : List Int, l.Pairwise (· ≤ ·) → (insI i l).Pairwise (· ≤ ·)
  | [], _ => List.pairwise_singleton ..
  | j :: r, h => by
    have h1 := List.pairwise_cons.mp h
    unfold insI
    split
    · rename_i hij
      refine List.pairwise_cons.mpr ⟨fun y hy => ?_, h⟩
      rcases List.mem_cons.mp hy with rfl | hy
      · exact hij
      · exact Int.le_trans hij (h1.1 y hy)
    · refine List.pairwise_cons.mpr ⟨fun y hy => ?_, insI_up i r h1.2⟩
      rcases List.mem_cons.mp ((insI_perm i r).mem_iff.mp hy) with rfl | hy
      · omega
      · exact h1.1 y hy
theorem sortI_up : ∀ l : List Int, (sortI l).Pairwise (· ≤ ·)
  | [] => .nil
  | i :: r => insI_up i _ (sortI_up r)
theorem sortI_eq {l r : List Int} (h : r.Perm l) (u : r.Pairwise (· ≤ ·)) : r = sortI l :=
  List.Perm.eq_of_pairwise (fun a b _ _ h1 h2 => Int.le_antisymm h1 h2) u (sortI_up l) (h.trans (sortI_perm l).symm)
theorem bi_sorted (hc : X.calm = true) (hu : X.A.in1.in1.units < cLine) (hu2 : X.A.units + 65 < cLine) : BiOk X G (RN X.K G) .sorted (.builtin "sorted") := by
  refine ⟨_, CallR.or cr_sortTI (CallR.or (cr_sortSt hu) (CallR.or (cr_sortD hc hu) (cr_sortN hu2))), fun s d ws w vs Q Y hS rs hb h => ?_⟩
  match ws, rs, hb with
  | [], _, hb => cases hb
  | [u], rs, hb =>
    obtain ⟨v, rfl, r⟩ := rs.one
    have hb : sortV s u = some w := hb
    by_cases hm : ∃ ks vs, u = .map ks vs
    · obtain ⟨ks, vs, rfl⟩ := hm
      simp only [sortV] at hb
      split at hb
      · rename_i hs
        cases hb
        obtain ⟨a, kl, vl, rfl, t, rk, _⟩ := r.map
        obtain ⟨o, h1, h2, h3⟩ := t.obj X.prog X.w
        obtain ⟨ps, g1, g2, g3⟩ := sort_rel rk hs
        refine .inr (.inr (.inl ⟨a, o, ps, vl, rfl, h1, h2, by rw [g1]; exact h3, ?_, g2, fun qs p j1 j2 hn => new_lst hS hn (g3 qs j1 j2) h⟩))
        have := t.kl_le
        rw [← g1, List.length_map] at this
        exact this
      · cases hb
    · have hb : ((elems s u).bind fun l => match intsL l with
          | some is => if is.length < 64 then some (W.lst ((sortI is).map .int)) else none
          | none => if l.all (fun x => (stKey x).isSome) then some (.lst (sortG ltS l)) else sortN l) = some w := by
        rw [← hb]
        cases u <;> first | rfl | (unfold sortV; rfl) | exact absurd ⟨_, _, rfl⟩ hm
      cases e : elems s u with
      | none => rw [e] at hb; cases hb
      | some l =>
        rw [e, Option.bind_some] at hb
        obtain ⟨a, xs, rfl, hq, q⟩ := r.seq hS e
        cases e2 : intsL l with
        | none =>
          rw [e2] at hb
          dsimp only at hb
          split at hb
          · rename_i hs
            cases hb
            obtain ⟨ps, g1, g2, g3⟩ := sort_rel q hs
            exact .inr (.inl ⟨a, ps, rfl, by rw [g1]; exact hq, g2, fun qs p j1 j2 hn => new_lst hS hn (g3 qs j1 j2) h⟩)
          · obtain ⟨n1, n2, n3, rfl⟩ := sortN_ok hb
            obtain ⟨bs, g1, g2, g3⟩ := rws_pairs q
            have nd := isNs_isDs _ _ n1
            have dp := RWs.dp nd q
            rw [toDs_map, ← g1, ← g2, List.map_map] at dp
            subst g1
            subst g2
            refine .inr (.inr (.inr ⟨a, bs, rfl, hq, dp, by rw [List.map_map] at n3; exact n3, .inl fun y hy => ?_, fun b hb2 => ?_, fun p hn => new_lst hS hn (sortN_rel g3) h⟩))
            · obtain ⟨b, hb2, rfl⟩ := List.mem_map.mp hy
              exact n2 _ (List.mem_map_of_mem hb2)
            · have h3 := isD_ok _ _ (isN_isD _ _ (isNs_mem n1 (List.mem_map_of_mem hb2)))
              have := h3.2
              omega
        | some is =>
          rw [e2] at hb
          dsimp only at hb
          split at hb
          · cases hb
            rw [RWs.ints e2 q] at hq
            refine .inl ⟨a, is, rfl, hq, fun ns' p hp hu hn => ?_⟩
            rw [sortI_eq hp hu]
            exact new_lst hS hn (RWs.ofInts _) h
          · cases hb
  | _ :: _ :: _, _, hb => cases hb
theorem bi_abs : BiOk X G (RW X.K G) .abs (.builtin "abs") := by
  refine ⟨_, call_abs, fun s d ws w vs Q Y hS rs hb h => ?_⟩
  match ws, rs, hb with
  | [], _, hb => cases hb
  | [u], rs, hb =>
    obtain ⟨v, rfl, r⟩ := rs.one
    cases u <;> simp only [biV] at hb <;> first | cases hb | skip
    exact ⟨_, by rw [r.int], h.now hS _ .mkI⟩
  | u :: u' :: r, _, hb => cases u <;> cases hb
/-- the call of a built-in -/
theorem bi_call {R : Wd → W → V → Prop} {b : Bi} {f : Value} {x : Str} {p pos : Pos} {e : Expr} {es : List Expr} {xs : List Ex} (hb : BiOk X G R b f) (hf : (∃ id, f = .builtin id) ∨ ∃ T, f = .type T) (hg : Gl X x) (hm : X.mg x = none) (hv : bootBuiltins x = some f) (hn : x ≠ "__name__") (hdb : (x == ("__debug__" : Str)) = false)
    (ha : PA X (e :: es) (tRs X.K G Z (evalRs C xs))) (he : starEach (e :: es) X.env = (false, eval e X.env) :: starEach es X.env) (hpl : (backTo pos (starEach es X.env)).any (·.1) = false) : PE X (.Call (.Name x p) (e :: es) [] pos) (tG X.K G Z R (evalE C (.bi b xs))) := by
  obtain ⟨r, hc, hr⟩ := hb
  have main : PE X (.Call (.Name x p) (e :: es) [] pos) (tCB r (tRs X.K G Z (evalRs C xs))) := by
    rcases hf with ⟨id, rfl⟩ | ⟨T, rfl⟩
    · exact pe_callB hc hg hm hv ha hn hdb he hpl
    · exact pe_callTy hc hg hm hv ha hn hdb he hpl
  refine PE.imp main fun σ H Q hq => ?_
  obtain ⟨env, s, d, Ob, rfl, hE, hS, hk⟩ := hq
  rw [evalE] at hk
  show tRs X.K G Z (evalRs C xs) σ d.H fun vs H1 => r vs H1 Q
  refine tG.step hE hS hk fun u s1 d1 hE1 hS1 _ _ h1 v rv => ?_
  obtain ⟨w, ew, h2⟩ := h1.of
  exact hr s1 d1 u w v Q _ hS1 rv ew h2
end
end Mi

/-! isinstance, subscripts, slices, + and * of sequences, calls. -/
namespace Mi
open PySem PySem.Spec PyProof.Rows L2
section
variable {X : Cx} {G : Gm} {Z : WX} {C : CallI}
def tyName : Ty → String
  | .int => "int"
  | .bool => "bool"
  | .str => "str"
  | .tuple => "tuple"
  | .list => "list"
  | .dict => "dict"
theorem kit_all : ∀ (t : Ty), kitB "NoneType" (tyName t) = some false ∧ kitB "bool" (tyName t) = some (match t with | .int => true | .bool => true | _ => false) ∧ kitB "int" (tyName t) = some (match t with | .int => true | _ => false) ∧
    kitB "str" (tyName t) = some (match t with | .str => true | _ => false) ∧ kitB "tuple" (tyName t) = some (match t with | .tuple => true | _ => false) ∧ kitB "list" (tyName t) = some (match t with | .list => true | _ => false) ∧ kitB "dict" (tyName t) = some (match t with | .dict => true | _ => false) := by
  intro t
  cases t <;> refine ⟨?_, ?_, ?_, ?_, ?_, ?_, ?_⟩ <;> decide +kernel
theorem RW.ty {K : PySem.W.Frag} {d : Wd} {w : W} {v : V} {t : Ty} {b : Bool} (r : RW K G d w v) (h : isTy t w = some b) : ∃ T, TyX K d.H v (.type T) ∧ kitB T (tyName t) = some b := by
  obtain ⟨k1, k2, k3, k4, k5, k6, k7⟩ := kit_all t
  cases w with
  | non =>
    unfold RW at r
    subst r
    refine ⟨_, .base .non, ?_⟩
    rw [k1]
    cases t <;> exact h
  | bl x =>
    unfold RW at r
    subst r
    refine ⟨_, .base (.bl x), ?_⟩
    rw [k2]
    cases t <;> exact h
  | int x =>
    unfold RW at r
    subst r
    refine ⟨_, .base (.int x), ?_⟩
    rw [k3]
    cases t <;> exact h
  | str x =>
    unfold RW at r
    subst r
    refine ⟨_, .base (.str x), ?_⟩
    rw [k4]
    cases t <;> exact h
  | tup l =>
    obtain ⟨a, xs, rfl, ht, _⟩ := r.tup
    have hk : kitB "tuple" (tyName t) = some b := by
      rw [k5]
      cases t <;> exact h
    rcases ht with (ht | ⟨o, ht⟩) | ⟨o, its, n, e, c, _⟩
    · exact ⟨_, .base (.tup ht), hk⟩
    · exact ⟨_, .fTuple ht, hk⟩
    · exact ⟨_, .kTuple e c, hk⟩
  | lst l =>
    obtain ⟨a, xs, rfl, _, ht, _⟩ := r.lst
    refine ⟨_, .base (.lst ht), ?_⟩
    rw [k6]
    cases t <;> exact h
  | dct ks vs =>
    unfold RW at r
    obtain ⟨a, kvs, rfl, _, hh, _⟩ := r
    refine ⟨_, .base (.dK hh), ?_⟩
    rw [k7]
    cases t <;> exact h
  | ref n => cases t <;> cases h
  | gl n => cases t <;> cases h
  | scr n => cases t <;> cases h
  | map n m => cases t <;> cases h
theorem se_isin {e : Expr} {a : Ex} {t : Ty} {p p2 pos : Pos} (h : PE X e (tE X.K G Z (evalE C a))) (hg : Gl X "isinstance") (hm : X.mg "isinstance" = none) (hg2 : Gl X (Str.ofString (tyName t))) (hm2 : X.mg (Str.ofString (tyName t)) = none)
    (he : starEach [e, .Name (Str.ofString (tyName t)) p2] X.env = (false, eval e X.env) :: starEach [.Name (Str.ofString (tyName t)) p2] X.env) :
    PE X (.Call (.Name "isinstance" p) [e, .Name (Str.ofString (tyName t)) p2] [] pos) (tE X.K G Z (evalE C (.isin a t))) := by
  have hv : bootBuiltins (Str.ofString (tyName t)) = some (.type (tyName t)) := by cases t <;> decide +kernel
  have hn : Str.ofString (tyName t) ≠ "__name__" := by cases t <;> decide +kernel
  have hd : (Str.ofString (tyName t) == ("__debug__" : Str)) = false := by cases t <;> decide +kernel
  have main := pe_callB (X := X) (pos := pos) (p := p) call_isi hg hm (by decide +kernel) (pa_cons h (pa_cons (pe_bltn (v := .ty (tyName t)) (pos := p2) hg2 hm2 hv rfl hn hd) pa_nil) he) (by decide) (by decide) he (by rfl)
  refine PE.imp main fun σ H Q hq => ?_
  obtain ⟨env, s, d, Ob, rfl, hE, hS, hk⟩ := hq
  rw [evalE] at hk
  show tE X.K G Z (evalE C a) σ d.H fun v H1 => ∃ (x c : V) (t' u : Value) (b : Bool), [v, .ty (tyName t)] = [x, c] ∧ ClsV c u ∧ TyX X.K H1 x t' ∧ PySem.W.kitOne X.K t' u = some b ∧ Q (.bl b) H1
  refine tG.step hE hS hk fun u s1 d1 hE1 hS1 _ _ h1 v rv => ?_
  obtain ⟨b, eb, h2⟩ := h1.of_bind
  obtain ⟨T, hT, hk⟩ := rv.ty eb
  exact ⟨v, _, .type T, _, b, rfl, .ty _, hT, kit_ty hk, h2.now hS1 _ .mkB⟩

/-! ### subscripts -/
theorem atI_of {K : PySem.W.Frag} {d : Wd} {l : List W} {xs : List V} {i : Int} {w : W} (r : RWs K G d l xs) (h : atIx l i = some w) : ∃ v, atI xs i = some v ∧ RW K G d w v := by
  unfold atIx at h
  unfold atI
  rw [r.len]
  cases e : ixN l.length i with
  | none => rw [e] at h; cases h
  | some j =>
    rw [e] at h
    exact r.get h
theorem idxV_or {s : Sto} {o i w : W} (h : idxV s o i = some w) : (∃ ks vs, o = .map ks vs ∧ (lookD ks vs i).bind id = some w) ∨ ∃ j l, i = .int j ∧ elems s o = some l ∧ atIx l j = some w := by
  unfold idxV at h
  split at h
  · exact .inl ⟨_, _, rfl, h⟩
  · split at h
    · rename_i j
      cases e : elems s o with
      | none => rw [e] at h; cases h
      | some l => rw [e] at h; exact .inr ⟨j, l, rfl, rfl, h⟩
    · cases h
theorem se_idx {a b : Expr} {x y : Ex} {pos : Pos} (hu : X.A.units + 65 < cLine) (hs : PlainIx b) (ha : PE X a (tR X.K G Z (rdE C x))) (hb : PE X b (tE X.K G Z (evalE C y))) : PE X (.Subscript a b pos) (tE X.K G Z (evalE C (.idx x y))) := by
  refine PE.imp (pe_ix ((ix_list.or ix_tup).or (ix_K hu)) ha hb hs) fun σ H Q hq => ?_
  obtain ⟨env, s, d, Ob, rfl, hE, hS, hk⟩ := hq
  rw [evalE] at hk
  show tR X.K G Z (rdE C x) σ d.H fun vx H1 => tE X.K G Z (evalE C y) σ H1 fun vy H2 => (rIxL X.K vx vy H2 Q ∨ rIxT X.K vx vy H2 Q) ∨ rIxK X.K vx vy H2 Q
  refine tG.step hE hS hk fun u s1 d1 hE1 hS1 _ _ h1 v rv => ?_
  refine tG.step hE1 hS1 h1 fun u2 s2 d2 hE2 hS2 e2 eo2 h2 v2 rv2 => ?_
  obtain ⟨w, ew, h3⟩ := h2.of
  rcases idxV_or ew with ⟨ks, vs, rfl, ew2⟩ | ⟨i, l, rfl, el, ew2⟩
  · cases el : lookD ks vs u2 with
    | none => rw [el] at ew2; cases ew2
    | some o =>
      rw [el] at ew2
      obtain rfl : o = some w := ew2
      obtain ⟨a, r, rfl, g, _, q, _⟩ := in_map (.inl rv2) (rv.mono e2 eo2) el
      obtain ⟨z, rfl, rz⟩ := q w rfl
      exact .inr ⟨a, z, rfl, g, h3.now hS2 z rz⟩
  · obtain ⟨p, xs, rfl, hq, q⟩ := (rv.mono e2 eo2).seq hS2 el
    obtain ⟨z, ez, rz⟩ := atI_of q ew2
    have fin := h3.now hS2 z rz
    rcases hq with hq | hq
    · exact .inl (.inl ⟨p, xs, i, z, rfl, rv2.int, hq, ez, fin⟩)
    · exact .inl (.inr ⟨p, xs, i, z, rfl, rv2.int, hq, ez, fin⟩)
theorem cut_of {K : PySem.W.Frag} {d : Wd} {l : List W} {xs : List V} (lo hi : Option Int) (r : RWs K G d l xs) : RWs K G d (cut l lo hi) (cutV xs lo hi) := by
  unfold cut cutV
  rw [r.len]
  exact (r.drop _).take _
def tOo (K : PySem.W.Frag) (G : Gm) (Z : WX) (m : Env → Sto → Out (Option Int)) : TO := tG K G Z (fun _ (a b : Option Int) => a = b) m
def partM (C : CallI) (b : Bool) (e : Ex) (env : Env) (s : Sto) : Out (Option Int) := (if b then evalE C e env s else .ok .non s).bind fun y s => .of (partV b y) s
theorem so_none {x : Ex} : PO X none (tOo X.K G Z (partM C false x)) := ⟨fun pins s σ H Q I hq => po_none.run pins s σ H Q I (by
  obtain ⟨env, s, d, Ob, rfl, hE, hS, hk⟩ := hq
  exact hk.now hS _ rfl)⟩
theorem so_some {e : Expr} {x : Ex} (h : PE X e (tE X.K G Z (evalE C x))) : PO X (some e) (tOo X.K G Z (partM C true x)) := ⟨fun pins s σ H Q I hq => (po_some h).run pins s σ H Q I (by
  obtain ⟨env, s, d, Ob, rfl, hE, hS, hk⟩ := hq
  unfold partM at hk
  rw [if_pos rfl] at hk
  show tE X.K G Z (evalE C x) σ d.H fun v H1 => ∃ i, v = .int i ∧ Q (some i) H1
  refine tG.step hE hS hk fun u s1 d1 hE1 hS1 _ _ h1 v rv => ?_
  cases u with
  | int i => exact ⟨i, rv.int, h1.now hS1 _ rfl⟩
  | _ => exact h1.elim)⟩
theorem evalE_slc {a lo hi : Ex} {bl bh : Bool} {env : Env} {s : Sto} : evalE C (.slc a bl lo bh hi) env s = (rdE C a env s).bind fun x s => (partM C bl lo env s).bind fun l s => (partM C bh hi env s).bind fun h s => .of (slcV x l h) s := by
  rw [evalE]
  unfold partM
  simp only [Out.bind_bind]
theorem RR.tup {K : PySem.W.Frag} {d : Wd} {l : List W} {v : V} (h : RR K G d (.tup l) v) : ∃ a xs, v = .ref a ∧ SqT K d.H a xs ∧ RWs K G d l xs := by
  rcases h with h | ⟨p, rfl, _, rc⟩
  · exact h.tup
  · exact rc.elim
/-- a new list, let stand at once -/
theorem new_lstF {K : PySem.W.Frag} {s : Sto} {d : Wd} {p : Addr} {l : List W} {xs : List V} {Y : Value → Option Addr → Wd → Prop} {Q : V → Hp → Prop} (hS : SimS K G s d) (hp : d.H p = none) (r : RWs K G d l xs)
    (h : Oks K G d.Ow d (fun w _ d' => ∀ v, RW K G d' w v → Q v d'.H) Y (.ok (.lst l) s)) : Q (.ref p) (upd d.H p (.lst xs)) := by
  obtain ⟨e1, s1⟩ := hS.fresh (o := .lst xs) hp true
  refine h _ e1 rfl s1 (.ref p) ?_
  unfold RW
  exact ⟨p, xs, rfl, .inr ⟨rfl, rfl⟩, upd_same, r.mono e1⟩
/-- a slice: of a tuple (the same where it takes all), of a list (new) -/
theorem se_slcT {a : Expr} {lo hi : Option Expr} {x y z : Ex} {bl bh : Bool} {p2 pos : Pos} (ha : PE X a (tR X.K G Z (rdE C x))) (hl : PO X lo (tOo X.K G Z (partM C bl y))) (hh : PO X hi (tOo X.K G Z (partM C bh z))) :
    PE X (.Subscript a (.Slice lo hi none p2) pos) (tE X.K G Z (evalE C (.slc x bl y bh z))) := by
  refine PE.imp (pe_slice (SlR.or (SlR.or sl_list sl_tupA) sl_str) ha hl hh) fun σ H Q hq => ?_
  obtain ⟨env, s, d, Ob, rfl, hE, hS, hk⟩ := hq
  rw [evalE_slc] at hk
  show tR X.K G Z (rdE C x) σ d.H fun vx H1 => tOo X.K G Z (partM C bl y) σ H1 fun l H2 => tOo X.K G Z (partM C bh z) σ H2 fun h H3 => (rSlL X.K vx l h H3 Q ∨ rSlA X.K vx l h H3 Q) ∨ rSlS vx l h H3 Q
  refine tG.step hE hS hk fun u s1 d1 hE1 hS1 _ _ h1 v rv => ?_
  refine tG.step hE1 hS1 h1 fun l s2 d2 hE2 hS2 e2 eo2 h2 l' rl => ?_
  refine tG.step hE2 hS2 h2 fun h s3 d3 hE3 hS3 e3 eo3 h3 h' rh => ?_
  cases rl
  cases rh
  obtain ⟨w, ew, h4⟩ := h3.of
  have rv3 := (rv.mono e2 eo2).mono e3 eo3
  cases u with
  | tup k =>
    cases ew
    obtain ⟨p, xs, rfl, hq, q⟩ := rv3.tup
    refine .inl <| .inr ⟨p, xs, rfl, hq, fun hc => ?_, fun hc p' hp => new_tup hS3 hp (cut_of _ _ q) h4⟩
    have e1 : cut k l h = k := by
      unfold cut
      rw [← q.len, hc.1, hc.2]
      simp [q.len]
    rw [e1] at h4
    exact h4.now hS3 _ (.mkT hq q)
  | lst k =>
    cases ew
    obtain ⟨p, xs, rfl, hq, q⟩ := rv3.list hS3 (s := s3) rfl
    exact .inl <| .inl ⟨p, xs, rfl, hq, fun p' hp => new_lstF hS3 hp (cut_of _ _ q) h4⟩
  | str z =>
    simp only [slcV] at ew
    split at ew
    · rename_i hl
      cases ew
      exact .inr ⟨z, rv3.str, Nat.le_trans hl (by decide), h4.now hS3 _ (by unfold RW; rfl)⟩
    · cases ew
  | _ => cases ew

/-! ### lists joined, sequences repeated -/
theorem RR.lstH {K : PySem.W.Frag} {d : Wd} {l : List W} {v : V} (h : RR K G d (.lst l) v) : ∃ a xs, v = .ref a ∧ d.H a = some (.lst xs) ∧ RWs K G d l xs := by
  rcases h with h | ⟨p, rfl, _, rc⟩
  · obtain ⟨a, xs, rfl, _, h1, h2⟩ := h.lst
    exact ⟨a, xs, rfl, h1, h2⟩
  · obtain ⟨xs, h1, h2⟩ := rc
    exact ⟨p, xs, rfl, h1, h2⟩
theorem sn_addL {a b : Expr} {x y : Ex} {pos : Pos} (ha : PE X a (tR X.K G Z (rdE C x))) (hb : PE X b (tR X.K G Z (rdE C y))) : PE X (.BinOp a .Add b pos) (tN X.K G Z (evalE C (.addL x y))) := by
  refine PE.imp (pe_op op_cat ha hb) fun σ H Q hq => ?_
  obtain ⟨env, s, d, Ob, rfl, hE, hS, hk⟩ := hq
  rw [evalE] at hk
  show tR X.K G Z (rdE C x) σ d.H fun vx H1 => tR X.K G Z (rdE C y) σ H1 fun vy H2 => rCat vx vy H2 Q
  refine tG.step hE hS hk fun u s1 d1 hE1 hS1 _ _ h1 v rv => ?_
  refine tG.step hE1 hS1 h1 fun u2 s2 d2 hE2 hS2 e2 eo2 h2 v2 rv2 => ?_
  have rv' := rv.mono e2 eo2
  cases u with
  | lst l => cases u2 with
    | lst r =>
      dsimp only at h2
      split at h2
      · rename_i hl
        obtain ⟨p, xs, rfl, hp, q⟩ := rv'.lstH
        obtain ⟨p2, ys, rfl, hp2, q2⟩ := rv2.lstH
        refine ⟨p, p2, xs, ys, rfl, rfl, hp, hp2, ?_, fun p' hp' => new_lst hS2 hp' (q.append q2) h2⟩
        rw [q.len, q2.len]
        exact lim_line (n := l.length + r.length) (Nat.le_trans hl (Nat.le_add_right _ _))
      · exact h2.elim
    | _ => exact h2.elim
  | _ => exact h2.elim
theorem RWs.strs {K : PySem.W.Frag} {d : Wd} : ∀ {l : List W} {is : List Str} {xs : List V}, strsL l = some is → RWs K G d l xs → xs = is.map V.str
  | [], is, xs, e, r => by
    cases e
    unfold RWs at r
    exact r
  | w :: l, is, xs, e, r => by
    unfold RWs at r
    obtain ⟨x, r', rfl, h1, h2⟩ := r
    cases w with
    | str i =>
      simp only [strsL] at e
      cases e2 : strsL l with
      | none => rw [e2] at e; cases e
      | some js =>
        rw [e2] at e
        cases e
        rw [RWs.strs e2 h2]
        unfold RW at h1
        rw [h1]
        rfl
    | _ => simp only [strsL] at e; cases e
theorem strs_rw {K : PySem.W.Frag} {d : Wd} : ∀ ys : List Str, RWs K G d (ys.map W.str) (ys.map V.str)
  | [] => .nil
  | y :: ys => .cons (by unfold RW; rfl) (strs_rw ys)
def methN : Sth → Str
  | .join => "join"
  | .starts => "startswith"
/-- a method of a text -/
theorem txt_step {x : Ex} {r : V → List V → Hp → VK → Prop} {te : TE} {σ : L2.St} {Q : VK} {env : Env} {s : Sto} {d : Wd} {Ob : Addr → Prop} {P : W → Sto → Wd → Prop} {f : W → Sto → Out W} {Y : Value → Option Addr → Wd → Prop} (hE : SimE X.K G Ob env d σ) (hS : SimS X.K G s d)
    (hY : Y = fun cls dd d' => Z cls dd σ d'.H)
    (hk : Oks X.K G d.Ow d P Y ((evalE C x env s).bind f)) (hn : ∀ u s1, (∀ a, u ≠ .str a) → f u s1 = .no)
    (h : ∀ (a : Str) (s1 : Sto) (d1 : Wd), SimE X.K G Ob env d1 σ → SimS X.K G s1 d1 → Oks X.K G d1.Ow d1 P Y (f (.str a) s1) → te σ d1.H fun y H2 => r (V.str a) [y] H2 Q) :
    tM1 r (tE X.K G Z (evalE C x)) te σ d.H Q := by
  subst hY
  show tE X.K G Z (evalE C x) σ d.H fun x H1 => (∃ a, x = .str a) ∧ te σ H1 fun y H2 => r x [y] H2 Q
  refine tG.step hE hS hk fun u s1 d1 hE1 hS1 _ _ h1 v rv => ?_
  cases u with
  | str a =>
    unfold RW at rv
    subst rv
    exact ⟨⟨a, rfl⟩, h a s1 d1 hE1 hS1 h1⟩
  | _ =>
    rw [hn _ _ (fun a e => by cases e)] at h1
    exact h1.elim
theorem se_meth {m : Sth} {o e : Expr} {x y : Ex} {apos cpos : Pos} (ho : PE X o (tE X.K G Z (evalE C x))) (he : PE X e (tR X.K G Z (rdE C y))) (hs : starEach [e] X.env = [(false, eval e X.env)]) (hbase : attributeBase o (methN m) X.env (eval o X.env) = eval o X.env) (hline : (apos.endLine == cpos.line) = true) :
    PE X (.Call (.Attribute o (methN m) apos) [e] [] cpos) (tE X.K G Z (evalE C (.meth m x y))) := by
  cases m with
  | join =>
    refine PE.imp (pe_join ho he hs hbase hline) fun σ H Q hq => ?_
    obtain ⟨env, s, d, Ob, rfl, hE, hS, hk⟩ := hq
    rw [evalE] at hk
    refine txt_step hE hS rfl hk (fun u s1 hu => by cases u <;> first | rfl | exact absurd rfl (hu _)) fun a s1 d1 hE1 hS1 h1 => ?_
    refine tG.step hE1 hS1 h1 fun u2 s2 d2 hE2 hS2 e2 eo2 h2 v2 rv2 => ?_
    obtain ⟨w, ew, h3⟩ := h2.of
    simp only [methV] at ew
    cases e3 : elems s2 u2 with
    | none => rw [e3] at ew; cases ew
    | some l =>
      rw [e3, Option.bind_some] at ew
      cases e4 : strsL l with
      | none => rw [e4] at ew; cases ew
      | some ys =>
        rw [e4, Option.bind_some] at ew
        split at ew
        · rename_i hz
          cases ew
          obtain ⟨p, xs, rfl, hp, r⟩ := rv2.seq hS2 e3
          rw [RWs.strs e4 r] at hp
          exact ⟨a, p, ys, rfl, rfl, hp, hz, h3.now hS2 _ (by unfold RW; rfl)⟩
        · cases ew
  | starts =>
    refine PE.imp (pe_m1 PySem.F.slot_str_startswith PySem.F.type_str_startswith mt_startswith ho he hs hbase hline) fun σ H Q hq => ?_
    obtain ⟨env, s, d, Ob, rfl, hE, hS, hk⟩ := hq
    rw [evalE] at hk
    refine txt_step hE hS rfl hk (fun u s1 hu => by cases u <;> first | rfl | exact absurd rfl (hu _)) fun a s1 d1 hE1 hS1 h1 => ?_
    refine tG.step hE1 hS1 h1 fun u2 s2 d2 hE2 hS2 e2 eo2 h2 v2 rv2 => ?_
    obtain ⟨w, ew, h3⟩ := h2.of
    cases u2 <;> simp only [methV] at ew <;> first | cases ew | skip
    rename_i b
    rw [rv2.str]
    exact ⟨a, b, rfl, rfl, h3.now hS2 _ .mkB⟩
theorem sn_split {o e : Expr} {x y : Ex} {apos cpos : Pos} (ho : PE X o (tE X.K G Z (evalE C x))) (he : PE X e (tE X.K G Z (evalE C y))) (hs : starEach [e] X.env = [(false, eval e X.env)]) (hbase : attributeBase o "split" X.env (eval o X.env) = eval o X.env) (hline : (apos.endLine == cpos.line) = true) :
    PE X (.Call (.Attribute o "split" apos) [e] [] cpos) (tN X.K G Z (evalE C (.split x y))) := by
  refine PE.imp (pe_split ho he hs hbase hline) fun σ H Q hq => ?_
  obtain ⟨env, s, d, Ob, rfl, hE, hS, hk⟩ := hq
  rw [evalE] at hk
  refine txt_step hE hS rfl hk (fun u s1 hu => by cases u <;> first | rfl | exact absurd rfl (hu _)) fun a s1 d1 hE1 hS1 h1 => ?_
  refine tG.step hE1 hS1 h1 fun u2 s2 d2 hE2 hS2 e2 eo2 h2 v2 rv2 => ?_
  obtain ⟨w, ew, h3⟩ := h2.of
  cases u2 <;> simp only [splitV] at ew <;> first | cases ew | skip
  rename_i b
  split at ew
  · rename_i hz
    cases ew
    unfold RW at rv2
    subst rv2
    refine ⟨a, b, rfl, rfl, hz.1, Nat.le_trans hz.2 (by decide), fun p hp => ?_⟩
    exact new_lst hS2 hp (strs_rw _) h3
  · cases ew
theorem se_index {o e : Expr} {x y : Ex} {apos cpos : Pos} (hu : X.A.units + 65 < cLine) (ho : PE X o (tR X.K G Z (rdE C x))) (he : PE X e (tE X.K G Z (evalE C y))) (hbase : attributeBase o "index" X.env (eval o X.env) = eval o X.env) (hline : (apos.endLine == cpos.line) = true)
    (hs : starEach [e] X.env = (false, eval e X.env) :: starEach [] X.env) : PE X (.Call (.Attribute o "index" apos) [e] [] cpos) (tE X.K G Z (evalE C (.ixOf x y))) := by
  refine PE.imp (pe_bm PySem.F.plainAttrs_list PySem.F.slot_list_index PySem.F.type_list_index (mt_indexD hu) ho (pa_cons he pa_nil hs) hbase (by rw [hs]; rfl) hline hs rfl) fun σ H Q hq => ?_
  obtain ⟨env, s, d, Ob, rfl, hE, hS, hk⟩ := hq
  rw [evalE] at hk
  show tR X.K G Z (rdE C x) σ d.H fun vx H1 => tyV X.K "list" vx H1 ∧ tE X.K G Z (evalE C y) σ H1 fun vy H2 => rIndexD X.K vx [vy] H2 Q
  refine tG.step hE hS hk fun u s1 d1 hE1 hS1 _ _ h1 v rv => ?_
  split at h1
  · rename_i l
    obtain ⟨a, xs, rfl, hq, q⟩ := rv.list hS1 (show listOf s1 (.lst l) = some l from rfl)
    refine ⟨.inl ⟨rfl, xs, hq⟩, tG.step hE1 hS1 h1 fun u2 s2 d2 hE2 hS2 e2 eo2 h2 v2 rv2 => ?_⟩
    obtain ⟨w, ew, h3⟩ := h2.of
    have rv' := rv.mono e2 eo2
    unfold indexV at ew
    split at ew
    · rename_i hd
      rw [Bool.and_eq_true] at hd
      cases ej : (toDs l).findIdx? fun z => PyData.eqv z (toD u2) with
      | none => rw [ej] at ew; cases ew
      | some j =>
        rw [ej] at ew
        cases ew
        obtain ⟨hlt, g1, g2⟩ := List.findIdx?_eq_some_iff_getElem.mp ej
        have d1 := RR.dp hd.2 rv'
        rw [toD] at d1
        obtain ⟨k1, k2⟩ := isD_ok _ _ hd.1
        obtain ⟨k3, k4⟩ := isD_ok _ _ hd.2
        rw [toD] at k3 k4
        refine ⟨a, v2, toD u2, toDs l, j, (toDs l)[j], rfl, rfl, d1, rv2.dp hd.1, ?_, ?_, List.getElem?_eq_getElem hlt, g1, fun m z' hm hz => ?_, h3.now hS2 _ .mkI⟩
        · unfold SeqAt.shaped
          rw [k3, decide_eq_true (by omega)]
          rfl
        · unfold SeqAt.shaped
          rw [k1, decide_eq_true (by omega)]
          rfl
        · have := g2 m hm
          rw [List.getElem?_eq_getElem (by omega)] at hz
          cases hz
          simpa using this
    · cases ew
  · exact h1.elim
/-- l.count(x): how many are equal -/
def rCountD (K : PySem.W.Frag) : V → List V → Hp → VK → Prop := fun x xs H Q => ∃ (p : Addr) (u : V) (d : PyData) (ds : List PyData), x = V.ref p ∧ xs = [u] ∧ Dp K H (V.ref p) (.list ds) ∧ Dp K H u d ∧ SeqAt.shaped (.list ds) = true ∧ SeqAt.shaped d = true ∧ Q (.int (ds.countP fun z => PyData.eqv z d : Nat)) H
theorem mt_countD (hu : X.A.units + 65 < cLine) : MtR X "list.count" (rCountD X.K) := by
  rintro pins t τ T x xs rv us R I rx rxs ⟨p, u, d, ds, rfl, rfl, hl, hd, s1, s2, q⟩
  cases rx
  obtain ⟨w, rfl, rw_⟩ := rxs.one
  obtain ⟨bs, b1⟩ := Dp.reads I d u w hd rw_
  have lay : PyData.canLayAll0 ds = true := SeqAt.canLay_of_shaped s1
  have room := room_in_shaped (xs := ds) s2 hu
  cases hl with
  | lst hs hall =>
    obtain ⟨its, rv, ⟨⟨cls, dd, data, sl⟩, n, ho, hc, hdn, hdt⟩, _⟩ := I.list hs
    simp only at hc hdt
    subst hc hdt
    obtain ⟨as, ra⟩ := Dp.readsAll I ds _ its hall rv
    have em : its.map (SeqAt.readOf t.heap) = ds := SeqAt.readsAll_map ds its as lay ra
    refine call_meets PySem.F.slot_list_count ⟨_, ho, rfl⟩ PySem.F.entry_list_count (PySem.F.args_list_count_2 _ _)
      (SeqAt.list_countAt p its.toArray n dd sl w fun z => PyData.eqv (SeqAt.readOf t.heap z) d) ⟨ho, SeqAt.items_eqAt (vs := its.toArray) (xs := ds) (as := as) (by simpa using ra) b1 lay (SeqAt.canLay_of_shaped s2) room, ?_⟩
    refine ⟨.int (ds.countP fun z => PyData.eqv z d : Nat), T, I.tok _, ⟨t.toks, ?_⟩, q⟩
    show Value.int ((its.toArray.toList.countP _ : Nat) : Int) t.toks = _
    rw [← em, List.countP_map]
    rfl
theorem se_count {o e : Expr} {x y : Ex} {apos cpos : Pos} (hu : X.A.units + 65 < cLine) (ho : PE X o (tR X.K G Z (rdE C x))) (he : PE X e (tE X.K G Z (evalE C y))) (hbase : attributeBase o "count" X.env (eval o X.env) = eval o X.env) (hline : (apos.endLine == cpos.line) = true)
    (hs : starEach [e] X.env = (false, eval e X.env) :: starEach [] X.env) : PE X (.Call (.Attribute o "count" apos) [e] [] cpos) (tE X.K G Z (evalE C (.cntOf x y))) := by
  refine PE.imp (pe_bm PySem.F.plainAttrs_list PySem.F.slot_list_count PySem.F.type_list_count (mt_countD hu) ho (pa_cons he pa_nil hs) hbase (by rw [hs]; rfl) hline hs rfl) fun σ H Q hq => ?_
  obtain ⟨env, s, d, Ob, rfl, hE, hS, hk⟩ := hq
  rw [evalE] at hk
  show tR X.K G Z (rdE C x) σ d.H fun vx H1 => tyV X.K "list" vx H1 ∧ tE X.K G Z (evalE C y) σ H1 fun vy H2 => rCountD X.K vx [vy] H2 Q
  refine tG.step hE hS hk fun u s1 d1 hE1 hS1 _ _ h1 v rv => ?_
  split at h1
  · rename_i l
    obtain ⟨a, xs, rfl, hq, q⟩ := rv.list hS1 (show listOf s1 (.lst l) = some l from rfl)
    refine ⟨.inl ⟨rfl, xs, hq⟩, tG.step hE1 hS1 h1 fun u2 s2 d2 hE2 hS2 e2 eo2 h2 v2 rv2 => ?_⟩
    obtain ⟨w, ew, h3⟩ := h2.of
    have rv' := rv.mono e2 eo2
    unfold countV at ew
    split at ew
    · rename_i hd
      rw [Bool.and_eq_true] at hd
      cases ew
      have d1 := RR.dp hd.2 rv'
      rw [toD] at d1
      obtain ⟨k1, k2⟩ := isD_ok _ _ hd.1
      obtain ⟨k3, k4⟩ := isD_ok _ _ hd.2
      rw [toD] at k3 k4
      refine ⟨a, v2, toD u2, toDs l, rfl, rfl, d1, rv2.dp hd.1, ?_, ?_, h3.now hS2 _ .mkI⟩
      · unfold SeqAt.shaped
        rw [k3, decide_eq_true (by omega)]
        rfl
      · unfold SeqAt.shaped
        rw [k1, decide_eq_true (by omega)]
        rfl
    · cases ew
  · exact h1.elim
theorem sn_mulL {a b : Expr} {x y : Ex} {pos : Pos} (ha : PE X a (tE X.K G Z (evalE C x))) (hb : PE X b (tE X.K G Z (evalE C y))) : PE X (.BinOp a .Mult b pos) (tN X.K G Z (evalE C (.mulL x y))) := by
  refine PE.imp (pe_op op_rep ha hb) fun σ H Q hq => ?_
  obtain ⟨env, s, d, Ob, rfl, hE, hS, hk⟩ := hq
  rw [evalE] at hk
  show tE X.K G Z (evalE C x) σ d.H fun vx H1 => tE X.K G Z (evalE C y) σ H1 fun vy H2 => rRep vx vy H2 Q
  refine tG.step hE hS hk fun u s1 d1 hE1 hS1 _ _ h1 v rv => ?_
  refine tG.step hE1 hS1 h1 fun u2 s2 d2 hE2 hS2 e2 eo2 h2 v2 rv2 => ?_
  have rv' := rv.mono e2
  cases u with
  | lst l => cases u2 with
    | int n =>
      dsimp only at h2
      split at h2
      · rename_i hl
        obtain ⟨h0, h1, h3⟩ := hl
        obtain ⟨p, xs, rfl, _, hp, q⟩ := rv'.lst
        refine ⟨p, n, xs, rfl, rv2.int, hp, by omega, by omega, ?_, fun p' hp' => new_lst hS2 hp' (q.flatten _) h2⟩
        rw [q.len]
        exact Nat.le_trans (Nat.mul_le_mul h3 (show n.toNat ≤ 1000 by omega)) (by decide)
      · exact h2.elim
    | _ => exact h2.elim
  | _ => exact h2.elim
end
end Mi

/-! enumerate over a tuple, for the layer. -/
namespace Mi
open PySem PySem.Spec PyProof.Rows L2
set_option maxHeartbeats 1000000 in
theorem meets_enum1 {v : Value} {o : Obj} {H : Heap → Prop} (B : Begins v o H) :
    Meets (Builtin.«enumerate.__new__» ⟨[.type "enumerate", v], []⟩) (fun _ R s => H s.heap ∧
      R (.ok (.ret (.ref (s.heap.push o).objs.size))) { s with heap := (s.heap.push o).push { cls := .type "enumerate", data := .fields #[.none, .bool false, .ref s.heap.objs.size, rawInt 0, .none, .none] } }) :=
  .of_wp fun prog w A R s h => by
    obtain ⟨hp, g, d, tk, os⟩ := s; obtain ⟨h1, h⟩ := h
    have hsub := sub_enumerate
    have q1 : ∀ {A' : Around} {E : Value → Shared → Prop} {Q : Value → Shared → Prop}, Q (.ref hp.objs.size) ⟨hp.push o, g, d, tk, os⟩ → wpAny (model prog w) A' (pyIter v) Q E ⟨hp, g, d, tk, os⟩ :=
      fun q => B.iter prog w _ _ ⟨hp, g, d, tk, os⟩ _ h1 q
    wp_walk using q1
    refine wpAny_stack_any fun st => wpAny_pure ?_
    split
    · rename_i c _ _ _ _ _
      cases (c == Value.type "enumerate")
      · wp_walk using q1
        exact ⟨_, rfl, h⟩
      · wp_walk using q1
        exact ⟨_, rfl, h⟩
    · wp_walk using q1
      exact ⟨_, rfl, h⟩
theorem enum1_begins {prog : Program} {w : World} {A : Around} {E : Value → Shared → Prop} {s : Shared} {v : Value} {o : Obj} {H : Heap → Prop} {Q : Value → Shared → Prop} (B : Begins v o H) (h1 : H s.heap)
    (h : ∀ h', IsEnum h' (s.heap.objs.size + 1) s.heap.objs.size 0 .none → h'.get? s.heap.objs.size = some o → h'.objs.size = s.heap.objs.size + 2 →
      (∀ b o, s.heap.get? b = some o → h'.get? b = some o) → Q (.ref (s.heap.objs.size + 1)) { s with heap := h' }) :
    wpAny (model prog w) A (call (.type "enumerate") [v]) Q E s := by
  refine callType_new F.called_enumerate (by decide) (F.typeCall_enumerate_1 _) (F.newCall_enumerate_1 _) (fun obj => F.args_object_init_2 obj _) F.entry_enumerate_new
    (meets_enum1 B) ⟨h1, ?_⟩
  have hz : (s.heap.push o).objs.size = s.heap.objs.size + 1 := Heap.size_push ..
  show _ ∧ _
  rw [hz]
  have he : IsEnum ((s.heap.push o).push { cls := .type "enumerate", data := .fields #[.none, .bool false, .ref s.heap.objs.size, rawInt 0, .none, .none] }) (s.heap.objs.size + 1) s.heap.objs.size 0 .none := by
    have := Heap.get?_push_size (s.heap.push o) (o := { cls := .type "enumerate", data := .fields #[.none, .bool false, .ref s.heap.objs.size, rawInt 0, .none, .none] }) rfl
    rw [hz] at this; exact this
  refine ⟨⟨_, he, rfl⟩, h _ he (Heap.get?_push_of_some _ (Heap.get?_push_size _ B.free)) (by rw [Heap.size_push, hz]) fun b o x => Heap.get?_push_of_some _ (Heap.get?_push_of_some _ x)⟩
def IteT (K : PySem.W.Frag) (a : Addr) : It :=
  ⟨fun i H => ∃ (xs : List V) (x : V), SqT K H a xs ∧ xs[i]? = some x, fun i H v H' => ∃ T x, v = .ref T ∧ H T = none ∧ H' = upd H T (.tup [.int (i : Nat), x]) ∧ ∀ xs, SqT K H a xs → xs[i]? = some x, fun i H => ∃ xs : List V, SqT K H a xs ∧ xs.length = i⟩
theorem tup_of {h : Heap} {a : Addr} {its : Array Value} (p : IsTup h a its) : h.IsTuple a its := p
theorem turn_enumT {P : Program} {w : World} {K : PySem.W.Frag} {elts : List Expr} {kk : Nat} {tpos : Pos} (a e it : Addr) :
    Turn P w K (.Tuple elts kk tpos) (IteT K a) [e, it] e (fun i h => (∃ old, IsEnum h e it ((i : Nat) : Int) old) ∧ h.IsTupleIter it a i ∧ e ≠ it ∧ a ≠ e ∧ a ≠ it) where
  mem := by simp
  obj := fun i h st b hb => by
    obtain ⟨⟨old, he⟩, ⟨o, ho, hc, hd⟩, _⟩ := st
    have e' : b = e ∨ b = it := by simpa using hb
    rcases e' with z | z
    · rw [z]; exact ⟨_, he, fun v q => nomatch q⟩
    · rw [z]; exact ⟨o, ho, fun v q => by rw [hd] at q; cases q⟩
  keep := fun i h h' st k => let ⟨⟨old, he⟩, hi, hne⟩ := st; ⟨⟨old, k e (by simp) _ he⟩, hi.at fun o q => k it (by simp) o q, hne⟩
  item := by
    intro X hP hw hK hc i pins s σ H E I hf st hg
    subst hP hw hK
    obtain ⟨⟨old, he⟩, hit, hne, ha1, ha2⟩ := st
    obtain ⟨xs, x, hq, hx⟩ := hg
    obtain ⟨its, rv, p, hz⟩ := I.tuple hq
    obtain ⟨u, hu, ru⟩ := rv.get hx
    have hel : e < s.heap.objs.size := Heap.lt_size he
    have hil : it < s.heap.objs.size := by obtain ⟨_, q, _⟩ := hit; exact Heap.lt_size q
    have hlt : i < its.toArray.size := by
      rw [List.size_toArray]
      exact (List.getElem?_eq_some_iff.mp hu).1
    refine wpAny_pyNext_enum_itemD (Draws.tuple (A := X.A.in1) (I.ok.hd hc) it a ha2 its.toArray) he ⟨hit, tup_of p⟩ hlt hne (by simp [hne, Ne.symm ha1]) fun x' h' tk hP ho hst hT hsz hk => ?_
    have ex : x' = u := by
      have hP' : its[i]? = some x' := by simpa using hP
      rw [hu] at hP'
      exact (Option.some.inj hP').symm
    subst ex
    refine ⟨_, rfl, wpAny_letOwnedTupleGo_enum (s := { s with heap := h', toks := tk + 1 }) ho fun h'' he' sb => ?_⟩
    have hT2 : h''.get? s.heap.objs.size = some { cls := .type "tuple", data := .seq #[.int i tk, x'] } := (sb.2 _ (Nat.ne_of_gt hel)).trans hT
    have new : ObjOk X.prog X.w (upd H s.heap.objs.size (.tup [.int (i : Nat), x])) h'' s.heap.objs.size (.tup [.int (i : Nat), x]) :=
      ⟨by show 2 ≤ sizeLine; decide, [.int i tk, x'], .cons ⟨_, rfl⟩ (.cons ru .nil), ⟨_, hT2, rfl, _, rfl⟩⟩
    have I1 : Inv X pins σ (upd H s.heap.objs.size (.tup [.int (i : Nat), x])) { s with heap := h'', toks := tk + 1 } :=
      I.turnedNew (ch := [e, it]) (fun b ob hb q => (sb.2 b (fun z => hb (by simp [z]))).trans (hk b ob (fun z => hb (by simp [z])) (fun z => hb (by simp [z])) q)) hf (Nat.le_refl _) new
    refine ⟨.ref s.heap.objs.size, _, I1, rfl, ⟨_, x, rfl, I.hok.fresh (Nat.le_refl _), rfl, fun ys hy => by rw [I.tuple_inj hy hq]; exact hx⟩, ⟨⟨x', ?_⟩, hst.1.at fun o q => (sb.2 it (Ne.symm hne)).trans q, hne, ha1, ha2⟩, fun b hb => ?_⟩
    · have e1 : ((i + 1 : Nat) : Int) = (i : Int) + 1 := by omega
      rw [e1]; exact he'
    · have hb' : b < s.heap.objs.size := by
        have e' : b = e ∨ b = it := by simpa using hb
        rcases e' with z | z
        · rw [z]; exact hel
        · rw [z]; exact hil
      rw [upd_ne (Nat.ne_of_lt hb')]
      exact (hf b hb).1
  done := by
    intro X hP hw hK hc i pins s σ H E I hf st hg
    subst hP hw hK
    obtain ⟨⟨old, he⟩, hit, hne, ha1, ha2⟩ := st
    obtain ⟨xs, hq, hx⟩ := hg
    obtain ⟨its, rv, p, hz⟩ := I.tuple hq
    obtain ⟨f0, f1, f2, f3, f4, f5⟩ := hf it (by simp)
    have hl := rv.length
    have e0 : i = its.toArray.size := by
      rw [List.size_toArray]
      omega
    have hst2 : s.heap.IsTupleIter it a its.toArray.size ∧ s.heap.IsTuple a its.toArray := by
      rw [← e0]
      exact ⟨hit, tup_of p⟩
    exact wpAny_pyNext_enum_endD (Draws.tuple (A := X.A.in1) (I.ok.hd hc) it a ha2 its.toArray) he hst2 fun h' eb => ⟨rfl, I.turned (t' := s.toks) (fun b o hb q => eb b o hb q) f0 f1 f3 f4 f5⟩
  self := fun A i s Q E st h => let ⟨⟨_, he⟩, _⟩ := st; wpAny_pyIter_enum he h
def iEnumT (K : PySem.W.Frag) (ta : TA) : TI := fun σ H R => ta σ H fun vs H1 => ∃ a xs, vs = [.ref a] ∧ SqT K H1 a xs ∧ R (IteT K a) H1
theorem pi_enumT {X : Cx} {e : Expr} {ta : TA} {p pos tpos : Pos} {elts : List Expr} {kk : Nat} (hg : Gl X "enumerate") (hm : X.mg "enumerate" = none) (ha : PA X [e] ta) (hs : starEach [e] X.env = [(false, eval e X.env)]) :
    PI X (.Tuple elts kk tpos) (.Call (.Name "enumerate" p) [e] [] pos) (iEnumT X.K ta) := by
  refine ⟨fun pins s σ H R I h => ?_⟩
  refine Call_ (ld_blt I hg hm boot_enumerate (PyProof.Rows.callWith_type1 (thn (ha.run pos pins s σ H _ I h) fun us s1 ⟨vs, H1, I1, r1, q1⟩ => ?_) hs rfl))
  obtain ⟨a, xs, ex, hq, q⟩ := q1
  subst ex
  cases r1 with
  | cons r rr =>
    cases rr
    cases r
    obtain ⟨its, rv, p', hz⟩ := I1.tuple hq
    have hal : a < s1.heap.objs.size := p'.lt
    refine enum1_begins (begins_tuple a its.toArray) (tup_of p') fun h' he hit hsz hk => wpAny_pyIter_enum he ?_
    have I2 : Inv X pins σ H1 { s1 with heap := h' } := I1.kept (t' := s1.toks) hk
    refine ⟨s1.heap.objs.size + 1, [s1.heap.objs.size + 1, s1.heap.objs.size], _, _, H1, rfl, I2, turn_enumT a (s1.heap.objs.size + 1) s1.heap.objs.size, ⟨⟨.none, he⟩, ⟨_, hit, rfl, rfl⟩, Nat.succ_ne_self _, Nat.ne_of_lt (Nat.lt_succ_of_lt hal), Nat.ne_of_lt hal⟩, fun b hb => ?_, q⟩
    have e' : b = s1.heap.objs.size + 1 ∨ b = s1.heap.objs.size := by simpa using hb
    have hle : s1.heap.objs.size ≤ b := by
      rcases e' with z | z
      · rw [z]; exact Nat.le_add_right _ _
      · rw [z]; exact Nat.le_refl _
    exact I1.fpOk hle (I1.hok.fresh hle)
end Mi

/-! A def's promise where no container is being shown (what repr of containers needs). -/
namespace Mi
open PySem PySem.Spec PyProof.Rows L2
/-- no container is being shown -/
abbrev Cold (A : Around) : Prop := A.guards = some []
structure FnG (cd : Bool) (P : Program) (w : World) (K : PySem.W.Frag) (mg : Str → Option Value) (base : Heap) (CX : CXT) (k : Nat) (f : Addr) (fd : FuncData) (ps : List Str) (sp : Sp) : Prop where
  len : ∀ xs T R Y, sp xs T R Y → xs.length = ps.length
  run : ∀ (B : Around) (out : List PySem.Env) (t : Shared) (T : Hp) (as : Args) (zs : List Value) (xs : List V) (R : VK) (Y : XK), (cd = true → Cold B) → Room k B → Env0 P w K mg base B out t T → BindsTo t fd as (ps.zip zs) → Vals xs zs → sp xs T R Y →
    codeAny (model P w) B (.call (.ref f) as) (CR CX out P w T t R Y) t
theorem FnG.imp {cd : Bool} {P : Program} {w : World} {K : PySem.W.Frag} {mg : Str → Option Value} {base : Heap} {CX : CXT} {k : Nat} {f : Addr} {fd : FuncData} {ps : List Str} {sp sp' : Sp} (F : FnG cd P w K mg base CX k f fd ps sp) (h : ∀ xs T R Y, sp' xs T R Y → sp xs T R Y) : FnG cd P w K mg base CX k f fd ps sp' :=
  ⟨fun xs T R Y z => F.len xs T R Y (h _ _ _ _ z), fun B out t T as zs xs R Y c r e b v z => F.run B out t T as zs xs R Y c r e b v (h _ _ _ _ z)⟩
section
variable {P : Program} {w : World} {K : PySem.W.Frag} {mg : Str → Option Value} {base : Heap} {x qual : Str} {params : Arguments} {body : List Stmt} {scope : Scope} {dvs : List V} {kws : List (Str × V)} {f : Addr} {fd : FuncData}
theorem okG {cd : Bool} {CX : CXT} {N ps : List Str} {k : Nat} {sp : Sp} (F : FunD K x qual params body scope dvs kws f fd) (S : FnScope N ps scope) (len : ∀ xs T R Y, sp xs T R Y → xs.length = ps.length)
    (hB : ∀ (cv : Value) (B : Around) (out : List PySem.Env) (t : Shared) (T : Hp) (xs : List V) (R : VK) (Y : XK), fd.code = cv → (cd = true → Cold B) → Room k (B.deeper (envOfC qual scope t.heap.objs.size f cv)) → sp xs T R Y →
      ∃ m, PSs (cxOf CX P w K mg base N qual scope f cv B out t T Y) body m ∧ m { nx := fun _ T' => R .non T', rt := R } (L2.start N xs) T) : FnG cd P w K mg base CX (k + 1) f fd ps sp := by
  obtain ⟨oc, od, dV, kV, doc, pm, an, cv, ct, osl, rfl, lk, hcd, _, _⟩ := F.ex
  refine ⟨len, fun B out t T as zs xs R Y cold room e0 bd v hsp => ?_⟩
  have hl := len _ _ _ _ hsp
  have Kt : K.In t.heap := e0.mod.kin.keeps fun a o e => (e0.bs a o e).1
  have nl : t.heap.NoLimit := e0.mod.nolimit.keeps fun a o e => (e0.bs a o e).1
  have kinds : ∀ y ∈ ps.zip zs, scope.names.lookup y.1 = some .local ∨ (scope.names.lookup y.1 = some .cell ∧ ((cellsFrom (t.heap.objs.size + 1) scope.names []).lookup y.1).isSome = true) := by
    intro ⟨n, u⟩ hy
    exact (S.par n (List.of_mem_zip hy).1).elim .inl fun q => .inr ⟨q, PySem.W.cellsFrom_some _ _ _ (.inl q)⟩
  refine codeAny_call_function room.depth (Kt _ _ lk) rfl S.co S.gen rfl (PySem.W.codeRec_of Kt hcd) (bd _ _ _ _ (wpAny_newFunctionEnv_cells S.kind kinds fun env he t1 z => ?_))
  subst he
  refine ⟨nl.keeps z.toInCall.keep, codeAny_func ?_⟩
  obtain ⟨m, hm, hq⟩ := hB cv B out t T xs R Y rfl cold (room.deeper _) hsp
  refine wpAny_mono (hm.run [] t1 (L2.start N xs) T _ (inv_start S room.hd e0 hl v z) hq) (fun fl t2 hs => ?_) fun _ _ hs => hs
  cases fl with
  | ret u =>
    obtain ⟨v2, σ2, T2, J, rv, q⟩ := hs
    exact ⟨v2, T2, J.os, J.bare, J.base, J.hok, rv, q⟩
  | next =>
    obtain ⟨σ2, T2, J, q⟩ := hs
    exact ⟨V.non, T2, J.os, J.bare, J.base, J.hok, rfl, q⟩
  | brk =>
    obtain ⟨_, _, _, q⟩ := hs
    exact q.elim
  | cont =>
    obtain ⟨_, _, _, q⟩ := hs
    exact q.elim
end
section
variable {cd : Bool} {X : Cx} {CX : CXT} {k : Nat} {f C : Addr} {fd : FuncData} {ps : List Str} {sp : Sp} {Y : L2.St → XK} {x : Str} {p pos : Pos} {e : Expr} {es : List Expr} {t : TA}
theorem run_fnG {pins : List (Addr × Obj)} {σ : L2.St} {T : Hp} {s : Shared} {R : VK} {zs : List Value} {xs : List V} (F : FnG cd X.prog X.w X.K X.mg X.base CX k f fd ps sp) (cold : cd = true → Cold X.A) (room : Room k X.A) (hb : Binds X.K fd ps []) (hx : PassesAt CX X σ (Y σ))
    (I : Inv X pins σ T s) (v : Vals xs zs) (h : sp xs T R (Y σ)) : wpAny (model X.prog X.w) X.A (call (.ref f) zs) (EP X pins σ R) X.xe s := by
  have hl : zs.length = ps.length := v.length ▸ F.len _ _ _ _ h
  have b := hb s zs I.kIn (by rw [List.append_nil]; exact hl)
  rw [List.append_nil] at b
  refine wpAny_call (codeAny_mono (F.run X.A X.stack s T ⟨zs, []⟩ zs xs R (Y σ) cold room I.env0 b v h) fun r s2 hq => ?_)
  cases r with
  | error u => exact hx pins T s u s2 I hq
  | ok fl => cases fl with
    | ret u => exact I.after hq
    | _ => exact False.elim hq
theorem pe_callG (F : FnG cd X.prog X.w X.K X.mg X.base CX k f fd ps sp) (cold : cd = true → Cold X.A) (room : Room k X.A) (hg : Gl X x) (hm : X.mg x = some (.ref f)) (hk : PySem.W.keepIn X.K (.ref f) = true) (hb : Binds X.K fd ps []) (hx : ∀ σ, PassesAt CX X σ (Y σ))
    (ha : PA X (e :: es) t) (hdb : (x == ("__debug__" : Str)) = false) (he : starEach (e :: es) X.env = (false, eval e X.env) :: starEach es X.env) (hpl : (backTo pos (starEach es X.env)).any (·.1) = false) :
    PE X (.Call (.Name x p) (e :: es) [] pos) (tCallS sp Y t) := by
  refine ⟨fun pins s σ T R I h => wpAny_Call_Name_kw (ld_glob I hg hm ?_ hdb)⟩
  refine PySem.W.callWith_K (h₀ := X.base) I.ok.mod.kin hk (thn (ha.run pos pins s σ T _ I h) ?_) he hpl
  rintro zs s1 ⟨xs, T1, I1, v, q⟩
  exact ⟨I1.kIn, run_fnG F cold room hb (hx σ) I1 v q⟩
end
/-- a law's run: the script is tracked, and empty tables of code objects at ts -/
theorem law_callG {P : Program} {w : World} {K : PySem.W.Frag} {mg mb : Str → Option Value} {CX : CXT} {k : Nat} {fa a : Addr} {fd : FuncData} {x : Str} {sp : Sp} {t : Shared} {vs : List Value} {ns : List Int} {ts : List Addr}
    (KX : K.In t.heap) (hns : t.heap.Ns mainGlobals mg) (hb : t.heap.Ns builtinsNs mb) (hbb : ∀ x : Str, x ≠ "__name__" → mb x = bootBuiltins x) (hlim : t.heap.NoLimit) (hg : t.gens = #[])
    (tab : ∀ p ∈ ts, t.heap.get? p = some { cls := .none, data := .fields #[] } ∧ K.lookup p = none ∧ isCodeTable t.heap p)
    (ha : t.heap.get? a = some { cls := .type "list", data := .seq vs.toArray }) (hi : IntsAre vs ns) (hl : ns.length ≤ sizeLine) (hr : Room k callerA)
    (F : ∀ base : Heap, K.In base → base.Ns mainGlobals mg → FnG true P w K mg base CX k fa fd [x] sp) (hbind : ∀ (s : Shared) (u : Value), BindsTo s fd ⟨[u], []⟩ [(x, u)])
    (hsp : ∀ T : Hp, (∀ p ∈ ts, T p = some (.tbl #[])) → SqL K T a (ns.map V.int) → sp [.ref a] T (fun v _ => v = .bl true) fun _ _ _ => False)
    (hCX : ∀ T e s', CX [] T t (fun _ _ _ => False) e s' → False) :
    codeAny (model P w) callerA (.call (.ref fa) ⟨[.ref a], []⟩) (fun r s' => r = .ok (.ret (.bool true)) ∧ OldK t.heap s'.heap ∧ s'.os = t.os ∧ AllBare s'.gens) t := by
  have rv := vals_ints hi
  have ln := hi.length
  have nta : a ∉ ts := fun z => by
    have := (tab a z).1
    rw [ha] at this
    cases this
  -- T tracks the tables, and the script where K does not know it
  have main : ∀ T : Hp, (∀ b, (T b = none ∧ b ∉ ts) ∨ (b ∈ ts ∧ T b = some (.tbl #[])) ∨ (b = a ∧ K.lookup a = none ∧ ∃ ob xs, T b = some (.frz ob (.lst xs)))) → SqL K T a (ns.map V.int) → HOk P w T t.heap →
      codeAny (model P w) callerA (.call (.ref fa) ⟨[.ref a], []⟩) (fun r s' => r = .ok (.ret (.bool true)) ∧ OldK t.heap s'.heap ∧ s'.os = t.os ∧ AllBare s'.gens) t := by
    intro T only sq ok
    have nsK : ∀ {b : Addr} {m : Str → Option Value}, t.heap.Ns b m → (hidT t.heap T).Ns b m := by
      rintro b m ⟨o, es, ep, e, d, r⟩
      refine ⟨o, es, ep, hidT_get e ?_, d, r⟩
      rcases only b with z | ⟨z, _⟩ | ⟨rfl, _⟩
      · exact z.1
      · rw [(tab b z).1] at e
        cases e
        cases d
      · rw [ha] at e
        cases e
        cases d
    have Kb : K.In (hidT t.heap T) := fun b o e => hidT_get (KX b o e) (by
      rcases only b with z | ⟨z, _⟩ | ⟨rfl, z, _⟩
      · exact z.1
      · rw [(tab b z).2.1] at e
        cases e
      · rw [z] at e
        cases e)
    obtain ⟨mc, l1, l2⟩ := hlim
    have md : Mod K mg (hidT t.heap T) := ⟨Kb, nsK hns, ⟨mb, nsK hb, hbb⟩, mc, nsK l1, l2⟩
    have e0 : Env0 P w K mg (hidT t.heap T) callerA [] t T := ⟨rfl, md, fun _ _ e => of_hidT e, Nat.le_of_eq (hidT_size _ _), trivial, fun b hb => (by cases hb), ok, .of_eq hg⟩
    have tb : ∀ p ∈ ts, T p = some (.tbl #[]) := fun p hp => by
      rcases only p with z | z | ⟨z, _⟩
      · exact absurd hp z.2
      · exact z.2
      · exact absurd (z ▸ hp) nta
    refine codeAny_mono ((F _ Kb (nsK hns)).run callerA [] t T ⟨[.ref a], []⟩ [.ref a] [.ref a] _ _ (fun _ => rfl) hr e0 (hbind t (.ref a)) (.cons rfl .nil) (hsp T tb sq)) fun r s' h => ?_
    cases r with
    | error e => exact (hCX T e s' h).elim
    | ok fl => cases fl with
      | ret u =>
        obtain ⟨v, T', os, bare, un, ok', r', q⟩ := h
        cases (show v = .bl true from q)
        cases (show u = Value.bool true from r')
        have each : ∀ b o, t.heap.get? b = some o → asItWas t.heap s'.heap b o ∧ ∃ o', s'.heap.get? b = some o' := fun b o e => by
          rcases only b with z | ⟨z, zt⟩ | ⟨rfl, _, ob, xs, z⟩
          · have e2 := un.keep b o e z.1 (fun z => by cases z) (by simp)
            exact ⟨.inl e2, o, e2⟩
          · obtain ⟨more, z2⟩ := un.tbls b #[] zt
            have e2 : s'.heap.get? b = some { cls := .none, data := .fields (#[] ++ more) } := ok' b _ z2
            rw [(tab b z).1] at e
            cases e
            exact ⟨.inr (.inl ⟨(tab b z).2.2, rfl, #[], more, rfl, e2⟩), _, e2⟩
          · obtain ⟨e1, _⟩ := ok b _ z
            obtain ⟨e2, _⟩ := ok' b _ (un.frzs b ob _ z)
            rw [e] at e1
            cases e1
            exact ⟨.inl e2, o, e2⟩
        exact ⟨rfl, ⟨fun b o e => (each b o e).1, fun b o e => (each b o e).2⟩, os, bare⟩
      | _ => exact False.elim h
  by_cases hk : K.lookup a = none
  · refine main (fun b => if b ∈ ts then some (.tbl #[]) else if b = a then some (.frz { cls := .type "list", data := .seq vs.toArray } (.lst (ns.map V.int))) else none) (fun b => ?_) (.inl (.inr ⟨{ cls := .type "list", data := .seq vs.toArray }, ?_⟩)) fun b u z => ?_
    · by_cases h : b ∈ ts
      · exact .inr (.inl ⟨h, if_pos h⟩)
      · by_cases h2 : b = a
        · exact .inr (.inr ⟨h2, hk, _, _, (if_neg h).trans (if_pos h2)⟩)
        · exact .inl ⟨(if_neg h).trans (if_neg h2), h⟩
    · show (if a ∈ ts then _ else _) = _
      rw [if_neg nta, if_pos rfl]
    · by_cases h : b ∈ ts
      · cases (if_pos h).symm.trans z
        exact (tab b h).1
      · by_cases h2 : b = a
        · subst h2
          cases ((if_neg h).trans (if_pos rfl)).symm.trans z
          exact ⟨ha, by rw [List.length_map]; exact hl, vs, _, rv, ha⟩
        · cases ((if_neg h).trans (if_neg h2)).symm.trans z
  · obtain ⟨o, hk⟩ := Option.ne_none_iff_exists'.mp hk
    have e := KX a o hk
    rw [ha] at e
    cases e
    refine main (fun b => if b ∈ ts then some (.tbl #[]) else none) (fun b => ?_) (.inr ⟨_, vs.toArray, _, hk, rfl, rfl, rfl, by rw [List.size_toArray, ln]; exact hl, by simpa using rv⟩) fun b u z => ?_
    · by_cases h : b ∈ ts
      · exact .inr (.inl ⟨h, if_pos h⟩)
      · exact .inl ⟨if_neg h, h⟩
    · by_cases h : b ∈ ts
      · cases (if_pos h).symm.trans z
        exact (tab b h).1
      · cases (if_neg h).symm.trans z
end Mi

/-! repr of data. -/
namespace Mi
open PySem PySem.Spec PySem.Calls PyProof.Rows L2
section
variable {X : Cx} {G : Gm}
theorem cr_repr (cold : Cold X.A) (hu : X.A.units + 65 < cLine) : CallR X (.builtin "repr") (fun vs H Q => ∃ v d, vs = [v] ∧ Dp X.K H v d ∧ SeqAt.shaped d = true ∧ d.depth ≤ 40 ∧ d.showable = true ∧ d.shown.length ≤ sizeLine ∧ Q (.str d.shown) H) := by
  intro pins s σ H vs us Q I r h
  obtain ⟨v, d, rfl, hd, sh, dp, hs, hz, q⟩ := h
  obtain ⟨u, rfl, rv⟩ : ∃ u, us = [u] ∧ RelV v u := by
    cases r with
    | cons a t =>
      cases t
      exact ⟨_, rfl, a⟩
  obtain ⟨as, rd⟩ := Dp.reads I d v u hd rv
  have go : ∀ h' t tk, (∀ b o, s.heap.get? b = some o → h'.get? b = some o) → EP X pins σ Q (.str d.shown t) { s with heap := h', toks := tk } := fun h' t tk hk => ⟨.str d.shown, H, I.kept hk, ⟨t, rfl⟩, q⟩
  have hsm : d.hasDict = true → sysModules ∉ as := PyData.noDict_hsm (PyData.hasDict_of_canLay d (SeqAt.canLay_of_shaped sh))
  have rd' := rd
  cases rd with
  | none =>
    simp only [PyData.shown] at go
    exact PySem.P.repr_of_none (go _ _ _ fun _ _ e => e)
  | bool b =>
    simp only [PyData.shown] at go
    exact PySem.P.repr_of_bool (go _ _ _ fun _ _ e => e)
  | int i t =>
    simp only [PyData.shown] at go
    exact PySem.P.repr_of_int (by simpa [PyData.showable] using hs) (go _ _ _ fun _ _ e => e)
  | str x t =>
    simp only [PyData.shown] at go hz
    exact PySem.P.repr_of_str (go _ _ _ fun _ _ e => e) hz
  | _ => exact repr_of_reads' rd' hs hsm cold (by omega) (fun _ _ e => e) go hz
end
end Mi

/-! Dicts as data: displays, repr; truth of lists. -/
namespace Mi
open PySem PySem.Spec PySem.Calls PyProof.Rows L2
section
variable {X : Cx} {G : Gm} {Z : WX} {C : CallI}
theorem RWs.to_map {K : PySem.W.Frag} {d : Wd} {vs : List W} {xs : List V} (h : RWs K G d vs xs) : xs.length = vs.length := h.len
/-! ### what is read without a step -/
def tX0 : Ex → TE
  | .var i => tVar i
  | .cst (.int i) => tC (.int i)
  | .cst (.str x) => tC (.str x)
  | .cst .non => tC .non
  | .cst (.bl b) => tC (.bl b)
  | _ => fun _ _ _ => False
def isX0 : Ex → Bool
  | .var _ => true
  | .cst (.int _) => true
  | .cst (.str _) => true
  | .cst .non => true
  | .cst (.bl _) => true
  | _ => false
theorem x0_read {K : PySem.W.Frag} {Ob : Addr → Prop} {env : Env} {s s' : Sto} {d : Wd} {σ : L2.St} {x : Ex} {w : W} (hE : SimE K G Ob env d σ) (hx : isX0 x = true) (h : evalE C x env s = .ok w s') : s' = s ∧ ∃ v, RW K G d w v ∧ ∀ (H : Hp) (Q : VK), Q v H → tX0 x σ H Q := by
  unfold isX0 at hx
  split at hx
  · rename_i i
    rw [evalE] at h
    cases e : env[i]? with
    | none => rw [e] at h; cases h
    | some o => cases o with
      | emp => rw [e] at h; cases h
      | own _ => rw [e] at h; cases h
      | val u =>
        rw [e] at h
        cases h
        obtain ⟨v, e1, r⟩ := hE.val i w e
        exact ⟨rfl, v, r, fun H Q q => ⟨v, e1, q⟩⟩
  · rw [evalE] at h
    cases h
    exact ⟨rfl, _, .mkI, fun H Q q => q⟩
  · rw [evalE] at h
    cases h
    exact ⟨rfl, _, by unfold RW; rfl, fun H Q q => q⟩
  · rw [evalE] at h
    cases h
    exact ⟨rfl, _, by unfold RW; rfl, fun H Q q => q⟩
  · rw [evalE] at h
    cases h
    exact ⟨rfl, _, .mkB, fun H Q q => q⟩
  · cases hx
theorem x0_ex {K : PySem.W.Frag} {env : Env} {s s' : Sto} {x : Ex} {y : Exn} (hx : isX0 x = true) : evalE C x env s ≠ .ex y s' := by
  unfold isX0 at hx
  split at hx <;> first | (cases hx; done) | skip
  · rename_i i
    rw [evalE]
    split <;> exact fun z => nomatch z
  all_goals
    rw [evalE]
    exact fun z => nomatch z
/-! ### displays -/
def trsOf : List Ex → List (TE × TE)
  | k :: v :: r => (tX0 k, tX0 v) :: trsOf r
  | _ => []
theorem keyW_rw {K : PySem.W.Frag} {d : Wd} {w : W} {v : V} {k : L2.Key} (h : keyW w = some k) (r : RW K G d w v) : v = kV k ∧ w = keyOf k := by
  cases w <;> simp only [keyW] at h <;> cases h
  · exact ⟨r.int, rfl⟩
  · unfold RW at r
    exact ⟨r, rfl⟩
theorem pairs_read {K : PySem.W.Frag} {Ob : Addr → Prop} {env : Env} {d : Wd} {σ : L2.St} (hE : SimE K G Ob env d σ) : ∀ (xs : List Ex) (s s' : Sto) (l : List W) (ps : List (L2.Key × W)), (∀ x ∈ xs, isX0 x = true) → evalL C xs env s = .ok l s' → pairsW l = some ps →
    s' = s ∧ ∃ kvs : List (L2.Key × V), kvs.map (·.1) = ps.map (·.1) ∧ RWs K G d (ps.map (·.2)) (kvs.map (·.2)) ∧ ∀ (H : Hp) (Q : List (V × V) → Hp → Prop), Q (kvs.map fun kv => (kV kv.1, kv.2)) H → tPairs (trsOf xs) σ H Q
  | [], s, s', l, ps, _, h, hp => by
    rw [evalL] at h
    cases h
    rw [pairsW] at hp
    cases hp
    exact ⟨rfl, [], rfl, .nil, fun H Q q => q⟩
  | [x], s, s', l, ps, hx, h, hp => by
    have hx0 := hx x (List.mem_cons_self ..)
    have e : evalL C [x] env s = (evalE C x env s).bind fun a s => (evalL C [] env s).bind fun r s => .ok (a :: r) s := by
      rw [evalL]
      intro e z
      rw [z] at hx0
      cases hx0
    rw [e] at h
    obtain ⟨a, s1, e1, h⟩ := Out.bind_inv h
    rw [evalL] at h
    cases h
    rw [pairsW] at hp
    · cases hp
    all_goals simp
  | x :: y :: r, s, s', l, ps, hx, h, hp => by
    have hx0 := hx x (List.mem_cons_self ..)
    have hy0 := hx y (List.mem_cons_of_mem _ (List.mem_cons_self ..))
    have e : evalL C (x :: y :: r) env s = (evalE C x env s).bind fun a s => (evalL C (y :: r) env s).bind fun q s => .ok (a :: q) s := by
      rw [evalL]
      intro e z
      rw [z] at hx0
      cases hx0
    have e2 : ∀ s, evalL C (y :: r) env s = (evalE C y env s).bind fun a s => (evalL C r env s).bind fun q s => .ok (a :: q) s := fun s => by
      rw [evalL]
      intro e z
      rw [z] at hy0
      cases hy0
    rw [e] at h
    obtain ⟨a, s1, e1, h⟩ := Out.bind_inv h
    obtain ⟨q, s2, e3, h⟩ := Out.bind_inv h
    rw [e2] at e3
    obtain ⟨b, s3, e4, e3⟩ := Out.bind_inv e3
    obtain ⟨q2, s4, e5, e3⟩ := Out.bind_inv e3
    cases e3
    cases h
    rw [pairsW] at hp
    cases ek : keyW a with
    | none => rw [ek] at hp; cases hp
    | some k =>
      rw [ek, Option.bind_some] at hp
      cases ep : pairsW q2 with
      | none => rw [ep] at hp; cases hp
      | some ps2 =>
        rw [ep] at hp
        cases hp
        obtain ⟨rfl, v1, r1, t1⟩ := x0_read hE hx0 e1
        obtain ⟨rfl, v2, r2, t2⟩ := x0_read hE hy0 e4
        obtain ⟨rfl, kvs, q1, q3, q4⟩ := pairs_read hE r _ _ q2 ps2 (fun z hz => hx z (List.mem_cons_of_mem _ (List.mem_cons_of_mem _ hz))) e5 ep
        obtain ⟨rfl, rfl⟩ := keyW_rw ek r1
        refine ⟨rfl, (k, v2) :: kvs, by simp [q1], .cons r2 q3, fun H Q q => ?_⟩
        exact t1 H _ (t2 H _ (q4 H _ q))
theorem mergeK_nodup : ∀ (kvs acc : List (L2.Key × V)), (∀ p ∈ kvs, p.1 ∉ acc.map (·.1)) → (kvs.map (·.1)).Nodup → mergeK acc kvs = acc ++ kvs
  | [], acc, _, _ => by simp [mergeK]
  | p :: r, acc, h, hn => by
    rw [List.map_cons, List.nodup_cons] at hn
    have h1 : valV acc p.1 = none := by
      unfold valV
      rw [Option.map_eq_none_iff, List.find?_eq_none]
      intro q hq z
      have := of_decide_eq_true z
      exact h p (List.mem_cons_self ..) (List.mem_map.mpr ⟨q, hq, this⟩)
    show mergeK (putK acc p.1 p.2) r = _
    rw [putK_new p.2 h1, mergeK_nodup r _ (fun q hq z => ?_) hn.2, List.append_assoc]
    · rfl
    · rw [List.map_append, List.mem_append] at z
      rcases z with z | z
      · exact h q (List.mem_cons_of_mem _ hq) z
      · simp only [List.map_cons, List.map_nil, List.mem_singleton] at z
        exact hn.1 (z ▸ List.mem_map_of_mem hq)
theorem new_dct {K : PySem.W.Frag} {s : Sto} {d : Wd} {p : Addr} {kvs : List (L2.Key × V)} {vs : List W} {Y : Value → Option Addr → Wd → Prop} {Q : V → Hp → Prop} (hS : SimS K G s d) (hp : d.H p = none) (r : RWs K G d vs (kvs.map (·.2)))
    (h : Oks K G d.Ow d (fun w _ d' => ∀ v, RW K G d' w v → Q v d'.H) Y (.ok (.dct (kvs.map fun q => keyOf q.1) vs) s)) : Q (.ref p) (upd d.H p (.dK kvs)) := by
  obtain ⟨e1, s1⟩ := hS.fresh (o := .dK kvs) hp true
  refine h _ e1 rfl s1 (.ref p) ?_
  unfold RW
  exact ⟨p, kvs, rfl, .inr ⟨rfl, rfl⟩, upd_same, rfl, r.mono e1⟩
/-- {k: v, ..} of names and constants -/
theorem se_dsp {keys : List (Option Expr)} {values : List Expr} {pos : Pos} {xs : List Ex} (h : PPs X pos keys values (trsOf xs)) (hall : keys.all (·.isSome) = true) (hl : keys.length = values.length) (h0 : keys ≠ []) (h15 : keys.length ≤ 15) (hx : ∀ x ∈ xs, isX0 x = true) :
    PE X (.Dict keys values pos) (tE X.K G Z (evalE C (.dsp xs))) := by
  refine PE.imp (pe_disp h hall hl h0 h15) fun σ H Q hq => ?_
  obtain ⟨env, s, d, Ob, rfl, hE, hS, hk⟩ := hq
  rw [evalE] at hk
  intro p hp
  cases e : evalL C xs env s with
  | no => rw [e] at hk; exact hk.elim
  | ex y s1 =>
    exfalso
    have : ∀ (xs : List Ex) (s : Sto), (∀ x ∈ xs, isX0 x = true) → ∀ y s1, evalL C xs env s ≠ .ex y s1 := fun xs => by
      induction xs with
      | nil => intro s _ y s1 z; rw [evalL] at z; cases z
      | cons x r ih =>
        intro s hx y s1 z
        have hx0 := hx x (List.mem_cons_self ..)
        have e : evalL C (x :: r) env s = (evalE C x env s).bind fun a s => (evalL C r env s).bind fun q s => .ok (a :: q) s := by
          rw [evalL]
          intro e z
          rw [z] at hx0
          cases hx0
        rw [e] at z
        cases e1 : evalE C x env s with
        | no => rw [e1] at z; cases z
        | ex y2 s2 => exact x0_ex (K := X.K) hx0 e1
        | ok a s2 =>
          rw [e1, Out.bind_ok] at z
          cases e2 : evalL C r env s2 with
          | no => rw [e2] at z; cases z
          | ex y2 s3 => exact ih s2 (fun w hw => hx w (List.mem_cons_of_mem _ hw)) _ _ e2
          | ok q s3 => rw [e2] at z; cases z
    exact this xs s hx y s1 e
  | ok l s1 =>
    rw [e, Out.bind_ok] at hk
    obtain ⟨w, ew, hk⟩ := hk.of
    unfold dspV at ew
    cases ep : pairsW l with
    | none => rw [ep] at ew; cases ew
    | some ps =>
      rw [ep, Option.bind_some] at ew
      split at ew
      · rename_i hc
        cases ew
        obtain ⟨rfl, kvs, q1, q2, q3⟩ := pairs_read hE xs s s1 l ps hx e ep
        have hlen : kvs.length = ps.length := by
          have := congrArg List.length q1
          simpa using this
        refine q3 _ _ ⟨upd_same, kvs, rfl, by omega, ?_⟩
        rw [upd_upd, mergeK_nodup kvs [] (fun _ _ => by simp) (by rw [q1]; exact hc.2), List.nil_append]
        refine new_dct (Y := fun cls dd d' => Z cls dd σ d'.H) hS hp q2 ?_
        have : kvs.map (fun q => keyOf q.1) = ps.map fun p => keyOf p.1 := by
          have := congrArg (List.map keyOf) q1
          rw [List.map_map, List.map_map] at this
          exact this
        rw [this]
        exact hk
      · cases ew
theorem se_dsp0 {pos : Pos} : PE X (.Dict [] [] pos) (tE X.K G Z (evalE C (.dsp []))) := by
  refine PE.imp pe_dnewK fun σ H Q hq => ?_
  obtain ⟨env, s, d, Ob, rfl, hE, hS, hk⟩ := hq
  rw [evalE, evalL, Out.bind_ok] at hk
  obtain ⟨w, ew, hk⟩ := hk.of
  cases ew
  exact fun p hp => new_dct (kvs := []) hS hp (vs := []) .nil hk
/-! ### repr -/
theorem keys_reads {P : Program} {w : World} {h : Heap} : ∀ {es : List DictEntry} {ks : List (L2.Key × V)} {vs : List (L2.Key × Value)}, Pairs (mixKind P w) es vs → KV ks vs → ReadsAll h (es.map (·.key)) (toDs (ks.map fun p => keyOf p.1)) [] ∧ Vals (ks.map (·.2)) (es.map (·.val))
  | _, _, _, .nil, .nil => ⟨ReadsAll.nil, .nil⟩
  | _, _, _, .cons (e := e) (kv := kv) h1 h2 h3, .cons (a := p) r t => by
    obtain ⟨q1, q2⟩ := keys_reads (h := h) h3 t
    refine ⟨?_, .cons (by show RelV p.2 e.val; rw [h2]; exact r.2) q2⟩
    have hk : keyIs p.1 e.key = true := by rw [r.1]; exact h1
    have one : Reads h e.key (toD (keyOf p.1)) [] := by
      rcases keyIs_shape hk with ⟨i, t, e1, e2⟩ | ⟨x, t, e1, e2⟩
      · rw [e1, e2]
        exact Reads.int i t
      · rw [e1, e2]
        exact Reads.str x t
    exact ReadsAll.cons (as := []) (bs := []) one q1
mutual
theorem RW.readsT {pins : List (Addr × Obj)} {σ : L2.St} {s : Shared} {d : Wd} (I : Inv X pins σ d.H s) : ∀ (w : W) (v : V) (n : Nat) (u : Value), isT w n = true → RW X.K G d w v → RelV v u → ∃ as, Reads s.heap u (toD w) as ∧ sysModules ∉ as
  | .non, _, _, _, _, h, r => by
    unfold RW at h
    subst h
    cases r
    exact ⟨_, Reads.none, by simp⟩
  | .bl b, _, _, _, _, h, r => by
    rw [h.bl] at r
    cases r
    exact ⟨_, Reads.bool b, by simp⟩
  | .int i, _, _, _, _, h, r => by
    rw [h.int] at r
    obtain ⟨t, rfl⟩ := r
    exact ⟨_, Reads.int i t, by simp⟩
  | .str x, _, _, _, _, h, r => by
    unfold RW at h
    subst h
    obtain ⟨t, rfl⟩ := r
    exact ⟨_, Reads.str x t, by simp⟩
  | .tup l, _, n, _, f, h, r => by
    unfold isT at f
    rw [Bool.and_eq_true] at f
    obtain ⟨a, xs, rfl, hs, ha⟩ := h.tup
    cases r
    obtain ⟨its, rv, ⟨o, ho, hc, m, hd⟩, _⟩ := I.tuple hs
    obtain ⟨as, hr, na⟩ := RWs.readsT I l _ (n - 1) its f.2 ha rv
    exact ⟨_, by rw [toD]; exact Reads.tuple ho hc hd hr, na⟩
  | .dct ks vs, _, n, _, f, h, r => by
    unfold isT at f
    simp only [Bool.and_eq_true, decide_eq_true_eq] at f
    unfold RW at h
    obtain ⟨a, kvs, rfl, _, hh, rfl, hv⟩ := h
    cases r
    obtain ⟨_, hsys, us, rk, o, es, ep, ho, hex, hdat, _, hpr, _⟩ := dk_of I.hok hh
    obtain ⟨q1, q2⟩ := keys_reads (h := s.heap) hpr rk
    obtain ⟨bs, hr, nb⟩ := RWs.readsT I vs _ (n - 1) _ f.1.2 hv q2
    have hlen : (toDs (kvs.map fun p => keyOf p.1)).length = (toDs vs).length := by
      rw [toDs_len, toDs_len]
      exact f.2
    refine ⟨a :: [] ++ bs, ?_, ?_⟩
    · rw [toD]
      refine Reads.dict (as := []) (bs := bs) ho hex.1 hdat ?_ ?_
      · rw [List.map_fst_zip (by omega)]
        exact q1
      · rw [List.map_snd_zip (by omega)]
        exact hr
    · simp only [List.append_nil, List.cons_append, List.nil_append, List.mem_cons, not_or]
      exact ⟨fun z => by rw [z] at hsys; simp at hsys, nb⟩
  | .lst l, _, _, _, f, _, _ => by unfold isT at f; cases f
  | .ref l, _, _, _, f, _, _ => by unfold isT at f; cases f
  | .gl l, _, _, _, f, _, _ => by unfold isT at f; cases f
  | .scr l, _, _, _, f, _, _ => by unfold isT at f; cases f
  | .map l m, _, _, _, f, _, _ => by unfold isT at f; cases f
theorem RWs.readsT {pins : List (Addr × Obj)} {σ : L2.St} {s : Shared} {d : Wd} (I : Inv X pins σ d.H s) : ∀ (l : List W) (vs : List V) (n : Nat) (us : List Value), isTs l n = true → RWs X.K G d l vs → Vals vs us → ∃ as, ReadsAll s.heap us (toDs l) as ∧ sysModules ∉ as
  | [], _, _, _, _, h, r => by
    unfold RWs at h
    subst h
    cases r
    exact ⟨_, ReadsAll.nil, by simp⟩
  | w :: l, _, n, _, f, h, r => by
    unfold isTs at f
    rw [Bool.and_eq_true] at f
    unfold RWs at h
    obtain ⟨x, xs, rfl, h1, h2⟩ := h
    cases r with
    | cons r1 r2 =>
      obtain ⟨as, q1, n1⟩ := RW.readsT I w _ n _ f.1 h1 r1
      obtain ⟨bs, q2, n2⟩ := RWs.readsT I l _ n _ f.2 h2 r2
      exact ⟨_, by rw [toDs]; exact ReadsAll.cons q1 q2, by rw [List.mem_append]; exact fun z => z.elim n1 n2⟩
theorem toDs_len : ∀ l : List W, (toDs l).length = l.length
  | [] => rfl
  | w :: l => by rw [toDs, List.length_cons, List.length_cons, toDs_len l]
end
theorem kv_depth : ∀ ks vs : List PyData, PyData.depthKv (ks.zip vs) ≤ max (PyData.depthAll ks) (PyData.depthAll vs)
  | [], _ => by simp [PyData.depthKv]
  | _ :: _, [] => by simp [PyData.depthKv]
  | k :: ks, v :: vs => by
    have := kv_depth ks vs
    simp only [List.zip_cons_cons, PyData.depthKv, PyData.depthAll]
    omega
theorem isKs_ok : ∀ (l : List W), isKs l = true → PyData.depthAll (toDs l) = 0
  | [], _ => by simp [toDs, PyData.depthAll]
  | .int i :: l, h => by
    rw [isKs] at h
    simp [toDs, toD, PyData.depthAll, PyData.depth, isKs_ok l h]
  | .str i :: l, h => by
    rw [isKs] at h
    simp [toDs, toD, PyData.depthAll, PyData.depth, isKs_ok l h]
mutual
theorem isT_ok : ∀ (w : W) (n : Nat), isT w n = true → PyData.depth (toD w) ≤ n
  | .non, _, _ => by simp [toD, PyData.depth]
  | .bl b, _, _ => by simp [toD, PyData.depth]
  | .int i, _, _ => by simp [toD, PyData.depth]
  | .str x, _, _ => by simp [toD, PyData.depth]
  | .tup l, n, f => by
    unfold isT at f
    simp only [Bool.and_eq_true, decide_eq_true_eq] at f
    have := isTs_ok l (n - 1) f.2
    simp only [toD, PyData.depth]
    omega
  | .dct ks vs, n, f => by
    unfold isT at f
    simp only [Bool.and_eq_true, decide_eq_true_eq] at f
    have h1 := isTs_ok vs (n - 1) f.1.2
    have h2 := isKs_ok ks f.1.1.2
    simp only [toD, PyData.depth]
    have := kv_depth (toDs ks) (toDs vs)
    omega
  | .lst _, _, f => by unfold isT at f; cases f
  | .ref _, _, f => by unfold isT at f; cases f
  | .gl _, _, f => by unfold isT at f; cases f
  | .scr _, _, f => by unfold isT at f; cases f
  | .map _ _, _, f => by unfold isT at f; cases f
theorem isTs_ok : ∀ (l : List W) (n : Nat), isTs l n = true → PyData.depthAll (toDs l) ≤ n
  | [], _, _ => by simp [toDs, PyData.depthAll]
  | w :: l, n, f => by
    unfold isTs at f
    rw [Bool.and_eq_true] at f
    have h1 := isT_ok w n f.1
    have h2 := isTs_ok l n f.2
    simp only [toDs, PyData.depthAll]
    omega
end
theorem cr_reprT (G : Gm) (cold : Cold X.A) (hu : X.A.units + 65 < cLine) : CallR X (.builtin "repr") (fun vs H Q => ∃ v w d, vs = [v] ∧ d.H = H ∧ RW X.K G d w v ∧ isT w 40 = true ∧ (toD w).showable = true ∧ (toD w).shown.length ≤ sizeLine ∧ Q (.str (toD w).shown) H) := by
  intro pins s σ H vs us Q I r h
  obtain ⟨v, w, d, rfl, rfl, hw, ht, hs, hz, q⟩ := h
  obtain ⟨u, rfl, rv⟩ : ∃ u, us = [u] ∧ RelV v u := by
    cases r with
    | cons a t =>
      cases t
      exact ⟨_, rfl, a⟩
  obtain ⟨as, rd, na⟩ := RW.readsT I w v 40 u ht hw rv
  have dp := isT_ok w 40 ht
  generalize toD w = dd at *
  have go : ∀ h' t tk, (∀ b o, s.heap.get? b = some o → h'.get? b = some o) → EP X pins σ Q (.str dd.shown t) { s with heap := h', toks := tk } := fun h' t tk hk => ⟨.str dd.shown, d.H, I.kept hk, ⟨t, rfl⟩, q⟩
  have hsm : dd.hasDict = true → sysModules ∉ as := fun _ => na
  have rd' := rd
  cases rd with
  | none =>
    simp only [PyData.shown] at go
    exact PySem.P.repr_of_none (go _ _ _ fun _ _ e => e)
  | bool b =>
    simp only [PyData.shown] at go
    exact PySem.P.repr_of_bool (go _ _ _ fun _ _ e => e)
  | int i t =>
    simp only [PyData.shown] at go
    exact PySem.P.repr_of_int (by simpa [PyData.showable] using hs) (go _ _ _ fun _ _ e => e)
  | str x t =>
    simp only [PyData.shown] at go hz
    exact PySem.P.repr_of_str (go _ _ _ fun _ _ e => e) hz
  | _ => exact repr_of_reads' rd' hs hsm cold (by omega) (fun _ _ e => e) go hz
theorem bi_repr (cold : Cold X.A) (hu : X.A.units + 65 < cLine) : BiOk X G (RW X.K G) .repr (.builtin "repr") := by
  refine ⟨_, (cr_repr cold hu).or (cr_reprT G cold hu), fun s d ws w vs Q Y hS rs hb h => ?_⟩
  match ws, rs, hb with
  | [], _, hb => cases hb
  | [u], rs, hb =>
    obtain ⟨v, rfl, r⟩ := rs.one
    simp only [biV] at hb
    split at hb
    · rename_i hc
      cases hb
      simp only [Bool.and_eq_true, Bool.or_eq_true, decide_eq_true_eq] at hc
      obtain ⟨⟨h1, h2⟩, h3⟩ := hc
      have hz : (toD u).shown.length ≤ sizeLine := by
        rw [sizeLine_eq]
        unfold lim at h3
        omega
      have fin := h.now hS (.str (toD u).shown) (by unfold RW; rfl)
      rcases h1 with h1 | h1
      · exact .inl ⟨v, toD u, rfl, r.dp h1, shaped_of h1, (isD_ok u 40 h1).2, h2, hz, fin⟩
      · rcases r with r | ⟨p, rfl, _, rc⟩
        · exact .inr ⟨v, u, d, rfl, rfl, r, h1, h2, hz, fin⟩
        · cases u with
          | lst l => unfold isT at h1; cases h1
          | map ks vs => unfold isT at h1; cases h1
          | _ => exact rc.elim
    · cases hb
  | _ :: _ :: _, _, hb => cases hb
/-! ### truth, in a test -/
theorem toT_ok {K : PySem.W.Frag} {d : Wd} {w : W} {v : V} {b : Bool} (r : RR K G d w v) (h : toT w = some b) : TruV K v d.H b := by
  cases w with
  | non => rcases r with r | ⟨_, _, _, z⟩; · unfold RW at r; subst r; cases h; rfl
           · exact z.elim
  | bl x => rw [r.bl]; cases h; rfl
  | int i => rw [r.int]; cases h; rfl
  | lst l =>
    obtain ⟨a, xs, rfl, hh, rr⟩ := r.lstH
    cases h
    refine .inl ⟨xs, .inl (.inl hh), ?_⟩
    have := rr.len
    cases l <;> cases xs <;> simp_all
  | tup l =>
    obtain ⟨a, xs, rfl, hh, rr⟩ := r.tup
    cases h
    refine .inr (.inl ⟨xs, hh, ?_⟩)
    have := rr.len
    cases l <;> cases xs <;> simp_all
  | str x => cases h
  | dct _ _ => cases h
  | ref n => cases h
  | gl n => cases h
  | scr n => cases h
  | map n m => cases h
theorem st_tru {e : Expr} {a : Ex} (h : PE X e (tR X.K G Z (rdE C a))) (he : ∀ whole, isTrue e X.env whole = (do let v ← whole; standAt e.pos; holding [v] (truthy v))) : PT X e (tB' X.K G Z (evalT C (.tru a))) := by
  refine PT.imp (pt_truth h he) fun σ H Q hq => ?_
  obtain ⟨env, s, d, Ob, rfl, hE, hS, hk⟩ := hq
  unfold evalT at hk
  rw [evalE, Out.bind_bind] at hk
  show tR X.K G Z (rdE C a) σ d.H fun x H' => ∃ k, TruV X.K x H' k ∧ Q k H'
  refine tG.step hE hS hk fun u s1 d1 hE1 hS1 _ _ h1 v rv => ?_
  rw [Out.bind_bind] at h1
  obtain ⟨b, eb, h2⟩ := h1.of_bind
  have h3 : Oks X.K G d1.Ow d1 _ _ (Out.ok b s1) := h2
  exact ⟨b, toT_ok rv eb, h3.now hS1 b rfl⟩
end
end Mi

/-! Calls of defs, targets, what is walked, comprehensions. -/
namespace Mi
open PySem PySem.Spec PyProof.Rows L2
section
variable {X : Cx} {G : Gm} {Z : WX} {C : CallI}
/-! ### calls -/
/-- a def's promise: what C says of it -/
def spOf (K : PySem.W.Frag) (G : Gm) (C : CallI) (f : Nat) : Sp := fun vs H Q E =>
  ∃ ws s d, d.H = H ∧ RWs K G d ws vs ∧ SimS K G s d ∧ Oks K G d.Ow d (fun w _ d' => ∀ v, RW K G d' w v → Q v d'.H) (fun cls dd d' => E cls dd d'.H) (C f ws s)
theorem se_call {cd : Bool} {k : Nat} {f : Addr} {fd : FuncData} {ps : List Str} {n : Nat} {x : Str} {p pos : Pos} {e : Expr} {es : List Expr} {xs : List Ex} (tk : Takes X Z) (F : FnG cd X.prog X.w X.K X.mg X.base (L2.CX X.prog X.w) k f fd ps (spOf X.K G C n)) (cold : cd = true → Cold X.A) (hr : Room k X.A) (hg : Gl X x)
    (hm : X.mg x = some (.ref f)) (hk : PySem.W.keepIn X.K (.ref f) = true) (hb : Binds X.K fd ps []) (ha : PA X (e :: es) (tL X.K G Z (evalL C xs))) (hdb : (x == ("__debug__" : Str)) = false)
    (he : starEach (e :: es) X.env = (false, eval e X.env) :: starEach es X.env) (hpl : (backTo pos (starEach es X.env)).any (·.1) = false) : PE X (.Call (.Name x p) (e :: es) [] pos) (tE X.K G Z (evalE C (.call n xs))) := by
  refine PE.imp (pe_callG F cold hr hg hm hk hb (fun σ => passAt tk σ) ha hdb he hpl) fun σ H Q hq => ?_
  obtain ⟨env, s, d, Ob, rfl, hE, hS, hk⟩ := hq
  rw [evalE] at hk
  show tL X.K G Z (evalL C xs) σ d.H fun vs H1 => spOf X.K G C n vs H1 Q (WE Z σ)
  refine tG.step hE hS hk fun u s1 d1 hE1 hS1 _ _ h1 v rv => ?_
  exact ⟨u, s1, d1, rfl, rv, hS1, h1⟩
theorem se_call0 {cd : Bool} {k : Nat} {f : Addr} {fd : FuncData} {ps : List Str} {n : Nat} {x : Str} {p pos : Pos} (tk : Takes X Z) (F : FnG cd X.prog X.w X.K X.mg X.base (L2.CX X.prog X.w) k f fd ps (spOf X.K G C n)) (cold : cd = true → Cold X.A) (hr : Room k X.A) (hg : Gl X x)
    (hm : X.mg x = some (.ref f)) (hk : PySem.W.keepIn X.K (.ref f) = true) (hb : Binds X.K fd ps []) (hdb : (x == ("__debug__" : Str)) = false) : PE X (.Call (.Name x p) [] [] pos) (tE X.K G Z (evalE C (.call n []))) := by
  refine ⟨fun pins s σ H Q I hq => ?_⟩
  refine wpAny_Call_Name_kw (ld_glob I hg hm ?_ hdb)
  refine PySem.W.callWith_K0 I.kIn hk (run_fnG (zs := []) (Y := WE Z) F cold hr hb (passAt tk σ) I .nil ?_)
  obtain ⟨env, s, d, Ob, rfl, hE, hS, hk⟩ := hq
  rw [evalE, evalL] at hk
  exact ⟨[], s, d, rfl, .nil, hS, hk⟩

/-! ### calls with keywords -/
theorem perm_vals {xs : List V} {us : List Value} (r : Vals xs us) : ∀ pm : List Nat, Vals (permL pm xs) (permL pm us)
  | [] => .nil
  | i :: pm => by
    unfold permL
    cases e : xs[i]? with
    | none =>
      rw [r.none_of e]
      exact perm_vals r pm
    | some x =>
      obtain ⟨u, e2, h⟩ := r.get e
      rw [e2]
      exact .cons h (perm_vals r pm)
theorem perm_rws {K : PySem.W.Frag} {d : Wd} {l : List W} {xs : List V} (r : RWs K G d l xs) : ∀ pm : List Nat, RWs K G d (permL pm l) (permL pm xs)
  | [] => .nil
  | i :: pm => by
    unfold permL
    cases e : l[i]? with
    | none =>
      have : xs[i]? = none := by
        rw [List.getElem?_eq_none_iff] at e ⊢
        rw [r.len]
        exact e
      rw [this]
      exact perm_rws r pm
    | some x =>
      obtain ⟨u, e2, h⟩ := r.get e
      rw [e2]
      exact .cons h (perm_rws r pm)
theorem sk_nil : PK X [] (tL X.K G Z (evalL C [])) := by
  refine ⟨fun pos pins s σ H Q I hq => pk_nil.run pos pins s σ H Q I ?_⟩
  obtain ⟨env, s, d, Ob, rfl, hE, hS, hk⟩ := hq
  rw [evalL] at hk
  exact hk.now hS _ .nil
theorem sk_cons {e : Expr} {nm : Option Str} {kp : Pos} {kws : List Keyword} {x : Ex} {xs : List Ex} (hx : ∀ y, x ≠ .star y) (h : PE X e (tE X.K G Z (evalE C x))) (h2 : PK X kws (tL X.K G Z (evalL C xs))) : PK X (⟨nm, e, kp⟩ :: kws) (tL X.K G Z (evalL C (x :: xs))) := by
  refine ⟨fun pos pins s σ H Q I hq => (pk_cons h h2).run pos pins s σ H Q I ?_⟩
  obtain ⟨env, s, d, Ob, rfl, hE, hS, hk⟩ := hq
  have : evalL C (x :: xs) env s = (evalE C x env s).bind fun x s => (evalL C xs env s).bind fun r s => .ok (x :: r) s := by
    cases x <;> first | rfl | exact absurd rfl (hx _)
  rw [this] at hk
  show tE X.K G Z (evalE C x) σ d.H fun v H1 => tL X.K G Z (evalL C xs) σ H1 fun vs H2 => Q (v :: vs) H2
  refine tG.step hE hS hk fun u s1 d1 hE1 hS1 _ _ h1 v rv => ?_
  refine tG.step hE1 hS1 h1 fun u2 s2 d2 hE2 hS2 e2 _ h2 v2 rv2 => ?_
  exact h2.now hS2 _ (.cons (rv.mono e2) rv2)
theorem run_fnGK {cd : Bool} {CX : CXT} {k : Nat} {f : Addr} {fd : FuncData} {ps ks : List Str} {pm : List Nat} {sp : Sp} {Y : L2.St → XK} {pins : List (Addr × Obj)} {σ : L2.St} {T : Hp} {s : Shared} {R : VK} {zs : List Value} {xs : List V} (F : FnG cd X.prog X.w X.K X.mg X.base CX k f fd ps sp) (cold : cd = true → Cold X.A) (room : Room k X.A)
    (hb : ∀ (s : Shared) (ws : List Value), X.K.In s.heap → ws.length = ks.length → BindsTo s fd ⟨[], ks.zip ws⟩ (ps.zip (permL pm ws))) (hx : PassesAt CX X σ (Y σ))
    (I : Inv X pins σ T s) (v : Vals xs zs) (hl : zs.length = ks.length) (h : sp (permL pm xs) T R (Y σ)) : wpAny (model X.prog X.w) X.A (call (.ref f) [] (ks.zip zs)) (EP X pins σ R) X.xe s := by
  refine wpAny_call (codeAny_mono (F.run X.A X.stack s T ⟨[], ks.zip zs⟩ (permL pm zs) (permL pm xs) R (Y σ) cold room I.env0 (hb s zs I.kIn hl) (perm_vals v pm) h) fun r s2 hq => ?_)
  cases r with
  | error u => exact hx pins T s u s2 I hq
  | ok fl => cases fl with
    | ret u => exact I.after hq
    | _ => exact False.elim hq
theorem se_callK {cd : Bool} {k : Nat} {f : Addr} {fd : FuncData} {ps ks : List Str} {pm : List Nat} {n : Nat} {x : Str} {p pos : Pos} {kws : List Keyword} {xs : List Ex} (tk : Takes X Z) (F : FnG cd X.prog X.w X.K X.mg X.base (L2.CX X.prog X.w) k f fd ps (spOf X.K G C n)) (cold : cd = true → Cold X.A) (hr : Room k X.A) (hg : Gl X x)
    (hm : X.mg x = some (.ref f)) (hk : PySem.W.keepIn X.K (.ref f) = true) (hb : ∀ (s : Shared) (ws : List Value), X.K.In s.heap → ws.length = ks.length → BindsTo s fd ⟨[], ks.zip ws⟩ (ps.zip (permL pm ws))) (hp : pm.length = ks.length)
    (ha : PK X kws (tL X.K G Z (evalL C xs))) (hdb : (x == ("__debug__" : Str)) = false)
    (hall : (backToKw pos (keywordEach kws X.env)).all (·.1.isSome) = true) (hks : (backToKw pos (keywordEach kws X.env)).filterMap (·.1) = ks)
    (hpl : ((backTo pos (starEach [] X.env)).any (·.1) || (backToKw pos (keywordEach kws X.env)).any (·.1.isNone)) = false) : PE X (.Call (.Name x p) [] kws pos) (tE X.K G Z (evalE C (.callK n pm xs))) := by
  refine ⟨fun pins s σ H Q I hq => ?_⟩
  refine wpAny_Call_Name_kw (ld_glob I hg hm ?_ hdb)
  obtain ⟨env, s', d, Ob, rfl, hE, hS, hk'⟩ := hq
  rw [evalE] at hk'
  have hq : tL X.K G Z (evalL C xs) σ d.H fun vs H1 => vs.length = ks.length ∧ spOf X.K G C n (permL pm vs) H1 Q (WE Z σ) := by
    refine tG.step hE hS hk' fun u s1 d1 hE1 hS1 _ _ h1 v rv => ?_
    split at h1
    · rename_i hl
      exact ⟨by rw [rv.len, hl, hp], permL pm u, s1, d1, rfl, perm_rws rv pm, hS1, h1⟩
    · exact h1.elim
  refine PySem.W.callWith_KW0 (h₀ := X.base) I.ok.mod.kin hk hall (thn (ha.run pos pins s σ d.H _ I hq) ?_) hpl
  rintro zs s1 ⟨vs, H1, I1, v, q1, q2⟩
  refine ⟨I1.kIn, ?_⟩
  rw [hks]
  exact run_fnGK (Y := WE Z) F cold hr hb (passAt tk σ) I1 v (v.length.symm.trans q1) q2

/-! ### targets -/
mutual
def gOf (K : PySem.W.Frag) : Tg → TG
  | .nm i => gName i
  | .tup ts => gTup K ts.length (gOfs K ts)
def gOfs (K : PySem.W.Frag) : List Tg → TGs
  | [] => gNil
  | t :: ts => gCons (gOf K t) (gOfs K ts)
end
mutual
def tgIn (vs : List Nat) : Tg → Bool
  | .nm i => vs.contains i
  | .tup ts => tgIns vs ts
def tgIns (vs : List Nat) : List Tg → Bool
  | [] => true
  | t :: ts => tgIn vs t && tgIns vs ts
end
theorem SimE.set {K : PySem.W.Frag} {Ob : Addr → Prop} {env : Env} {d : Wd} {σ : L2.St} {i : Nat} {w : W} {v : V} (h : SimE K G Ob env d σ) (r : RW K G d w v) : SimE K G Ob (env.set i (.val w)) d (σ.set i (some v)) := by
  refine ⟨by simp [h.len], fun j u hj => ?_, fun j u hj => ?_, fun j k wj wk p hj hk ej ek => ?_, h.ob⟩
  · by_cases e : i = j
    · subst e
      rw [List.getElem?_set] at hj
      rw [List.getElem?_set, ← h.len]
      simp only [if_true] at hj ⊢
      split at hj
      · rename_i hl
        cases hj
        exact ⟨v, by simp [hl], r⟩
      · cases hj
    · rw [List.getElem?_set_ne e] at hj ⊢
      exact h.val j u hj
  · by_cases e : i = j
    · subst e
      rw [List.getElem?_set] at hj
      simp only [if_true] at hj
      split at hj <;> cases hj
    · rw [List.getElem?_set_ne e] at hj ⊢
      exact h.own j u hj
  · by_cases e : i = j
    · subst e
      rw [List.getElem?_set] at hj
      simp only [if_true] at hj
      split at hj <;> cases hj
    · by_cases e2 : i = k
      · subst e2
        rw [List.getElem?_set] at hk
        simp only [if_true] at hk
        split at hk <;> cases hk
      · rw [List.getElem?_set_ne e] at hj ej
        rw [List.getElem?_set_ne e2] at hk ek
        exact h.sep j k wj wk p hj hk ej ek
theorem wipe_get (σ : L2.St) : ∀ (vs : List Nat) (j : Nat), (wipe σ vs)[j]? = if j ∈ vs then σ[j]?.map (fun _ => none) else σ[j]?
  | [], j => by simp [wipe]
  | v :: vs, j => by
    unfold wipe
    rw [List.getElem?_set, wipe_length, wipe_get σ vs j]
    by_cases e : v = j
    · subst e
      simp only [if_true, List.mem_cons, true_or]
      by_cases hl : v < σ.length
      · simp [hl]
      · simp [hl, List.getElem?_eq_none (Nat.le_of_not_lt hl)]
    · simp only [if_neg e, List.mem_cons, show (j = v) ↔ False from ⟨fun z => e z.symm, False.elim⟩, false_or]
theorem wipe_set {σ : L2.St} {vs : List Nat} {i : Nat} {x : Option V} (h : i ∈ vs) : wipe (σ.set i x) vs = wipe σ vs := by
  refine List.ext_getElem? fun j => ?_
  rw [wipe_get, wipe_get]
  split
  · rw [List.getElem?_set]
    split
    · rename_i e
      subst e
      split
      · rename_i hl
        simp [hl]
      · rename_i hl
        simp [List.getElem?_eq_none (Nat.le_of_not_lt hl)]
    · rfl
  · rename_i hn
    rw [List.getElem?_set_ne (fun e => hn (by rw [← e]; exact h))]
mutual
theorem gOf_ok {K : PySem.W.Frag} {Ob : Addr → Prop} {d : Wd} : ∀ (t : Tg) (w : W) (v : V) (env env' : Env) (σ : L2.St) (Q : L2.St → Hp → Prop), bindTg t w env = some env' → SimE K G Ob env d σ → RW K G d w v →
    (∀ σ', SimE K G Ob env' d σ' → (∀ vs, tgIn vs t = true → wipe σ' vs = wipe σ vs) → Q σ' d.H) → gOf K t v σ d.H Q
  | .nm i, w, v, env, env', σ, Q, hb, hE, r, k => by
    simp only [bindTg] at hb
    cases hb
    refine k _ (hE.set r) fun vs hv => wipe_set ?_
    simpa [tgIn] using hv
  | .tup ts, w, v, env, env', σ, Q, hb, hE, r, k => by
    cases w with
    | tup ws =>
      simp only [bindTg] at hb
      obtain ⟨a, xs, rfl, ht, q⟩ := r.tup
      show ∃ a' xs', V.ref a = .ref a' ∧ SqT K d.H a' xs' ∧ xs'.length = ts.length ∧ gOfs K ts xs' σ d.H Q
      refine ⟨a, xs, rfl, ht, ?_, gOfs_ok ts ws xs env env' σ Q hb hE q fun σ' h1 h2 => k σ' h1 fun vs hv => h2 vs (by simpa [tgIn] using hv)⟩
      rw [q.len, bindTgs_len hb]
    | _ => simp only [bindTg] at hb; cases hb
theorem gOfs_ok {K : PySem.W.Frag} {Ob : Addr → Prop} {d : Wd} : ∀ (ts : List Tg) (ws : List W) (vs : List V) (env env' : Env) (σ : L2.St) (Q : L2.St → Hp → Prop), bindTgs ts ws env = some env' → SimE K G Ob env d σ → RWs K G d ws vs →
    (∀ σ', SimE K G Ob env' d σ' → (∀ vs, tgIns vs ts = true → wipe σ' vs = wipe σ vs) → Q σ' d.H) → gOfs K ts vs σ d.H Q
  | [], ws, vs, env, env', σ, Q, hb, hE, r, k => by
    cases ws with
    | nil =>
      simp only [bindTgs] at hb
      cases hb
      unfold RWs at r
      exact ⟨r, k σ hE fun _ _ => rfl⟩
    | cons w ws => simp only [bindTgs] at hb; cases hb
  | t :: ts, ws, vs, env, env', σ, Q, hb, hE, r, k => by
    cases ws with
    | nil => simp only [bindTgs] at hb; cases hb
    | cons w ws =>
      simp only [bindTgs] at hb
      unfold RWs at r
      obtain ⟨x, r', rfl, r1, r2⟩ := r
      cases e : bindTg t w env with
      | none => rw [e] at hb; cases hb
      | some env1 =>
        rw [e] at hb
        refine ⟨x, r', rfl, gOf_ok t w x env env1 σ _ e hE r1 fun σ1 h1 k1 => ?_⟩
        refine gOfs_ok ts ws r' env1 env' σ1 Q hb h1 r2 fun σ2 h2 k2 => k σ2 h2 fun vs hv => ?_
        unfold tgIns at hv
        rw [Bool.and_eq_true] at hv
        rw [k2 vs hv.2, k1 vs hv.1]
theorem bindTgs_len : ∀ {ts : List Tg} {ws : List W} {env env' : Env}, bindTgs ts ws env = some env' → ws.length = ts.length
  | [], [], _, _, _ => rfl
  | [], _ :: _, _, _, h => by simp only [bindTgs] at h; cases h
  | _ :: _, [], _, _, h => by simp only [bindTgs] at h; cases h
  | t :: ts, w :: ws, env, env', h => by
    simp only [bindTgs] at h
    cases e : bindTg t w env with
    | none => rw [e] at h; cases h
    | some env1 =>
      rw [e] at h
      rw [List.length_cons, List.length_cons, bindTgs_len h]
end

/-! ### what is walked -/
/-- the iterator J goes over l from d on, as long as F and S are kept -/
structure Walks (K : PySem.W.Frag) (G : Gm) (S : Addr → Prop) (d0 : Wd) (l : List W) (J : It) : Prop where
  go : ∀ d i, Evo K S d0 d → i < l.length → J.go i d.H
  stop : ∀ d, Evo K S d0 d → J.stop l.length d.H
  yld : ∀ d s i w x H', Evo K S d0 d → SimS K G s d → l[i]? = some w → J.yld i d.H x H' → ∃ d', d'.H = H' ∧ Evo K d.Ow d d' ∧ d'.Ow = d.Ow ∧ SimS K G s d' ∧ RW K G d' w x
theorem Walks.sub {K : PySem.W.Frag} {S S' : Addr → Prop} {d : Wd} {l : List W} {J : It} (h : Walks K G S d l J) (hs : ∀ a, S a → S' a) : Walks K G S' d l J :=
  ⟨fun d i e => h.go d i (e.sub hs), fun d e => h.stop d (e.sub hs), fun d s i w x H' e => h.yld d s i w x H' (e.sub hs)⟩
theorem walks_list {K : PySem.W.Frag} {S : Addr → Prop} {d : Wd} {l : List W} {a : Addr} {xs : List V} (hk : ∀ d', Evo K S d d' → d'.H a = some (.lst xs)) (r : RWs K G d l xs) : Walks K G S d l (Itl K a) := by
  refine ⟨fun d' i e hi => ?_, fun d' e => ?_, fun d' s i w x H' e hS hw hy => ?_⟩
  · obtain ⟨v, hv, _⟩ := r.get (List.getElem?_eq_getElem hi)
    exact ⟨xs, v, .of (hk d' e), hv⟩
  · exact ⟨xs, .of (hk d' e), by rw [r.len]; exact Nat.le_refl _⟩
  · obtain ⟨rfl, hy⟩ := hy
    obtain ⟨v, hv, rv⟩ := r.get hw
    have := hy xs (.of (hk d' e))
    rw [hv] at this
    cases this
    exact ⟨d', rfl, .refl _, rfl, hS, rv.mono e⟩
theorem walks_scr {K : PySem.W.Frag} {S : Addr → Prop} {d : Wd} {l : List Int} {a : Addr} (h : (d.F a ∧ Rd d.H a (.lst (l.map V.int))) ∨ ∀ H, SqL K H a (l.map V.int)) : Walks K G S d (l.map .int) (Itl K a) := by
  have hk : ∀ d', Evo K S d d' → SqL K d'.H a (l.map V.int) := fun d' e => h.elim (fun h => .inl (e.rd (.inl h.1) h.2)) fun h => h _
  refine ⟨fun d' i e hi => ?_, fun d' e => ?_, fun d' s i w x H' e hS hw hy => ?_⟩
  · rw [List.length_map] at hi
    exact ⟨_, .int l[i], hk d' e, by rw [List.getElem?_map, List.getElem?_eq_getElem hi]; rfl⟩
  · exact ⟨_, hk d' e, by rw [List.length_map, List.length_map]; exact Nat.le_refl _⟩
  · obtain ⟨rfl, hy⟩ := hy
    have := hy _ (hk d' e)
    rw [List.getElem?_map] at this hw
    cases e2 : l[i]? with
    | none => rw [e2] at hw; cases hw
    | some n =>
      rw [e2] at hw this
      cases hw
      cases this
      exact ⟨d', rfl, .refl _, rfl, hS, .mkI⟩
theorem walks_tup {K : PySem.W.Frag} {S : Addr → Prop} {d : Wd} {l : List W} {a : Addr} {xs : List V} (h : SqT K d.H a xs) (r : RWs K G d l xs) : Walks K G S d l (Itt K a) := by
  have hk : ∀ d', Evo K S d d' → SqT K d'.H a xs := fun d' e => e.T a xs h
  refine ⟨fun d' i e hi => ?_, fun d' e => ?_, fun d' s i w x H' e hS hw hy => ?_⟩
  · obtain ⟨v, hv, _⟩ := r.get (List.getElem?_eq_getElem hi)
    exact ⟨xs, v, hk d' e, hv⟩
  · exact ⟨xs, hk d' e, by rw [r.len]; exact Nat.le_refl _⟩
  · obtain ⟨rfl, hy⟩ := hy
    obtain ⟨v, hv, rv⟩ := r.get hw
    have := hy xs (hk d' e)
    rw [hv] at this
    cases this
    exact ⟨d', rfl, .refl _, rfl, hS, rv.mono e⟩
theorem walks_range {K : PySem.W.Frag} {S : Addr → Prop} {d : Wd} (lo : Int) (n : Nat) : Walks K G S d ((List.range n).map fun (k : Nat) => W.int (lo + (k : Int))) (Itr lo n) := by
  refine ⟨fun d' i e hi => by show i < n; simpa using hi, fun d' e => by show n ≤ _; simp, fun d' s i w x H' e hS hw hy => ?_⟩
  obtain ⟨rfl, rfl⟩ := hy
  rw [List.getElem?_map] at hw
  cases e2 : (List.range n)[i]? with
  | none => rw [e2] at hw; cases hw
  | some k =>
    rw [e2] at hw
    cases hw
    have : k = i := by
      obtain ⟨h1, h2⟩ := List.getElem?_eq_some_iff.mp e2
      simpa using h2.symm
    subst this
    exact ⟨d', rfl, .refl _, rfl, hS, .mkI⟩
theorem walks_map {K : PySem.W.Frag} {S : Addr → Prop} {d : Wd} {ks : List W} {a : Addr} {o : Obj} {kl : List V} (hk : ∀ d', Evo K S d d' → d'.H a = some (DO a o)) (r : RWs K G d ks kl) : Walks K G S d ks (ItE a o kl) := by
  refine ⟨fun d' i e hi => ⟨hk d' e, by rw [r.len]; exact hi⟩, fun d' e => ⟨hk d' e, Nat.le_of_eq r.len⟩, fun d' s i w x H' e hS hw hy => ?_⟩
  obtain ⟨rfl, hy⟩ := hy
  obtain ⟨v, hv, rv⟩ := r.get hw
  rw [hv] at hy
  cases hy
  exact ⟨d', rfl, .refl _, rfl, hS, rv.mono e⟩
theorem walks_rangeC {K : PySem.W.Frag} {S : Addr → Prop} {d : Wd} (lo c : Int) (n : Nat) : Walks K G S d ((List.range n).map fun (k : Nat) => W.int (lo + (k : Int) * c)) (Itc lo c n) := by
  refine ⟨fun d' i e hi => by show i < n; simpa using hi, fun d' e => by show n ≤ _; simp, fun d' s i w x H' e hS hw hy => ?_⟩
  obtain ⟨rfl, rfl⟩ := hy
  rw [List.getElem?_map] at hw
  cases e2 : (List.range n)[i]? with
  | none => rw [e2] at hw; cases hw
  | some k =>
    rw [e2] at hw
    cases hw
    have : k = i := by
      obtain ⟨h1, h2⟩ := List.getElem?_eq_some_iff.mp e2
      simpa using h2.symm
    subst this
    exact ⟨d', rfl, .refl _, rfl, hS, .mkI⟩
/-- the reading of what is walked, Sf: what must stand meanwhile -/
abbrev tI (K : PySem.W.Frag) (G : Gm) (Z : WX) (Sf : Wd → Addr → Prop) (m : Env → Sto → Out (List W)) : TI := tG K G Z (fun d l J => Walks K G (Sf d) d l J) m
def evalI (C : CallI) (a : Ex) (env : Env) (s : Sto) : Out (List W) := (evalE C a env s).bind fun x s => .of (seqOf x) s
def evalJ (C : CallI) (a : Ex) (env : Env) (s : Sto) : Out (List W) := (rdE C a env s).bind fun x s => .of (seqOf x) s
theorem pi_imp {X : Cx} {tg e : Expr} {t t' : TI} (h : PI X tg e t) (i : ∀ σ H Q, t' σ H Q → t σ H Q) : PI X tg e t' := ⟨fun pins s σ H Q I hq => h.run pins s σ H Q I (i σ H Q hq)⟩
theorem pi_or {X : Cx} {tg e : Expr} {t t' : TI} (h : PI X tg e t) (h' : PI X tg e t') : PI X tg e (fun σ H Q => t σ H Q ∨ t' σ H Q) := ⟨fun pins s σ H Q I hq => hq.elim (h.run pins s σ H Q I) (h'.run pins s σ H Q I)⟩
/-- a value that is walked -/
theorem walks_txt {K : PySem.W.Frag} {S : Addr → Prop} {d : Wd} (x : Str) : Walks K G S d (x.cps.toList.map fun c => W.str ⟨#[c]⟩) (Its x) := by
  refine ⟨fun d' i e hi => ?_, fun d' e => ?_, fun d' s i w v H' e hS hw hy => ?_⟩
  · rw [List.length_map, Array.length_toList] at hi
    exact hi
  · show x.cps.size ≤ _
    rw [List.length_map, Array.length_toList]
    exact Nat.le_refl _
  · obtain ⟨rfl, c, hc, rfl⟩ := hy
    rw [List.getElem?_map, Array.getElem?_toList, hc] at hw
    cases hw
    exact ⟨d', rfl, .refl _, rfl, hS, by unfold RW; rfl⟩
theorem si_val {tg e : Expr} {a : Ex} (h : PE X e (tE X.K G Z (evalE C a))) : PI X tg e (tI X.K G Z (fun _ _ => False) (evalI C a)) := by
  refine pi_imp (pi_or (pi_or (pi_or (pi_list h) (pi_tup h)) (pi_keysE h)) (pi_str h)) fun σ H Q hq => ?_
  obtain ⟨env, s, d, Ob, rfl, hE, hS, hk⟩ := hq
  show (((tE X.K G Z (evalE C a) σ d.H fun v H1 => ∃ p, v = .ref p ∧ (∃ xs, SqL X.K H1 p xs) ∧ Q (Itl X.K p) H1) ∨ (tE X.K G Z (evalE C a) σ d.H fun v H1 => ∃ p, v = .ref p ∧ (∃ xs, SqT X.K H1 p xs) ∧ Q (Itt X.K p) H1)) ∨
    (tE X.K G Z (evalE C a) σ d.H fun x H1 => ∃ d o ks vs, x = .ref d ∧ H1 d = some (DO d o) ∧ (d == sysModules) = false ∧ EnV o ks vs ∧ Q (ItE d o ks) H1)) ∨
    (tE X.K G Z (evalE C a) σ d.H fun v H1 => ∃ x, v = .str x ∧ Q (Its x) H1)
  unfold evalI at hk
  revert hk
  cases hm : evalE C a env s with
  | no => exact fun z => z.elim
  | ex x s' =>
    intro hk
    refine .inl (.inl (.inl (tG.go hE hS ?_)))
    rw [hm]
    exact hk
  | ok w s' =>
    intro hk
    cases w with
    | tup l =>
      refine .inl (.inl (.inr (tG.go hE hS ?_)))
      rw [hm]
      intro d' e eo ss v rv
      obtain ⟨p, xs, rfl, ht, r⟩ := rv.tup
      exact ⟨p, rfl, ⟨xs, ht⟩, hk d' e eo ss _ (walks_tup ht r)⟩
    | lst l =>
      refine .inl (.inl (.inl (tG.go hE hS ?_)))
      rw [hm]
      intro d' e eo ss v rv
      obtain ⟨p, xs, rfl, hF, ht, r⟩ := rv.lst
      exact ⟨p, rfl, ⟨xs, .of ht⟩, hk d' e eo ss _ (walks_list (fun d2 e2 => (e2.H p (.inl hF)).trans ht) r)⟩
    | scr l =>
      refine .inl (.inl (.inl (tG.go hE hS ?_)))
      rw [hm]
      intro d' e eo ss v rv
      unfold RW at rv
      obtain ⟨p, rfl, ht⟩ := rv
      exact ⟨p, rfl, ⟨_, ht.elim (fun h => .inl h.2) fun h => h _⟩, hk d' e eo ss _ (walks_scr ht)⟩
    | map ks vs =>
      refine .inl (.inr (tG.go hE hS ?_))
      rw [hm]
      intro d' e eo ss v rv
      unfold RW at rv
      obtain ⟨p, kl, vl, rfl, hF, t, r1, r2⟩ := rv
      obtain ⟨o, ho, hs, en⟩ := t.obj X.prog X.w
      exact ⟨p, o, kl, vl, rfl, ho, hs, en, hk d' e eo ss _ (walks_map (fun d2 e2 => (e2.H p (.inl hF)).trans ho) r1)⟩
    | str x =>
      refine .inr (tG.go hE hS ?_)
      rw [hm]
      intro d' e eo ss v rv
      unfold RW at rv
      exact ⟨x, rv, hk d' e eo ss _ (walks_txt x)⟩
    | _ => exact hk.elim
/-- .. one's own list, too, while nothing of one's own changes -/
theorem sj_var {tg : Expr} {i : Nat} {x : Str} {pos : Pos} (hN : X.N[i]? = some x) (hv : Vis X.env.scope x) (hd : (x == ("__debug__" : Str)) = false) (hcd : (x == ("__classdict__" : Str)) = false) : PI X tg (.Name x pos) (tI X.K G Z (fun d => d.Ow) (evalJ C (.var i))) := by
  have h := sr_var (G := G) (Z := Z) (C := C) (pos := pos) hN hv hd hcd
  refine pi_imp (pi_or (pi_or (pi_or (pi_list h) (pi_tup h)) (pi_keysE h)) (pi_str h)) fun σ H Q hq => ?_
  obtain ⟨env, s, d, Ob, rfl, hE, hS, hk⟩ := hq
  show (((tR X.K G Z (rdE C (.var i)) σ d.H fun v H1 => ∃ p, v = .ref p ∧ (∃ xs, SqL X.K H1 p xs) ∧ Q (Itl X.K p) H1) ∨ (tR X.K G Z (rdE C (.var i)) σ d.H fun v H1 => ∃ p, v = .ref p ∧ (∃ xs, SqT X.K H1 p xs) ∧ Q (Itt X.K p) H1)) ∨
    (tR X.K G Z (rdE C (.var i)) σ d.H fun x H1 => ∃ d o ks vs, x = .ref d ∧ H1 d = some (DO d o) ∧ (d == sysModules) = false ∧ EnV o ks vs ∧ Q (ItE d o ks) H1)) ∨
    (tR X.K G Z (rdE C (.var i)) σ d.H fun v H1 => ∃ x, v = .str x ∧ Q (Its x) H1)
  unfold evalJ at hk
  revert hk
  cases hm : rdE C (.var i) env s with
  | no => exact fun z => z.elim
  | ex x s' =>
    intro hk
    refine .inl (.inl (.inl (tG.go hE hS ?_)))
    rw [hm]
    exact hk
  | ok w s' =>
    intro hk
    cases w with
    | tup l =>
      refine .inl (.inl (.inr (tG.go hE hS ?_)))
      rw [hm]
      intro d' e eo ss v rv
      obtain ⟨p, xs, rfl, ht, r⟩ := rv.tup
      exact ⟨p, rfl, ⟨xs, ht⟩, hk d' e eo ss _ (walks_tup ht r)⟩
    | lst l =>
      refine .inl (.inl (.inl (tG.go hE hS ?_)))
      rw [hm]
      intro d' e eo ss v rv
      rcases rv with rv | ⟨p, rfl, ho, xs, ht, r⟩
      · obtain ⟨p, xs, rfl, hF, ht, r⟩ := rv.lst
        exact ⟨p, rfl, ⟨xs, .of ht⟩, hk d' e eo ss _ (walks_list (fun d2 e2 => (e2.H p (.inl hF)).trans ht) r)⟩
      · exact ⟨p, rfl, ⟨xs, .of ht⟩, hk d' e eo ss _ (walks_list (fun d2 e2 => (e2.H p (.inr ho)).trans ht) r)⟩
    | scr l =>
      refine .inl (.inl (.inl (tG.go hE hS ?_)))
      rw [hm]
      intro d' e eo ss v rv
      rcases rv with rv | ⟨p, rfl, _, rc⟩
      · unfold RW at rv
        obtain ⟨p, rfl, ht⟩ := rv
        exact ⟨p, rfl, ⟨_, ht.elim (fun h => .inl h.2) fun h => h _⟩, hk d' e eo ss _ (walks_scr ht)⟩
      · exact rc.elim
    | map ks vs =>
      refine .inl (.inr (tG.go hE hS ?_))
      rw [hm]
      intro d' e eo ss v rv
      rcases rv with rv | ⟨p, rfl, ho, kl, vl, t, r1, r2⟩
      · unfold RW at rv
        obtain ⟨p, kl, vl, rfl, hF, t, r1, r2⟩ := rv
        obtain ⟨o, ho, hs, en⟩ := t.obj X.prog X.w
        exact ⟨p, o, kl, vl, rfl, ho, hs, en, hk d' e eo ss _ (walks_map (fun d2 e2 => (e2.H p (.inl hF)).trans ho) r1)⟩
      · obtain ⟨o, ho', hs, en⟩ := t.obj X.prog X.w
        exact ⟨p, o, kl, vl, rfl, ho', hs, en, hk d' e eo ss _ (walks_map (fun d2 e2 => (e2.H p (.inr ho)).trans ho') r1)⟩
    | str x =>
      refine .inr (tG.go hE hS ?_)
      rw [hm]
      intro d' e eo ss v rv
      exact ⟨x, rv.str, hk d' e eo ss _ (walks_txt x)⟩
    | _ => exact hk.elim
theorem rdv_of {a : Ex} (hn : ∀ i, a ≠ .var i) (env : Env) (s : Sto) (m : Out W) : rdv env a s m = m := by
  cases a with
  | var i => exact absurd rfl (hn i)
  | _ => rfl
theorem sj_of {tg e : Expr} {a : Ex} (hn : ∀ i, a ≠ .var i) (h : PI X tg e (tI X.K G Z (fun _ _ => False) (evalI C a))) : PI X tg e (tI X.K G Z (fun d => d.Ow) (evalJ C a)) := by
  refine pi_imp h fun σ H Q hq => ?_
  obtain ⟨env, s, d, Ob, rfl, hE, hS, hk⟩ := hq
  have : evalJ C a env s = evalI C a env s := by
    unfold evalJ evalI rdE
    rw [rdv_of hn]
  rw [this] at hk
  exact tG.go hE hS (Oks.imp hk fun l s' d' _ _ _ h J hJ => h J (hJ.sub fun _ z => z.elim))
theorem wir_ok {i : Int} (h : wir i = true) : -(2 ^ 62) ≤ i ∧ i < 2 ^ 62 := of_decide_eq_true h
theorem seqOf_lst {l : List W} {s : Sto} : (Out.of (seqOf (.lst l)) s) = .ok l s := rfl
theorem si_range2 {tg : Expr} {a b : Expr} {x y : Ex} {p pos : Pos} (hg : Gl X "range") (hm : X.mg "range" = none) (hx : ∀ z, x ≠ .star z) (hy : ∀ z, y ≠ .star z) (ha : PE X a (tE X.K G Z (evalE C x))) (hb : PE X b (tE X.K G Z (evalE C y)))
    (h1 : starEach [a, b] X.env = (false, eval a X.env) :: starEach [b] X.env) (h2 : starEach [b] X.env = (false, eval b X.env) :: starEach [] X.env) :
    PI X tg (.Call (.Name "range" p) [a, b] [] pos) (tI X.K G Z (fun _ _ => False) (evalI C (.range x y))) := by
  refine pi_imp (pi_range2 hg hm (pa_cons ha (pa_cons hb pa_nil h2) h1) (by rw [h1, h2]; rfl) (by rw [h2]; rfl)) fun σ H Q hq => ?_
  obtain ⟨env, s, d, Ob, rfl, hE, hS, hk⟩ := hq
  unfold evalI at hk
  rw [evalE, Out.bind_bind] at hk
  show tE X.K G Z (evalE C x) σ d.H fun v H1 => tE X.K G Z (evalE C y) σ H1 fun w H2 => ∃ i j : Int, [v, w] = [.int i, .int j] ∧ (-(2 ^ 62) ≤ i ∧ i < 2 ^ 62 ∧ -(2 ^ 62) ≤ j ∧ j < 2 ^ 62) ∧ Q (Itr i (j - i).toNat) H2
  refine tG.step hE hS hk fun u s1 d1 hE1 hS1 _ _ h1 v rv => ?_
  rw [Out.bind_bind] at h1
  refine tG.step hE1 hS1 h1 fun u2 s2 d2 hE2 hS2 e2 eo2 h2 v2 rv2 => ?_
  cases u with
  | int i => cases u2 with
    | int j =>
      dsimp only at h2
      split at h2
      · rename_i hw
        obtain ⟨q1, q2⟩ := wir_ok hw.1
        obtain ⟨q3, q4⟩ := wir_ok hw.2
        exact ⟨i, j, by rw [rv.int, rv2.int], ⟨q1, q2, q3, q4⟩, h2.now hS2 _ (walks_range i _)⟩
      · exact h2.elim
    | _ => exact h2.elim
  | _ => exact h2.elim
theorem si_range1 {tg : Expr} {b : Expr} {y : Ex} {p pos : Pos} (hg : Gl X "range") (hm : X.mg "range" = none) (hb : PE X b (tE X.K G Z (evalE C y))) (h2 : starEach [b] X.env = (false, eval b X.env) :: starEach [] X.env) :
    PI X tg (.Call (.Name "range" p) [b] [] pos) (tI X.K G Z (fun _ _ => False) (evalI C (.range (.cst (.int 0)) y))) := by
  refine pi_imp (pi_range1 hg hm (pa_cons hb pa_nil h2) (by rw [h2]; rfl)) fun σ H Q hq => ?_
  obtain ⟨env, s, d, Ob, rfl, hE, hS, hk⟩ := hq
  unfold evalI at hk
  rw [evalE, evalE] at hk
  show tE X.K G Z (evalE C y) σ d.H fun w H2 => ∃ j : Int, [w] = [.int j] ∧ -(2 ^ 62) ≤ j ∧ j < 2 ^ 62 ∧ Q (Itr 0 j.toNat) H2
  rw [Out.bind_ok, Out.bind_bind] at hk
  refine tG.step hE hS hk fun u2 s2 d2 hE2 hS2 e2 eo2 h2 v2 rv2 => ?_
  cases u2 with
  | int j =>
    dsimp only at h2
    split at h2
    · rename_i hw
      obtain ⟨q3, q4⟩ := wir_ok hw.2
      refine ⟨j, by rw [rv2.int], q3, q4, ?_⟩
      have e0 : (j - 0).toNat = j.toNat := by rw [Int.sub_zero]
      rw [e0] at h2
      exact h2.now hS2 _ (walks_range 0 _)
    · exact h2.elim
  | _ => exact h2.elim
/-- a step that makes a pair -/
theorem walks_pairs {K : PySem.W.Frag} {S : Addr → Prop} {d0 : Wd} {J : It} {n : Nat} {f : Nat → Option W} {g : Nat → Option W} (l : List W) (hl : l.length = n) (hf : ∀ i w, l[i]? = some w → ∃ a b, f i = some a ∧ g i = some b ∧ w = .tup [a, b])
    (hgo : ∀ d i, Evo K S d0 d → i < n → J.go i d.H) (hst : ∀ d, Evo K S d0 d → J.stop n d.H)
    (hy : ∀ d i v H' a b, Evo K S d0 d → i < n → f i = some a → g i = some b → J.yld i d.H v H' → ∃ T x y, v = .ref T ∧ d.H T = none ∧ H' = upd d.H T (.tup [x, y]) ∧ RW K G d a x ∧ RW K G d b y) : Walks K G S d0 l J := by
  refine ⟨fun d i e hi => hgo d i e (hl ▸ hi), fun d e => by rw [hl]; exact hst d e, fun d s i w v H' e hS hw h => ?_⟩
  obtain ⟨a, b, h1, h2, rfl⟩ := hf i w hw
  obtain ⟨T, x, y, rfl, hT, rfl, r1, r2⟩ := hy d i v H' a b e (by rw [← hl]; exact (List.getElem?_eq_some_iff.mp hw).1) h1 h2 h
  obtain ⟨e1, s1⟩ := hS.fresh (o := .tup [x, y]) hT false
  exact ⟨_, rfl, e1, rfl, s1, .mkT (.inl (.inl upd_same)) (.cons (r1.mono e1) (.one (r2.mono e1)))⟩
theorem zip_get (l r : List W) (i : Nat) (w : W) (h : (List.zipWith (fun x y => W.tup [x, y]) l r)[i]? = some w) : ∃ a b, l[i]? = some a ∧ r[i]? = some b ∧ w = .tup [a, b] := by
  rw [List.getElem?_zipWith] at h
  cases e1 : l[i]? with
  | none => rw [e1] at h; cases h
  | some a => cases e2 : r[i]? with
    | none => rw [e1, e2] at h; cases h
    | some b =>
      rw [e1, e2] at h
      exact ⟨a, b, rfl, rfl, (Option.some.inj h).symm⟩
theorem enum_get (l : List W) (i : Nat) (w : W) (h : (l.zipIdx.map fun p => W.tup [.int p.2, p.1])[i]? = some w) : ∃ a b, (if i < l.length then some (W.int (i : Int)) else none) = some a ∧ l[i]? = some b ∧ w = .tup [a, b] := by
  rw [List.getElem?_map, List.getElem?_zipIdx] at h
  cases e1 : l[i]? with
  | none => rw [e1] at h; cases h
  | some b =>
    rw [e1] at h
    simp at h
    exact ⟨_, b, if_pos (List.getElem?_eq_some_iff.mp e1).1, rfl, h.symm⟩
theorem si_range3 {tg : Expr} {a b c : Expr} {x y z : Ex} {p pos : Pos} (hg : Gl X "range") (hm : X.mg "range" = none) (ha : PE X a (tE X.K G Z (evalE C x))) (hb : PE X b (tE X.K G Z (evalE C y))) (hc : PE X c (tE X.K G Z (evalE C z)))
    (h1 : starEach [a, b, c] X.env = (false, eval a X.env) :: starEach [b, c] X.env) (h2 : starEach [b, c] X.env = (false, eval b X.env) :: starEach [c] X.env) (h3 : starEach [c] X.env = (false, eval c X.env) :: starEach [] X.env) :
    PI X tg (.Call (.Name "range" p) [a, b, c] [] pos) (tI X.K G Z (fun _ _ => False) (evalI C (.range3 x y z))) := by
  refine pi_imp (pi_range3 hg hm (pa_cons ha (pa_cons hb (pa_cons hc pa_nil h3) h2) h1) h1 (by rw [h2, h3]; rfl)) fun σ H Q hq => ?_
  obtain ⟨env, s, d, Ob, rfl, hE, hS, hk⟩ := hq
  unfold evalI at hk
  rw [evalE, Out.bind_bind] at hk
  show tE X.K G Z (evalE C x) σ d.H fun v H1 => tE X.K G Z (evalE C y) σ H1 fun w H2 => tE X.K G Z (evalE C z) σ H2 fun u H3 => ∃ (i j c : Int) (n : Nat), [v, w, u] = [.int i, .int j, .int c] ∧ RgC i j c n ∧ Q (Itc i c n) H3
  refine tG.step hE hS hk fun u s1 d1 hE1 hS1 _ _ h1 v rv => ?_
  rw [Out.bind_bind] at h1
  refine tG.step hE1 hS1 h1 fun u2 s2 d2 hE2 hS2 e2 eo2 h2 v2 rv2 => ?_
  rw [Out.bind_bind] at h2
  refine tG.step hE2 hS2 h2 fun u3 s3 d3 hE3 hS3 e3 eo3 h3 v3 rv3 => ?_
  cases u with
  | int i => cases u2 with
    | int j => cases u3 with
      | int k =>
        dsimp only at h3
        split at h3
        · rename_i hw
          have hn : 0 ≤ Builtin.Range.rangeSize i j k := by
            unfold Builtin.Range.rangeSize
            split
            · split
              · have := Int.ediv_nonneg (show 0 ≤ j - i - 1 by omega) (show 0 ≤ k by omega)
                omega
              · exact Int.le_refl _
            · split
              · have := Int.ediv_nonneg (show 0 ≤ i - j - 1 by omega) (show 0 ≤ -k by omega)
                omega
              · exact Int.le_refl _
          exact ⟨i, j, k, (Builtin.Range.rangeSize i j k).toNat, by rw [rv.int, rv2.int, rv3.int], ⟨hw.1, hw.2.1, hw.2.2, (Int.toNat_of_nonneg hn).symm⟩, h3.now hS3 _ (walks_rangeC i k _)⟩
        · exact h3.elim
      | _ => exact h3.elim
    | _ => exact h3.elim
  | _ => exact h3.elim
theorem si_items {elts : List Expr} {kk : Nat} {tpos apos cpos : Pos} {e : Expr} {x : Ex} (h : PE X e (tE X.K G Z (evalE C x))) (hbase : attributeBase e "items" X.env (eval e X.env) = eval e X.env) (hline : (apos.endLine == cpos.line) = true) :
    PI X (.Tuple elts kk tpos) (.Call (.Attribute e "items" apos) [] [] cpos) (tI X.K G Z (fun _ _ => False) (evalI C (.items x))) := by
  refine pi_imp (pi_itemsE h hbase hline) fun σ H Q hq => ?_
  obtain ⟨env, s, d, Ob, rfl, hE, hS, hk⟩ := hq
  unfold evalI at hk
  rw [evalE, Out.bind_bind] at hk
  show tE X.K G Z (evalE C x) σ d.H fun x H1 => ∃ d o ks vs, x = .ref d ∧ H1 d = some (DO d o) ∧ (d == sysModules) = false ∧ EnV o ks vs ∧ Q (ItP d o ks vs) H1
  refine tG.step hE hS hk fun u s1 d1 hE1 hS1 _ _ h1 v rv => ?_
  cases u with
  | map ks vs =>
    unfold RW at rv
    obtain ⟨p, kl, vl, rfl, hF, t, r1, r2⟩ := rv
    obtain ⟨o, ho, hs, en⟩ := t.obj X.prog X.w
    refine ⟨p, o, kl, vl, rfl, ho, hs, en, h1.now hS1 _ ?_⟩
    have hlen : vl.length = kl.length := let ⟨_, _, _, _, _, h, _⟩ := en; h
    have hk2 : ∀ d', Evo X.K (fun _ => False) d1 d' → d'.H p = some (DO p o) := fun d' e => (e.H p (.inl hF)).trans ho
    refine walks_pairs (n := ks.length) (f := fun i => ks[i]?) (g := fun i => vs[i]?) (pairsD ks vs) ?_ (fun i w hw => zip_get ks vs i w hw) (fun d i e hi => ⟨hk2 d e, by rw [r1.len]; exact hi⟩) (fun d e => ⟨hk2 d e, Nat.le_of_eq r1.len⟩) fun d i v H' a b e hi h1 h2 hy => ?_
    · unfold pairsD
      rw [List.length_zipWith]
      have := r1.len
      have := r2.len
      omega
    · obtain ⟨T, k, v', hk, hv, rfl, hT, rfl⟩ := hy
      obtain ⟨x1, q1, q2⟩ := r1.get h1
      obtain ⟨x2, q3, q4⟩ := r2.get h2
      rw [hk] at q1
      rw [hv] at q3
      cases q1
      cases q3
      exact ⟨T, k, v', rfl, hT, rfl, q2.mono e, q4.mono e⟩
  | _ => exact h1.elim
theorem si_zip {elts : List Expr} {kk : Nat} {tpos : Pos} {a b : Expr} {x y : Ex} {p pos : Pos} (hg : Gl X "zip") (hm : X.mg "zip" = none) (ha : PE X a (tE X.K G Z (evalE C x))) (hb : PE X b (tE X.K G Z (evalE C y)))
    (h1 : starEach [a, b] X.env = (false, eval a X.env) :: starEach [b] X.env) (h2 : starEach [b] X.env = (false, eval b X.env) :: starEach [] X.env) :
    PI X (.Tuple elts kk tpos) (.Call (.Name "zip" p) [a, b] [] pos) (tI X.K G Z (fun _ _ => False) (evalI C (.zip x y))) := by
  refine pi_imp (RZ.pi_zipA hg hm (pa_cons ha (pa_cons hb pa_nil h2) h1) h1 (by rw [h2]; rfl)) fun σ H Q hq => ?_
  obtain ⟨env, s, d, Ob, rfl, hE, hS, hk⟩ := hq
  unfold evalI at hk
  rw [evalE, Out.bind_bind] at hk
  show tE X.K G Z (evalE C x) σ d.H fun v H1 => tE X.K G Z (evalE C y) σ H1 fun w H2 => ∃ a b xs ys, [v, w] = [.ref a, .ref b] ∧ ((SqL X.K H2 a xs ∧ SqL X.K H2 b ys ∧ Q (Itz X.K a b) H2) ∨ (SqT X.K H2 a xs ∧ SqT X.K H2 b ys ∧ Q (RZ.ItzT X.K a b) H2))
  refine tG.step hE hS hk fun u s1 d1 hE1 hS1 _ _ h1 v rv => ?_
  rw [Out.bind_bind] at h1
  refine tG.step hE1 hS1 h1 fun u2 s2 d2 hE2 hS2 e2 eo2 h2 v2 rv2 => ?_
  have rv' := rv.mono e2
  cases u with
  | lst l => cases u2 with
    | lst r =>
      obtain ⟨a, xs, rfl, hF, hL, q⟩ := rv'.lst
      obtain ⟨b, ys, rfl, hF2, hL2, q2⟩ := rv2.lst
      refine ⟨a, b, xs, ys, rfl, .inl ⟨.of hL, .of hL2, h2.now hS2 _ ?_⟩⟩
      have k1 : ∀ d', Evo X.K (fun _ => False) d2 d' → SqL X.K d'.H a xs := fun d' e => .of ((e.H a (.inl hF)).trans hL)
      have k2 : ∀ d', Evo X.K (fun _ => False) d2 d' → SqL X.K d'.H b ys := fun d' e => .of ((e.H b (.inl hF2)).trans hL2)
      refine walks_pairs (n := min l.length r.length) (f := fun i => l[i]?) (g := fun i => r[i]?) _ (by simp) (zip_get l r) (fun d' i e hi => ?_) (fun d' e => ?_) (fun d' i v H' wa wb e hi h1 h2 hy => ?_)
      · obtain ⟨v1, g1, _⟩ := q.get (List.getElem?_eq_getElem (show i < l.length by omega))
        obtain ⟨v2, g2, _⟩ := q2.get (List.getElem?_eq_getElem (show i < r.length by omega))
        exact ⟨xs, ys, v1, v2, k1 d' e, k2 d' e, g1, g2⟩
      · refine ⟨xs, ys, k1 d' e, k2 d' e, ?_⟩
        rw [q.len, q2.len]
        omega
      · obtain ⟨T, x1, y1, rfl, hT, rfl, f1, f2⟩ := hy
        obtain ⟨z1, g1, r1⟩ := q.get h1
        obtain ⟨z2, g2, r2⟩ := q2.get h2
        have e1 : x1 = z1 := Option.some.inj ((f1 _ (k1 d' e)).symm.trans g1)
        have e2 : y1 = z2 := Option.some.inj ((f2 _ (k2 d' e)).symm.trans g2)
        subst e1 e2
        exact ⟨T, x1, y1, rfl, hT, rfl, r1.mono e, r2.mono e⟩
    | _ => exact h2.elim
  | tup l => cases u2 with
    | tup r =>
      obtain ⟨a, xs, rfl, hL, q⟩ := rv'.tup
      obtain ⟨b, ys, rfl, hL2, q2⟩ := rv2.tup
      refine ⟨a, b, xs, ys, rfl, .inr ⟨hL, hL2, h2.now hS2 _ ?_⟩⟩
      have k1 : ∀ d', Evo X.K (fun _ => False) d2 d' → SqT X.K d'.H a xs := fun d' e => e.T a xs hL
      have k2 : ∀ d', Evo X.K (fun _ => False) d2 d' → SqT X.K d'.H b ys := fun d' e => e.T b ys hL2
      refine walks_pairs (n := min l.length r.length) (f := fun i => l[i]?) (g := fun i => r[i]?) _ (by simp) (zip_get l r) (fun d' i e hi => ?_) (fun d' e => ?_) (fun d' i v H' wa wb e hi h1 h2 hy => ?_)
      · obtain ⟨v1, g1, _⟩ := q.get (List.getElem?_eq_getElem (show i < l.length by omega))
        obtain ⟨v2, g2, _⟩ := q2.get (List.getElem?_eq_getElem (show i < r.length by omega))
        exact ⟨xs, ys, v1, v2, k1 d' e, k2 d' e, g1, g2⟩
      · refine ⟨xs, ys, k1 d' e, k2 d' e, ?_⟩
        rw [q.len, q2.len]
        omega
      · obtain ⟨T, x1, y1, rfl, hT, rfl, f1, f2⟩ := hy
        obtain ⟨z1, g1, r1⟩ := q.get h1
        obtain ⟨z2, g2, r2⟩ := q2.get h2
        have e1 : x1 = z1 := Option.some.inj ((f1 _ (k1 d' e)).symm.trans g1)
        have e2 : y1 = z2 := Option.some.inj ((f2 _ (k2 d' e)).symm.trans g2)
        subst e1 e2
        exact ⟨T, x1, y1, rfl, hT, rfl, r1.mono e, r2.mono e⟩
    | _ => exact h2.elim
  | _ => exact h2.elim
theorem si_enum {elts : List Expr} {kk : Nat} {tpos : Pos} {a : Expr} {x : Ex} {p pos : Pos} (hg : Gl X "enumerate") (hm : X.mg "enumerate" = none) (ha : PE X a (tE X.K G Z (evalE C x))) (h1 : starEach [a] X.env = (false, eval a X.env) :: starEach [] X.env) :
    PI X (.Tuple elts kk tpos) (.Call (.Name "enumerate" p) [a] [] pos) (tI X.K G Z (fun _ _ => False) (evalI C (.enum x))) := by
  refine pi_imp (pi_or (pi_enum hg hm (pa_cons ha pa_nil h1) (by rw [h1]; rfl)) (pi_enumT hg hm (pa_cons ha pa_nil h1) (by rw [h1]; rfl))) fun σ H Q hq => ?_
  obtain ⟨env, s, d, Ob, rfl, hE, hS, hk⟩ := hq
  unfold evalI at hk
  rw [evalE, Out.bind_bind] at hk
  show (tE X.K G Z (evalE C x) σ d.H fun v H1 => ∃ a xs, [v] = [.ref a] ∧ SqL X.K H1 a xs ∧ Q (Ite X.K a) H1) ∨ (tE X.K G Z (evalE C x) σ d.H fun v H1 => ∃ a xs, [v] = [.ref a] ∧ SqT X.K H1 a xs ∧ Q (IteT X.K a) H1)
  revert hk
  cases hm : evalE C x env s with
  | no => exact fun z => z.elim
  | ex x s' =>
    intro hk
    refine .inl (tG.go hE hS ?_)
    rw [hm]
    exact hk
  | ok w s' =>
    intro hk
    cases w with
    | tup l =>
      refine .inr (tG.go hE hS ?_)
      rw [hm]
      intro d2 e eo ss v rv
      obtain ⟨a, xs, rfl, ht, q⟩ := rv.tup
      have k1 : ∀ d', Evo X.K (fun _ => False) d2 d' → SqT X.K d'.H a xs := fun d' e => e.T a xs ht
      refine ⟨a, xs, rfl, ht, hk d2 e eo ss _ ?_⟩
      refine walks_pairs (n := l.length) (f := fun i => if i < l.length then some (.int (i : Int)) else none) (g := fun i => l[i]?) _ (by simp) (enum_get l) (fun d' i e hi => ?_) (fun d' e => ?_) (fun d' i v H' wa wb e hi h1 h2 hy => ?_)
      · obtain ⟨v1, g1, _⟩ := q.get (List.getElem?_eq_getElem hi)
        exact ⟨xs, v1, k1 d' e, g1⟩
      · exact ⟨xs, k1 d' e, q.len⟩
      · obtain ⟨T, y1, rfl, hT, rfl, f2⟩ := hy
        obtain ⟨z2, g2, r2⟩ := q.get h2
        have e2 : y1 = z2 := Option.some.inj ((f2 _ (k1 d' e)).symm.trans g2)
        subst e2
        simp only [if_pos hi] at h1
        cases h1
        exact ⟨T, _, y1, rfl, hT, rfl, .mkI, r2.mono e⟩
    | lst l =>
      refine .inl (tG.go hE hS ?_)
      rw [hm]
      intro d2 e eo ss v rv
      obtain ⟨a, xs, rfl, hF, ht, q⟩ := rv.lst
      have k1 : ∀ d', Evo X.K (fun _ => False) d2 d' → SqL X.K d'.H a xs := fun d' e => .of ((e.H a (.inl hF)).trans ht)
      refine ⟨a, xs, rfl, .of ht, hk d2 e eo ss _ ?_⟩
      refine walks_pairs (n := l.length) (f := fun i => if i < l.length then some (.int (i : Int)) else none) (g := fun i => l[i]?) _ (by simp) (enum_get l) (fun d' i e hi => ?_) (fun d' e => ?_) (fun d' i v H' wa wb e hi h1 h2 hy => ?_)
      · obtain ⟨v1, g1, _⟩ := q.get (List.getElem?_eq_getElem hi)
        exact ⟨xs, v1, k1 d' e, g1⟩
      · exact ⟨xs, k1 d' e, by rw [q.len]; exact Nat.le_refl _⟩
      · obtain ⟨T, y1, rfl, hT, rfl, f2⟩ := hy
        obtain ⟨z2, g2, r2⟩ := q.get h2
        have e2 : y1 = z2 := Option.some.inj ((f2 _ (k1 d' e)).symm.trans g2)
        subst e2
        simp only [if_pos hi] at h1
        cases h1
        exact ⟨T, _, y1, rfl, hT, rfl, .mkI, r2.mono e⟩
    | _ => exact hk.elim
end
end Mi

/-! List comprehensions. -/
namespace Mi
open PySem PySem.Spec PyProof.Rows L2
def Wd.addO (d : Wd) (p : Addr) : Wd := { d with Ow := fun a => d.Ow a ∨ a = p }
def Wd.setO (d : Wd) (O : Addr → Prop) : Wd := { d with Ow := O }
abbrev Z0 : WX := fun _ _ _ _ => False
section
variable {K : PySem.W.Frag} {X : Cx} {G : Gm} {Z : WX} {C : CallI}
mutual
theorem RW.sameO {d d' : Wd} (h1 : d'.al = d.al) (h2 : d'.F = d.F) (h3 : d'.H = d.H) : ∀ {w : W} {v : V}, RW K G d w v → RW K G d' w v
  | .non, _, h => by unfold RW at h ⊢; exact h
  | .bl _, _, h => by unfold RW at h ⊢; exact h
  | .int _, _, h => by unfold RW at h ⊢; exact h
  | .str _, _, h => by unfold RW at h ⊢; exact h
  | .tup l, _, h => by
    unfold RW at h ⊢
    obtain ⟨a, xs, e1, q, r⟩ := h
    exact ⟨a, xs, e1, by rw [h3]; exact q, RWs.sameO h1 h2 h3 r⟩
  | .lst l, _, h => by
    unfold RW at h ⊢
    obtain ⟨a, xs, e1, f, q, r⟩ := h
    exact ⟨a, xs, e1, by rw [h2]; exact f, by rw [h3]; exact q, RWs.sameO h1 h2 h3 r⟩
  | .dct _ vs, _, h => by
    unfold RW at h ⊢
    obtain ⟨a, kvs, e1, hf, h4, h5, h6⟩ := h
    exact ⟨a, kvs, e1, by rw [h2]; exact hf, by rw [h3]; exact h4, h5, RWs.sameO h1 h2 h3 h6⟩
  | .map ks vs, _, h => by
    unfold RW at h ⊢
    obtain ⟨a, kl, vl, e1, hf, h4, h5, h6⟩ := h
    exact ⟨a, kl, vl, e1, by rw [h2]; exact hf, by rw [h3]; exact h4, RWs.sameO h1 h2 h3 h5, RWs.sameO h1 h2 h3 h6⟩
  | .ref n, _, h => by unfold RW at h ⊢; rw [h1]; exact h
  | .gl n, _, h => by unfold RW at h ⊢; exact h
  | .scr l, _, h => by unfold RW at h ⊢; rw [h2, h3]; exact h
theorem RWs.sameO {d d' : Wd} (h1 : d'.al = d.al) (h2 : d'.F = d.F) (h3 : d'.H = d.H) : ∀ {l : List W} {xs : List V}, RWs K G d l xs → RWs K G d' l xs
  | [], _, h => by unfold RWs at h ⊢; exact h
  | w :: l, _, h => by
    unfold RWs at h ⊢
    obtain ⟨x, r, e1, q1, q2⟩ := h
    exact ⟨x, r, e1, RW.sameO h1 h2 h3 q1, RWs.sameO h1 h2 h3 q2⟩
end
theorem SimS.addO {s : Sto} {d : Wd} {p : Addr} (h : SimS K G s d) (hF : ¬ d.F p) (hA : p ∉ d.al) (hH : Here d.H p) : SimS K G s (d.addO p) := by
  refine ⟨⟨fun a ha hf => ?_, fun a ha => ⟨(h.good.af a ha).1, fun ho => ?_⟩, h.good.nd, h.good.fh, fun a ha => ?_⟩, h.len, fun n l hn => ?_, h.tb⟩
  · rcases ha with ha | rfl
    · exact h.good.fo a ha hf
    · exact hF hf
  · rcases ho with ho | rfl
    · exact (h.good.af a ha).2 ho
    · exact hA ha
  · rcases ha with ha | rfl
    · exact h.good.oh a ha
    · exact hH
  · obtain ⟨a, xs, e1, e2, e3, e4⟩ := h.at_ n l hn
    exact ⟨a, xs, e1, e2, RWs.sameO (d := d) (d' := d.addO p) rfl rfl rfl e3, e4⟩
theorem SimS.setO {s : Sto} {d : Wd} {O : Addr → Prop} (h : SimS K G s d) (hO : ∀ a, O a → d.Ow a) : SimS K G s (d.setO O) := by
  refine ⟨⟨fun a ha => h.good.fo a (hO a ha), fun a ha => ⟨(h.good.af a ha).1, fun ho => (h.good.af a ha).2 (hO a ho)⟩, h.good.nd, h.good.fh, fun a ha => h.good.oh a (hO a ha)⟩, h.len, fun n l hn => ?_, h.tb⟩
  obtain ⟨a, xs, e1, e2, e3, e4⟩ := h.at_ n l hn
  exact ⟨a, xs, e1, e2, RWs.sameO (d := d) (d' := d.setO O) rfl rfl rfl e3, e4⟩
theorem RC.sameO {d d' : Wd} (h1 : d'.al = d.al) (h2 : d'.F = d.F) (h3 : d'.H = d.H) {w : W} {p : Addr} (h : RC K G d w p) : RC K G d' w p := by
  cases w with
  | lst l =>
    obtain ⟨xs, q, r⟩ := h
    exact ⟨xs, by rw [h3]; exact q, r.sameO h1 h2 h3⟩
  | map ks vs =>
    obtain ⟨kl, vl, q, r1, r2⟩ := h
    exact ⟨kl, vl, by rw [h3]; exact q, r1.sameO h1 h2 h3, r2.sameO h1 h2 h3⟩
  | _ => exact h.elim
theorem SimE.addO {Ob : Addr → Prop} {env : Env} {d : Wd} {σ : L2.St} {p : Addr} (h : SimE K G Ob env d σ) : SimE K G Ob env (d.addO p) σ := by
  refine ⟨h.len, fun i w hi => ?_, fun i w hi => ?_, h.sep, fun q hq => .inl (h.ob q hq)⟩
  · obtain ⟨v, e1, r⟩ := h.val i w hi
    exact ⟨v, e1, RW.sameO (d := d) (d' := d.addO p) rfl rfl rfl r⟩
  · obtain ⟨q, e1, o, nb, r⟩ := h.own i w hi
    exact ⟨q, e1, .inl o, nb, RC.sameO (d := d) (d' := d.addO p) rfl rfl rfl r⟩
theorem Evo.addO {S : Addr → Prop} {d d' : Wd} {p : Addr} (e : Evo K S d d') : Evo K S d (d'.addO p) := ⟨e.al, e.F, e.H, e.T⟩
theorem Evo.setO {S : Addr → Prop} {d d' : Wd} {O : Addr → Prop} (e : Evo K S d d') : Evo K S d (d'.setO O) := ⟨e.al, e.F, e.H, e.T⟩
theorem noEx_bind {α β : Type} (m : Out α) (f : α → Sto → Out β) : noEx (m.bind f) = (noEx m).bind fun a s => noEx (f a s) := by cases m <;> rfl
theorem noEx_ok {α : Type} (a : α) (s : Sto) : noEx (.ok a s) = .ok a s := rfl
theorem Oks.noex {S : Addr → Prop} {α : Type} {d : Wd} {Q : α → Sto → Wd → Prop} {Y Y' : Value → Option Addr → Wd → Prop} {o : Out α} (h : Oks K G S d Q Y (noEx o)) : Oks K G S d Q Y' o := by
  cases o with
  | ok a s => exact h
  | ex x s => exact h.elim
  | no => exact h
/-- in a world where D is one's own, too -/
theorem Oks.addO {α : Type} {d d0 : Wd} {D : Addr} {Q : α → Sto → Wd → Prop} {Y Y' : Value → Option Addr → Wd → Prop} {o : Out α} (hd : d0.Ow = (d.addO D).Ow) (h1 : d0.al = d.al) (h2 : d0.F = d.F) (h3 : d0.H = d.H) (h : Oks K G d.Ow d Q Y o) (hy : ∀ x s, o ≠ .ex x s) :
    Oks K G d0.Ow d0 (fun a s' d' => Q a s' (d'.setO d.Ow)) Y' o := by
  cases o with
  | ok a s =>
    intro d' e eo ss
    refine h (d'.setO d.Ow) ?_ rfl (ss.setO fun x hx => ?_)
    · refine ⟨by rw [← h1]; exact e.al, fun a ha => e.F a (by rw [h2]; exact ha), fun a ha => ?_, fun a xs ht => e.T a xs (by rw [h3]; exact ht)⟩
      have := e.H a (by rw [h2, hd]; exact ha.imp id .inl)
      exact this.trans (by rw [h3])
    · rw [eo, hd]
      exact .inl hx
  | ex x s => exact absurd rfl (hy x s)
  | no => exact h
theorem SimE.wipe {Ob : Addr → Prop} {env : Env} {d : Wd} {σ : L2.St} (h : SimE K G Ob env d σ) : ∀ vs : List Nat, SimE K G Ob (wipeE env vs) d (L2.wipe σ vs)
  | [] => h
  | v :: vs => by
    have ih := SimE.wipe h vs
    show SimE K G Ob ((wipeE env vs).set v .emp) d ((L2.wipe σ vs).set v none)
    refine ⟨by simp [ih.len], fun j u hj => ?_, fun j u hj => ?_, fun j k wj wk p hj hk ej ek => ?_, ih.ob⟩
    · by_cases e : v = j
      · subst e
        rw [List.getElem?_set] at hj
        simp only [if_true] at hj
        split at hj <;> cases hj
      · rw [List.getElem?_set_ne e] at hj ⊢
        exact ih.val j u hj
    · by_cases e : v = j
      · subst e
        rw [List.getElem?_set] at hj
        simp only [if_true] at hj
        split at hj <;> cases hj
      · rw [List.getElem?_set_ne e] at hj ⊢
        exact ih.own j u hj
    · by_cases e : v = j
      · subst e
        rw [List.getElem?_set] at hj
        simp only [if_true] at hj
        split at hj <;> cases hj
      · by_cases e2 : v = k
        · subst e2
          rw [List.getElem?_set] at hk
          simp only [if_true] at hk
          split at hk <;> cases hk
        · rw [List.getElem?_set_ne e] at hj ej
          rw [List.getElem?_set_ne e2] at hk ek
          exact ih.sep j k wj wk p hj hk ej ek
theorem pts_imp {X : Cx} {es : List Expr} {t t' : TT} (h : PTs X es t) (i : ∀ σ H Q, t' σ H Q → t σ H Q) : PTs X es t' := ⟨fun pins s σ H Q I hq => h.run pins s σ H Q I (i σ H Q hq)⟩
theorem sc_nil : PTs X [] (tB' X.K G Z (evalC C [])) := pts_imp pts_nil fun σ H Q hq => by
  obtain ⟨env, s, d, Ob, rfl, hE, hS, hk⟩ := hq
  rw [evalC] at hk
  exact hk.now hS _ rfl
theorem sc_one {c : Expr} {x : Ex} (h : PT X c (tB' X.K G Z (evalT C x))) : PTs X [c] (tB' X.K G Z (evalC C [x])) := pts_imp (pts_one h) fun σ H Q hq => by
  obtain ⟨env, s, d, Ob, rfl, hE, hS, hk⟩ := hq
  have : evalC C [x] env s = evalT C x env s := by
    rw [evalC]
    unfold evalT
    cases evalE C x env s with
    | no => rfl
    | ex x s => rfl
    | ok w s1 =>
      show ((Out.of (toB w) s1).bind fun t s => if t then evalC C [] env s else .ok false s) = Out.of (toB w) s1
      cases toB w with
      | none => rfl
      | some t =>
        cases t with
        | true => show evalC C [] env s1 = _; rw [evalC]; rfl
        | false => rfl
  rw [this] at hk
  exact tG.go hE hS hk
def cBody (C : CallI) (elt : Ex) (t : Tg) (cs : List Ex) (env : Env) (w : W) (s : Sto) : Out (Option W) :=
  (Out.of (bindTg t w env) s).bind fun env s => (evalC C cs env s).bind fun t s => if t then (evalE C elt env s).bind fun v s => .ok (some v) s else .ok none s
theorem evalE_comp {vs : List Nat} {elt it : Ex} {t : Tg} {cs : List Ex} {env : Env} {s : Sto} :
    evalE C (.comp vs elt t it cs) env s = (evalJ C it env s).bind fun l s => if l.length ≤ lim then (noEx (compL (cBody C elt t cs (wipeE env vs)) l s)).bind fun l s => .ok (.lst l) s else .no := by
  rw [evalE]
  unfold evalJ rdE
  rw [Out.bind_bind]
  rfl
theorem noEx_notex {α : Type} (o : Out α) (x : Exn) (s : Sto) : noEx o ≠ .ex x s := by cases o <;> intro h <;> cases h
theorem wipe_wipe (σ : L2.St) (vs : List Nat) : L2.wipe (L2.wipe σ vs) vs = L2.wipe σ vs := by
  refine List.ext_getElem? fun j => ?_
  rw [wipe_get, wipe_get]
  split
  · cases σ[j]? <;> rfl
  · rfl
/-- a list outside of F, Ow, al is written -/
theorem upd_free {s : Sto} {d : Wd} {D : Addr} {acc : List V} {o : HO} (hD : d.H D = some (.lst acc)) (nF : ¬ d.F D) (nO : ¬ d.Ow D) (nA : D ∉ d.al) (hS : SimS K G s d) :
    Evo K d.Ow d { d with H := upd d.H D o } ∧ SimS K G s { d with H := upd d.H D o } := by
  have T : ∀ a xs, SqT K d.H a xs → SqT K (upd d.H D o) a xs := fun a xs ht => by
    rcases ht with ht | ht
    · refine .inl ?_
      have ne : a ≠ D := fun e => by
        rw [e] at ht
        rcases ht with ht | ⟨u, ht⟩ <;> rw [hD] at ht <;> cases ht
      rcases ht with ht | ⟨u, ht⟩
      · exact .inl (by rw [upd_ne ne]; exact ht)
      · exact .inr ⟨u, by rw [upd_ne ne]; exact ht⟩
    · exact .inr ht
  have ev : Evo K d.Ow d { d with H := upd d.H D o } := ⟨⟨[], by simp⟩, fun _ h => h, fun a ha => upd_ne fun e => ha.elim (fun h => nF (e ▸ h)) (fun h => nO (e ▸ h)), T⟩
  refine ⟨ev, ⟨⟨hS.good.fo, hS.good.af, hS.good.nd, fun a ha => ?_, fun a ha => ?_⟩, hS.len, fun n l hn => ?_, tabs_upd hS.tb (.lst hD)⟩⟩
  · exact (hS.good.fh a ha).of (upd_ne (fun e => nF (by rw [← e]; exact ha)))
  · exact (hS.good.oh a ha).of (upd_ne (fun e => nO (by rw [← e]; exact ha)))
  · obtain ⟨a, xs, e1, e2, e3, e4⟩ := hS.at_ n l hn
    exact ⟨a, xs, e1, by show upd d.H D o a = _; rw [upd_ne (fun e => nA (by rw [← e]; exact List.mem_of_getElem? e1))]; exact e2, e3.mono ev, e4⟩
/-- what holds between two turns -/
def Turn (X : Cx) (G : Gm) (C : CallI) (Ob : Addr → Prop) (σ : L2.St) (env : Env) (vs : List Nat) (elt : Ex) (t : Tg) (cs : List Ex) (l : List W) (d1 : Wd) (D : Addr) (Q : VK) (Y : Value → Option Addr → Wd → Prop) (i : Nat) (H : Hp) : Prop :=
  ∃ s d accw acc, d.H = H ∧ SimE X.K G Ob env d σ ∧ SimS X.K G s d ∧ Evo X.K d1.Ow d1 d ∧ d.Ow = d1.Ow ∧ ¬ d.F D ∧ ¬ d.Ow D ∧ D ∉ d.al ∧ d.H D = some (.lst acc) ∧ RWs X.K G d accw acc ∧ acc.length ≤ i ∧
    Oks X.K G d.Ow d (fun w _ d' => ∀ v, RN X.K G d' w v → Q v d'.H) Y ((noEx (compL (cBody C elt t cs (wipeE env vs)) (l.drop i) s)).bind fun r s => .ok (.lst (accw ++ r)) s)
theorem comp_read {vs : List Nat} {x it : Ex} {t : Tg} {cs : List Ex} (htg : tgIn vs t = true) (σ : L2.St) (H : Hp) (Q : VK) (hq : tN X.K G Z (evalE C (.comp vs x t it cs)) σ H Q) :
    tLc (tI X.K G Z (fun d => d.Ow) (evalJ C it)) (gOf X.K t) (tB' X.K G Z0 (evalC C cs)) (tE X.K G Z0 (evalE C x)) vs σ H Q := by
  obtain ⟨env, s, d, Ob, rfl, hE, hS, hk⟩ := hq
  rw [evalE_comp] at hk
  unfold tLc
  refine tG.step hE hS hk fun l s1 d1 hE1 hS1 _ _ h1 J hJ => ?_
  intro D hD
  split at h1
  rotate_left
  · exact h1.elim
  rename_i hl
  refine ⟨fun i m H => m = l.length - i ∧ i ≤ l.length ∧ Turn X G C Ob σ env vs x t cs l d1 D Q (fun cls dd d' => Z cls dd σ d'.H) i H, ⟨l.length, by simp, Nat.zero_le _, ?_⟩, ?_⟩
  · obtain ⟨e1, s2⟩ := hS1.fresh (o := .lst []) hD false
    refine ⟨s1, _, [], [], rfl, hE1.mono e1 rfl, s2, e1, rfl, ?_, ?_, ?_, upd_same, .nil, Nat.le_refl _, ?_⟩
    · rintro (hf | ⟨hf, _⟩)
      · exact (hS1.good.fh D hf).ne hD
      · cases hf
    · exact fun ho => (hS1.good.oh D ho).ne hD
    · intro ha
      obtain ⟨n, hn⟩ := List.getElem?_of_mem ha
      have hl : n < s1.length := by rw [hS1.len]; exact (List.getElem?_eq_some_iff.mp hn).1
      obtain ⟨b, xs, e1, e2, _⟩ := hS1.at_ n _ (List.getElem?_eq_getElem hl)
      rw [hn] at e1
      cases e1
      rw [hD] at e2
      cases e2
    · exact Oks.weak h1 e1 rfl
  · rintro i m H ⟨rfl, hil, s2, d2, accw, acc, rfl, hE2, hS2, ev2, eo2, nF, nO, nA, hDa, rac, hlen, h2⟩
    by_cases hlt : i < l.length
    · refine .inr ⟨hJ.go d2 i ev2 hlt, fun H' => Turn X G C Ob σ env vs x t cs l d1 D Q (fun cls dd d' => Z cls dd σ d'.H) (i + 1) H', fun H' hT => ⟨l.length - (i + 1), by omega, rfl, hlt, hT⟩, fun v H' hy => ?_⟩
      have hSp : SimS X.K G s2 (d2.addO D) := hS2.addO nF nA (.lst hDa)
      obtain ⟨d3, rfl, ev3, eo3, hS3, rv⟩ := hJ.yld (d2.addO D) s2 i l[i] v H' ev2.addO hSp (List.getElem?_eq_getElem hlt) hy
      have hD3 : d3.H D = some (.lst acc) := (ev3.H D (.inr (.inr rfl))).trans hDa
      -- the rest of the outcome
      rw [List.drop_eq_getElem_cons hlt, compL, noEx_bind] at h2
      rw [show cBody C x t cs (wipeE env vs) l[i] s2 = (Out.of (bindTg t l[i] (wipeE env vs)) s2).bind fun env s => (evalC C cs env s).bind fun t s => if t then (evalE C x env s).bind fun v s => .ok (some v) s else .ok none s from rfl] at h2
      cases hb : bindTg t l[i] (wipeE env vs) with
      | none => rw [hb] at h2; exact h2.elim
      | some env3 =>
        rw [hb, Out.of_some, Out.bind_ok, noEx_bind, Out.bind_bind, Out.bind_bind] at h2
        have hE3 : SimE X.K G Ob (wipeE env vs) d3 (L2.wipe σ vs) := ((hE2.addO (p := D)).mono ev3 eo3).wipe _
        refine gOf_ok t l[i] v _ env3 _ _ hb hE3 rv fun σ4 hE4 hw => ⟨(hw _ htg).trans (wipe_wipe _ _), ?_⟩
        -- the tests
        refine tG.go hE4 hS3 ?_
        have h2' : Oks X.K G d2.Ow d2 _ _ _ := Oks.bind h2
        have h3 := Oks.addO (d0 := d2.addO D) (D := D) (Y' := fun _ _ _ => False) rfl rfl rfl rfl h2' (noEx_notex _)
        have h4 := Oks.noex (Y' := fun cls dd d' => Z0 cls dd σ4 d'.H) (Oks.weak h3 ev3 eo3)
        rw [eo3]
        refine Oks.imp h4 fun b s5 d5 e5 eo5 hS5 h5 b' hbb => ?_
        subst hbb
        have hD5 : d5.H D = some (.lst acc) := (e5.H D (.inr (.inr rfl))).trans hD3
        have et : Evo X.K (d2.addO D).Ow (d2.addO D) d5 := ev3.trans e5
        have eo25 : d5.Ow = (d2.addO D).Ow := eo5.trans eo3
        have e25 : Evo X.K d2.Ow d2 (d5.setO d2.Ow) := ⟨et.al, et.F, fun a ha => et.H a (ha.imp id .inl), et.T⟩
        have oD : d5.Ow D := by rw [eo25]; exact .inr rfl
        have sub5 : ∀ a, d2.Ow a → d5.Ow a := fun a ha => by rw [eo25]; exact .inl ha
        cases b with
        | false =>
          refine ⟨s5, d5.setO d2.Ow, accw, acc, rfl, hE2.mono e25 rfl, hS5.setO sub5, ev2.trans (by rw [← eo2]; exact e25), eo2, fun hf => hS5.good.fo D oD hf, nO, fun ha => (hS5.good.af D ha).2 oD, hD5, rac.mono e25, Nat.le_succ_of_le hlen, ?_⟩
          rw [if_neg Bool.false_ne_true, noEx_ok, Out.bind_ok] at h5
          simp only [noEx_bind, Out.bind_bind, noEx_ok, Out.bind_ok] at h5
          exact h5
        | true =>
          show tE X.K G Z0 (evalE C x) σ4 d5.H fun y H4 => ∃ acc', H4 D = some (.lst acc') ∧ acc'.length < sizeLine ∧ Turn X G C Ob σ env vs x t cs l d1 D Q (fun cls dd d' => Z cls dd σ d'.H) (i + 1) (upd H4 D (.lst (acc' ++ [y])))
          refine tG.go (hE4.mono (by rw [eo3]; exact e5) eo5) hS5 ?_
          rw [if_pos rfl, noEx_bind, Out.bind_bind] at h5
          have h5' : Oks X.K G (d5.setO d2.Ow).Ow (d5.setO d2.Ow) _ _ _ := Oks.bind h5
          have h6 := Oks.noex (Y' := fun cls dd d' => Z0 cls dd σ4 d'.H) (Oks.addO (d := d5.setO d2.Ow) (d0 := d5) (D := D) (Y' := fun _ _ _ => False) eo25 rfl rfl rfl h5' (noEx_notex _))
          refine Oks.imp h6 fun w7 s7 d7 e7 eo7 hS7 h7 y ry => ?_
          have hD7 : d7.H D = some (.lst acc) := (e7.H D (.inr oD)).trans hD5
          have oD7 : d7.Ow D := by rw [eo7]; exact oD
          have et7 : Evo X.K (d2.addO D).Ow (d2.addO D) d7 := et.trans (by rw [eo25] at e7; exact e7)
          have e27 : Evo X.K d2.Ow d2 (d7.setO d2.Ow) := ⟨et7.al, et7.F, fun a ha => et7.H a (ha.imp id .inl), et7.T⟩
          have sub7 : ∀ a, d2.Ow a → d7.Ow a := fun a ha => by rw [eo7]; exact sub5 a ha
          have nF7 : ¬ d7.F D := fun hf => hS7.good.fo D oD7 hf
          have nA7 : D ∉ d7.al := fun ha => (hS7.good.af D ha).2 oD7
          obtain ⟨e8, hS8⟩ := upd_free (d := d7.setO d2.Ow) (o := .lst (acc ++ [y])) hD7 nF7 nO nA7 (hS7.setO sub7)
          refine ⟨acc, hD7, ?_, s7, _, accw ++ [w7], acc ++ [y], rfl, hE2.mono (e27.trans e8) rfl, hS8, ev2.trans (by rw [← eo2]; exact e27.trans e8), eo2, nF7, nO, nA7, upd_same, ?_, ?_, ?_⟩
          · have : lim < sizeLine := by decide
            omega
          · refine .append (rac.mono (e27.trans e8)) (.one ?_)
            exact (RW.sameO (d := d7) (d' := d7.setO d2.Ow) rfl rfl rfl ry).mono e8
          · rw [List.length_append]
            exact Nat.add_le_add_right hlen 1
          · have h7' := Oks.weak h7 e8 rfl
            simp only [Out.bind_bind, noEx_ok, noEx_bind, Out.bind_ok] at h7'
            have ee : (fun (r : List W) s => Out.ok (W.lst ((accw ++ [w7]) ++ r)) s) = fun r s => Out.ok (W.lst (accw ++ w7 :: r)) s := by
              funext r s
              rw [List.append_assoc]
              rfl
            rw [ee]
            exact h7'
    · have hi0 : i = l.length := by omega
      subst hi0
      refine .inl ⟨hJ.stop d2 ev2, ?_⟩
      rw [List.drop_length, compL, noEx_ok, Out.bind_ok, List.append_nil] at h2
      exact h2.now hS2 _ ⟨D, rfl, nF, nO, nA, acc, hDa, rac⟩
theorem sn_comp {own : List (Str × Nat)} {elt tg iter : Expr} {ifs : List Expr} {scope : Scope} {pos : Pos} {x it : Ex} {t : Tg} {cs : List Ex} (hc : X.calm = true) (hN : X.N.Nodup) (hi : PI X tg iter (tI X.K G Z (fun d => d.Ow) (evalJ C it))) (ok : BlkOk X.N X.env.scope scope own)
    (hg : ∀ (s : Shared) (H : Hp) (Cc : Addr) (cl : List (Str × Addr)) (fp : List Addr), PG (X.blk s H scope (compEnvC scope cl Cc X.env) fp) tg (gOf X.K t)) (htg : tgIn (own.map (·.2)) t = true)
    (ht : ∀ (s : Shared) (H : Hp) (Cc : Addr) (cl : List (Str × Addr)) (fp : List Addr), PTs (X.blk s H scope (compEnvC scope cl Cc X.env) fp) ifs (tB' X.K G Z0 (evalC C cs)))
    (he : ∀ (s : Shared) (H : Hp) (Cc : Addr) (cl : List (Str × Addr)) (fp : List Addr), PE (X.blk s H scope (compEnvC scope cl Cc X.env) fp) elt (tE X.K G Z0 (evalE C x)))
    (hs : ∀ y, foldedSetIterable iter X.env y = pure y) : PE X (.ListComp elt [⟨tg, iter, ifs, 0⟩] scope pos) (tN X.K G Z (evalE C (.comp (own.map (·.2)) x t it cs))) :=
  PE.imp (pe_lc hc hN hi ok hg ht he hs) fun σ H Q hq => comp_read htg σ H Q hq
end
end Mi

/-! Statements. -/
namespace Mi
open PySem PySem.Spec PyProof.Rows L2
section
variable (K : PySem.W.Frag) (G : Gm) (Z : WX)
/-- what is wanted of a statement's outcome; Ob: what is others' own -/
def OksF (Ob : Addr → Prop) (d : Wd) (D : Ends) : Out Fl → Prop
  | .ok (.nx env) s => ∀ d' σ', Evo K Ob d d' → SimE K G Ob env d' σ' → SimS K G s d' → D.nx σ' d'.H
  | .ok (.ct env) s => ∀ d' σ', Evo K Ob d d' → SimE K G Ob env d' σ' → SimS K G s d' → D.ct σ' d'.H
  | .ok (.rt w) s => ∀ d' v, Evo K Ob d d' → (∀ p, Ob p → d'.Ow p) → SimS K G s d' → RW K G d' w v → D.rt v d'.H
  | .ex x s => ∀ d' σ' cls dd, Evo K Ob d d' → (∀ p, Ob p → d'.Ow p) → SimS K G s d' → RX K G x cls dd d' → Z cls dd σ' d'.H
  | .no => False
abbrev SV := Env → Sto → Out Fl
def tS (m : SV) : TS := fun D σ H => ∃ env s d Ob, d.H = H ∧ SimE K G Ob env d σ ∧ SimS K G s d ∧ OksF K G Z Ob d D (m env s)
end
section
variable {K : PySem.W.Frag} {X : Cx} {G : Gm} {Z : WX} {C : CallI} {Ob : Addr → Prop}
theorem OksF.weak {d d1 : Wd} {D : Ends} {o : Out Fl} (h : OksF K G Z Ob d D o) (e : Evo K Ob d d1) : OksF K G Z Ob d1 D o := by
  cases o with
  | ok f s =>
    cases f with
    | nx env => exact fun d' σ' e' => h d' σ' (e.trans e')
    | ct env => exact fun d' σ' e' => h d' σ' (e.trans e')
    | rt w => exact fun d' v e' => h d' v (e.trans e')
  | ex x s => exact fun d' σ' cls dd e' => h d' σ' cls dd (e.trans e')
  | no => exact h
/-- an expression first -/
theorem OksF.bind {α : Type} {d : Wd} {D : Ends} {o : Out α} {f : α → Sto → Out Fl} (h : OksF K G Z Ob d D (o.bind f)) (hOb : ∀ p, Ob p → d.Ow p) (σ : L2.St) :
    Oks K G d.Ow d (fun a s1 d1 => OksF K G Z Ob d1 D (f a s1)) (fun cls dd d' => Z cls dd σ d'.H) o := by
  cases o with
  | ok a s => exact fun d' e eo ss => OksF.weak h (e.sub hOb)
  | ex x s => exact fun d' cls dd e eo ss r => h d' σ cls dd (e.sub hOb) (fun p hp => by rw [eo]; exact hOb p hp) ss r
  | no => exact h
theorem OksF.of_bind {α : Type} {d : Wd} {D : Ends} {s : Sto} {o : Option α} {f : α → Sto → Out Fl} (h : OksF K G Z Ob d D ((Out.of o s).bind f)) : ∃ a, o = some a ∧ OksF K G Z Ob d D (f a s) := by
  cases o with
  | none => exact h.elim
  | some a => exact ⟨a, rfl, h⟩
theorem OksF.nx {d : Wd} {D : Ends} {env : Env} {s : Sto} {σ : L2.St} (h : OksF K G Z Ob d D (.ok (.nx env) s)) (hE : SimE K G Ob env d σ) (hS : SimS K G s d) : D.nx σ d.H := h d σ (.refl d) hE hS
/-- an expression, then what is made of it -/
theorem tS.step {α β : Type} {R : Wd → α → β → Prop} {m : Env → Sto → Out α} {f : α → Sto → Out Fl} {env : Env} {s : Sto} {d : Wd} {σ : L2.St} {D : Ends} {Q : β → Hp → Prop} (hE : SimE K G Ob env d σ) (hS : SimS K G s d) (h : OksF K G Z Ob d D ((m env s).bind f))
    (k : ∀ a s1 d1, SimE K G Ob env d1 σ → SimS K G s1 d1 → OksF K G Z Ob d1 D (f a s1) → ∀ v, R d1 a v → Q v d1.H) : tG K G Z R m σ d.H Q :=
  tG.go hE hS (Oks.imp (OksF.bind h hE.ob σ) fun a s1 d1 e eo ss h1 v r => k a s1 d1 (hE.mono e eo) ss h1 v r)
theorem ss_asg {tg e : Expr} {t : Tg} {x : Ex} {pos : Pos} (he : PE X e (tE X.K G Z (evalE C x))) (hg : PG X tg (gOf X.K t)) (hs : swapsWithSole [tg] e pos.line X.env = pure false) (hw : swappedStores [tg] e X.env = pure none) (h1 : List.map (·.2) (assignEach [tg] X.env) = [assign tg X.env]) :
    PS X (.Assign [tg] e pos) (tS X.K G Z (exec C (.asg t x))) := by
  refine PS.imp (ps_asg he hg hs hw h1) fun D σ H hq => ?_
  obtain ⟨env, s, d, Ob, rfl, hE, hS, hk⟩ := hq
  rw [exec] at hk
  show tE X.K G Z (evalE C x) σ d.H fun v H1 => gOf X.K t v σ H1 D.nx
  refine tS.step hE hS hk fun w s1 d1 hE1 hS1 h1 v r => ?_
  obtain ⟨env', eb, h2⟩ := h1.of_bind
  exact gOf_ok t w v env env' σ D.nx eb hE1 r fun σ' hE' _ => h2.nx hE' hS1
/-- a new list into a name -/
theorem SimE.setOwn {env : Env} {d : Wd} {σ : L2.St} {i : Nat} {w : W} {p : Addr} (h : SimE K G Ob env d σ) (hO : ¬ d.Ow p) (rc : RC K G d w p) :
    SimE K G Ob (env.set i (.own w)) (d.addO p) (σ.set i (some (.ref p))) := by
  have h' := h.addO (p := p)
  have ne : ∀ (j : Nat) (u : W) (q : Addr), env[j]? = some (.own u) → σ[j]? = some (some (.ref q)) → q ≠ p := fun j u q hj ej e => by
    obtain ⟨q', e1, o, _⟩ := h.own j u hj
    rw [ej] at e1
    cases e1
    exact hO (e ▸ o)
  refine ⟨by simp [h.len], fun j u hj => ?_, fun j u hj => ?_, fun j k wj wk q hj hk ej ek => ?_, h'.ob⟩
  · by_cases e : i = j
    · subst e
      rw [List.getElem?_set] at hj
      simp only [if_true] at hj
      split at hj <;> cases hj
    · rw [List.getElem?_set_ne e] at hj ⊢
      exact h'.val j u hj
  · by_cases e : i = j
    · subst e
      rw [List.getElem?_set] at hj
      rw [List.getElem?_set, ← h.len]
      simp only [if_true] at hj ⊢
      split at hj
      · rename_i hl
        cases hj
        exact ⟨p, by simp [hl], .inr rfl, fun hb => hO (h.ob p hb), RC.sameO (d := d) (d' := d.addO p) rfl rfl rfl rc⟩
      · cases hj
    · rw [List.getElem?_set_ne e] at hj ⊢
      exact h'.own j u hj
  · by_cases e : i = j
    · by_cases e2 : i = k
      · exact e.symm.trans e2
      · subst e
        have : q = p := by
          rw [List.getElem?_set, ← h.len] at ej
          simp only [if_true] at ej
          split at ej
          · cases ej; rfl
          · cases ej
        rw [List.getElem?_set_ne e2] at hk ek
        exact absurd this (ne k wk q hk ek)
    · by_cases e2 : i = k
      · subst e2
        have : q = p := by
          rw [List.getElem?_set, ← h.len] at ek
          simp only [if_true] at ek
          split at ek
          · cases ek; rfl
          · cases ek
        rw [List.getElem?_set_ne e] at hj ej
        exact absurd this (ne j wj q hj ej)
      · rw [List.getElem?_set_ne e] at hj ej
        rw [List.getElem?_set_ne e2] at hk ek
        exact h.sep j k wj wk q hj hk ej ek
theorem own_fin {D : Ends} {env : Env} {s1 : Sto} {d1 : Wd} {σ : L2.St} {i : Nat} {w : W} {v : V} (hE1 : SimE K G Ob env d1 σ) (hS1 : SimS K G s1 d1) (h1 : OksF K G Z Ob d1 D (.ok (.nx (env.set i (.own w))) s1)) (r : RN K G d1 w v) : D.nx (σ.set i (some v)) d1.H := by
  obtain ⟨p, rfl, hF, hO, hA, rc⟩ := r
  have hS2 := hS1.addO hF hA rc.ne
  exact h1 (d1.addO p) _ (Evo.refl d1).addO (hE1.setOwn hO rc) hS2
theorem ss_asgN {x : Str} {px pos : Pos} {e : Expr} {i : Nat} {y : Ex} (hN : X.N.Nodup) (hi : X.N[i]? = some x) (hx : Loc X.env.scope x) (hf : X.fn x = true ∨ X.env.scope.names.lookup x = some .local) (he : PE X e (tN X.K G Z (evalE C y))) (hs : swapsWith e (some (.Name x px)) pos.line X.env = pure false) :
    PS X (.Assign [.Name x px] e pos) (tS X.K G Z (exec C (.asgN i y))) := by
  refine PS.imp (ps_set hN hi hx he hs hf) fun D σ H hq => ?_
  obtain ⟨env, s, d, Ob, rfl, hE, hS, hk⟩ := hq
  rw [exec] at hk
  show tN X.K G Z (evalE C y) σ d.H fun v H1 => D.nx (σ.set i (some v)) H1
  exact tS.step hE hS hk fun w s1 d1 hE1 hS1 h1 v r => own_fin hE1 hS1 h1 r
theorem ss_setLc {own : List (Str × Nat)} {yn : Str} {py spos : Pos} {i : Nat} {elt tg iter : Expr} {ifs : List Expr} {scope : Scope} {pos : Pos} {x it : Ex} {t : Tg} {cs : List Ex} (hc : X.calm = true) (hN : X.N.Nodup) (hy : X.N[i]? = some yn) (hyl : X.env.scope.names.lookup yn = some .local)
    (hsw : swapsWith (.ListComp elt [⟨tg, iter, ifs, 0⟩] scope pos) (some (.Name yn py)) spos.line X.env = pure true) (hi : PI X tg iter (tI X.K G Z (fun d => d.Ow) (evalJ C it))) (ok : BlkOk X.N X.env.scope scope own)
    (hg : ∀ (s : Shared) (H : Hp) (Cc : Addr) (cl : List (Str × Addr)) (fp : List Addr), PG (X.blk s H scope (compEnvC scope cl Cc X.env) fp) tg (gOf X.K t)) (htg : tgIn (own.map (·.2)) t = true)
    (ht : ∀ (s : Shared) (H : Hp) (Cc : Addr) (cl : List (Str × Addr)) (fp : List Addr), PTs (X.blk s H scope (compEnvC scope cl Cc X.env) fp) ifs (tB' X.K G Z0 (evalC C cs)))
    (he : ∀ (s : Shared) (H : Hp) (Cc : Addr) (cl : List (Str × Addr)) (fp : List Addr), PE (X.blk s H scope (compEnvC scope cl Cc X.env) fp) elt (tE X.K G Z0 (evalE C x)))
    (hs : ∀ y, foldedSetIterable iter X.env y = pure y) : PS X (.Assign [.Name yn py] (.ListComp elt [⟨tg, iter, ifs, 0⟩] scope pos) spos) (tS X.K G Z (exec C (.asgN i (.comp (own.map (·.2)) x t it cs)))) := by
  refine PS.imp (ps_setLc hc hN hy hyl hsw hi ok hg ht he hs) fun D σ H hq => ?_
  refine comp_read htg σ H (fun v H1 => D.nx (σ.set i (some v)) H1) ?_
  obtain ⟨env, s, d, Ob, rfl, hE, hS, hk⟩ := hq
  rw [exec] at hk
  exact tS.step hE hS hk fun w s1 d1 hE1 hS1 h1 v r => own_fin hE1 hS1 h1 r
theorem ss_ret {e : Expr} {x : Ex} {pos : Pos} (he : PE X e (tE X.K G Z (evalE C x))) : PS X (.Return (some e) pos) (tS X.K G Z (exec C (.ret x))) := by
  refine PS.imp (ps_ret he) fun D σ H hq => ?_
  obtain ⟨env, s, d, Ob, rfl, hE, hS, hk⟩ := hq
  rw [exec] at hk
  show tE X.K G Z (evalE C x) σ d.H D.rt
  exact tS.step hE hS hk fun w s1 d1 hE1 hS1 h1 v r => h1 d1 v (.refl d1) hE1.ob hS1 r
theorem ss_retN {pos : Pos} : PS X (.Return none pos) (tS X.K G Z (exec C .retN)) := by
  refine PS.imp ps_retN fun D σ H hq => ?_
  obtain ⟨env, s, d, Ob, rfl, hE, hS, hk⟩ := hq
  rw [exec] at hk
  exact hk d .non (.refl d) hE.ob hS (by unfold RW; rfl)
theorem ss_exp {e : Expr} {x : Ex} {pos : Pos} (he : PE X e (tE X.K G Z (evalE C x))) (hs : swapsWith e none pos.line X.env = pure false) : PS X (.Expr e pos) (tS X.K G Z (exec C (.exp x))) := by
  refine PS.imp (ps_expr he hs) fun D σ H hq => ?_
  obtain ⟨env, s, d, Ob, rfl, hE, hS, hk⟩ := hq
  rw [exec] at hk
  show tE X.K G Z (evalE C x) σ d.H fun _ H1 => D.nx σ H1
  exact tS.step hE hS hk fun w s1 d1 hE1 hS1 h1 v r => h1.nx hE1 hS1
theorem OksF.noex {Z' : WX} {d : Wd} {D : Ends} {o : Out Fl} (h : OksF K G Z Ob d D (noEx o)) : OksF K G Z' Ob d D o := by
  cases o with
  | ok f s => cases f <;> exact h
  | ex x s => exact h.elim
  | no => exact h
theorem ss_thru {body : List Stmt} {h₀ : ExceptHandler} {hs : List ExceptHandler} {x : List Sm} {pos : Pos} (hb : PSs X.nox body (tS X.K G Z0 (execs C x))) : PS X (.Try body (h₀ :: hs) [] [] pos) (tS X.K G Z (exec C (.thru x))) :=
  PS.imp (ps_try_thru0 hb) fun D σ H hq => by
    obtain ⟨env, s, d, Ob, rfl, hE, hS, hk⟩ := hq
    rw [exec] at hk
    exact ⟨env, s, d, Ob, rfl, hE, hS, hk.noex⟩
theorem ss_pass {pos : Pos} : PS X (.Pass pos) (tS X.K G Z (exec C .pass)) := by
  refine PS.imp ps_pass fun D σ H hq => ?_
  obtain ⟨env, s, d, Ob, rfl, hE, hS, hk⟩ := hq
  rw [exec] at hk
  exact hk.nx hE hS
theorem ss_cont {pos : Pos} : PS X (.Continue pos) (tS X.K G Z (exec C .cont)) := by
  refine PS.imp ps_continue fun D σ H hq => ?_
  obtain ⟨env, s, d, Ob, rfl, hE, hS, hk⟩ := hq
  rw [exec] at hk
  exact hk d σ (.refl d) hE hS
theorem ss_nil : PSs X [] (tS X.K G Z (execs C [])) := by
  refine PSs.imp pss_nil fun D σ H hq => ?_
  obtain ⟨env, s, d, Ob, rfl, hE, hS, hk⟩ := hq
  rw [execs] at hk
  exact hk.nx hE hS
theorem tS.go {m : SV} {env : Env} {s : Sto} {d : Wd} {σ : L2.St} {D : Ends} (hE : SimE K G Ob env d σ) (hS : SimS K G s d) (h : OksF K G Z Ob d D (m env s)) : tS K G Z m D σ d.H := ⟨env, s, d, Ob, rfl, hE, hS, h⟩
theorem ss_cons {st : Stmt} {rest : List Stmt} {x : Sm} {xs : List Sm} (h1 : PS X st (tS X.K G Z (exec C x))) (h2 : PSs X rest (tS X.K G Z (execs C xs))) : PSs X (st :: rest) (tS X.K G Z (execs C (x :: xs))) := by
  refine PSs.imp (pss_cons h1 h2) fun D σ H hq => ?_
  obtain ⟨env, s, d, Ob, rfl, hE, hS, hk⟩ := hq
  rw [execs] at hk
  show tS X.K G Z (exec C x) { D with nx := tS X.K G Z (execs C xs) D } σ d.H
  refine tS.go hE hS ?_
  revert hk
  cases exec C x env s with
  | no => exact id
  | ex x s' => exact id
  | ok f s' =>
    cases f with
    | nx env' => exact fun hk d' σ' e hE' hS' => tS.go hE' hS' (OksF.weak hk e)
    | rt w => exact id
    | ct env' => exact id
theorem ss_if {c : Expr} {a b : List Stmt} {z : Ex} {x y : List Sm} {pos : Pos} (hc : PT X c (tB' X.K G Z (evalT C z))) (ha : PSs X a (tS X.K G Z (execs C x))) (hb : PSs X b (tS X.K G Z (execs C y))) : PS X (.If c a b pos) (tS X.K G Z (exec C (.ifs z x y))) := by
  refine PS.imp (ps_if hc ha hb) fun D σ H hq => ?_
  obtain ⟨env, s, d, Ob, rfl, hE, hS, hk⟩ := hq
  rw [exec, ← Out.bind_bind] at hk
  show tB' X.K G Z (evalT C z) σ d.H fun b H1 => if b = true then tS X.K G Z (execs C x) D σ H1 else tS X.K G Z (execs C y) D σ H1
  refine tS.step hE hS hk fun w s1 d1 hE1 hS1 h1 v r => ?_
  subst r
  cases w with
  | true => exact tS.go hE1 hS1 h1
  | false => exact tS.go hE1 hS1 h1
theorem ss_whl {c : Expr} {body : List Stmt} {z : Ex} {x : List Sm} {pos : Pos} (hp : PassesOwn (model X.prog X.w) X.A X.env X.xe) (hc : PT X c (tB' X.K G Z (evalT C z))) (hb : PSs X body (tS X.K G Z (execs C x))) : PS X (.While c body [] pos) (tS X.K G Z (exec C (.whl z x))) := by
  refine PS.imp (ps_while hp hc hb) fun D σ H hq => ?_
  obtain ⟨env, s, d, Ob, rfl, hE, hS, hk⟩ := hq
  rw [exec] at hk
  refine ⟨fun m σ' H' => ∃ env' s' d', d'.H = H' ∧ SimE X.K G Ob env' d' σ' ∧ SimS X.K G s' d' ∧ OksF X.K G Z Ob d' D (whlN (evalT C z) (execs C x) m env' s'), ⟨turns, env, s, d, rfl, hE, hS, hk⟩, ?_⟩
  rintro m σ' H' ⟨env', s', d', rfl, hE', hS', hk'⟩
  cases m with
  | zero => exact hk'.elim
  | succ m =>
    rw [whlN] at hk'
    refine tS.step hE' hS' hk' fun w s1 d1 hE1 hS1 h1 v r => ?_
    subst r
    cases w with
    | false => exact h1.nx hE1 hS1
    | true =>
      rw [if_pos rfl] at h1
      show ∃ N : L2.St → Hp → Prop, (∀ σ2 H2, N σ2 H2 → ∃ m', m' < m + 1 ∧ ∃ env' s' d', d'.H = H2 ∧ SimE X.K G Ob env' d' σ2 ∧ SimS X.K G s' d' ∧ OksF X.K G Z Ob d' D (whlN (evalT C z) (execs C x) m' env' s')) ∧ tS X.K G Z (execs C x) { D with nx := N, ct := N, bk := D.nx } σ' d1.H
      refine ⟨fun σ2 H2 => ∃ env' s' d', d'.H = H2 ∧ SimE X.K G Ob env' d' σ2 ∧ SimS X.K G s' d' ∧ OksF X.K G Z Ob d' D (whlN (evalT C z) (execs C x) m env' s'), fun σ2 H2 h => ⟨m, Nat.lt_succ_self m, h⟩, ?_⟩
      refine tS.go hE1 hS1 ?_
      revert h1
      cases execs C x env' s1 with
      | no => exact id
      | ex x s' => exact id
      | ok f s' =>
        cases f with
        | nx env2 => exact fun hk d2 σ2 e hE2 hS2 => ⟨env2, s', d2, rfl, hE2, hS2, OksF.weak hk e⟩
        | rt w => exact id
        | ct env2 => exact fun hk d2 σ2 e hE2 hS2 => ⟨env2, s', d2, rfl, hE2, hS2, OksF.weak hk e⟩
theorem Evo.any {S : Addr → Prop} {d d' : Wd} (e : Evo K S d d') : Evo K (fun _ => False) d d' := e.sub fun _ z => z.elim
theorem ss_for {tg iter : Expr} {body : List Stmt} {t : Tg} {it : Ex} {x : List Sm} {pos : Pos} (hp : PassesOwn (model X.prog X.w) X.A X.env X.xe) (hc : X.calm = true) (hi : PI X tg iter (tI X.K G Z (fun _ _ => False) (evalI C it))) (hg : PG X tg (gOf X.K t)) (hb : PSs X body (tS X.K G Z (execs C x)))
    (hs : ∀ y, foldedSetIterable iter X.env y = pure y) : PS X (.For tg iter body [] pos) (tS X.K G Z (exec C (.for_ t it x))) := by
  refine PS.imp (ps_for hp hc hi hg hb hs) fun D σ H hq => ?_
  obtain ⟨env, s, d, Ob, rfl, hE, hS, hk⟩ := hq
  rw [exec, ← Out.bind_bind] at hk
  unfold tFor
  refine tS.step hE hS hk fun l s1 d1 hE1 hS1 h1 J hJ => ?_
  refine ⟨fun i m σ' H' => m = l.length - i ∧ i ≤ l.length ∧ ∃ env' s' d', d'.H = H' ∧ SimE X.K G Ob env' d' σ' ∧ SimS X.K G s' d' ∧ Evo X.K (fun _ => False) d1 d' ∧ OksF X.K G Z Ob d' D (forL (bindTg t) (execs C x) (l.drop i) env' s'),
    ⟨l.length, by simp, Nat.zero_le _, env, s1, d1, rfl, hE1, hS1, .refl d1, h1⟩, ?_⟩
  rintro i m σ' H' ⟨rfl, hil, env', s', d', rfl, hE', hS', ev, h2⟩
  by_cases hlt : i < l.length
  · refine .inr ⟨hJ.go d' i ev hlt, fun σ2 H2 => ∃ env' s' d', d'.H = H2 ∧ SimE X.K G Ob env' d' σ2 ∧ SimS X.K G s' d' ∧ Evo X.K (fun _ => False) d1 d' ∧ OksF X.K G Z Ob d' D (forL (bindTg t) (execs C x) (l.drop (i + 1)) env' s'),
      fun σ2 H2 h => ⟨l.length - (i + 1), by omega, rfl, hlt, h⟩, fun v H2 hy => ?_⟩
    obtain ⟨d3, rfl, ev3, eo3, hS3, rv⟩ := hJ.yld d' s' i l[i] v H2 ev hS' (List.getElem?_eq_getElem hlt) hy
    rw [List.drop_eq_getElem_cons hlt, forL] at h2
    obtain ⟨env3, eb, h3⟩ := h2.of_bind
    refine gOf_ok t l[i] v env' env3 σ' _ eb (hE'.mono ev3 eo3) rv fun σ4 hE4 _ => ?_
    refine tS.go hE4 hS3 ?_
    have h4 := OksF.weak h3 (ev3.sub hE'.ob)
    revert h4
    cases execs C x env3 s' with
    | no => exact id
    | ex x s' => exact id
    | ok f s' =>
      cases f with
      | nx env2 => exact fun hk d2 σ2 e hE2 hS2 => ⟨env2, s', d2, rfl, hE2, hS2, (ev.trans ev3.any).trans e.any, OksF.weak hk e⟩
      | rt w => exact id
      | ct env2 => exact fun hk d2 σ2 e hE2 hS2 => ⟨env2, s', d2, rfl, hE2, hS2, (ev.trans ev3.any).trans e.any, OksF.weak hk e⟩
  · have hi0 : i = l.length := by omega
    subst hi0
    refine .inl ⟨hJ.stop d' ev, ?_⟩
    rw [List.drop_length, forL] at h2
    exact h2.nx hE' hS'
theorem ss_raise {A : Addr} {c : Nat} {x m : Str} {j : Nat} {p1 p2 p3 pos : Pos} (hc : X.calm = true) (tk : Takes X Z) (e1 : G.c c = some A) (gC : X.mg x = some (.ref A)) (q : PySem.W.excIn X.K A He.veBase "ValueError.__new__" = true) (kC : PySem.W.keepIn X.K (.ref A) = true)
    (h1 : PySem.W.subIn X.K (.ref A) (.type "BaseException") = some true) (h2 : PySem.W.typeIn X.K (.ref A) = some (.type "type")) (hg : Gl X x) (hd : (x == ("__debug__" : Str)) = false) : PS X (.Raise (some (.Call (.Name x p1) [.Constant (.str m) j p2] [] p3)) none pos) (tS X.K G Z (exec C (.raise c))) := by
  refine PS.imp (ps_raise hc tk (pmk_own PySem.F.excBase_ValueError q gC kC (raises_own h1 h2) hg hd)) fun D σ H hq => ?_
  obtain ⟨env, s, d, Ob, rfl, hE, hS, hk⟩ := hq
  rw [exec] at hk
  exact hk d σ (.ref A) none (.refl d) hE.ob hS ⟨A, e1, rfl, rfl⟩
/-- a constant is returned: what it is -/
def retC (D : Ends) (H : Hp) : W → Prop
  | .bl b => D.rt (.bl b) H
  | .non => D.rt .non H
  | .int i => D.rt (.int i) H
  | .tup [] => ∀ p, H p = none → D.rt (.ref p) (upd H p (.tup []))
  | _ => False
theorem ret_cst {D : Ends} {d : Wd} {s : Sto} {w : W} (hS : SimS K G s d) (h : OksF K G Z Ob d D (.ok (.rt w) s)) (hOb : ∀ p, Ob p → d.Ow p) (hw : w = .non ∨ (∃ b, w = .bl b) ∨ (∃ i, w = .int i) ∨ w = .tup []) : retC D d.H w := by
  rcases hw with rfl | ⟨b, rfl⟩ | ⟨i, rfl⟩ | rfl
  · exact h d .non (.refl d) hOb hS (by unfold RW; rfl)
  · exact h d (.bl b) (.refl d) hOb hS .mkB
  · exact h d (.int i) (.refl d) hOb hS .mkI
  · intro p hp
    obtain ⟨e1, s1⟩ := hS.fresh (o := .tup []) hp false
    exact h _ (.ref p) (e1.sub hOb) hOb s1 (.mkT (.inl (.inl upd_same)) .nil)
theorem ss_tryR {A : Addr} {c : Nat} {w : W} {x : Str} {np hp rp pos : Pos} {body : List Stmt} {e : Expr} {y : List Sm} (hs : X.stack = X.env :: X.outer) (hf : X.env.frame = some X.env.locals) (hc : Names X x (.ref A)) (tk : Takes X Z)
    (hw : w = .non ∨ (∃ b, w = .bl b) ∨ (∃ i, w = .int i) ∨ w = .tup []) (hex : ∀ n A', G.c n = some A' → PySem.W.exmOne X.K (.ref A') (.ref A) = some (subX n c))
    (hb : ∀ (W : WX) (pn : List (Addr × Obj)) (xe : Value → Shared → Prop), Takes (X.tr pn xe) W → PassesOwn (model X.prog X.w) X.A X.env xe → PSs (X.tr pn xe) body (tS X.K G W (execs C y)))
    (he : ∀ (X : Cx), PSs X [.Return (some e) rp] (fun D _ H => retC D H w)) :
    PS X (.Try body [.ExceptHandler (some (.Name x np)) none [.Return (some e) rp] hp] [] [] pos) (tS X.K G Z (exec C (.tryR y c w))) := by
  refine PS.imp (ps_try_only (ts := fun _ _ _ => fun D _ H => retC D H w) hs hf hc tk hb fun a oe cls d pn _ _ => he _) fun D σ H hq => ?_
  obtain ⟨env, s, d, Ob, rfl, hE, hS, hk⟩ := hq
  rw [exec] at hk
  refine tS.go hE hS ?_
  revert hk
  cases execs C y env s with
  | no => exact id
  | ok f s' => cases f <;> exact id
  | ex z s' =>
    intro hk d' σ' cls dd e o ss rx
    obtain ⟨A', g1, rfl, g2⟩ := id rx
    dsimp only at hk
    refine ⟨_, hex _ _ g1, fun hb' a _ => ?_, fun hb' => ?_⟩
    · rw [if_pos hb'] at hk
      exact ret_cst ss (OksF.weak hk e) o hw
    · rw [if_neg (show ¬ subX z.cls c = true from by rw [hb']; exact Bool.false_ne_true)] at hk
      exact hk d' σ' (.ref A') dd e o ss rx
theorem retC_ok {e : Expr} {w : W} {rp : Pos} (hw : (∃ j p, e = .Constant .none j p ∧ w = .non) ∨ (∃ b j p, e = .Constant (.bool b) j p ∧ w = .bl b) ∨ (∃ i j p, e = .Constant (.int i) j p ∧ w = .int i) ∨ (∃ k p, e = .Tuple [] k p ∧ w = .tup [])) (X : Cx) :
    PSs X [.Return (some e) rp] (fun D _ H => retC D H w) := by
  rcases hw with ⟨j, p, rfl, rfl⟩ | ⟨b, j, p, rfl, rfl⟩ | ⟨i, j, p, rfl, rfl⟩ | ⟨k, p, rfl, rfl⟩
  · exact PSs.imp (pss_one (ps_ret pe_non)) fun D σ H hq => hq
  · exact PSs.imp (pss_one (ps_ret pe_bl)) fun D σ H hq => hq
  · exact PSs.imp (pss_one (ps_ret pe_int)) fun D σ H hq => hq
  · exact PSs.imp (pss_one (ps_ret (pe_tup pa_nil))) fun D σ H hq => ⟨by decide, hq⟩
end
end Mi

/-! Exceptions with a field: C(e), where C's own __init__ says super().__init__(text) and stores the field. -/
namespace Mi
open PySem PySem.Spec PyProof.Rows L2
section
open PySem.W
variable {prog : Program} {w : World} {A : Around} {E : Value → Shared → Prop} {R : Result → Shared → Prop} {h : Heap} {g : Array GenState} {d : Drawn} {t : Nat} {os : OsState} {K : PySem.W.Frag}
variable {nm q : Str} {C N : Addr} {bs bm : List Value} {hdct : Bool} {sn : List Str} {sub : List Value} {ab : Bool} {col : Option Bool} {dd : Option Addr} {k0 k1 k2 k3 k5 : Option Value}
/-- ValueError.__init__ bound to the object, called -/
theorem mw_call {u e t0 : Addr} {rest : List Value} {Q : Value → Shared → Prop}
    (hC : h.get? C = some (excClassObj nm q C N bs bm hdct sn sub ab col dd k0 k1 k2 k3 k5 "ValueError.__new__")) (he : h.get? e = some (PySem.HandSPX.excO C t0)) (hu : h.get? u = some (kxs_mw "ValueError.__init__" e)) (hrest : rest.length ≤ sizeLine)
    (hq : ∀ h' t1, (∀ b o, b ≠ e → h.get? b = some o → h'.get? b = some o) → h'.get? e = some (PySem.HandSPX.excO C t1) → Q .none ⟨h', g, d, t, os⟩) :
    wpAny (model prog w) A (call (.ref u) rest) Q E ⟨h, g, d, t, os⟩ := by
  refine wpAny_call (codeAny_of_tree ?_)
  show wpAny _ A.in1 (callAny (.ref u) ⟨rest, []⟩) _ _ _
  simp only [callAny]
  refine wpAny_bind (wpAny_load hu ?_)
  simp only [kxs_mw, show (Value.type "method-wrapper" == Value.type "method" || Value.type "method-wrapper" == Value.type "builtin_function_or_method" || Value.type "method-wrapper" == Value.type "method-wrapper") = true by decide, if_true]
  refine KFB.if_so (by decide) ?_
  refine wpAny_bind (check_bound_init PySem.F.excBase_ValueError.toExcCallFacts hC he rfl ?_)
  refine wpAny_bind (wpAny_pure (wpAny_pure ?_))
  refine ⟨plainId_quiet PySem.F.excBase_ValueError.init.plain _, codeAny_builtin PySem.F.excBase_ValueError.initEntry ?_⟩
  exact exc_init_tree (cls := .ref C) (t0 := t0) (dv := none) (c2 := .none) (c3 := .none) (b4 := .bool false) he hrest fun h' k e' _ => hq h' _ k e'

abbrev iniPar (f : Str) (pa pb : Pos) : Arguments := ⟨[], [⟨"self", none, pa⟩, ⟨f, none, pb⟩], none, [], [], none, []⟩
abbrev iniBody (f z : Str) (j : Nat) (p1 p2 p3 p4 p5 p6 p7 p8 p9 p10 : Pos) : List Stmt :=
  [.Expr (.Call (.Attribute (.Call (.Name "super" p1) [] [] p2) "__init__" p3) [.Constant (.str z) j p4] [] p5) p6, .Assign [.Attribute (.Name "self" p7) f p8] (.Name f p9) p10]
theorem ini_call {env : PySem.Env} {o : Expr} {name : Str} {p3 p5 : Pos} {z : Str} {j : Nat} {p4 : Pos} (hp : (p3.endLine == p5.line) = true) :
    eval (.Call (.Attribute o name p3) [.Constant (.str z) j p4] [] p5) env = (do
      let ov ← attributeBase o name env (eval o env)
      standAt p3.atName
      let (f, first) ← holding [ov] (getMethod ov name (do return (← importBound o env).getD true))
      callWith p5 f first (backTo p5 (starEach [.Constant (.str z) j p4] env)) []) := by
  have h : methodCallPos true o env p3 p5 = pure p5 := by
    unfold methodCallPos
    rw [if_pos (by rw [hp]; rfl)]
  have e1 : eval (.Call (.Attribute o name p3) [.Constant (.str z) j p4] [] p5) env = (do
      let ov ← attributeBase o name env (eval o env)
      standAt p3.atName
      let (f, first) ← holding [ov] (getMethod ov name (do return (← importBound o env).getD true))
      let q ← methodCallPos true o env p3 p5
      callWith q f first (backTo p5 (starEach [.Constant (.str z) j p4] env)) []) := rfl
  rw [e1, h]
  rfl
def IniB (f : Str) : Prop := ∀ (name qual : Str) (pa pb : Pos) (body : List Stmt) (scope : Scope) (kV doc pm cdv ct a b : Value) (an : Option Addr) (cc : Addr),
  bindArgs (ksFn name qual (iniPar f pa pb) body scope .none kV doc pm an cdv ct cc) ⟨[a, b], []⟩ = (pure [("self", a), (f, b)] : Sem (List (Str × Value)))
theorem iniB_at : IniB "at" := fun _ _ _ _ _ _ _ _ _ _ _ _ _ _ _ => by kernel_rfl
theorem iniB_limit : IniB "limit" := fun _ _ _ _ _ _ _ _ _ _ _ _ _ _ _ => by kernel_rfl
/-- what is known of the class and of its __init__ -/
structure FldC (prog : Program) (K : PySem.W.Frag) (C : Addr) (f : Str) (fI : Addr) : Prop where
  oex : OexC K C
  ini : findIn K (.ref C) "__init__" = some (some (.ref fI))
  tI : typeIn K (.ref fI) = some (.type "function")
  nof : findIn K (.ref C) f = some none
  ve : subIn K (.ref C) (.type "ValueError") = some true
  own : mroIn K C (.ref C) = some true
  opq : nsIn K cStatics "thirdparty.any" = some none
  sup : ks_superIn K C C "__init__" = some (some (.builtin "ValueError.__init__"))
  fn : ∃ (oc ct kV doc pm : Value) (od an : Option Addr) (osl : Array (Option Value)) (name qual z : Str) (scope : Scope) (cda cc j : Nat) (pa pb p1 p2 p3 p4 p5 p6 p7 p8 p9 p10 : Pos),
    K.lookup fI = some ⟨oc, od, .func (ksFn name qual (iniPar f pa pb) (iniBody f z j p1 p2 p3 p4 p5 p6 p7 p8 p9 p10) scope .none kV doc pm an (.ref cda) ct cc), osl⟩ ∧ codeIn K (.ref cda) qual = true ∧ (p3.endLine == p5.line) = true ∧
    (∃ (ccl : Value) (cdd : Option Addr) (vs : Array Value) (ccs : Array (Option Value)) (file : Str) (tf : Tok), K.lookup cda = some ⟨ccl, cdd, .fields vs, ccs⟩ ∧ vs[2]? = some (.str file tf) ∧ ((prog.main.file : Str) == file) = true) ∧
    (∃ (cl : Value) (cld : Option Addr) (csl : Array (Option Value)), K.lookup cc = some ⟨cl, cld, .cell (some (.ref C)), csl⟩) ∧
    scope.names.lookup ("super" : Str) = some .globalImplicit ∧ scope.names.lookup ("__class__" : Str) = some .free ∧ scope.names.lookup ("self" : Str) = some .local ∧ scope.names.lookup f = some .local ∧ scope.kind = .function ∧
    scope.isCoroutine = false ∧ scope.isGenerator = false ∧ (∀ x ∈ scope.names, x.2 ≠ .cell)
  top : (prog.main.scope.names.lookup ("super" : Str)).isSome = false
  bnd : IniB f
  nm : f ≠ "self" ∧ (f == ("__debug__" : Str)) = false
theorem ini_run {mg mb : Str → Option Value} {f : Str} {fI e t0 : Addr} {v : Value} (T : FldC prog K C f fI) (X : K.In h) (G : h.Ns mainGlobals mg) (hsup : mg "super" = none) (B : h.Ns builtinsNs mb) (hmb : mb "super" = some (.type "super")) (hlim : h.NoLimit)
    (hroom : A.depth < recursionLimit) (he : h.get? e = some (PySem.HandSPX.excO C t0)) (hK : K.lookup e = none)
    (hq : ∀ h' tk dx t1, (∀ b o, b ≠ e → h.get? b = some o → h'.get? b = some o) → h.objs.size ≤ dx → dx ≠ e → h'.get? e = some { cls := .ref C, dict := some dx, data := .fields #[.ref t1, .none, .none, .none, .bool false, .none] } →
      h'.Ns1 dx (fun y => if y = f then some v else none) → R (.ok (.ret .none)) ⟨h', g, d, tk, os⟩) :
    codeAny (model prog w) A (.call (.ref fI) ⟨[.ref e, v], []⟩) R ⟨h, g, d, t, os⟩ := by
  obtain ⟨oc, ct, kV, doc, pm, od, an, osl, name, qual, z, scope, cda, cc, j, pa, pb, p1, p2, p3, p4, p5, p6, p7, p8, p9, p10, lk, hcd, hpos, ⟨ccl, cdd, vs, ccs, file, tf, hcode, hvs, hfile⟩, ⟨cl, cld, csl, hcell⟩, hks, hkc, hka, hkf, hk, hco, hgen, hnc⟩ := T.fn
  obtain ⟨kind, names, isG, isC, more⟩ := scope
  dsimp only at hks hkc hka hkf hk hco hgen hnc
  subst hk hco hgen
  obtain ⟨nm, q, N, bs, bm, sn, sub, ab, col, dd, k0, k1, k2, k3, k5, hC, hbm⟩ := T.oex.cls
  have hcl : clsIn K C = some { name := nm, bases := bs, mro := .ref C :: bm, ns := N, qualname := q, hasDict := true, slotNames := sn, subclasses := sub, abstract := ab, collection := col, hasDel := false } := by unfold clsIn; rw [hC] <;> rfl
  have hxC : e ≠ C := fun z => by
    have h1 := X _ _ hC
    rw [← z, he] at h1
    cases h1
  refine ks_codeAny_call_defAt (fd := ksFn name qual (iniPar f pa pb) (iniBody f z j p1 p2 p3 p4 p5 p6 p7 p8 p9 p10) ⟨.function, names, false, false, more⟩ .none kV doc pm an (.ref cda) ct cc) (body := iniBody f z j p1 p2 p3 p4 p5 p6 p7 p8 p9 p10) (binds := [("self", .ref e), (f, v)])
    hroom (X _ _ lk) rfl hlim (codeRec_of X hcd) rfl (BindsTo.of_eq (T.bnd _ _ _ _ _ _ _ _ _ _ _ _ _ _ _)) hnc ?_ (fun h₁ hns hk₁ => ?_) rfl rfl rfl
  · intro x hx
    rcases List.mem_cons.mp hx with rfl | hx
    · exact hka
    · rcases List.mem_cons.mp hx with rfl | hx
      · exact hkf
      · cases hx
  have X1 : K.In h₁ := X.keeps hk₁
  have he1 := hk₁ _ _ he
  have hC1 := X1 _ _ hC
  show _root_.PySem.wpAt (model prog w) (A.deeper (ksEnv qual ⟨.function, names, false, false, more⟩ h.objs.size fI (.ref cda) cc)) (.func (iniBody f z j p1 p2 p3 p4 p5 p6 p7 p8 p9 p10) (ksEnv qual ⟨.function, names, false, false, more⟩ h.objs.size fI (.ref cda) cc)) (PySem.execs (iniBody f z j p1 p2 p3 p4 p5 p6 p7 p8 p9 p10) (ksEnv qual ⟨.function, names, false, false, more⟩ h.objs.size fI (.ref cda) cc)) _ _ _
  refine ks_wpAt_execs_cons (ks_wpAt_Expr_any (ks_wpAt_MethodCall ?_ (ini_call hpos)))
  refine ks_wpAt_super_base (env := ksEnv qual ⟨.function, names, false, false, more⟩ h.objs.size fI (.ref cda) cc) hks hkc (by decide) rfl (X1 _ _ lk) rfl rfl rfl (X1 _ _ hcode) rfl hvs hfile T.top ?_
  refine ks_loadName_global rfl hks (Calls.loadGlobal_builtin (env := ksEnv qual ⟨.function, names, false, false, more⟩ h.objs.size fI (.ref cda) cc) (G.keeps hk₁) hsup (B.keeps hk₁) hmb ⟨rfl, ?_⟩)
  refine wpAny_loadName_free rfl hkc rfl ⟨_, X1 _ _ hcell, rfl⟩ ?_
  refine wpAny_loadName_local rfl hka hns (v := .ref e) ?_ ?_
  · show [(f, v), (("self" : Str), Value.ref e)].lookup ("self" : Str) = _
    have : (("self" : Str) == f) = false := by
      rw [beq_eq_false_iff_ne]
      exact fun z => T.nm.1 z.symm
    simp only [List.lookup, this]
    rfl
  refine ks_wpAny_isType_cls hC1 rfl ⟨rfl, ?_⟩
  refine ks_wpAny_call_super hC1 rfl he1 rfl (fun c z => nomatch z) (looks_mroIn X1 T.own) (fun h2 e2 k2 => ?_)
  have X2 : K.In h2 := X1.keeps k2
  have hal : alongIn K "__init__" bm = some (some (.builtin "ValueError.__init__")) := by
    have := T.sup
    unfold ks_superIn at this
    rw [hcl] at this
    simpa using this
  have hI : Looks (model prog w) h2 (isInstance (.ref e) (.type "ValueError")) true :=
    (show InstAt h2 e (PySem.HandSPX.excO C t0) C none from ⟨k2 _ _ he1, rfl, rfl, trivial⟩).type.andThen (looks_subIn X2 T.ve)
  refine kxs_getMethod kxs_ValueError e2 (looks_opaque X2 T.opq) (l₀ := .ref C :: bm) (l := bm) (fun A Q E s k q => wpAny_bind ((looks_clsIn X2 hcl) A _ E s k (wpAny_pure q))) (by simp) X2 hal hI hxC (by decide) ?_
  have hu : (h2.push (kxs_mw "ValueError.__init__" e)).get? h2.objs.size = some (kxs_mw "ValueError.__init__" e) := Heap.get?_push_at rfl rfl
  have k3' : ∀ b o, h2.get? b = some o → (h2.push (kxs_mw "ValueError.__init__" e)).get? b = some o := fun b o z => Heap.get?_push_of_some _ z
  refine kxs_callWith (i := "ValueError.__init__") (x := e) rfl ?_
  show wpAny _ _ (evalArgs _ true ((false, eval (.Constant (.str z) j p4) _) :: []) []) _ _ _
  refine Calls.evalArgs_plain (Calls.spliced_cons (wpAny_Constant_str (Calls.spliced_nil ⟨hu, ?_⟩)))
  have X3 := X2.keeps k3'
  refine mw_call (X3 _ _ hC) (k3' _ _ (k2 _ _ he1)) hu (by show 1 ≤ sizeLine; rw [sizeLine_eq]; omega) fun h4 t1 k4 e4 => ?_
  show _root_.PySem.wpAt _ _ _ (PySem.execs [_] _) _ _ _
  have kL : ∀ b o, b ≠ e → h₁.get? b = some o → h4.get? b = some o := fun b o z q => k4 b o z (k3' b o (k2 b o q))
  have hLe : h.objs.size ≠ e := Nat.ne_of_gt (Heap.lt_size he)
  have hns4 : h4.Ns h.objs.size (fun x => [(("self" : Str), Value.ref e), (f, v)].reverse.lookup x) := by
    obtain ⟨oL, es, ep, hL, r⟩ := hns
    exact ⟨oL, es, ep, kL _ _ hLe hL, r⟩
  have X4 : K.In h4 := fun b o q => kL b o (fun z => by
    rw [z, hK] at q
    cases q) (X1 b o q)
  refine ks_wpAt_execs_cons (wpAt_of_wpAny (plainObj_wpAny_Assign_Attribute (wpAny_Name (wpAny_loadName_local (v := v) rfl hkf hns4 ?_ ?_) T.nm.2)))
  · show [(f, v), (("self" : Str), Value.ref e)].lookup f = _
    simp only [List.lookup, beq_self_eq_true]
  refine wpAny_Name (wpAny_loadName_local (v := .ref e) rfl hka hns4 ?_ ?_) (by decide)
  · show [(f, v), (("self" : Str), Value.ref e)].lookup ("self" : Str) = _
    have : (("self" : Str) == f) = false := by
      rw [beq_eq_false_iff_ne]
      exact fun z => T.nm.1 z.symm
    simp only [List.lookup, this]
    rfl
  refine set_plain X4 (ox := PySem.HandSPX.excO C t1) (od := none) ⟨e4, rfl, rfl, trivial⟩ T.oex.sa ?_
  refine PySem.HandSPX.exc_osa X4 e4 hcl (show PySem.HandSPX.refsVE (.ref C :: bm) = true from hbm) rfl T.nof (fun h' tk' dx k dn dne hx hn => ?_)
  show _root_.PySem.wpAt _ _ _ (PySem.execs [] _) _ _ _
  refine wpAt_of_wpAny (wpAny_pure ?_)
  refine hq h' tk' dx t1 (fun b o hb q => k b o hb (kL b o hb (hk₁ b o q))) (Nat.le_trans ?_ dn) dne hx hn
  obtain ⟨oL, es, ep, hL, r⟩ := hns4
  exact Nat.le_of_lt (Heap.lt_size hL)
end
section
open PySem.W
/-- the class's object -/
def oexB (K : PySem.W.Frag) (C : Addr) : Bool := match K.lookup C with
  | some ⟨.type t, _, .cls cd, sl⟩ => decide (t = "type") && (match cd.mro, sl.toList with
    | .ref C' :: bm, [_, _, _, _, some (.builtin n), _] => decide (C' = C) && decide (n = "ValueError.__new__") && !cd.hasDel && cd.hasDict && PySem.HandSPX.refsVE bm
    | _, _ => false)
  | _ => false
theorem oexB_ok {K : PySem.W.Frag} {C : Addr} (h : oexB K C = true) : ∃ nm q N bs bm sn sub ab col dd k0 k1 k2 k3 k5, K.lookup C = some (excClassObj nm q C N bs bm true sn sub ab col dd k0 k1 k2 k3 k5 "ValueError.__new__") ∧ PySem.HandSPX.refsVE bm = true := by
  unfold oexB at h
  split at h
  · rename_i t dd cd sl ho
    rw [Bool.and_eq_true] at h
    obtain ⟨h0, h⟩ := h
    have e0 := of_decide_eq_true h0
    subst e0
    split at h
    · rename_i C' bm k0 k1 k2 k3 n k5 hm hs
      simp only [Bool.and_eq_true, decide_eq_true_eq, Bool.not_eq_true'] at h
      obtain ⟨⟨⟨⟨rfl, rfl⟩, hdel⟩, hdct⟩, hv⟩ := h
      obtain ⟨nm, bs, mro, ns, qn, hd, sn, sub, ab, col, del⟩ := cd
      dsimp only at hm hdel hdct
      subst hm hdel hdct
      have hsl : sl = #[k0, k1, k2, k3, some (.builtin "ValueError.__new__"), k5] := by
        rw [← Array.toArray_toList (xs := sl), hs]
      subst hsl
      exact ⟨nm, qn, ns, bs, bm, sn, sub, ab, col, dd, k0, k1, k2, k3, k5, ho, hv⟩
    · cases h
  · cases h
def fileB (K : PySem.W.Frag) (cda : Addr) (file : Str) : Bool := match K.lookup cda with
  | some ⟨_, _, .fields vs, _⟩ => (match (vs[2]? : Option Value) with
    | some (.str fl _) => file == fl
    | _ => false)
  | _ => false
theorem fileB_ok {K : PySem.W.Frag} {cda : Addr} {f : Str} (h : fileB K cda f = true) : ∃ (ccl : Value) (cdd : Option Addr) (vs : Array Value) (ccs : Array (Option Value)) (file : Str) (tf : Tok), K.lookup cda = some ⟨ccl, cdd, .fields vs, ccs⟩ ∧ vs[2]? = some (.str file tf) ∧ (f == file) = true := by
  unfold fileB at h
  split at h
  · rename_i a b vs c e
    split at h
    · rename_i fl tf e2
      exact ⟨_, _, _, _, fl, tf, e, e2, h⟩
    · cases h
  · cases h
def cellB (K : PySem.W.Frag) (cc C : Addr) : Bool := match K.lookup cc with
  | some ⟨_, _, .cell (some (.ref D)), _⟩ => decide (D = C)
  | _ => false
theorem cellB_ok {K : PySem.W.Frag} {cc C : Addr} (h : cellB K cc C = true) : ∃ (cl : Value) (cld : Option Addr) (csl : Array (Option Value)), K.lookup cc = some ⟨cl, cld, .cell (some (.ref C)), csl⟩ := by
  unfold cellB at h
  split at h
  · rename_i e
    have := of_decide_eq_true h
    subst this
    exact ⟨_, _, _, e⟩
  · cases h
def scopeF (s : Scope) (f : Str) : Bool := decide (s.names.lookup ("super" : Str) = some .globalImplicit) && decide (s.names.lookup ("__class__" : Str) = some .free) && decide (s.names.lookup ("self" : Str) = some .local) && decide (s.names.lookup f = some .local) && decide (s.kind = .function) &&
  !s.isCoroutine && !s.isGenerator && s.names.all fun x => decide (x.2 ≠ .cell)
def parB (a : Arguments) (f : Str) : Bool := match a with
  | ⟨[], [⟨s, none, _⟩, ⟨g, none, _⟩], none, [], [], none, []⟩ => decide (s = "self") && decide (g = f)
  | _ => false
theorem parB_ok {a : Arguments} {f : Str} (h : parB a f = true) : ∃ pa pb, a = iniPar f pa pb := by
  unfold parB at h
  split at h
  · simp only [Bool.and_eq_true, decide_eq_true_eq] at h
    obtain ⟨rfl, rfl⟩ := h
    exact ⟨_, _, rfl⟩
  · cases h
def bodyB (b : FuncBody) (f : Str) : Bool := match b with
  | .stmts [.Expr (.Call (.Attribute (.Call (.Name su _) [] [] _) ini p3) [.Constant (.str _) _ _] [] p5) _, .Assign [.Attribute (.Name s _) f1 _] (.Name f2 _) _] => decide (su = "super") && decide (ini = "__init__") && decide (s = "self") && decide (f1 = f) && decide (f2 = f) && (p3.endLine == p5.line)
  | _ => false
theorem bodyB_ok {b : FuncBody} {f : Str} (h : bodyB b f = true) : ∃ z j p1 p2 p3 p4 p5 p6 p7 p8 p9 p10, b = .stmts (iniBody f z j p1 p2 p3 p4 p5 p6 p7 p8 p9 p10) ∧ (p3.endLine == p5.line) = true := by
  unfold bodyB at h
  split at h
  · simp only [Bool.and_eq_true, decide_eq_true_eq] at h
    obtain ⟨⟨⟨⟨⟨rfl, rfl⟩, rfl⟩, rfl⟩, rfl⟩, hp⟩ := h
    exact ⟨_, _, _, _, _, _, _, _, _, _, _, _, rfl, hp⟩
  · cases h
def nonB : Value → Bool
  | .none => true
  | _ => false
theorem nonB_ok {v : Value} (h : nonB v = true) : v = .none := by
  cases v <;> first | rfl | cases h
def refB : Value → Option Addr
  | .ref a => some a
  | _ => none
theorem refB_ok {v : Value} {a : Addr} (h : refB v = some a) : v = .ref a := by
  cases v <;> first | (cases h; rfl) | cases h
def fnB0 (K : PySem.W.Frag) (file : Str) (C : Addr) (f : Str) (fd : FuncData) : Bool := parB fd.params f && bodyB fd.body f && scopeF fd.scope f && nonB fd.defaults && decide (fd.globals = mainGlobals) && decide (fd.builtins = builtinsNs) && (match fd.closure, refB fd.code with
  | [(c, cc)], some cda => decide (c = "__class__") && cellB K cc C && fileB K cda file && codeIn K (.ref cda) fd.qualname
  | _, _ => false)
def iniB (K : PySem.W.Frag) (file : Str) (C : Addr) (f : Str) (fI : Addr) : Bool := match K.lookup fI with
  | some ⟨_, _, .func fd, _⟩ => fnB0 K file C f fd
  | _ => false
def fldB (K : PySem.W.Frag) (file : Str) (C : Addr) (f : Str) : Bool :=
  oexB K C && decide (findIn K (.ref C) "__setattr__" = some (some (.builtin "object.__setattr__"))) && decide (subIn K (.ref C) (.type "BaseException") = some true) && decide (typeIn K (.ref C) = some (.type "type")) && keepIn K (.ref C) &&
  decide (findIn K (.ref C) f = some none) && decide (subIn K (.ref C) (.type "ValueError") = some true) && decide (mroIn K C (.ref C) = some true) && decide (nsIn K cStatics "thirdparty.any" = some none) && decide (ks_superIn K C C "__init__" = some (some (.builtin "ValueError.__init__"))) &&
  decide (findIn K (.ref C) "__init__" = some (some (.ref (He.ma K C "__init__")))) && decide (typeIn K (.ref (He.ma K C "__init__")) = some (.type "function")) && iniB K file C f (He.ma K C "__init__")
theorem fldB_ok {prog : Program} {K : PySem.W.Frag} {C : Addr} {f : Str} (h : fldB K prog.main.file C f = true) (hb : IniB f) (hf : f ≠ "self" ∧ (f == ("__debug__" : Str)) = false) (ht : (prog.main.scope.names.lookup ("super" : Str)).isSome = false) : FldC prog K C f (He.ma K C "__init__") ∧ keepIn K (.ref C) = true := by
  unfold fldB at h
  simp only [Bool.and_eq_true, decide_eq_true_eq] at h
  obtain ⟨⟨⟨⟨⟨⟨⟨⟨⟨⟨⟨⟨h1, h2⟩, h3⟩, h4⟩, h5⟩, h6⟩, h7⟩, h8⟩, h9⟩, h10⟩, h11⟩, h12⟩, h13⟩ := h
  refine ⟨⟨⟨oexB_ok h1, h2, h3, h4, h5⟩, h11, h12, h6, h7, h8, h9, h10, ?_, ht, hb, hf⟩, h5⟩
  unfold iniB at h13
  split at h13
  · rename_i oc od fd osl lk
    unfold fnB0 at h13
    simp only [Bool.and_eq_true, decide_eq_true_eq] at h13
    obtain ⟨⟨⟨⟨⟨⟨a1, a2⟩, a3⟩, a4⟩, a5⟩, a6⟩, a7⟩ := h13
    obtain ⟨n1, n2, n3, n4, n5, n6, n7, n8, n9, n10, n11, n12, n13, n14, n15⟩ := fd
    dsimp only at a1 a2 a3 a4 a5 a6 a7
    obtain ⟨pa, pb, rfl⟩ := parB_ok a1
    obtain ⟨z, j, p1, p2, p3, p4, p5, p6, p7, p8, p9, p10, rfl, hp⟩ := bodyB_ok a2
    obtain rfl := nonB_ok a4
    subst a5 a6
    unfold scopeF at a3
    simp only [Bool.and_eq_true, decide_eq_true_eq, Bool.not_eq_true', List.all_eq_true] at a3
    obtain ⟨⟨⟨⟨⟨⟨⟨s1, s2⟩, s3⟩, s4⟩, s5⟩, s6⟩, s7⟩, s8⟩ := a3
    split at a7
    · rename_i c cc cda e2
      obtain rfl := refB_ok e2
      simp only [Bool.and_eq_true, decide_eq_true_eq] at a7
      obtain ⟨⟨⟨rfl, b2⟩, b3⟩, b4⟩ := a7
      exact ⟨oc, n14, n9, n10, n11, od, n12, osl, n1, n2, z, n5, cda, cc, j, pa, pb, p1, p2, p3, p4, p5, p6, p7, p8, p9, p10, lk, b4, hp, fileB_ok b3, cellB_ok b2, s1, s2, s3, s4, s5, s6, s7, s8⟩
    · cases a7
  · cases h13
end
section
variable {X : Cx} {te : TE} {e : Expr} {p pos : Pos}
/-- C(e) -/
theorem pmk_fld {x f : Str} {C fI : Addr} (T : FldC X.prog X.K C f fI) (kC : PySem.W.keepIn X.K (.ref C) = true) (hg : Gl X x) (hm : X.mg x = some (.ref C)) (hsup : X.mg "super" = none) (hr : Room 1 X.A) (he : PE X e te)
    (hs : starEach [e] X.env = (false, eval e X.env) :: starEach [] X.env := by rfl) (hdb : (x == ("__debug__" : Str)) = false := by decide) :
    PMk X (.Call (.Name x p) [e] [] pos) (fun σ H Q => te σ H fun v H1 => ∀ dx, H1 dx = none → Q (.ref C) (some dx) (upd H1 dx (.xd [(f, v)]))) := by
  intro pins s σ H Q I h
  obtain ⟨nm, q, N, bs, bm, sn, sub, ab, col, dd, k0, k1, k2, k3, k5, hC, hbm⟩ := T.oex.cls
  refine wpAny_Call_Name_kw (ld_glob I hg hm ?_ hdb)
  refine PySem.W.callWith_K (h₀ := X.base) I.ok.mod.kin kC ?_ hs (by rfl)
  rw [hs]
  show wpAny _ _ (spliced ((false, eval e X.env) :: backTo pos (starEach [] X.env))) _ _ s
  refine Calls.spliced_cons (thn (he.run pins s σ H _ I h) fun u s1 ⟨v, H1, I1, r1, q1⟩ => ?_)
  refine Calls.spliced_nil ⟨I1.kIn, ?_⟩
  show wpAny _ _ (call (.ref C) [u]) _ _ _
  obtain ⟨hp, g, dr, tk, os⟩ := s1
  have hsz : hp.objs.size ≤ hp.objs.size + 1 := Nat.le_succ _
  have hn : H1 (hp.objs.size + 1) = none := I1.hok.fresh hsz
  have kk : ∀ b o, hp.get? b = some o → ((hp.push (PySem.W.kdv_tup [u])).push (PySem.HandSPX.excO C hp.objs.size)).get? b = some o := fun b o z => Heap.get?_push_of_some _ (Heap.get?_push_of_some _ z)
  have hget : ((hp.push (PySem.W.kdv_tup [u])).push (PySem.HandSPX.excO C hp.objs.size)).get? (hp.objs.size + 1) = some (PySem.HandSPX.excO C hp.objs.size) := by heap_get
  have I2 : Inv X pins σ (upd H1 (hp.objs.size + 1) (exo (hp.objs.size + 1) C none)) ⟨(hp.push (PySem.W.kdv_tup [u])).push (PySem.HandSPX.excO C hp.objs.size), g, dr, tk, os⟩ :=
    I1.laid (t' := tk) (a := hp.objs.size + 1) (o := exo (hp.objs.size + 1) C none) (h' := (hp.push (PySem.W.kdv_tup [u])).push (PySem.HandSPX.excO C hp.objs.size)) kk hsz (exo_ok hget)
  have hK : X.K.lookup (hp.objs.size + 1) = none := by
    cases z : X.K.lookup (hp.objs.size + 1) with
    | none => rfl
    | some o =>
      have := Heap.lt_size (h := hp) (I1.kIn _ _ z)
      exact absurd (Nat.lt_trans (Nat.lt_succ_self _) this) (Nat.lt_irrefl _)
  obtain ⟨mb, hb1, hb2⟩ := I2.mod.blt
  refine wpAny_call (PySem.HandSPX.call_own F.excBase_ValueError (fun Y => PySem.HandSPX.refsVE_contains Y bm hbm) (I1.kIn _ _ hC) (PySem.W.looks_findIn I1.kIn T.ini) (fun self => PySem.W.bind_fn I1.kIn self T.tI) (by show 1 ≤ sizeLine; rw [sizeLine_eq]; omega)
    (ini_run T I2.kIn (I2.mod.glob.keeps I2.bk) hsup (hb1.keeps I2.bk) ((hb2 "super" (by decide)).trans (by boot_by_name)) I2.nolimit (hr.make C [u] []).depth hget hK fun h' tk' dx t1 k dn dne hx hns => ?_))
  refine ⟨rfl, ?_⟩
  generalize hp.objs.size + 1 = a at *
  generalize hH : upd H1 a (exo a C none) = H at *
  generalize hh : (hp.push (PySem.W.kdv_tup [u])).push (PySem.HandSPX.excO C hp.objs.size) = hp2 at *
  have e : H a = some (exo a C none) := by rw [← hH, upd_same]
  have hnd : H dx = none := I2.hok.fresh dn
  have nd : ∀ {b : Addr} {o : Obj}, hp2.get? b = some o → b ≠ dx := fun {b o} q => Nat.ne_of_lt (Nat.lt_of_lt_of_le (Heap.lt_size q) dn)
  have na : ∀ {b : Addr}, H b = none → b ≠ a := fun {b} n z => by
    rw [z, e] at n
    cases n
  have Un1 : Un (frs X.stack) [] H (upd (upd H dx (exd dx [(f, v)])) a (exo a C (some dx))) hp2 h' := {
    keep := fun b o q n _ _ => k b o (na n) q
    slot := fun b o q n _ _ => ⟨o.slots, k b o (na n) q⟩
    free := fun b o q n _ => by rw [upd_ne (na n), upd_ne (nd q)]; exact n
    there := fun b o q _ => by
      by_cases hb : b = a
      · exact ⟨_, by rw [hb]; exact hx⟩
      · exact ⟨o, k b o hb q⟩
    tups := fun b xs q => by rw [upd_ne (at_ne e q exo_tup), upd_ne (ne_of_none q hnd)]; exact q
    frzs := fun b o v q => by rw [upd_ne (at_ne e q exo_frz), upd_ne (ne_of_none q hnd)]; exact q
    tbls := fun b ps q => ⟨#[], by rw [upd_ne (at_ne e q exo_tbl), upd_ne (ne_of_none q hnd), q]; simp⟩ }
  have hok' : HOk X.prog X.w (upd (upd H dx (exd dx [(f, v)])) a (exo a C (some dx))) h' := fun b o q => by
    by_cases hb : b = a
    · subst hb
      rw [upd_same] at q
      cases q
      exact exo_ok hx
    · rw [upd_ne hb] at q
      by_cases hd : b = dx
      · subst hd
        rw [upd_same] at q
        cases q
        exact exd_ok hns (relO_put (fs := []) r1 fun g => True.intro)
      · rw [upd_ne hd] at q
        exact (I2.hok b o q).stay (fun c v hc z => k c v (by
            rcases hc with hc | hc
            · rw [hc]
              exact hb
            · exact at_ne e hc exo_own) z)
          (fun c hc => by rw [upd_ne (at_ne e hc exo_own), upd_ne (ne_of_none hc hnd)]; exact hc) (fun c xs hc => by rw [upd_ne (at_ne e hc exo_tup), upd_ne (ne_of_none hc hnd)]; exact hc)
  have hd1 : H1 dx = none := by
    have := hnd
    rw [← hH, upd_ne dne] at this
    exact this
  subst hH
  refine mk_end (raises_own T.oex.exC T.oex.tyC) I1 hsz kk Un1 hok' rfl I1.bare upd_same (by rw [upd_ne dne, upd_same]) hd1 ?_
  have := q1 dx hd1
  rw [show upd (del (upd (upd (upd H1 a (exo a C none)) dx (exd dx [(f, v)])) a (exo a C (some dx))) a) dx (.xd [(f, v)]) = upd H1 dx (.xd [(f, v)]) from funext fun b => ?_]
  · exact this
  · by_cases hb : b = dx
    · rw [hb, upd_same, upd_same]
    · rw [upd_ne hb, upd_ne hb]
      by_cases ha : b = a
      · rw [ha, del_same, hn]
      · rw [del_ne ha, upd_ne ha, upd_ne hb, upd_ne ha]
end
theorem Here.xd {H : Hp} {a : Addr} {xs : List (Str × V)} (h : H a = some (.xd xs)) : Here H a := by
  refine ⟨?_, fun ps => ?_, fun q => ?_⟩ <;> rw [h]
  · exact fun z => nomatch z
  · exact fun z => nomatch z
  · unfold LamX.CodeO
    exact fun z => nomatch z
section
variable {X : Cx} {G : Gm} {Z : WX} {C : CallI}
theorem ss_raiseF {A fI : Addr} {c : Nat} {x f : Str} {e : Expr} {y : Ex} {p1 p3 pos : Pos} (hc : X.calm = true) (tk : Takes X Z) (e1 : G.c c = some A) (gC : X.mg x = some (.ref A)) (T : FldC X.prog X.K A f fI) (kC : PySem.W.keepIn X.K (.ref A) = true) (hsup : X.mg "super" = none) (hr : Room 1 X.A)
    (hg : Gl X x) (hd : (x == ("__debug__" : Str)) = false) (he : PE X e (tE X.K G Z (evalE C y))) (hs : starEach [e] X.env = (false, eval e X.env) :: starEach [] X.env) : PS X (.Raise (some (.Call (.Name x p1) [e] [] p3)) none pos) (tS X.K G Z (exec C (.raiseF c f y))) := by
  refine PS.imp (ps_raise hc tk (pmk_fld T kC hg gC hsup hr he hs hd)) fun D σ H hq => ?_
  obtain ⟨env, s, d, Ob, rfl, hE, hS, hk⟩ := hq
  rw [exec] at hk
  show tE X.K G Z (evalE C y) σ d.H fun v H1 => ∀ dx, H1 dx = none → Z (.ref A) (some dx) σ (upd H1 dx (.xd [(f, v)]))
  refine tS.step hE hS hk fun w s1 d1 hE1 hS1 h1 v r => fun dx hdx => ?_
  split at h1
  · rename_i hw
    obtain ⟨ev, ss⟩ := hS1.fresh (o := .xd [(f, v)]) hdx false (fun _ z => Here.xd z)
    have r' := r.mono ev
    exact h1 _ σ (.ref A) (some dx) (ev.sub hE1.ob) hE1.ob ss ⟨A, e1, rfl, dx, v, rfl, upd_same, r', hw⟩
  · exact h1.elim
end
end Mi

/-! Several names at once; lists changed; what is let stand. -/
namespace Mi
open PySem PySem.Spec PyProof.Rows L2
section
variable {K : PySem.W.Frag} {X : Cx} {G : Gm} {Z : WX} {C : CallI} {Ob : Addr → Prop}
variable (K G) in
/-- values for names: some are lists of one's own, not in B -/
def RPs (d : Wd) : (Addr → Prop) → List Bool → List W → List V → Prop
  | _, [], [], [] => True
  | B, false :: fs, w :: ws, v :: vs => RW K G d w v ∧ RPs d B fs ws vs
  | B, true :: fs, w :: ws, v :: vs => (∃ p, v = .ref p ∧ d.Ow p ∧ ¬ B p ∧ RC K G d w p ∧ RPs d (fun a => B a ∨ a = p) fs ws vs)
  | _, _, _, _ => False
theorem RPs.imp {d : Wd} {B B' : Addr → Prop} (h : ∀ a, B' a → B a) : ∀ {fs : List Bool} {ws : List W} {vs : List V}, RPs K G d B fs ws vs → RPs K G d B' fs ws vs
  | [], [], [], r => r
  | false :: fs, w :: ws, v :: vs, r => ⟨r.1, RPs.imp h r.2⟩
  | true :: fs, w :: ws, v :: vs, r => by
    obtain ⟨p, e2, o, nb, c, t⟩ := r
    exact ⟨p, e2, o, fun hb => nb (h p hb), c, RPs.imp (fun a ha => ha.imp (h a) id) t⟩
  | [], [], _ :: _, r => r.elim
  | [], _ :: _, _, r => r.elim
  | _ :: _, [], _, r => by cases ‹Bool› <;> exact r.elim
  | _ :: _, _ :: _, [], r => by cases ‹Bool› <;> exact r.elim
variable (K G Z) in
def tPs (fs : List Bool) (m : Env → Sto → Out (List W)) : TA := fun σ H Q => ∃ env s d Ob, d.H = H ∧ SimE K G Ob env d σ ∧ SimS K G s d ∧ match m env s with
  | .ok ws s' => ∀ d' vs, Evo K d.Ow d d' → (∀ a, d.Ow a → d'.Ow a) → SimS K G s' d' → RPs K G d' d.Ow fs ws vs → Q vs d'.H
  | .ex x s' => ∀ d' cls dd, Evo K d.Ow d d' → (∀ a, d.Ow a → d'.Ow a) → SimS K G s' d' → RX K G x cls dd d' → Z cls dd σ d'.H
  | .no => False
theorem sp_nil : PA X [] (tPs X.K G Z [] (evalP C [])) := PA.imp pa_nil fun σ H Q hq => by
  obtain ⟨env, s, d, Ob, rfl, hE, hS, hk⟩ := hq
  rw [evalP] at hk
  exact hk d [] (.refl d) (fun _ h => h) hS trivial
/-- worlds whose own grows -/
theorem SimE.grow {env : Env} {d d' : Wd} {σ : L2.St} (h : SimE K G Ob env d σ) (e : Evo K d.Ow d d') (o : ∀ a, d.Ow a → d'.Ow a) : SimE K G Ob env d' σ := by
  refine ⟨h.len, fun i w hi => ?_, fun i w hi => ?_, h.sep, fun p hp => o p (h.ob p hp)⟩
  · obtain ⟨v, e1, r⟩ := h.val i w hi
    exact ⟨v, e1, r.mono e⟩
  · obtain ⟨p, e1, ow, nb, r⟩ := h.own i w hi
    exact ⟨p, e1, o p ow, nb, r.mono e ow⟩
theorem sp_cons {e : Expr} {es : List Expr} {x : Ex} {xs : List Ex} {f : Bool} {fs : List Bool} (h : if f then PE X e (tN X.K G Z (evalE C x)) else PE X e (tE X.K G Z (evalE C x))) (h2 : PA X es (tPs X.K G Z fs (evalP C xs)))
    (hs : starEach (e :: es) X.env = (false, eval e X.env) :: starEach es X.env) : PA X (e :: es) (tPs X.K G Z (f :: fs) (evalP C (x :: xs))) := by
  cases f with
  | false =>
    refine PA.imp (pa_cons h h2 hs) fun σ H Q hq => ?_
    obtain ⟨env, s, d, Ob, rfl, hE, hS, hk⟩ := hq
    rw [evalP] at hk
    show tE X.K G Z (evalE C x) σ d.H fun v H1 => tPs X.K G Z fs (evalP C xs) σ H1 fun vs H2 => Q (v :: vs) H2
    refine tG.go hE hS ?_
    revert hk
    cases evalE C x env s with
    | no => exact id
    | ex x s' => exact fun hk d' cls dd e eo ss r => hk d' cls dd e (fun a ha => by rw [eo]; exact ha) ss r
    | ok w s1 =>
      intro hk d1 e1 eo1 hS1 v rv
      refine ⟨env, s1, d1, Ob, rfl, hE.mono e1 eo1, hS1, ?_⟩
      rw [Out.bind_ok] at hk
      revert hk
      cases evalP C xs env s1 with
      | no => exact id
      | ex x s' => exact fun hk d' cls dd e o ss r => hk d' cls dd (e1.trans (by rw [← eo1]; exact e)) (fun a ha => o a (by rw [eo1]; exact ha)) ss r
      | ok ws s' =>
        intro hk d' vs e o ss r
        exact hk d' (v :: vs) (e1.trans (by rw [← eo1]; exact e)) (fun a ha => o a (by rw [eo1]; exact ha)) ss ⟨rv.mono e, by rw [← eo1]; exact r⟩
  | true =>
    refine PA.imp (pa_cons h h2 hs) fun σ H Q hq => ?_
    obtain ⟨env, s, d, Ob, rfl, hE, hS, hk⟩ := hq
    rw [evalP] at hk
    show tN X.K G Z (evalE C x) σ d.H fun v H1 => tPs X.K G Z fs (evalP C xs) σ H1 fun vs H2 => Q (v :: vs) H2
    refine tG.go hE hS ?_
    revert hk
    cases evalE C x env s with
    | no => exact id
    | ex x s' => exact fun hk d' cls dd e eo ss r => hk d' cls dd e (fun a ha => by rw [eo]; exact ha) ss r
    | ok w s1 =>
      intro hk d1 e1 eo1 hS1 v rv
      obtain ⟨p, rfl, hF, hO, hA, rc⟩ := rv
      have hS2 := hS1.addO hF hA rc.ne
      refine ⟨env, s1, d1.addO p, Ob, rfl, (hE.mono e1 eo1).addO, hS2, ?_⟩
      rw [Out.bind_ok] at hk
      have e2 : Evo X.K d.Ow d (d1.addO p) := e1.addO
      have sub : ∀ a, d.Ow a → (d1.addO p).Ow a := fun a ha => .inl (by rw [eo1]; exact ha)
      revert hk
      cases evalP C xs env s1 with
      | no => exact id
      | ex x s' => exact fun hk d' cls dd e o ss r => hk d' cls dd (e2.trans (e.sub sub)) (fun a ha => o a (sub a ha)) ss r
      | ok ws s' =>
        intro hk d' vs e o ss r
        refine hk d' (.ref p :: vs) (e2.trans (e.sub sub)) (fun a ha => o a (sub a ha)) ss ⟨p, rfl, o p (.inr rfl), fun hb => hO (by rw [eo1]; exact hb), ?_, r.imp fun a ha => ?_⟩
        · exact (RC.sameO (d := d1) (d' := d1.addO p) rfl rfl rfl rc).mono e (.inr rfl)
        · exact ha.imp (fun h => by rw [eo1]; exact h) id
/-- the own names' lists are in B -/
def InB (B : Addr → Prop) (env : Env) (σ : L2.St) : Prop := ∀ (j : Nat) (u : W) (q : Addr), env[j]? = some (.own u) → σ[j]? = some (some (.ref q)) → B q
theorem SimE.setOwnB {env : Env} {d : Wd} {σ : L2.St} {i : Nat} {w : W} {p : Addr} {B : Addr → Prop} (h : SimE K G Ob env d σ) (hB : InB B env σ) (nB : ¬ B p) (oB : ∀ a, Ob a → B a) (o : d.Ow p) (r : RC K G d w p) :
    SimE K G Ob (env.set i (.own w)) d (σ.set i (some (.ref p))) ∧ InB (fun a => B a ∨ a = p) (env.set i (.own w)) (σ.set i (some (.ref p))) := by
  have ne : ∀ (j : Nat) (u : W) (q : Addr), env[j]? = some (.own u) → σ[j]? = some (some (.ref q)) → q ≠ p := fun j u q hj ej e => nB (by rw [← e]; exact hB j u q hj ej)
  refine ⟨⟨by simp [h.len], fun j u hj => ?_, fun j u hj => ?_, fun j k wj wk q hj hk ej ek => ?_, h.ob⟩, fun j u q hj ej => ?_⟩
  · by_cases e : i = j
    · subst e
      rw [List.getElem?_set] at hj
      simp only [if_true] at hj
      split at hj <;> cases hj
    · rw [List.getElem?_set_ne e] at hj ⊢
      exact h.val j u hj
  · by_cases e : i = j
    · subst e
      rw [List.getElem?_set] at hj
      rw [List.getElem?_set, ← h.len]
      simp only [if_true] at hj ⊢
      split at hj
      · rename_i hl
        cases hj
        exact ⟨p, by simp [hl], o, fun hb => nB (oB p hb), r⟩
      · cases hj
    · rw [List.getElem?_set_ne e] at hj ⊢
      exact h.own j u hj
  · by_cases e : i = j
    · by_cases e2 : i = k
      · exact e.symm.trans e2
      · subst e
        have : q = p := by
          rw [List.getElem?_set, ← h.len] at ej
          simp only [if_true] at ej
          split at ej
          · cases ej; rfl
          · cases ej
        rw [List.getElem?_set_ne e2] at hk ek
        exact absurd this (ne k wk q hk ek)
    · by_cases e2 : i = k
      · subst e2
        have : q = p := by
          rw [List.getElem?_set, ← h.len] at ek
          simp only [if_true] at ek
          split at ek
          · cases ek; rfl
          · cases ek
        rw [List.getElem?_set_ne e] at hj ej
        exact absurd this (ne j wj q hj ej)
      · rw [List.getElem?_set_ne e] at hj ej
        rw [List.getElem?_set_ne e2] at hk ek
        exact h.sep j k wj wk q hj hk ej ek
  · by_cases e : i = j
    · subst e
      rw [List.getElem?_set, ← h.len] at ej
      simp only [if_true] at ej
      split at ej
      · cases ej; exact .inr rfl
      · cases ej
    · rw [List.getElem?_set_ne e] at hj ej
      exact .inl (hB j u q hj ej)
def setV : List Nat → List V → L2.St → L2.St
  | i :: is, v :: vs, σ => setV is vs (σ.set i (some v))
  | _, _, σ => σ
theorem sets_ok {d : Wd} : ∀ (fs : List Bool) (is : List Nat) (ws : List W) (vs : List V) (env env' : Env) (σ : L2.St) (B : Addr → Prop), sets fs is ws env = some env' → SimE K G Ob env d σ → InB B env σ → (∀ a, Ob a → B a) → RPs K G d B fs ws vs → SimE K G Ob env' d (setV is vs σ)
  | [], [], [], [], env, env', σ, B, hs, hE, hB, oB, r => by
    cases hs
    exact hE
  | false :: fs, i :: is, w :: ws, v :: vs, env, env', σ, B, hs, hE, hB, oB, r => by
    refine sets_ok fs is ws vs (env.set i (.val w)) env' _ B hs (hE.set r.1) (fun j u q hj ej => ?_) oB r.2
    by_cases e : i = j
    · subst e
      rw [List.getElem?_set] at hj
      simp only [if_true] at hj
      split at hj <;> cases hj
    · rw [List.getElem?_set_ne e] at hj ej
      exact hB j u q hj ej
  | true :: fs, i :: is, w :: ws, v :: vs, env, env', σ, B, hs, hE, hB, oB, r => by
    obtain ⟨p, rfl, o, nb, c, t⟩ := r
    obtain ⟨h1, h2⟩ := hE.setOwnB (i := i) hB nb oB o c
    exact sets_ok fs is ws vs _ env' _ _ hs h1 h2 (fun a ha => .inl (oB a ha)) t
  | [], [], [], _ :: _, _, _, _, _, _, _, _, _, r => r.elim
  | [], [], _ :: _, _, _, _, _, _, hs, _, _, _, _ => by cases hs
  | [], _ :: _, _, _, _, _, _, _, hs, _, _, _, _ => by cases hs
  | _ :: _, [], _, _, _, _, _, _, hs, _, _, _, _ => by cases hs
  | _ :: _, _ :: _, [], _, _, _, _, _, hs, _, _, _, _ => by cases hs
  | b :: _, _ :: _, _ :: _, [], _, _, _, _, _, _, _, _, r => by cases b <;> exact r.elim
theorem par_fin {fs : List Bool} {is : List Nat} {xs : List Ex} {D : Ends} {σ : L2.St} {H : Hp} (hq : tS X.K G Z (exec C (.par fs is xs)) D σ H) : tPs X.K G Z fs (evalP C xs) σ H fun vs H1 => D.nx (setV is vs σ) H1 := by
  obtain ⟨env, s, d, Ob, rfl, hE, hS, hk⟩ := hq
  rw [exec] at hk
  refine ⟨env, s, d, Ob, rfl, hE, hS, ?_⟩
  revert hk
  cases evalP C xs env s with
  | no => exact id
  | ex x s' => exact fun hk d' cls dd e o ss r => hk d' σ cls dd (e.sub hE.ob) (fun p hp => o p (hE.ob p hp)) ss r
  | ok ws s' =>
    intro hk d' vs e o ss r
    rw [Out.bind_ok] at hk
    obtain ⟨env', es, h1⟩ := hk.of_bind
    have hE' : SimE X.K G Ob env d' σ := hE.grow e o
    have hB : InB d.Ow env σ := fun j u q hj ej => by
      obtain ⟨q', e1, ow, _⟩ := hE.own j u hj
      rw [ej] at e1
      cases e1
      exact ow
    exact h1 d' _ (e.sub hE.ob) (sets_ok fs is ws vs env env' σ d.Ow es hE' hB hE.ob r) ss
theorem ss_par2 {i j : Nat} {x y : Str} {a b : Expr} {px py pt pos : Pos} {kt k2 : Nat} {pt2 : Pos} {f g : Bool} {xs : List Ex} (hc : X.calm = true) (hN : X.N.Nodup) (hi : X.N[i]? = some x) (hj : X.N[j]? = some y) (hij : i ≠ j)
    (hx : X.env.scope.names.lookup x = some .local) (hy : X.env.scope.names.lookup y = some .local) (ha : PA X [a, b] (tPs X.K G Z [f, g] (evalP C xs)))
    (hw : swappedStores [.Tuple [.Name x px, .Name y py] kt pt] (.Tuple [a, b] k2 pt2) X.env = pure (some [x, y])) :
    PS X (.Assign [.Tuple [.Name x px, .Name y py] kt pt] (.Tuple [a, b] k2 pt2) pos) (tS X.K G Z (exec C (.par [f, g] [i, j] xs))) := by
  refine PS.imp (ps_par hc hN hi hj hij hx hy ha hw) fun D σ H hq => ?_
  have h := par_fin hq
  obtain ⟨env, s, d, Ob, rfl, hE, hS, hk⟩ := h
  refine ⟨env, s, d, Ob, rfl, hE, hS, ?_⟩
  revert hk
  cases evalP C xs env s with
  | no => exact id
  | ex x s' => exact id
  | ok ws s' =>
    intro hk d' vs e o ss r
    have := hk d' vs e o ss r
    match ws, vs, r with
    | [w1, w2], [v1, v2], r => exact ⟨v1, v2, rfl, this⟩
    | [], vs, r => cases f <;> exact r.elim
    | _ :: _, [], r => cases f <;> exact r.elim
    | [_], _ :: vs, r =>
      cases f
      · cases g <;> cases vs <;> exact r.2.elim
      · obtain ⟨_, _, _, _, _, t⟩ := r
        cases g <;> cases vs <;> exact t.elim
    | _ :: _ :: ws, [_], r =>
      cases f
      · cases g <;> exact r.2.elim
      · obtain ⟨_, _, _, _, _, t⟩ := r
        cases g <;> exact t.elim
    | [_, _], _ :: _ :: _ :: _, r =>
      cases f
      · cases g
        · exact r.2.2.elim
        · obtain ⟨_, _, _, _, _, t⟩ := r.2
          exact t.elim
      · obtain ⟨_, _, _, _, _, t⟩ := r
        cases g
        · exact t.2.elim
        · obtain ⟨_, _, _, _, _, t⟩ := t
          exact t.elim
    | _ :: _ :: _ :: _, _ :: _ :: _, r =>
      cases f
      · cases g
        · exact r.2.2.elim
        · obtain ⟨_, _, _, _, _, t⟩ := r.2
          exact t.elim
      · obtain ⟨_, _, _, _, _, t⟩ := r
        cases g
        · exact t.2.elim
        · obtain ⟨_, _, _, _, _, t⟩ := t
          exact t.elim
end
end Mi

/-! Reversed slices, of tuples too; names with new lists by way of a tuple. -/
namespace HT
open PySem PySem.Spec PyProof.Rows
section
variable {prog : Program} {w : World} {A : Around} {E : Value → Shared → Prop} {s : Shared}
theorem adjust_rev (n : Nat) : Builtin.Slice.sliceAdjust none none (-1) (n : Int) = ((n : Int) - 1, -1) := by
  unfold Builtin.Slice.sliceAdjust
  have h1 : (-1 : Int) < 0 := by omega
  simp only [h1, if_true]
theorem places_rev (n : Nat) : Builtin.Slice.slicePlaces ((n : Int) - 1) (-1) (-1) = n := by
  unfold Builtin.Slice.slicePlaces
  have h1 : ¬ ((-1 : Int) > 0) := by omega
  simp only [h1, if_false]
  have h2 : -(-1 : Int) = 1 := by omega
  rw [h2, Int.ediv_one]
  split <;> omega
theorem sliceApplied_rev {sl : Addr} {vl vu vs : Value} {n : Nat} {Q : Int × Int × Nat → Shared → Prop} (hs : s.heap.IsSliceOf sl vl vu vs) (pl : IsPart vl none) (pu : IsPart vu none) (ps : IsPart vs (some (-1)))
    (h : Q ((n : Int) - 1, -1, n) s) : wpAny (model prog w) A (Builtin.Slice.sliceApplied (.ref sl) (pure (n : Int))) Q E s := by
  obtain ⟨os, hos, hcs, hds⟩ := id hs
  unfold Builtin.Slice.sliceApplied Builtin.Slice.sliceFields
  refine wpAny_bind (wpAny_bind (wpAny_field hos hds (x := vl) rfl (wpAny_bind (wpAny_field hos hds (x := vu) rfl (wpAny_bind (wpAny_field hos hds (x := vs) rfl (wpAny_pure ?_)))))))
  refine wpAny_bind (slicePart_ ps ?_)
  show wpAny _ _ (if ((-1 : Int) == 0) = true then _ else _) _ _ s
  rw [if_neg (by decide)]
  refine wpAny_bind (slicePart_ pl (wpAny_bind (slicePart_ pu (wpAny_bind (wpAny_pure ?_)))))
  show wpAny _ _ (match Builtin.Slice.sliceAdjust none none (-1) (n : Int) with | (lo, hi) => pure (lo, (-1 : Int), Builtin.Slice.slicePlaces lo hi (-1))) _ _ s
  rw [adjust_rev n]
  show wpAny _ _ (pure ((n : Int) - 1, (-1 : Int), Builtin.Slice.slicePlaces ((n : Int) - 1) (-1) (-1))) _ _ s
  rw [places_rev]
  exact wpAny_pure h
theorem pick_rev (xs : Array Value) : ((List.range xs.size).filterMap fun (m : Nat) => xs[(((xs.size : Nat) : Int) - 1 + (m : Int) * (-1)).toNat]?).toArray = xs.toList.reverse.toArray := by
  congr 1
  have e : ∀ m ∈ List.range xs.size, xs[(((xs.size : Nat) : Int) - 1 + (m : Int) * (-1)).toNat]? = some (xs.toList.reverse.getD m .none) := fun m hm => by
    have hm := List.mem_range.mp hm
    have e1 : (((xs.size : Nat) : Int) - 1 + (m : Int) * (-1)).toNat = xs.size - 1 - m := by omega
    rw [e1, List.getD_eq_getElem?_getD, List.getElem?_eq_getElem (show m < xs.toList.reverse.length by simpa using hm)]
    simp [List.getElem_reverse, show xs.size - 1 - m < xs.size by omega]
  refine List.ext_getElem? fun i => ?_
  have e2 : (List.range xs.size).filterMap (fun (m : Nat) => xs[(((xs.size : Nat) : Int) - 1 + (m : Int) * (-1)).toNat]?) = (List.range xs.size).map fun m => xs.toList.reverse.getD m .none := by
    have gen : ∀ l : List Nat, (∀ m ∈ l, xs[(((xs.size : Nat) : Int) - 1 + (m : Int) * (-1)).toNat]? = some (xs.toList.reverse.getD m .none)) → l.filterMap (fun (m : Nat) => xs[(((xs.size : Nat) : Int) - 1 + (m : Int) * (-1)).toNat]?) = l.map fun m => xs.toList.reverse.getD m .none := fun l => by
      induction l with
      | nil => intro _; rfl
      | cons a r ih =>
        intro h
        rw [List.filterMap_cons, h a (List.mem_cons_self ..), ih fun m hm => h m (List.mem_cons_of_mem _ hm)]
        rfl
    exact gen _ e
  rw [e2]
  by_cases hi : i < xs.size
  · rw [List.getElem?_eq_getElem (by simpa using hi), List.getElem?_eq_getElem (by simpa using hi)]
    simp
    rw [List.getElem?_eq_getElem (by simpa using hi)]
    simp [List.getElem_reverse]
  · rw [List.getElem?_eq_none (by simpa using hi), List.getElem?_eq_none (by simpa using hi)]
theorem getItem_tuple_rev {t sl : Addr} {items : Array Value} {vl vu vs : Value} {Q : Value → Shared → Prop} (ht : IsTup s.heap t items) (hs : s.heap.IsSliceOf sl vl vu vs) (pl : IsPart vl none) (pu : IsPart vu none) (ps : IsPart vs (some (-1)))
    (h : Q (.ref s.heap.objs.size) { s with heap := s.heap.push { cls := .type "tuple", data := .seq items.toList.reverse.toArray } })
    (hsz : items.size ≤ sizeLine) : wpAny (model prog w) A (getItem (.ref t) (.ref sl)) Q E s := by
  have htake : sizeOk (.seq items.toList.reverse.toArray) := by
    show items.toList.reverse.toArray.size ≤ sizeLine
    rw [List.size_toArray, List.length_reverse, Array.length_toList]
    exact hsz
  obtain ⟨os, hos, hcs, hds⟩ := id hs
  have hTs : s.TypeIs (.ref sl) "slice" := ⟨os, hos, hcs⟩
  unfold getItem
  try with_reducible refine wpAny_holding ?_
  first | refine wpAny_bind (wpAny_pure ?_) | skip
  refine wpAny_bind (wpAny_sequenceKey ht.typeIs (by decide) ?_)
  refine wpAny_bind (wpAny_callSpecial?_slot (name := Str.ofString "__getitem__") ht.typeIs PyProof.Rows.slot_tuple_getitem
    (wpAny_call_entry PyProof.Rows.slot_tuple_getitem ht.typeIs entry_tuple_getitem ?_ (args_tuple_getitem _ _)))
  show wpAny _ _ (Builtin.Tuple.tupleItemsOf (.ref t) >>= _) _ _ s
  refine wpAny_bind (tupleItemsOf_ ht ?_)
  refine wpAny_bind (wpAny_typeOf hTs ?_)
  rw [if_pos (by decide)]
  refine wpAny_bind (sliceApplied_rev (n := items.size) hs pl pu ps ?_)
  show wpAny _ _ (if (((items.size : Nat) : Int) - 1 == 0 && (-1 : Int) == 1 && items.size == items.size) = true then _ else _) _ _ s
  rw [if_neg (by simp), pick_rev]
  first
    | exact wpAny_bind (m := Builtin.Tuple.tupleExact _) (wpAny_newObj_type (wpAny_pure ⟨_, rfl, wpAny_pure h⟩) htake)
    | exact wpAny_bind (m := Builtin.Tuple.tupleExact _) (wpAny_newObj_type (wpAny_bind (wpAny_pure (wpAny_pure ⟨_, rfl, wpAny_pure h⟩))) htake)
    | exact wpAny_bind (wpAny_bind (m := Builtin.Tuple.tupleExact _) (wpAny_newObj_type (wpAny_pure (wpAny_pure ⟨_, rfl, wpAny_pure h⟩)) htake))
    | exact wpAny_bind (wpAny_bind (m := Builtin.Tuple.tupleExact _) (wpAny_newObj_type (wpAny_pure ⟨_, rfl, wpAny_pure h⟩) htake))
end
end HT
namespace L2
open PySem PySem.Spec PyProof.Rows
section
variable {X : Cx}
def tRevA (K : PySem.W.Frag) (te : TE) : TE := fun σ H Q => te σ H fun x H1 => ∃ a xs, x = .ref a ∧ ((SqL K H1 a xs ∧ ∀ p, H1 p = none → Q (.ref p) (upd H1 p (.lst xs.reverse))) ∨ (SqT K H1 a xs ∧ ∀ p, H1 p = none → Q (.ref p) (upd H1 p (.tup xs.reverse))))
theorem pe_revA {e : Expr} {te : TE} {k : Nat} {p1 p2 p3 pos : Pos} (he : PE X e te) : PE X (.Subscript e (.Slice none none (some (.UnaryOp .USub (.Constant (.int 1) k p1) p2)) p3) pos) (tRevA X.K te) := by
  refine ⟨fun pins s σ H Q I h => ?_⟩
  refine Subscript_ (thn (he.run pins s σ H _ I h) fun v s1 ⟨x, H1, I1, r1, q1⟩ => ?_)
  obtain ⟨a, xs, ex, q⟩ := q1
  subst ex
  cases r1
  have hst : PO X (some (.UnaryOp .USub (.Constant (.int 1) k p1) p2)) (tPart (tUn (rU fun i => .int (-i)) (tC (.int 1)))) := po_some (pe_un un_neg pe_int)
  refine wpAny_Slice (thn (po_none.run pins s1 σ H1 (fun o H2 => o = none ∧ H2 = H1) I1 ⟨rfl, rfl⟩) fun vl s2 ⟨l, H2, I2, pl, el, e2⟩ => ?_)
  subst el e2
  refine thn (po_none.run pins s2 σ H2 (fun o H3 => o = none ∧ H3 = H2) I2 ⟨rfl, rfl⟩) fun vu s3 ⟨u, H3, I3, pu, eu, e3⟩ => ?_
  subst eu e3
  refine thn (hst.run pins s3 σ H3 (fun o H4 => o = some (-1) ∧ H4 = H3) I3 ⟨1, rfl, -1, rfl, rfl, rfl⟩) fun vs s4 ⟨o, H4, I4, ps, eo, e4⟩ => ?_
  subst eo e4
  have I5 : Inv X pins σ H4 { s4 with heap := s4.heap.push { cls := .type "slice", data := .fields #[vl, vu, vs] } } := I4.kept (t' := s4.toks) fun b ob q => Heap.get?_push_of_some _ q
  show wpAny (model X.prog X.w) X.A (subscriptTail e (.Slice none none (some (.UnaryOp .USub (.Constant (.int 1) k p1) p2)) p3) (.ref a) (.ref s4.heap.objs.size)) (EP X pins σ Q) X.xe { s4 with heap := s4.heap.push { cls := .type "slice", data := .fields #[vl, vu, vs] } }
  rcases q with ⟨hx, q⟩ | ⟨hx, q⟩
  · obtain ⟨its, r, ht, hz⟩ := I5.list hx
    have hlen := r.length
    refine tail_any (ops := [.ref a, .ref s4.heap.objs.size]) ht.isList.typeIs (PySem.slot_list_getitem.lookup) ?_ (by with_unfolding_all rfl)
    refine wpAny_getItem_list_slice ht.isList (Heap.IsSliceOf.new _ vl vu vs) pl pu ps (by decide) ?_ (by rw [List.size_toArray]; omega)
    rw [PySem.W.krv_pick]
    refine ⟨.ref _, _, I5.laid (t' := s4.toks) (o := .lst xs.reverse) (fun b ob q => Heap.get?_push_of_some _ q) (Nat.le_refl _) ?_, rfl, q _ (I5.hok.fresh (Nat.le_refl _))⟩
    exact ⟨by rw [List.length_reverse]; exact hz, _, 0, r.reverse, Heap.get?_push_size _ rfl⟩
  · obtain ⟨its, r, ht, hz⟩ := I5.tuple hx
    have hlen : its.toArray.size = xs.length := by rw [List.size_toArray]; exact r.length.symm
    refine tail_any (ops := [.ref a, .ref s4.heap.objs.size]) ht.typeIs (PyProof.Rows.slot_tuple_getitem.lookup) ?_ (by with_unfolding_all rfl)
    refine HT.getItem_tuple_rev ht (Heap.IsSliceOf.new _ vl vu vs) pl pu ps ?_ (by rw [hlen]; exact hz)
    refine ⟨.ref _, _, I5.laid (t' := s4.toks) (o := .tup xs.reverse) (fun b ob q => Heap.get?_push_of_some _ q) (Nat.le_refl _) ?_, rfl, q _ (I5.hok.fresh (Nat.le_refl _))⟩
    exact ⟨by rw [List.length_reverse]; exact hz, _, r.reverse, IsTup.new _ _⟩
end
end L2
namespace Mi
open PySem PySem.Spec PyProof.Rows L2
section
variable {X : Cx} {G : Gm} {Z : WX} {C : CallI} {Ob : Addr → Prop}
theorem se_rev {a : Expr} {x : Ex} {k : Nat} {p1 p2 p3 pos : Pos} (ha : PE X a (tR X.K G Z (rdE C x))) : PE X (.Subscript a (.Slice none none (some (.UnaryOp .USub (.Constant (.int 1) k p1) p2)) p3) pos) (tE X.K G Z (evalE C (.rev x))) := by
  refine PE.imp (pe_revA ha) fun σ H Q hq => ?_
  obtain ⟨env, s, d, Ob, rfl, hE, hS, hk⟩ := hq
  have ev : evalE C (.rev x) env s = (rdE C x env s).bind fun y s => .of (revV y) s := by
    rw [evalE]
  rw [ev] at hk
  unfold tRevA
  refine tG.step hE hS hk fun u s1 d1 hE1 hS1 _ _ h1 v rv => ?_
  obtain ⟨w, ew, h4⟩ := h1.of
  cases u with
  | tup k =>
    cases ew
    obtain ⟨p, xs, rfl, hq, q⟩ := rv.tup
    exact ⟨p, xs, rfl, .inr ⟨hq, fun p' hp => new_tup hS1 hp q.reverse h4⟩⟩
  | lst k =>
    cases ew
    obtain ⟨p, xs, rfl, hq, q⟩ := rv.list hS1 (s := s1) rfl
    exact ⟨p, xs, rfl, .inl ⟨hq, fun p' hp => new_lstF hS1 hp q.reverse h4⟩⟩
  | _ => cases ew
/-! ### names with new lists, by way of a tuple -/
variable {K : PySem.W.Frag}
theorem RPs.mono {d d' : Wd} (e : Evo K d.Ow d d') (o : ∀ a, d.Ow a → d'.Ow a) : ∀ {B : Addr → Prop} {fs : List Bool} {ws : List W} {vs : List V}, RPs K G d B fs ws vs → RPs K G d' B fs ws vs
  | _, [], [], [], r => r
  | _, false :: fs, w :: ws, v :: vs, r => ⟨r.1.mono e, RPs.mono e o r.2⟩
  | _, true :: fs, w :: ws, v :: vs, r => by
    obtain ⟨p, e2, ow, nb, c, t⟩ := r
    exact ⟨p, e2, o p ow, nb, c.mono e ow, RPs.mono e o t⟩
  | _, [], [], _ :: _, r => r.elim
  | _, [], _ :: _, _, r => r.elim
  | _, _ :: _, [], _, r => by cases ‹Bool› <;> exact r.elim
  | _, _ :: _, _ :: _, [], r => by cases ‹Bool› <;> exact r.elim
theorem RPs.len2 {d : Wd} : ∀ {B : Addr → Prop} {fs : List Bool} {ws : List W} {vs : List V}, RPs K G d B fs ws vs → vs.length = fs.length
  | _, [], [], [], _ => rfl
  | _, false :: fs, w :: ws, v :: vs, r => by rw [List.length_cons, List.length_cons, RPs.len2 r.2]
  | _, true :: fs, w :: ws, v :: vs, r => by
    obtain ⟨_, _, _, _, _, t⟩ := r
    rw [List.length_cons, List.length_cons, RPs.len2 t]
  | _, [], [], _ :: _, r => r.elim
  | _, [], _ :: _, _, r => r.elim
  | _, b :: _, [], _, r => by cases b <;> exact r.elim
  | _, b :: _, _ :: _, [], r => by cases b <;> exact r.elim
theorem gOfs_nm {K : PySem.W.Frag} {Q : L2.St → Hp → Prop} : ∀ (is : List Nat) (vs : List V) (σ : L2.St) (H : Hp), vs.length = is.length → Q (setV is vs σ) H → gOfs K (is.map .nm) vs σ H Q
  | [], [], σ, H, _, h => ⟨rfl, h⟩
  | i :: is, v :: vs, σ, H, hl, h => ⟨v, vs, rfl, gOfs_nm is vs _ H (by simpa using hl) h⟩
  | [], _ :: _, _, _, hl, _ => nomatch hl
  | _ :: _, [], _, _, hl, _ => nomatch hl
theorem ss_parT {tg : Expr} {vs : List Expr} {k2 : Nat} {p2 pos : Pos} {fs : List Bool} {is : List Nat} {xs : List Ex} (ha : PA X vs (tPs X.K G Z fs (evalP C xs))) (hg : PG X tg (gOf X.K (.tup (is.map .nm))))
    (hs : swapsWithSole [tg] (.Tuple vs k2 p2) pos.line X.env = pure false) (hw : swappedStores [tg] (.Tuple vs k2 p2) X.env = pure none) (h1 : List.map (·.2) (assignEach [tg] X.env) = [assign tg X.env]) (hl : fs.length ≤ sizeLine) (hl2 : is.length = fs.length) :
    PS X (.Assign [tg] (.Tuple vs k2 p2) pos) (tS X.K G Z (exec C (.par fs is xs))) := by
  refine PS.imp (ps_asg (pe_tup ha) hg hs hw h1) fun D σ H hq => ?_
  obtain ⟨env, s, d, Ob, rfl, hE, hS, hk⟩ := par_fin hq
  show tPs X.K G Z fs (evalP C xs) σ d.H fun us H1 => us.length ≤ sizeLine ∧ ∀ p, H1 p = none → gOf X.K (.tup (is.map .nm)) (.ref p) σ (upd H1 p (.tup us)) D.nx
  refine ⟨env, s, d, Ob, rfl, hE, hS, ?_⟩
  revert hk
  cases evalP C xs env s with
  | no => exact id
  | ex x s' => exact id
  | ok ws s' =>
    intro hk d' us e o ss r
    have hlen := r.len2
    refine ⟨by omega, fun p hp => ?_⟩
    obtain ⟨e1, s1⟩ := ss.fresh (o := .tup us) hp false
    have q := hk _ us (e.trans (e1.sub o)) o s1 (r.mono e1 fun _ h => h)
    rw [gOf]
    exact ⟨p, us, rfl, .inl (.inl upd_same), by rw [List.length_map]; omega, gOfs_nm is us σ _ (by omega) q⟩
end
end Mi

/-! Lists changed; what is let stand; a list handed on. -/
namespace Mi
open PySem PySem.Spec PyProof.Rows L2
section
variable {K : PySem.W.Frag} {X : Cx} {G : Gm} {Z : WX} {C : CallI} {Ob : Addr → Prop}
/-- what is one's own is written -/
theorem own_writeG {env : Env} {s : Sto} {d : Wd} {σ : L2.St} {i : Nat} {w : W} {p : Addr} {o0 o1 : HO} {w' : W} (hE : SimE K G Ob env d σ) (hS : SimS K G s d) (hi : env[i]? = some (.own w)) (hp : σ[i]? = some (some (.ref p)))
    (hD : d.H p = some o0) (nt : (∀ xs, o0 ≠ .tup xs) ∧ ∀ o xs, o0 ≠ .frz o (.tup xs)) (hrc : ∀ d', Evo K Ob d d' → d'.H p = some o1 → RC K G d' w' p) :
    Evo K Ob d { d with H := upd d.H p o1 } ∧ SimE K G Ob (env.set i (.own w')) { d with H := upd d.H p o1 } σ ∧ SimS K G s { d with H := upd d.H p o1 } := by
  obtain ⟨q, e1, oP, nb, _⟩ := hE.own i w hi
  rw [hp] at e1
  cases e1
  have nF : ¬ d.F p := fun h => hS.good.fo p oP h
  have nA : p ∉ d.al := fun h => (hS.good.af p h).2 oP
  have T : ∀ a xs, SqT K d.H a xs → SqT K (upd d.H p o1) a xs := fun a xs ht => by
    rcases ht with ht | ht
    · refine .inl ?_
      have ne : a ≠ p := fun e => by
        rw [e] at ht
        rcases ht with ht | ⟨u, ht⟩ <;> rw [hD] at ht
        · exact nt.1 xs (Option.some.inj ht)
        · exact nt.2 u xs (Option.some.inj ht)
      rcases ht with ht | ⟨u, ht⟩
      · exact .inl (by rw [upd_ne ne]; exact ht)
      · exact .inr ⟨u, by rw [upd_ne ne]; exact ht⟩
    · exact .inr ht
  have ev0 : Evo K (fun a => d.Ow a ∧ a ≠ p) d { d with H := upd d.H p o1 } := ⟨⟨[], by simp⟩, fun _ h => h, fun a ha => upd_ne fun e => ha.elim (fun h => nF (by rw [← e]; exact h)) (fun h => h.2 e), T⟩
  have ev : Evo K Ob d { d with H := upd d.H p o1 } := ev0.sub fun a ha => ⟨hE.ob a ha, fun e => nb (by rw [← e]; exact ha)⟩
  refine ⟨ev, ⟨by simp [hE.len], fun j u hj => ?_, fun j u hj => ?_, fun j k wj wk q hj hk ej ek => ?_, hE.ob⟩, ⟨⟨hS.good.fo, hS.good.af, hS.good.nd, fun a ha => ?_, fun a ha => ?_⟩, hS.len, fun n l hn => ?_, tabs_upd hS.tb (hS.good.oh p oP)⟩⟩
  · have e : i ≠ j := fun e => by
      subst e
      rw [List.getElem?_set] at hj
      simp only [if_true] at hj
      split at hj <;> cases hj
    rw [List.getElem?_set_ne e] at hj
    obtain ⟨v, e1, rv⟩ := hE.val j u hj
    exact ⟨v, e1, rv.mono ev⟩
  · by_cases e : i = j
    · subst e
      have hl : i < env.length := (List.getElem?_eq_some_iff.mp hi).1
      rw [List.getElem?_set_self hl] at hj
      cases hj
      exact ⟨p, hp, oP, nb, hrc _ ev upd_same⟩
    · rw [List.getElem?_set_ne e] at hj
      obtain ⟨q, e1, o, nq, rc⟩ := hE.own j u hj
      have ne : q ≠ p := fun e2 => e (hE.sep i j w u p hi hj hp (by rw [e1, e2]))
      exact ⟨q, e1, o, nq, rc.mono ev0 ⟨o, ne⟩⟩
  · have f1 : ∃ u, env[j]? = some (.own u) := by
      by_cases e : i = j
      · exact ⟨w, e ▸ hi⟩
      · rw [List.getElem?_set_ne e] at hj
        exact ⟨wj, hj⟩
    have f2 : ∃ u, env[k]? = some (.own u) := by
      by_cases e : i = k
      · exact ⟨w, e ▸ hi⟩
      · rw [List.getElem?_set_ne e] at hk
        exact ⟨wk, hk⟩
    obtain ⟨u1, f1⟩ := f1
    obtain ⟨u2, f2⟩ := f2
    exact hE.sep j k u1 u2 q f1 f2 ej ek
  · exact (hS.good.fh a ha).of (upd_ne (fun e => nF (by rw [← e]; exact ha)))
  · by_cases e : a = p
    · rw [e]
      exact (hrc _ ev upd_same).ne
    · exact (hS.good.oh a ha).of (upd_ne e)
  · obtain ⟨a, xs, e1, e2, e3, e4⟩ := hS.at_ n l hn
    exact ⟨a, xs, e1, by show upd d.H p _ a = _; rw [upd_ne (fun e => nA (by rw [← e]; exact List.mem_of_getElem? e1))]; exact e2, e3.mono ev, e4⟩
/-- one's own list is written -/
theorem own_write {env : Env} {s : Sto} {d : Wd} {σ : L2.St} {i : Nat} {w : W} {p : Addr} {acc : List V} {xs' : List V} {l' : List W} (hE : SimE K G Ob env d σ) (hS : SimS K G s d) (hi : env[i]? = some (.own w)) (hp : σ[i]? = some (some (.ref p)))
    (hD : d.H p = some (.lst acc)) (r : RWs K G d l' xs') :
    Evo K Ob d { d with H := upd d.H p (.lst xs') } ∧ SimE K G Ob (env.set i (.own (.lst l'))) { d with H := upd d.H p (.lst xs') } σ ∧ SimS K G s { d with H := upd d.H p (.lst xs') } :=
  own_writeG hE hS hi hp hD ⟨fun _ z => (by cases z), fun _ _ z => (by cases z)⟩ fun d' e h => ⟨xs', h, r.mono e⟩
theorem RWs.keysI {d : Wd} : ∀ (kvs : List (Int × V)), RWs K G d (kvs.map fun p => W.int p.1) (kvs.map fun p => V.int p.1)
  | [] => .nil
  | _ :: l => .cons .mkI (RWs.keysI l)
theorem repl_int {d : Wd} {n : Int} {y : W} {v : V} (ry : RW K G d y v) : ∀ (kvs : List (Int × V)) (vs : List W), RWs K G d vs (kvs.map (·.2)) → RWs K G d (replK (kvs.map fun p => W.int p.1) vs (.num n) y) ((kvs.map fun kv => if kv.1 = n then (kv.1, v) else kv).map (·.2))
  | [], vs, r => by
    cases vs <;> exact .nil
  | p :: kvs, vs, r => by
    cases vs with
    | nil =>
      unfold RWs at r
      cases r
    | cons w vs =>
      unfold RWs at r
      obtain ⟨x, r', e, h1, h2⟩ := r
      rw [List.map_cons] at e
      injection e with e1 e2
      subst e1 e2
      rw [List.map_cons, replK, List.map_cons, List.map_cons]
      refine .cons ?_ (repl_int ry kvs vs h2)
      by_cases c : p.1 = n
      · rw [if_pos (by rw [keyN, c]), if_pos c]
        exact ry
      · rw [if_neg (by rw [keyN]; intro z; cases z; exact c rfl), if_neg c]
        exact h1
theorem repl_nest {d : Wd} {k : NestedKey} {y : W} {v : V} (ry : RW K G d y v) : ∀ (kvs : NT) (ks vs : List W), ks.map keyN = kvs.map (fun p => some p.1) → RWs K G d vs (kvs.map (·.2.2)) → RWs K G d (replK ks vs k y) ((kvs.map fun x => if x.1 = k then (x.1, x.2.1, v) else x).map (·.2.2))
  | [], ks, vs, hk, r => by
    cases ks with
    | nil => cases vs <;> exact .nil
    | cons x ks => cases hk
  | p :: kvs, [], vs, hk, r => by cases hk
  | p :: kvs, x :: ks, vs, hk, r => by
    cases vs with
    | nil =>
      unfold RWs at r
      cases r
    | cons w vs =>
      unfold RWs at r
      obtain ⟨z, r', e, h1, h2⟩ := r
      rw [List.map_cons] at e
      injection e with e1 e2
      subst e1 e2
      rw [List.map_cons, List.map_cons] at hk
      injection hk with k1 k2
      rw [replK, List.map_cons, List.map_cons]
      refine .cons ?_ (repl_nest ry kvs ks vs k2 h2)
      by_cases c : p.1 = k
      · rw [if_pos (by rw [k1, c]), if_pos c]
        exact ry
      · rw [if_neg (by rw [k1]; intro z; cases z; exact c rfl), if_neg c]
        exact h1
theorem bind_some {α β γ : Type} {q : Option Nat} {l : List α} {r : List β} (h : l.length = r.length) (f : β → γ) : (q.bind (l[·]?)).isSome = (q.bind fun n => (r[n]?).map f).isSome := by
  cases q with
  | none => rfl
  | some n =>
    show (l[n]?).isSome = ((r[n]?).map f).isSome
    rw [Option.isSome_map]
    rcases Nat.lt_or_ge n l.length with z | z
    · rw [List.getElem?_eq_getElem z, List.getElem?_eq_getElem (by omega)]
      rfl
    · rw [List.getElem?_eq_none z, List.getElem?_eq_none (by omega)]
      rfl
/-- what the map at p is behind p[x] = y -/
def Put (K : PySem.W.Frag) (G : Gm) (d : Wd) (p : Addr) (ob : Obj) (pr : List W × List W) : Prop :=
  ∃ kl vl, (∀ H', H' p = some (DO p ob) → (∀ a xs, SqT K d.H a xs → SqT K H' a xs) → MapT K H' p pr.1 kl vl) ∧ RWs K G d pr.1 kl ∧ RWs K G d pr.2 vl
theorem put_I {d : Wd} {p : Addr} {kvs : List (Int × V)} {vs : List W} {n : Int} {y : W} {v : V} {pr : List W × List W} (hd : DctI d.H p kvs) (rv : RWs K G d vs (kvs.map (·.2))) (ry : RW K G d y v)
    (h : pr = if (lookK (kvs.map fun p => W.int p.1) vs (.num n)).isSome then (kvs.map fun p => W.int p.1, replK (kvs.map fun p => W.int p.1) vs (.num n) y) else ((kvs.map fun p => W.int p.1) ++ [W.int n], vs ++ [y])) :
    ∀ ob, TabI ob (putK kvs n v) → Put K G d p ob pr := by
  intro ob tb
  obtain ⟨o, _, _, hs⟩ := hd
  refine ⟨(putK kvs n v).map fun p => V.int p.1, (putK kvs n v).map (·.2), fun H' e T => .inl ⟨putK kvs n v, ⟨ob, e, tb, hs⟩, ?_, rfl, rfl⟩, ?_⟩
  · obtain ⟨q, q1, q2⟩ := lookK_int kvs vs n (by rw [← rv.len, List.length_map])
    have es : (lookK (kvs.map fun p => W.int p.1) vs (.num n)).isSome = (valV kvs n).isSome := by
      rw [q1, q2]
      exact bind_some (l := vs) (r := kvs) (by rw [← rv.len, List.length_map]) _
    rw [h, es]
    unfold putK
    rw [valV_any]
    split
    · rw [List.map_map]
      refine List.map_congr_left fun x _ => ?_
      show W.int x.1 = W.int (if x.1 = n then (x.1, v) else x).1
      split <;> rfl
    · rw [List.map_append]
      rfl
  · obtain ⟨q, q1, q2⟩ := lookK_int kvs vs n (by rw [← rv.len, List.length_map])
    have es : (lookK (kvs.map fun p => W.int p.1) vs (.num n)).isSome = (valV kvs n).isSome := by
      rw [q1, q2]
      exact bind_some (l := vs) (r := kvs) (by rw [← rv.len, List.length_map]) _
    rw [h, es]
    unfold putK
    rw [valV_any]
    split
    · refine ⟨?_, repl_int ry kvs vs rv⟩
      have : (kvs.map fun kv => if kv.1 = n then (kv.1, v) else kv).map (fun p => V.int p.1) = kvs.map fun p => V.int p.1 := by
        rw [List.map_map]
        refine List.map_congr_left fun x _ => ?_
        show V.int (if x.1 = n then (x.1, v) else x).1 = V.int x.1
        split <;> rfl
      rw [this]
      exact .keysI kvs
    · rw [List.map_append, List.map_append]
      exact ⟨(RWs.keysI kvs).append (.one .mkI), rv.append (.one ry)⟩
theorem put_N {d : Wd} {p : Addr} {kvs : NT} {ks vs : List W} {k : NestedKey} {b : Addr} {x y : W} {v : V} {pr : List W × List W} (hd : DctN K d.H p kvs) (hks : ks.map keyN = kvs.map fun p => some p.1) (rk : RWs K G d ks (kvs.map fun p => V.ref p.2.1)) (rv : RWs K G d vs (kvs.map (·.2.2))) (hx : keyN x = some k) (rx : RW K G d x (.ref b)) (ry : RW K G d y v)
    (h : pr = if (lookK ks vs k).isSome then (ks, replK ks vs k y) else (ks ++ [x], vs ++ [y])) :
    ∀ ob, TabN ob (putN kvs k b v) → Put K G d p ob pr := by
  intro ob tb
  obtain ⟨o, _, _, hs, hn⟩ := hd
  have hnv := rx.nv hx
  obtain ⟨q, q1, q2⟩ := lookK_nest kvs ks vs k hks (by rw [← rv.len, List.length_map])
  have es : (lookK ks vs k).isSome = (valN kvs k).isSome := by
    rw [q1, q2]
    exact bind_some (l := vs) (r := kvs) (by rw [← rv.len, List.length_map]) _
  refine ⟨(putN kvs k b v).map fun p => V.ref p.2.1, (putN kvs k b v).map (·.2.2), fun H' e T => .inr ⟨putN kvs k b v, ⟨ob, e, tb, hs, ?_⟩, ?_, rfl, rfl⟩, ?_⟩
  · exact putN_mem (P := fun k a => NV K H' k (.ref a)) (fun z hz => NV.mono T (hn z hz)) (NV.mono T hnv)
  · rw [h, es]
    unfold putN
    split
    · rw [List.map_map]
      show ks.map keyN = _
      rw [hks]
      refine List.map_congr_left fun z _ => ?_
      show some z.1 = some (if z.1 = k then (z.1, z.2.1, v) else z).1
      split <;> rfl
    · rw [List.map_append, List.map_append, hks]
      show _ ++ [keyN x] = _ ++ [some k]
      rw [hx]
  · rw [h, es]
    unfold putN
    split
    · refine ⟨?_, repl_nest ry kvs ks vs hks rv⟩
      have : (kvs.map fun z => if z.1 = k then (z.1, z.2.1, v) else z).map (fun p => V.ref p.2.1) = kvs.map fun p => V.ref p.2.1 := by
        rw [List.map_map]
        refine List.map_congr_left fun z _ => ?_
        show V.ref (if z.1 = k then (z.1, z.2.1, v) else z).2.1 = V.ref z.2.1
        split <;> rfl
      rw [this]
      exact rk
    · rw [List.map_append, List.map_append]
      exact ⟨rk.append (.one rx), rv.append (.one ry)⟩
theorem put_at {d : Wd} {ks vs : List W} {p : Addr} {kl vl : List V} {x y : W} {vx v : V} {pr : List W × List W} (t : MapT K d.H p ks kl vl) (rk : RWs K G d ks kl) (rv : RWs K G d vs vl) (rx : RW K G d x vx) (ry : RW K G d y v) (h : putD ks vs x y = some pr) (hl : ks.length < lim) :
    (∃ kvs n, DctI d.H p kvs ∧ vx = .int n ∧ kvs.length < sizeLine ∧ ∀ ob, TabI ob (putK kvs n v) → Put K G d p ob pr) ∨
    ∃ kvs k b, DctN K d.H p kvs ∧ NV K d.H k vx ∧ vx = .ref b ∧ plainN k = true ∧ k.depth ≤ 8 ∧ kvs.length < sizeLine ∧ ∀ ob, TabN ob (putN kvs k b v) → Put K G d p ob pr := by
  have hll : lim < sizeLine := by decide
  have hz : 0 < sizeLine := by decide
  unfold putD at h
  cases hk : keyD x with
  | none => rw [hk] at h; cases h
  | some k =>
    rw [hk, Option.bind_some] at h
    split at h
    rotate_left
    · cases h
    rename_i hkind
    have h := (Option.some.inj h).symm
    rcases key_v hk rx with ⟨i, rfl, rfl, rfl⟩ | ⟨l, b, rfl, rfl, nv, dk, pk⟩
    · rcases t with ⟨kvs, hd, rfl, rfl, rfl⟩ | ⟨kvs, hd, hks, rfl, rfl⟩
      · rw [List.length_map] at hl
        exact .inl ⟨kvs, i, hd, rfl, by omega, put_I hd rv ry h⟩
      · obtain ⟨rfl, rfl⟩ := ints_nest hkind rk
        obtain ⟨ob, h1, h2, h3, _⟩ := hd
        have hd' : DctI d.H p [] := ⟨ob, h1, h2.toI, h3⟩
        exact .inl ⟨[], i, hd', rfl, hz, put_I hd' rv ry h⟩
    · have hkn : keyN (.tup l) = some k := by
        unfold keyD at hk
        cases e : keyN (.tup l) with
        | none => simp only [e] at hk; cases hk
        | some k' =>
          simp only [e, Option.bind_some] at hk
          split at hk
          · cases hk; rfl
          · cases hk
      rcases t with ⟨kvs, hd, rfl, rfl, rfl⟩ | ⟨kvs, hd, hks, rfl, rfl⟩
      · have : kvs = [] := tups_int hkind
        subst this
        obtain ⟨ob, h1, h2, h3⟩ := hd
        have hd' : DctN K d.H p [] := ⟨ob, h1, h2.toN, h3, fun _ h => nomatch h⟩
        exact .inr ⟨[], k, b, hd', nv, rfl, pk, dk, hz, put_N hd' rfl rk rv hkn rx ry h⟩
      · have e := rk.len
        rw [List.length_map] at e
        exact .inr ⟨kvs, k, b, hd, nv, rfl, pk, dk, by omega, put_N hd hks rk rv hkn rx ry h⟩
theorem pset_or {r r' : TSet} (h : PSet X r) (h' : PSet X r') : PSet X (fun o i v H Q => r o i v H Q ∨ r' o i v H Q) := by
  intro pins s σ H o i v ov iv u Q I ro ri rv q
  rcases q with q | q
  · exact h pins s σ H o i v ov iv u Q I ro ri rv q
  · exact h' pins s σ H o i v ov iv u Q I ro ri rv q
/-- a list of the store is written -/
theorem sto_write {env : Env} {s : Sto} {d : Wd} {σ : L2.St} {n : Nat} {a : Addr} {acc : List V} {xs' : List V} {l' : List W} (hE : SimE K G Ob env d σ) (hS : SimS K G s d) (ha : d.al[n]? = some a) (hD : d.H a = some (.lst acc)) (r : RWs K G d l' xs') (hf : flats l' = true) :
    Evo K d.Ow d { d with H := upd d.H a (.lst xs') } ∧ SimE K G Ob env { d with H := upd d.H a (.lst xs') } σ ∧ SimS K G (s.set n l') { d with H := upd d.H a (.lst xs') } := by
  have hm : a ∈ d.al := List.mem_of_getElem? ha
  have nF := (hS.good.af a hm).1
  have nO := (hS.good.af a hm).2
  have T : ∀ b xs, SqT K d.H b xs → SqT K (upd d.H a (.lst xs')) b xs := fun b xs ht => by
    rcases ht with ht | ht
    · refine .inl ?_
      have ne : b ≠ a := fun e => by
        rw [e] at ht
        rcases ht with ht | ⟨u, ht⟩ <;> rw [hD] at ht <;> cases ht
      rcases ht with ht | ⟨u, ht⟩
      · exact .inl (by rw [upd_ne ne]; exact ht)
      · exact .inr ⟨u, by rw [upd_ne ne]; exact ht⟩
    · exact .inr ht
  have ev : Evo K d.Ow d { d with H := upd d.H a (.lst xs') } := ⟨⟨[], by simp⟩, fun _ h => h, fun b hb => upd_ne fun e => hb.elim (fun h => nF (by rw [← e]; exact h)) (fun h => nO (by rw [← e]; exact h)), T⟩
  refine ⟨ev, hE.mono ev rfl, ⟨⟨hS.good.fo, hS.good.af, hS.good.nd, fun b hb => ?_, fun b hb => ?_⟩, by rw [List.length_set]; exact hS.len, fun k l hk => ?_, tabs_upd hS.tb (.lst hD)⟩⟩
  · exact (hS.good.fh b hb).of (upd_ne (fun e => nF (by rw [← e]; exact hb)))
  · exact (hS.good.oh b hb).of (upd_ne (fun e => nO (by rw [← e]; exact hb)))
  · by_cases e : n = k
    · subst e
      have hl : n < s.length := by rw [hS.len]; exact (List.getElem?_eq_some_iff.mp ha).1
      rw [List.getElem?_set_self hl] at hk
      cases hk
      exact ⟨a, xs', ha, upd_same, r.mono ev, hf⟩
    · rw [List.getElem?_set_ne e] at hk
      obtain ⟨b, xs, e1, e2, e3, e4⟩ := hS.at_ k l hk
      have ne : b ≠ a := fun eb => by
        subst eb
        obtain ⟨h1, g1⟩ := List.getElem?_eq_some_iff.mp ha
        obtain ⟨h2, g2⟩ := List.getElem?_eq_some_iff.mp e1
        exact e ((List.getElem_inj hS.good.nd).mp (g1.trans g2.symm))
      exact ⟨b, xs, e1, by show upd d.H a _ b = _; rw [upd_ne ne]; exact e2, e3.mono ev, e4⟩
theorem flats_append : ∀ (l : List W) (w : W), flats l = true → flat w = true → flats (l ++ [w]) = true
  | [], w, _, h => by simp [flats, h]
  | u :: l, w, h1, h2 => by
    unfold flats at h1
    rw [Bool.and_eq_true] at h1
    show flats (u :: (l ++ [w])) = true
    unfold flats
    rw [h1.1, flats_append l w h1.2 h2]
    rfl
theorem flats_set : ∀ (l : List W) (n : Nat) (w : W), flats l = true → flat w = true → flats (l.set n w) = true
  | [], n, w, _, h => by simp [flats]
  | u :: l, 0, w, h1, h2 => by
    unfold flats at h1
    rw [Bool.and_eq_true] at h1
    show flats (w :: l) = true
    unfold flats
    rw [h2, h1.2]
    rfl
  | u :: l, n + 1, w, h1, h2 => by
    unfold flats at h1
    rw [Bool.and_eq_true] at h1
    show flats (u :: l.set n w) = true
    unfold flats
    rw [h1.1, flats_set l n w h1.2 h2]
    rfl
theorem ss_app {x : Str} {px apos cpos pos : Pos} {e : Expr} {i : Nat} {y : Ex} (hN : X.N[i]? = some x) (hv : Vis X.env.scope x) (hd : (x == ("__debug__" : Str)) = false) (hcd : (x == ("__classdict__" : Str)) = false) (he : PE X e (tE X.K G Z (evalE C y)))
    (hline : (apos.endLine == cpos.line) = true) (hs : starEach [e] X.env = (false, eval e X.env) :: starEach [] X.env) :
    PS X (.Expr (.Call (.Attribute (.Name x px) "append" apos) [e] [] cpos) pos) (tS X.K G Z (exec C (.app i y))) := by
  refine PS.imp (ps_expr (pe_bm PySem.F.plainAttrs_list PySem.F.slot_list_append PySem.F.type_list_append mt_append (pe_var (i := i) hN hv hd hcd) (pa_cons he pa_nil hs) rfl (by rw [hs]; rfl) hline hs rfl)) fun D σ H hq => ?_
  obtain ⟨env, s, d, Ob, rfl, hE, hS, hk⟩ := hq
  rw [exec] at hk
  show ∃ v, σ[i]? = some (some v) ∧ tyV X.K "list" v d.H ∧ tE X.K G Z (evalE C y) σ d.H fun z H1 => ∃ l xs y', v = .ref l ∧ [z] = [y'] ∧ H1 l = some (.lst xs) ∧ xs.length < sizeLine ∧ D.nx σ (upd H1 l (.lst (xs ++ [y'])))
  split at hk
  · rename_i l ei
    obtain ⟨p, ep, oP, nb, acc, hD, r⟩ := hE.own i _ ei
    refine ⟨.ref p, ep, .inl ⟨rfl, acc, .of hD⟩, ?_⟩
    refine tS.step hE hS hk fun w s1 d1 hE1 hS1 h1 v rv => ?_
    split at h1
    · rename_i hl
      obtain ⟨p1, ep1, oP1, nb1, acc1, hD1, r1⟩ := hE1.own i _ ei
      rw [ep] at ep1
      cases ep1
      refine ⟨p, acc1, v, rfl, rfl, hD1, ?_, ?_⟩
      · rw [r1.len]
        exact Nat.lt_trans hl (by decide)
      · obtain ⟨e2, hE2, hS2⟩ := own_write hE1 hS1 ei ep hD1 (r1.append (.one rv))
        exact h1 _ σ e2 hE2 hS2
    · exact h1.elim
  · rename_i n ei
    obtain ⟨v0, ev0, rv0⟩ := hE.val i _ ei
    have rv0' := rv0
    unfold RW at rv0
    obtain ⟨a, rfl, ha⟩ := rv0
    have hn : n < s.length := by rw [hS.len]; exact (List.getElem?_eq_some_iff.mp ha).1
    obtain ⟨a', acc, ea, hD, r, _⟩ := hS.at_ n _ (List.getElem?_eq_getElem hn)
    rw [ha] at ea
    cases ea
    refine ⟨.ref a, ev0, .inl ⟨rfl, acc, .of hD⟩, ?_⟩
    refine tS.step hE hS hk fun w s1 d1 hE1 hS1 h1 v rv => ?_
    obtain ⟨v1, ev1, rv1⟩ := hE1.val i _ ei
    rw [ev0] at ev1
    cases ev1
    unfold RW at rv1
    obtain ⟨a1, ea1, ha1⟩ := rv1
    cases ea1
    split at h1
    · rename_i l el
      split at h1
      · rename_i hl
        obtain ⟨a2, acc1, ea2, hD1, r1, f1⟩ := hS1.at_ n _ el
        rw [ha1] at ea2
        cases ea2
        refine ⟨a, acc1, v, rfl, rfl, hD1, ?_, ?_⟩
        · rw [r1.len]
          exact Nat.lt_trans hl.1 (by decide)
        · obtain ⟨e2, hE2, hS2⟩ := sto_write hE1 hS1 ha1 hD1 (r1.append (.one rv)) (flats_append l w f1 hl.2)
          exact h1 _ σ (e2.sub hE1.ob) hE2 hS2
      · exact h1.elim
    · exact h1.elim
  · exact hk.elim
theorem ixN_of {n : Nat} {i : Int} {j : Nat} (h : ixN n i = some j) : j < n := by
  unfold ixN at h
  split at h
  · split at h
    · cases h
      omega
    · cases h
  · split at h
    · cases h
      omega
    · cases h
theorem ss_sts {x : Str} {px tpos pos : Pos} {k e : Expr} {i : Nat} {z y : Ex} (hu : X.A.units + 65 < cLine) (hN : X.N[i]? = some x) (hv : Vis X.env.scope x) (hd : (x == ("__debug__" : Str)) = false) (hcd : (x == ("__classdict__" : Str)) = false) (he : PE X e (tE X.K G Z (evalE C y))) (hk' : PE X k (tE X.K G Z (evalE C z)))
    (hass : ∀ v, assign (.Subscript (.Name x px) k tpos) X.env v = (do
      let ov ← holding [v] (eval (.Name x px) X.env)
      let iv ← holding [v, ov] (eval k X.env)
      standAt tpos
      holding [v, ov, iv] (setItem ov iv v)
      release [v, ov, iv] []))
    (hs : swapsWithSole [.Subscript (.Name x px) k tpos] e pos.line X.env = pure false) (hw : swappedStores [.Subscript (.Name x px) k tpos] e X.env = pure none) :
    PS X (.Assign [.Subscript (.Name x px) k tpos] e pos) (tS X.K G Z (exec C (.sts i z y))) := by
  refine PS.imp (ps_asg he (pg_sub (pe_var (i := i) hN hv hd hcd) hk' (pset_or set_list (set_K hu)) hass) hs hw rfl) fun D σ H hq => ?_
  obtain ⟨env, s, d, Ob, rfl, hE, hS, hk⟩ := hq
  rw [exec] at hk
  show tE X.K G Z (evalE C y) σ d.H fun v H1 => ∃ o, σ[i]? = some (some o) ∧ tE X.K G Z (evalE C z) σ H1 fun iv H2 => rSetL o iv v H2 (D.nx σ) ∨ rSetK X.K o iv v H2 (D.nx σ)
  refine tS.step hE hS hk fun w s1 d1 hE1 hS1 h1 v rv => ?_
  split at h1
  · rename_i ks vs ei
    obtain ⟨p, ep, oP, nb, rc⟩ := hE1.own i _ ei
    refine ⟨.ref p, ep, tG.go hE1 hS1 (Oks.imp (OksF.bind h1 hE1.ob σ) fun u s2 d2 e2 eo2 hS2 h2 v2 rv2 => ?_)⟩
    have hE2 := hE1.mono e2 eo2
    obtain ⟨pr, epr, h3⟩ := h2.of_bind
    split at h3
    · rename_i hlm
      obtain ⟨p1, ep1, oP1, nb1, kl, vl, t, rk, rvv⟩ := hE2.own i _ ei
      rw [ep] at ep1
      cases ep1
      have fin : ∀ (ob o1 : Obj), d2.H p = some (DO p o1) → Put X.K G d2 p ob pr → D.nx σ (upd d2.H p (DO p ob)) := fun ob o1 ho ⟨kl', vl', m1, m2, m3⟩ => by
        obtain ⟨e3, hE3, hS3⟩ := own_writeG (o1 := DO p ob) (w' := .map pr.1 pr.2) hE2 hS2 ei ep ho ⟨fun _ z => (by unfold DO at z; cases z), fun _ _ z => (by unfold DO at z; cases z)⟩ fun d' e h => ⟨kl', vl', m1 d'.H h e.T, m2.mono e, m3.mono e⟩
        exact h3 _ σ e3 hE3 hS3
      refine .inr ⟨p, rfl, ?_⟩
      rcases put_at t rk rvv rv2 (rv.mono e2) epr hlm with ⟨kvs, n, hd, rfl, hz, q⟩ | ⟨kvs, k, b, hd, nv, rfl, pk, dk, hz, q⟩
      · obtain ⟨o1, ho, hd2⟩ := hd
        exact .inl ⟨kvs, n, ⟨o1, ho, hd2⟩, rfl, hz, fun ob tb => fin ob o1 ho (q ob tb)⟩
      · obtain ⟨o1, ho, hd2⟩ := hd
        exact .inr ⟨kvs, k, b, ⟨o1, ho, hd2⟩, nv, rfl, pk, dk, hz, fun ob tb => fin ob o1 ho (q ob tb)⟩
    · exact h3.elim
  · rename_i l ei
    obtain ⟨p, ep, oP, nb, acc, hD, r⟩ := hE1.own i _ ei
    refine ⟨.ref p, ep, tG.go hE1 hS1 (Oks.imp (OksF.bind h1 hE1.ob σ) fun u s2 d2 e2 eo2 hS2 h2 v2 rv2 => ?_)⟩
    have hE2 := hE1.mono e2 eo2
    cases u with
    | int n =>
      obtain ⟨j, ej, h3⟩ := h2.of_bind
      obtain ⟨p1, ep1, oP1, nb1, acc1, hD1, r1⟩ := hE2.own i _ ei
      rw [ep] at ep1
      cases ep1
      refine .inl ⟨p, acc1, n, j, rfl, rv2.int, hD1, by rw [r1.len]; exact ej, ?_⟩
      obtain ⟨e3, hE3, hS3⟩ := own_write hE2 hS2 ei ep hD1 (RWs.set (rv.mono e2) j r1)
      exact h3 _ σ e3 hE3 hS3
    | _ => exact h2.elim
  · rename_i n0 ei
    obtain ⟨v0, ev0, rv0⟩ := hE1.val i _ ei
    unfold RW at rv0
    obtain ⟨a, rfl, ha⟩ := rv0
    refine ⟨.ref a, ev0, tG.go hE1 hS1 (Oks.imp (OksF.bind h1 hE1.ob σ) fun u s2 d2 e2 eo2 hS2 h2 v2 rv2 => ?_)⟩
    have hE2 := hE1.mono e2 eo2
    have ha1 := e2.get ha
    split at h2
    · rename_i n l el
      split at h2
      · rename_i hf
        obtain ⟨j, ej, h3⟩ := h2.of_bind
        obtain ⟨a2, acc1, ea2, hD1, r1, f1⟩ := hS2.at_ n0 _ el
        rw [ha1] at ea2
        cases ea2
        refine .inl ⟨a, acc1, n, j, rfl, rv2.int, hD1, by rw [r1.len]; exact ej, ?_⟩
        obtain ⟨e3, hE3, hS3⟩ := sto_write hE2 hS2 ha1 hD1 (RWs.set (rv.mono e2) j r1) (flats_set l j w f1 hf)
        exact h3 _ σ (e3.sub hE2.ob) hE3 hS3
      · exact h2.elim
    · exact h2.elim
  · exact h1.elim
/-- a list of one's own is let stand -/
theorem frz1 {env : Env} {s : Sto} {d : Wd} {σ : L2.St} {i : Nat} (hE : SimE K G Ob env d σ) (hS : SimS K G s d) :
    ∃ d', d'.H = d.H ∧ Evo K Ob d d' ∧ SimE K G Ob (match env[i]? with | some (.own w) => env.set i (.val w) | _ => env) d' σ ∧ SimS K G s d' := by
  split
  · rename_i w ei
    obtain ⟨p, ep, oP, nb, rc⟩ := hE.own i w ei
    cases w with
    | lst l =>
      obtain ⟨xs, hD, r⟩ := rc
      have ev : Evo K Ob d { d with F := fun a => d.F a ∨ a = p, Ow := fun a => d.Ow a ∧ a ≠ p } := ⟨⟨[], by simp⟩, fun a ha => .inl ha, fun _ _ => rfl, fun _ _ h => h⟩
      refine ⟨{ d with F := fun a => d.F a ∨ a = p, Ow := fun a => d.Ow a ∧ a ≠ p }, rfl, ev, ⟨by simp [hE.len], fun j u hj => ?_, fun j u hj => ?_, fun j k wj wk q hj hk ej ek => ?_, fun q hq => ⟨hE.ob q hq, fun e => nb (by rw [← e]; exact hq)⟩⟩,
        ⟨⟨fun a ha hf => ?_, fun a ha => ⟨fun hf => ?_, fun ho => (hS.good.af a ha).2 ho.1⟩, hS.good.nd, fun a ha => ?_, fun a ha => hS.good.oh a ha.1⟩, hS.len, fun n l hn => ?_, hS.tb⟩⟩
      · by_cases e : i = j
        · subst e
          have hl : i < env.length := (List.getElem?_eq_some_iff.mp ei).1
          rw [List.getElem?_set_self hl] at hj
          cases hj
          refine ⟨.ref p, ep, ?_⟩
          unfold RW
          exact ⟨p, xs, rfl, .inr rfl, hD, r.mono ev⟩
        · rw [List.getElem?_set_ne e] at hj
          obtain ⟨v, e1, rv⟩ := hE.val j u hj
          exact ⟨v, e1, rv.mono ev⟩
      · by_cases e : i = j
        · subst e
          rw [List.getElem?_set] at hj
          simp only [if_true] at hj
          split at hj <;> cases hj
        · rw [List.getElem?_set_ne e] at hj
          obtain ⟨q, e1, o, nq, rq⟩ := hE.own j u hj
          refine ⟨q, e1, ⟨o, fun e2 => e (hE.sep i j _ u p ei hj ep (by rw [e1, e2]))⟩, nq, ?_⟩
          cases u with
          | lst l2 =>
            obtain ⟨ys, h1, h2⟩ := rq
            exact ⟨ys, h1, h2.mono ev⟩
          | map k2 v2 =>
            obtain ⟨ka, va, h1, h2, h3⟩ := rq
            exact ⟨ka, va, h1, h2.mono ev, h3.mono ev⟩
          | _ => exact rq.elim
      · by_cases e : i = j
        · subst e
          rw [List.getElem?_set] at hj
          simp only [if_true] at hj
          split at hj <;> cases hj
        · by_cases e2 : i = k
          · subst e2
            rw [List.getElem?_set] at hk
            simp only [if_true] at hk
            split at hk <;> cases hk
          · rw [List.getElem?_set_ne e] at hj
            rw [List.getElem?_set_ne e2] at hk
            exact hE.sep j k wj wk q hj hk ej ek
      · rcases hf with hf | rfl
        · exact hS.good.fo a ha.1 hf
        · exact ha.2 rfl
      · rcases hf with hf | rfl
        · exact (hS.good.af a ha).1 hf
        · exact (hS.good.af a ha).2 oP
      · rcases ha with ha | rfl
        · exact hS.good.fh a ha
        · exact hS.good.oh a oP
      · obtain ⟨a, ys, e1, e2, e3, e4⟩ := hS.at_ n l hn
        exact ⟨a, ys, e1, e2, e3.mono ev, e4⟩
    | map ks vs =>
      obtain ⟨kl, vl, m, r1, r2⟩ := rc
      have ev : Evo K Ob d { d with F := fun a => d.F a ∨ a = p, Ow := fun a => d.Ow a ∧ a ≠ p } := ⟨⟨[], by simp⟩, fun a ha => .inl ha, fun _ _ => rfl, fun _ _ h => h⟩
      refine ⟨{ d with F := fun a => d.F a ∨ a = p, Ow := fun a => d.Ow a ∧ a ≠ p }, rfl, ev, ⟨by simp [hE.len], fun j u hj => ?_, fun j u hj => ?_, fun j k wj wk q hj hk ej ek => ?_, fun q hq => ⟨hE.ob q hq, fun e => nb (by rw [← e]; exact hq)⟩⟩,
        ⟨⟨fun a ha hf => ?_, fun a ha => ⟨fun hf => ?_, fun ho => (hS.good.af a ha).2 ho.1⟩, hS.good.nd, fun a ha => ?_, fun a ha => hS.good.oh a ha.1⟩, hS.len, fun n l hn => ?_, hS.tb⟩⟩
      · by_cases e : i = j
        · subst e
          have hl : i < env.length := (List.getElem?_eq_some_iff.mp ei).1
          rw [List.getElem?_set_self hl] at hj
          cases hj
          refine ⟨.ref p, ep, ?_⟩
          unfold RW
          exact ⟨p, kl, vl, rfl, .inr rfl, m, r1.mono ev, r2.mono ev⟩
        · rw [List.getElem?_set_ne e] at hj
          obtain ⟨v, e1, rv⟩ := hE.val j u hj
          exact ⟨v, e1, rv.mono ev⟩
      · by_cases e : i = j
        · subst e
          rw [List.getElem?_set] at hj
          simp only [if_true] at hj
          split at hj <;> cases hj
        · rw [List.getElem?_set_ne e] at hj
          obtain ⟨q, e1, o, nq, rq⟩ := hE.own j u hj
          refine ⟨q, e1, ⟨o, fun e2 => e (hE.sep i j _ u p ei hj ep (by rw [e1, e2]))⟩, nq, ?_⟩
          cases u with
          | lst l2 =>
            obtain ⟨ys, h1, h2⟩ := rq
            exact ⟨ys, h1, h2.mono ev⟩
          | map k2 v2 =>
            obtain ⟨ka, va, h1, h2, h3⟩ := rq
            exact ⟨ka, va, h1, h2.mono ev, h3.mono ev⟩
          | _ => exact rq.elim
      · by_cases e : i = j
        · subst e
          rw [List.getElem?_set] at hj
          simp only [if_true] at hj
          split at hj <;> cases hj
        · by_cases e2 : i = k
          · subst e2
            rw [List.getElem?_set] at hk
            simp only [if_true] at hk
            split at hk <;> cases hk
          · rw [List.getElem?_set_ne e] at hj
            rw [List.getElem?_set_ne e2] at hk
            exact hE.sep j k wj wk q hj hk ej ek
      · rcases hf with hf | rfl
        · exact hS.good.fo a ha.1 hf
        · exact ha.2 rfl
      · rcases hf with hf | rfl
        · exact (hS.good.af a ha).1 hf
        · exact (hS.good.af a ha).2 oP
      · rcases ha with ha | rfl
        · exact hS.good.fh a ha
        · exact hS.good.oh a oP
      · obtain ⟨a, ys, e1, e2, e3, e4⟩ := hS.at_ n l hn
        exact ⟨a, ys, e1, e2, e3.mono ev, e4⟩
    | _ => exact rc.elim
  · exact ⟨d, rfl, .refl d, hE, hS⟩
theorem frz_ok : ∀ (is : List Nat) {env : Env} {s : Sto} {d : Wd} {σ : L2.St}, SimE K G Ob env d σ → SimS K G s d → ∃ d', d'.H = d.H ∧ Evo K Ob d d' ∧ SimE K G Ob (frz is env) d' σ ∧ SimS K G s d'
  | [], env, s, d, σ, hE, hS => ⟨d, rfl, .refl d, hE, hS⟩
  | i :: is, env, s, d, σ, hE, hS => by
    obtain ⟨d1, h1, e1, hE1, hS1⟩ := frz1 (i := i) hE hS
    obtain ⟨d2, h2, e2, hE2, hS2⟩ := frz_ok is hE1 hS1
    exact ⟨d2, h2.trans h1, e1.trans e2, hE2, hS2⟩
theorem ss_frz {sts : List Stmt} {is : List Nat} {xs : List Sm} (h : PSs X sts (tS X.K G Z (execs C xs))) : PSs X sts (tS X.K G Z (execs C (.frz is :: xs))) := PSs.imp h fun D σ H hq => by
  obtain ⟨env, s, d, Ob, rfl, hE, hS, hk⟩ := hq
  rw [execs, exec, Out.bind_ok] at hk
  obtain ⟨d', hH, e, hE', hS'⟩ := frz_ok is hE hS
  rw [← hH]
  exact tS.go hE' hS' (OksF.weak hk e)
theorem ss_retK {es : List Expr} {xs : List Ex} {lp pos : Pos} (h : PA X es (tL X.K G Z (evalL C xs))) (hl : xs.length ≤ 400000) : PS X (.Return (some (.List es lp)) pos) (tS X.K G Z (exec C (.retK xs))) := by
  refine PS.imp (ps_ret (pe_lst h)) fun D σ H hq => ?_
  obtain ⟨env, s, d, Ob, rfl, hE, hS, hk⟩ := hq
  rw [exec] at hk
  show tL X.K G Z (evalL C xs) σ d.H fun vs H1 => vs.length ≤ sizeLine ∧ ∀ p, H1 p = none → D.rt (.ref p) (upd H1 p (.lst vs))
  refine tG.go hE hS ?_
  have hb := OksF.bind hk hE.ob σ
  revert hb
  cases hm : evalL C xs env s with
  | no => exact id
  | ex x s' => exact id
  | ok l s1 =>
    intro hb d1 e eo hS1 vs rv
    have h1 := hb d1 e eo hS1
    dsimp only at h1
    refine ⟨?_, fun p hp => ?_⟩
    · rw [rv.len]
      have := evalL_len xs env s l s1 hm
      exact lim_line (by omega)
    · split at h1
      · rename_i hf
        obtain ⟨e1, s2⟩ := hS1.fresh (o := .lst vs) hp false
        have nF : ¬ d1.F p := fun hf => (hS1.good.fh p hf).ne hp
        have nO : ¬ d1.Ow p := fun ho => (hS1.good.oh p ho).ne hp
        have nA : p ∉ d1.al := fun ha => by
          obtain ⟨n, hn⟩ := List.getElem?_of_mem ha
          have hl : n < s1.length := by rw [hS1.len]; exact (List.getElem?_eq_some_iff.mp hn).1
          obtain ⟨b, xs, e1, e2, _⟩ := hS1.at_ n _ (List.getElem?_eq_getElem hl)
          rw [hn] at e1
          cases e1
          rw [hp] at e2
          cases e2
        have e3 : Evo X.K d1.Ow d1 { d1 with H := upd d1.H p (.lst vs), al := d1.al ++ [p] } :=
          ⟨⟨[p], rfl⟩, fun _ h => h, fun a ha => upd_ne fun e => ha.elim (fun h => nF (by rw [← e]; exact h)) (fun h => nO (by rw [← e]; exact h)), e1.T⟩
        refine h1 { d1 with H := upd d1.H p (.lst vs), al := d1.al ++ [p] } (.ref p) (e3.sub fun a ha => by rw [eo]; exact hE.ob a ha) (fun a ha => by show d1.Ow a; rw [eo]; exact hE.ob a ha) ⟨⟨hS1.good.fo, fun a ha => ?_, ?_, fun a ha => ?_, fun a ha => ?_⟩, by simp [hS1.len], fun n l' hn => ?_, tabs_none hS1.tb hp⟩ ?_
        · rcases List.mem_append.mp ha with ha | ha
          · exact hS1.good.af a ha
          · cases List.mem_singleton.mp ha
            exact ⟨nF, nO⟩
        · exact List.nodup_append.mpr ⟨hS1.good.nd, by simp, fun a ha b hb e => by
            cases List.mem_singleton.mp hb
            exact nA (by rw [← e]; exact ha)⟩
        · exact (hS1.good.fh a ha).of (upd_ne (fun e => nF (by rw [← e]; exact ha)))
        · exact (hS1.good.oh a ha).of (upd_ne (fun e => nO (by rw [← e]; exact ha)))
        · by_cases hlt : n < s1.length
          · rw [List.getElem?_append_left hlt] at hn
            obtain ⟨a, ys, q1, q2, q3, q4⟩ := hS1.at_ n l' hn
            refine ⟨a, ys, ?_, ?_, q3.mono e3, q4⟩
            · show (d1.al ++ [p])[n]? = _
              rw [List.getElem?_append_left (by rw [← hS1.len]; exact hlt)]
              exact q1
            · show upd d1.H p _ a = _
              rw [upd_ne (fun e => nA (by rw [← e]; exact List.mem_of_getElem? q1))]
              exact q2
          · have : n = s1.length := by
              have := (List.getElem?_eq_some_iff.mp hn).1
              simp at this
              omega
            subst this
            simp at hn
            subst hn
            refine ⟨p, vs, ?_, upd_same, rv.mono e3, hf⟩
            show (d1.al ++ [p])[s1.length]? = _
            rw [hS1.len]
            simp
        · unfold RW
          refine ⟨p, rfl, ?_⟩
          show (d1.al ++ [p])[s1.length]? = _
          rw [hS1.len]
          simp
      · exact h1.elim
end
end Mi

/-! New dicts; d.get(k); xs.extend(ys). -/
namespace Mi
open PySem PySem.Spec PyProof.Rows L2
section
variable {K : PySem.W.Frag} {X : Cx} {G : Gm} {Z : WX} {C : CallI} {Ob : Addr → Prop}
/-- a new object, at hand -/
theorem new_any {s : Sto} {d : Wd} {p : Addr} {w : W} {o : HO} {Y : Value → Option Addr → Wd → Prop} {Q : V → Hp → Prop} (hS : SimS K G s d) (hp : d.H p = none) (rc : ∀ d', Evo K d.Ow d d' → d'.H p = some o → RC K G d' w p)
    (h : Oks K G d.Ow d (fun w _ d' => ∀ v, RN K G d' w v → Q v d'.H) Y (.ok w s)) (ho : ∀ H : Hp, H p = some o → Here H p := by first | exact fun _ e => .lst e | exact fun _ e => .do e) : Q (.ref p) (upd d.H p o) := by
  obtain ⟨e1, s1⟩ := hS.fresh (o := o) hp false ho
  refine h _ e1 rfl s1 (.ref p) ⟨p, rfl, ?_, ?_, ?_, rc _ e1 upd_same⟩
  · rintro (hf | ⟨hf, _⟩)
    · exact (hS.good.fh p hf).ne hp
    · cases hf
  · exact fun ho => (hS.good.oh p ho).ne hp
  · intro ha
    obtain ⟨n, hn⟩ := List.getElem?_of_mem ha
    have hl : n < s.length := by rw [hS.len]; exact (List.getElem?_eq_some_iff.mp hn).1
    obtain ⟨b, xs, e1, e2, _⟩ := hS.at_ n _ (List.getElem?_eq_getElem hl)
    rw [hn] at e1
    cases e1
    rw [hp] at e2
    cases e2
theorem sn_mp0 {pos : Pos} : PE X (.Dict [] [] pos) (tN X.K G Z (evalE C .mp0)) := by
  refine PE.imp pe_newK fun σ H Q hq => ?_
  obtain ⟨env, s, d, Ob, rfl, hE, hS, hk⟩ := hq
  rw [evalE] at hk
  exact fun p o hp hs tb => new_any (w := .map [] []) hS hp (fun d' e h => ⟨[], [], .inl ⟨[], ⟨o, h, tb, hs⟩, rfl, rfl, rfl⟩, .nil, .nil⟩) hk
theorem keyD_tup {l : List W} {k : NestedKey} (hk : keyD (.tup l) = some k) : keyN (.tup l) = some k := by
  unfold keyD at hk
  cases e : keyN (.tup l) with
  | none => simp only [e] at hk; cases hk
  | some k' =>
    simp only [e, Option.bind_some] at hk
    split at hk
    · cases hk; rfl
    · cases hk
theorem sn_mp1 {ke ve : Expr} {x y : Ex} {pos : Pos} (hu : X.A.units + 65 < cLine) (hk : PE X ke (tX0 x)) (hv : PE X ve (tX0 y)) (hx : isX0 x = true) (hy : isX0 y = true) : PE X (.Dict [some ke] [ve] pos) (tN X.K G Z (evalE C (.mp1 x y))) := by
  refine PE.imp (pe_mp1K hu hk hv) fun σ H Q hq => ?_
  obtain ⟨env, s, d, Ob, rfl, hE, hS, hk⟩ := hq
  rw [evalE] at hk
  intro p o hp hs tb
  cases e1 : evalE C x env s with
  | no => rw [e1] at hk; exact hk.elim
  | ex z s1 => exact absurd e1 (x0_ex (K := X.K) hx)
  | ok a s1 =>
    rw [e1, Out.bind_ok] at hk
    obtain ⟨rfl, v1, r1, t1⟩ := x0_read hE hx e1
    cases e2 : evalE C y env s1 with
    | no => rw [e2] at hk; exact hk.elim
    | ex z s1 => exact absurd e2 (x0_ex (K := X.K) hy)
    | ok b s2 =>
      rw [e2, Out.bind_ok] at hk
      obtain ⟨rfl, v2, r2, t2⟩ := x0_read hE hy e2
      obtain ⟨k, ek, hk⟩ := hk.of_bind
      split at hk
      rotate_left
      · exact hk.elim
      rename_i ht
      rcases key_v ek r1 with ⟨i, rfl, _, _⟩ | ⟨l, c, rfl, rfl, nv, dk, pk⟩
      · cases ht
      · have ev := (hS.fresh (o := DO p o) hp false).1
        refine t1 _ _ (t2 _ _ ⟨k, c, v2, rfl, upd_same, NV.mono ev.T nv, pk, dk, fun ob tb => ?_⟩)
        rw [upd_upd]
        refine new_any (w := .map [.tup l] [b]) hS hp (fun d' e h => ⟨[.ref c], [v2], .inr ⟨[(k, c, v2)], ⟨ob, h, tb, hs, fun x hx => ?_⟩, ?_, rfl, rfl⟩, .one (r1.mono e), .one (r2.mono e)⟩) hk
        · cases List.mem_singleton.mp hx
          exact NV.mono e.T nv
        · show [keyN (.tup l)] = [some k]
          rw [keyD_tup ek]
/-- {x: ()} -/
theorem sn_mp1t {ke ve : Expr} {x : Ex} {pos : Pos} (hu : X.A.units + 65 < cLine) (hk : PE X ke (tX0 x)) (hv : PE X ve (tTup tNil)) (hx : isX0 x = true) : PE X (.Dict [some ke] [ve] pos) (tN X.K G Z (evalE C (.mp1 x (.tup [])))) := by
  refine PE.imp (pe_mp1K hu hk hv) fun σ H Q hq => ?_
  obtain ⟨env, s, d, Ob, rfl, hE, hS, hk⟩ := hq
  rw [evalE] at hk
  intro p o hp hs tb
  cases e1 : evalE C x env s with
  | no => rw [e1] at hk; exact hk.elim
  | ex z s1 => exact absurd e1 (x0_ex (K := X.K) hx)
  | ok a s1 =>
    have e2 : evalE C (.tup []) env s1 = .ok (.tup []) s1 := by
      rw [evalE, evalL]
      rfl
    rw [e1, Out.bind_ok, e2, Out.bind_ok] at hk
    obtain ⟨rfl, v1, r1, t1⟩ := x0_read hE hx e1
    obtain ⟨k, ek, hk⟩ := hk.of_bind
    split at hk
    rotate_left
    · exact hk.elim
    rename_i ht
    rcases key_v ek r1 with ⟨i, rfl, _, _⟩ | ⟨l, c, rfl, rfl, nv, dk, pk⟩
    · cases ht
    · refine t1 _ _ ⟨Nat.zero_le _, fun t hn => ?_⟩
      have hne : t ≠ p := fun e => by rw [e, upd_same] at hn; cases hn
      have ht0 : d.H t = none := by rwa [upd_ne hne] at hn
      obtain ⟨ev, s2⟩ := hS.fresh (o := .tup []) ht0 false
      have ev0 := (hS.fresh (o := DO p o) hp false).1
      have nv2 : NV X.K (upd (upd d.H p (DO p o)) t (.tup [])) k (.ref c) := NV.mono (fun a xs q => by
        have q := ev0.T a xs q
        rcases q with q | q
        · have ne : a ≠ t := fun e => by
            subst e
            rcases q with q | ⟨o2, q⟩
            · exact absurd (hn.symm.trans q) (by simp)
            · exact absurd (hn.symm.trans q) (by simp)
          have ea : upd (upd d.H p (DO p o)) t (.tup []) a = upd d.H p (DO p o) a := upd_ne ne
          rcases q with q | ⟨o2, q⟩
          · exact .inl (.inl (ea.trans q))
          · exact .inl (.inr ⟨o2, ea.trans q⟩)
        · exact .inr q) nv
      refine ⟨k, c, .ref t, rfl, by rw [upd_ne (Ne.symm hne)]; exact upd_same, nv2, pk, dk, fun ob tb2 => ?_⟩
      have eh : upd (upd (upd d.H p (DO p o)) t (.tup [])) p (DO p ob) = upd (upd d.H t (.tup [])) p (DO p ob) := by
        funext b
        by_cases e : b = p
        · subst e
          rw [upd_same, upd_same]
        · rw [upd_ne e, upd_ne e]
          by_cases e3 : b = t
          · subst e3
            rw [upd_same, upd_same]
          · rw [upd_ne e3, upd_ne e3, upd_ne e]
      rw [eh]
      refine new_any (w := .map [.tup l] [.tup []]) s2 (by show upd d.H t _ p = none; rw [upd_ne (Ne.symm hne)]; exact hp) (fun d' e h => ⟨[.ref c], [.ref t], .inr ⟨[(k, c, .ref t)], ⟨ob, h, tb2, hs, fun x hx => ?_⟩, ?_, rfl, rfl⟩, .one (r1.mono (ev.trans e)), .one (.mkT (e.T t [] (.inl (.inl upd_same))) .nil)⟩) (hk.weak ev rfl)
      · cases List.mem_singleton.mp hx
        exact NV.mono (ev.trans e).T nv
      · show [keyN (.tup l)] = [some k]
        rw [keyD_tup ek]

theorem MapT.dict {H : Hp} {p : Addr} {ks : List W} {kl vl : List V} (t : MapT K H p ks kl vl) : ∃ o, H p = some (DO p o) ∧ o.ExactDict := by
  rcases t with ⟨kvs, ⟨o, e, tb, _⟩, _⟩ | ⟨kvs, ⟨o, e, tb, _⟩, _⟩
  · obtain ⟨_, _, _, h, _⟩ := tb.x
    exact ⟨o, e, h⟩
  · obtain ⟨_, _, _, h, _⟩ := tb.x
    exact ⟨o, e, h⟩
theorem se_get {o e : Expr} {x y : Ex} {apos cpos : Pos} (hu : X.A.units + 65 < cLine) (ho : PE X o (tR X.K G Z (rdE C x))) (he : PE X e (tE X.K G Z (evalE C y))) (hbase : attributeBase o "get" X.env (eval o X.env) = eval o X.env) (hline : (apos.endLine == cpos.line) = true)
    (hs : starEach [e] X.env = (false, eval e X.env) :: starEach [] X.env) : PE X (.Call (.Attribute o "get" apos) [e] [] cpos) (tE X.K G Z (evalE C (.get x y))) := by
  refine PE.imp (pe_getK hu ho he hbase hline hs) fun σ H Q hq => ?_
  obtain ⟨env, s, d, Ob, rfl, hE, hS, hk⟩ := hq
  rw [evalE] at hk
  show tR X.K G Z (rdE C x) σ d.H fun vx H1 => (∃ a o, vx = .ref a ∧ H1 a = some (DO a o) ∧ o.ExactDict) ∧ tE X.K G Z (evalE C y) σ H1 fun vy H2 => rGetA X.K vx [vy] H2 Q
  refine tG.step hE hS hk fun u s1 d1 hE1 hS1 _ _ h1 v rv => ?_
  split at h1
  · rename_i ks vs
    obtain ⟨a, kl, vl, rfl, t, rk, rvv⟩ := rv.map
    obtain ⟨ob, eo, xd⟩ := t.dict
    refine ⟨⟨a, ob, rfl, eo, xd⟩, tG.step hE1 hS1 h1 fun u2 s2 d2 hE2 hS2 e2 eo2 h2 v2 rv2 => ?_⟩
    obtain ⟨w, ew, h3⟩ := h2.of_bind
    have old : ∀ (w : Option W), lookD ks vs u2 = some w → Oks X.K G d2.Ow d2 (fun w _ d' => ∀ v, RW X.K G d' w v → Q v d'.H) (fun cls dd d' => Z cls dd σ d'.H) (.ok (w.getD .non) s2) → rGetK X.K (V.ref a) [v2] d2.H Q := fun w ew h3 => by
      obtain ⟨a', r, ea, g, _, q, qn⟩ := in_map (.inl rv2) (rv.mono e2 eo2) ew
      refine ⟨a', v2, r, ea, rfl, g, ?_⟩
      cases w with
      | none =>
        rw [qn rfl]
        exact h3.now hS2 .non (by show RW X.K G d2 .non .non; unfold RW; rfl)
      | some w =>
        obtain ⟨z, rfl, rz⟩ := q w rfl
        exact h3.now hS2 z rz
    unfold getD at ew
    split at ew
    · split at ew
      · rename_i hf
        cases ew
        have rn : v2 = .non := by unfold RW at rv2; exact rv2
        subst rn
        refine .inr ?_
        obtain ⟨a2, kl2, vl2, ea, t2, rk2, rv22⟩ := (rv.mono e2 eo2).map
        cases ea
        have fin := h3.now hS2 .non (by show RW X.K G d2 .non .non; unfold RW; rfl)
        rcases t2 with ⟨kvs, hd, rfl, _, _⟩ | ⟨kvs, hd, hks, _, _⟩
        · have : kvs = [] := tups_int (List.all_eq_true.mpr fun x hx => by
            have := List.all_eq_true.mp hf x hx
            unfold farN at this
            rw [Bool.and_eq_true] at this
            exact this.1)
          subst this
          obtain ⟨ob, h1, h2, h3⟩ := hd
          exact ⟨a, [], rfl, rfl, ⟨ob, h1, h2.toN, h3, fun _ h => nomatch h⟩, fun _ h => (nomatch h), fin⟩
        · refine ⟨a, kvs, rfl, rfl, hd, fun z hz => ?_, fin⟩
          have hz2 : some z.1 ∈ ks.map keyN := by
            rw [hks]
            exact List.mem_map_of_mem hz
          obtain ⟨x, hx, ex⟩ := List.mem_map.mp hz2
          have := List.all_eq_true.mp hf x hx
          unfold farN at this
          rw [ex] at this
          simp only [Bool.and_eq_true, bne_iff_ne] at this
          exact this.2
      · cases ew
    · exact .inl (old w ew h3)
  · exact h1.elim
theorem ss_ext {x : Str} {px apos cpos pos : Pos} {e : Expr} {i : Nat} {y : Ex} (hN : X.N[i]? = some x) (hv : Vis X.env.scope x) (hd : (x == ("__debug__" : Str)) = false) (hcd : (x == ("__classdict__" : Str)) = false) (he : PE X e (tE X.K G Z (evalE C y)))
    (hline : (apos.endLine == cpos.line) = true) (hs : starEach [e] X.env = (false, eval e X.env) :: starEach [] X.env) :
    PS X (.Expr (.Call (.Attribute (.Name x px) "extend" apos) [e] [] cpos) pos) (tS X.K G Z (exec C (.ext i y))) := by
  refine PS.imp (ps_expr (pe_bm PySem.F.plainAttrs_list PySem.F.slot_list_extend PySem.F.type_list_extend mt_extend (pe_var (i := i) hN hv hd hcd) (pa_cons he pa_nil hs) rfl (by rw [hs]; rfl) hline hs rfl)) fun D σ H hq => ?_
  obtain ⟨env, s, d, Ob, rfl, hE, hS, hk⟩ := hq
  rw [exec] at hk
  show ∃ v, σ[i]? = some (some v) ∧ tyV X.K "list" v d.H ∧ tE X.K G Z (evalE C y) σ d.H fun z H1 => ∃ l b xs zs, v = .ref l ∧ [z] = [.ref b] ∧ H1 l = some (.lst xs) ∧ H1 b = some (.lst zs) ∧ xs.length + zs.length ≤ sizeLine ∧ D.nx σ (upd H1 l (.lst (xs ++ zs)))
  split at hk
  · rename_i l ei
    obtain ⟨p, ep, oP, nb, acc, hD, r⟩ := hE.own i _ ei
    refine ⟨.ref p, ep, .inl ⟨rfl, acc, .of hD⟩, ?_⟩
    refine tS.step hE hS hk fun w s1 d1 hE1 hS1 h1 v rv => ?_
    split at h1
    · rename_i l2
      split at h1
      · rename_i hl
        obtain ⟨p1, ep1, oP1, nb1, acc1, hD1, r1⟩ := hE1.own i _ ei
        rw [ep] at ep1
        cases ep1
        unfold RW at rv
        obtain ⟨b, zs, rfl, _, hB, rz⟩ := rv
        refine ⟨p, b, acc1, zs, rfl, rfl, hD1, hB, ?_, ?_⟩
        · rw [r1.len, rz.len]
          exact Nat.le_trans hl (by decide)
        · obtain ⟨e2, hE2, hS2⟩ := own_write hE1 hS1 ei ep hD1 (r1.append rz)
          exact h1 _ σ e2 hE2 hS2
      · exact h1.elim
    · exact h1.elim
  · exact hk.elim
end
end Mi

/-! Dict comprehensions whose keys are nested tuples: {k: v for t in it if c}. The road is that of HandS.DictComp (dicts of ints and texts), gone anew for dicts told by the very object. -/
namespace Mi
open PySem PySem.Spec PyProof.Rows L2
section
variable {X : Cx}
/-- the comprehension's dict gets a key -/
theorem put_new {pins : List (Addr × Obj)} {σ : L2.St} {H : Hp} {s : Shared} {E : Value → Shared → Prop} {D a : Addr} {kvs : NT} {k : NestedKey} {z : V} {r : Value} {Q : Unit → Shared → Prop} (hu : X.A.units + 65 < cLine) (I : Inv X pins σ H s)
    (hd : DctN X.K H D kvs) (nv : NV X.K H k (.ref a)) (pl : plainN k = true) (dk : k.depth ≤ 8) (hz : kvs.length < sizeLine) (rv : RelV z r) (h : ∀ ob s', TabN ob (putN kvs k a z) → Inv X pins σ (upd H D (DO D ob)) s' → Q () s') :
    wpAny (model X.prog X.w) X.A (dictSet D (.ref a) r) Q E s := by
  refine wpAny_mono (store_N (Q := fun H' => ∃ ob, TabN ob (putN kvs k a z) ∧ H' = upd H D (DO D ob)) I hd rv nv pl dk hz (fun ob tb => ⟨ob, tb, rfl⟩) fun us dd hl ik fin =>
    wpAny_dictSet_heap (hsz := Nat.le_of_lt hl) (show X.A.units + 8 < cLine by omega) ik dd fun h' dd' sb => fin h' _ dd' sb) (fun u s' hs' => ?_) fun _ _ e => e
  obtain ⟨H', J, ob, tb, rfl⟩ := hs'
  exact h ob s' tb J
/-- what a turn does with its target, tests, key and value; Nx holds of the heap behind it -/
def dcTurn (K : PySem.W.Frag) (g : TG) (tt : TT) (tk tv : TE) (vs : List Nat) (σ : L2.St) (D : Addr) (Nx : Hp → Prop) (x : V) (H : Hp) : Prop :=
  g x (wipe σ vs) H fun σ2 H2 => wipe σ2 vs = wipe σ vs ∧ tt σ2 H2 fun b H3 => if b = true then tk σ2 H3 fun y H4 => tv σ2 H4 fun z H5 =>
    ∃ (kvs : NT) (k : NestedKey) (a : Addr), y = .ref a ∧ DctN K H5 D kvs ∧ NV K H5 k (.ref a) ∧ plainN k = true ∧ k.depth ≤ 8 ∧ kvs.length < sizeLine ∧ ∀ ob, TabN ob (putN kvs k a z) → Nx (upd H5 D (DO D ob)) else Nx H3
def dcWay (K : PySem.W.Frag) (g : TG) (tt : TT) (tk tv : TE) (vs : List Nat) (σ : L2.St) (J : It) (Q : VK) (D : Addr) (W : Nat → Nat → Hp → Prop) : Prop := ∀ i m H, W i m H →
  (J.stop i H ∧ Q (.ref D) H) ∨ (J.go i H ∧ ∃ Nx : Hp → Prop, (∀ H', Nx H' → ∃ m', m' < m ∧ W (i + 1) m' H') ∧ ∀ x H', J.yld i H x H' → dcTurn K g tt tk tv vs σ D Nx x H')
def tDcN (K : PySem.W.Frag) (wi : TI) (g : TG) (tt : TT) (tk tv : TE) (vs : List Nat) : TE := fun σ H Q => wi σ H fun J H1 => ∀ D o, H1 D = none → (D == sysModules) = false → TabN o [] →
  ∃ W : Nat → Nat → Hp → Prop, (∃ m, W 0 m (upd H1 D (DO D o))) ∧ dcWay K g tt tk tv vs σ J Q D W
/-- the parts stand in every block -/
structure DcParts (X : Cx) (scope : Scope) (tg kx vx : Expr) (ifs : List Expr) (g : TG) (tt : TT) (tk tv : TE) : Prop where
  g : ∀ (s : Shared) (H : Hp) (C : Addr) (cl : List (Str × Addr)) (fp : List Addr), PG (X.blk s H scope (compEnvC scope cl C X.env) fp) tg g
  t : ∀ (s : Shared) (H : Hp) (C : Addr) (cl : List (Str × Addr)) (fp : List Addr), PTs (X.blk s H scope (compEnvC scope cl C X.env) fp) ifs tt
  k : ∀ (s : Shared) (H : Hp) (C : Addr) (cl : List (Str × Addr)) (fp : List Addr), PE (X.blk s H scope (compEnvC scope cl C X.env) fp) kx tk
  v : ∀ (s : Shared) (H : Hp) (C : Addr) (cl : List (Str × Addr)) (fp : List Addr), PE (X.blk s H scope (compEnvC scope cl C X.env) fp) vx tv
/-- the turns, in the block's own context -/
theorem dc_turns {B : Cx} {tg kx vx iter : Expr} {ifs : List Expr} {scope : Scope} {pos : Pos} {g : TG} {tt : TT} {tk tv : TE} {vs : List Nat} {σ : L2.St} {J : It} {Q : VK} {D it : Addr} {fp : List Addr} {tn : Nat → Heap → Prop} {W : Nat → Nat → Hp → Prop} {R : Result → Shared → Prop}
    (hu : B.A.units + 65 < cLine) (hc : B.calm = true) (hxe : B.xe = fun _ _ => False) (T : L2.Turn B.prog B.w B.K tg J fp it tn) (pg : PG B tg g) (pt : PTs B ifs tt) (pk : PE B kx tk) (pv : PE B vx tv) (way : dcWay B.K g tt tk tv vs σ J Q D W)
    (stat : ∀ (σ' : L2.St) (H' : Hp) (s' : Shared), Inv B [] σ' H' s' → (∀ b ∈ fp, H' b = none) → ∀ b ∈ fp, FpOk B [] H' b) (done : ∀ (H' : Hp) (s' : Shared), Inv B [] (wipe σ vs) H' s' → Q (.ref D) H' → R (.ok .next) s')
    (m0 : Nat) (H0 : Hp) (s0 : Shared) (I0 : Inv B [] (wipe σ vs) H0 s0) (st0 : tn 0 s0.heap) (n0 : ∀ b ∈ fp, H0 b = none) (w0 : W 0 m0 H0) :
    codeAny (model B.prog B.w) B.A (.compLoop (.DictComp kx vx [⟨tg, iter, ifs, 0⟩] scope pos) 0 (.ref it) (.ref D) B.env) R s0 := by
  have none_flies : ∀ {α : Type} {m : Sem α} {P P' : α → Shared → Prop} {E : Value → Shared → Prop} {s : Shared}, wpAny (model B.prog B.w) B.A m P B.xe s → (∀ a s', P a s' → P' a s') → wpAny (model B.prog B.w) B.A m P' E s :=
    fun h k => wpAny_mono h k fun e s' z => by rw [hxe] at z; exact z.elim
  let Between : Nat → Shared → Prop := fun n s => ∃ i H, Inv B [] (wipe σ vs) H s ∧ tn i s.heap ∧ (∀ b ∈ fp, H b = none) ∧ W i n H
  refine compLoop_anyD Between (fun n s1 ⟨i, H1, I1, st1, n1, w1⟩ => ?_) m0 ⟨0, H0, I0, st0, n0, w0⟩
  rcases way i n H1 w1 with ⟨stop, fin⟩ | ⟨go, Nx, less, step⟩
  · refine thnF (T.done B rfl rfl rfl hc i [] s1 _ H1 (fun _ _ => False) I1 (stat _ _ _ I1 n1) st1 stop) ?_
    rintro r s2 ⟨rfl, I2⟩
    exact done H1 s2 I2 fin
  · refine thnF (T.item B rfl rfl rfl hc i [] s1 _ H1 (fun _ _ => False) I1 (stat _ _ _ I1 n1) st1 go) ?_
    rintro r s2 ⟨u, rfl, h2⟩
    refine thnF h2 ?_
    rintro _ s3 ⟨x, H3, I3, rx, yx, st3, n3⟩
    have P3 := I3.pinned (stat _ _ _ I3 n3) (T.obj _ _ st3)
    -- where a turn ends: the iterator's objects stand as the pins say
    have ends : ∀ (σ' : L2.St) (H' : Hp) (s' : Shared), Inv B ([] ++ pinsAt fp s3.heap) σ' H' s' → wipe σ' vs = wipe σ vs → Nx H' → ∃ m, m < n ∧ Between m s' := fun σ' H' s' I' hw nx => by
      obtain ⟨m', lt, w'⟩ := less H' nx
      have pinned : ∀ b ∈ fp, ∀ o, s3.heap.get? b = some o → s'.heap.get? b = some o ∧ H' b = none := fun b hb o e => by
        have z := I'.pin (b, o) (List.mem_append_right _ (List.mem_append_right _ (mem_pinsAt hb e)))
        exact ⟨z.1, z.2.1⟩
      refine ⟨m', lt, i + 1, H', (I'.unpinned (pins := [])).weak (by rw [← hw, wipe_length]) fun j v e => ?_, T.keep _ _ _ st3 fun b hb o e => (pinned b hb o e).1, fun b hb => ?_, w'⟩
      · rw [← hw] at e
        exact (wipe_some e).1
      · obtain ⟨o, e, _⟩ := T.obj _ _ st3 b hb
        exact (pinned b hb o e).2
    refine none_flies (pg.run _ s3 _ H3 x u _ P3 rx (step x H3 yx)) ?_
    rintro _ s4 ⟨σ4, H4, I4, hw, q4⟩
    refine none_flies (pt.run _ s4 σ4 H4 _ I4 q4) ?_
    rintro b s5 ⟨H5, I5, q5⟩
    cases b with
    | false => exact ends σ4 H5 s5 I5 hw q5
    | true =>
      refine none_flies (pk.run _ s5 σ4 H5 _ I5 q5) ?_
      rintro uk s6 ⟨y, H6, I6, ry, q6⟩
      refine none_flies (pv.run _ s6 σ4 H6 _ I6 q6) ?_
      rintro uv s7 ⟨z, H7, I7, rz, kvs, k, a, rfl, hd, nv, pl, dk, hz, nx⟩
      obtain rfl : uk = Value.ref a := ry
      exact put_new hu I7 hd nv pl dk hz rz fun ob s8 tb I8 => ends σ4 _ s8 I8 hw (nx ob tb)
theorem dc_whole {pins : List (Addr × Obj)} {s : Shared} {σ : L2.St} {H : Hp} {Q : VK} {kx vx tg iter : Expr} {ifs : List Expr} {scope : Scope} {own : List (Str × Nat)} {pos pos' : Pos} {wi : TI} {g : TG} {tt : TT} {tk tv : TE} {use : Option (Value → Sem Unit)} {Qf : Value → Shared → Prop}
    (hu : X.A.units + 65 < cLine) (hc : X.calm = true) (hN : X.N.Nodup) (I : Inv X pins σ H s) (hi : PI X tg iter wi) (ok : BlkOk X.N X.env.scope scope own) (P : DcParts X scope tg kx vx ifs g tt tk tv) (hs : ∀ x, foldedSetIterable iter X.env x = pure x)
    (h : tDcN X.K wi g tt tk tv (own.map (·.2)) σ H Q)
    (leave : ∀ D C s' m H', Inv X pins σ H' s' → Q (.ref D) H' → s'.heap.Ns C m → FpOk X pins H' C → compPost (model X.prog X.w) X.A X.xe use Qf (.ref D) C (.ok .next) s') :
    wpAny (model X.prog X.w) X.A (comprehension (.DictComp kx vx [⟨tg, iter, ifs, 0⟩] scope pos) scope X.env pos' newDict false (eval iter X.env) use) Qf X.xe s := by
  have frees : ∀ y ∈ scope.names, y.2 = .free → ∃ c, X.env.cells.lookup y.1 = some c := fun y hy e => (ok.free y hy e).elim (fun z => I.ok.has _ (.inl z)) fun z => I.ok.has _ (.inr z)
  refine wpAny_comprehension_free (use := use) rfl hs (closure_ok frees) ok.kind (fun y hy e => by rw [ok.uniq y hy, e]) (thn (hi.run pins s σ H _ I h) fun v1 t1 h1 => thn h1 ?_)
  rintro v2 t2 ⟨it, fp, tn, J, H2, rfl, I2, T, st2, f2, more⟩
  refine wpAny_newObj_type (newEnv_comp ?_)
  -- the new dict's place
  have fresh : H2 t2.heap.objs.size = none := I2.hok.fresh (Nat.le_refl _)
  have notSys : (t2.heap.objs.size == sysModules) = false := beq_eq_false_iff_ne.mpr (Ne.symm (Nat.ne_of_lt I2.big))
  obtain ⟨W, ⟨m0, w0⟩, way⟩ := more _ { cls := .type "dict", data := .dict #[] } fresh notSys tab_new.2
  have grows : ∀ b o, t2.heap.get? b = some o → (t2.heap.push { cls := .type "dict", data := .dict #[] }).get? b = some o := fun b o e => Heap.get?_push_of_some _ e
  have I3 := I2.laid (a := t2.heap.objs.size) (o := DO t2.heap.objs.size { cls := .type "dict", data := .dict #[] }) (t' := t2.toks) grows (Nat.le_refl _) (do_ok (Heap.get?_push_size _ rfl))
  have below : ∀ b ∈ fp, b < t2.heap.objs.size := fun b hb => by
    obtain ⟨o, e, _⟩ := T.obj _ _ st2 b hb
    exact Heap.lt_size e
  generalize hD : t2.heap.objs.size = D at *
  generalize hH3 : upd H2 D (DO D { cls := .type "dict", data := .dict #[] }) = H3 at *
  generalize ht3 : ({ t2 with heap := t2.heap.push { cls := .type "dict", data := .dict #[] } } : Shared) = t3 at *
  have t3h : t3.heap = t2.heap.push { cls := .type "dict", data := .dict #[] } := by rw [← ht3]
  have f3 : ∀ b ∈ fp, FpOk X pins H3 b ∧ b < t3.heap.objs.size := fun b hb => by
    have lt := below b hb
    refine ⟨⟨?_, (f2 b hb).2⟩, by rw [t3h, Heap.size_push, hD]; exact Nat.lt_succ_of_lt lt⟩
    rw [← hH3, upd_ne (Nat.ne_of_lt lt)]
    exact (f2 b hb).1
  have st3 : tn 0 t3.heap := T.keep _ _ _ st2 fun b _ o e => by rw [t3h]; exact grows b o e
  have I4 := block_start I3 ok hN f3
  have pg := P.g t3 H3 t3.heap.objs.size (cellsFrom (t3.heap.objs.size + 1) scope.names (cloFrom X.env.cells scope.names [])) fp
  have pt := P.t t3 H3 t3.heap.objs.size (cellsFrom (t3.heap.objs.size + 1) scope.names (cloFrom X.env.cells scope.names [])) fp
  have pk := P.k t3 H3 t3.heap.objs.size (cellsFrom (t3.heap.objs.size + 1) scope.names (cloFrom X.env.cells scope.names [])) fp
  have pv := P.v t3 H3 t3.heap.objs.size (cellsFrom (t3.heap.objs.size + 1) scope.names (cloFrom X.env.cells scope.names [])) fp
  show codeAny _ _ (.compStart (.DictComp kx vx [⟨tg, iter, ifs, 0⟩] scope pos) 0 (.ref it) (.ref D) (compEnvC scope (cellsFrom (t3.heap.objs.size + 1) scope.names (cloFrom X.env.cells scope.names [])) t3.heap.objs.size X.env)) (compPost (model X.prog X.w) X.A X.xe use Qf (.ref D) t3.heap.objs.size) { t3 with heap := pushCells (t3.heap.push { cls := .type "dict", data := .dict #[] }) scope.names }
  generalize hce : compEnvC scope (cellsFrom (t3.heap.objs.size + 1) scope.names (cloFrom X.env.cells scope.names [])) t3.heap.objs.size X.env = ce at I4 pg pt pk pv ⊢
  have cL : ce.locals = t3.heap.objs.size := by subst hce; rfl
  generalize ht4 : ({ t3 with heap := pushCells (t3.heap.push { cls := .type "dict", data := .dict #[] }) scope.names } : Shared) = t4 at I4 ⊢
  have st4 : tn 0 t4.heap := T.keep _ _ _ st3 fun b _ o e => by rw [← ht4]; exact pushCells_keeps _ _ _ _ (Heap.get?_push_of_some _ e)
  have turns := dc_turns (B := X.blk t3 H3 scope ce fp) (iter := iter) (scope := scope) (pos := pos) (D := D) (it := it) (fp := fp) (tn := tn) (Q := Q) (R := compPost (model X.prog X.w) X.A X.xe use Qf (.ref D) t3.heap.objs.size) hu hc rfl T pg pt pk pv way
    (fun σ' H' s' I' n' b hb => ⟨n' b hb, (I'.ok.exf b hb).1, I'.ok.exfs b hb, .inl hb, fun x c e => (I'.ok.exf b hb).2 x c e, fun p hp => absurd (show p ∈ ([] : List (Addr × Obj)) ++ [] from hp) (by simp)⟩) (fun H' s' I' q => ?_) m0 H3 t4 I4 st4 (fun b hb => (f3 b hb).1.1) w0
  · exact codeAny_compStart_dict turns (T.self X.A 0 _ _ _ st4 turns)
  · -- back in the def's own context
    have I5 : Inv X pins σ H' s' := I3.call' (ch := fp) I'.os I'.base I'.hok I'.bare fun b hb => ⟨(f3 b hb).1.2.2.2.1, (f3 b hb).1.2.1, (f3 b hb).1.2.2.2.2.1, (f3 b hb).1.2.2.2.2.2⟩
    have free : H' ce.locals = none := I'.free
    obtain ⟨m, ns, _⟩ := I'.loc
    have ns : s'.heap.Ns ce.locals m := ns
    rw [cL] at ns free
    exact leave D _ s' m H' I5 q ns (I3.fpOk (Nat.le_refl _) free)
theorem pe_dcN {kx vx tg iter : Expr} {ifs : List Expr} {scope : Scope} {own : List (Str × Nat)} {pos : Pos} {wi : TI} {g : TG} {tt : TT} {tk tv : TE} (hu : X.A.units + 65 < cLine) (hc : X.calm = true) (hN : X.N.Nodup) (hi : PI X tg iter wi) (ok : BlkOk X.N X.env.scope scope own)
    (P : DcParts X scope tg kx vx ifs g tt tk tv) (hs : ∀ x, foldedSetIterable iter X.env x = pure x) : PE X (.DictComp kx vx [⟨tg, iter, ifs, 0⟩] scope pos) (tDcN X.K wi g tt tk tv (own.map (·.2))) := by
  refine ⟨fun pins s σ H Q I h => ?_⟩
  rw [arm_eval_DictComp]
  refine dc_whole hu hc hN I hi ok P hs h fun D C s' m H' I' q ns f => ⟨m, ns, fun h2 sb => ?_⟩
  exact ⟨.ref D, H', I'.turned (t' := s'.toks) (fun b o hb e => (sb.2 b hb).trans e) f.1 f.2.1 f.2.2.2.1 f.2.2.2.2.1 f.2.2.2.2.2, rfl, q⟩
variable {K : PySem.W.Frag} {G : Gm} {Z : WX} {C : CallI} {Ob : Addr → Prop}
/-- an object outside of F, Ow, al is written -/
theorem upd_out {s : Sto} {d : Wd} {D : Addr} {o o0 : Obj} (hD : d.H D = some (DO D o0)) (nF : ¬ d.F D) (nO : ¬ d.Ow D) (nA : D ∉ d.al) (hS : SimS K G s d) :
    Evo K d.Ow d { d with H := upd d.H D (DO D o) } ∧ SimS K G s { d with H := upd d.H D (DO D o) } := by
  have T : ∀ a xs, SqT K d.H a xs → SqT K (upd d.H D (DO D o)) a xs := fun a xs ht => by
    rcases ht with ht | ht
    · refine .inl ?_
      have ne : a ≠ D := fun e => by
        rw [e] at ht
        rcases ht with ht | ⟨u, ht⟩ <;> rw [hD] at ht <;> (unfold DO at ht; cases ht)
      rcases ht with ht | ⟨u, ht⟩
      · exact .inl (by rw [upd_ne ne]; exact ht)
      · exact .inr ⟨u, by rw [upd_ne ne]; exact ht⟩
    · exact .inr ht
  have other : ∀ {a : Addr}, d.F a ∨ d.Ow a → a ≠ D := fun h e => h.elim (fun h => nF (e ▸ h)) fun h => nO (e ▸ h)
  have ev : Evo K d.Ow d { d with H := upd d.H D (DO D o) } := ⟨⟨[], by simp⟩, fun _ h => h, fun a ha => upd_ne (other ha), T⟩
  refine ⟨ev, ⟨⟨hS.good.fo, hS.good.af, hS.good.nd, fun a ha => (hS.good.fh a ha).of (upd_ne (other (.inl ha))), fun a ha => (hS.good.oh a ha).of (upd_ne (other (.inr ha)))⟩, hS.len, fun n l hn => ?_, tabs_upd hS.tb (.do hD)⟩⟩
  obtain ⟨a, xs, e1, e2, e3, e4⟩ := hS.at_ n l hn
  exact ⟨a, xs, e1, by show upd d.H D _ a = _; rw [upd_ne (fun e => nA (by rw [← e]; exact List.mem_of_getElem? e1))]; exact e2, e3.mono ev, e4⟩
def dBody (C : CallI) (k v : Ex) (t : Tg) (cs : List Ex) (env : Env) (w : W) (s : Sto) : Out (Option W) :=
  (Out.of (bindTg t w env) s).bind fun env s => (evalC C cs env s).bind fun t s => if t then (evalE C k env s).bind fun x s => (evalE C v env s).bind fun y s => .ok (some (.tup [x, y])) s else .ok none s
theorem evalE_dcomp {vs : List Nat} {k v it : Ex} {t : Tg} {cs : List Ex} {env : Env} {s : Sto} :
    evalE C (.dcomp vs k v t it cs) env s = (evalJ C it env s).bind fun l s => if l.length ≤ lim then (noEx (compL (dBody C k v t cs (wipeE env vs)) l s)).bind fun l s => (Out.of (foldD ([], []) l) s).bind fun m s => .ok (.map m.1 m.2) s else .no := by
  rw [evalE]
  unfold evalJ rdE
  rw [Out.bind_bind]
  rfl
/-- the rest of an outcome: what of it goes into the dict, first -/
theorem first_put {S : Addr → Prop} {d : Wd} {o : Out (List W)} {m : List W × List W} {p : W} {Q : W → Sto → Wd → Prop} {Y : Value → Option Addr → Wd → Prop}
    (h : Oks K G S d Q Y ((noEx o).bind fun r s => (Out.of (foldD m (p :: r)) s).bind fun m s => .ok (.map m.1 m.2) s)) :
    ∃ m', putP m p = some m' ∧ Oks K G S d Q Y ((noEx o).bind fun r s => (Out.of (foldD m' r) s).bind fun m s => .ok (.map m.1 m.2) s) := by
  cases e : putP m p with
  | some m' =>
    refine ⟨m', rfl, ?_⟩
    have : (fun (r : List W) s => (Out.of (foldD m (p :: r)) s).bind fun (m : List W × List W) s => Out.ok (W.map m.1 m.2) s) = fun r s => (Out.of (foldD m' r) s).bind fun m s => .ok (.map m.1 m.2) s := by
      funext r s
      rw [foldD, e]
      rfl
    rw [this] at h
    exact h
  | none =>
    exfalso
    cases o with
    | ok r s1 =>
      have : foldD m (p :: r) = none := by rw [foldD, e]; rfl
      rw [noEx_ok, Out.bind_ok, this] at h
      exact h
    | ex x s1 => exact h
    | no => exact h
/-- what holds between two turns -/
def DTurn (X : Cx) (G : Gm) (C : CallI) (Ob : Addr → Prop) (σ : L2.St) (env : Env) (vs : List Nat) (k v : Ex) (t : Tg) (cs : List Ex) (l : List W) (d1 : Wd) (D : Addr) (Q : VK) (Y : Value → Option Addr → Wd → Prop) (i : Nat) (H : Hp) : Prop :=
  ∃ s d m, d.H = H ∧ SimE X.K G Ob env d σ ∧ SimS X.K G s d ∧ Evo X.K d1.Ow d1 d ∧ d.Ow = d1.Ow ∧ ¬ d.F D ∧ ¬ d.Ow D ∧ D ∉ d.al ∧ RC X.K G d (.map m.1 m.2) D ∧ (∃ o, d.H D = some (DO D o)) ∧
    Oks X.K G d.Ow d (fun w _ d' => ∀ v, RN X.K G d' w v → Q v d'.H) Y ((noEx (compL (dBody C k v t cs (wipeE env vs)) (l.drop i) s)).bind fun r s => (Out.of (foldD m r) s).bind fun m s => .ok (.map m.1 m.2) s)
theorem dcomp_read {vs : List Nat} {k v it : Ex} {t : Tg} {cs : List Ex} (htg : tgIn vs t = true) (σ : L2.St) (H : Hp) (Q : VK) (hq : tN X.K G Z (evalE C (.dcomp vs k v t it cs)) σ H Q) :
    tDcN X.K (tI X.K G Z (fun d => d.Ow) (evalJ C it)) (gOf X.K t) (tB' X.K G Z0 (evalC C cs)) (tE X.K G Z0 (evalE C k)) (tE X.K G Z0 (evalE C v)) vs σ H Q := by
  obtain ⟨env, s, d, Ob, rfl, hE, hS, hk⟩ := hq
  rw [evalE_dcomp] at hk
  unfold tDcN
  refine tG.step hE hS hk fun l s1 d1 hE1 hS1 _ _ h1 J hJ => ?_
  intro D o hD hsys tb0
  split at h1
  rotate_left
  · exact h1.elim
  rename_i hl
  refine ⟨fun i m H => m = l.length - i ∧ i ≤ l.length ∧ DTurn X G C Ob σ env vs k v t cs l d1 D Q (fun cls dd d' => Z cls dd σ d'.H) i H, ⟨l.length, by simp, Nat.zero_le _, ?_⟩, ?_⟩
  · obtain ⟨e1, s2⟩ := hS1.fresh (o := DO D o) hD false
    refine ⟨s1, _, ([], []), rfl, hE1.mono e1 rfl, s2, e1, rfl, ?_, fun ho => (hS1.good.oh D ho).ne hD, fun ha => ?_, ⟨[], [], .inr ⟨[], ⟨o, upd_same, tb0, hsys, fun _ h => nomatch h⟩, rfl, rfl, rfl⟩, .nil, .nil⟩, ⟨o, upd_same⟩, ?_⟩
    · rintro (hf | ⟨hf, _⟩)
      · exact (hS1.good.fh D hf).ne hD
      · cases hf
    · obtain ⟨n, hn⟩ := List.getElem?_of_mem ha
      have hl : n < s1.length := by rw [hS1.len]; exact (List.getElem?_eq_some_iff.mp hn).1
      obtain ⟨b, xs, e1, e2, _⟩ := hS1.at_ n _ (List.getElem?_eq_getElem hl)
      rw [hn] at e1
      cases e1
      rw [hD] at e2
      cases e2
    · exact Oks.weak h1 e1 rfl
  · rintro i m H ⟨rfl, hil, s2, d2, mp, rfl, hE2, hS2, ev2, eo2, nF, nO, nA, rc, ⟨o0, hDo⟩, h2⟩
    by_cases hlt : i < l.length
    · refine .inr ⟨hJ.go d2 i ev2 hlt, fun H' => DTurn X G C Ob σ env vs k v t cs l d1 D Q (fun cls dd d' => Z cls dd σ d'.H) (i + 1) H', fun H' hT => ⟨l.length - (i + 1), by omega, rfl, hlt, hT⟩, fun u H' hy => ?_⟩
      have hSp : SimS X.K G s2 (d2.addO D) := hS2.addO nF nA (.do hDo)
      obtain ⟨d3, rfl, ev3, eo3, hS3, rv⟩ := hJ.yld (d2.addO D) s2 i l[i] u H' ev2.addO hSp (List.getElem?_eq_getElem hlt) hy
      have rc3 : RC X.K G d3 (.map mp.1 mp.2) D := (RC.sameO (d := d2) (d' := d2.addO D) rfl rfl rfl rc).mono ev3 (.inr rfl)
      have hD3 : d3.H D = some (DO D o0) := (ev3.H D (.inr (.inr rfl))).trans hDo
      rw [List.drop_eq_getElem_cons hlt, compL, noEx_bind] at h2
      rw [show dBody C k v t cs (wipeE env vs) l[i] s2 = (Out.of (bindTg t l[i] (wipeE env vs)) s2).bind fun env s => (evalC C cs env s).bind fun t s => if t then (evalE C k env s).bind fun x s => (evalE C v env s).bind fun y s => .ok (some (.tup [x, y])) s else .ok none s from rfl] at h2
      cases hb : bindTg t l[i] (wipeE env vs) with
      | none => rw [hb] at h2; exact h2.elim
      | some env3 =>
        rw [hb, Out.of_some, Out.bind_ok, noEx_bind, Out.bind_bind, Out.bind_bind] at h2
        have hE3 : SimE X.K G Ob (wipeE env vs) d3 (L2.wipe σ vs) := ((hE2.addO (p := D)).mono ev3 eo3).wipe _
        unfold dcTurn
        refine gOf_ok t l[i] u _ env3 _ _ hb hE3 rv fun σ4 hE4 hw => ⟨(hw _ htg).trans (wipe_wipe _ _), ?_⟩
        refine tG.go hE4 hS3 ?_
        have h2' : Oks X.K G d2.Ow d2 _ _ _ := Oks.bind h2
        have h4 := Oks.noex (Y' := fun cls dd d' => Z0 cls dd σ4 d'.H) (Oks.weak (Oks.addO (d0 := d2.addO D) (D := D) (Y' := fun _ _ _ => False) rfl rfl rfl rfl h2' (noEx_notex _)) ev3 eo3)
        rw [eo3]
        refine Oks.imp h4 fun b s5 d5 e5 eo5 hS5 h5 b' hbb => ?_
        subst hbb
        have rc5 : RC X.K G d5 (.map mp.1 mp.2) D := rc3.mono e5 (.inr rfl)
        have hD5 : d5.H D = some (DO D o0) := (e5.H D (.inr (.inr rfl))).trans hD3
        have et : Evo X.K (d2.addO D).Ow (d2.addO D) d5 := ev3.trans e5
        have eo25 : d5.Ow = (d2.addO D).Ow := eo5.trans eo3
        have e25 : Evo X.K d2.Ow d2 (d5.setO d2.Ow) := ⟨et.al, et.F, fun a ha => et.H a (ha.imp id .inl), et.T⟩
        have oD : d5.Ow D := by rw [eo25]; exact .inr rfl
        have sub5 : ∀ a, d2.Ow a → d5.Ow a := fun a ha => by rw [eo25]; exact .inl ha
        cases b with
        | false =>
          refine ⟨s5, d5.setO d2.Ow, mp, rfl, hE2.mono e25 rfl, hS5.setO sub5, ev2.trans (by rw [← eo2]; exact e25), eo2, fun hf => hS5.good.fo D oD hf, nO, fun ha => (hS5.good.af D ha).2 oD, RC.sameO (d := d5) (d' := d5.setO d2.Ow) rfl rfl rfl rc5, ⟨o0, hD5⟩, ?_⟩
          rw [if_neg Bool.false_ne_true, noEx_ok, Out.bind_ok] at h5
          simp only [noEx_bind, Out.bind_bind, noEx_ok, Out.bind_ok] at h5
          exact h5
        | true =>
          rw [if_pos (show true = true from rfl)]
          have hE5 := hE4.mono (by rw [eo3]; exact e5) eo5
          refine tG.go hE5 hS5 ?_
          rw [if_pos rfl, noEx_bind, Out.bind_bind] at h5
          have h5' : Oks X.K G (d5.setO d2.Ow).Ow (d5.setO d2.Ow) _ _ _ := Oks.bind h5
          have h6 := Oks.noex (Y' := fun cls dd d' => Z0 cls dd σ4 d'.H) (Oks.addO (d := d5.setO d2.Ow) (d0 := d5) (D := D) (Y' := fun _ _ _ => False) eo25 rfl rfl rfl h5' (noEx_notex _))
          refine Oks.imp h6 fun w7 s7 d7 e7 eo7 hS7 h7 y ry => ?_
          have rc7 : RC X.K G d7 (.map mp.1 mp.2) D := rc5.mono e7 oD
          have hD7 : d7.H D = some (DO D o0) := (e7.H D (.inr oD)).trans hD5
          have oD7 : d7.Ow D := by rw [eo7]; exact oD
          have eo27 : d7.Ow = (d2.addO D).Ow := eo7.trans eo25
          have et7 : Evo X.K (d2.addO D).Ow (d2.addO D) d7 := et.trans (by rw [eo25] at e7; exact e7)
          refine tG.go (hE5.mono e7 eo7) hS7 ?_
          rw [noEx_bind, Out.bind_bind] at h7
          have h7' : Oks X.K G (d7.setO d2.Ow).Ow (d7.setO d2.Ow) _ _ _ := Oks.bind h7
          have h8 := Oks.noex (Y' := fun cls dd d' => Z0 cls dd σ4 d'.H) (Oks.addO (d := d7.setO d2.Ow) (d0 := d7) (D := D) (Y' := fun _ _ _ => False) eo27 rfl rfl rfl h7' (noEx_notex _))
          refine Oks.imp h8 fun w9 s9 d9 e9 eo9 hS9 h9 z rz => ?_
          have rc9 : RC X.K G d9 (.map mp.1 mp.2) D := rc7.mono e9 oD7
          have hD9 : d9.H D = some (DO D o0) := (e9.H D (.inr oD7)).trans hD7
          have oD9 : d9.Ow D := by rw [eo9]; exact oD7
          have et9 : Evo X.K (d2.addO D).Ow (d2.addO D) d9 := et7.trans (by rw [eo27] at e9; exact e9)
          have e29 : Evo X.K d2.Ow d2 (d9.setO d2.Ow) := ⟨et9.al, et9.F, fun a ha => et9.H a (ha.imp id .inl), et9.T⟩
          have sub9 : ∀ a, d2.Ow a → d9.Ow a := fun a ha => by rw [eo9, eo27]; exact .inl ha
          have nF9 : ¬ d9.F D := fun hf => hS9.good.fo D oD9 hf
          have nA9 : D ∉ d9.al := fun ha => (hS9.good.af D ha).2 oD9
          have ry9 : RW X.K G (d9.setO d2.Ow) w7 y := RW.sameO (d := d9) (d' := d9.setO d2.Ow) rfl rfl rfl (ry.mono e9)
          have rz9 : RW X.K G (d9.setO d2.Ow) w9 z := RW.sameO (d := d9) (d' := d9.setO d2.Ow) rfl rfl rfl rz
          simp only [noEx_ok, Out.bind_ok] at h9
          simp only [noEx_bind, Out.bind_bind, noEx_ok, Out.bind_ok] at h9
          obtain ⟨m', em, h10⟩ := first_put h9
          unfold putP at em
          dsimp only at em
          split at em
          rotate_left
          · cases em
          rename_i hp
          rw [Bool.and_eq_true, decide_eq_true_eq] at hp
          obtain ⟨kl, vl, tm, rk, rvl⟩ := RC.sameO (d := d9) (d' := d9.setO d2.Ow) rfl rfl rfl rc9
          rcases put_at tm rk rvl ry9 rz9 em hp.2 with ⟨kvs, n, hd, rfl, _, _⟩ | ⟨kvs, kk, b, hd, nv, rfl, pk, dk, hz, q⟩
          · exfalso
            cases w7 with
            | tup lw =>
              unfold RW at ry
              obtain ⟨a, xs, e1, _⟩ := ry
              cases e1
            | _ => cases hp.1
          · refine ⟨kvs, kk, b, rfl, hd, nv, pk, dk, hz, fun ob tb => ?_⟩
            obtain ⟨kl', vl', m1, m2, m3⟩ := q ob tb
            obtain ⟨e8, hS8⟩ := upd_out (d := d9.setO d2.Ow) (o := ob) hD9 nF9 nO nA9 (hS9.setO sub9)
            exact ⟨s9, _, m', rfl, hE2.mono (e29.trans e8) rfl, hS8, ev2.trans (by rw [← eo2]; exact e29.trans e8), eo2, nF9, nO, nA9, ⟨kl', vl', m1 _ upd_same e8.T, m2.mono e8, m3.mono e8⟩, ⟨ob, upd_same⟩, Oks.weak h10 e8 rfl⟩
    · have hi0 : i = l.length := by omega
      subst hi0
      refine .inl ⟨hJ.stop d2 ev2, ?_⟩
      rw [List.drop_length, compL, noEx_ok, Out.bind_ok, foldD, Out.of_some, Out.bind_ok] at h2
      exact h2.now hS2 _ ⟨D, rfl, nF, nO, nA, rc⟩
theorem sn_dcomp {own : List (Str × Nat)} {kx vx tg iter : Expr} {ifs : List Expr} {scope : Scope} {pos : Pos} {k v it : Ex} {t : Tg} {cs : List Ex} (hu : X.A.units + 65 < cLine) (hc : X.calm = true) (hN : X.N.Nodup) (hi : PI X tg iter (tI X.K G Z (fun d => d.Ow) (evalJ C it))) (ok : BlkOk X.N X.env.scope scope own)
    (P : DcParts X scope tg kx vx ifs (gOf X.K t) (tB' X.K G Z0 (evalC C cs)) (tE X.K G Z0 (evalE C k)) (tE X.K G Z0 (evalE C v))) (htg : tgIn (own.map (·.2)) t = true)
    (hs : ∀ y, foldedSetIterable iter X.env y = pure y) : PE X (.DictComp kx vx [⟨tg, iter, ifs, 0⟩] scope pos) (tN X.K G Z (evalE C (.dcomp (own.map (·.2)) k v t it cs))) :=
  PE.imp (pe_dcN hu hc hN hi ok P hs) fun σ H Q hq => dcomp_read htg σ H Q hq
/-- name = {..} on one line, the name a local -/
theorem ps_setDcN {i : Nat} {y : Str} {py : Pos} {kx vx tg iter : Expr} {ifs : List Expr} {scope : Scope} {own : List (Str × Nat)} {pos spos : Pos} {wi : TI} {g : TG} {tt : TT} {tk tv : TE} (hu : X.A.units + 65 < cLine) (hc : X.calm = true) (hN : X.N.Nodup) (hy : X.N[i]? = some y) (hyl : X.env.scope.names.lookup y = some .local)
    (hsw : swapsWith (.DictComp kx vx [⟨tg, iter, ifs, 0⟩] scope pos) (some (.Name y py)) spos.line X.env = pure true) (hi : PI X tg iter wi) (ok : BlkOk X.N X.env.scope scope own) (P : DcParts X scope tg kx vx ifs g tt tk tv) (hs : ∀ x, foldedSetIterable iter X.env x = pure x) :
    PS X (.Assign [.Name y py] (.DictComp kx vx [⟨tg, iter, ifs, 0⟩] scope pos) spos) (tAsg (tDcN X.K wi g tt tk tv (own.map (·.2))) (gName i)) := by
  refine ⟨fun pins s σ H E I h => ?_⟩
  rw [exec_Assign_Name_used _ _ _ _ hsw]
  refine wpAny_bind (wpAny_standAt (wpAny_bind ?_))
  show wpAny _ X.A (do let _ ← comprehension (.DictComp kx vx [⟨tg, iter, ifs, 0⟩] scope pos) scope X.env (firstIterPos [⟨tg, iter, ifs, 0⟩] pos) newDict false (eval iter X.env) (some (assign (.Name y py) X.env))) _ _ s
  have h' : tDcN X.K wi g tt tk tv (own.map (·.2)) σ H (fun x H1 => gName i x σ H1 E.nx) := h
  refine wpAny_bind (thn (dc_whole (Qf := fun _ s' => SP X pins E .next s') hu hc hN I hi ok P hs h' fun D B s' m H' I' q ns f => ?_) fun _ s' hq => wpAny_pure (wpAny_pure hq))
  show wpAny _ _ (assign (.Name y py) X.env (.ref D)) _ _ _
  refine wpAny_assign_Name (store_ok2 (v := V.ref D) I' hN hy (.inl hyl) rfl (fun s2 I2 stored => ?_) (.inr hyl))
  obtain ⟨a, sb, ha⟩ := stored
  have apart : B ≠ a := by
    rcases ha with rfl | z
    · exact f.2.1
    · exact fun e => f.2.2.2.2.1 y a z e.symm
  exact ⟨m, ns.sameBut sb apart, fun h3 sb3 => ⟨_, H', I2.turned (t' := s2.toks) (fun b o hb e => (sb3.2 b hb).trans e) f.1 f.2.1 f.2.2.2.1 f.2.2.2.2.1 f.2.2.2.2.2, q⟩⟩
theorem swD_true {kx vx : Expr} {gs : List Comprehension} {scope : Scope} {pos py : Pos} {y : Str} {l : Nat} {env : PySem.Env} (hk : env.scope.kind = .function) (hy : env.scope.names.lookup y = some .local) (hl : (py.line == pos.line) = true)
    (ha : (scope.names.any fun (n, k) => n == y && (k == .local || k == .cell)) = false) : swapsWith (.DictComp kx vx gs scope pos) (some (.Name y py)) l env = pure true := by
  have e1 : env.kindOf y = some .local := hy
  have e2 : env.blockKind = .function := by unfold Env.blockKind; rw [hk]; rfl
  unfold swapsWith
  simp only [e2, e1, ha, Expr.pos, hl]
  rfl
/-- {k: v}, k any expression that raises nothing -/
theorem sn_mp1g {ke ve : Expr} {x y : Ex} {pos : Pos} (hu : X.A.units + 65 < cLine) (hk : PE X ke (tE X.K G Z (evalE C x))) (hv : PE X ve (tX0 y)) (hx : ∀ env s z s', evalE C x env s ≠ .ex z s') (hy : isX0 y = true) : PE X (.Dict [some ke] [ve] pos) (tN X.K G Z (evalE C (.mp1 x y))) := by
  refine PE.imp (pe_mp1K hu hk hv) fun σ H Q hq => ?_
  obtain ⟨env, s, d, Ob, rfl, hE, hS, hk⟩ := hq
  rw [evalE] at hk
  intro p o hp hs tb
  obtain ⟨e1, s1⟩ := hS.fresh (o := DO p o) hp false
  have nF : ¬ d.F p := fun hf => (hS.good.fh p hf).ne hp
  have nO : ¬ d.Ow p := fun ho => (hS.good.oh p ho).ne hp
  have nA : p ∉ d.al := fun ha => by
    obtain ⟨n, hn⟩ := List.getElem?_of_mem ha
    have hl : n < s.length := by rw [hS.len]; exact (List.getElem?_eq_some_iff.mp hn).1
    obtain ⟨b, xs, e1, e2, _⟩ := hS.at_ n _ (List.getElem?_eq_getElem hl)
    rw [hn] at e1
    cases e1
    rw [hp] at e2
    cases e2
  have S1 := s1.addO (p := p) (fun hf => hf.elim nF fun z => nomatch z.1) nA (.do upd_same)
  have E1 := (hE.mono e1 rfl).addO (p := p)
  rw [tPairs]
  refine tG.go E1 S1 ?_
  cases ex : evalE C x env s with
  | no => rw [ex] at hk; exact hk.elim
  | ex z s' => exact absurd ex (hx env s z s')
  | ok a s' =>
    rw [ex, Out.bind_ok] at hk
    intro d2 e2 eo2 S2 v1 r1
    have E2 := E1.mono e2 eo2
    cases ey : evalE C y env s' with
    | no => rw [ey] at hk; exact hk.elim
    | ex z s' => exact absurd ey (x0_ex (K := X.K) hy)
    | ok b s3 =>
      rw [ey, Out.bind_ok] at hk
      obtain ⟨rfl, v2, r2, t2⟩ := x0_read E2 hy ey
      obtain ⟨k, ek, hk⟩ := hk.of_bind
      split at hk
      rotate_left
      · exact hk.elim
      rename_i ht
      have oD : d2.Ow p := by rw [eo2]; exact .inr rfl
      have hp2 : d2.H p = some (DO p o) := (e2.H p (.inr (.inr rfl))).trans upd_same
      rcases key_v ek r1 with ⟨i, rfl, _, _⟩ | ⟨l, c, rfl, rfl, nv, dk, pk⟩
      · cases ht
      · refine t2 _ _ ⟨k, c, v2, rfl, hp2, nv, pk, dk, fun ob tb => ?_⟩
        have e3 : Evo X.K d.Ow d (d2.setO d.Ow) := ⟨e2.al, fun a ha => e2.F a (.inl ha), fun a ha => (e2.H a (ha.imp .inl .inl)).trans (upd_ne fun e => ha.elim (fun z => nF (e ▸ z)) fun z => nO (e ▸ z)), fun a xs q => e2.T a xs (e1.T a xs q)⟩
        have S3 := S2.setO (O := d.Ow) (fun a ha => by rw [eo2]; exact .inl ha)
        have nF2 : ¬ d2.F p := fun hf => S2.good.fo p oD hf
        have nA2 : p ∉ d2.al := fun ha => (S2.good.af p ha).2 oD
        obtain ⟨e4, S4⟩ := upd_out (d := d2.setO d.Ow) (D := p) (o := ob) hp2 nF2 nO nA2 S3
        refine hk _ (e3.trans e4) rfl S4 (.ref p) ⟨p, rfl, nF2, nO, nA2, [.ref c], [v2], .inr ⟨[(k, c, v2)], ⟨ob, upd_same, tb, hs, fun x hx => ?_⟩, ?_, rfl, rfl⟩, .one ((RW.sameO (d := d2) (d' := d2.setO d.Ow) rfl rfl rfl r1).mono e4), .one ((RW.sameO (d := d2) (d' := d2.setO d.Ow) rfl rfl rfl r2).mono e4)⟩
        · cases List.mem_singleton.mp hx
          exact NV.mono e4.T nv
        · show [keyN (.tup l)] = [some k]
          rw [keyD_tup ek]
theorem idx_noex {i : Nat} {w : W} (env : Env) (s : Sto) (z : Exn) (s' : Sto) : evalE C (.idx (.var i) (.cst w)) env s ≠ .ex z s' := by
  intro h
  rw [evalE] at h
  cases e : rdv env (.var i) s (evalE C (.var i) env s) with
  | no => rw [e] at h; cases h
  | ex y s2 =>
    unfold rdv at e
    simp only at e
    split at e
    · cases e
    · rw [evalE] at e
      split at e <;> cases e
  | ok a s2 =>
    rw [e, Out.bind_ok, evalE, Out.bind_ok] at h
    cases e2 : idxV s2 a w <;> rw [e2] at h <;> cases h
end
end Mi

/-! A lambda handed to a def that tells what it answers. -/
namespace Mi
open PySem PySem.Spec PyProof.Rows L2
def HExt (H H' : Hp) : Prop := ∀ b o, H b = some o → H' b = some o
theorem HExt.refl (H : Hp) : HExt H H := fun _ _ h => h
theorem HExt.trans {H H1 H2 : Hp} (a : HExt H H1) (b : HExt H1 H2) : HExt H H2 := fun c o h => b c o (a c o h)
theorem HExt.new {H : Hp} {p : Addr} {o : HO} (h : H p = none) : HExt H (upd H p o) := fun b o' e => by
  rw [upd_ne (ne_of_none e h)]
  exact e
section
variable {K : PySem.W.Frag} {G : Gm}
/-- the heap grows, tables change -/
theorem stepN {s : Sto} {d : Wd} {H1 : Hp} (h : SimS K G s d) (e : LamX.ExtN d.H H1) (t : LamX.Tabs G.T H1) : Evo K d.Ow d { d with H := H1 } ∧ SimS K G s { d with H := H1 } := by
  have at_ : ∀ a, Here d.H a → H1 a = d.H a := fun a ha => by
    cases q : d.H a with
    | none => exact absurd q ha.ne
    | some o => exact e a o q fun ps z => ha.nt ps (by rw [q, z])
  have T : ∀ a xs, SqT K d.H a xs → SqT K H1 a xs := fun a xs ht => by
    rcases ht with (ht | ⟨u, ht⟩) | ht
    · exact .inl (.inl (e a _ ht fun ps z => nomatch z))
    · exact .inl (.inr ⟨u, e a _ ht fun ps z => nomatch z⟩)
    · exact .inr ht
  have ev : Evo K d.Ow d { d with H := H1 } := ⟨⟨[], by simp⟩, fun _ h => h, fun a ha => at_ a (ha.elim (h.good.fh a) (h.good.oh a)), T⟩
  refine ⟨ev, ⟨⟨h.good.fo, h.good.af, h.good.nd, fun a ha => (h.good.fh a ha).of (at_ a (h.good.fh a ha)), fun a ha => (h.good.oh a ha).of (at_ a (h.good.oh a ha))⟩, h.len, fun n l hn => ?_, t⟩⟩
  obtain ⟨a, xs, e1, e2, e3, e4⟩ := h.at_ n l hn
  exact ⟨a, xs, e1, e a _ e2 (fun ps z => nomatch z), e3.mono ev, e4⟩
theorem stepH {s : Sto} {d : Wd} {H1 : Hp} (h : SimS K G s d) (e : HExt d.H H1) : Evo K d.Ow d { d with H := H1 } ∧ SimS K G s { d with H := H1 } := stepN h (.of e) (h.tb.ext e)
end
/-- no parameters -/
def noArgs : Arguments := ⟨[], [], none, [], [], none, []⟩
abbrev Tab := List ((Nat × Option Int) × Str)
section
variable (K : PySem.W.Frag) (G : Gm) (md : Bool) (tab : Tab)
def saidN (Q : VK) : VK := fun v H' => ∃ (w : W) (s : Sto) (d : Wd) (z : Str), d.H = H' ∧ SimS K G s d ∧ RW K G d w v ∧ (if md then some (.str "told") else biV s .repr [w]) = some (.str z) ∧ ∀ d', Evo K d.Ow d d' → d'.Ow = d.Ow → SimS K G s d' → Q (.str z) d'.H
def saidE (Q : VK) : XK := fun cls dd H' => ∃ (x : Exn) (s : Sto) (d : Wd) (z : Str), d.H = H' ∧ SimS K G s d ∧ RX K G x cls dd d ∧ toldX tab x = some z ∧ ∀ d', Evo K d.Ow d d' → d'.Ow = d.Ow → SimS K G s d' → Q (.str z) d'.H
def TTsaid : (XK → Hp → VK → Prop) → Hp → VK → Prop := fun tl H Q => tl (saidE K G tab Q) H (saidN K G md Q)
end
/-- blocks of one def -/
structure SameAs (X Y : Cx) : Prop where
  prog : Y.prog = X.prog
  w : Y.w = X.w
  K : Y.K = X.K
  mg : Y.mg = X.mg
  base : Y.base = X.base
  A : Y.A = X.A
  code : Y.env.code = X.env.code
  qual : Y.env.qual = X.env.qual
/-- x(lambda: ..) may stand here -/
structure SaidAt (X : Cx) (G : Gm) (k : Nat) (md : Bool) (tab : Tab) (x : Str) : Prop where
  run : ∀ (pn : List (Addr × Obj)) (xe : Value → Shared → Prop) {body : Expr} {scope : Scope} {t : XK → TE} {p lpos pos : Pos}, LamX.LamS X.env.scope scope →
    (∀ (A : Around) (outer : List PySem.Env) (s : Shared) (H : Hp) (E : XK) (f c' : Addr), Room k (A.deeper (LamX.lamEnv X scope s.heap.objs.size f c')) → PE (LamX.lamCx X A outer s H E scope f c') body (t E)) →
    PE (X.tr pn xe) (.Call (.Name x p) [.Lambda noArgs body scope lpos] [] pos) (LamX.tLam G.T (TTsaid X.K G md tab) t)
section
variable {X : Cx} {G : Gm} {Z : WX} {C : CallI}
theorem repr_str {s : Sto} {w u : W} (h : biV s .repr [w] = some u) : ∃ z, u = .str z := by
  simp only [biV] at h
  split at h
  · cases h
    exact ⟨_, rfl⟩
  · cases h
theorem se_told {k : Nat} {md : Bool} {tab : Tab} {x : Str} {y : Ex} {body : Expr} {scope : Scope} {p lpos pos : Pos} (S : SaidAt X G k md tab x) (L : LamX.LamS X.env.scope scope)
    (hb : ∀ (A : Around) (outer : List PySem.Env) (s : Shared) (H : Hp) (E : XK) (f c' : Addr), Room k (A.deeper (LamX.lamEnv X scope s.heap.objs.size f c')) → PE (LamX.lamCx X A outer s H E scope f c') body (tE X.K G (fun cls d _ H => E cls d H) (evalE C y))) :
    PE X (.Call (.Name x p) [.Lambda noArgs body scope lpos] [] pos) (tE X.K G Z (evalE C (.told md tab y))) := by
  refine PE.imp (S.run X.pn X.xe L hb) fun σ H Q hq => ?_
  obtain ⟨env, s, d, Ob, rfl, hE, hS, hk⟩ := hq
  rw [evalE] at hk
  refine ⟨hS.tb, fun H1 e1 t1 => ?_⟩
  obtain ⟨ev1, hS1⟩ := stepN hS e1 t1
  have hE1 := hE.mono ev1 rfl
  show tE X.K G (fun cls dd _ H => saidE X.K G tab Q cls dd H) (evalE C y) σ H1 (saidN X.K G md Q)
  refine tG.go (d := { d with H := H1 }) hE1 hS1 ?_
  revert hk
  cases evalE C y env s with
  | no => exact id
  | ex z s1 =>
    intro hk d' cls dd e eo ss rx
    obtain ⟨u, eu, h1⟩ := hk.of
    cases et : toldX tab z with
    | none => rw [et] at eu; cases eu
    | some z' =>
      rw [et] at eu
      cases eu
      refine ⟨z, s1, d', z', rfl, ss, rx, et, fun d2 e2 eo2 ss2 => ?_⟩
      exact h1 d2 ((ev1.trans e).trans (e2.sub fun a ha => by rw [eo]; exact ha)) (eo2.trans eo) ss2 _ (by unfold RW; rfl)
  | ok w s1 =>
    intro hk d' e eo ss v rv
    obtain ⟨u, eu, h1⟩ := hk.of
    have : ∃ z, u = .str z := by
      split at eu
      · cases eu
        exact ⟨_, rfl⟩
      · exact repr_str eu
    obtain ⟨z, rfl⟩ := this
    refine ⟨w, s1, d', z, rfl, ss, rv, eu, fun d2 e2 eo2 ss2 => ?_⟩
    exact h1 d2 ((ev1.trans e).trans (e2.sub fun a ha => by rw [eo]; exact ha)) (eo2.trans eo) ss2 _ (by unfold RW; rfl)
end
end Mi

/-! From the text to the small language. -/
namespace Mi
open PySem PySem.Spec PyProof.Rows L2
/-- what a module's name stands for: a def, a constant, nothing (then a built-in) -/
inductive Gb where
  | fn (i : Nat) (z : Bool) | con (w : W) | free | said (md : Bool) (tab : Tab) | exc (c : Nat) (mk : Bool)
  | kwo (l : List (Nat × List Str × List (List Str)))
  | flds (l : List (Nat × Str))
/-- .. where something may be guarded: no repr, defs that need none -/
def strip (gl : Str → Option Gb) (x : Str) : Option Gb := match gl x with
  | some (.fn i true) => some (.fn i true)
  | some (.con w) => some (.con w)
  | some (.exc c mk) => some (.exc c mk)
  | some (.flds l) => some (.flds l)
  | some .free => if x = "repr" then none else some .free
  | _ => none
/-- where one stands: slots, kinds of names, the names whose cells are the def's -/
structure SC where
  N : List Str
  nm : List (Str × NameKind)
  fnb : Str → Bool
  lam : Bool
  cold : Bool
def slotOf : List Str → Str → Option Nat
  | [], _ => none
  | y :: r, x => if y = x then some 0 else (slotOf r x).map (· + 1)
theorem slotOf_ok : ∀ {N : List Str} {x : Str} {i : Nat}, slotOf N x = some i → N[i]? = some x
  | [], _, _, h => by cases h
  | y :: r, x, i, h => by
    unfold slotOf at h
    split at h
    · rename_i e
      cases h
      rw [e]
      rfl
    · cases e : slotOf r x with
      | none => rw [e] at h; cases h
      | some j =>
        rw [e] at h
        cases h
        show r[j]? = some x
        exact slotOf_ok e
def nameOk (x : Str) : Bool := !(x == ("__debug__" : Str)) && !(x == ("__classdict__" : Str)) && !(x == ("__name__" : Str))
def mapO {α β : Type} (f : α → Option β) : List α → Option (List β)
  | [] => some []
  | a :: r => (f a).bind fun b => (mapO f r).map (b :: ·)
def isLst : Expr → Bool
  | .List .. => true
  | .ListComp .. => true
  | .BinOp a .Add b _ => isLst1 a || isLst1 b
  | _ => false
where isLst1 : Expr → Bool
  | .List .. => true
  | .ListComp .. => true
  | _ => false
def isNew : Ex → Bool
  | .lst _ => true
  | .addL _ _ => true
  | .mulL _ _ => true
  | .comp .. => true
  | .dcomp .. => true
  | .bi b _ => newB b
  | .mp0 => true
  | .mp1 _ _ => true
  | .split _ _ => true
  | _ => false
def isVar : Ex → Bool
  | .var _ => true
  | _ => false
def isStar : Ex → Bool
  | .star _ => true
  | _ => false
def copTo : CmpOp → Option Cop
  | .Lt => some .lt
  | .LtE => some .le
  | .Gt => some .gt
  | .GtE => some .ge
  | .Eq => some .eq
  | .NotEq => some .ne
  | .Is => some .is_
  | .IsNot => some .isnt
  | .In => some .in_
  | .NotIn => some .nin
def bopTo : Operator → Option Bop
  | .Add => some .add
  | .Sub => some .sub
  | .Mult => some .mul
  | .FloorDiv => some .fdiv
  | .Mod => some .mod
  | .Pow => some .pow
  | _ => none
def biTo (x : Str) : Option Bi :=
  if x = "len" then some .len else if x = "tuple" then some .tuple else if x = "list" then some .list else if x = "all" then some .all else if x = "sum" then some .sum
  else if x = "max" then some .max else if x = "min" then some .min else if x = "abs" then some .abs else if x = "sorted" then some .sorted else if x = "repr" then some .repr else if x = "any" then some .any else if x = "int" then some .int else if x = "str" then some .str else none
def tyTo (x : Str) : Option Ty :=
  if x = "int" then some .int else if x = "bool" then some .bool else if x = "str" then some .str else if x = "tuple" then some .tuple else if x = "list" then some .list else if x = "dict" then some .dict else none
def foldB (op : BoolOp) : List Ex → Option Ex
  | [] => none
  | [a] => some a
  | a :: b :: r => (foldB op (b :: r)).map fun y => match op with
    | .And => .and a y
    | .Or => .or a y
mutual
def trTg (sc : SC) : Nat → Expr → Option Tg
  | 0, _ => none
  | n + 1, e => match e with
    | .Name x _ => if sc.nm.lookup x = some .local ∨ (sc.nm.lookup x = some .cell ∧ sc.fnb x = true) then (slotOf sc.N x).map .nm else none
    | .Tuple es _ _ => (trTgs sc n es).map .tup
    | _ => none
def trTgs (sc : SC) : Nat → List Expr → Option (List Tg)
  | 0, _ => none
  | n + 1, es => match es with
    | [] => some []
    | e :: r => (trTg sc n e).bind fun t => (trTgs sc n r).map (t :: ·)
end
def ownOf (N : List Str) (scope : Scope) : List (Str × Nat) := scope.names.filterMap fun p => if p.2 == .local || p.2 == .cell then (slotOf N p.1).map (p.1, ·) else none
/-- a comprehension's block may stand here -/
def blkB (sc : SC) (scope : Scope) (own : List (Str × Nat)) : Bool :=
  decide (scope.kind = .function) && scope.names.all (fun y => decide (scope.names.lookup y.1 = some y.2)) && own.all (fun p => decide (sc.N[p.2]? = some p.1)) &&
  scope.names.all (fun y => decide (y.2 = .free → sc.nm.lookup y.1 = some .cell ∨ sc.nm.lookup y.1 = some .free)) && scope.names.all (fun y => decide (y.2 = .local ∨ y.2 = .cell → y.1 ∈ own.map (·.1) ∨ y.1 ∉ sc.N))
def scIn (sc : SC) (scope : Scope) : SC := ⟨sc.N, scope.names.map fun (n, k) => if (k == .free && sc.nm.lookup n == some .cell) then (n, .cell) else (n, k), fun x => scope.names.lookup x == some .cell, sc.lam, sc.cold⟩
/-- a lambda's names may stand here -/
def lamB (sc : SC) (scope : Scope) : Bool := decide (scope.kind = .function) && !scope.isCoroutine && !scope.isGenerator && scope.names.all fun y => !decide (y.2 = .local) && !decide (y.2 = .cell) && (!decide (y.2 = .free) || decide (sc.nm.lookup y.1 = some .cell) || decide (sc.nm.lookup y.1 = some .free))
def scLam (sc : SC) (scope : Scope) : SC := ⟨sc.N, scope.names, fun _ => false, false, false⟩
def isNoArgs : Arguments → Bool
  | ⟨[], [], none, [], [], none, []⟩ => true
  | _ => false
section
variable (gl : Str → Option Gb)
def trName (sc : SC) (x : Str) : Option Ex :=
  if nameOk x then match sc.nm.lookup x with
    | some .globalImplicit => match gl x with
      | some (.con w) => some (.cst w)
      | _ => none
    | some .local => (slotOf sc.N x).map .var
    | some .cell => (slotOf sc.N x).map .var
    | some .free => (slotOf sc.N x).map .var
    | _ => none
  else none
def trConst : Const → Option Ex
  | .int i => some (.cst (.int i))
  | .bool b => some (.cst (.bl b))
  | .none => some (.cst .non)
  | .str x => some (.cst (.str x))
  | _ => none
/-- a built-in name is the built-in -/
def isFree (sc : SC) (x : Str) : Bool := nameOk x && decide (sc.nm.lookup x = some .globalImplicit) && (match gl x with | some .free => true | _ => false)
def noStar : Expr → Bool
  | .Starred .. => false
  | _ => true
def noCall : Expr → Bool
  | .Call .. => false
  | _ => true
theorem base_of {o : Expr} {x : Str} {env : PySem.Env} {m : Sem Value} (h : noCall o = true) : attributeBase o x env m = m := by
  cases o <;> first | rfl | cases h
abbrev Rec := Bool → SC → Expr → Option Ex
variable (rec : Rec) (sc : SC)
def argT (e : Expr) : Option Ex := match e with
  | .Starred a _ => (rec false sc a).map .star
  | e => (rec false sc e).bind fun x => if isStar x then none else some x
/-- .. no star -/
def valT (e : Expr) : Option Ex := match e with
  | .Starred _ _ => none
  | e => (rec false sc e).bind fun x => if isStar x then none else some x
def rdT (e : Expr) : Option Ex := match e with
  | .Name x _ => trName gl sc x
  | .Starred _ _ => none
  | e => (rec false sc e).bind fun x => if isVar x then none else some x
def stBin (a : Expr) (op : Operator) (b : Expr) : Option Ex := match op with
  | .Add => if isLst a || isLst b then (rdT gl rec sc a).bind fun x => (rdT gl rec sc b).map fun y => .addL x y else (rec false sc a).bind fun x => (rec false sc b).map fun y => .bin .add x y
  | .Mult => if isLst a then (rec false sc a).bind fun x => (rec false sc b).map fun y => .mulL x y else (rec false sc a).bind fun x => (rec false sc b).map fun y => .bin .mul x y
  | op => (bopTo op).bind fun o => (rec false sc a).bind fun x => (rec false sc b).map fun y => .bin o x y
def stCmp (a : Expr) (ops : List CmpOp) (bs : List Expr) : Option Ex := match ops, bs with
  | [.Is], [.Constant .none _ _] => (rec false sc a).map .isN
  | [.IsNot], [.Constant .none _ _] => (rec false sc a).map .notN
  | [op], [b] => if behindInMarks op b then none else (copTo op).bind fun o => (rdT gl rec sc a).bind fun x => (rdT gl rec sc b).map fun y => .cmp o x y
  | [op, op2], [b, c] => (copTo op).bind fun o => (copTo op2).bind fun p => if copI o && copI p then (rec false sc a).bind fun x => (rec false sc b).bind fun y => (rec false sc c).map fun z => .chain o p x y z else none
  | _, _ => none
/-- the keywords' places, in the parameters' order -/
def permOf (ps ks : List Str) : List Nat := ps.map fun p => ks.findIdx (· == p)
/-- a def's call with keywords alone -/
def stKw (i : Nat) (kws : List Keyword) : Option Ex := match gl "(" with
  | some (.kwo l) => match l.find? (fun e => e.1 == i) with
    | some e => if e.2.2.contains (kws.filterMap (·.arg)) && kws.all (fun k => k.arg.isSome && noStar k.value) && (permOf e.2.1 (kws.filterMap (·.arg))).length == kws.length then (mapO (argT rec sc) (kws.map (·.value))).map fun xs => .callK i (permOf e.2.1 (kws.filterMap (·.arg))) xs else none
    | none => none
  | _ => none
def stCall (f : Expr) (args : List Expr) (kws : List Keyword) : Option Ex := match f, kws with
  | .Name x _, k :: kws => match args with
    | [] => if nameOk x && decide (sc.nm.lookup x = some .globalImplicit) then match gl x with
      | some (.fn i _) => stKw gl rec sc i (k :: kws)
      | _ => none else none
    | _ => none
  | .Name x _, [] => if nameOk x && decide (sc.nm.lookup x = some .globalImplicit) then match gl x with
      | some (.fn i _) => if args.all noStar then (mapO (argT rec sc) args).map fun xs => .call i xs else none
      | some .free => if x = "isinstance" then (match args with
          | [a, .Name T _] => if isFree gl sc T then (tyTo T).bind fun t => (valT rec sc a).map fun y => .isin y t else none
          | _ => none)
        else (match args with
          | [] => none
          | args => (biTo x).bind fun b => (mapO (rdT gl rec sc) args).map fun xs => .bi b xs)
      | _ => none else none
  | _, _ => none
def partT (o : Option Expr) : Option (Bool × Ex) := match o with
  | none => some (false, .cst .non)
  | some e => (rec false sc e).map fun y => (true, y)
def stSub (a : Expr) (i : Expr) : Option Ex := match i with
  | .Slice lo hi none _ => (rdT gl rec sc a).bind fun x => (partT rec sc lo).bind fun l => (partT rec sc hi).map fun h => .slc x l.1 l.2 h.1 h.2
  | .Slice none none (some (.UnaryOp .USub (.Constant (.int 1) _ _) _)) _ => (rdT gl rec sc a).map .rev
  | .Slice _ _ _ _ => none
  | .Starred _ _ => none
  | i => (rdT gl rec sc a).bind fun x => (rec false sc i).map fun y => .idx x y
/-- what is walked -/
def stIter (tg : Expr) (it : Expr) : Option Ex := match it with
  | .Call (.Name x _) [a] [] _ => if x = "range" ∧ isFree gl sc x = true then (valT rec sc a).map fun y => .range (.cst (.int 0)) y
      else if x = "enumerate" ∧ isFree gl sc x = true then (match tg with | .Tuple .. => (valT rec sc a).map .enum | _ => none) else rec false sc it
  | .Call (.Name x _) [a, b] [] _ => if x = "range" ∧ isFree gl sc x = true then (valT rec sc a).bind fun y => (valT rec sc b).map fun z => .range y z
      else if x = "zip" ∧ isFree gl sc x = true then (match tg with | .Tuple .. => (valT rec sc a).bind fun y => (valT rec sc b).map fun z => .zip y z | _ => none) else rec false sc it
  | .Call (.Name x _) [a, b, c] [] _ => if x = "range" ∧ isFree gl sc x = true then (valT rec sc a).bind fun y => (valT rec sc b).bind fun z => (valT rec sc c).map fun w => .range3 y z w else rec false sc it
  | .Call (.Attribute o m apos) [] [] cpos => if m = "items" ∧ apos.endLine = cpos.line ∧ noCall o = true then (match tg with | .Tuple .. => (valT rec sc o).map .items | _ => none) else none
  | .Set .. => none
  | it => rec false sc it
def stIterJ (tg : Expr) (it : Expr) : Option Ex := match it with
  | .Name x _ => trName gl sc x
  | it => (stIter gl rec sc tg it).bind fun x => if isVar x then none else some x
def stIfs (ifs : List Expr) : Option (List Ex) := match ifs with
  | [] => some []
  | [c] => (rec true sc c).map fun x => [x]
  | _ => none
def stComp (elt : Expr) (gs : List Comprehension) (scope : Scope) : Option Ex := match gs with
  | [⟨tg, iter, ifs, 0⟩] => if blkB sc scope (ownOf sc.N scope) then
      (stIterJ gl rec sc tg iter).bind fun it => (trTg (scIn sc scope) 20 tg).bind fun t => if tgIn ((ownOf sc.N scope).map (·.2)) t then
        (stIfs rec (scIn sc scope) ifs).bind fun cs => (rec false (scIn sc scope) elt).map fun x => .comp ((ownOf sc.N scope).map (·.2)) x t it cs else none
    else none
  | _ => none
/-- a dict comprehension -/
def stDComp (kx vx : Expr) (gs : List Comprehension) (scope : Scope) : Option Ex := match stComp gl rec sc kx gs scope with
  | some (.comp vs x t it cs) => (rec false (scIn sc scope) vx).map fun z => .dcomp vs x z t it cs
  | _ => none
/-- a display's parts: names, constants -/
def dspT : List (Option Expr) → List Expr → Option (List Ex)
  | [], [] => some []
  | some k :: ks, v :: vs => (x0T k).bind fun x => (x0T v).bind fun y => (dspT ks vs).map fun r => x :: y :: r
  | _, _ => none
where x0T : Expr → Option Ex
  | .Name x _ => (trName gl sc x).bind fun y => if isVar y then some y else none
  | .Constant (.int i) _ _ => some (.cst (.int i))
  | .Constant .none _ _ => some (.cst .non)
  | .Constant (.str x) _ _ => some (.cst (.str x))
  | .Constant (.bool b) _ _ => some (.cst (.bl b))
  | _ => none
def stTold (rec0 : Rec) (x : Str) (ps : Arguments) (body : Expr) (scope : Scope) : Option Ex :=
  if nameOk x = true ∧ sc.nm.lookup x = some .globalImplicit ∧ sc.lam = true ∧ lamB sc scope = true ∧ isNoArgs ps = true then (match gl x with
    | some (.said md tab) => (rec0 false (scLam sc scope) body).map fun y => .told md tab y
    | _ => none) else none
/-- methods of texts -/
def stMeth (o : Expr) (m : Str) (a : Expr) : Option Ex :=
  if m = "split" then (valT rec sc o).bind fun x => (valT rec sc a).map fun y => .split x y
  else if m = "join" then (valT rec sc o).bind fun x => (rdT gl rec sc a).map fun y => .meth .join x y
  else if m = "index" then (rdT gl rec sc o).bind fun x => (valT rec sc a).map fun y => .ixOf x y
  else if m = "count" then (rdT gl rec sc o).bind fun x => (valT rec sc a).map fun y => .cntOf x y
  else if m = "startswith" then (valT rec sc o).bind fun x => (rdT gl rec sc a).map fun y => .meth .starts x y
  else none
/-- one step; t: in a test -/
def trStep (rec0 : Rec) (t : Bool) (e : Expr) : Option Ex := match e with
  | .Name x _ => if t then (trName gl sc x).map .tru else trName gl sc x
  | .Dict ks vs _ => if ks.length = vs.length ∧ ks.length ≤ 15 then (dspT gl sc ks vs).map .dsp else none
  | .Constant c _ _ => trConst c
  | .BinOp a op b _ => stBin gl rec sc a op b
  | .UnaryOp .Not a _ => (rec t sc a).map .not
  | .UnaryOp .USub a _ => (rec false sc a).map .neg
  | .Compare a ops bs _ => stCmp gl rec sc a ops bs
  | .BoolOp op (v :: w :: vs) _ => (mapO (rec t sc) (v :: w :: vs)).bind (foldB op)
  | .IfExp c a b _ => if t then none else (rec true sc c).bind fun z => (rec false sc a).bind fun x => (rec false sc b).map fun y => .ite z x y
  | .Tuple es _ _ => (mapO (argT rec sc) es).bind fun xs => if xs.length ≤ 4000 then some (.tup xs) else none
  | .List es _ => (mapO (argT rec sc) es).bind fun xs => if xs.length ≤ 4000 then some (.lst xs) else none
  | .Call (.Attribute o m apos) [a] [] pos => if m = "get" ∧ apos.endLine = pos.line ∧ noCall o = true then (rdT gl rec sc o).bind fun x => (valT rec sc a).map fun y => .get x y else if apos.endLine = pos.line ∧ noCall o = true then stMeth gl rec sc o m a else none
  | .Call (.Name x _) [.Lambda ps body scope _] [] _ => stTold gl sc rec0 x ps body scope
  | .Call f args kws _ => stCall gl rec sc f args kws
  | .Subscript a i _ => stSub gl rec sc a i
  | .ListComp elt gs scope _ => stComp gl rec sc elt gs scope
  | .DictComp kx vx gs scope _ => stDComp gl rec sc kx vx gs scope
  | _ => none
end
def trX : (Str → Option Gb) → Nat → Rec
  | _, 0 => fun _ _ _ => none
  | gl, n + 1 => fun t sc e => trStep gl (trX gl n) sc (trX (strip gl) n) t e

/-! ### what one knows of where one stands -/
/-- what one knows of an exception's class -/
def ExcAt (K : PySem.W.Frag) (mg : Str → Option Value) (G : Gm) (x : Str) (c : Nat) (mk : Bool) : Prop :=
  ∃ A, G.c c = some A ∧ mg x = some (.ref A) ∧ (∀ n A', G.c n = some A' → PySem.W.exmOne K (.ref A') (.ref A) = some (subX n c)) ∧
    (mk = true → PySem.W.excIn K A He.veBase "ValueError.__new__" = true ∧ PySem.W.keepIn K (.ref A) = true ∧ PySem.W.subIn K (.ref A) (.type "BaseException") = some true ∧ PySem.W.typeIn K (.ref A) = some (.type "type"))
/-- what one knows of the module -/
def KwB (K : PySem.W.Frag) (fd : FuncData) (ps ks : List Str) : Prop := ∀ (s : Shared) (ws : List Value), K.In s.heap → ws.length = ks.length → BindsTo s fd ⟨[], ks.zip ws⟩ (ps.zip (permL (permOf ps ks) ws))
def KwOk (gl : Str → Option Gb) (K : PySem.W.Frag) (fd : FuncData) (ps : List Str) (i : Nat) : Prop := ∀ l e, gl "(" = some (.kwo l) → e ∈ l → e.1 = i → e.2.1 = ps ∧ ∀ ks ∈ e.2.2, KwB K fd ps ks
structure GOK (gl : Str → Option Gb) (G : Gm) (C : CallI) (k : Nat) (cd : Bool) (X : Cx) : Prop where
  free : ∀ x, gl x = some .free → X.mg x = none
  con : ∀ x w, gl x = some (.con w) → ∃ u v, X.mg x = some u ∧ RelV v u ∧ ∀ d, RW X.K G d w v
  fn : ∀ x i z, gl x = some (.fn i z) → ∃ f fd ps, X.mg x = some (.ref f) ∧ PySem.W.keepIn X.K (.ref f) = true ∧ Binds X.K fd ps [] ∧ FnG cd X.prog X.w X.K X.mg X.base (L2.CX X.prog X.w) (3 * k) f fd ps (spOf X.K G C i) ∧ KwOk gl X.K fd ps i
  exc : ∀ x c mk, gl x = some (.exc c mk) → ExcAt X.K X.mg G x c mk
  rep : gl "repr" = some .free → cd = true
  fld : ∀ l, gl ")" = some (.flds l) → X.mg "super" = none ∧ ∀ e ∈ l, ∀ A, G.c e.1 = some A → ∃ fI, FldC X.prog X.K A e.2 fI ∧ PySem.W.keepIn X.K (.ref A) = true
structure XOK (gl : Str → Option Gb) (G : Gm) (C : CallI) (k : Nat) (sc : SC) (X : Cx) : Prop where
  N : X.N = sc.N
  nd : X.N.Nodup
  kind : X.env.scope.kind = .function
  nm : X.env.scope.names = sc.nm
  fnb : ∀ x, sc.fnb x = true → X.fn x = true
  calm : X.calm = true
  room : Room (3 * k) X.A
  cold : sc.cold = true → Cold X.A
  g : GOK gl G C k sc.cold X
  said : sc.lam = true → GOK (strip gl) G C k false X ∧ ∀ x md tab, gl x = some (.said md tab) → ∀ Y, SameAs X Y → Gl Y x → SaidAt Y G (3 * k) md tab x
section
variable {gl : Str → Option Gb} {G : Gm} {C : CallI} {k : Nat} {sc : SC} {X : Cx} {Z : WX} {rec : Rec}
theorem XOK.look (h : XOK gl G C k sc X) {x : Str} {kd : NameKind} (e : sc.nm.lookup x = some kd) : X.env.scope.names.lookup x = some kd := by rw [h.nm]; exact e
theorem XOK.gl_ (h : XOK gl G C k sc X) {x : Str} (e : sc.nm.lookup x = some .globalImplicit) : Gl X x := h.look e
theorem nameOk_ok {x : Str} (h : nameOk x = true) : (x == ("__debug__" : Str)) = false ∧ (x == ("__classdict__" : Str)) = false ∧ x ≠ "__name__" := by
  unfold nameOk at h
  simp only [Bool.and_eq_true, Bool.not_eq_true'] at h
  exact ⟨h.1.1, h.1.2, fun e => by rw [e] at h; exact absurd h.2 (by decide)⟩
theorem isFree_ok (h : XOK gl G C k sc X) {x : Str} (hf : isFree gl sc x = true) : Gl X x ∧ X.mg x = none ∧ (x == ("__debug__" : Str)) = false ∧ x ≠ "__name__" := by
  unfold isFree at hf
  simp only [Bool.and_eq_true, decide_eq_true_eq] at hf
  obtain ⟨⟨h1, h2⟩, h3⟩ := hf
  obtain ⟨n1, n2, n3⟩ := nameOk_ok h1
  refine ⟨h.gl_ h2, ?_, n1, n3⟩
  split at h3
  · rename_i e
    exact h.g.free x e
  · cases h3
variable (gl G C k) in
structure Snd (rec : Rec) : Prop where
  val : ∀ (sc : SC) (X : Cx) (Z : WX) (e : Expr) (x : Ex), XOK gl G C k sc X → Takes X Z → rec false sc e = some x → PE X e (tE X.K G Z (evalE C x)) ∧ (isNew x = true → PE X e (tN X.K G Z (evalE C x)))
  tst : ∀ (sc : SC) (X : Cx) (Z : WX) (e : Expr) (x : Ex), XOK gl G C k sc X → Takes X Z → rec true sc e = some x → PT X e (tB' X.K G Z (evalT C x))
theorem var_ok (h : XOK gl G C k sc X) {x : Str} {i : Nat} {pos : Pos} (hn : nameOk x = true) (hk : sc.nm.lookup x = some .local ∨ sc.nm.lookup x = some .cell ∨ sc.nm.lookup x = some .free) (e : slotOf sc.N x = some i) :
    X.N[i]? = some x ∧ Vis X.env.scope x ∧ (x == ("__debug__" : Str)) = false ∧ (x == ("__classdict__" : Str)) = false := by
  obtain ⟨n1, n2, _⟩ := nameOk_ok hn
  refine ⟨by rw [h.N]; exact slotOf_ok e, ?_, n1, n2⟩
  rcases hk with e | e | e
  · exact .inl (h.look e)
  · exact .inr (.inl (h.look e))
  · exact .inr (.inr (h.look e))
/-- what a name gives -/
theorem name_cases {x : Str} {y : Ex} (e : trName gl sc x = some y) : nameOk x = true ∧ ((∃ w, sc.nm.lookup x = some .globalImplicit ∧ gl x = some (.con w) ∧ y = .cst w) ∨ ∃ i, (sc.nm.lookup x = some .local ∨ sc.nm.lookup x = some .cell ∨ sc.nm.lookup x = some .free) ∧ slotOf sc.N x = some i ∧ y = .var i) := by
  unfold trName at e
  split at e
  · rename_i hn
    refine ⟨hn, ?_⟩
    split at e
    · rename_i hk
      split at e
      · rename_i w hg
        cases e
        exact .inl ⟨w, hk, hg, rfl⟩
      · cases e
    · rename_i hk
      cases e2 : slotOf sc.N x with
      | none => rw [e2] at e; cases e
      | some i => rw [e2] at e; cases e; exact .inr ⟨i, .inl hk, rfl, rfl⟩
    · rename_i hk
      cases e2 : slotOf sc.N x with
      | none => rw [e2] at e; cases e
      | some i => rw [e2] at e; cases e; exact .inr ⟨i, .inr (.inl hk), rfl, rfl⟩
    · rename_i hk
      cases e2 : slotOf sc.N x with
      | none => rw [e2] at e; cases e
      | some i => rw [e2] at e; cases e; exact .inr ⟨i, .inr (.inr hk), rfl, rfl⟩
    · cases e
  · cases e
theorem name_val (h : XOK gl G C k sc X) {x : Str} {y : Ex} {pos : Pos} (e : trName gl sc x = some y) : PE X (.Name x pos) (tE X.K G Z (evalE C y)) := by
  obtain ⟨hn, ⟨w, hk, hg, rfl⟩ | ⟨i, hk, hs, rfl⟩⟩ := name_cases e
  · obtain ⟨u, v, hm, r, hw⟩ := h.g.con x w hg
    exact se_cst (pe_glob (h.gl_ hk) hm r (nameOk_ok hn).1) hw
  · obtain ⟨a1, a2, a3, a4⟩ := var_ok (pos := pos) h hn hk hs
    exact se_var a1 a2 a3 a4
theorem name_rd (h : XOK gl G C k sc X) {x : Str} {y : Ex} {pos : Pos} (e : trName gl sc x = some y) : PE X (.Name x pos) (tR X.K G Z (rdE C y)) := by
  obtain ⟨hn, ⟨w, hk, hg, rfl⟩ | ⟨i, hk, hs, rfl⟩⟩ := name_cases e
  · obtain ⟨u, v, hm, r, hw⟩ := h.g.con x w hg
    exact sr_of (fun _ z => nomatch z) (se_cst (pe_glob (h.gl_ hk) hm r (nameOk_ok hn).1) hw)
  · obtain ⟨a1, a2, a3, a4⟩ := var_ok (pos := pos) h hn hk hs
    exact sr_var a1 a2 a3 a4
theorem name_new {x : Str} {y : Ex} (e : trName gl sc x = some y) : isNew y = false := by
  obtain ⟨hn, ⟨w, hk, hg, rfl⟩ | ⟨i, hk, hs, rfl⟩⟩ := name_cases e <;> rfl
theorem isVar_no {y : Ex} (h : isVar y = false) (i : Nat) : y ≠ .var i := fun e => by rw [e] at h; cases h
theorem isStar_no {y : Ex} (h : isStar y = false) (z : Ex) : y ≠ .star z := fun e => by rw [e] at h; cases h
theorem rd_ok (R : Snd gl G C k rec) (h : XOK gl G C k sc X) (tk : Takes X Z) {e : Expr} {y : Ex} (he : rdT gl rec sc e = some y) : PE X e (tR X.K G Z (rdE C y)) := by
  unfold rdT at he
  split at he
  · exact name_rd h he
  · cases he
  · cases e2 : rec false sc e with
    | none => rw [e2] at he; cases he
    | some x =>
      rw [e2, Option.bind_some] at he
      split at he
      · cases he
      · rename_i hv
        cases he
        exact sr_of (isVar_no (by simpa using hv)) (R.val sc X Z e y h tk e2).1
theorem star_of {e : Expr} {es : List Expr} {env : PySem.Env} (h : ∀ a p, e ≠ .Starred a p) : starEach (e :: es) env = (false, eval e env) :: starEach es env := by
  cases e <;> first | rfl | exact absurd rfl (h _ _)
theorem rd_star {e : Expr} {y : Ex} (he : rdT gl rec sc e = some y) (a : Expr) (p : Pos) : e ≠ .Starred a p := fun z => by
  subst z
  unfold rdT at he
  cases he
theorem val_star {e : Expr} {y : Ex} (he : valT rec sc e = some y) (a : Expr) (p : Pos) : e ≠ .Starred a p := fun z => by
  subst z
  unfold valT at he
  cases he
theorem val_ok (R : Snd gl G C k rec) (h : XOK gl G C k sc X) (tk : Takes X Z) {e : Expr} {y : Ex} (he : valT rec sc e = some y) : PE X e (tE X.K G Z (evalE C y)) ∧ isStar y = false := by
  unfold valT at he
  split at he
  · cases he
  · cases e2 : rec false sc e with
    | none => rw [e2] at he; cases he
    | some x =>
      rw [e2, Option.bind_some] at he
      split at he
      · cases he
      · rename_i hv
        cases he
        exact ⟨(R.val sc X Z e y h tk e2).1, by simpa using hv⟩
theorem args_ok (R : Snd gl G C k rec) (h : XOK gl G C k sc X) (tk : Takes X Z) : ∀ {es : List Expr} {ys : List Ex}, mapO (argT rec sc) es = some ys → PA X es (tL X.K G Z (evalL C ys))
  | [], ys, e => by
    cases e
    exact sl_nil
  | e :: es, ys, he => by
    simp only [mapO] at he
    cases e1 : argT rec sc e with
    | none => rw [e1] at he; cases he
    | some y =>
      rw [e1, Option.bind_some] at he
      cases e2 : mapO (argT rec sc) es with
      | none => rw [e2] at he; cases he
      | some r =>
        rw [e2] at he
        cases he
        have ih := args_ok R h tk e2
        unfold argT at e1
        split at e1
        · rename_i a p
          cases e3 : rec false sc a with
          | none => rw [e3] at e1; cases e1
          | some z =>
            rw [e3] at e1
            cases e1
            exact sl_star (R.val sc X Z a z h tk e3).1 ih
        · rename_i hns
          cases e3 : rec false sc e with
          | none => rw [e3] at e1; cases e1
          | some z =>
            rw [e3, Option.bind_some] at e1
            split at e1
            · cases e1
            · rename_i hv
              cases e1
              exact sl_cons (isStar_no (by simpa using hv)) (R.val sc X Z e y h tk e3).1 ih (star_of hns)
theorem kws_ok (R : Snd gl G C k rec) (h : XOK gl G C k sc X) (tk : Takes X Z) : ∀ {kws : List Keyword} {ys : List Ex}, mapO (argT rec sc) (kws.map (·.value)) = some ys → (∀ k ∈ kws, noStar k.value = true) → PK X kws (tL X.K G Z (evalL C ys))
  | [], ys, e, _ => by
    cases e
    exact sk_nil
  | ⟨nm, e, kp⟩ :: es, ys, he, hn => by
    simp only [mapO, List.map_cons] at he
    cases e1 : argT rec sc e with
    | none => rw [e1] at he; cases he
    | some y =>
      rw [e1, Option.bind_some] at he
      cases e2 : mapO (argT rec sc) (es.map (·.value)) with
      | none => rw [e2] at he; cases he
      | some r =>
        rw [e2] at he
        cases he
        have ih := kws_ok R h tk e2 fun k hk => hn k (List.mem_cons_of_mem _ hk)
        have hn0 : noStar e = true := hn _ List.mem_cons_self
        unfold argT at e1
        split at e1
        · cases hn0
        · rename_i hns
          cases e3 : rec false sc e with
          | none => rw [e3] at e1; cases e1
          | some z =>
            rw [e3, Option.bind_some] at e1
            split at e1
            · cases e1
            · rename_i hv
              cases e1
              exact sk_cons (isStar_no (by simpa using hv)) (R.val sc X Z e y h tk e3).1 ih
theorem rds_ok (R : Snd gl G C k rec) (h : XOK gl G C k sc X) (tk : Takes X Z) : ∀ {es : List Expr} {ys : List Ex}, mapO (rdT gl rec sc) es = some ys → PA X es (tRs X.K G Z (evalRs C ys)) ∧ ∀ e ∈ es, ∀ a p, e ≠ .Starred a p
  | [], ys, e => by
    cases e
    exact ⟨sr_nil, fun _ h => nomatch h⟩
  | e :: es, ys, he => by
    simp only [mapO] at he
    cases e1 : rdT gl rec sc e with
    | none => rw [e1] at he; cases he
    | some y =>
      rw [e1, Option.bind_some] at he
      cases e2 : mapO (rdT gl rec sc) es with
      | none => rw [e2] at he; cases he
      | some r =>
        rw [e2] at he
        cases he
        obtain ⟨ih, ih2⟩ := rds_ok R h tk e2
        refine ⟨sr_cons (rd_ok R h tk e1) ih (star_of (rd_star e1)), fun e' he' => ?_⟩
        rcases List.mem_cons.mp he' with rfl | he'
        · exact rd_star e1
        · exact ih2 e' he'
theorem nostar_any {pos : Pos} {env : PySem.Env} : ∀ {es : List Expr}, (∀ e ∈ es, ∀ a p, e ≠ .Starred a p) → (backTo pos (starEach es env)).any (·.1) = false
  | [], _ => rfl
  | e :: es, h => by
    rw [star_of (h e List.mem_cons_self)]
    show (false || (backTo pos (starEach es env)).any (·.1)) = false
    rw [nostar_any fun e' he => h e' (List.mem_cons_of_mem _ he)]
    rfl
theorem bin_ok (R : Snd gl G C k rec) (h : XOK gl G C k sc X) (tk : Takes X Z) {a b : Expr} {op : Operator} {y : Ex} {pos : Pos} (he : stBin gl rec sc a op b = some y) : PE X (.BinOp a op b pos) (tE X.K G Z (evalE C y)) ∧ (isNew y = true → PE X (.BinOp a op b pos) (tN X.K G Z (evalE C y))) := by
  have two : ∀ (o : Bop), op = opOf o → ((rec false sc a).bind fun x => (rec false sc b).map fun z => Ex.bin o x z) = some y → PE X (.BinOp a op b pos) (tE X.K G Z (evalE C y)) ∧ (isNew y = true → PE X (.BinOp a op b pos) (tN X.K G Z (evalE C y))) := by
    intro o eo hz
    subst eo
    cases e1 : rec false sc a with
    | none => rw [e1] at hz; cases hz
    | some x =>
      rw [e1, Option.bind_some] at hz
      cases e2 : rec false sc b with
      | none => rw [e2] at hz; cases hz
      | some z =>
        rw [e2] at hz
        cases hz
        exact ⟨se_bin (R.val sc X Z a x h tk e1).1 (R.val sc X Z b z h tk e2).1, fun z => nomatch z⟩
  unfold stBin at he
  split at he
  · split at he
    · cases e1 : rdT gl rec sc a with
      | none => rw [e1] at he; cases he
      | some x =>
        rw [e1, Option.bind_some] at he
        cases e2 : rdT gl rec sc b with
        | none => rw [e2] at he; cases he
        | some z =>
          rw [e2] at he
          cases he
          have := sn_addL (pos := pos) (rd_ok R h tk e1) (rd_ok R h tk e2)
          exact ⟨of_new this, fun _ => this⟩
    · exact two .add rfl he
  · split at he
    · cases e1 : rec false sc a with
      | none => rw [e1] at he; cases he
      | some x =>
        rw [e1, Option.bind_some] at he
        cases e2 : rec false sc b with
        | none => rw [e2] at he; cases he
        | some z =>
          rw [e2] at he
          cases he
          have := sn_mulL (pos := pos) (R.val sc X Z a x h tk e1).1 (R.val sc X Z b z h tk e2).1
          exact ⟨of_new this, fun _ => this⟩
    · exact two .mul rfl he
  · rename_i h1 h2
    cases eo : bopTo op with
    | none => rw [eo] at he; cases he
    | some o =>
      rw [eo, Option.bind_some] at he
      refine two o ?_ he
      cases op <;> simp only [bopTo] at eo <;> first | cases eo | skip
      all_goals rfl
theorem copTo_ok {op : CmpOp} {o : Cop} (h : copTo op = some o) : op = copOf o := by
  cases op <;> simp only [copTo] at h <;> first | cases h | skip
  all_goals rfl
theorem cmp_ok (R : Snd gl G C k rec) (h : XOK gl G C k sc X) (tk : Takes X Z) {a : Expr} {ops : List CmpOp} {bs : List Expr} {y : Ex} {pos : Pos} (he : stCmp gl rec sc a ops bs = some y) :
    PE X (.Compare a ops bs pos) (tE X.K G Z (evalE C y)) ∧ isNew y = false ∧ PT X (.Compare a ops bs pos) (tB' X.K G Z (evalT C y)) := by
  unfold stCmp at he
  split at he
  · cases e1 : rec false sc a with
    | none => rw [e1] at he; cases he
    | some x =>
      rw [e1] at he
      cases he
      have := (R.val sc X Z a x h tk e1).1
      exact ⟨se_isN this, rfl, st_isN this⟩
  · cases e1 : rec false sc a with
    | none => rw [e1] at he; cases he
    | some x =>
      rw [e1] at he
      cases he
      have := (R.val sc X Z a x h tk e1).1
      exact ⟨se_notN this, rfl, st_notN this⟩
  · rename_i op b _ _
    split at he
    · cases he
    rename_i hm
    cases eo : copTo op with
    | none => rw [eo] at he; cases he
    | some o =>
      rw [eo, Option.bind_some] at he
      cases e1 : rdT gl rec sc a with
      | none => rw [e1] at he; cases he
      | some x =>
        rw [e1, Option.bind_some] at he
        cases e2 : rdT gl rec sc b with
        | none => rw [e2] at he; cases he
        | some z =>
          rw [e2] at he
          cases he
          have := copTo_ok eo
          subst this
          have hm := Bool.eq_false_iff.mpr hm
          exact ⟨se_cmp (room65 h.room) hm (rd_ok R h tk e1) (rd_ok R h tk e2), rfl, st_cmp (room65 h.room) hm (rd_ok R h tk e1) (rd_ok R h tk e2)⟩
  · rename_i op op2 b c
    cases eo : copTo op with
    | none => rw [eo] at he; cases he
    | some o =>
      rw [eo, Option.bind_some] at he
      cases eo2 : copTo op2 with
      | none => rw [eo2] at he; cases he
      | some p =>
        rw [eo2, Option.bind_some] at he
        split at he
        · rename_i hi
          rw [Bool.and_eq_true] at hi
          cases e1 : rec false sc a with
          | none => rw [e1] at he; cases he
          | some x =>
            rw [e1, Option.bind_some] at he
            cases e2 : rec false sc b with
            | none => rw [e2] at he; cases he
            | some z =>
              rw [e2, Option.bind_some] at he
              cases e3 : rec false sc c with
              | none => rw [e3] at he; cases he
              | some w =>
                rw [e3] at he
                cases he
                have q1 := copTo_ok eo
                have q2 := copTo_ok eo2
                subst q1 q2
                have a1 := (R.val sc X Z a x h tk e1).1
                have a2 := (R.val sc X Z b z h tk e2).1
                have a3 := (R.val sc X Z c w h tk e3).1
                exact ⟨se_chain hi.1 hi.2 a1 a2 a3, rfl, st_chain hi.1 hi.2 a1 a2 a3⟩
        · cases he
  · cases he
theorem bools_ok (R : Snd gl G C k rec) (h : XOK gl G C k sc X) (tk : Takes X Z) {op : BoolOp} : ∀ {vs : List Expr} {ys : List Ex} {y : Ex} {pos : Pos}, mapO (rec false sc) vs = some ys → foldB op ys = some y → PE X (.BoolOp op vs pos) (tE X.K G Z (evalE C y))
  | [], ys, y, pos, e, f => by cases e; cases f
  | [v], ys, y, pos, e, f => by
    simp only [mapO] at e
    cases e1 : rec false sc v with
    | none => rw [e1] at e; cases e
    | some x =>
      rw [e1] at e
      cases e
      cases f
      exact pe_one (R.val sc X Z v y h tk e1).1
  | v :: w :: vs, ys, y, pos, e, f => by
    rw [mapO] at e
    cases e1 : rec false sc v with
    | none => rw [e1] at e; cases e
    | some x =>
      rw [e1, Option.bind_some] at e
      cases e2 : mapO (rec false sc) (w :: vs) with
      | none => rw [e2] at e; cases e
      | some r =>
        rw [e2] at e
        cases e
        cases r with
        | nil => simp only [mapO] at e2; cases e3 : rec false sc w <;> rw [e3] at e2 <;> first | cases e2 | (cases e4 : mapO (rec false sc) vs <;> rw [e4] at e2 <;> cases e2)
        | cons x2 r =>
          simp only [foldB] at f
          cases e5 : foldB op (x2 :: r) with
          | none => rw [e5] at f; cases f
          | some z =>
            rw [e5] at f
            cases f
            have ih := bools_ok R h tk (pos := pos) e2 e5
            cases op with
            | And => exact se_and (R.val sc X Z v x h tk e1).1 ih
            | Or => exact se_or (R.val sc X Z v x h tk e1).1 ih
theorem tests_ok (R : Snd gl G C k rec) (h : XOK gl G C k sc X) (tk : Takes X Z) {op : BoolOp} : ∀ {vs : List Expr} {ys : List Ex} {y : Ex} {pos : Pos}, mapO (rec true sc) vs = some ys → foldB op ys = some y → PW X (.BoolOp op vs pos) (tB' X.K G Z (evalT C y))
  | [], ys, y, pos, e, f => by cases e; cases f
  | [v], ys, y, pos, e, f => by
    simp only [mapO] at e
    cases e1 : rec true sc v with
    | none => rw [e1] at e; cases e
    | some x =>
      rw [e1] at e
      cases e
      cases f
      cases op with
      | And => exact sw_and1 (R.tst sc X Z v y h tk e1)
      | Or => exact sw_or1 (R.tst sc X Z v y h tk e1)
  | v :: w :: vs, ys, y, pos, e, f => by
    rw [mapO] at e
    cases e1 : rec true sc v with
    | none => rw [e1] at e; cases e
    | some x =>
      rw [e1, Option.bind_some] at e
      cases e2 : mapO (rec true sc) (w :: vs) with
      | none => rw [e2] at e; cases e
      | some r =>
        rw [e2] at e
        cases e
        cases r with
        | nil => simp only [mapO] at e2; cases e3 : rec true sc w <;> rw [e3] at e2 <;> first | cases e2 | (cases e4 : mapO (rec true sc) vs <;> rw [e4] at e2 <;> cases e2)
        | cons x2 r =>
          simp only [foldB] at f
          cases e5 : foldB op (x2 :: r) with
          | none => rw [e5] at f; cases f
          | some z =>
            rw [e5] at f
            cases f
            have ih := tests_ok R h tk (pos := pos) e2 e5
            cases op with
            | And => exact sw_and (R.tst sc X Z v x h tk e1) ih
            | Or => exact sw_or (R.tst sc X Z v x h tk e1) ih
end
end Mi

/-! From the text to the small language: calls, subscripts, comprehensions, any expression. -/
namespace Mi
open PySem PySem.Spec PyProof.Rows L2
section
variable {gl : Str → Option Gb} {G : Gm} {C : CallI} {k : Nat} {sc : SC} {X : Cx} {Z : WX} {rec : Rec}
theorem tyTo_ok {x : Str} {t : Ty} (h : tyTo x = some t) : x = Str.ofString (tyName t) := by
  unfold tyTo at h
  repeat' (split at h)
  all_goals first | (cases h; assumption) | cases h
theorem biTo_ok {x : Str} {b : Bi} (h : biTo x = some b) : bootBuiltins x = some (biId b) := by
  unfold biTo at h
  by_cases e : x = "len"
  · rw [if_pos e] at h
    subst e
    cases h
    exact by decide +kernel
  rw [if_neg e] at h
  clear e
  by_cases e : x = "tuple"
  · rw [if_pos e] at h
    subst e
    cases h
    exact by decide +kernel
  rw [if_neg e] at h
  clear e
  by_cases e : x = "list"
  · rw [if_pos e] at h
    subst e
    cases h
    exact by decide +kernel
  rw [if_neg e] at h
  clear e
  by_cases e : x = "all"
  · rw [if_pos e] at h
    subst e
    cases h
    exact by decide +kernel
  rw [if_neg e] at h
  clear e
  by_cases e : x = "sum"
  · rw [if_pos e] at h
    subst e
    cases h
    exact by decide +kernel
  rw [if_neg e] at h
  clear e
  by_cases e : x = "max"
  · rw [if_pos e] at h
    subst e
    cases h
    exact by decide +kernel
  rw [if_neg e] at h
  clear e
  by_cases e : x = "min"
  · rw [if_pos e] at h
    subst e
    cases h
    exact by decide +kernel
  rw [if_neg e] at h
  clear e
  by_cases e : x = "abs"
  · rw [if_pos e] at h
    subst e
    cases h
    exact by decide +kernel
  rw [if_neg e] at h
  clear e
  by_cases e : x = "sorted"
  · rw [if_pos e] at h
    subst e
    cases h
    exact by decide +kernel
  rw [if_neg e] at h
  clear e
  by_cases e : x = "repr"
  · rw [if_pos e] at h
    subst e
    cases h
    exact by decide +kernel
  rw [if_neg e] at h
  clear e
  by_cases e : x = "any"
  · rw [if_pos e] at h
    subst e
    cases h
    exact by decide +kernel
  rw [if_neg e] at h
  clear e
  by_cases e : x = "int"
  · rw [if_pos e] at h
    subst e
    cases h
    exact by decide +kernel
  rw [if_neg e] at h
  clear e
  by_cases e : x = "str"
  · rw [if_pos e] at h
    subst e
    cases h
    exact by decide +kernel
  rw [if_neg e] at h
  clear e
  cases h
theorem biTo_repr {x : Str} (h : biTo x = some .repr) : x = "repr" := by
  unfold biTo at h
  by_cases e : x = "len"
  · rw [if_pos e] at h
    cases h
  rw [if_neg e] at h
  clear e
  by_cases e : x = "tuple"
  · rw [if_pos e] at h
    cases h
  rw [if_neg e] at h
  clear e
  by_cases e : x = "list"
  · rw [if_pos e] at h
    cases h
  rw [if_neg e] at h
  clear e
  by_cases e : x = "all"
  · rw [if_pos e] at h
    cases h
  rw [if_neg e] at h
  clear e
  by_cases e : x = "sum"
  · rw [if_pos e] at h
    cases h
  rw [if_neg e] at h
  clear e
  by_cases e : x = "max"
  · rw [if_pos e] at h
    cases h
  rw [if_neg e] at h
  clear e
  by_cases e : x = "min"
  · rw [if_pos e] at h
    cases h
  rw [if_neg e] at h
  clear e
  by_cases e : x = "abs"
  · rw [if_pos e] at h
    cases h
  rw [if_neg e] at h
  clear e
  by_cases e : x = "sorted"
  · rw [if_pos e] at h
    cases h
  rw [if_neg e] at h
  clear e
  by_cases e : x = "repr"
  · exact e
  rw [if_neg e] at h
  clear e
  by_cases e : x = "any"
  · rw [if_pos e] at h
    cases h
  rw [if_neg e] at h
  clear e
  by_cases e : x = "int"
  · rw [if_pos e] at h
    cases h
  rw [if_neg e] at h
  clear e
  by_cases e : x = "str"
  · rw [if_pos e] at h
    cases h
  rw [if_neg e] at h
  clear e
  cases h
theorem in2_lt {A : Around} (h : A.units + 65 < cLine) : A.in1.in1.units < cLine := by
  show A.units + 1 + 1 < cLine
  omega
theorem bi_all_ok {X : Cx} {G : Gm} (hc : X.calm = true) (b : Bi) (cold : b = .repr → Cold X.A) (hu : X.A.units + 65 < cLine) : (newB b = false → BiOk X G (RW X.K G) b (biId b)) ∧ (newB b = true → BiOk X G (RN X.K G) b (biId b)) ∧ ((∃ id, biId b = .builtin id) ∨ ∃ T, biId b = .type T) := by
  cases b with
  | len => exact ⟨fun _ => bi_len, (fun z => nomatch z), .inl ⟨_, rfl⟩⟩
  | tuple => exact ⟨fun _ => bi_tuple, (fun z => nomatch z), .inr ⟨_, rfl⟩⟩
  | list => exact ⟨(fun z => nomatch z), fun _ => bi_list, .inr ⟨_, rfl⟩⟩
  | sorted => exact ⟨(fun z => nomatch z), fun _ => bi_sorted hc (in2_lt hu) hu, .inl ⟨_, rfl⟩⟩
  | all => exact ⟨fun _ => bi_all hc, (fun z => nomatch z), .inl ⟨_, rfl⟩⟩
  | sum => exact ⟨fun _ => bi_sum hc, (fun z => nomatch z), .inl ⟨_, rfl⟩⟩
  | max => exact ⟨fun _ => bi_max hc, (fun z => nomatch z), .inl ⟨_, rfl⟩⟩
  | min => exact ⟨fun _ => bi_min hc hu, (fun z => nomatch z), .inl ⟨_, rfl⟩⟩
  | repr => exact ⟨fun _ => bi_repr (cold rfl) hu, (fun z => nomatch z), .inl ⟨_, rfl⟩⟩
  | any => exact ⟨fun _ => bi_any hc, (fun z => nomatch z), .inl ⟨_, rfl⟩⟩
  | int => exact ⟨fun _ => bi_int, (fun z => nomatch z), .inr ⟨_, rfl⟩⟩
  | str => exact ⟨fun _ => bi_str, (fun z => nomatch z), .inr ⟨_, rfl⟩⟩
  | abs => exact ⟨fun _ => bi_abs, (fun z => nomatch z), .inl ⟨_, rfl⟩⟩
theorem call_ok (R : Snd gl G C k rec) (h : XOK gl G C k sc X) (tk : Takes X Z) {f : Expr} {args : List Expr} {kws : List Keyword} {y : Ex} {pos : Pos} (he : stCall gl rec sc f args kws = some y) :
    PE X (.Call f args kws pos) (tE X.K G Z (evalE C y)) ∧ (isNew y = true → PE X (.Call f args kws pos) (tN X.K G Z (evalE C y))) := by
  unfold stCall at he
  split at he
  · rename_i x px k0 kr
    split at he
    rotate_left
    · cases he
    split at he
    rotate_left
    · cases he
    rename_i hc
    rw [Bool.and_eq_true, decide_eq_true_eq] at hc
    obtain ⟨hn, hk⟩ := hc
    obtain ⟨n1, n2, n3⟩ := nameOk_ok hn
    split at he
    rotate_left
    · cases he
    rename_i i zz hg
    obtain ⟨fa, fd, ps, hm, hkp, hb, F, hkw⟩ := h.g.fn x i zz hg
    unfold stKw at he
    split at he
    rotate_left
    · cases he
    rename_i l hl
    split at he
    rotate_left
    · cases he
    rename_i e hf
    split at he
    rotate_left
    · cases he
    rename_i hcond
    simp only [Bool.and_eq_true, beq_iff_eq, List.contains_iff_mem, List.all_eq_true] at hcond
    obtain ⟨⟨c1, c2⟩, c3⟩ := hcond
    have hmem := List.mem_of_find?_eq_some hf
    have hei : e.1 = i := by simpa using List.find?_some hf
    obtain ⟨q1, q2⟩ := hkw l e hl hmem hei
    have q3 := q2 _ c1
    cases e1 : mapO (argT rec sc) ((k0 :: kr).map (·.value)) with
    | none => rw [e1] at he; cases he
    | some xs =>
      rw [e1] at he
      cases he
      refine ⟨?_, fun z => nomatch z⟩
      have ka : ∀ (kws : List Keyword), (backToKw pos (keywordEach kws X.env)).filterMap (·.1) = kws.filterMap (·.arg) ∧ ((∀ k ∈ kws, k.arg.isSome = true) → (backToKw pos (keywordEach kws X.env)).all (·.1.isSome) = true ∧ (backToKw pos (keywordEach kws X.env)).any (·.1.isNone) = false ∧ (kws.filterMap (·.arg)).length = kws.length) := by
        intro kws
        induction kws with
        | nil => exact ⟨rfl, fun _ => ⟨rfl, rfl, rfl⟩⟩
        | cons k kws ih =>
          obtain ⟨nm, v, kp⟩ := k
          obtain ⟨i1, i2⟩ := ih
          constructor
          · show List.filterMap (·.1) ((nm, _) :: backToKw pos (keywordEach kws X.env)) = _
            cases nm with
            | none => simpa using i1
            | some y => simpa using i1
          · intro hs
            obtain ⟨j1, j2, j3⟩ := i2 fun k hk => hs k (List.mem_cons_of_mem _ hk)
            have hnm : nm.isSome = true := hs _ List.mem_cons_self
            obtain ⟨y, rfl⟩ := Option.isSome_iff_exists.mp hnm
            refine ⟨?_, ?_, ?_⟩
            · show (true && (backToKw pos (keywordEach kws X.env)).all (·.1.isSome)) = true
              rw [j1]
              rfl
            · show (false || (backToKw pos (keywordEach kws X.env)).any (·.1.isNone)) = false
              rw [j2]
              rfl
            · show (y :: kws.filterMap (·.arg)).length = _
              rw [List.length_cons, List.length_cons, j3]
      obtain ⟨k1, k2⟩ := ka (k0 :: kr)
      obtain ⟨k3, k4, k5⟩ := k2 fun k hk => (c2 k hk).1
      rw [q1] at c3 ⊢
      exact se_callK tk F h.cold h.room (h.gl_ hk) hm hkp q3 (by rw [c3, k5]) (kws_ok R h tk e1 fun k hk => (c2 k hk).2) n1 k3 k1 (by rw [k4]; rfl)
  · rename_i x px
    split at he
    · rename_i hc
      rw [Bool.and_eq_true, decide_eq_true_eq] at hc
      obtain ⟨hn, hk⟩ := hc
      obtain ⟨n1, n2, n3⟩ := nameOk_ok hn
      split at he
      · rename_i i zz hg
        obtain ⟨fa, fd, ps, hm, hkp, hb, F, _⟩ := h.g.fn x i zz hg
        split at he
        rotate_left
        · cases he
        rename_i hns
        cases e1 : mapO (argT rec sc) args with
        | none => rw [e1] at he; cases he
        | some xs =>
          rw [e1] at he
          cases he
          refine ⟨?_, fun z => nomatch z⟩
          cases args with
          | nil =>
            cases e1
            exact se_call0 tk F h.cold h.room (h.gl_ hk) hm hkp hb n1
          | cons a as =>
            have ha := args_ok R h tk e1
            have hst' : ∀ e ∈ a :: as, ∀ v p, e ≠ Expr.Starred v p := fun e he v p z => by
              have := List.all_eq_true.mp hns e he
              rw [z] at this
              cases this
            exact se_call tk F h.cold h.room (h.gl_ hk) hm hkp hb ha n1 (star_of (hst' a List.mem_cons_self)) (nostar_any fun e he => hst' e (List.mem_cons_of_mem _ he))
      · rename_i hg
        split at he
        · rename_i ex
          split at he
          · rename_i a T pT
            split at he
            · rename_i hT
              cases e1 : tyTo T with
              | none => rw [e1] at he; cases he
              | some t =>
                rw [e1, Option.bind_some] at he
                cases e2 : valT rec sc a with
                | none => rw [e2] at he; cases he
                | some z =>
                  rw [e2] at he
                  cases he
                  have eT := tyTo_ok e1
                  subst eT
                  subst ex
                  obtain ⟨g1, g2, _, _⟩ := isFree_ok h hT
                  exact ⟨se_isin (val_ok R h tk e2).1 (h.gl_ hk) (h.g.free _ hg) g1 g2 (star_of (val_star e2)), fun z => nomatch z⟩
            · cases he
          · cases he
        · split at he
          · cases he
          · rename_i hne
            cases e1 : biTo x with
            | none => rw [e1] at he; cases he
            | some b =>
              rw [e1, Option.bind_some] at he
              cases e2 : mapO (rdT gl rec sc) args with
              | none => rw [e2] at he; cases he
              | some xs =>
                rw [e2] at he
                cases he
                have hv := biTo_ok e1
                obtain ⟨b1, b2, b3⟩ := bi_all_ok (G := G) h.calm b (fun eb => h.cold (h.g.rep (by rw [eb] at e1; rw [← biTo_repr e1]; exact hg))) (room65 h.room)
                obtain ⟨ha, hst⟩ := rds_ok R h tk e2
                cases args with
                | nil => exact absurd rfl hne
                | cons a as =>
                  have q1 := star_of (es := as) (env := X.env) (hst a List.mem_cons_self)
                  have q2 := nostar_any (pos := pos) (env := X.env) (es := as) fun e he => hst e (List.mem_cons_of_mem _ he)
                  cases hbl : newB b with
                  | true =>
                    have := bi_call (p := px) (pos := pos) (b2 hbl) b3 (h.gl_ hk) (h.g.free _ hg) hv n3 n1 ha q1 q2
                    exact ⟨of_new this, fun _ => this⟩
                  | false =>
                    refine ⟨bi_call (b1 hbl) b3 (h.gl_ hk) (h.g.free _ hg) hv n3 n1 ha q1 q2, fun z => ?_⟩
                    have z2 : newB b = true := z
                    rw [hbl] at z2
                    cases z2
      · cases he
    · cases he
  · cases he
theorem part_ok (R : Snd gl G C k rec) (h : XOK gl G C k sc X) (tk : Takes X Z) {o : Option Expr} {l : Bool × Ex} (he : partT rec sc o = some l) : PO X o (tOo X.K G Z (partM C l.1 l.2)) := by
  unfold partT at he
  cases o with
  | none =>
    cases he
    exact so_none
  | some e =>
    dsimp only at he
    cases e1 : rec false sc e with
    | none => rw [e1] at he; cases he
    | some y =>
      rw [e1] at he
      cases he
      exact so_some (R.val sc X Z e y h tk e1).1
theorem sub_ok (R : Snd gl G C k rec) (h : XOK gl G C k sc X) (tk : Takes X Z) {a i : Expr} {y : Ex} {pos : Pos} (he : stSub gl rec sc a i = some y) : PE X (.Subscript a i pos) (tE X.K G Z (evalE C y)) ∧ isNew y = false := by
  have plain : (∀ lo hi st p, i ≠ .Slice lo hi st p) → ((rdT gl rec sc a).bind fun x => (rec false sc i).map fun y => Ex.idx x y) = some y → PE X (.Subscript a i pos) (tE X.K G Z (evalE C y)) ∧ isNew y = false := by
    intro hns hz
    cases e1 : rdT gl rec sc a with
    | none => rw [e1] at hz; cases hz
    | some x =>
      rw [e1, Option.bind_some] at hz
      cases e2 : rec false sc i with
      | none => rw [e2] at hz; cases hz
      | some z =>
        rw [e2] at hz
        cases hz
        refine ⟨se_idx (room65 h.room) ?_ (rd_ok R h tk e1) (R.val sc X Z i z h tk e2).1, rfl⟩
        intro o j
        cases i <;> first | rfl | exact absurd rfl (hns _ _ _ _)
  unfold stSub at he
  split at he
  · rename_i lo hi p2
    cases e1 : rdT gl rec sc a with
    | none => rw [e1] at he; cases he
    | some x =>
      rw [e1, Option.bind_some] at he
      cases e2 : partT rec sc lo with
      | none => rw [e2] at he; cases he
      | some l =>
        rw [e2, Option.bind_some] at he
        cases e3 : partT rec sc hi with
        | none => rw [e3] at he; cases he
        | some l2 =>
          rw [e3] at he
          cases he
          exact ⟨se_slcT (rd_ok R h tk e1) (part_ok R h tk e2) (part_ok R h tk e3), rfl⟩
  · cases e1 : rdT gl rec sc a with
    | none => rw [e1] at he; cases he
    | some x =>
      rw [e1] at he
      cases he
      exact ⟨se_rev (rd_ok R h tk e1), rfl⟩
  · cases he
  · cases he
  · rename_i h1 h2 h3 h4
    exact plain (fun lo hi st p e => h3 lo hi st p e) he
theorem iter_val (R : Snd gl G C k rec) (h : XOK gl G C k sc X) (tk : Takes X Z) {tg it : Expr} {y : Ex} (he : rec false sc it = some y) : PI X tg it (tI X.K G Z (fun _ _ => False) (evalI C y)) := si_val (R.val sc X Z it y h tk he).1
/-- .. no set -/
theorem iter_ok (R : Snd gl G C k rec) (h : XOK gl G C k sc X) (tk : Takes X Z) {tg it : Expr} {y : Ex} (he : stIter gl rec sc tg it = some y) : PI X tg it (tI X.K G Z (fun _ _ => False) (evalI C y)) ∧ (∀ es kk p, it ≠ .Set es kk p) := by
  unfold stIter at he
  split at he
  · rename_i x px a pos
    refine ⟨?_, fun _ _ _ z => nomatch z⟩
    split at he
    · rename_i hx
      obtain ⟨rfl, hf⟩ := hx
      obtain ⟨g1, g2, _, _⟩ := isFree_ok h hf
      cases e1 : valT rec sc a with
      | none => rw [e1] at he; cases he
      | some z =>
        rw [e1] at he
        cases he
        exact si_range1 g1 g2 (val_ok R h tk e1).1 (star_of (val_star e1))
    · split at he
      · rename_i hx
        obtain ⟨rfl, hf⟩ := hx
        obtain ⟨g1, g2, _, _⟩ := isFree_ok h hf
        split at he
        · cases e1 : valT rec sc a with
          | none => rw [e1] at he; cases he
          | some z =>
            rw [e1] at he
            cases he
            exact si_enum g1 g2 (val_ok R h tk e1).1 (star_of (val_star e1))
        · cases he
      · exact iter_val R h tk he
  · rename_i x px a b pos
    refine ⟨?_, fun _ _ _ z => nomatch z⟩
    split at he
    · rename_i hx
      obtain ⟨rfl, hf⟩ := hx
      obtain ⟨g1, g2, _, _⟩ := isFree_ok h hf
      cases e1 : valT rec sc a with
      | none => rw [e1] at he; cases he
      | some z =>
        rw [e1, Option.bind_some] at he
        cases e2 : valT rec sc b with
        | none => rw [e2] at he; cases he
        | some z2 =>
          rw [e2] at he
          cases he
          obtain ⟨v1, s1⟩ := val_ok R h tk e1
          obtain ⟨v2, s2⟩ := val_ok R h tk e2
          exact si_range2 g1 g2 (isStar_no s1) (isStar_no s2) v1 v2 (star_of (val_star e1)) (star_of (val_star e2))
    · split at he
      · rename_i hx
        obtain ⟨rfl, hf⟩ := hx
        obtain ⟨g1, g2, _, _⟩ := isFree_ok h hf
        split at he
        · cases e1 : valT rec sc a with
          | none => rw [e1] at he; cases he
          | some z =>
            rw [e1, Option.bind_some] at he
            cases e2 : valT rec sc b with
            | none => rw [e2] at he; cases he
            | some z2 =>
              rw [e2] at he
              cases he
              obtain ⟨v1, s1⟩ := val_ok R h tk e1
              obtain ⟨v2, s2⟩ := val_ok R h tk e2
              exact si_zip g1 g2 v1 v2 (star_of (val_star e1)) (star_of (val_star e2))
        · cases he
      · exact iter_val R h tk he
  · rename_i x px a b c pos
    refine ⟨?_, fun _ _ _ z => nomatch z⟩
    split at he
    · rename_i hx
      obtain ⟨rfl, hf⟩ := hx
      obtain ⟨g1, g2, _, _⟩ := isFree_ok h hf
      cases e1 : valT rec sc a with
      | none => rw [e1] at he; cases he
      | some z =>
        rw [e1, Option.bind_some] at he
        cases e2 : valT rec sc b with
        | none => rw [e2] at he; cases he
        | some z2 =>
          rw [e2, Option.bind_some] at he
          cases e3 : valT rec sc c with
          | none => rw [e3] at he; cases he
          | some z3 =>
            rw [e3] at he
            cases he
            exact si_range3 g1 g2 (val_ok R h tk e1).1 (val_ok R h tk e2).1 (val_ok R h tk e3).1 (star_of (val_star e1)) (star_of (val_star e2)) (star_of (val_star e3))
    · exact iter_val R h tk he
  · rename_i o m apos cpos
    refine ⟨?_, fun _ _ _ z => nomatch z⟩
    split at he
    · rename_i hx
      obtain ⟨rfl, hl, hc⟩ := hx
      split at he
      · cases e1 : valT rec sc o with
        | none => rw [e1] at he; cases he
        | some z =>
          rw [e1] at he
          cases he
          exact si_items (val_ok R h tk e1).1 (base_of hc) (by rw [hl]; simp)
      · cases he
    · cases he
  · cases he
  · rename_i hns
    exact ⟨iter_val R h tk he, fun es kk p z => by subst z; exact hns es kk p rfl⟩
theorem noSet {it : Expr} {env : PySem.Env} (h : ∀ es kk p, it ≠ .Set es kk p) (y : Value) : foldedSetIterable it env y = pure y := by
  cases it <;> first | rfl | exact absurd rfl (h _ _ _)
theorem iterJ_ok (R : Snd gl G C k rec) (h : XOK gl G C k sc X) (tk : Takes X Z) {tg it : Expr} {y : Ex} (he : stIterJ gl rec sc tg it = some y) : PI X tg it (tI X.K G Z (fun d => d.Ow) (evalJ C y)) ∧ (∀ es kk p, it ≠ .Set es kk p) := by
  unfold stIterJ at he
  split at he
  · rename_i x pos
    refine ⟨?_, fun _ _ _ z => nomatch z⟩
    obtain ⟨hn, ⟨w, hk, hg, rfl⟩ | ⟨i, hk, hs, rfl⟩⟩ := name_cases he
    · exact sj_of (fun _ z => nomatch z) (si_val (name_val h he))
    · obtain ⟨a1, a2, a3, a4⟩ := var_ok (pos := pos) h hn hk hs
      exact sj_var a1 a2 a3 a4
  · cases e1 : stIter gl rec sc tg it with
    | none => rw [e1] at he; cases he
    | some x =>
      rw [e1, Option.bind_some] at he
      split at he
      · cases he
      · rename_i hv
        cases he
        obtain ⟨q1, q2⟩ := iter_ok R h tk e1
        exact ⟨sj_of (isVar_no (by simpa using hv)) q1, q2⟩
theorem asg_of {e : Expr} {es : List Expr} {env : PySem.Env} (h : ∀ a p, e ≠ .Starred a p) : assignEach (e :: es) env = (false, assign e env) :: assignEach es env := by
  cases e <;> first | rfl | exact absurd rfl (h _ _)
theorem tg_nostar {n : Nat} {e : Expr} {t : Tg} (he : trTg sc n e = some t) (a : Expr) (p : Pos) : e ≠ .Starred a p := fun z => by
  subst z
  cases n with
  | zero => cases he
  | succ n => unfold trTg at he; cases he
theorem tgs_asg {env : PySem.Env} : ∀ {n : Nat} {es : List Expr} {ts : List Tg}, trTgs sc n es = some ts → (assignEach es env).length = es.length ∧ List.findIdx? (fun x => x.1) (assignEach es env) = none
  | 0, _, _, he => by cases he
  | n + 1, es, ts, he => by
    unfold trTgs at he
    split at he
    · exact ⟨rfl, rfl⟩
    · rename_i e r
      cases e1 : trTg sc n e with
      | none => rw [e1] at he; cases he
      | some t =>
        rw [e1, Option.bind_some] at he
        cases e2 : trTgs sc n r with
        | none => rw [e2] at he; cases he
        | some ts =>
          obtain ⟨h1, h2⟩ := tgs_asg (env := env) e2
          rw [asg_of (tg_nostar e1)]
          refine ⟨by rw [List.length_cons, List.length_cons, h1], ?_⟩
          rw [List.findIdx?_cons, h2]
          rfl
mutual
theorem tg_ok (h : XOK gl G C k sc X) : ∀ (n : Nat) {e : Expr} {t : Tg}, trTg sc n e = some t → PG X e (gOf X.K t)
  | 0, _, _, he => by cases he
  | n + 1, e, t, he => by
    unfold trTg at he
    split at he
    · rename_i x p
      split at he
      · rename_i hk
        cases e1 : slotOf sc.N x with
        | none => rw [e1] at he; cases he
        | some i =>
          rw [e1] at he
          cases he
          have hi : X.N[i]? = some x := by rw [h.N]; exact slotOf_ok e1
          refine pg_name h.nd hi ?_ ?_
          · exact hk.imp h.look fun z => h.look z.1
          · rcases hk with hk | ⟨_, hk⟩
            · exact .inr (h.look hk)
            · exact .inl (h.fnb x hk)
      · cases he
    · rename_i es kk p
      cases e1 : trTgs sc n es with
      | none => rw [e1] at he; cases he
      | some ts =>
        rw [e1] at he
        cases he
        have hl := trTgs_len n e1
        show PG X (.Tuple es kk p) (gTup X.K ts.length (gOfs X.K ts))
        rw [hl]
        obtain ⟨g1, g2⟩ := tgs_asg (env := X.env) e1
        exact pg_tup h.calm (tgs_ok h n e1) g1 g2
    · cases he
theorem tgs_ok (h : XOK gl G C k sc X) : ∀ (n : Nat) {es : List Expr} {ts : List Tg}, trTgs sc n es = some ts → PGs X es (gOfs X.K ts)
  | 0, _, _, he => by cases he
  | n + 1, es, ts, he => by
    unfold trTgs at he
    split at he
    · cases he
      exact pgs_nil
    · rename_i e r
      cases e1 : trTg sc n e with
      | none => rw [e1] at he; cases he
      | some t =>
        rw [e1, Option.bind_some] at he
        cases e2 : trTgs sc n r with
        | none => rw [e2] at he; cases he
        | some ts =>
          rw [e2] at he
          cases he
          exact pgs_cons (tg_ok h n e1) (tgs_ok h n e2) (by rw [asg_of (tg_nostar e1)]; rfl)
theorem trTgs_len : ∀ (n : Nat) {es : List Expr} {ts : List Tg}, trTgs sc n es = some ts → ts.length = es.length
  | 0, _, _, he => by cases he
  | n + 1, es, ts, he => by
    unfold trTgs at he
    split at he
    · cases he
      rfl
    · rename_i e r
      cases e1 : trTg sc n e with
      | none => rw [e1] at he; cases he
      | some t =>
        rw [e1, Option.bind_some] at he
        cases e2 : trTgs sc n r with
        | none => rw [e2] at he; cases he
        | some ts =>
          rw [e2] at he
          cases he
          rw [List.length_cons, List.length_cons, trTgs_len n e2]
end
theorem blk_ok (h : XOK gl G C k sc X) {scope : Scope} (hb : blkB sc scope (ownOf sc.N scope) = true) : BlkOk X.N X.env.scope scope (ownOf sc.N scope) := by
  unfold blkB at hb
  simp only [Bool.and_eq_true, List.all_eq_true, decide_eq_true_eq] at hb
  obtain ⟨⟨⟨⟨h1, h2⟩, h3⟩, h4⟩, h5⟩ := hb
  exact ⟨h1, h2, fun p hp => by rw [h.N]; exact h3 p hp, fun y hy e => by rw [h.nm]; exact h4 y hy e, fun y hy e => by rw [h.N]; exact h5 y hy e⟩
/-- a comprehension's block: what one knows there -/
theorem XOK.blk (h : XOK gl G C k sc X) {scope : Scope} (hs : scope.kind = .function) (s : Shared) (H : Hp) (Cc : Addr) (cl : List (Str × Addr)) (fp : List Addr) : XOK gl G C k (scIn sc scope) (X.blk s H scope (compEnvC scope cl Cc X.env) fp) := by
  refine ⟨h.N, h.nd, hs, ?_, fun x hx => hx, h.calm, h.room, h.cold, ⟨h.g.free, h.g.con, h.g.fn, h.g.exc, h.g.rep, h.g.fld⟩, fun z => ⟨⟨(h.said z).1.free, (h.said z).1.con, (h.said z).1.fn, (h.said z).1.exc, (h.said z).1.rep, (h.said z).1.fld⟩, fun x md tab e Y hY hg => (h.said z).2 x md tab e Y ⟨hY.prog, hY.w, hY.K, hY.mg, hY.base, hY.A, hY.code, hY.qual⟩ hg⟩⟩
  show (relabel scope X.env).names = (scIn sc scope).nm
  unfold relabel scIn
  refine List.map_congr_left fun p _ => ?_
  obtain ⟨n, kd⟩ := p
  have e1 : (X.env.scope.kind == ScopeKind.function) = true := by rw [h.kind]; rfl
  have e2 : X.env.kindOf n = sc.nm.lookup n := by rw [← h.nm]; rfl
  simp only [e1, e2, Bool.and_true]
theorem ifs_ok (R : Snd gl G C k rec) (h : XOK gl G C k sc X) (tk : Takes X Z) {ifs : List Expr} {cs : List Ex} (he : stIfs rec sc ifs = some cs) : PTs X ifs (tB' X.K G Z (evalC C cs)) := by
  unfold stIfs at he
  split at he
  · cases he
    exact sc_nil
  · rename_i c
    cases e1 : rec true sc c with
    | none => rw [e1] at he; cases he
    | some x =>
      rw [e1] at he
      cases he
      exact sc_one (R.tst sc X Z c x h tk e1)
  · cases he
/-- what a comprehension's translation gives -/
theorem comp_parts (R : Snd gl G C k rec) (h : XOK gl G C k sc X) (tk : Takes X Z) {elt : Expr} {gs : List Comprehension} {scope : Scope} {y : Ex} (he : stComp gl rec sc elt gs scope = some y) :
    ∃ tg iter ifs it t cs x, gs = [⟨tg, iter, ifs, 0⟩] ∧ y = .comp ((ownOf sc.N scope).map (·.2)) x t it cs ∧ PI X tg iter (tI X.K G Z (fun d => d.Ow) (evalJ C it)) ∧ (∀ es kk p, iter ≠ .Set es kk p) ∧ BlkOk X.N X.env.scope scope (ownOf sc.N scope) ∧
      (∀ (s : Shared) (H : Hp) (Cc : Addr) (cl : List (Str × Addr)) (fp : List Addr), PG (X.blk s H scope (compEnvC scope cl Cc X.env) fp) tg (gOf X.K t)) ∧ tgIn ((ownOf sc.N scope).map (·.2)) t = true ∧
      (∀ (s : Shared) (H : Hp) (Cc : Addr) (cl : List (Str × Addr)) (fp : List Addr), PTs (X.blk s H scope (compEnvC scope cl Cc X.env) fp) ifs (tB' X.K G Z0 (evalC C cs))) ∧
      (∀ (s : Shared) (H : Hp) (Cc : Addr) (cl : List (Str × Addr)) (fp : List Addr), PE (X.blk s H scope (compEnvC scope cl Cc X.env) fp) elt (tE X.K G Z0 (evalE C x))) := by
  unfold stComp at he
  split at he
  · rename_i tg iter ifs
    split at he
    · rename_i hb
      have hk : scope.kind = .function := (blk_ok h hb).kind
      cases e1 : stIterJ gl rec sc tg iter with
      | none => rw [e1] at he; cases he
      | some it =>
        rw [e1, Option.bind_some] at he
        cases e2 : trTg (scIn sc scope) 20 tg with
        | none => rw [e2] at he; cases he
        | some t =>
          rw [e2, Option.bind_some] at he
          split at he
          · rename_i ht
            cases e3 : stIfs rec (scIn sc scope) ifs with
            | none => rw [e3] at he; cases he
            | some cs =>
              rw [e3, Option.bind_some] at he
              cases e4 : rec false (scIn sc scope) elt with
              | none => rw [e4] at he; cases he
              | some x =>
                rw [e4] at he
                cases he
                obtain ⟨q1, q2⟩ := iterJ_ok R h tk e1
                refine ⟨tg, iter, ifs, it, t, cs, x, rfl, rfl, q1, q2, blk_ok h hb, fun s H Cc cl fp => tg_ok (h.blk hk s H Cc cl fp) 20 e2, ht, fun s H Cc cl fp => ?_, fun s H Cc cl fp => ?_⟩
                · exact ifs_ok R (h.blk hk s H Cc cl fp) takes0 e3
                · exact (R.val _ _ _ elt x (h.blk hk s H Cc cl fp) takes0 e4).1
          · cases he
    · cases he
  · cases he
theorem comp_ok (R : Snd gl G C k rec) (h : XOK gl G C k sc X) (tk : Takes X Z) {elt : Expr} {gs : List Comprehension} {scope : Scope} {y : Ex} {pos : Pos} (he : stComp gl rec sc elt gs scope = some y) : PE X (.ListComp elt gs scope pos) (tN X.K G Z (evalE C y)) := by
  obtain ⟨tg, iter, ifs, it, t, cs, x, rfl, rfl, q1, q2, q3, q4, q5, q6, q7⟩ := comp_parts R h tk he
  exact sn_comp h.calm h.nd q1 q3 q4 q5 q6 q7 (noSet q2)
theorem dcomp_parts (R : Snd gl G C k rec) (h : XOK gl G C k sc X) (tk : Takes X Z) {kx vx : Expr} {gs : List Comprehension} {scope : Scope} {y : Ex} (he : stDComp gl rec sc kx vx gs scope = some y) :
    ∃ tg iter ifs it t cs x z, gs = [⟨tg, iter, ifs, 0⟩] ∧ y = .dcomp ((ownOf sc.N scope).map (·.2)) x z t it cs ∧ PI X tg iter (tI X.K G Z (fun d => d.Ow) (evalJ C it)) ∧ (∀ es kk p, iter ≠ .Set es kk p) ∧ BlkOk X.N X.env.scope scope (ownOf sc.N scope) ∧ tgIn ((ownOf sc.N scope).map (·.2)) t = true ∧
      DcParts X scope tg kx vx ifs (gOf X.K t) (tB' X.K G Z0 (evalC C cs)) (tE X.K G Z0 (evalE C x)) (tE X.K G Z0 (evalE C z)) := by
  unfold stDComp at he
  split at he
  rotate_left
  · cases he
  rename_i vs x0 t0 it0 cs0 hcm
  obtain ⟨tg, iter, ifs, it, t, cs, x, rfl, ey, q1, q2, q3, q4, q5, q6, q7⟩ := comp_parts R h tk hcm
  cases ey
  cases e1 : rec false (scIn sc scope) vx with
  | none => rw [e1] at he; cases he
  | some z =>
    rw [e1] at he
    cases he
    exact ⟨tg, iter, ifs, _, _, _, _, z, rfl, rfl, q1, q2, q3, q5, ⟨q4, q6, q7, fun s H Cc cl fp => (R.val _ _ _ vx z (h.blk q3.kind s H Cc cl fp) takes0 e1).1⟩⟩
theorem dcomp_ok (R : Snd gl G C k rec) (h : XOK gl G C k sc X) (tk : Takes X Z) {kx vx : Expr} {gs : List Comprehension} {scope : Scope} {y : Ex} {pos : Pos} (he : stDComp gl rec sc kx vx gs scope = some y) : PE X (.DictComp kx vx gs scope pos) (tN X.K G Z (evalE C y)) := by
  obtain ⟨tg, iter, ifs, it, t, cs, x, z, rfl, rfl, q1, q2, q3, q4, q5⟩ := dcomp_parts R h tk he
  exact sn_dcomp (room65 h.room) h.calm h.nd q1 q3 q5 q4 (noSet q2)
theorem x0T_ok (h : XOK gl G C k sc X) {e : Expr} {x : Ex} (he : dspT.x0T gl sc e = some x) : PE X e (tX0 x) ∧ isX0 x = true := by
  unfold dspT.x0T at he
  split at he
  · rename_i y pos
    cases e1 : trName gl sc y with
    | none => rw [e1] at he; cases he
    | some z =>
      rw [e1, Option.bind_some] at he
      split at he
      · rename_i hv
        cases he
        obtain ⟨hn, ⟨w, hk, hg, rfl⟩ | ⟨i, hk, hs, rfl⟩⟩ := name_cases e1
        · cases hv
        · obtain ⟨a1, a2, a3, a4⟩ := var_ok (pos := pos) h hn hk hs
          exact ⟨pe_var a1 a2 a3 a4, rfl⟩
      · cases he
  · cases he
    exact ⟨pe_int, rfl⟩
  · cases he
    exact ⟨pe_non, rfl⟩
  · cases he
    exact ⟨pe_str, rfl⟩
  · cases he
    exact ⟨pe_bl, rfl⟩
  · cases he
theorem dspT_ok (h : XOK gl G C k sc X) {pos : Pos} : ∀ {ks : List (Option Expr)} {vs : List Expr} {xs : List Ex}, dspT gl sc ks vs = some xs → PPs X pos ks vs (trsOf xs) ∧ (∀ x ∈ xs, isX0 x = true) ∧ ks.all (·.isSome) = true
  | [], [], xs, he => by
    rw [dspT] at he
    cases he
    exact ⟨pps_nil, (fun x hx => nomatch hx), rfl⟩
  | some a :: ks, v :: vs, xs, he => by
    rw [dspT] at he
    cases e1 : dspT.x0T gl sc a with
    | none => rw [e1] at he; cases he
    | some x =>
      rw [e1, Option.bind_some] at he
      cases e2 : dspT.x0T gl sc v with
      | none => rw [e2] at he; cases he
      | some y =>
        rw [e2, Option.bind_some] at he
        cases e3 : dspT gl sc ks vs with
        | none => rw [e3] at he; cases he
        | some r =>
          rw [e3] at he
          cases he
          obtain ⟨p1, q1⟩ := x0T_ok h e1
          obtain ⟨p2, q2⟩ := x0T_ok h e2
          obtain ⟨p3, q3, q4⟩ := dspT_ok h (pos := pos) e3
          refine ⟨pps_cons p1 p2 p3, fun z hz => ?_, by rw [List.all_cons, q4]; rfl⟩
          rcases List.mem_cons.mp hz with rfl | hz
          · exact q1
          · rcases List.mem_cons.mp hz with rfl | hz
            · exact q2
            · exact q3 z hz
  | none :: ks, vs, xs, he => by
    unfold dspT at he
    cases vs <;> cases he
  | [], v :: vs, xs, he => by
    unfold dspT at he
    cases he
  | some a :: ks, [], xs, he => by
    unfold dspT at he
    cases he
/-- a test that has no rule of its own -/
theorem plain_tst {e : Expr} {y : Ex} (hv : PE X e (tE X.K G Z (evalE C y))) (he : ∀ whole, isTrue e X.env whole = (do let v ← whole; standAt e.pos; holding [v] (truthy v))) : PT X e (tB' X.K G Z (evalT C y)) := st_val hv he
theorem lamB_ok (h : XOK gl G C k sc X) {scope : Scope} (e : lamB sc scope = true) : LamX.LamS X.env.scope scope := by
  unfold lamB at e
  simp only [Bool.and_eq_true, Bool.or_eq_true, Bool.not_eq_true', decide_eq_true_eq, decide_eq_false_iff_not, List.all_eq_true] at e
  obtain ⟨⟨⟨h1, h2⟩, h3⟩, h4⟩ := e
  refine ⟨h1, h2, h3, fun y hy => (h4 y hy).1, fun y hy e => ?_⟩
  rw [h.nm]
  rcases (h4 y hy).2 with (z | z) | z
  · exact absurd e z
  · exact .inl z
  · exact .inr z
theorem isNoArgs_ok {ps : Arguments} (h : isNoArgs ps = true) : ps = noArgs := by
  unfold isNoArgs at h
  split at h
  · rfl
  · cases h
theorem meth_ok (R : Snd gl G C k rec) (h : XOK gl G C k sc X) (tk : Takes X Z) {o a : Expr} {m : Str} {y : Ex} {apos pos : Pos} (hl : apos.endLine = pos.line) (hc : noCall o = true) (he : stMeth gl rec sc o m a = some y) :
    PE X (.Call (.Attribute o m apos) [a] [] pos) (tE X.K G Z (evalE C y)) ∧ (isNew y = true → PE X (.Call (.Attribute o m apos) [a] [] pos) (tN X.K G Z (evalE C y))) := by
  unfold stMeth at he
  split at he
  · rename_i hm
    subst hm
    cases e1 : valT rec sc o with
    | none => rw [e1] at he; cases he
    | some x =>
      rw [e1, Option.bind_some] at he
      cases e2 : valT rec sc a with
      | none => rw [e2] at he; cases he
      | some z =>
        rw [e2] at he
        cases he
        have := sn_split (apos := apos) (cpos := pos) (val_ok R h tk e1).1 (val_ok R h tk e2).1 (star_of (val_star e2)) (base_of hc) (by rw [hl]; simp)
        exact ⟨of_new this, fun _ => this⟩
  · split at he
    · rename_i hm
      subst hm
      cases e1 : valT rec sc o with
      | none => rw [e1] at he; cases he
      | some x =>
        rw [e1, Option.bind_some] at he
        cases e2 : rdT gl rec sc a with
        | none => rw [e2] at he; cases he
        | some z =>
          rw [e2] at he
          cases he
          exact ⟨se_meth (m := .join) (apos := apos) (cpos := pos) (val_ok R h tk e1).1 (rd_ok R h tk e2) (star_of (rd_star e2)) (base_of hc) (by rw [hl]; simp), fun z => nomatch z⟩
    · split at he
      · rename_i hm
        subst hm
        cases e1 : rdT gl rec sc o with
        | none => rw [e1] at he; cases he
        | some x =>
          rw [e1, Option.bind_some] at he
          cases e2 : valT rec sc a with
          | none => rw [e2] at he; cases he
          | some z =>
            rw [e2] at he
            cases he
            exact ⟨se_index (apos := apos) (cpos := pos) (room65 h.room) (rd_ok R h tk e1) (val_ok R h tk e2).1 (base_of hc) (by rw [hl]; simp) (star_of (val_star e2)), fun z => nomatch z⟩
      split at he
      · rename_i hm
        subst hm
        cases e1 : rdT gl rec sc o with
        | none => rw [e1] at he; cases he
        | some x =>
          rw [e1, Option.bind_some] at he
          cases e2 : valT rec sc a with
          | none => rw [e2] at he; cases he
          | some z =>
            rw [e2] at he
            cases he
            exact ⟨se_count (apos := apos) (cpos := pos) (room65 h.room) (rd_ok R h tk e1) (val_ok R h tk e2).1 (base_of hc) (by rw [hl]; simp) (star_of (val_star e2)), fun z => nomatch z⟩
      split at he
      · rename_i hm
        subst hm
        cases e1 : valT rec sc o with
        | none => rw [e1] at he; cases he
        | some x =>
          rw [e1, Option.bind_some] at he
          cases e2 : rdT gl rec sc a with
          | none => rw [e2] at he; cases he
          | some z =>
            rw [e2] at he
            cases he
            exact ⟨se_meth (m := .starts) (apos := apos) (cpos := pos) (val_ok R h tk e1).1 (rd_ok R h tk e2) (star_of (rd_star e2)) (base_of hc) (by rw [hl]; simp), fun z => nomatch z⟩
      · cases he
theorem told_ok {rec0 : Rec} (R0 : Snd (strip gl) G C k rec0) (h : XOK gl G C k sc X) {x : Str} {px lpos pos : Pos} {ps : Arguments} {body : Expr} {scope : Scope} {y : Ex} (he : stTold gl sc rec0 x ps body scope = some y) :
    PE X (.Call (.Name x px) [.Lambda ps body scope lpos] [] pos) (tE X.K G Z (evalE C y)) ∧ isNew y = false := by
  unfold stTold at he
  split at he
  rotate_left
  · cases he
  rename_i hx
  obtain ⟨h1, h2, h3, h4, h5⟩ := hx
  split at he
  rotate_left
  · cases he
  rename_i md tab hg
  cases e1 : rec0 false (scLam sc scope) body with
  | none => rw [e1] at he; cases he
  | some z =>
    rw [e1] at he
    cases he
    obtain ⟨g0, sd⟩ := h.said h3
    have L := lamB_ok h h4
    rw [isNoArgs_ok h5]
    refine ⟨se_told (sd x md tab hg X ⟨rfl, rfl, rfl, rfl, rfl, rfl, rfl, rfl⟩ (h.gl_ h2)) L fun A outer s H E f c' hr => ?_, rfl⟩
    have X' : XOK (strip gl) G C k (scLam sc scope) (LamX.lamCx X A outer s H E scope f c') :=
      ⟨h.N, h.nd, L.kind, rfl, (fun _ z => nomatch (show false = true from z)), rfl, hr, (fun z => nomatch (show false = true from z)), ⟨g0.free, g0.con, g0.fn, g0.exc, g0.rep, g0.fld⟩, fun z => nomatch (show false = true from z)⟩
    exact (R0.val _ _ _ body z X' (takes_of rfl rfl rfl rfl) e1).1
theorem step_ok {rec0 : Rec} (R : Snd gl G C k rec) (R0 : Snd (strip gl) G C k rec0) : Snd gl G C k fun t sc e => trStep gl rec sc rec0 t e := by
  have val : ∀ (sc : SC) (X : Cx) (Z : WX) (e : Expr) (x : Ex), XOK gl G C k sc X → Takes X Z → trStep gl rec sc rec0 false e = some x → PE X e (tE X.K G Z (evalE C x)) ∧ (isNew x = true → PE X e (tN X.K G Z (evalE C x))) := by
    intro sc X Z e y h tk he
    unfold trStep at he
    split at he
    · rw [if_neg Bool.false_ne_true] at he
      exact ⟨name_val h he, fun z => by rw [name_new he] at z; cases z⟩
    · rename_i ks vs pos
      split at he
      · rename_i hl
        cases e1 : dspT gl sc ks vs with
        | none => rw [e1] at he; cases he
        | some xs =>
          rw [e1] at he
          cases he
          obtain ⟨p1, p2, p3⟩ := dspT_ok h (pos := pos) e1
          refine ⟨?_, fun z => nomatch z⟩
          cases ks with
          | nil =>
            cases vs with
            | nil =>
              rw [dspT] at e1
              cases e1
              exact se_dsp0
            | cons v vs => cases hl.1
          | cons a as => exact se_dsp p1 p3 hl.1 (fun z => nomatch z) hl.2 p2
      · cases he
    · rename_i c _ _
      unfold trConst at he
      split at he <;> first | cases he | skip
      · exact ⟨se_cst pe_int fun _ => .mkI, fun z => nomatch z⟩
      · exact ⟨se_cst pe_bl fun _ => .mkB, fun z => nomatch z⟩
      · exact ⟨se_cst pe_non fun _ => by unfold RW; rfl, fun z => nomatch z⟩
      · exact ⟨se_cst pe_str fun _ => by unfold RW; rfl, fun z => nomatch z⟩
    · exact bin_ok R h tk he
    · rename_i a _
      cases e1 : rec false sc a with
      | none => rw [e1] at he; cases he
      | some x => rw [e1] at he; cases he; exact ⟨se_not (R.val sc X Z a x h tk e1).1, fun z => nomatch z⟩
    · rename_i a _
      cases e1 : rec false sc a with
      | none => rw [e1] at he; cases he
      | some x => rw [e1] at he; cases he; exact ⟨se_neg (R.val sc X Z a x h tk e1).1, fun z => nomatch z⟩
    · obtain ⟨q1, q2, _⟩ := cmp_ok R h tk he
      exact ⟨q1, fun z => by rw [q2] at z; cases z⟩
    · rename_i op v w vs pos
      cases e1 : mapO (rec false sc) (v :: w :: vs) with
      | none => rw [e1] at he; cases he
      | some ys =>
        rw [e1, Option.bind_some] at he
        refine ⟨bools_ok R h tk e1 he, fun z => ?_⟩
        cases ys with
        | nil => cases he
        | cons a ys => cases ys with
          | nil =>
            rw [mapO] at e1
            cases e2 : rec false sc v with
            | none => rw [e2] at e1; cases e1
            | some x2 =>
              rw [e2, Option.bind_some, mapO] at e1
              cases e3 : rec false sc w with
              | none => rw [e3] at e1; cases e1
              | some x3 =>
                rw [e3, Option.bind_some] at e1
                cases e4 : mapO (rec false sc) vs with
                | none => rw [e4] at e1; cases e1
                | some r => rw [e4] at e1; cases e1
          | cons b ys =>
            simp only [foldB] at he
            cases e2 : foldB op (b :: ys) with
            | none => rw [e2] at he; cases he
            | some r => rw [e2] at he; cases he; cases op <;> cases z
    · rename_i c a b _
      rw [if_neg Bool.false_ne_true] at he
      cases e1 : rec true sc c with
      | none => rw [e1] at he; cases he
      | some z =>
        rw [e1, Option.bind_some] at he
        cases e2 : rec false sc a with
        | none => rw [e2] at he; cases he
        | some x =>
          rw [e2, Option.bind_some] at he
          cases e3 : rec false sc b with
          | none => rw [e3] at he; cases he
          | some w =>
            rw [e3] at he
            cases he
            exact ⟨se_ite (R.tst sc X Z c z h tk e1) (R.val sc X Z a x h tk e2).1 (R.val sc X Z b w h tk e3).1, fun z => nomatch z⟩
    · rename_i es _ _
      cases e1 : mapO (argT rec sc) es with
      | none => rw [e1] at he; cases he
      | some xs =>
        rw [e1, Option.bind_some] at he
        split at he
        · rename_i hl
          cases he
          exact ⟨se_tup (args_ok R h tk e1) (by omega), fun z => nomatch z⟩
        · cases he
    · rename_i es pos
      cases e1 : mapO (argT rec sc) es with
      | none => rw [e1] at he; cases he
      | some xs =>
        rw [e1, Option.bind_some] at he
        split at he
        · rename_i hl
          cases he
          have := sn_lst (pos := pos) (args_ok R h tk e1) (by omega)
          exact ⟨of_new this, fun _ => this⟩
        · cases he
    · rename_i o m apos a pos
      split at he
      · rename_i hx
        obtain ⟨rfl, hl, hc⟩ := hx
        cases e1 : rdT gl rec sc o with
        | none => rw [e1] at he; cases he
        | some x =>
          rw [e1, Option.bind_some] at he
          cases e2 : valT rec sc a with
          | none => rw [e2] at he; cases he
          | some z =>
            rw [e2] at he
            cases he
            exact ⟨se_get (room65 h.room) (rd_ok R h tk e1) (val_ok R h tk e2).1 (base_of hc) (by rw [hl]; simp) (star_of (val_star e2)), fun z => nomatch z⟩
      · split at he
        · rename_i hx
          obtain ⟨hl, hc⟩ := hx
          exact meth_ok R h tk hl hc he
        · cases he
    · obtain ⟨q1, q2⟩ := told_ok (Z := Z) R0 h he
      exact ⟨q1, fun z => by rw [q2] at z; cases z⟩
    · exact call_ok R h tk he
    · obtain ⟨q1, q2⟩ := sub_ok R h tk he
      exact ⟨q1, fun z => by rw [q2] at z; cases z⟩
    · rename_i pos
      have := comp_ok (pos := pos) R h tk he
      exact ⟨of_new this, fun _ => this⟩
    · rename_i pos
      have := dcomp_ok (pos := pos) R h tk he
      exact ⟨of_new this, fun _ => this⟩
    · cases he
  refine ⟨val, fun sc X Z e y h tk he => ?_⟩
  by_cases c0 : ∃ x p, e = .Name x p
  · obtain ⟨x, p, rfl⟩ := c0
    unfold trStep at he
    dsimp only at he
    rw [if_pos rfl] at he
    cases e1 : trName gl sc x with
    | none => rw [e1] at he; cases he
    | some z => rw [e1] at he; cases he; exact st_tru (name_rd h e1) fun whole => rfl
  have other : (∀ a p, e ≠ .UnaryOp .Not a p) → (∀ a o b p, e ≠ .Compare a o b p) → (∀ o v p, e ≠ .BoolOp o v p) → (∀ a b c p, e ≠ .IfExp a b c p) → PT X e (tB' X.K G Z (evalT C y)) := by
    intro h1 h2 h3 h4
    have hv : trStep gl rec sc rec0 false e = some y := by
      unfold trStep at he ⊢
      split at he <;> first | exact he | exact absurd rfl (h1 _ _) | exact absurd rfl (h3 _ _ _) | exact absurd rfl (h4 _ _ _ _) | exact absurd ⟨_, _, rfl⟩ c0
    refine st_val (val sc X Z e y h tk hv).1 fun whole => ?_
    cases e <;> first | rfl | exact absurd rfl (h2 _ _ _ _) | exact absurd rfl (h3 _ _ _) | exact absurd rfl (h4 _ _ _ _) | skip
    rename_i op a p
    cases op <;> first | rfl | exact absurd rfl (h1 _ _)
  by_cases c1 : ∃ a p, e = .UnaryOp .Not a p
  · obtain ⟨a, p, rfl⟩ := c1
    unfold trStep at he
    dsimp only at he
    cases e1 : rec true sc a with
    | none => rw [e1] at he; cases he
    | some x => rw [e1] at he; cases he; exact st_not (R.tst sc X Z a x h tk e1)
  · by_cases c2 : ∃ a o b p, e = .Compare a o b p
    · obtain ⟨a, o, b, p, rfl⟩ := c2
      unfold trStep at he
      exact (cmp_ok R h tk he).2.2
    · by_cases c3 : ∃ o v p, e = .BoolOp o v p
      · obtain ⟨o, v, p, rfl⟩ := c3
        unfold trStep at he
        cases v with
        | nil => cases he
        | cons v vs => cases vs with
          | nil => cases he
          | cons w vs =>
            dsimp only at he
            cases e1 : mapO (rec true sc) (v :: w :: vs) with
            | none => rw [e1] at he; cases he
            | some ys =>
              rw [e1, Option.bind_some] at he
              exact (tests_ok R h tk e1 he).pt
      · by_cases c4 : ∃ a b c p, e = .IfExp a b c p
        · obtain ⟨a, b, c, p, rfl⟩ := c4
          unfold trStep at he
          dsimp only at he
          rw [if_pos rfl] at he
          cases he
        · exact other (fun a p z => c1 ⟨a, p, z⟩) (fun a o b p z => c2 ⟨a, o, b, p, z⟩) (fun o v p z => c3 ⟨o, v, p, z⟩) (fun a b c p z => c4 ⟨a, b, c, p, z⟩)
theorem trX_ok : ∀ (n : Nat) (gl : Str → Option Gb), Snd gl G C k (trX gl n)
  | 0, _ => ⟨fun _ _ _ _ _ _ _ he => (by cases he), fun _ _ _ _ _ _ _ he => (by cases he)⟩
  | n + 1, gl => step_ok (trX_ok n gl) (trX_ok n (strip gl))
end
end Mi

/-! From the text to the small language: statements. -/
namespace Mi
open PySem PySem.Spec PyProof.Rows L2
mutual
/-- names whose lists get known elsewhere -/
def esc : Ex → List Nat
  | .var i => [i]
  | .bin _ a b => esc a ++ esc b
  | .neg a => esc a
  | .cmp _ a b => escR a ++ escR b
  | .chain _ _ a b c => esc a ++ esc b ++ esc c
  | .isN a => esc a
  | .notN a => esc a
  | .and a b => esc a ++ esc b
  | .or a b => esc a ++ esc b
  | .not a => esc a
  | .ite c a b => esc c ++ esc a ++ esc b
  | .tup es => escs es
  | .lst es => escs es
  | .star a => esc a
  | .call _ es => escs es
  | .bi _ es => escRs es
  | .isin a _ => esc a
  | .idx a b => escR a ++ esc b
  | .slc a _ b _ c => escR a ++ esc b ++ esc c
  | .rev a => escR a
  | .addL a b => escR a ++ escR b
  | .mulL a b => esc a ++ esc b
  | .comp _ a _ it cs => escR it ++ esc a ++ escs cs
  | .dcomp _ a b _ it cs => escR it ++ esc a ++ esc b ++ escs cs
  | .range a b => esc a ++ esc b
  | .enum a => esc a
  | .zip a b => esc a ++ esc b
  | .cst _ => []
  | .tru a => escR a
  | .dsp es => escs es
  | .mp0 => []
  | .mp1 a b => esc a ++ esc b
  | .get a b => escR a ++ esc b
  | .items a => esc a
  | .range3 a b c => esc a ++ esc b ++ esc c
  | .told _ _ a => esc a
  | .meth _ a b => esc a ++ escR b
  | .split a b => esc a ++ esc b
  | .ixOf a b => escR a ++ esc b
  | .cntOf a b => escR a ++ esc b
  | .callK _ _ es => escs es
def escs : List Ex → List Nat
  | [] => []
  | e :: es => esc e ++ escs es
def escRs : List Ex → List Nat
  | [] => []
  | e :: es => escR e ++ escRs es
def escR : Ex → List Nat
  | .var _ => []
  | .bin _ a b => esc a ++ esc b
  | .neg a => esc a
  | .cmp _ a b => escR a ++ escR b
  | .chain _ _ a b c => esc a ++ esc b ++ esc c
  | .isN a => esc a
  | .notN a => esc a
  | .and a b => esc a ++ esc b
  | .or a b => esc a ++ esc b
  | .not a => esc a
  | .ite c a b => esc c ++ esc a ++ esc b
  | .tup es => escs es
  | .lst es => escs es
  | .star a => esc a
  | .call _ es => escs es
  | .bi _ es => escRs es
  | .isin a _ => esc a
  | .idx a b => escR a ++ esc b
  | .slc a _ b _ c => escR a ++ esc b ++ esc c
  | .rev a => escR a
  | .addL a b => escR a ++ escR b
  | .mulL a b => esc a ++ esc b
  | .comp _ a _ it cs => escR it ++ esc a ++ escs cs
  | .dcomp _ a b _ it cs => escR it ++ esc a ++ esc b ++ escs cs
  | .range a b => esc a ++ esc b
  | .enum a => esc a
  | .zip a b => esc a ++ esc b
  | .cst _ => []
  | .tru a => escR a
  | .dsp es => escs es
  | .mp0 => []
  | .mp1 a b => esc a ++ esc b
  | .get a b => escR a ++ esc b
  | .items a => esc a
  | .range3 a b c => esc a ++ esc b ++ esc c
  | .told _ _ a => esc a
  | .meth _ a b => esc a ++ escR b
  | .split a b => esc a ++ esc b
  | .ixOf a b => escR a ++ esc b
  | .cntOf a b => escR a ++ esc b
  | .callK _ _ es => escs es
end
def nub : List Nat → List Nat
  | [] => []
  | a :: r => a :: (nub r).filter (· != a)
def withF (ow : List Nat) (l : List Nat) (s : Sm) : List Sm :=
  match nub (l.filter ow.contains) with
  | [] => [s]
  | is => [.frz is, s]
def nameAt (nm : List (Str × NameKind)) (line : Nat) : Expr → Option Str
  | .Name id pos => if nm.lookup id == some .local && pos.line == line then some id else none
  | _ => none
def isStarE : Expr → Bool
  | .Starred .. => true
  | _ => false
/-- the stores of a, b = .. from the right: where they are -/
def swapOk (sc : SC) (ts vs : List Expr) : Bool :=
  let line := (ts.head?.map (·.pos.line)).getD 0
  let names := ts.filterMap (nameAt sc.nm line)
  !vs.any isStarE && (names.length == ts.length) && (names.eraseDups.length == names.length) && !(vs.all (foldedForSure 8)) && !(vs.all (constantsAlone 8))
def noSwap (sc : SC) (ts vs : List Expr) : Bool :=
  let line := (ts.head?.map (·.pos.line)).getD 0
  let names := ts.filterMap (nameAt sc.nm line)
  (!(ts.length == 2 || ts.length == 3) || vs.length != ts.length) || vs.any isStarE || (names.length != ts.length || names.eraseDups.length != names.length) || vs.all (foldedForSure 8)
/-- a constant that an except suite returns -/
def constT : Expr → Option W
  | .Constant (.bool b) _ _ => some (.bl b)
  | .Constant .none _ _ => some .non
  | .Constant (.int i) _ _ => some (.int i)
  | .Tuple [] _ _ => some (.tup [])
  | _ => none
section
variable (gl : Str → Option Gb) (rec : Rec) (ow : List Nat) (keep : Bool) (sc : SC)
/-- what is stored; a new dict -/
def newT (e : Expr) : Option Ex := match e with
  | .Dict [] [] _ => some .mp0
  | .Dict [some k] [.Tuple [] _ _] _ => match dspT.x0T gl sc k with
    | some (.var i) => some (.mp1 (.var i) (.tup []))
    | _ => valT rec sc e
  | .Dict [some k] [v] _ => match dspT.x0T gl sc k, dspT.x0T gl sc v with
    | some (.var i), some y => some (.mp1 (.var i) y)
    | _, some y => match k with
      | .Subscript a i _ => (match stSub gl rec sc a i with
        | some (.idx (.var n) (.cst w)) => some (.mp1 (.idx (.var n) (.cst w)) y)
        | _ => valT rec sc e)
      | _ => valT rec sc e
    | _, _ => valT rec sc e
  | e => valT rec sc e
def parT (es : List Expr) : Option (List (Bool × Ex)) := mapO (fun e => (newT gl rec sc e).map fun x => (isNew x, x)) es
def nmSlot (x : Str) : Option Nat := if sc.nm.lookup x = some .local then slotOf sc.N x else none
def nmsT : Tg → Option (List Nat)
  | .tup ts => mapO (fun t => match t with | .nm i => some i | _ => none) ts
  | _ => none
/-- names, some with new lists, by way of a tuple -/
def parNew (tg : Expr) (vs : List Expr) : Option (List Nat × List (Bool × Ex)) := if vs.length ≤ 8 then (parT gl rec sc vs).bind fun ps => if ps.any (·.1) then (trTg sc 20 tg).bind fun t => (nmsT t).bind fun is => if is.length = ps.length then some (is, ps) else none else none else none
/-- a name with a new list -/
def asgNew (x : Str) (px pos : Pos) (e : Expr) (y : Ex) : Option Sm := match e with
  | .ListComp _ _ scope p => if sc.nm.lookup x = some .local ∧ px.line = p.line ∧ (scope.names.any fun (n, k) => n == x && (k == .local || k == .cell)) = false then (slotOf sc.N x).map fun i => .asgN i y else if sc.nm.lookup x = some .cell ∧ sc.fnb x = true then (slotOf sc.N x).map fun i => .asgN i y else none
  | .DictComp _ _ _ scope p => if sc.nm.lookup x = some .local ∧ px.line = p.line ∧ (scope.names.any fun (n, k) => n == x && (k == .local || k == .cell)) = false then (slotOf sc.N x).map fun i => .asgN i y else none
  | _ => if sc.nm.lookup x = some .local ∨ (sc.nm.lookup x = some .cell ∧ sc.fnb x = true) then (slotOf sc.N x).map fun i => .asgN i y else none
def stAsg (tg e : Expr) (pos : Pos) : Option (List Nat × Sm) := match tg with
  | .Name x px => (newT gl rec sc e).bind fun y => if isNew y then (asgNew sc x px pos e y).map fun s => (esc y, s) else (trTg sc 20 tg).map fun t => (esc y, .asg t y)
  | .Tuple ts _ _ => match e with
    | .Tuple vs _ _ => if noSwap sc ts vs then (match parNew gl rec sc tg vs with
          | some (is, ps) => some (escs (ps.map (·.2)), .par (ps.map (·.1)) is (ps.map (·.2)))
          | none => (valT rec sc e).bind fun y => (trTg sc 20 tg).map fun t => (esc y, .asg t y))
        else if swapOk sc ts vs then match ts, vs with
          | [.Name x _, .Name y _], [_, _] => (parT gl rec sc vs).bind fun ps => (nmSlot sc x).bind fun i => (nmSlot sc y).bind fun j => if i = j then none else some (escs (ps.map (·.2)), .par (ps.map (·.1)) [i, j] (ps.map (·.2)))
          | [.Name x _, .Name y _, .Name z _], [_, _, _] => (parT gl rec sc vs).bind fun ps => (nmSlot sc x).bind fun i => (nmSlot sc y).bind fun j => (nmSlot sc z).bind fun l => if i = j ∨ i = l ∨ j = l then none else some (escs (ps.map (·.2)), .par (ps.map (·.1)) [i, j, l] (ps.map (·.2)))
          | _, _ => none
        else none
    | e => (valT rec sc e).bind fun y => (trTg sc 20 tg).map fun t => (esc y, .asg t y)
  | .Subscript (.Name x _) i _ => match i with
    | .Slice .. => none
    | i => if nameOk x ∧ (sc.nm.lookup x = some .local ∨ sc.nm.lookup x = some .cell ∨ sc.nm.lookup x = some .free) then (slotOf sc.N x).bind fun n => (valT rec sc e).bind fun y => (valT rec sc i).map fun k => (esc y ++ esc k, .sts n k y) else none
  | _ => none
def stExp (e : Expr) : Option (List Nat × Sm) := match e with
  | .Call (.Attribute (.Name x _) m apos) [a] [] cpos => if m = "append" ∧ apos.endLine = cpos.line ∧ nameOk x ∧ (sc.nm.lookup x = some .local ∨ sc.nm.lookup x = some .cell ∨ sc.nm.lookup x = some .free) then
      (slotOf sc.N x).bind fun i => (valT rec sc a).map fun y => (esc y, .app i y)
    else if m = "extend" ∧ apos.endLine = cpos.line ∧ nameOk x ∧ (sc.nm.lookup x = some .local ∨ sc.nm.lookup x = some .cell ∨ sc.nm.lookup x = some .free) then
      (slotOf sc.N x).bind fun i => (valT rec sc a).map fun y => (esc y, .ext i y)
    else if m = "get" then (valT rec sc e).map fun y => (esc y, .exp y) else none
  | .ListComp .. => none
  | .DictComp .. => none
  | e => (valT rec sc e).map fun y => (esc y, .exp y)
variable (recS : List Stmt → Option (List Sm))
def stStmt (st : Stmt) : Option (List Nat × Sm) := match st with
  | .Assign [tg] e pos => stAsg gl rec sc tg e pos
  | .Return none _ => some ([], .retN)
  | .Return (some e) _ => match keep, e with
    | true, .List es _ => (mapO (argT rec sc) es).bind fun xs => if xs.length ≤ 4000 then some ([], .retK xs) else none
    | _, e => (valT rec sc e).map fun y => (esc y, .ret y)
  | .If c a b _ => (rec true sc c).bind fun z => (recS a).bind fun x => (recS b).map fun y => (esc z, .ifs z x y)
  | .While c b [] _ => (rec true sc c).bind fun z => (recS b).map fun x => (esc z, .whl z x)
  | .For tg it b [] _ => (stIter gl rec sc tg it).bind fun i => (trTg sc 20 tg).bind fun t => (recS b).map fun x => (esc i, .for_ t i x)
  | .Expr e _ => stExp rec sc e
  | .Pass _ => some ([], .pass)
  | .Continue _ => some ([], .cont)
  | .Raise (some (.Call (.Name x _) [.Constant (.str m) _ _] [] _)) none _ => (match gl x with
    | some (.exc c true) => if nameOk x = true ∧ sc.nm.lookup x = some .globalImplicit then some ([], .raise c) else some ([], .dead)
    | _ => some ([], .dead))
  | .Raise (some (.Call (.Name x _) [.Name v q] [] _)) none _ => (match gl x, gl ")" with
    | some (.exc c _), some (.flds l) => (match l.find? (fun e => e.1 == c) with
      | some e => if nameOk x = true ∧ sc.nm.lookup x = some .globalImplicit then (match valT rec sc (.Name v q) with
        | some y => some (esc y, .raiseF c e.2 y)
        | none => some ([], .dead)) else some ([], .dead)
      | none => some ([], .dead))
    | _, _ => some ([], .dead))
  | .Raise _ _ _ => some ([], .dead)
  | .Try b [.ExceptHandler (some (.Name x _)) none [.Return (some e) _] _] [] [] _ => (match gl x with
    | some (.exc c _) => if nameOk x = true ∧ sc.nm.lookup x = some .globalImplicit then (match recS b with
      | some y => (match constT e with
        | some w => some ([], .tryR y c w)
        | none => some ([], .dead))
      | none => some ([], .dead)) else some ([], .dead)
    | _ => some ([], match recS b with | some x => .thru x | none => .dead))
  | .Try b (_ :: _) [] [] _ => some ([], match recS b with | some x => .thru x | none => .dead)
  | .Try .. => some ([], .dead)
  | _ => none
end
/-- statements, n deep -/
def trSs (gl : Str → Option Gb) (rec : Rec) (ow : List Nat) (keep : Bool) (sc : SC) : Nat → List Stmt → Option (List Sm)
  | 0, _ => none
  | n + 1, sts => match sts with
    | [] => some []
    | st :: r => (some ((stStmt gl rec keep sc (trSs gl rec ow keep sc n) st).getD ([], .dead))).bind fun a => (trSs gl rec ow keep sc n r).map fun b => withF ow a.1 a.2 ++ b
section
variable {gl : Str → Option Gb} {G : Gm} {C : CallI} {k : Nat} {sc : SC} {X : Cx} {Z : WX} {rec : Rec} {ow : List Nat} {keep : Bool}
theorem RPs.len {K : PySem.W.Frag} {d : Wd} : ∀ {B : Addr → Prop} {fs : List Bool} {ws : List W} {vs : List V}, RPs K G d B fs ws vs → vs.length = fs.length
  | _, [], [], [], _ => rfl
  | _, false :: fs, w :: ws, v :: vs, r => by rw [List.length_cons, List.length_cons, RPs.len r.2]
  | _, true :: fs, w :: ws, v :: vs, r => by
    obtain ⟨_, _, _, _, _, t⟩ := r
    rw [List.length_cons, List.length_cons, RPs.len t]
  | _, [], [], _ :: _, r => r.elim
  | _, [], _ :: _, _, r => r.elim
  | _, b :: _, [], _, r => by cases b <;> exact r.elim
  | _, b :: _, _ :: _, [], r => by cases b <;> exact r.elim
theorem ss_par3 {i j l : Nat} {x y z : Str} {a b c : Expr} {px py pz pt pos : Pos} {kt k2 : Nat} {pt2 : Pos} {f1 f2 f3 : Bool} {xs : List Ex} (hc : X.calm = true) (hN : X.N.Nodup) (hi : X.N[i]? = some x) (hj : X.N[j]? = some y) (hl : X.N[l]? = some z) (hij : i ≠ j) (hil : i ≠ l) (hjl : j ≠ l)
    (hx : X.env.scope.names.lookup x = some .local) (hy : X.env.scope.names.lookup y = some .local) (hz : X.env.scope.names.lookup z = some .local) (ha : PA X [a, b, c] (tPs X.K G Z [f1, f2, f3] (evalP C xs)))
    (hw : swappedStores [.Tuple [.Name x px, .Name y py, .Name z pz] kt pt] (.Tuple [a, b, c] k2 pt2) X.env = pure (some [x, y, z])) :
    PS X (.Assign [.Tuple [.Name x px, .Name y py, .Name z pz] kt pt] (.Tuple [a, b, c] k2 pt2) pos) (tS X.K G Z (exec C (.par [f1, f2, f3] [i, j, l] xs))) := by
  refine PS.imp (ps_par3 hc hN hi hj hl hij hil hjl hx hy hz ha hw) fun D σ H hq => ?_
  have h := par_fin hq
  obtain ⟨env, s, d, Ob, rfl, hE, hS, hk⟩ := h
  refine ⟨env, s, d, Ob, rfl, hE, hS, ?_⟩
  revert hk
  cases evalP C xs env s with
  | no => exact id
  | ex x s' => exact id
  | ok ws s' =>
    intro hk d' vs e o ss r
    have h := hk d' vs e o ss r
    have hl := r.len
    match vs, hl with
    | [v1, v2, v3], _ => exact ⟨v1, v2, v3, rfl, h⟩
theorem names_eq {nm : List (Str × NameKind)} {line : Nat} {ts : List Expr} {f : Expr → Option Str} (h : ∀ e, f e = nameAt nm line e) : ts.filterMap f = ts.filterMap (nameAt nm line) := congrArg (fun f => List.filterMap f ts) (funext h)
theorem any_eq {vs : List Expr} {f : Expr → Bool} (h : ∀ e, f e = isStarE e) : vs.any f = vs.any isStarE := congrArg (fun f => List.any vs f) (funext h)
theorem blk_fn {env : PySem.Env} (hk : env.scope.kind = .function) : env.blockKind = .function := by unfold Env.blockKind; rw [hk]; rfl
theorem sw_some {env : PySem.Env} (hk : env.scope.kind = .function) (hn : env.scope.names = sc.nm) {ts vs : List Expr} {kt k2 : Nat} {pt p2 : Pos} (hl : (ts.length == 2 || ts.length == 3) = true) (hl2 : vs.length = ts.length) (h : swapOk sc ts vs = true) :
    swappedStores [.Tuple ts kt pt] (.Tuple vs k2 p2) env = pure (some (ts.filterMap (nameAt sc.nm ((ts.head?.map (·.pos.line)).getD 0)))) := by
  unfold swapOk at h
  simp only [Bool.and_eq_true, Bool.not_eq_true', beq_iff_eq] at h
  obtain ⟨⟨⟨⟨h1, h2⟩, h3⟩, h4⟩, h5⟩ := h
  have hb := blk_fn hk
  have c1 : (!(ts.length == 2 || ts.length == 3) || vs.length != ts.length || env.blockKind != ScopeKind.function) = false := by
    rw [hl, hl2, hb]
    simp
  have kd : ∀ n, env.kindOf n = sc.nm.lookup n := fun n => by rw [← hn]; rfl
  unfold swappedStores
  dsimp only
  rw [c1, names_eq (nm := sc.nm) (line := (ts.head?.map (·.pos.line)).getD 0) (ts := ts), any_eq (vs := vs), h1]
  · have c2 : ((ts.filterMap (nameAt sc.nm ((ts.head?.map (·.pos.line)).getD 0))).length != ts.length || (ts.filterMap (nameAt sc.nm ((ts.head?.map (·.pos.line)).getD 0))).eraseDups.length != (ts.filterMap (nameAt sc.nm ((ts.head?.map (·.pos.line)).getD 0))).length) = false := by
      rw [h3, h2]
      simp
    rw [c2, h4, h5]
    rfl
  · intro e
    cases e <;> rfl
  · intro e
    cases e <;> first | rfl | skip
    dsimp only
    rw [kd]
    rfl
theorem sw_none {env : PySem.Env} (hk : env.scope.kind = .function) (hn : env.scope.names = sc.nm) {ts vs : List Expr} {kt k2 : Nat} {pt p2 : Pos} (h : noSwap sc ts vs = true) :
    swappedStores [.Tuple ts kt pt] (.Tuple vs k2 p2) env = pure none := by
  have kd : ∀ n, env.kindOf n = sc.nm.lookup n := fun n => by rw [← hn]; rfl
  have hb := blk_fn hk
  unfold noSwap at h
  unfold swappedStores
  dsimp only
  rw [names_eq (nm := sc.nm) (line := (ts.head?.map (·.pos.line)).getD 0) (ts := ts), any_eq (vs := vs)]
  · simp only [Bool.or_eq_true] at h
    rcases h with ((h | h) | h) | h
    · rw [if_pos (by rw [Bool.or_eq_true]; exact .inl (by rw [Bool.or_eq_true]; exact h))]
    · by_cases c : (!(ts.length == 2 || ts.length == 3) || vs.length != ts.length || env.blockKind != ScopeKind.function) = true
      · rw [if_pos c]
      · rw [if_neg c, if_pos h]
    · by_cases c : (!(ts.length == 2 || ts.length == 3) || vs.length != ts.length || env.blockKind != ScopeKind.function) = true
      · rw [if_pos c]
      · rw [if_neg c]
        by_cases c2 : vs.any isStarE = true
        · rw [if_pos c2]
        · rw [if_neg c2, if_pos (by rw [Bool.or_eq_true]; exact h)]
    · by_cases c : (!(ts.length == 2 || ts.length == 3) || vs.length != ts.length || env.blockKind != ScopeKind.function) = true
      · rw [if_pos c]
      · rw [if_neg c]
        by_cases c2 : vs.any isStarE = true
        · rw [if_pos c2]
        · rw [if_neg c2]
          split
          · rfl
          · first | rfl | rw [if_pos h]
  · intro e
    cases e <;> rfl
  · intro e
    cases e <;> first | rfl | skip
    dsimp only
    rw [kd]
    rfl
end
end Mi

/-! Statements of the text, sound. -/
namespace Mi
open PySem PySem.Spec PyProof.Rows L2
section
variable {gl : Str → Option Gb} {G : Gm} {C : CallI} {k : Nat} {sc : SC} {X : Cx} {Z : WX} {rec : Rec} {ow : List Nat} {keep : Bool}
def nameOf : Expr → Str
  | .Name id _ => id
  | _ => ""
theorem names_full {nm : List (Str × NameKind)} {l : Nat} : ∀ ts : List Expr, (ts.filterMap (nameAt nm l)).length = ts.length → ts.filterMap (nameAt nm l) = ts.map nameOf
  | [], _ => rfl
  | e :: ts, h => by
    rw [List.filterMap_cons] at h ⊢
    have hle := List.length_filterMap_le (nameAt nm l) ts
    cases e1 : nameAt nm l e with
    | none =>
      rw [e1] at h
      simp only [List.length_cons] at h
      omega
    | some x =>
      rw [e1] at h
      simp only [List.length_cons] at h
      have ih := names_full (nm := nm) (l := l) ts (by omega)
      dsimp only
      rw [ih, List.map_cons]
      congr 1
      cases e <;> simp only [nameAt] at e1 <;> first | cases e1 | skip
      split at e1
      · cases e1
        rfl
      · cases e1
theorem swap_len {ts vs : List Expr} (h : swapOk sc ts vs = true) : (ts.filterMap (nameAt sc.nm ((ts.head?.map (·.pos.line)).getD 0))).length = ts.length := by
  unfold swapOk at h
  simp only [Bool.and_eq_true, beq_iff_eq] at h
  exact h.1.1.1.2
theorem rec_new (R : Snd gl G C k rec) (h : XOK gl G C k sc X) (tk : Takes X Z) {e : Expr} {y : Ex} (he : valT rec sc e = some y) (hn : isNew y = true) : PE X e (tN X.K G Z (evalE C y)) := by
  unfold valT at he
  split at he
  · cases he
  · cases e2 : rec false sc e with
    | none => rw [e2] at he; cases he
    | some x =>
      rw [e2, Option.bind_some] at he
      split at he
      · cases he
      · cases he
        exact (R.val sc X Z e y h tk e2).2 hn
theorem swaps_no {e : Expr} {t : Option Expr} {l : Nat} {env : PySem.Env} (h1 : ∀ a b c d, e ≠ .ListComp a b c d) (h2 : ∀ a b c d, e ≠ .SetComp a b c d) (h3 : ∀ a b c d f, e ≠ .DictComp a b c d f) : swapsWith e t l env = pure false := by
  cases e <;> first | rfl | exact absurd rfl (h1 _ _ _ _) | exact absurd rfl (h2 _ _ _ _) | exact absurd rfl (h3 _ _ _ _ _)
theorem ss_setDc {own : List (Str × Nat)} {yn : Str} {py spos : Pos} {i : Nat} {kx vx tg iter : Expr} {ifs : List Expr} {scope : Scope} {pos : Pos} {x z it : Ex} {t : Tg} {cs : List Ex} (hu : X.A.units + 65 < cLine) (hc : X.calm = true) (hN : X.N.Nodup) (hy : X.N[i]? = some yn) (hyl : X.env.scope.names.lookup yn = some .local)
    (hsw : swapsWith (.DictComp kx vx [⟨tg, iter, ifs, 0⟩] scope pos) (some (.Name yn py)) spos.line X.env = pure true) (hi : PI X tg iter (tI X.K G Z (fun d => d.Ow) (evalJ C it))) (ok : BlkOk X.N X.env.scope scope own)
    (P : DcParts X scope tg kx vx ifs (gOf X.K t) (tB' X.K G Z0 (evalC C cs)) (tE X.K G Z0 (evalE C x)) (tE X.K G Z0 (evalE C z))) (htg : tgIn (own.map (·.2)) t = true) (hs : ∀ y, foldedSetIterable iter X.env y = pure y) :
    PS X (.Assign [.Name yn py] (.DictComp kx vx [⟨tg, iter, ifs, 0⟩] scope pos) spos) (tS X.K G Z (exec C (.asgN i (.dcomp (own.map (·.2)) x z t it cs)))) := by
  refine PS.imp (ps_setDcN hu hc hN hy hyl hsw hi ok P hs) fun D σ H hq => ?_
  refine dcomp_read htg σ H (fun v H1 => D.nx (σ.set i (some v)) H1) ?_
  obtain ⟨env, s, d, Ob, rfl, hE, hS, hk⟩ := hq
  rw [exec] at hk
  exact tS.step hE hS hk fun w s1 d1 hE1 hS1 h1 v r => own_fin hE1 hS1 h1 r
/-- what a translated expression is not -/
theorem val_shape (hr : ∀ sc e y, rec false sc e = some y → (∀ a b c d, e = .ListComp a b c d → isNew y = true) ∧ (∀ a b c d, e ≠ .SetComp a b c d) ∧ (∀ a b c d f, e = .DictComp a b c d f → isNew y = true)) {e : Expr} {y : Ex} (he : valT rec sc e = some y) :
    (∀ a b c d, e = .ListComp a b c d → isNew y = true) ∧ (∀ a b c d, e ≠ .SetComp a b c d) ∧ (∀ a b c d f, e = .DictComp a b c d f → isNew y = true) := by
  unfold valT at he
  split at he
  · cases he
  · cases e2 : rec false sc e with
    | none => rw [e2] at he; cases he
    | some x =>
      rw [e2, Option.bind_some] at he
      split at he
      · cases he
      · cases he
        exact hr sc e y e2
theorem trX_shape (gl : Str → Option Gb) : ∀ n (sc : SC) (e : Expr) (y : Ex), trX gl n false sc e = some y → (∀ a b c d, e = .ListComp a b c d → isNew y = true) ∧ (∀ a b c d, e ≠ .SetComp a b c d) ∧ (∀ a b c d f, e = .DictComp a b c d f → isNew y = true)
  | 0, _, _, _, he => by cases he
  | n + 1, sc, e, y, he => by
    refine ⟨fun a b c d z => ?_, fun a b c d z => ?_, fun a b c d f z => ?_⟩
    · subst z
      have he : stComp gl (trX gl n) sc a b c = some y := he
      unfold stComp at he
      split at he
      · split at he
        · rename_i tg iter ifs _ _
          cases e1 : stIterJ gl (trX gl n) sc tg iter with
          | none => rw [e1] at he; cases he
          | some it =>
            rw [e1, Option.bind_some] at he
            cases e2 : trTg (scIn sc c) 20 tg with
            | none => rw [e2] at he; cases he
            | some t =>
              rw [e2, Option.bind_some] at he
              split at he
              · cases e3 : stIfs (trX gl n) (scIn sc c) ifs with
                | none => rw [e3] at he; cases he
                | some cs =>
                  rw [e3, Option.bind_some] at he
                  cases e4 : trX gl n false (scIn sc c) a with
                  | none => rw [e4] at he; cases he
                  | some x => rw [e4] at he; cases he; rfl
              · cases he
        · cases he
      · cases he
    · subst z; cases he
    · subst z
      have he : stDComp gl (trX gl n) sc a b c d = some y := he
      unfold stDComp at he
      split at he
      · cases e4 : trX gl n false (scIn sc d) b with
        | none => rw [e4] at he; cases he
        | some x => rw [e4] at he; cases he; rfl
      · cases he
theorem newT_cases {e : Expr} {y : Ex} (he : newT gl rec sc e = some y) : valT rec sc e = some y ∨ (∃ p, e = .Dict [] [] p ∧ y = .mp0) ∨ (∃ k v p i z, e = .Dict [some k] [v] p ∧ dspT.x0T gl sc k = some (.var i) ∧ dspT.x0T gl sc v = some z ∧ y = .mp1 (.var i) z) ∨
    (∃ k c q p i, e = .Dict [some k] [.Tuple [] c q] p ∧ dspT.x0T gl sc k = some (.var i) ∧ y = .mp1 (.var i) (.tup [])) ∨
    ∃ a b q v p n w z, e = .Dict [some (.Subscript a b q)] [v] p ∧ stSub gl rec sc a b = some (.idx (.var n) (.cst w)) ∧ dspT.x0T gl sc v = some z ∧ y = .mp1 (.idx (.var n) (.cst w)) z := by
  unfold newT at he
  split at he
  · cases he
    exact .inr (.inl ⟨_, rfl, rfl⟩)
  · split at he
    · rename_i e1
      cases he
      exact .inr (.inr (.inr (.inl ⟨_, _, _, _, _, rfl, e1, rfl⟩)))
    · exact .inl he
  · split at he
    · rename_i e1 e2
      cases he
      exact .inr (.inr (.inl ⟨_, _, _, _, _, rfl, e1, e2, rfl⟩))
    · rename_i e2 _
      split at he
      · split at he
        · rename_i e3
          cases he
          exact .inr (.inr (.inr (.inr ⟨_, _, _, _, _, _, _, _, rfl, e3, e2, rfl⟩)))
        · exact .inl he
      · exact .inl he
    · exact .inl he
  · exact .inl he
theorem newT_new (h : XOK gl G C k sc X) (R : Snd gl G C k rec) (tk : Takes X Z) {e : Expr} {y : Ex} (he : newT gl rec sc e = some y) (hn : isNew y = true) : PE X e (tN X.K G Z (evalE C y)) := by
  rcases newT_cases he with he | ⟨p, rfl, rfl⟩ | ⟨a, v, p, i, z, rfl, e1, e2, rfl⟩ | ⟨a, c, q, p, i, rfl, e1, rfl⟩ | ⟨a, b, q, v, p, i, w, z, rfl, e1, e2, rfl⟩
  · exact rec_new R h tk he hn
  · exact sn_mp0
  · obtain ⟨p1, q1⟩ := x0T_ok h e1
    obtain ⟨p2, q2⟩ := x0T_ok h e2
    exact sn_mp1 (room65 h.room) p1 p2 q1 q2
  · obtain ⟨p1, q1⟩ := x0T_ok h e1
    exact sn_mp1t (room65 h.room) p1 (pe_tup pa_nil) q1
  · obtain ⟨p1, _⟩ := sub_ok (Z := Z) (pos := q) R h tk e1
    obtain ⟨p2, q2⟩ := x0T_ok h e2
    exact sn_mp1g (room65 h.room) p1 p2 idx_noex q2
theorem newT_old {e : Expr} {y : Ex} (he : newT gl rec sc e = some y) (hn : isNew y ≠ true) : valT rec sc e = some y := by
  rcases newT_cases he with he | ⟨p, rfl, rfl⟩ | ⟨a, v, p, i, z, rfl, e1, e2, rfl⟩ | ⟨a, c, q, p, i, rfl, e1, rfl⟩ | ⟨a, b, q, v, p, i, w, z, rfl, e1, e2, rfl⟩
  · exact he
  · exact absurd rfl hn
  · exact absurd rfl hn
  · exact absurd rfl hn
  · exact absurd rfl hn
theorem newT_star {e : Expr} {y : Ex} (he : newT gl rec sc e = some y) : ∀ a p, e ≠ .Starred a p := by
  rcases newT_cases he with he | ⟨p, rfl, rfl⟩ | ⟨a, v, p, i, z, rfl, e1, e2, rfl⟩ | ⟨a, c, q, p, i, rfl, e1, rfl⟩ | ⟨a, b, q, v, p, i, w, z, rfl, e1, e2, rfl⟩
  · exact val_star he
  · exact fun _ _ z => nomatch z
  · exact fun _ _ z => nomatch z
  · exact fun _ _ z => nomatch z
  · exact fun _ _ z => nomatch z
variable (hsh : ∀ sc e y, rec false sc e = some y → (∀ a b c d, e = .ListComp a b c d → isNew y = true) ∧ (∀ a b c d, e ≠ .SetComp a b c d) ∧ (∀ a b c d f, e = .DictComp a b c d f → isNew y = true))
include hsh in
theorem newT_shape {e : Expr} {y : Ex} (he : newT gl rec sc e = some y) : (∀ a b c d, e = .ListComp a b c d → isNew y = true) ∧ (∀ a b c d, e ≠ .SetComp a b c d) ∧ (∀ a b c d f, e = .DictComp a b c d f → isNew y = true) := by
  rcases newT_cases he with he | ⟨p, rfl, rfl⟩ | ⟨a, v, p, i, z, rfl, e1, e2, rfl⟩ | ⟨a, c, q, p, i, rfl, e1, rfl⟩ | ⟨a, b, q, v, p, i, w, z, rfl, e1, e2, rfl⟩
  · exact val_shape hsh he
  · exact ⟨fun _ _ _ _ z => (by cases z), fun _ _ _ _ z => (by cases z), fun _ _ _ _ _ z => (by cases z)⟩
  · exact ⟨fun _ _ _ _ z => (by cases z), fun _ _ _ _ z => (by cases z), fun _ _ _ _ _ z => (by cases z)⟩
  · exact ⟨fun _ _ _ _ z => (by cases z), fun _ _ _ _ z => (by cases z), fun _ _ _ _ _ z => (by cases z)⟩
  · exact ⟨fun _ _ _ _ z => (by cases z), fun _ _ _ _ z => (by cases z), fun _ _ _ _ _ z => (by cases z)⟩
theorem parts_ok (R : Snd gl G C k rec) (h : XOK gl G C k sc X) (tk : Takes X Z) : ∀ {es : List Expr} {ps : List (Bool × Ex)}, parT gl rec sc es = some ps → PA X es (tPs X.K G Z (ps.map (·.1)) (evalP C (ps.map (·.2)))) ∧ ps.length = es.length
  | [], ps, he => by
    cases he
    exact ⟨sp_nil, rfl⟩
  | e :: es, ps, he => by
    unfold parT at he
    rw [mapO] at he
    cases e1 : newT gl rec sc e with
    | none => rw [e1] at he; cases he
    | some y =>
      rw [e1] at he
      cases e2 : mapO (fun e => (newT gl rec sc e).map fun x => (isNew x, x)) es with
      | none => rw [e2] at he; cases he
      | some r =>
        rw [e2] at he
        cases he
        obtain ⟨ih, il⟩ := parts_ok R h tk (es := es) (ps := r) e2
        refine ⟨?_, by rw [List.length_cons, List.length_cons, il]⟩
        show PA X (e :: es) (tPs X.K G Z (isNew y :: r.map (·.1)) (evalP C (y :: r.map (·.2))))
        refine sp_cons ?_ ih (star_of (newT_star e1))
        cases hn : isNew y with
        | true =>
          rw [if_pos rfl]
          exact newT_new h R tk e1 hn
        | false =>
          rw [if_neg Bool.false_ne_true]
          exact (val_ok R h tk (newT_old e1 (by rw [hn]; exact Bool.false_ne_true))).1
theorem nm_ok (h : XOK gl G C k sc X) {x : Str} {i : Nat} (e : nmSlot sc x = some i) : X.N[i]? = some x ∧ X.env.scope.names.lookup x = some .local := by
  unfold nmSlot at e
  split at e
  · rename_i hk
    exact ⟨by rw [h.N]; exact slotOf_ok e, h.look hk⟩
  · cases e
theorem nmsT_ok {t : Tg} {is : List Nat} (h : nmsT t = some is) : t = .tup (is.map .nm) := by
  cases t with
  | nm i => cases h
  | tup ts =>
    unfold nmsT at h
    congr 1
    induction ts generalizing is with
    | nil => cases h; rfl
    | cons t r ih =>
      cases t with
      | tup _ => cases h
      | nm i =>
        have h : (mapO (fun t => match t with | .nm i => some i | _ => none) r).map (i :: ·) = some is := h
        cases e : mapO (fun t : Tg => match t with | .nm i => some i | _ => none) r with
        | none => rw [e] at h; cases h
        | some js =>
          rw [e] at h
          cases h
          rw [List.map_cons, ← ih e]
include hsh in
theorem asg_ok (R : Snd gl G C k rec) (h : XOK gl G C k sc X) (tk : Takes X Z) (hcp : ∀ elt gs scope p y, rec false sc (.ListComp elt gs scope p) = some y → ∃ n, stComp gl (trX gl n) sc elt gs scope = some y) (hcd : ∀ kx vx gs scope p y, rec false sc (.DictComp kx vx gs scope p) = some y → ∃ n, stDComp gl (trX gl n) sc kx vx gs scope = some y) {tg e : Expr} {pos : Pos} {l : List Nat} {s : Sm} (he : stAsg gl rec sc tg e pos = some (l, s)) : PS X (.Assign [tg] e pos) (tS X.K G Z (exec C s)) := by
  unfold stAsg at he
  split at he
  · -- a name
    rename_i x px
    cases e1 : newT gl rec sc e with
    | none => rw [e1] at he; cases he
    | some y =>
      rw [e1, Option.bind_some] at he
      obtain ⟨s1, s2, s3⟩ := newT_shape hsh e1
      split at he
      · rename_i hn
        cases e2 : asgNew sc x px pos e y with
        | none => rw [e2] at he; cases he
        | some s' =>
          rw [e2] at he
          cases he
          unfold asgNew at e2
          split at e2
          · rename_i elt gs scope p
            split at e2
            · rename_i hc
              obtain ⟨c1, c2, c3⟩ := hc
              cases e3 : slotOf sc.N x with
              | none => rw [e3] at e2; cases e2
              | some i =>
                rw [e3] at e2
                cases e2
                have e4 : rec false sc (.ListComp elt gs scope p) = some y := by
                  unfold newT valT at e1
                  dsimp only at e1
                  cases e5 : rec false sc (.ListComp elt gs scope p) with
                  | none => rw [e5] at e1; cases e1
                  | some z =>
                    rw [e5, Option.bind_some] at e1
                    split at e1
                    · cases e1
                    · exact e1
                obtain ⟨n, e6⟩ := hcp elt gs scope p y e4
                obtain ⟨tg', iter, ifs, it, t, cs, x', rfl, rfl, q1, q2, q3, q4, q5, q6, q7⟩ := comp_parts (trX_ok n _) h tk e6
                refine ss_setLc h.calm h.nd (by rw [h.N]; exact slotOf_ok e3) (h.look c1) (sw_true h.kind (h.look c1) (by rw [c2]; simp) c3) q1 q3 q4 q5 q6 q7 (noSet q2)
            · split at e2
              · rename_i hk
                cases e3 : slotOf sc.N x with
                | none => rw [e3] at e2; cases e2
                | some i =>
                  rw [e3] at e2
                  cases e2
                  refine ss_asgN h.nd (by rw [h.N]; exact slotOf_ok e3) (.inr (h.look hk.1)) (.inl (h.fnb x hk.2)) (newT_new h R tk e1 hn) ?_
                  have kd : X.env.kindOf x = some .cell := by
                    have e2 : X.env.kindOf x = sc.nm.lookup x := by rw [← h.nm]; rfl
                    rw [e2, hk.1]
                  have kd2 : (X.env.kindOf x == some NameKind.local) = false := by rw [kd]; rfl
                  unfold swapsWith
                  dsimp only
                  rw [kd2, Bool.and_false, Bool.false_and, Bool.false_and]
              · cases e2
          · rename_i kx vx gs scope p
            split at e2
            · rename_i hc
              obtain ⟨c1, c2, c3⟩ := hc
              cases e3 : slotOf sc.N x with
              | none => rw [e3] at e2; cases e2
              | some i =>
                rw [e3] at e2
                cases e2
                have e4 : rec false sc (.DictComp kx vx gs scope p) = some y := by
                  unfold newT valT at e1
                  dsimp only at e1
                  cases e5 : rec false sc (.DictComp kx vx gs scope p) with
                  | none => rw [e5] at e1; cases e1
                  | some z =>
                    rw [e5, Option.bind_some] at e1
                    split at e1
                    · cases e1
                    · exact e1
                obtain ⟨n, e6⟩ := hcd kx vx gs scope p y e4
                obtain ⟨tg', iter, ifs, it, t, cs, x', z', rfl, rfl, q1, q2, q3, q4, q5⟩ := dcomp_parts (trX_ok n _) h tk e6
                exact ss_setDc (room65 h.room) h.calm h.nd (by rw [h.N]; exact slotOf_ok e3) (h.look c1) (swD_true h.kind (h.look c1) (by rw [c2]; simp) c3) q1 q3 q5 q4 (noSet q2)
            · cases e2
          · rename_i hnc hnd
            split at e2
            · rename_i hk
              cases e3 : slotOf sc.N x with
              | none => rw [e3] at e2; cases e2
              | some i =>
                rw [e3] at e2
                cases e2
                refine ss_asgN h.nd (by rw [h.N]; exact slotOf_ok e3) (hk.imp h.look fun z => h.look z.1) ?_ (newT_new h R tk e1 hn) (swaps_no (fun a b c d z => hnc a b c d z) s2 fun a b c d f z => hnd a b c d f z)
                rcases hk with hk | ⟨_, hk⟩
                · exact .inr (h.look hk)
                · exact .inl (h.fnb x hk)
            · cases e2
      · rename_i hn
        cases e2 : trTg sc 20 (.Name x px) with
        | none => rw [e2] at he; cases he
        | some t =>
          rw [e2] at he
          cases he
          have hsw : swapsWithSole [.Name x px] e pos.line X.env = pure false := (show swapsWith e (some (.Name x px)) pos.line X.env = pure false from swaps_no (fun a b c d z => hn (s1 a b c d z)) s2 fun a b c d f z => hn (s3 a b c d f z))
          exact ss_asg (val_ok R h tk (newT_old e1 hn)).1 (tg_ok h 20 e2) hsw rfl rfl
  · -- several
    rename_i ts kt pt
    have gen : ∀ (y : Ex) (t : Tg), valT rec sc e = some y → trTg sc 20 (.Tuple ts kt pt) = some t → swappedStores [.Tuple ts kt pt] e X.env = pure none → PS X (.Assign [.Tuple ts kt pt] e pos) (tS X.K G Z (exec C (.asg t y))) := by
      intro y t e1 e2 hw
      obtain ⟨s1, s2, s3⟩ := val_shape hsh e1
      refine ss_asg (val_ok R h tk e1).1 (tg_ok h 20 e2) ?_ hw rfl
      show swapsWith e (some (.Tuple ts kt pt)) pos.line X.env = pure false
      cases e <;> rfl
    split at he
    · rename_i vs k2 p2
      split at he
      · rename_i hns
        split at he
        · rename_i is ps hpn
          cases he
          unfold parNew at hpn
          split at hpn
          · rename_i hv8
            cases e1 : parT gl rec sc vs with
            | none => rw [e1] at hpn; cases hpn
            | some qs =>
              rw [e1, Option.bind_some] at hpn
              split at hpn
              · cases e2 : trTg sc 20 (.Tuple ts kt pt) with
                | none => rw [e2] at hpn; cases hpn
                | some t =>
                  rw [e2, Option.bind_some] at hpn
                  cases e3 : nmsT t with
                  | none => rw [e3] at hpn; cases hpn
                  | some js =>
                    rw [e3, Option.bind_some] at hpn
                    split at hpn
                    · rename_i hjl
                      cases hpn
                      obtain ⟨ha, hlen⟩ := parts_ok R h tk e1
                      have hg := tg_ok h 20 e2
                      rw [nmsT_ok e3] at hg
                      refine ss_parT ha hg rfl (sw_none h.kind h.nm hns) rfl ?_ (by rw [List.length_map]; exact hjl)
                      rw [List.length_map, hlen, sizeLine_eq]
                      omega
                    · cases hpn
              · cases hpn
          · cases hpn
        · cases e1 : valT rec sc (.Tuple vs k2 p2) with
          | none => rw [e1] at he; cases he
          | some y =>
            rw [e1, Option.bind_some] at he
            cases e2 : trTg sc 20 (.Tuple ts kt pt) with
            | none => rw [e2] at he; cases he
            | some t =>
              rw [e2] at he
              cases he
              exact gen y t e1 e2 (sw_none h.kind h.nm hns)
      · rename_i hnn
        split at he
        · rename_i hsw
          split at he
          · rename_i x px y py a b
            have hw := sw_some (kt := kt) (k2 := k2) (pt := pt) (p2 := p2) h.kind h.nm (by rfl) (by rfl) hsw
            cases e1 : parT gl rec sc [a, b] with
            | none => rw [e1] at he; cases he
            | some ps =>
              rw [e1, Option.bind_some] at he
              cases e2 : nmSlot sc x with
              | none => rw [e2] at he; cases he
              | some i =>
                rw [e2, Option.bind_some] at he
                cases e3 : nmSlot sc y with
                | none => rw [e3] at he; cases he
                | some j =>
                  rw [e3, Option.bind_some] at he
                  split at he
                  · cases he
                  · rename_i hij
                    cases he
                    obtain ⟨ha, hlen⟩ := parts_ok R h tk e1
                    obtain ⟨i1, i2⟩ := nm_ok h e2
                    obtain ⟨j1, j2⟩ := nm_ok h e3
                    match ps, hlen with
                    | [q1, q2], _ =>
                      refine ss_par2 h.calm h.nd i1 j1 hij i2 j2 ha (hw.trans ?_)
                      rw [names_full _ (swap_len hsw)]
                      rfl
          · rename_i x px y py z pz a b c
            have hw := sw_some (kt := kt) (k2 := k2) (pt := pt) (p2 := p2) h.kind h.nm (by rfl) (by rfl) hsw
            cases e1 : parT gl rec sc [a, b, c] with
            | none => rw [e1] at he; cases he
            | some ps =>
              rw [e1, Option.bind_some] at he
              cases e2 : nmSlot sc x with
              | none => rw [e2] at he; cases he
              | some i =>
                rw [e2, Option.bind_some] at he
                cases e3 : nmSlot sc y with
                | none => rw [e3] at he; cases he
                | some j =>
                  rw [e3, Option.bind_some] at he
                  cases e4 : nmSlot sc z with
                  | none => rw [e4] at he; cases he
                  | some n =>
                    rw [e4, Option.bind_some] at he
                    split at he
                    · cases he
                    · rename_i hij
                      cases he
                      obtain ⟨ha, hlen⟩ := parts_ok R h tk e1
                      obtain ⟨i1, i2⟩ := nm_ok h e2
                      obtain ⟨j1, j2⟩ := nm_ok h e3
                      obtain ⟨n1, n2⟩ := nm_ok h e4
                      match ps, hlen with
                      | [q1, q2, q3], _ =>
                        refine ss_par3 h.calm h.nd i1 j1 n1 (fun z => hij (.inl z)) (fun z => hij (.inr (.inl z))) (fun z => hij (.inr (.inr z))) i2 j2 n2 ha (hw.trans ?_)
                        rw [names_full _ (swap_len hsw)]
                        rfl
          · cases he
        · cases he
    · rename_i hnt
      cases e1 : valT rec sc e with
      | none => rw [e1] at he; cases he
      | some y =>
        rw [e1, Option.bind_some] at he
        cases e2 : trTg sc 20 (.Tuple ts kt pt) with
        | none => rw [e2] at he; cases he
        | some t =>
          rw [e2] at he
          cases he
          refine gen y t e1 e2 ?_
          cases e <;> first | rfl | exact absurd rfl (hnt _ _ _)
  · -- o[i] = ..
    rename_i x px i p
    split at he
    · cases he
    · rename_i hns
      split at he
      · rename_i hk
        obtain ⟨hn, hk⟩ := hk
        cases e1 : slotOf sc.N x with
        | none => rw [e1] at he; cases he
        | some n =>
          rw [e1, Option.bind_some] at he
          cases e2 : valT rec sc e with
          | none => rw [e2] at he; cases he
          | some y =>
            rw [e2, Option.bind_some] at he
            cases e3 : valT rec sc i with
            | none => rw [e3] at he; cases he
            | some z =>
              rw [e3] at he
              cases he
              obtain ⟨a1, a2, a3, a4⟩ := var_ok (pos := px) h hn hk e1
              refine ss_sts (room65 h.room) a1 a2 a3 a4 (val_ok R h tk e2).1 (val_ok R h tk e3).1 (fun v => ?_) ?_ rfl
              · cases i <;> first | rfl | exact absurd rfl (hns _ _ _ _)
              · show swapsWith e (some (.Subscript (.Name x px) i p)) pos.line X.env = pure false
                cases e <;> rfl
      · cases he
  · cases he
theorem exp_ok (R : Snd gl G C k rec) (h : XOK gl G C k sc X) (tk : Takes X Z) {e : Expr} {pos : Pos} {l : List Nat} {s : Sm} (hsh2 : ∀ y, valT rec sc e = some y → ∀ a b c d, e ≠ .SetComp a b c d) (he : stExp rec sc e = some (l, s)) : PS X (.Expr e pos) (tS X.K G Z (exec C s)) := by
  unfold stExp at he
  split at he
  · rename_i x px m apos a cpos
    split at he
    · rename_i hc
      obtain ⟨rfl, c1, hn, hk⟩ := hc
      cases e1 : slotOf sc.N x with
      | none => rw [e1] at he; cases he
      | some i =>
        rw [e1, Option.bind_some] at he
        cases e2 : valT rec sc a with
        | none => rw [e2] at he; cases he
        | some y =>
          rw [e2] at he
          cases he
          obtain ⟨a1, a2, a3, a4⟩ := var_ok (pos := px) h hn hk e1
          exact ss_app a1 a2 a3 a4 (val_ok R h tk e2).1 (by rw [c1]; simp) (star_of (val_star e2))
    · split at he
      · rename_i hc
        obtain ⟨rfl, c1, hn, hk⟩ := hc
        cases e1 : slotOf sc.N x with
        | none => rw [e1] at he; cases he
        | some i =>
          rw [e1, Option.bind_some] at he
          cases e2 : valT rec sc a with
          | none => rw [e2] at he; cases he
          | some y =>
            rw [e2] at he
            cases he
            obtain ⟨a1, a2, a3, a4⟩ := var_ok (pos := px) h hn hk e1
            exact ss_ext a1 a2 a3 a4 (val_ok R h tk e2).1 (by rw [c1]; simp) (star_of (val_star e2))
      · split at he
        · cases e2 : valT rec sc (.Call (.Attribute (.Name x px) m apos) [a] [] cpos) with
          | none => rw [e2] at he; cases he
          | some y =>
            rw [e2] at he
            cases he
            exact ss_exp (val_ok R h tk e2).1 rfl
        · cases he
  · cases he
  · cases he
  · rename_i hnc hnd
    cases e2 : valT rec sc e with
    | none => rw [e2] at he; cases he
    | some y =>
      rw [e2] at he
      cases he
      exact ss_exp (val_ok R h tk e2).1 (swaps_no (fun a b c d z => hnc a b c d z) (hsh2 y e2) fun a b c d f z => hnd a b c d f z)
theorem constT_ok {e : Expr} {w : W} (h : constT e = some w) : ((∃ j p, e = .Constant .none j p ∧ w = .non) ∨ (∃ b j p, e = .Constant (.bool b) j p ∧ w = .bl b) ∨ (∃ i j p, e = .Constant (.int i) j p ∧ w = .int i) ∨ (∃ k p, e = .Tuple [] k p ∧ w = .tup [])) ∧
    (w = .non ∨ (∃ b, w = .bl b) ∨ (∃ i, w = .int i) ∨ w = .tup []) := by
  unfold constT at h
  split at h
  · cases h
    exact ⟨.inr (.inl ⟨_, _, _, rfl, rfl⟩), .inr (.inl ⟨_, rfl⟩)⟩
  · cases h
    exact ⟨.inl ⟨_, _, rfl, rfl⟩, .inl rfl⟩
  · cases h
    exact ⟨.inr (.inr (.inl ⟨_, _, _, rfl, rfl⟩)), .inr (.inr (.inl ⟨_, rfl⟩))⟩
  · cases h
    exact ⟨.inr (.inr (.inr ⟨_, _, rfl, rfl⟩)), .inr (.inr (.inr rfl))⟩
  · cases h
theorem ss_dead {st : Stmt} : PS X st (tS X.K G Z (exec C .dead)) := PS.imp ps_never fun D σ H hq => by
  obtain ⟨env, s, d, Ob, rfl, hE, hS, hk⟩ := hq
  rw [exec] at hk
  exact hk
include hsh in
theorem stmt_ok (hr1 : Room 1 X.A) (hst : X.stack = X.env :: X.outer ∧ X.env.frame = some X.env.locals) (R : Snd gl G C k rec) (h : XOK gl G C k sc X) (tk : Takes X Z) (hp : PassesOwn (model X.prog X.w) X.A X.env X.xe) (hcp : ∀ elt gs scope p y, rec false sc (.ListComp elt gs scope p) = some y → ∃ n, stComp gl (trX gl n) sc elt gs scope = some y) (hcd : ∀ kx vx gs scope p y, rec false sc (.DictComp kx vx gs scope p) = some y → ∃ n, stDComp gl (trX gl n) sc kx vx gs scope = some y)
    {recS : List Stmt → Option (List Sm)} (RS : ∀ sts xs, recS sts = some xs → PSs X sts (tS X.K G Z (execs C xs))) (RN : ∀ sts xs, recS sts = some xs → PSs X.nox sts (tS X.K G Z0 (execs C xs)))
    (RT : ∀ sts xs, recS sts = some xs → ∀ (W : WX) (pn : List (Addr × Obj)) (xe : Value → Shared → Prop), Takes (X.tr pn xe) W → PassesOwn (model X.prog X.w) X.A X.env xe → PSs (X.tr pn xe) sts (tS X.K G W (execs C xs))) {st : Stmt} {l : List Nat} {s : Sm} (he : stStmt gl rec keep sc recS st = some (l, s)) : PS X st (tS X.K G Z (exec C s)) := by
  unfold stStmt at he
  split at he
  · exact asg_ok hsh R h tk hcp hcd he
  · cases he
    exact ss_retN
  · rename_i e _
    split at he
    · rename_i es lp
      cases e1 : mapO (argT rec sc) es with
      | none => rw [e1] at he; cases he
      | some xs =>
        rw [e1, Option.bind_some] at he
        split at he
        · rename_i hl
          cases he
          exact ss_retK (args_ok R h tk e1) (by omega)
        · cases he
    · cases e1 : valT rec sc e with
      | none => rw [e1] at he; cases he
      | some y =>
        rw [e1] at he
        cases he
        exact ss_ret (val_ok R h tk e1).1
  · rename_i c a b _
    cases e1 : rec true sc c with
    | none => rw [e1] at he; cases he
    | some z =>
      rw [e1, Option.bind_some] at he
      cases e2 : recS a with
      | none => rw [e2] at he; cases he
      | some x =>
        rw [e2, Option.bind_some] at he
        cases e3 : recS b with
        | none => rw [e3] at he; cases he
        | some y =>
          rw [e3] at he
          cases he
          exact ss_if (R.tst sc X Z c z h tk e1) (RS a x e2) (RS b y e3)
  · rename_i c b _
    cases e1 : rec true sc c with
    | none => rw [e1] at he; cases he
    | some z =>
      rw [e1, Option.bind_some] at he
      cases e2 : recS b with
      | none => rw [e2] at he; cases he
      | some x =>
        rw [e2] at he
        cases he
        exact ss_whl hp (R.tst sc X Z c z h tk e1) (RS b x e2)
  · rename_i tg it b _
    cases e1 : stIter gl rec sc tg it with
    | none => rw [e1] at he; cases he
    | some i =>
      rw [e1, Option.bind_some] at he
      cases e2 : trTg sc 20 tg with
      | none => rw [e2] at he; cases he
      | some t =>
        rw [e2, Option.bind_some] at he
        cases e3 : recS b with
        | none => rw [e3] at he; cases he
        | some x =>
          rw [e3] at he
          cases he
          obtain ⟨q1, q2⟩ := iter_ok R h tk e1
          exact ss_for hp h.calm q1 (tg_ok h 20 e2) (RS b x e3) (noSet q2)
  · rename_i e _
    refine exp_ok R h tk (fun y hy => ?_) he
    obtain ⟨_, s2, _⟩ := val_shape hsh hy
    exact s2
  · cases he
    exact ss_pass
  · cases he
    exact ss_cont
  · rename_i x p1 m j p2 p3 p4
    split at he
    · rename_i c hg
      split at he
      · rename_i hx
        cases he
        obtain ⟨A, g1, g2, _, g3⟩ := h.g.exc x c true hg
        obtain ⟨q1, q2, q3, q4⟩ := g3 rfl
        exact ss_raise h.calm tk g1 g2 q1 q2 q3 q4 (h.gl_ hx.2) (nameOk_ok hx.1).1
      · cases he
        exact ss_dead
    · cases he
      exact ss_dead
  · rename_i x p1 v q p3 p4
    split at he
    · rename_i c mk l hg hl
      split at he
      · rename_i e hf
        split at he
        · rename_i hx
          split at he
          · rename_i y e1
            cases he
            obtain ⟨A, g1, g2, _⟩ := h.g.exc x c mk hg
            obtain ⟨s1, s2⟩ := h.g.fld l hl
            have ec : e.1 = c := by
              have := List.find?_some hf
              exact beq_iff_eq.mp this
            obtain ⟨fI, T, kC⟩ := s2 e (List.mem_of_find?_eq_some hf) A (by rw [ec]; exact g1)
            exact ss_raiseF h.calm tk g1 g2 T kC s1 hr1 (h.gl_ hx.2) (nameOk_ok hx.1).1 (val_ok R h tk e1).1 rfl
          · cases he
            exact ss_dead
        · cases he
          exact ss_dead
      · cases he
        exact ss_dead
    · cases he
      exact ss_dead
  · cases he
    exact ss_dead
  · rename_i b x np e rp hdp tp
    split at he
    · rename_i c mk hg
      split at he
      · rename_i hx
        cases e1 : recS b with
        | none => rw [e1] at he; cases he; exact ss_dead
        | some y =>
          rw [e1] at he
          dsimp only at he
          cases e2 : constT e with
          | none => rw [e2] at he; cases he; exact ss_dead
          | some w =>
            rw [e2] at he
            cases he
            obtain ⟨A, g1, g2, g3, _⟩ := h.g.exc x c mk hg
            obtain ⟨c1, c2⟩ := constT_ok e2
            exact ss_tryR hst.1 hst.2 ⟨h.gl_ hx.2, (nameOk_ok hx.1).1, .inl g2⟩ tk c2 g3 (RT b y e1) (retC_ok c1)
      · cases he
        exact ss_dead
    · cases e1 : recS b with
      | none => rw [e1] at he; cases he; exact ss_dead
      | some x => rw [e1] at he; cases he; exact ss_thru (RN b x e1)
  · rename_i b _ _ _ _
    cases e1 : recS b with
    | none => rw [e1] at he; cases he; exact ss_dead
    | some x => rw [e1] at he; cases he; exact ss_thru (RN b x e1)
  · cases he
    exact ss_dead
  · cases he
theorem withF_ok {st : Stmt} {r : List Stmt} {l : List Nat} {s : Sm} {b : List Sm} (h1 : PS X st (tS X.K G Z (exec C s))) (h2 : PSs X r (tS X.K G Z (execs C b))) : PSs X (st :: r) (tS X.K G Z (execs C (withF ow l s ++ b))) := by
  unfold withF
  split
  · exact ss_cons h1 h2
  · exact ss_frz (ss_cons h1 h2)
theorem trX_comp (gl : Str → Option Gb) {n : Nat} {sc : SC} {elt : Expr} {gs : List Comprehension} {scope : Scope} {p : Pos} {y : Ex} (he : trX gl n false sc (.ListComp elt gs scope p) = some y) : ∃ n, stComp gl (trX gl n) sc elt gs scope = some y := by
  cases n with
  | zero => cases he
  | succ n => exact ⟨n, he⟩
theorem trX_dcomp (gl : Str → Option Gb) {n : Nat} {sc : SC} {kx vx : Expr} {gs : List Comprehension} {scope : Scope} {p : Pos} {y : Ex} (he : trX gl n false sc (.DictComp kx vx gs scope p) = some y) : ∃ n, stDComp gl (trX gl n) sc kx vx gs scope = some y := by
  cases n with
  | zero => cases he
  | succ n => exact ⟨n, he⟩
theorem XOK.tr (h : XOK gl G C k sc X) (pn : List (Addr × Obj)) (xe : Value → Shared → Prop) : XOK gl G C k sc (X.tr pn xe) :=
  ⟨h.N, h.nd, h.kind, h.nm, h.fnb, h.calm, h.room, h.cold, ⟨h.g.free, h.g.con, h.g.fn, h.g.exc, h.g.rep, h.g.fld⟩, fun z => ⟨⟨(h.said z).1.free, (h.said z).1.con, (h.said z).1.fn, (h.said z).1.exc, (h.said z).1.rep, (h.said z).1.fld⟩, fun x md tab e Y hY hg => (h.said z).2 x md tab e Y ⟨hY.prog, hY.w, hY.K, hY.mg, hY.base, hY.A, hY.code, hY.qual⟩ hg⟩⟩
theorem XOK.nox (h : XOK gl G C k sc X) : XOK gl G C k sc X.nox := h.tr X.pn fun _ _ => False
theorem takesZ0 {X : Cx} : Takes X Z0 := fun u s' ⟨_, _, _, _, _, _, _, _, _, _, _, _, _, _, _, _, w⟩ => w.elim
theorem trSs_ok' (m : Nat) : ∀ (n : Nat) (X : Cx) (Z : WX) (_ : X.stack = X.env :: X.outer ∧ X.env.frame = some X.env.locals) (_ : XOK gl G C k sc X) (_ : Takes X Z) (_ : PassesOwn (model X.prog X.w) X.A X.env X.xe) (_ : Room 1 X.A) {sts : List Stmt} {xs : List Sm}, trSs gl (trX gl m) ow keep sc n sts = some xs → PSs X sts (tS X.K G Z (execs C xs))
  | 0, _, _, _, _, _, _, _, _, _, he => by cases he
  | n + 1, X, Z, hst, h, tk, hp, hr1, sts, xs, he => by
    unfold trSs at he
    split at he
    · cases he
      exact ss_nil
    · rename_i st r
      rw [Option.bind_some] at he
      cases e2 : trSs gl (trX gl m) ow keep sc n r with
      | none => rw [e2] at he; cases he
      | some b =>
        rw [e2] at he
        cases he
        have rest := trSs_ok' m n X Z hst h tk hp hr1 e2
        cases e1 : stStmt gl (trX gl m) keep sc (trSs gl (trX gl m) ow keep sc n) st with
        | none => exact withF_ok ss_dead rest
        | some a =>
          exact withF_ok (stmt_ok (trX_shape gl m) hr1 hst (trX_ok m gl) h tk hp (fun _ _ _ _ _ z => trX_comp gl z) (fun _ _ _ _ _ _ z => trX_dcomp gl z) (fun sts xs z => trSs_ok' m n X Z hst h tk hp hr1 z) (fun sts xs z => trSs_ok' m n X.nox Z0 hst h.nox takesZ0 PassesOwn.never hr1 z)
            (fun sts xs z W pn xe tk' hp' => trSs_ok' m n (X.tr pn xe) W hst (h.tr pn xe) tk' hp' hr1 z) e1) rest
theorem trSs_ok (hst : X.stack = X.env :: X.outer ∧ X.env.frame = some X.env.locals) (h : XOK gl G C k sc X) (tk : Takes X Z) (hp : PassesOwn (model X.prog X.w) X.A X.env X.xe) (hr1 : Room 1 X.A) (m : Nat) (n : Nat) {sts : List Stmt} {xs : List Sm} (he : trSs gl (trX gl m) ow keep sc n sts = some xs) : PSs X sts (tS X.K G Z (execs C xs)) := trSs_ok' m n X Z hst h tk hp hr1 he
end
end Mi

/-! Except suites: what they answer of an exception whose class is known. -/
namespace Mi
open PySem PySem.Spec PyProof.Rows L2
inductive XA where
  | s (z : Str) | i (n : Int) | b (x : Bool)
  deriving DecidableEq
def XA.v : XA → V
  | .s z => .str z
  | .i n => .int n
  | .b x => .bl x
inductive XV where
  | at_ (a : XA) | l (xs : List XA)
def XR (H : Hp) : XV → V → Prop
  | .at_ a, v => v = a.v
  | .l xs, v => ∃ p, v = .ref p ∧ H p = some (.lst (xs.map XA.v)) ∧ xs.length ≤ 1000
abbrev XEnv := List (Option XV)
theorem XR.ext {H H' : Hp} (e : HExt H H') {v : XV} {u : V} (r : XR H v u) : XR H' v u := by
  cases v with
  | at_ a => exact r
  | l xs =>
    obtain ⟨p, e1, e2, e3⟩ := r
    exact ⟨p, e1, e _ _ e2, e3⟩
/-- the exception: its name, what isinstance says of it, what a def answers of it, its field -/
structure XI where
  en : Str
  isT : Str → Option Bool
  wd : Option (Str × Str)
  fl : Option (Str × Int)
/-- the exception's dict, if it has one -/
def DxOk (d : Option Addr) (H : Hp) : Prop := ∀ dd, d = some dd → ∃ fs, H dd = some (.xd fs)
theorem DxOk.none {H : Hp} : DxOk none H := fun _ z => nomatch z
def XI.fields (J : XI) (d : Option Addr) (H : Hp) : Prop := (∀ f n, J.fl = some (f, n) → ∃ dd, d = some dd ∧ H dd = some (.xd [(f, V.int n)])) ∧ DxOk d H
structure XSt (J : XI) (ie : Nat) (a : Addr) (d : Option Addr) (env : XEnv) (σ : L2.St) (H : Hp) : Prop where
  at_ : ∀ (i : Nat) (v : XV), env[i]? = some (some v) → ∃ u, σ[i]? = some (some u) ∧ XR H v u
  ex : σ[ie]? = some (some (.ref a))
  fl : J.fields d H
  len : env.length = σ.length
theorem XSt.ext {J : XI} {ie : Nat} {a : Addr} {d : Option Addr} {env : XEnv} {σ : L2.St} {H H' : Hp} (h : XSt J ie a d env σ H) (e : HExt H H') : XSt J ie a d env σ H' :=
  ⟨fun i v hi => by
    obtain ⟨u, h1, h2⟩ := h.at_ i v hi
    exact ⟨u, h1, h2.ext e⟩, h.ex, ⟨fun f n hf => by
    obtain ⟨dd, e1, e2⟩ := h.fl.1 f n hf
    exact ⟨dd, e1, e _ _ e2⟩, fun dd hd => by
    obtain ⟨fs, e2⟩ := h.fl.2 dd hd
    exact ⟨fs, e _ _ e2⟩⟩, h.len⟩
section
variable (J : XI) (ie : Nat) (a : Addr) (d : Option Addr)
def tXe (v : XV) (env : XEnv) : TE := fun σ H Q => XSt J ie a d env σ H ∧ ∀ H' u, HExt H H' → XR H' v u → Q u H'
def tXt (b : Bool) (env : XEnv) : TT := fun σ H Q => XSt J ie a d env σ H ∧ ∀ H', HExt H H' → Q b H'
def tXl (vs : List XA) (env : XEnv) : TA := fun σ H Q => XSt J ie a d env σ H ∧ ∀ H', HExt H H' → Q (vs.map XA.v) H'
/-- where such a suite stands -/
structure XC (sc : SC) (X : Cx) : Prop where
  N : X.N = sc.N
  nd : X.N.Nodup
  ei : sc.N[ie]? = some J.en
  nm : X.env.scope.names = sc.nm
  hu : X.A.units + 65 < cLine
  isT : ∀ c b, J.isT c = some b → ∀ p1 p2 p3 pos, PE X (.Call (.Name "isinstance" p1) [.Name J.en p2, .Name c p3] [] pos) (fun σ H Q => σ[ie]? = some (some (.ref a)) ∧ J.fields d H ∧ Q (.bl b) H)
  wd : ∀ g z, J.wd = some (g, z) → ∀ p1 p2 pos, PE X (.Call (.Name g p1) [.Name J.en p2] [] pos) (fun σ H Q => σ[ie]? = some (some (.ref a)) ∧ J.fields d H ∧ ∀ H', HExt H H' → Q (.str z) H')
  fl : ∀ f n, J.fl = some (f, n) → ∀ p1 p2, PE X (.Attribute (.Name J.en p1) f p2) (fun σ H Q => σ[ie]? = some (some (.ref a)) ∧ J.fields d H ∧ Q (.int n) H)
  rp : J.fl.isSome = true → sc.nm.lookup ("repr" : Str) = some .globalImplicit → Gl X "repr" ∧ X.mg "repr" = none
end
def XV.atom : XV → Option XA
  | .at_ a => some a
  | _ => none
/-- list.count(True), list.index(True) -/
def boolsX : List XA → Option (List Bool)
  | [] => some []
  | .b x :: r => (boolsX r).map (x :: ·)
  | _ :: _ => none
def intOk (n : Int) : Bool := decide (n.natAbs.log2 < 1920)
mutual
def xev (J : XI) (sc : SC) : Nat → XEnv → Expr → Option XV
  | 0, _, _ => none
  | n + 1, env, e => match e with
    | .Name x _ => if nameOk x && decide (sc.nm.lookup x = some .local) then (slotOf sc.N x).bind fun i => (env[i]?).bind id else none
    | .Constant (.str z) _ _ => some (.at_ (.s z))
    | .Constant (.int i) _ _ => some (.at_ (.i i))
    | .Constant (.bool b) _ _ => some (.at_ (.b b))
    | .List es _ => if es.length ≤ 900 then (xevs J sc n env es).map .l else none
    | .BinOp a .Add b _ => match xev J sc n env a, xev J sc n env b with
      | some (.l xs), some (.l ys) => if xs.length + ys.length ≤ 1000 then some (.l (xs ++ ys)) else none
      | some (.at_ (.s x)), some (.at_ (.s y)) => if x.length + y.length ≤ 1000000 then some (.at_ (.s (x ++ y))) else none
      | _, _ => none
    | .Call (.Name f _) [.Name x _] [] _ => if x = J.en then (match J.wd with
      | some (g, z) => if f = g then some (.at_ (.s z)) else none
      | none => none) else none
    | .Call (.Name f _) [.Name x _, .Name c _] [] _ => if f = "isinstance" ∧ x = J.en then (J.isT c).map fun b => .at_ (.b b) else none
    | .Call (.Name f _) [.Attribute (.Name x _) m _] [] _ => if f = "repr" ∧ x = J.en ∧ sc.nm.lookup ("repr" : Str) = some .globalImplicit then (match J.fl with
      | some (f', k) => if m = f' ∧ intOk k = true then some (.at_ (.s (toString k))) else none
      | none => none) else none
    | .Call (.Attribute o m apos) [.Constant (.bool true) _ _] [] pos => if apos.endLine = pos.line ∧ noCall o = true then (match xev J sc n env o with
      | some (.l xs) => (boolsX xs).bind fun bs => if m = "count" then some (.at_ (.i (bs.count true : Nat))) else if m = "index" then (bs.findIdx? id).map fun k => .at_ (.i (k : Nat)) else none
      | _ => none) else none
    | .Subscript a i _ => match i with
      | .Slice .. => none
      | .Starred .. => none
      | i => match xev J sc n env a, xev J sc n env i with
        | some (.l xs), some (.at_ (.i k)) => (L2.ixN xs.length k).bind fun j => (xs[j]?).map .at_
        | _, _ => none
    | .IfExp c a b _ => match xte J sc n env c with
      | some true => xev J sc n env a
      | some false => xev J sc n env b
      | none => none
    | _ => none
def xte (J : XI) (sc : SC) : Nat → XEnv → Expr → Option Bool
  | 0, _, _ => none
  | n + 1, env, e => match e with
    | .BoolOp .Or [a, b] _ => match xte J sc n env a with
      | some true => some true
      | some false => xte J sc n env b
      | none => none
    | .BoolOp .. => none
    | .Compare a [.NotEq] [b] _ => if behindInMarks .NotEq b then none else match xev J sc n env a, xev J sc n env b with
      | some (.at_ (.i x)), some (.at_ (.i y)) => some (!decide (x = y))
      | _, _ => none
    | .Compare a [.Eq] [b] _ => if behindInMarks .Eq b then none else match xev J sc n env a, xev J sc n env b with
      | some (.at_ (.s x)), some (.at_ (.s y)) => some (decide (x = y))
      | _, _ => none
    | .Compare .. => none
    | .UnaryOp .Not a _ => (xte J sc n env a).map (!·)
    | .UnaryOp .. => none
    | .IfExp .. => none
    | e => match xev J sc n env e with
      | some (.at_ (.b b)) => some b
      | _ => none
def xevs (J : XI) (sc : SC) : Nat → XEnv → List Expr → Option (List XA)
  | 0, _, _ => none
  | n + 1, env, es => match es with
    | [] => some []
    | e :: r => match e with
      | .Starred .. => none
      | e => ((xev J sc n env e).bind XV.atom).bind fun x => (xevs J sc n env r).map (x :: ·)
end
def xst (J : XI) (sc : SC) : Nat → XEnv → List Stmt → Option Str
  | 0, _, _ => none
  | n + 1, env, ss => match ss with
    | .Return (some e) _ :: _ => match xev J sc 100 env e with
      | some (.at_ (.s z)) => some z
      | _ => none
    | .Assign [.Name x _] e _ :: r => match e with
      | .ListComp .. => none
      | .SetComp .. => none
      | .DictComp .. => none
      | e => if x ≠ J.en ∧ decide (sc.nm.lookup x = some .local) = true then (slotOf sc.N x).bind fun i => (xev J sc 100 env e).bind fun v => if i < env.length then xst J sc n (env.set i (some v)) r else none else none
    | .If c a [] _ :: r => match xte J sc 100 env c with
      | some true => xst J sc n env a
      | some false => xst J sc n env r
      | none => none
    | _ => none
section
variable {J : XI} {ie : Nat} {a : Addr} {d : Option Addr} {sc : SC} {X : Cx}
theorem XC.look (C : XC J ie a d sc X) {x : Str} {k : NameKind} (e : sc.nm.lookup x = some k) : X.env.scope.names.lookup x = some k := by rw [C.nm]; exact e
theorem xe_at {e : Expr} {v : V} {x : XA} {env : XEnv} (h : PE X e (tC v)) (hv : v = x.v) : PE X e (tXe J ie a d (.at_ x) env) := PE.imp h fun σ H Q hq => hq.2 H v (.refl H) hv
/-- no way -/
theorem pe_no {e : Expr} : PE X e (fun _ _ _ => False) := ⟨fun _ _ _ _ _ _ z => z.elim⟩
theorem pt_no {e : Expr} : PT X e (fun _ _ _ => False) := ⟨fun _ _ _ _ _ _ z => z.elim⟩
theorem countP_U {x : V} : ∀ {ys : List V} {us : List Value}, Vals ys us → ys.all flatV = true → us.countP (eqU x) = ys.countP fun z => eqV z x
  | _, _, .nil, _ => rfl
  | y :: ys, u :: us, .cons r t, f => by
    rw [List.all_cons, Bool.and_eq_true] at f
    rw [List.countP_cons, List.countP_cons, countP_U t f.2, eqU_of r f.1]
def rCountF (K : PySem.W.Frag) : V → List V → Hp → VK → Prop := fun x xs H Q => ∃ (p : Addr) (ys : List V) (y : V), x = .ref p ∧ xs = [y] ∧ SqL K H p ys ∧ flatV y = true ∧ ys.all flatV = true ∧ Q (.int (ys.countP fun z => eqV z y)) H
theorem mt_countF : MtR X "list.count" (rCountF X.K) := by
  rintro pins t τ T x xs rv us R I rx rxs ⟨p, ys, y, rfl, rfl, hs, fy, fys, q⟩
  cases rx
  obtain ⟨u, rfl, ru⟩ := rxs.one
  obtain ⟨its, vs, ⟨⟨cls, dd, data, sl⟩, n, ho, hc, hdn, hd⟩, hlen⟩ := I.list hs
  simp only at hc hd
  subst hc hd
  refine call_meets PySem.F.slot_list_count ⟨_, ho, rfl⟩ PySem.F.entry_list_count (PySem.F.args_list_count_2 _ _)
    (SeqAt.list_countAt p its.toArray n dd sl u (eqU y)) ⟨ho, fun z hz => mem_eqAt ru fy vs fys z (by simpa using hz), ?_⟩
  refine ⟨.int (ys.countP fun z => eqV z y), T, I.tok _, ⟨t.toks, ?_⟩, q⟩
  show Value.int ((its.toArray.toList.countP (eqU y) : Nat) : Int) t.toks = _
  rw [← countP_U vs fys]
theorem boolsX_ok : ∀ {xs : List XA} {bs : List Bool}, boolsX xs = some bs → xs.map XA.v = bs.map V.bl
  | [], bs, h => by cases h; rfl
  | .b x :: r, bs, h => by
    simp only [boolsX] at h
    cases e : boolsX r with
    | none => rw [e] at h; cases h
    | some l =>
      rw [e] at h
      cases h
      rw [List.map_cons, List.map_cons, boolsX_ok e]
      rfl
  | .s _ :: _, _, h => by cases h
  | .i _ :: _, _, h => by cases h
theorem flat_bools (bs : List Bool) : (bs.map V.bl).all flatV = true := by
  rw [List.all_eq_true]
  intro x hx
  obtain ⟨b, _, rfl⟩ := List.mem_map.mp hx
  rfl
theorem count_bools : ∀ bs : List Bool, ((bs.map V.bl).countP fun z => eqV z (.bl true)) = bs.count true
  | [] => rfl
  | b :: bs => by
    rw [List.map_cons, List.countP_cons, count_bools bs, List.count_cons]
    cases b <;> rfl
theorem atI_ix {xs : List XA} {k : Int} {j : Nat} {x : XA} (h : ixN xs.length k = some j) (hx : xs[j]? = some x) : atI (xs.map XA.v) k = some x.v := by
  unfold atI
  rw [List.length_map, h]
  show (xs.map XA.v)[j]? = _
  rw [List.getElem?_map, hx]
  rfl
mutual
theorem xev_ok (C : XC J ie a d sc X) : ∀ (n : Nat) (env : XEnv) (e : Expr) (v : XV), xev J sc n env e = some v → PE X e (tXe J ie a d v env)
  | 0, _, _, _, h => by simp only [xev] at h; cases h
  | n + 1, env, e, v, h => by
    unfold xev at h
    split at h
    · -- a name
      split at h
      · rename_i x p hx
        rw [Bool.and_eq_true, decide_eq_true_eq] at hx
        obtain ⟨n1, n2, n3⟩ := nameOk_ok hx.1
        cases e1 : slotOf sc.N x with
        | none => rw [e1] at h; cases h
        | some i =>
          rw [e1, Option.bind_some] at h
          cases e2 : env[i]? with
          | none => rw [e2] at h; cases h
          | some o =>
            rw [e2] at h
            obtain rfl : o = some v := h
            refine PE.imp (pe_var (i := i) (by rw [C.N]; exact slotOf_ok e1) (.inl (C.look hx.2)) n1 n2) fun σ H Q hq => ?_
            obtain ⟨u, h1, h2⟩ := hq.1.at_ i v e2
            exact ⟨u, h1, hq.2 H u (.refl H) h2⟩
      · cases h
    · cases h
      exact xe_at pe_str rfl
    · cases h
      exact xe_at pe_int rfl
    · cases h
      exact xe_at pe_bl rfl
    · split at h
      · rename_i es p hl
        cases e1 : xevs J sc n env es with
        | none => rw [e1] at h; cases h
        | some xs =>
          rw [e1] at h
          cases h
          obtain ⟨h1, h2⟩ := xevs_ok C n env es xs e1
          refine PE.imp (pe_lst h1) fun σ H Q hq => ⟨hq.1, fun H' e => ⟨?_, fun q hq' => hq.2 _ _ (e.trans (.new hq')) ⟨q, rfl, upd_same, by omega⟩⟩⟩
          rw [List.length_map, h2]
          exact Nat.le_trans hl (by decide)
      · cases h
    · rename_i ea eb p
      split at h
      · rename_i xs ys e1 e2
        split at h
        · rename_i hl
          cases h
          refine PE.imp (pe_op op_cat (xev_ok C n env ea _ e1) (xev_ok C n env eb _ e2)) fun σ H Q hq => ⟨hq.1, fun H1 u ex1 r1 => ⟨hq.1.ext ex1, fun H2 u2 ex2 r2 => ?_⟩⟩
          obtain ⟨p1, rfl, q1, _⟩ := r1.ext ex2
          obtain ⟨p2, rfl, q2, _⟩ := r2
          refine ⟨p1, p2, _, _, rfl, rfl, q1, q2, ?_, fun q hq' => hq.2 _ _ ((ex1.trans ex2).trans (.new hq')) ⟨q, rfl, ?_, ?_⟩⟩
          · rw [List.length_map, List.length_map]
            exact Nat.le_trans hl (by decide)
          · rw [upd_same, List.map_append]
          · rw [List.length_append]
            exact hl
        · cases h
      · rename_i x y e1 e2
        split at h
        · rename_i hl
          cases h
          refine PE.imp (pe_op op_add_str (xev_ok C n env ea _ e1) (xev_ok C n env eb _ e2)) fun σ H Q hq => ⟨hq.1, fun H1 u ex1 r1 => ⟨hq.1.ext ex1, fun H2 u2 ex2 r2 => ?_⟩⟩
          exact ⟨x, y, r1, r2, Nat.le_trans hl (by decide), hq.2 _ _ (ex1.trans ex2) rfl⟩
        · cases h
      · cases h
    · split at h
      rotate_left
      · cases h
      rename_i f p1 x p2 p3 hx
      subst hx
      split at h
      · rename_i g z hw
        split at h
        · rename_i hf
          subst hf
          cases h
          exact PE.imp (C.wd _ _ hw _ _ _) fun σ H Q hq => ⟨hq.1.ex, hq.1.fl, fun H' e => hq.2 _ _ e rfl⟩
        · cases h
      · cases h
    · split at h
      · rename_i f p1 x p2 c p3 p4 hx
        obtain ⟨rfl, rfl⟩ := hx
        cases e1 : J.isT c with
        | none => rw [e1] at h; cases h
        | some b =>
          rw [e1] at h
          cases h
          exact PE.imp (C.isT _ _ e1 _ _ _ _) fun σ H Q hq => ⟨hq.1.ex, hq.1.fl, hq.2 _ _ (.refl H) rfl⟩
      · cases h
    · split at h
      rotate_left
      · cases h
      rename_i f p1 x p2 m p3 p4 hx
      obtain ⟨rfl, rfl, hrp⟩ := hx
      split at h
      rotate_left
      · cases h
      rename_i f' k hf
      split at h
      rotate_left
      · cases h
      rename_i hk
      obtain ⟨rfl, hk⟩ := hk
      cases h
      obtain ⟨r1, r2⟩ := C.rp (by rw [hf]; rfl) hrp
      refine PE.imp (pe_callB SkE.call_repr_int r1 r2 (by decide +kernel) (pa_cons (C.fl _ _ hf _ _) pa_nil)) fun σ H Q hq => ⟨hq.1.ex, hq.1.fl, ?_⟩
      exact ⟨k, rfl, of_decide_eq_true hk, hq.2 _ _ (.refl H) rfl⟩
    · split at h
      rotate_left
      · cases h
      rename_i o m apos jk p5 p6 hx
      split at h
      rotate_left
      · cases h
      rename_i xs e1
      cases e2 : boolsX xs with
      | none => rw [e2] at h; cases h
      | some bs =>
        rw [e2, Option.bind_some] at h
        have hb := boolsX_ok e2
        have hline : (apos.endLine == p6.line) = true := by rw [hx.1]; simp
        split at h
        · rename_i hm
          subst hm
          cases h
          refine PE.imp (pe_bm PySem.F.plainAttrs_list PySem.F.slot_list_count PySem.F.type_list_count mt_countF (xev_ok C n env o _ e1) (pa_cons pe_bl pa_nil) (base_of hx.2) (by rfl) hline) fun σ H Q hq => ⟨hq.1, fun H1 u ex1 r1 => ?_⟩
          obtain ⟨p, rfl, q1, q2⟩ := r1
          rw [hb] at q1
          refine ⟨.inl ⟨rfl, _, .of q1⟩, p, _, .bl true, rfl, rfl, .of q1, rfl, flat_bools bs, ?_⟩
          rw [count_bools]
          exact hq.2 _ _ ex1 rfl
        · split at h
          · rename_i hm
            subst hm
            cases e3 : bs.findIdx? id with
            | none => rw [e3] at h; cases h
            | some k =>
              rw [e3] at h
              cases h
              refine PE.imp (pe_bm PySem.F.plainAttrs_list PySem.F.slot_list_index PySem.F.type_list_index mt_index (xev_ok C n env o _ e1) (pa_cons pe_bl pa_nil) (base_of hx.2) (by rfl) hline) fun σ H Q hq => ⟨hq.1, fun H1 u ex1 r1 => ?_⟩
              obtain ⟨p, rfl, q1, q2⟩ := r1
              rw [hb] at q1
              obtain ⟨hlt, g1, g2⟩ := List.findIdx?_eq_some_iff_getElem.mp e3
              refine ⟨.inl ⟨rfl, _, .of q1⟩, p, _, .bl true, k, .bl true, rfl, rfl, .of q1, rfl, flat_bools bs, ?_, rfl, fun m z hm hz => ?_, hq.2 _ _ ex1 rfl⟩
              · rw [List.getElem?_map, List.getElem?_eq_getElem hlt]
                have : bs[k] = true := g1
                rw [this]
                rfl
              · rw [List.getElem?_map, List.getElem?_eq_getElem (by omega)] at hz
                cases hz
                have := g2 m hm
                have : bs[m] = false := by simpa using this
                rw [this]
                rfl
          · cases h
    · rename_i ea ei p
      split at h
      · cases h
      · cases h
      rename_i n1 n2
      split at h
      rotate_left
      · cases h
      rename_i xs k e1 e2
      cases e3 : ixN xs.length k with
      | none => rw [e3] at h; cases h
      | some j =>
        rw [e3, Option.bind_some] at h
        cases e4 : xs[j]? with
        | none => rw [e4] at h; cases h
        | some x =>
          rw [e4] at h
          cases h
          refine PE.imp (pe_ix ix_list (xev_ok C n env ea _ e1) (xev_ok C n env ei _ e2) ?_) fun σ H Q hq => ⟨hq.1, fun H1 u ex1 r1 => ⟨hq.1.ext ex1, fun H2 u2 ex2 r2 => ?_⟩⟩
          · intro o i
            cases ei <;> first | rfl | exact absurd rfl (n1 _ _ _ _) | exact absurd rfl (n2 _ _)
          · obtain ⟨p1, rfl, q1, _⟩ := r1.ext ex2
            exact ⟨p1, _, k, x.v, rfl, r2, .of q1, atI_ix e3 e4, hq.2 _ _ (ex1.trans ex2) rfl⟩
    · rename_i ec ea eb p
      split at h
      · rename_i e1
        exact PE.imp (pe_ifExp (xte_ok C n env ec _ e1) (xev_ok C n env ea _ h) pe_no) fun σ H Q hq => ⟨hq.1, fun H1 ex1 => ⟨hq.1.ext ex1, fun H2 u2 ex2 r2 => hq.2 _ _ (ex1.trans ex2) r2⟩⟩
      · rename_i e1
        exact PE.imp (pe_ifExp (xte_ok C n env ec _ e1) pe_no (xev_ok C n env eb _ h)) fun σ H Q hq => ⟨hq.1, fun H1 ex1 => ⟨hq.1.ext ex1, fun H2 u2 ex2 r2 => hq.2 _ _ (ex1.trans ex2) r2⟩⟩
      · cases h
    · cases h
theorem xte_ok (C : XC J ie a d sc X) : ∀ (n : Nat) (env : XEnv) (e : Expr) (b : Bool), xte J sc n env e = some b → PT X e (tXt J ie a d b env)
  | 0, _, _, _, h => by simp only [xte] at h; cases h
  | n + 1, env, e, b, h => by
    unfold xte at h
    split at h
    · rename_i ea eb p
      split at h
      · rename_i e1
        cases h
        exact PT.imp (pw_or (rest := []) (xte_ok C n env ea _ e1) (pw_or1 (pt_no (e := eb)))).pt fun σ H Q hq => ⟨hq.1, fun H1 ex1 => hq.2 _ ex1⟩
      · rename_i e1
        exact PT.imp (pw_or (xte_ok C n env ea _ e1) (pw_or1 (xte_ok C n env eb _ h))).pt fun σ H Q hq => ⟨hq.1, fun H1 ex1 => ⟨hq.1.ext ex1, fun H2 ex2 => hq.2 _ (ex1.trans ex2)⟩⟩
      · cases h
    · cases h
    · rename_i ea eb p
      split at h
      · cases h
      rename_i hm
      split at h
      · rename_i x y e1 e2
        cases h
        refine PT.imp (pt_cmpR op_ne (xev_ok C n env ea _ e1) (xev_ok C n env eb _ e2) (Bool.eq_false_iff.mpr hm)) fun σ H Q hq => ⟨hq.1, fun H1 u ex1 r1 => ⟨hq.1.ext ex1, fun H2 u2 ex2 r2 => ?_⟩⟩
        cases r1
        cases r2
        refine ⟨rfl, _, rfl, ?_⟩
        have := hq.2 _ (ex1.trans ex2)
        simpa [XA.v] using this
      · cases h
    · rename_i ea eb p
      split at h
      · cases h
      rename_i hm
      split at h
      · rename_i x y e1 e2
        cases h
        refine PT.imp (pt_cmpR op_eq (xev_ok C n env ea _ e1) (xev_ok C n env eb _ e2) (Bool.eq_false_iff.mpr hm)) fun σ H Q hq => ⟨hq.1, fun H1 u ex1 r1 => ⟨hq.1.ext ex1, fun H2 u2 ex2 r2 => ?_⟩⟩
        cases r1
        cases r2
        refine ⟨rfl, _, rfl, ?_⟩
        have := hq.2 _ (ex1.trans ex2)
        simpa [XA.v] using this
      · cases h
    · cases h
    · rename_i ea p
      cases e1 : xte J sc n env ea with
      | none => rw [e1] at h; cases h
      | some c =>
        rw [e1] at h
        cases h
        exact PT.imp (pt_not (xte_ok C n env ea _ e1)) fun σ H Q hq => ⟨hq.1, fun H1 ex1 => hq.2 _ ex1⟩
    · cases h
    · cases h
    · rename_i n1 n2 n3 n4 n5 n6 n7 n8
      split at h
      · rename_i b' e1
        cases h
        refine PT.imp (pt_val (xev_ok C n env e _ e1) fun w => ?_) fun σ H Q hq => ⟨hq.1, fun H1 u ex1 r1 => ⟨b, r1, hq.2 _ ex1⟩⟩
        cases e <;> first | rfl | exact absurd rfl (n2 _ _ _) | exact absurd rfl (n5 _ _ _ _) | exact absurd rfl (n8 _ _ _ _) | skip
        rename_i op _ _
        cases op <;> first | rfl | exact absurd rfl (n6 _ _) | exact absurd rfl (n7 _ _ _)
      · cases h
theorem xevs_ok (C : XC J ie a d sc X) : ∀ (n : Nat) (env : XEnv) (es : List Expr) (xs : List XA), xevs J sc n env es = some xs → PA X es (tXl J ie a d xs env) ∧ xs.length = es.length
  | 0, _, _, _, h => by simp only [xevs] at h; cases h
  | n + 1, env, es, xs, h => by
    unfold xevs at h
    split at h
    · cases h
      exact ⟨PA.imp pa_nil fun σ H Q hq => hq.2 H (.refl H), rfl⟩
    · rename_i e r
      split at h
      · cases h
      rename_i ns
      cases e1 : xev J sc n env e with
      | none => rw [e1] at h; cases h
      | some v =>
        rw [e1, Option.bind_some] at h
        cases v with
        | l _ => cases h
        | at_ x =>
          simp only [XV.atom, Option.bind_some] at h
          cases e2 : xevs J sc n env r with
          | none => rw [e2] at h; cases h
          | some ys =>
            rw [e2] at h
            cases h
            obtain ⟨h1, h2⟩ := xevs_ok C n env r ys e2
            refine ⟨PA.imp (pa_cons (xev_ok C n env e _ e1) h1 (star_of ns)) fun σ H Q hq => ⟨hq.1, fun H1 u ex1 r1 => ⟨hq.1.ext ex1, fun H2 ex2 => ?_⟩⟩, by rw [List.length_cons, List.length_cons, h2]⟩
            rw [show u = x.v from r1]
            exact hq.2 _ (ex1.trans ex2)
end
/-- the statements' reading -/
def tXs (z : Str) (env : XEnv) : TS := fun D σ H => XSt J ie a d env σ H ∧ ∀ H', HExt H H' → D.rt (.str z) H'
theorem xst_ok (C : XC J ie a d sc X) : ∀ (n : Nat) (env : XEnv) (ss : List Stmt) (z : Str), xst J sc n env ss = some z → PSs X ss (tXs (J := J) (ie := ie) (a := a) (d := d) z env)
  | 0, _, _, _, h => by simp only [xst] at h; cases h
  | n + 1, env, ss, z, h => by
    unfold xst at h
    split at h
    · rename_i e p r
      split at h
      · rename_i z' e1
        cases h
        exact PSs.imp (pss_cons (ps_ret (xev_ok C 100 env e _ e1)) (u := fun _ _ _ => False) ⟨fun _ _ _ _ _ _ z => z.elim⟩) fun D σ H hq => ⟨hq.1, fun H1 u ex1 r1 => by rw [show u = V.str z from r1]; exact hq.2 _ ex1⟩
      · cases h
    · rename_i x px e p r
      split at h
      · cases h
      · cases h
      · cases h
      rename_i m1 m2 m3
      split at h
      rotate_left
      · cases h
      rename_i hx
      have hl := of_decide_eq_true hx.2
      cases e1 : slotOf sc.N x with
      | none => rw [e1] at h; cases h
      | some i =>
        rw [e1, Option.bind_some] at h
        cases e2 : xev J sc 100 env e with
        | none => rw [e2] at h; cases h
        | some v =>
          rw [e2, Option.bind_some] at h
          split at h
          rotate_left
          · cases h
          rename_i hi
          have hN : X.N[i]? = some x := by rw [C.N]; exact slotOf_ok e1
          refine PSs.imp (pss_cons (ps_set C.nd hN (.inl (C.look hl)) (xev_ok C 100 env e _ e2) (swaps_no m1 m2 m3) (.inr (C.look hl))) (xst_ok C n _ r z h)) fun D σ H hq => ⟨hq.1, fun H1 u ex1 r1 => ⟨⟨fun j w hj => ?_, ?_, (hq.1.ext ex1).fl, ?_⟩, fun H2 ex2 => hq.2 _ (ex1.trans ex2)⟩⟩
          · by_cases e : i = j
            · subst e
              rw [List.getElem?_set_self hi] at hj
              cases hj
              exact ⟨u, List.getElem?_set_self (by rw [← hq.1.len]; exact hi), r1⟩
            · rw [List.getElem?_set_ne e] at hj
              rw [List.getElem?_set_ne e]
              exact (hq.1.ext ex1).at_ j w hj
          · have ne : i ≠ ie := fun e => by
              rw [e, C.N, C.ei] at hN
              exact hx.1 (Option.some.inj hN).symm
            rw [List.getElem?_set_ne ne]
            exact hq.1.ex
          · rw [List.length_set, List.length_set]
            exact hq.1.len
    · rename_i c ss' p r
      split at h
      · rename_i e1
        exact PSs.imp (pss_cons (ps_if (xte_ok C 100 env c _ e1) (xst_ok C n env ss' z h) pss_nil) (u := fun _ _ _ => False) ⟨fun _ _ _ _ _ _ z => z.elim⟩) fun D σ H hq => ⟨hq.1, fun H1 ex1 => ⟨hq.1.ext ex1, fun H2 ex2 => hq.2 _ (ex1.trans ex2)⟩⟩
      · rename_i e1
        exact PSs.imp (pss_cons (ps_if (xte_ok C 100 env c _ e1) (t := fun _ _ _ => False) ⟨fun _ _ _ _ _ _ z => z.elim⟩ pss_nil) (xst_ok C n env r z h)) fun D σ H hq => ⟨hq.1, fun H1 ex1 => ⟨hq.1.ext ex1, fun H2 ex2 => hq.2 _ (ex1.trans ex2)⟩⟩
      · cases h
    · cases h
end
end Mi

/-! Defs: what C says of each. -/
namespace Mi
open PySem PySem.Spec PyProof.Rows L2
section
variable {P : Program} {w : World} {K : PySem.W.Frag} {mg : Str → Option Value} {base : Heap} {G : Gm} {ds : List Dfn}
theorem start_sim {d : Wd} {ws : List W} {vs : List V} {n : Nat} {N : List Str} (hn : n = N.length) (hl : ws.length ≤ n) (r : RWs K G d ws vs) : SimE K G d.Ow (Mi.start n ws) d (L2.start N vs) := by
  have hv := r.len
  refine ⟨?_, fun i u hi => ?_, fun i u hi => ?_, fun i j wi wj p hi => ?_, fun _ h => h⟩
  · unfold Mi.start L2.start
    simp only [List.length_append, List.length_map, List.length_replicate]
    omega
  · unfold Mi.start at hi
    unfold L2.start
    by_cases hlt : i < ws.length
    · rw [List.getElem?_append_left (by simpa using hlt), List.getElem?_map] at hi
      rw [List.getElem?_append_left (by simpa [hv] using hlt), List.getElem?_map]
      cases e : ws[i]? with
      | none => rw [e] at hi; cases hi
      | some u' =>
        rw [e] at hi
        cases hi
        obtain ⟨v, ev, rv⟩ := r.get e
        exact ⟨v, by rw [ev]; rfl, rv⟩
    · rw [List.getElem?_append_right (by simpa using hlt)] at hi
      rw [List.getElem?_replicate] at hi
      split at hi <;> cases hi
  · exfalso
    unfold Mi.start at hi
    by_cases hlt : i < ws.length
    · rw [List.getElem?_append_left (by simpa using hlt), List.getElem?_map] at hi
      cases e : ws[i]? with
      | none => rw [e] at hi; cases hi
      | some u' => rw [e] at hi; cases hi
    · rw [List.getElem?_append_right (by simpa using hlt), List.getElem?_replicate] at hi
      split at hi <;> cases hi
  · exfalso
    unfold Mi.start at hi
    by_cases hlt : i < ws.length
    · rw [List.getElem?_append_left (by simpa using hlt), List.getElem?_map] at hi
      cases e : ws[i]? with
      | none => rw [e] at hi; cases hi
      | some u' => rw [e] at hi; cases hi
    · rw [List.getElem?_append_right (by simpa using hlt), List.getElem?_replicate] at hi
      split at hi <;> cases hi
theorem RX.sameO {d d' : Wd} (h1 : d'.al = d.al) (h2 : d'.F = d.F) (h3 : d'.H = d.H) {x : Exn} {cls : Value} {dd : Option Addr} (h : RX K G x cls dd d) : RX K G x cls dd d' := by
  obtain ⟨a, e1, e2, e3⟩ := h
  refine ⟨a, e1, e2, ?_⟩
  split at e3
  · exact e3
  · obtain ⟨p, v, q1, q2, q3, q4⟩ := e3
    exact ⟨p, v, q1, by rw [h3]; exact q2, q3.sameO h1 h2 h3, q4⟩
/-- where a def's lambdas come from: their names -/
def lamQ (qual : Str) (scope : Scope) : Str := (envOfC qual scope 0 0 .none).qual ++ "<lambda>"
variable (K mg base G) in
/-- a def of the text: where it stands, what it is in the small language -/
structure DefAt (gl : Str → Option Gb) (cd : Bool) (d : Dfn) (f : Addr) (fd : FuncData) (ps : List Str) : Prop where
  ok : ∃ (x qual : Str) (params : Arguments) (body : List Stmt) (scope : Scope) (N : List Str) (ow : List Nat) (keep lam : Bool) (m n : Nat), FunD K x qual params body scope [] [] f fd ∧ FnScope N ps scope ∧ ps.length = d.np ∧ d.nv = N.length ∧ ps.length ≤ N.length ∧
    trSs gl (trX gl m) ow keep ⟨N, scope.names, fun _ => true, lam, cd⟩ n body = some d.body ∧
    (lam = true → cd = true ∧ ∃ c P, fd.code = .ref c ∧ LamX.TabB base mg c P ∧ (P, lamQ qual scope) ∈ G.T ∧ ∀ p ∈ G.T, p.1 = P → p.2 = lamQ qual scope)
variable (P K mg base G ds) in
/-- what one knows of a module -/
structure Glob (gl : Str → Option Gb) (cd : Bool) : Prop where
  free : ∀ x, gl x = some .free → mg x = none
  con : ∀ x w, gl x = some (.con w) → ∃ u v, mg x = some u ∧ RelV v u ∧ ∀ d, RW K G d w v
  fn : ∀ x i z, gl x = some (.fn i z) → ∃ d f fd ps, ds[i]? = some d ∧ mg x = some (.ref f) ∧ PySem.W.keepIn K (.ref f) = true ∧ Binds K fd ps [] ∧ DefAt K mg base G gl cd d f fd ps ∧ KwOk gl K fd ps i
  exc : ∀ x c mk, gl x = some (.exc c mk) → ExcAt K mg G x c mk
  rep : gl "repr" = some .free → cd = true
  fld : ∀ l, gl ")" = some (.flds l) → mg "super" = none ∧ ∀ e ∈ l, ∀ A, G.c e.1 = some A → ∃ fI, FldC P K A e.2 fI ∧ PySem.W.keepIn K (.ref A) = true
variable (P w K mg base G) in
/-- the defs that tell -/
def SaidG (gl : Str → Option Gb) : Prop := ∀ x md tab, gl x = some (.said md tab) → ∀ (k : Nat) (N : List Str) (qual : Str) (scope : Scope) (f : Addr) (cdv : Value) (A : Around) (outer : List PySem.Env) (s : Shared) (H : Hp) (E : XK) (c T : Addr),
  Cold A → Room (k + 2) (A.deeper (envOfC qual scope s.heap.objs.size f cdv)) → cdv = .ref c → LamX.TabB base mg c T → (T, lamQ qual scope) ∈ G.T → (∀ p ∈ G.T, p.1 = T → p.2 = lamQ qual scope) →
  ∀ Y, SameAs (cxOf (L2.CX P w) P w K mg base N qual scope f cdv A outer s H E) Y → Gl Y x → SaidAt Y G k md tab x
theorem def_ok {gl : Str → Option Gb} {cd : Bool} (g : Glob P K mg base G ds gl cd)
    (h0 : cd = true → Glob P K mg base G ds (strip gl) false ∧ SaidG P w K mg base G gl ∧ ∀ (k : Nat) (i : Nat) (d : Dfn) (f : Addr) (fd : FuncData) (ps : List Str), ds[i]? = some d → DefAt K mg base G (strip gl) false d f fd ps → FnG false P w K mg base (L2.CX P w) (3 * k) f fd ps (spOf K G (callN ds k) i)) :
    ∀ (k : Nat) (i : Nat) (d : Dfn) (f : Addr) (fd : FuncData) (ps : List Str), ds[i]? = some d → DefAt K mg base G gl cd d f fd ps → FnG cd P w K mg base (L2.CX P w) (3 * k) f fd ps (spOf K G (callN ds k) i)
  | 0, i, d, f, fd, ps, hd, hD => by
    have no : ∀ vs H Q E, ¬ spOf K G (callN ds 0) i vs H Q E := fun vs H Q E h => by
      obtain ⟨ws, s, d, _, _, _, h⟩ := h
      exact h
    exact ⟨fun vs H Q E h => (no vs H Q E h).elim, fun A outer s H args us vs Q E _ _ _ _ _ h => (no vs H Q E h).elim⟩
  | k + 1, i, d, f, fd, ps, hd, hD => by
    obtain ⟨x, qual, params, body, scope, N, ow, keep, lam, m, n, F, S, hps, hnv, hle, htr, hlam⟩ := hD.ok
    have cn : ∀ ws s, callN ds (k + 1) i ws s = if ws.length = d.np then (execs (callN ds k) d.body (Mi.start d.nv ws) s).bind fin else .no := fun ws s => by
      show (match ds[i]? with | none => Out.no | some d => if ws.length = d.np then (execs (callN ds k) d.body (Mi.start d.nv ws) s).bind fin else .no) = _
      rw [hd]
    refine okG (k := 3 * k + 2) F S (fun vs H Q E h => ?_) fun cdv A outer s H vs Q E hcv cold hr h => ?_
    · obtain ⟨ws, s, d', _, r, _, h⟩ := h
      rw [cn] at h
      split at h
      · rename_i hl
        rw [r.len, hl, hps]
      · exact h.elim
    · obtain ⟨ws, st, dw, rfl, r, hS, h⟩ := h
      rw [cn] at h
      split at h
      rotate_left
      · exact h.elim
      rename_i hl
      have hr3 : Room (3 * k) (A.deeper (envOfC qual scope s.heap.objs.size f cdv)) := hr.mono (by omega)
      have gok : ∀ {gl : Str → Option Gb} {cd : Bool} (g : Glob P K mg base G ds gl cd) (ih : ∀ (i : Nat) (d : Dfn) (f : Addr) (fd : FuncData) (ps : List Str), ds[i]? = some d → DefAt K mg base G gl cd d f fd ps → FnG cd P w K mg base (L2.CX P w) (3 * k) f fd ps (spOf K G (callN ds k) i)),
          GOK gl G (callN ds k) k cd (cxOf (L2.CX P w) P w K mg base N qual scope f cdv A outer s dw.H E) := fun g ih => ⟨g.free, g.con, fun y j z hj => by
        obtain ⟨d2, f2, fd2, ps2, h1, h2, h3, h4, h5, h6⟩ := g.fn y j z hj
        exact ⟨f2, fd2, ps2, h2, h3, h4, ih j d2 f2 fd2 ps2 h1 h5, h6⟩, g.exc, g.rep, g.fld⟩
      have X : XOK gl G (callN ds k) k ⟨N, scope.names, fun _ => true, lam, cd⟩ (cxOf (L2.CX P w) P w K mg base N qual scope f cdv A outer s dw.H E) := by
        refine ⟨rfl, S.nd, S.kind, rfl, fun _ _ => rfl, rfl, hr3, cold, gok g fun i d f fd ps => def_ok g h0 k i d f fd ps, fun hlm => ?_⟩
        obtain ⟨c1, c, T, e1, e2, e3, e4⟩ := hlam hlm
        obtain ⟨q1, q2, q3⟩ := h0 c1
        exact ⟨gok q1 fun i d f fd ps => q3 k i d f fd ps, fun x md tab hx Y hY hg => q2 x md tab hx (3 * k) N qual scope f cdv A outer s dw.H E c T (cold c1) hr (hcv.symm.trans e1) e2 e3 e4 Y hY hg⟩
      refine ⟨tS K G (fun cls dd _ H => E cls dd H) (execs (callN ds k) d.body), trSs_ok ⟨rfl, rfl⟩ X (takes_of rfl rfl rfl rfl) (passes_of rfl) (hr.mono (by omega)) m n htr, ?_⟩
      refine tS.go (Ob := dw.Ow) (start_sim hnv (by omega) r) hS ?_
      revert h
      cases execs (callN ds k) d.body (Mi.start d.nv ws) st with
      | no => exact id
      | ex x s' =>
        intro h d' σ' cls dd e o ss rx
        exact h (d'.setO dw.Ow) cls dd e.setO rfl (ss.setO o) (RX.sameO (d := d') (d' := d'.setO dw.Ow) rfl rfl rfl rx)
      | ok fl s' =>
        cases fl with
        | nx env =>
          intro h d' σ' e hE ss
          exact h (d'.setO dw.Ow) e.setO rfl (ss.setO hE.ob) .non (by unfold RW; rfl)
        | rt u =>
          intro h d' v e o ss rv
          exact h (d'.setO dw.Ow) e.setO rfl (ss.setO o) v (RW.sameO (d := d') (d' := d'.setO dw.Ow) rfl rfl rfl rv)
        | ct env => exact fun h => h.elim
/-- the law's promise, from what C says -/
def spLaw (K : PySem.W.Frag) (G : Gm) : Sp := fun vs H Q _ => ∃ (a : Addr) (ns : List Int), vs = [.ref a] ∧ SqL K H a (ns.map V.int) ∧ ns.length ≤ 63 ∧ LamX.Tabs G.T H ∧ ∀ H', Q (.bl true) H'
theorem law_ok {k i : Nat} {f : Addr} {fd : FuncData} {ps : List Str} {n : Nat} (F : FnG true P w K mg base (L2.CX P w) n f fd ps (spOf K G (callN ds k) i)) (h : ∀ ns : List Int, ns.length ≤ 63 → ∃ s, callN ds k i [.scr ns] [] = .ok (.bl true) s) : FnG true P w K mg base (L2.CX P w) n f fd ps (spLaw K G) := by
  refine F.imp fun vs H Q E hq => ?_
  obtain ⟨a, ns, rfl, hS, hl, hT, hQ⟩ := hq
  obtain ⟨s, hs⟩ := h ns hl
  rcases hS with hR | hK
  · refine ⟨[.scr ns], [], ⟨[], fun b => b = a, fun _ => False, H⟩, rfl, .one ?_, ⟨⟨fun _ z => z.elim, fun _ z => (nomatch z), .nil, fun b hb => ?_, fun _ z => z.elim⟩, rfl, (fun n l hn => by simp at hn), hT⟩, ?_⟩
    · unfold RW
      exact ⟨a, rfl, .inl ⟨rfl, hR⟩⟩
    · cases hb
      rcases hR with hR | ⟨o, hR⟩
      · exact .lst hR
      · exact .frz hR
    · rw [hs]
      intro d' _ _ _ v rv
      rw [rv.bl]
      exact hQ _
  · refine ⟨[.scr ns], [], ⟨[], fun _ => False, fun _ => False, H⟩, rfl, .one ?_, ⟨⟨fun _ z => z.elim, fun _ z => (nomatch z), .nil, fun _ z => z.elim, fun _ z => z.elim⟩, rfl, (fun n l hn => by simp at hn), hT⟩, ?_⟩
    · unfold RW
      exact ⟨a, rfl, .inr fun _ => .inr hK⟩
    · rw [hs]
      intro d' _ _ _ v rv
      rw [rv.bl]
      exact hQ _
end
end Mi

/-! x(lambda: ..), where the def x tells what is answered, or what is raised. -/
namespace Mi
open PySem PySem.Spec PyProof.Rows L2
/-! ### a def called with the exception that an except suite holds -/
section
variable {P : Program} {w : World} {K : PySem.W.Frag} {mg : Str → Option Value} {base : Heap}
theorem run_hot {CX : CXT} {k : Nat} {x pa : Str} {params : Arguments} {body : List Stmt} {scope : Scope} {f a : Addr} {fd : FuncData} {N : List Str} {B : Around} {out : List PySem.Env} {t : Shared} {T : Hp} {oe : Obj} {R : VK} {Y : XK}
    (F : FunD K x x params body scope [] [] f fd) (S : FnScope N [pa] scope) (room : L2H.RoomH (k + 1) B) (pin : L2H.PinOk out T t (a, oe)) (e0 : Env0 P w K mg base B out t T) (bd : BindsTo t fd ⟨[.ref a], []⟩ [(pa, .ref a)])
    (hB : ∀ cv, ∃ m, PSs (L2H.cxH CX P w K mg base N x scope f cv B out t T Y (a, oe)) body m ∧ m { nx := fun _ T' => R .non T', rt := R } (L2.start N [.ref a]) T) : codeAny (model P w) B (.call (.ref f) ⟨[.ref a], []⟩) (CR CX out P w T t R Y) t := by
  obtain ⟨oc, od, dV, kV, doc, pm, an, cv, ct, osl, rfl, lk, hcd, _, _⟩ := F.ex
  obtain ⟨m, hm, hq⟩ := hB cv
  have Kt : K.In t.heap := e0.mod.kin.keeps fun b o e => (e0.bs b o e).1
  have kinds : ∀ y ∈ [(pa, Value.ref a)], scope.names.lookup y.1 = some .local ∨ (scope.names.lookup y.1 = some .cell ∧ ((cellsFrom (t.heap.objs.size + 1) scope.names []).lookup y.1).isSome = true) := by
    intro y hy
    obtain rfl := List.mem_singleton.mp hy
    exact (S.par pa List.mem_cons_self).imp id fun q => ⟨q, PySem.W.cellsFrom_some _ _ _ (.inl q)⟩
  refine codeAny_call_function room.depth (Kt _ _ lk) rfl S.co S.gen rfl (PySem.W.codeRec_of Kt hcd) (bd _ _ _ _ (wpAny_newFunctionEnv_cells S.kind kinds fun env he t1 z => ?_))
  subst he
  refine ⟨(e0.mod.nolimit.keeps fun b o e => (e0.bs b o e).1).keeps z.toInCall.keep, codeAny_func (wpAny_mono (hm.run [] t1 (L2.start N [.ref a]) T _ (L2H.inv_startH (ps := [pa]) (vs := [.ref a]) (us := [.ref a]) S pin e0 rfl (.cons rfl .nil) z) hq) (fun fl t2 hs => ?_) fun _ _ hs => hs)⟩
  cases fl with
  | ret u =>
    obtain ⟨v2, σ2, T2, J, rv, q⟩ := hs
    exact ⟨v2, T2, J.os, J.bare, J.base, J.hok, rv, q⟩
  | next =>
    obtain ⟨σ2, T2, J, q⟩ := hs
    exact ⟨V.non, T2, J.os, J.bare, J.base, J.hok, rfl, q⟩
  | brk =>
    obtain ⟨_, _, _, q⟩ := hs
    exact q.elim
  | cont =>
    obtain ⟨_, _, _, q⟩ := hs
    exact q.elim
end
/-! ### facts of the classes -/
/-- a tested name: its class is known by number -/
structure KX (K : PySem.W.Frag) (mg : Str → Option Value) (G : Gm) (cn : List (Str × Nat)) (rs : List Nat) : Prop where
  cls : ∀ x n, (x, n) ∈ cn → ∃ A, mg x = some (.ref A) ∧ ∀ c D, c ∈ rs → G.c c = some D → PySem.W.kitOne K (.ref D) (.ref A) = some (subX c n)
  ve : mg "ValueError" = none ∧ mg "isinstance" = none ∧ mg "repr" = none
  exc : ∀ c D, c ∈ rs → G.c c = some D → PySem.W.kitOne K (.ref D) (.type "ValueError") = some true ∧ ExcC K D
  nof : ∀ c D f, c ∈ rs → G.c c = some D → fldNm c = some f → PySem.W.findIn K (.ref D) f = some none
/-- what isinstance says of an exception of class c -/
def isTf (cn : List (Str × Nat)) (sc : SC) (c : Nat) (x : Str) : Option Bool :=
  if nameOk x && decide (sc.nm.lookup x = some .globalImplicit) && decide (sc.nm.lookup ("isinstance" : Str) = some .globalImplicit) then (if x = "ValueError" then some true else (cn.lookup x).map fun n => subX c n) else none
section
variable {X : Cx}
theorem hcl {K : PySem.W.Frag} {D : Addr} (h : PySem.W.hasDictIn K D = true) : (PySem.W.clsIn K D).isSome = true := by
  obtain ⟨cd, hc, _⟩ := PySem.W.any_some h
  rw [hc]
  rfl
/-- isinstance of an exception whose object is pinned -/
theorem cr_isE {a D : Addr} {d : Option Addr} {oe : Obj} (C : ExcC X.K D) (hz : Zc (.ref D) d oe) (hf : ∃ vs, oe.data = .fields vs) (hp : (a, oe) ∈ X.pn) : CallR X (.builtin "isinstance") (fun xs H Q => DxOk d H ∧ rIsE X.K D a xs H Q) := by
  rintro pins t τ T xs us R I r ⟨hd, c, cv, b, rfl, hcv, e, q⟩
  match us, r with
  | [u1, u2], .cons r1 (.cons r2 .nil) =>
    cases r1
    obtain rfl := hcv _ r2
    obtain ⟨vs, hv⟩ := hf
    have hod : ∃ od : Option Obj, PySem.W.InstAt t.heap a oe D od := by
      cases d with
      | none => exact ⟨none, (I.pin (a, oe) (List.mem_append_left _ hp)).1, hz.1, by unfold PySem.W.notCls; rw [hv], by rw [hz.2]; trivial⟩
      | some dd =>
        obtain ⟨fs, ea⟩ := hd dd rfl
        have hx : ObjOk X.prog X.w T t.heap dd (.xd fs) := I.hok dd _ ea
        obtain ⟨mA, hns, hr⟩ := hx
        obtain ⟨od, ho, hl⟩ := lookIn_ns hns
        exact ⟨some od, (I.pin (a, oe) (List.mem_append_left _ hp)).1, hz.1, by unfold PySem.W.notCls; rw [hv], by rw [hz.2]; exact ho⟩
    obtain ⟨od, J⟩ := hod
    exact PySem.W.kia_one (PySem.W.kitx_exc (od := od) (hcl C.hd) C.hg C.hk C.hs C.ha C.hn C.ht C.hm) I.kIn J e (fun z => nomatch z) fun tk => ⟨.bl b, T, I.kept (t' := tk) fun _ _ z => z, rfl, q⟩
/-- .. as a call of the text -/
theorem pe_isE {G : Gm} {cn : List (Str × Nat)} {rs : List Nat} {sc : SC} {ie : Nat} {en c : Str} {a D : Addr} {n : Nat} {d : Option Addr} {oe : Obj} {b : Bool} {p1 p2 p3 pos : Pos} (k : KX X.K X.mg G cn rs) (hr : n ∈ rs) (hG : G.c n = some D) (hN : X.N = sc.N) (hnm : X.env.scope.names = sc.nm)
    (ei : sc.N[ie]? = some en) (hen : nameOk en = true ∧ sc.nm.lookup en = some .local) (hz : Zc (.ref D) d oe) (hf : ∃ vs, oe.data = .fields vs) (hp : (a, oe) ∈ X.pn) (h : isTf cn sc n c = some b) :
    PE X (.Call (.Name "isinstance" p1) [.Name en p2, .Name c p3] [] pos) (fun σ H Q => σ[ie]? = some (some (.ref a)) ∧ DxOk d H ∧ Q (.bl b) H) := by
  obtain ⟨k1, k2⟩ := k.exc n D hr hG
  unfold isTf at h
  split at h
  rotate_left
  · cases h
  rename_i hc
  simp only [Bool.and_eq_true, decide_eq_true_eq] at hc
  obtain ⟨⟨c1, c2⟩, c3⟩ := hc
  obtain ⟨n1, n2, n3⟩ := nameOk_ok c1
  obtain ⟨m1, m2, _⟩ := nameOk_ok hen.1
  have gl : ∀ {y : Str}, sc.nm.lookup y = some .globalImplicit → Gl X y := fun {y} e => by
    show X.env.scope.names.lookup y = some .globalImplicit
    rw [hnm]
    exact e
  have ha : ∀ {v : V}, PE X (.Name c p3) (tC v) → PA X [.Name en p2, .Name c p3] (tCons (tVar ie) (tCons (tC v) tNil)) := fun {v} hv =>
    pa_cons (pe_var (by rw [hN]; exact ei) (.inl (by rw [hnm]; exact hen.2)) m1 m2) (pa_cons hv pa_nil)
  have fin : ∀ (v : V) (cv : Value), PE X (.Name c p3) (tC v) → (∀ u, RelV v u → u = cv) → PySem.W.kitOne X.K (.ref D) cv = some b → PE X (.Call (.Name "isinstance" p1) [.Name en p2, .Name c p3] [] pos) (fun σ H Q => σ[ie]? = some (some (.ref a)) ∧ DxOk d H ∧ Q (.bl b) H) := fun v cv hv hu hb =>
    PE.imp (pe_callB (cr_isE k2 hz hf hp) (gl c3) k.ve.2.1 (by decide +kernel) (ha hv)) fun σ H Q hq => ⟨_, hq.1, hq.2.1, v, cv, b, rfl, hu, hb, hq.2.2⟩
  split at h
  · rename_i e
    subst e
    cases h
    exact fin (.ty "ValueError") (.type "ValueError") (pe_bltn (gl c2) k.ve.1 (by decide +kernel) rfl n3 n1) (fun u r => r) k1
  · cases e : cn.lookup c with
    | none => rw [e] at h; cases h
    | some m =>
      rw [e] at h
      cases h
      obtain ⟨A, q1, q2⟩ := k.cls c m (PySem.mem_of_lookup e)
      exact fin (.ref A) (.ref A) (pe_glob (gl c2) q1 rfl n1) (fun u r => r) (q2 n D hr hG)
end
end Mi
namespace Mi
open PySem PySem.Spec PyProof.Rows L2
/-- a def that is asked of an exception -/
structure WD where
  g : Str
  pw : Str
  N : List Str
  nm : List (Str × NameKind)
  body : List Stmt
def WD.sc (w : WD) : SC := ⟨w.N, w.nm, fun _ => false, false, false⟩
def wordOf (cn : List (Str × Nat)) (w : WD) (c : Nat) : Option Str := xst ⟨w.pw, isTf cn w.sc c, none, none⟩ w.sc 60 (List.replicate w.N.length none) w.body
def JOf (cn : List (Str × Nat)) (sc : SC) (en : Str) (w : Option WD) (c : Nat) (fl : Option (Str × Int)) : XI := ⟨en, isTf cn sc c, w.bind fun w => (wordOf cn w c).map fun z => (w.g, z), fl⟩
/-- the field of an exception of class c -/
def flOf (c : Nat) (o : Option Int) : Option (Str × Int) := o.bind fun i => (fldNm c).map fun f => (f, i)
/-- the suite answers as the table says -/
def tabB (cn : List (Str × Nat)) (rs : List Nat) (sc : SC) (en : Str) (w : Option WD) (suite : List Stmt) (tab : Tab) : Bool :=
  tab.all fun e => rs.contains e.1.1 && decide (xst (JOf cn sc en w e.1.1 (flOf e.1.1 e.1.2)) sc 60 (List.replicate sc.N.length none) suite = some e.2)
theorem flOf_none (c : Nat) : flOf c none = none := rfl
theorem flOf_some {c : Nat} {f : Str} {i : Int} (h : fldNm c = some f) : flOf c (some i) = some (f, i) := by
  unfold flOf
  rw [h]
  rfl
theorem tabB_ok {cn : List (Str × Nat)} {rs : List Nat} {sc : SC} {en : Str} {w : Option WD} {suite : List Stmt} {tab : Tab} (h : tabB cn rs sc en w suite tab = true) {x : Exn} {z : Str} (e : toldX tab x = some z) :
    ∃ fl, (x.fld = none ∧ fl = none ∨ ∃ f i, x.fld = some (f, .int i) ∧ fl = some (f, i) ∧ fldNm x.cls = some f) ∧ x.cls ∈ rs ∧ xst (JOf cn sc en w x.cls fl) sc 60 (List.replicate sc.N.length none) suite = some z := by
  have at_ : ∀ o, tab.lookup (x.cls, o) = some z → x.cls ∈ rs ∧ xst (JOf cn sc en w x.cls (flOf x.cls o)) sc 60 (List.replicate sc.N.length none) suite = some z := fun o ho => by
    have hm : ((x.cls, o), z) ∈ tab := by
      clear h
      revert ho
      clear e
      induction tab with
      | nil => exact fun q => nomatch q
      | cons q l ih =>
        intro ho
        obtain ⟨q1, q2⟩ := q
        rw [List.lookup_cons] at ho
        split at ho
        · rename_i hq
          cases ho
          rw [beq_iff_eq.mp hq]
          exact List.mem_cons_self
        · exact List.mem_cons_of_mem _ (ih ho)
    have := List.all_eq_true.mp h _ hm
    simp only [Bool.and_eq_true, decide_eq_true_eq, List.contains_iff_mem] at this
    exact ⟨this.1, this.2⟩
  unfold toldX at e
  split at e
  · rename_i hf
    have h2 := at_ none e
    rw [flOf_none] at h2
    exact ⟨none, .inl ⟨hf, rfl⟩, h2⟩
  · rename_i f i hf
    split at e
    · rename_i hn
      have h2 := at_ (some i) e
      rw [flOf_some hn] at h2
      exact ⟨some (f, i), .inr ⟨f, i, hf, rfl, hn⟩, h2⟩
    · cases e
  · cases e
theorem RX.addr {K : PySem.W.Frag} {G : Gm} {x : Exn} {cls : Value} {dd : Option Addr} {d : Wd} (h : RX K G x cls dd d) : ∃ D, G.c x.cls = some D ∧ cls = .ref D ∧ (x.fld = none → dd = none) ∧ ∀ f i, x.fld = some (f, .int i) → ∃ p, dd = some p ∧ d.H p = some (.xd [(f, .int i)]) := by
  obtain ⟨D, e1, e2, e3⟩ := h
  refine ⟨D, e1, e2, fun hf => ?_, fun f i hf => ?_⟩
  · rw [hf] at e3
    exact e3
  · rw [hf] at e3
    obtain ⟨p, v, h1, h2, h3, _⟩ := e3
    have : v = .int i := by unfold RW at h3; exact h3
    rw [this] at h2
    exact ⟨p, h1, h2⟩
/-- what is known of the def that is asked -/
structure WordAt (X : Cx) (w : WD) : Prop where
  ok : ∃ (f : Addr) (fd : FuncData) (params : Arguments) (scope : Scope), X.mg w.g = some (.ref f) ∧ PySem.W.keepIn X.K (.ref f) = true ∧ FunD X.K w.g w.g params w.body scope [] [] f fd ∧ Binds X.K fd [w.pw] [] ∧ FnScope w.N [w.pw] scope ∧ scope.names = w.nm
  na : nameOk w.g = true ∧ nameOk w.pw = true ∧ w.nm.lookup w.pw = some .local
section
variable {X : Cx} {G : Gm} {cn : List (Str × Nat)} {rs : List Nat} {sc : SC} {ie k : Nat} {en : Str} {W0 : Option WD}
theorem pe_word {a D : Addr} {n : Nat} {d : Option Addr} {oe : Obj} {w : WD} {z : Str} {p1 p2 pos : Pos} (kx : KX X.K X.mg G cn rs) (hr : n ∈ rs) (hG : G.c n = some D) (room : L2H.RoomH (k + 1) X.A) (hN : X.N = sc.N) (hnm : X.env.scope.names = sc.nm)
    (ei : sc.N[ie]? = some en) (hen : nameOk en = true ∧ sc.nm.lookup en = some .local) (hz : Zc (.ref D) d oe) (hf : ∃ vs, oe.data = .fields vs) (hp : (a, oe) ∈ X.pn) (W : WordAt X w) (hg : sc.nm.lookup w.g = some .globalImplicit) (e : wordOf cn w n = some z) :
    PE X (.Call (.Name w.g p1) [.Name en p2] [] pos) (fun σ H Q => σ[ie]? = some (some (.ref a)) ∧ DxOk d H ∧ ∀ H', HExt H H' → Q (.str z) H') := by
  obtain ⟨f, fd, params, scope, hm, hk, F, hb, S, hsc⟩ := W.ok
  obtain ⟨n1, n2, n3⟩ := nameOk_ok W.na.1
  obtain ⟨m1, m2, _⟩ := nameOk_ok hen.1
  have hgl : Gl X w.g := by
    show X.env.scope.names.lookup w.g = some .globalImplicit
    rw [hnm]
    exact hg
  have ha : PA X [.Name en p2] (tCons (tVar ie) tNil) := pa_cons (pe_var (by rw [hN]; exact ei) (.inl (by rw [hnm]; exact hen.2)) m1 m2) pa_nil
  refine ⟨fun pins s σ T R I h => wpAny_Call_Name_kw (ld_glob I hgl hm ?_ n1)⟩
  refine PySem.W.callWith_K (h₀ := X.base) I.ok.mod.kin hk (thn (ha.run pos pins s σ T (fun vs T1 => vs = [.ref a] ∧ T1 = T) I ⟨.ref a, h.1, rfl, rfl⟩) ?_) rfl rfl
  rintro zs s1 ⟨xs, T1, I1, v, rfl, rfl⟩
  refine ⟨I1.kIn, ?_⟩
  obtain ⟨u, rfl, ru⟩ := v.one
  cases ru
  have P1 := I1.pin (a, oe) (List.mem_append_left _ hp)
  have pin : L2H.PinOk X.stack T1 s1 (a, oe) := ⟨P1.1, P1.2.1, fun hm => (List.mem_cons.mp (I1.stkSub _ hm)).elim P1.2.2.1 P1.2.2.2.1, P1.2.2.2.2⟩
  have bd : BindsTo s1 fd ⟨[.ref a], []⟩ [(w.pw, .ref a)] := hb s1 [.ref a] I1.kIn rfl
  have run : codeAny (model X.prog X.w) X.A (.call (.ref f) ⟨[.ref a], []⟩) (CR C8.CX0 X.stack X.prog X.w T1 s1 R C8.E0) s1 := by
    refine run_hot F S room pin I1.env0 bd fun cv => ⟨_, xst_ok (J := ⟨w.pw, isTf cn w.sc n, none, none⟩) (ie := 0) (a := a) (d := d) (sc := w.sc) ⟨rfl, S.nd, ?_, hsc, ?_, fun c b hc p1 p2 p3 pos => ?_, (fun _ _ z => nomatch z), (fun _ _ z => nomatch z), (fun z => nomatch z)⟩ 60 _ _ z e, ⟨⟨fun i v hi => ?_, ?_, ⟨(fun _ _ z => nomatch z), h.2.1⟩, ?_⟩, fun H' e => h.2.2 H' e⟩⟩
    · have := S.pre
      cases hn : w.N with
      | nil => rw [hn] at this; cases this
      | cons y r =>
        rw [hn] at this
        cases this
        show (w.N)[0]? = _
        rw [hn]
        rfl
    · have := room.un
      show X.A.units + 3 + 65 < cLine
      omega
    · refine PE.imp (pe_isE (ie := 0) (G := G) (rs := rs) (sc := w.sc) (D := D) (n := n) (d := d) (oe := oe) ⟨kx.cls, kx.ve, kx.exc, kx.nof⟩ hr hG rfl hsc ?_ W.na.2 hz hf (List.mem_singleton.mpr rfl) hc) fun σ H Q hq => ⟨hq.1, hq.2.1.2, hq.2.2⟩
      have := S.pre
      cases hn : w.N with
      | nil => rw [hn] at this; cases this
      | cons y r =>
        rw [hn] at this
        cases this
        show (w.N)[0]? = _
        rw [hn]
        rfl
    · rw [List.getElem?_replicate] at hi
      split at hi <;> cases hi
    · rfl
    · have := S.pre
      have h1 : 1 ≤ w.N.length := by
        have := congrArg List.length this
        rw [List.length_take] at this
        simp at this
        omega
      show (List.replicate w.N.length (none : Option XV)).length = (L2.start w.N [.ref a]).length
      unfold L2.start
      simp
      omega
  refine wpAny_call (codeAny_mono run fun r s2 hq => ?_)
  cases r with
  | error u => exact (show False from hq).elim
  | ok fl => cases fl with
    | ret u => exact I1.after hq
    | _ => exact False.elim hq
end
end Mi
namespace Mi
open PySem PySem.Spec PyProof.Rows L2
/-- a reading whose wish is weakened -/
def tWk (te : TE) : TE := fun σ H Q => ∃ Q0 : VK, te σ H Q0 ∧ ∀ v H', Q0 v H' → Q v H'
theorem pe_wk {X : Cx} {e : Expr} {te : TE} (h : PE X e te) : PE X e (tWk te) := ⟨fun pins s σ H Q I ⟨Q0, h0, hi⟩ =>
  wpAny_mono (h.run pins s σ H Q0 I h0) (fun u s' ⟨v, H', J, r, q⟩ => ⟨v, H', J, r, hi v H' q⟩) fun _ _ x => x⟩
/-- what the try holds -/
def tryB (md : Bool) (a : Str) (p1 p2 p3 p4 p5 : Pos) (j : Nat) : List Stmt :=
  if md then [.Expr (.Call (.Name a p1) [] [] p2) p3, .Return (some (.Constant (.str "told") j p4)) p5] else [.Return (some (.Call (.Name "repr" p3) [.Call (.Name a p1) [] [] p2] [] p4)) p5]
section
variable {X : Cx} {G : Gm} {cn : List (Str × Nat)} {rs : List Nat} {N : List Str} {sg : Scope} {ie k : Nat} {a x en ce : Str} {W0 : Option WD} {md : Bool} {tab : Tab}
theorem said_gives {CS g : Addr} {cdg : Value} {q : Str} {b₀ : Stmt} {suite : List Stmt} {p1 p2 p3 p4 p5 p6 p7 p8 : Pos} {j : Nat} (cold : Cold X.A) (room : Room (k + 2) X.A) (kx : KX X.K X.mg G cn rs) (S : FnScope N [a] sg)
    (ei : N[ie]? = some en) (hen : nameOk en = true ∧ sg.names.lookup en = some .local) (hce : nameOk ce = true ∧ sg.names.lookup ce = some .globalImplicit ∧ X.mg ce = some (.ref CS)) (hrp : md = false → sg.names.lookup ("repr" : Str) = some .globalImplicit)
    (hexm : ∀ c D, c ∈ rs → G.c c = some D → PySem.W.exmOne X.K (.ref D) (.ref CS) = some true) (hW : ∀ w, W0 = some w → WordAt X w ∧ sg.names.lookup w.g = some .globalImplicit) (ht : tabB cn rs ⟨N, sg.names, fun _ => false, false, false⟩ en W0 (b₀ :: suite) tab = true)
    (h0 : ∀ f : Addr, (L2.start N [V.ref f])[0]? = some (some (V.ref f))) :
    LamX.GivesTo X N x sg g cdg [.Try (tryB md a p1 p2 p3 p4 p5 j) [.ExceptHandler (some (.Name ce p6)) (some en) (b₀ :: suite) p7] [] [] p8] a q (TTsaid X.K G md tab) := by
  intro f c' s H Q tl act hc h
  obtain ⟨m1, m2, m3⟩ := nameOk_ok hce.1
  let sc : SC := ⟨N, sg.names, fun _ => false, false, false⟩
  let ts : Addr → Value → Option Addr → TS := fun a cls d D σ H => ∃ (x : Exn) (z : Str) (D0 : Addr) (fl : Option (Str × Int)), G.c x.cls = some D0 ∧ cls = .ref D0 ∧ (JOf cn sc en W0 x.cls fl).fields d H ∧ (∀ f n, fl = some (f, n) → fldNm x.cls = some f) ∧ x.cls ∈ rs ∧ xst (JOf cn sc en W0 x.cls fl) sc 60 (List.replicate N.length none) (b₀ :: suite) = some z ∧ (∃ σ0 : L2.St, σ = σ0.set ie (some (V.ref a))) ∧ ∀ H', HExt H H' → D.rt (.str z) H'
  let tb : WX → TS := fun W D σ H => ∃ Ech : XK, (∀ cls d σ' H', Ech cls d H' → W cls d σ' H') ∧ σ[0]? = some (some (.ref f)) ∧ H c' = some (LamX.CodeO c' q) ∧ tl Ech H (saidN X.K G md D.rt)
  have hiN : ie < N.length := (List.getElem?_eq_some_iff.mp ei).1
  have hb : ∀ (W : WX) (pn : List (Addr × Obj)) (xe : Value → Shared → Prop), Takes ((cxOf C8.CX0 X.prog X.w X.K X.mg X.base N x sg g cdg X.A X.stack s H C8.E0).nox.tr pn xe) W →
      PSs ((cxOf C8.CX0 X.prog X.w X.K X.mg X.base N x sg g cdg X.A X.stack s H C8.E0).nox.tr pn xe) (tryB md a p1 p2 p3 p4 p5 j) (tb W) := fun W pn xe tk => by
    refine ⟨fun pins s' σ' H' D I h' => ?_⟩
    obtain ⟨Ech, hW', h1, h2, h3⟩ := h'
    have hp := act W pn xe Ech p1 p2 tk hW'
    cases md with
    | true =>
      refine (pss_cons (ps_expr (pos := p3) (pe_wk hp) rfl) (pss_one (ps_ret (pos := p5) pe_str))).run pins s' σ' H' D I ⟨_, ⟨h1, h2, h3⟩, fun v H1 hv => ?_⟩
      obtain ⟨w, s0, d, z, rfl, hS, rw_, ez, hk⟩ := hv
      cases ez
      exact hk d (.refl d) rfl hS
    | false =>
      have hu : X.A.units + 3 + 65 < cLine := by
        have := room.un
        omega
      obtain ⟨r, hr, hspec⟩ := bi_repr (X := (cxOf C8.CX0 X.prog X.w X.K X.mg X.base N x sg g cdg X.A X.stack s H C8.E0).nox.tr pn xe) (G := G) cold hu
      have hg : Gl ((cxOf C8.CX0 X.prog X.w X.K X.mg X.base N x sg g cdg X.A X.stack s H C8.E0).nox.tr pn xe) "repr" := hrp rfl
      refine (pss_one (ps_ret (pos := p5) (pe_callB (pos := p4) (p := p3) hr hg kx.ve.2.2 (by decide +kernel) (pa_cons (pe_wk hp) pa_nil)))).run pins s' σ' H' D I ⟨_, ⟨h1, h2, h3⟩, fun v H1 hv => ?_⟩
      obtain ⟨w, s0, d, z, rfl, hS, rw_, ez, hk⟩ := hv
      refine hspec s0 d [w] (.str z) [v] _ (fun _ _ _ => True) hS (.cons (.inl rw_) .nil) ez fun d' e eo ss v' rv => ?_
      have : v' = .str z := by unfold RW at rv; exact rv
      rw [this]
      exact hk d' e eo ss
  have hsu : ∀ (a : Addr) (oe : Obj) (cls : Value) (d : Option Addr) (pn : List (Addr × Obj)), Zc cls d oe → (∃ vs, oe.data = .fields vs) →
      PSs ((cxOf C8.CX0 X.prog X.w X.K X.mg X.base N x sg g cdg X.A X.stack s H C8.E0).nox.suite a ((a, oe) :: pn)) (b₀ :: suite) (ts a cls d) := fun b oe cls d pn hz hf => by
    refine ⟨fun pins s' σ' H' D I h' => ?_⟩
    obtain ⟨y, z, D0, fl, g1, rfl, hfl, hfn, hr, ez, ⟨σ0, rfl⟩, hk⟩ := h'
    have len : (σ0.set ie (some (V.ref b))).length = N.length := I.len
    have hC : XC (JOf cn sc en W0 y.cls fl) ie b d sc ((cxOf C8.CX0 X.prog X.w X.K X.mg X.base N x sg g cdg X.A X.stack s H C8.E0).nox.suite b ((b, oe) :: pn)) := by
      refine ⟨rfl, S.nd, ei, rfl, ?_, fun c v hc q1 q2 q3 q4 => ?_, fun g' z' hg' q1 q2 q3 => ?_, fun f n hf' q1 q2 => ?_, fun _ hrp => ⟨hrp, kx.ve.2.2⟩⟩
      · have := room.un
        show X.A.units + 3 + 65 < cLine
        omega
      · exact PE.imp (pe_isE (ie := ie) (G := G) (rs := rs) (sc := sc) (D := D0) (n := y.cls) (d := d) (oe := oe) ⟨kx.cls, kx.ve, kx.exc, kx.nof⟩ hr g1 rfl rfl ei hen hz hf List.mem_cons_self hc) fun σ H Q hq => ⟨hq.1, hq.2.1.2, hq.2.2⟩
      · unfold JOf at hg'
        cases hw : W0 with
        | none => rw [hw] at hg'; cases hg'
        | some w =>
          rw [hw] at hg'
          dsimp only [Option.bind_some] at hg'
          cases e2 : wordOf cn w y.cls with
          | none => rw [e2] at hg'; cases hg'
          | some zz =>
            rw [e2] at hg'
            cases hg'
            obtain ⟨wa, wg⟩ := hW w hw
            exact PE.imp (pe_word (k := k) (X := (cxOf C8.CX0 X.prog X.w X.K X.mg X.base N x sg g cdg X.A X.stack s H C8.E0).nox.suite b ((b, oe) :: pn)) (G := G) (rs := rs) (sc := sc) (D := D0) (n := y.cls) (d := d) (oe := oe) (a := b) ⟨kx.cls, kx.ve, kx.exc, kx.nof⟩ hr g1
              ((L2H.roomH_of room).deeper (envOfC x sg s.heap.objs.size g cdg) |>.mono (Nat.le_refl _) |> fun r => ⟨r.dp, r.un⟩) rfl rfl ei hen hz hf List.mem_cons_self ⟨wa.ok, wa.na⟩ wg e2) fun σ H Q hq => ⟨hq.1, hq.2.1.2, hq.2.2⟩
      · obtain ⟨c1, c2⟩ := kx.exc _ _ hr g1
        obtain ⟨n1, n2, n3⟩ := nameOk_ok hen.1
        refine PE.imp (pe_xf (cls := .ref D0) (d := d) (C := D0) ⟨c2.hg, c2.hk, c2.hs, c2.hd⟩ (kx.nof _ _ _ hr g1 (hfn f n hf')) hz hf (pe_var (i := ie) ei (.inl hen.2) n1 n2)) fun σ H Q hq => ?_
        obtain ⟨dd, e1, e2⟩ := hq.2.1.1 f n hf'
        exact ⟨.ref b, hq.1, rfl, rfl, dd, [(f, .int n)], .int n, e1, e2, by simp [List.lookup], hq.2.2⟩
    refine (xst_ok hC 60 _ _ z ez).run pins s' _ H' D I ⟨⟨fun i v hi => ?_, ?_, hfl, ?_⟩, hk⟩
    · rw [List.getElem?_replicate] at hi
      split at hi <;> cases hi
    · rw [List.length_set] at len
      exact List.getElem?_set_self (by omega)
    · rw [len, List.length_replicate]
  refine ⟨_, pss_one (ps_try_as (X := (cxOf C8.CX0 X.prog X.w X.K X.mg X.base N x sg g cdg X.A X.stack s H C8.E0).nox) (c := .ref CS) (i := ie) (n := en) (x := ce) (tb := tb) (ts := ts) (Wout := fun _ _ _ _ => False) rfl rfl S.nd ei hen.2 ⟨hce.2.1, m1, .inl hce.2.2⟩ LamX.takes0 (fun W pn xe tk _ => hb W pn xe tk) hsu), ?_⟩
  refine ⟨saidE X.K G tab Q, fun cls d σ' H' hE => ?_, h0 f, hc, h⟩
  obtain ⟨y, s0, d0, z, rfl, hS, rx, ez, hk⟩ := hE
  obtain ⟨fl, f1, f2, f3⟩ := tabB_ok ht ez
  obtain ⟨D0, g1, rfl, r1, r2⟩ := rx.addr
  have hfl : (JOf cn sc en W0 y.cls fl).fields d d0.H ∧ ∀ f n, fl = some (f, n) → fldNm y.cls = some f := by
    rcases f1 with ⟨h1, rfl⟩ | ⟨f, i, h1, rfl, hn⟩
    · exact ⟨⟨(fun _ _ z => nomatch z), by rw [r1 h1]; exact DxOk.none⟩, fun _ _ z => nomatch z⟩
    · obtain ⟨p, rfl, hp⟩ := r2 f i h1
      exact ⟨⟨fun _ _ z => by cases z; exact ⟨p, rfl, hp⟩, fun dd hd => by cases hd; exact ⟨_, hp⟩⟩, fun _ _ z => by cases z; exact hn⟩
  refine ⟨true, hexm _ _ f2 g1, fun _ b _ => ⟨y, z, D0, fl, g1, rfl, hfl.1, hfl.2, f2, f3, ⟨σ', rfl⟩, fun H' e => ?_⟩, fun z => nomatch z⟩
  obtain ⟨ev, hS'⟩ := stepH hS e
  exact hk { d0 with H := H' } ev rfl hS'
/-- the lambda's def may be called -/
theorem said_at {CS g c P : Addr} {fd : FuncData} {pg : Arguments} {b₀ : Stmt} {suite : List Stmt} {p1 p2 p3 p4 p5 p6 p7 p8 : Pos} {j : Nat} (cold : Cold X.A) (room : Room (k + 2) X.A) (kx : KX X.K X.mg G cn rs) (S : FnScope N [a] sg)
    (ei : N[ie]? = some en) (hen : nameOk en = true ∧ sg.names.lookup en = some .local) (hce : nameOk ce = true ∧ sg.names.lookup ce = some .globalImplicit ∧ X.mg ce = some (.ref CS)) (hrp : md = false → sg.names.lookup ("repr" : Str) = some .globalImplicit)
    (hexm : ∀ c D, c ∈ rs → G.c c = some D → PySem.W.exmOne X.K (.ref D) (.ref CS) = some true) (hW : ∀ w, W0 = some w → WordAt X w ∧ sg.names.lookup w.g = some .globalImplicit) (ht : tabB cn rs ⟨N, sg.names, fun _ => false, false, false⟩ en W0 (b₀ :: suite) tab = true)
    (hx : nameOk x = true) (hg : Gl X x) (hm : X.mg x = some (.ref g)) (hk : PySem.W.keepIn X.K (.ref g) = true) (F : FunD X.K x x pg [.Try (tryB md a p1 p2 p3 p4 p5 j) [.ExceptHandler (some (.Name ce p6)) (some en) (b₀ :: suite) p7] [] [] p8] sg [] [] g fd) (hb : Binds X.K fd [a] [])
    (ha : nameOk a = true ∧ sg.names.lookup a = some .local) (TB : LamX.TabB X.base X.mg c P) (hcode : X.env.code = .ref c) (hT : (P, X.env.qual ++ "<lambda>") ∈ G.T) (hu : ∀ p ∈ G.T, p.1 = P → p.2 = X.env.qual ++ "<lambda>") : SaidAt X G k md tab x := by
  have hN0 : N[0]? = some a := by
    have := S.pre
    cases hn : N with
    | nil => rw [hn] at this; cases this
    | cons y r =>
      rw [hn] at this
      cases this
      rfl
  have h0 : ∀ f : Addr, (L2.start N [V.ref f])[0]? = some (some (V.ref f)) := fun f => rfl
  obtain ⟨n1, n2, n3⟩ := nameOk_ok hx
  obtain ⟨a1, a2, a3⟩ := nameOk_ok ha.1
  obtain ⟨oc, od, dV, kV, doc, pm, an, cv, ct, osl, rfl, lk, hcd, _, _⟩ := F.ex
  refine ⟨fun pn xe body scope t p lpos pos L hbody => ?_⟩
  exact LamX.pe_lamcall (X := X.tr pn xe) hg hm hk lk hcd hb S hN0 (.inl ha.2) (said_gives (X := X.tr pn xe) cold room ⟨kx.cls, kx.ve, kx.exc, kx.nof⟩ S ei hen hce hrp hexm (fun w e => ⟨⟨(hW w e).1.ok, (hW w e).1.na⟩, (hW w e).2⟩) ht h0) TB hcode hT hu room L rfl (fun _ _ _ _ _ => rfl)
    (fun A outer s H E f c' hr => hbody A outer s H E f c' hr) n1 a1 a2
end
end Mi

/-! The head: a module's defs and names as data, what the top leaves behind, as Glob wants it. -/
namespace Mi
open PySem PySem.Spec PyProof.Rows L2
/-- one def of the top -/
structure DI where
  i : Nat
  x : Str
  ps : List Str
  N : List Str
  ow : List Nat
  keep : Bool
  lam : Bool := false
  z : Bool := false
def stAt (p : Program) (i : Nat) : Stmt := p.main.body.getD i (.Pass ⟨0, 0, 0, 0⟩)
def DI.st (p : Program) (d : DI) : Stmt := stAt p d.i
def DI.df (p : Program) (d : DI) : He.DefD := ⟨(d.x, none), d.x, d.x, defArgs (d.st p), defBody (d.st p), defScope (d.st p), [], []⟩
def lx (x : Str) : Str := x
def gb (x : Str) (g : Gb) : Str × Gb := (x, g)
def glOf (t : List (Str × Gb)) (x : Str) : Option Gb := t.lookup x
def faOf : List (Str × Gb) → List He.Fa
  | [] => []
  | (x, .fn _ _) :: r => .glo x :: faOf r
  | (x, .said _ _) :: r => .glo x :: faOf r
  | (x, .exc _ _) :: r => .glo x :: faOf r
  | (x, .con (.int i)) :: r => .int x i :: faOf r
  | (x, .con (.str z)) :: r => .str x z :: faOf r
  | (x, .con _) :: r => faOf r
  | (x, .free) :: r => .free x :: faOf r
  | (x, .kwo _) :: r => .free x :: faOf r
  | (_, .flds _) :: r => .free "super" :: faOf r
def conOk : List (Str × Gb) → Bool
  | [] => true
  | (_, .con (.int _)) :: r => conOk r
  | (_, .con (.str _)) :: r => conOk r
  | (_, .con _) :: _ => false
  | _ :: r => conOk r
/-- the fact of an entry -/
def faE (x : Str) : Gb → Option He.Fa
  | .fn _ _ => some (.glo x)
  | .said _ _ => some (.glo x)
  | .exc _ _ => some (.glo x)
  | .con (.int i) => some (.int x i)
  | .con (.str z) => some (.str x z)
  | .con _ => none
  | .free => some (.free x)
  | .kwo _ => some (.free x)
  | .flds _ => some (.free "super")
theorem faOf_cons (x : Str) (g : Gb) (r : List (Str × Gb)) : faOf ((x, g) :: r) = (faE x g).toList ++ faOf r := by
  cases g with
  | con w => cases w <;> rfl
  | _ => rfl
theorem faOf_mem : ∀ {t : List (Str × Gb)} {x : Str} {g : Gb}, glOf t x = some g → conOk t = true → ∃ f ∈ faOf t, faE x g = some f
  | [], _, _, h, _ => nomatch h
  | (y, g') :: r, x, g, h, hc => by
    unfold glOf at h
    rw [List.lookup_cons] at h
    rw [faOf_cons]
    have hcr : conOk r = true := by
      cases g' with
      | con w => cases w <;> first | exact hc | cases hc
      | _ => exact hc
    cases q : (x == y) with
    | true =>
      rw [q] at h
      cases h
      have e := beq_iff_eq.mp q
      subst e
      cases e2 : faE x g' with
      | none =>
        cases g' with
        | con w => cases w <;> first | (cases e2; done) | exact Bool.noConfusion hc
        | _ => cases e2
      | some f => exact ⟨f, List.mem_append_left _ (by simp), rfl⟩
    | false =>
      rw [q] at h
      obtain ⟨f, hf, e⟩ := faOf_mem h hcr
      exact ⟨f, List.mem_append_right _ hf, e⟩
/-! ### binding -/
/-- the parameters are bound to as many values -/
def BindsPs (a : Arguments) (ps : List Str) (x : Str) (body : List Stmt) (scope : Scope) : Prop := ∀ (kV doc pm : Value) (an : Option Addr) (cdv ct : Value) (us : List Value), us.length = ps.length → bindArgs (PySem.W.fnOf x x a body scope .none kV doc pm an cdv ct) ⟨us, []⟩ = pure (ps.zip us)
abbrev DI.bP (p : Program) (d : DI) : Prop := BindsPs (defArgs (d.st p)) d.ps d.x (defBody (d.st p)) (defScope (d.st p))
/-! ### a def -/
def scopeB (N P : List Str) (sc : Scope) : Bool := decide (sc.kind = .function) && !sc.isCoroutine && !sc.isGenerator && decide N.Nodup && decide (N.take P.length = P) && P.all (fun x => decide (sc.names.lookup x = some .local) || decide (sc.names.lookup x = some .cell)) && sc.names.all fun y => decide (y.2 ≠ .free)
theorem scopeB_ok {N P : List Str} {sc : Scope} (h : scopeB N P sc = true) : FnScope N P sc := by
  unfold scopeB at h
  simp only [Bool.and_eq_true, decide_eq_true_eq, Bool.not_eq_true', List.all_eq_true, Bool.or_eq_true] at h
  obtain ⟨⟨⟨⟨⟨⟨h1, h2⟩, h3⟩, h4⟩, h5⟩, h6⟩, h7⟩ := h
  exact ⟨h1, h2, h3, h4, h5, h6, h7⟩
/-- def and its small text belong together -/
def DI.okB (p : Program) (d : DI) (f : Dfn) : Bool := scopeB d.N d.ps (defScope (d.st p)) && decide (d.ps.length = f.np) && decide (f.nv = d.N.length) && decide (d.ps.length ≤ d.N.length)
def DI.sc (p : Program) (d : DI) (lam cd : Bool) : SC := ⟨d.N, (defScope (d.st p)).names, fun _ => true, lam, cd⟩
def DI.trB (p : Program) (t : List (Str × Gb)) (d : DI) (f : Dfn) : Prop := trSs (glOf t) (trX (glOf t) 40) d.ow d.keep (d.sc p d.lam true) 40 (defBody (d.st p)) = some f.body
/-- .. where something may be guarded -/
def DI.trZ (p : Program) (t : List (Str × Gb)) (d : DI) (f : Dfn) : Prop := d.z = true → trSs (strip (glOf t)) (trX (strip (glOf t)) 40) d.ow d.keep (d.sc p false false) 40 (defBody (d.st p)) = some f.body
/-- the defs, each with its text; the names -/
inductive AllTr (p : Program) (t : List (Str × Gb)) : List DI → List Dfn → Prop where
  | nil : AllTr p t [] []
  | cons {d : DI} {f : Dfn} {ds : List DI} {fs : List Dfn} : d.okB p f = true → d.trB p t f ∧ d.trZ p t f → d.bP p → AllTr p t ds fs → AllTr p t (d :: ds) (f :: fs)
theorem AllTr.get {p : Program} {t : List (Str × Gb)} : ∀ {D : List DI} {ds : List Dfn} {i : Nat} {d : DI}, AllTr p t D ds → D[i]? = some d → ∃ f, ds[i]? = some f ∧ d.okB p f = true ∧ (d.trB p t f ∧ d.trZ p t f) ∧ d.bP p
  | _, _, _, _, .nil, h => nomatch h
  | _, _, 0, _, .cons a b z _, h => by
    cases h
    exact ⟨_, rfl, a, b, z⟩
  | _, _, i + 1, d, .cons _ _ _ r, h => AllTr.get (i := i) r h
/-- the keywords of a call, bound -/
def DI.kP (p : Program) (d : DI) (ks : List Str) : Prop := ∀ (kV doc pm : Value) (an : Option Addr) (cdv ct : Value) (ws : List Value), ws.length = ks.length → bindArgs (PySem.W.fnOf d.x d.x (defArgs (d.st p)) (defBody (d.st p)) (defScope (d.st p)) .none kV doc pm an cdv ct) ⟨[], ks.zip ws⟩ = pure (d.ps.zip (permL (permOf d.ps ks) ws))
def KwAll (p : Program) (t : List (Str × Gb)) (D : List DI) : Prop := ∀ l, glOf t "(" = some (.kwo l) → ∀ e ∈ l, ∃ d, D[e.1]? = some d ∧ e.2.1 = d.ps ∧ ∀ ks ∈ e.2.2, d.kP p ks
theorem kwNone {p : Program} {t : List (Str × Gb)} {D : List DI} (h : glOf t "(" = none) : KwAll p t D := fun l e => by
  rw [h] at e
  cases e
theorem kP_ok {K : PySem.W.Frag} {d : DI} {p : Program} {f : Addr} {fd : FuncData} {ks : List Str} (F : FunD K d.x d.x (defArgs (d.st p)) (defBody (d.st p)) (defScope (d.st p)) [] [] f fd) (h : d.kP p ks) : KwB K fd d.ps ks := fun s ws _ hl => by
  obtain ⟨oc, od, dV, kV, doc, pm, an, cdv, ct, osl, rfl, lk, hcd, hD, hK⟩ := F.ex
  rcases hD with ⟨_, rfl⟩ | ⟨e, _⟩
  · exact .of_eq (h kV doc pm an cdv ct ws hl)
  · exact absurd rfl e
theorem kwOk_of {K : PySem.W.Frag} {d : DI} {p : Program} {t : List (Str × Gb)} {D : List DI} {f : Addr} {fd : FuncData} {i : Nat} (hk : KwAll p t D) (hd : D[i]? = some d) (F : FunD K d.x d.x (defArgs (d.st p)) (defBody (d.st p)) (defScope (d.st p)) [] [] f fd) : KwOk (glOf t) K fd d.ps i := fun l e hl he hi => by
  obtain ⟨d', e1, e2, e3⟩ := hk l hl e he
  rw [hi, hd] at e1
  cases e1
  exact ⟨e2, fun ks hks => kP_ok F (e3 ks hks)⟩
def fnB (D : List DI) : List (Str × Gb) → Bool
  | [] => true
  | (x, .fn i z) :: r => decide ((D[i]?).map (fun d => (d.x, d.z)) = some (x, z)) && fnB D r
  | _ :: r => fnB D r
theorem fnB_ok {D : List DI} : ∀ {t : List (Str × Gb)} {x : Str} {i : Nat} {z : Bool}, fnB D t = true → glOf t x = some (.fn i z) → ∃ d, D[i]? = some d ∧ d.x = x ∧ d.z = z
  | [], _, _, _, _, h => nomatch h
  | (y, g) :: r, x, i, z, hb, h => by
    unfold glOf at h
    rw [List.lookup_cons] at h
    have down : fnB D r = true := by
      cases g with
      | fn j z =>
        have hb' : (decide _ && fnB D r) = true := hb
        exact (Bool.and_eq_true _ _ ▸ hb').2
      | _ => exact hb
    cases q : (x == y) with
    | true =>
      rw [q] at h
      cases h
      have e := beq_iff_eq.mp q
      subst e
      have hb' : (decide ((D[i]?).map (fun d => (d.x, d.z)) = some (x, z)) && fnB D r) = true := hb
      simp only [Bool.and_eq_true, decide_eq_true_eq] at hb'
      cases e2 : D[i]? with
      | none => rw [e2] at hb'; exact nomatch hb'.1
      | some d =>
        rw [e2] at hb'
        have := Option.some.inj hb'.1
        exact ⟨d, rfl, congrArg (·.1) this, congrArg (·.2) this⟩
    | false =>
      rw [q] at h
      exact fnB_ok (t := r) down h
section
variable {p : Program} {K : PySem.W.Frag} {h : Heap} {mg : Str → Option Value} {D : List DI} {t : List (Str × Gb)} {ds : List Dfn}
theorem says_all {fa : List He.Fa} {fn : List He.DefD} (c : He.SaysD fa fn K) {f : He.Fa} (hf : f ∈ fa) : f.ok K = true := by
  obtain ⟨j, hj, rfl⟩ := List.mem_iff_getElem.mp hf
  exact c.fact j (List.getElem?_eq_getElem hj)
theorem def_at (c : He.SaysD (faOf t) (D.map (·.df p)) K) {i : Nat} {d : DI} (hd : D[i]? = some d) : ∃ fd, FunD K d.x d.x (defArgs (d.st p)) (defBody (d.st p)) (defScope (d.st p)) [] [] (He.ga K d.x) fd := by
  obtain ⟨fd, F⟩ := c.def_ i (d := d.df p) (by rw [List.getElem?_map, hd]; rfl)
  exact ⟨fd, F⟩
/-! ### classes, tables -/
/-- the classes that are raised or caught: number, name, made with a text -/
abbrev Exs := List (Nat × Str × Bool)
def excCB (K : PySem.W.Frag) (D : Addr) : Bool :=
  decide (PySem.W.findIn K (.ref D) "__getattribute__" = some (some (.builtin "BaseException.__getattribute__"))) && decide (PySem.W.findIn K (.ref D) "__getattr__" = some none) && decide (PySem.W.subIn K (.ref D) (.type "BaseException") = some true) && PySem.W.hasDictIn K D &&
  decide (PySem.W.findIn K (.ref D) "__class__" = some (some (.builtin "object.__class__"))) && decide (PySem.W.specialIn K (.builtin "object.__class__") "__get__" = some (some (.builtin "getset_descriptor.__get__"))) && decide (PySem.W.takesIn K (.builtin "object.__class__") = some true) && decide (PySem.W.mroIn K D (.type "object") = some true)
theorem excCB_ok {D : Addr} (h : excCB K D = true) : ExcC K D := by
  unfold excCB at h
  simp only [Bool.and_eq_true, decide_eq_true_eq] at h
  obtain ⟨⟨⟨⟨⟨⟨⟨h1, h2⟩, h3⟩, h4⟩, h5⟩, h6⟩, h7⟩, h8⟩ := h
  exact ⟨h1, h2, h3, h4, h5, h6, h7, h8⟩
/-- a field's name is no attribute of the class -/
def nofB (K : PySem.W.Frag) (A : Addr) (c : Nat) : Bool := match fldNm c with
  | some f => decide (PySem.W.findIn K (.ref A) f = some none)
  | none => true
theorem nofB_ok {K : PySem.W.Frag} {A : Addr} {c : Nat} (h : nofB K A c = true) {f : Str} (e : fldNm c = some f) : PySem.W.findIn K (.ref A) f = some none := by
  unfold nofB at h
  rw [e] at h
  exact of_decide_eq_true h
/-- the facts of the classes -/
def exB (cn : List (Str × Nat)) (ex : Exs) (K : PySem.W.Frag) : Bool :=
  (cn.all fun q => (He.Fa.glo q.1).ok K) && ex.all fun e => (!e.2.2 || (He.Fa.exc e.2.1).ok K) && (ex.all fun e2 => (He.Fa.exm e2.2.1 e.2.1 (subX e2.1 e.1)).ok K) && (cn.isEmpty ||
    ((cn.all fun q => decide (PySem.W.kitOne K (.ref (He.ga K e.2.1)) (.ref (He.ga K q.1)) = some (subX e.1 q.2))) && decide (PySem.W.kitOne K (.ref (He.ga K e.2.1)) (.type "ValueError") = some true) && excCB K (He.ga K e.2.1) && nofB K (He.ga K e.2.1) e.1))
/-- the module's builtins -/
def bmB (ps : List Addr) (K : PySem.W.Frag) : Bool := ps.isEmpty || (match PySem.W.nsIn K mainGlobals "__builtins__" with
  | some (some (.ref bm)) => (match K.lookup bm with
    | some o => decide (bm ≠ builtinsNs) && decide (bm ≠ mainGlobals) && ps.all (fun q => decide (bm ≠ q) && decide (mainGlobals ≠ q)) && decide (o.cls = .type "module") && decide (o.dict = some builtinsNs) && (match o.data with | .plain => true | _ => false)
    | none => false)
  | _ => false)
theorem bmB_ok {ps : List Addr} {base : Heap} (X : K.In base) (G : base.Ns mainGlobals mg) (h : bmB ps K = true) {q : Addr} (hq : q ∈ ps) : base.BuiltinsAt mg q ∧ mainGlobals ≠ q := by
  unfold bmB at h
  rw [Bool.or_eq_true] at h
  rcases h with h | h
  · cases ps with
    | nil => cases hq
    | cons _ _ => cases h
  split at h
  · rename_i bm e
    split at h
    · rename_i o e2
      simp only [Bool.and_eq_true, decide_eq_true_eq, List.all_eq_true] at h
      obtain ⟨⟨⟨⟨⟨h1, h2⟩, h3⟩, h4⟩, h5⟩, h6⟩ := h
      refine ⟨⟨bm, o, PySem.W.mg_of X G e, h1, h2, (h3 q hq).1, X _ _ e2, h4, h5, ?_⟩, (h3 q hq).2⟩
      split at h6
      · assumption
      · cases h6
    · cases h
  · cases h
theorem memN {α : Type} {l : List (Nat × α)} {n : Nat} {a : α} (h : l.lookup n = some a) : (n, a) ∈ l := by
  induction l with
  | nil => cases h
  | cons q l ih =>
    obtain ⟨q1, q2⟩ := q
    rw [List.lookup_cons] at h
    split at h
    · rename_i e
      cases h
      rw [beq_iff_eq.mp e]
      exact List.mem_cons_self
    · exact List.mem_cons_of_mem _ (ih h)
def tfOf (D : List DI) : List He.Defn := (D.filter (·.lam)).map fun d => (d.x, none)
/-- the tables of the defs that make lambdas -/
def TOf (K : PySem.W.Frag) (p : Program) (D : List DI) : List (Addr × Str) := (D.filter (·.lam)).map fun d => ((He.cT K (d.x, none)).2, lamQ d.x (defScope (d.st p)))
/-- tables differ -/
def tsB (D : List DI) (K : PySem.W.Frag) : Bool := (D.filter (·.lam)).all fun a => (D.filter (·.lam)).all fun b => !decide ((He.cT K (a.x, none)).2 = (He.cT K (b.x, none)).2) || decide (a.x = b.x)
def GmOf (K : PySem.W.Frag) (p : Program) (D : List DI) (ex : Exs) : Gm := ⟨fun n => (ex.lookup n).map fun q => He.ga K q.1, TOf K p D⟩
/-- the classes that keep a field -/
def flsOf (t : List (Str × Gb)) : List (Nat × Str) := match glOf t ")" with
  | some (.flds l) => l
  | _ => []
def flB (file : Str) (ex : Exs) (fl : List (Nat × Str)) (K : PySem.W.Frag) : Bool := fl.all fun e => match ex.lookup e.1 with
  | some q => fldB K file (He.ga K q.1) e.2
  | none => false
/-- what the text says of them -/
def FlOk (p : Program) (t : List (Str × Gb)) : Prop := ∀ l, glOf t ")" = some (.flds l) → (p.main.scope.names.lookup ("super" : Str)).isSome = false ∧ ∀ e ∈ l, IniB e.2 ∧ e.2 ≠ "self" ∧ (e.2 == ("__debug__" : Str)) = false
theorem flNone {p : Program} {t : List (Str × Gb)} (h : glOf t ")" = none) : FlOk p t := fun l e => by
  rw [h] at e
  cases e
theorem flSome {p : Program} {t : List (Str × Gb)} {l : List (Nat × Str)} (h : glOf t ")" = some (.flds l)) (ht : (p.main.scope.names.lookup ("super" : Str)).isSome = false) (hl : (l.all fun e => decide (e.2 = "at") || decide (e.2 = "limit")) = true) : FlOk p t := fun l' e => by
  rw [h] at e
  cases e
  refine ⟨ht, fun e he => ?_⟩
  have := List.all_eq_true.mp hl e he
  simp only [Bool.or_eq_true, decide_eq_true_eq] at this
  rcases this with z | z <;> rw [z]
  · exact ⟨iniB_at, by decide, by decide⟩
  · exact ⟨iniB_limit, by decide, by decide⟩
/-- all that the end leans on -/
def moreB (p : Program) (t : List (Str × Gb)) (D : List DI) (cn : List (Str × Nat)) (ex : Exs) (K : PySem.W.Frag) : Bool := exB cn ex K && (bmB ((tfOf D).map fun q => (He.cT K q).2) K && (tsB D K && flB p.main.file ex (flsOf t) K))
abbrev Says (t : List (Str × Gb)) (p : Program) (D : List DI) (cn : List (Str × Nat)) (ex : Exs) (w : World) (h : Heap) (K : PySem.W.Frag) : Prop := He.SaysX (faOf t) (D.map (·.df p)) [] (tfOf D) (moreB p t D cn ex) w h K
def excOk (t : List (Str × Gb)) (ex : Exs) : Bool := t.all fun q => match q.2 with
  | .exc c mk => decide (ex.lookup c = some (q.1, mk))
  | _ => true
theorem glOf_mem {x : Str} {g : Gb} (h : glOf t x = some g) : (x, g) ∈ t := PySem.mem_of_lookup h
theorem exB_at {cn : List (Str × Nat)} {ex : Exs} (h : exB cn ex K = true) {c : Nat} {q : Str × Bool} (hq : ex.lookup c = some q) :
    (q.2 = true → (He.Fa.exc q.1).ok K = true) ∧ (∀ e2 ∈ ex, (He.Fa.exm e2.2.1 q.1 (subX e2.1 c)).ok K = true) ∧ (cn ≠ [] → (∀ y ∈ cn, PySem.W.kitOne K (.ref (He.ga K q.1)) (.ref (He.ga K y.1)) = some (subX c y.2)) ∧ PySem.W.kitOne K (.ref (He.ga K q.1)) (.type "ValueError") = some true ∧ ExcC K (He.ga K q.1) ∧ nofB K (He.ga K q.1) c = true) := by
  unfold exB at h
  rw [Bool.and_eq_true] at h
  have hm : (c, q) ∈ ex := memN hq
  have := List.all_eq_true.mp h.2 _ hm
  simp only [Bool.and_eq_true, Bool.or_eq_true, List.all_eq_true, decide_eq_true_eq, Bool.not_eq_true'] at this
  obtain ⟨⟨h1, h2⟩, h3⟩ := this
  refine ⟨fun e => ?_, h2, fun hn => ?_⟩
  · rcases h1 with h1 | h1
    · rw [e] at h1; cases h1
    · exact h1
  · rcases h3 with h3 | h3
    · exact absurd (List.isEmpty_iff.mp h3) hn
    · exact ⟨h3.1.1.1, h3.1.1.2, excCB_ok h3.1.2, h3.2⟩
theorem Gm_at {ex : Exs} {n : Nat} {A : Addr} (h : (GmOf K p D ex).c n = some A) : ∃ q, ex.lookup n = some q ∧ A = He.ga K q.1 := by
  unfold GmOf at h
  dsimp only at h
  cases e : ex.lookup n with
  | none => rw [e] at h; cases h
  | some q => rw [e] at h; cases h; exact ⟨q, rfl, rfl⟩
theorem excAt_of {cn : List (Str × Nat)} {ex : Exs} (X : K.In h) (G : h.Ns mainGlobals mg) (c : He.SaysD (faOf t) (D.map (·.df p)) K) (hc : conOk t = true) (hx : exB cn ex K = true) (ho : excOk t ex = true) {x : Str} {n : Nat} {mk : Bool} (e : glOf t x = some (.exc n mk)) :
    ExcAt K mg (GmOf K p D ex) x n mk := by
  have hl : ex.lookup n = some (x, mk) := of_decide_eq_true (show decide (ex.lookup n = some (x, mk)) = true from List.all_eq_true.mp ho _ (glOf_mem e))
  obtain ⟨h1, h2, _⟩ := exB_at hx hl
  obtain ⟨f, hf, e2⟩ := faOf_mem e hc
  cases e2
  refine ⟨He.ga K x, by show (ex.lookup n).map _ = _; rw [hl]; rfl, He.glo_ok X G (says_all c hf), fun m A' hm => ?_, fun hmk => ?_⟩
  · obtain ⟨q, q1, rfl⟩ := Gm_at hm
    exact He.exm_ok (x := q.1) (y := x) (h2 (m, q) (memN q1))
  · exact He.exc_ok (h1 hmk)
theorem defAt_of {base : Heap} {ex : Exs} {d : DI} {f : Dfn} {fd : FuncData} (hd : d ∈ D) (F : FunD K d.x d.x (defArgs (d.st p)) (defBody (d.st p)) (defScope (d.st p)) [] [] (He.ga K d.x) fd) (h1 : d.okB p f = true) (h2 : d.trB p t f) (h3 : d.bP p)
    (X : K.In base) (G : base.Ns mainGlobals mg) (hcode : ∀ q ∈ tfOf D, PySem.W.codeHdIn K (He.cT K q).1 (He.cT K q).2 = true) (hbm : bmB ((tfOf D).map fun q => (He.cT K q).2) K = true) (hts : tsB D K = true) :
    Binds K fd d.ps [] ∧ DefAt K mg base (GmOf K p D ex) (glOf t) true f (He.ga K d.x) fd d.ps := by
  unfold DI.okB at h1
  simp only [Bool.and_eq_true, decide_eq_true_eq] at h1
  obtain ⟨⟨⟨e2, e3⟩, e4⟩, e5⟩ := h1
  refine ⟨F.bindsN h3, ⟨_, _, _, _, _, d.N, d.ow, d.keep, d.lam, 40, 40, F, scopeB_ok e2, e3, e4, e5, h2, fun hl => ⟨rfl, ?_⟩⟩⟩
  obtain ⟨oc, od, dV, kV, doc, pm, an, cv, ct, osl, rfl, lk, hcd, _, _⟩ := F.ex
  obtain ⟨c, rfl⟩ := He.codeIn_ref hcd
  have hm : d ∈ D.filter (·.lam) := List.mem_filter.mpr ⟨hd, hl⟩
  have hq : (d.x, none) ∈ tfOf D := List.mem_map.mpr ⟨d, hm, rfl⟩
  have ec : (He.cT K (d.x, none)).1 = c := He.codeOf_eq (p := (d.x, none)) lk rfl
  obtain ⟨b1, b2⟩ := bmB_ok X G hbm (q := (He.cT K (d.x, none)).2) (List.mem_map.mpr ⟨_, hq, rfl⟩)
  refine ⟨c, (He.cT K (d.x, none)).2, rfl, ?_, List.mem_map.mpr ⟨d, hm, rfl⟩, fun q hq e => ?_⟩
  · have := hcode _ hq
    rw [ec] at this
    exact ⟨PySem.W.codeHd_of_K X this, b1, b2⟩
  · obtain ⟨d2, hd2, rfl⟩ := List.mem_map.mp hq
    unfold tsB at hts
    have := List.all_eq_true.mp (List.all_eq_true.mp hts _ hd2) _ hm
    rw [Bool.or_eq_true] at this
    rcases this with z | z
    · rw [Bool.not_eq_true', decide_eq_false_iff_not] at z
      exact absurd e z
    · have z := of_decide_eq_true z
      show lamQ d2.x _ = lamQ d.x _
      rw [z]
      rfl
theorem defAt_z {base : Heap} {ex : Exs} {d : DI} {f : Dfn} {fd : FuncData} (F : FunD K d.x d.x (defArgs (d.st p)) (defBody (d.st p)) (defScope (d.st p)) [] [] (He.ga K d.x) fd) (h1 : d.okB p f = true) (h2 : d.trZ p t f) (hz : d.z = true) :
    DefAt K mg base (GmOf K p D ex) (strip (glOf t)) false f (He.ga K d.x) fd d.ps := by
  unfold DI.okB at h1
  simp only [Bool.and_eq_true, decide_eq_true_eq] at h1
  obtain ⟨⟨⟨e2, e3⟩, e4⟩, e5⟩ := h1
  exact ⟨_, _, _, _, _, d.N, d.ow, d.keep, false, 40, 40, F, scopeB_ok e2, e3, e4, e5, h2 hz, fun z => nomatch z⟩
theorem strip_of {gl : Str → Option Gb} {x : Str} {g : Gb} (h : strip gl x = some g) : gl x = some g ∧ (g = .free → x ≠ "repr") ∧ (∀ i z, g = .fn i z → z = true) := by
  unfold strip at h
  split at h
  · cases h
    rename_i e
    exact ⟨e, (fun z => nomatch z), fun _ _ z => by cases z; rfl⟩
  · cases h
    rename_i e
    exact ⟨e, (fun z => nomatch z), fun _ _ z => nomatch z⟩
  · cases h
    rename_i e
    exact ⟨e, (fun z => nomatch z), fun _ _ z => nomatch z⟩
  · cases h
    rename_i e
    exact ⟨e, (fun z => nomatch z), fun _ _ z => nomatch z⟩
  · rename_i e
    split at h
    · cases h
    · rename_i hn
      cases h
      exact ⟨e, fun _ => hn, fun _ _ z => nomatch z⟩
  · cases h
theorem glob_of {base : Heap} {w : World} {hp : Heap} {cn : List (Str × Nat)} {ex : Exs} (X : K.In base) (G : base.Ns mainGlobals mg) (c : Says t p D cn ex w hp K) (hc : conOk t = true) (hf : fnB D t = true) (hkw : KwAll p t D) (hfl : FlOk p t) (ho : excOk t ex = true) (hT : AllTr p t D ds) :
    Glob p K mg base (GmOf K p D ex) ds (glOf t) true ∧ Glob p K mg base (GmOf K p D ex) ds (strip (glOf t)) false := by
  have cD := c.t.d
  have hmore := c.more
  unfold moreB at hmore
  simp only [Bool.and_eq_true] at hmore
  obtain ⟨m1, m2, m3, m4⟩ := hmore
  have con : ∀ {x w}, glOf t x = some (.con w) → ∃ u v, mg x = some u ∧ RelV v u ∧ ∀ d, RW K (GmOf K p D ex) d w v := fun {x w} e => by
    obtain ⟨f, hf, e2⟩ := faOf_mem e hc
    cases w with
    | int i =>
      cases e2
      obtain ⟨u, hu⟩ := He.int_ok X G (says_all cD hf)
      exact ⟨_, .int i, hu, ⟨u, rfl⟩, fun d => by unfold RW; rfl⟩
    | str i =>
      cases e2
      obtain ⟨u, hu⟩ := He.str_ok X G (says_all cD hf)
      exact ⟨_, .str i, hu, ⟨u, rfl⟩, fun d => by unfold RW; rfl⟩
    | _ => cases e2
  have free : ∀ {x}, glOf t x = some .free → mg x = none := fun {x} e => by
    obtain ⟨f, hf, e2⟩ := faOf_mem e hc
    cases e2
    exact He.free_ok X G (says_all cD hf)
  have fn : ∀ {x i z}, glOf t x = some (.fn i z) → ∃ d f fd, (d ∈ D ∧ D[i]? = some d) ∧ d.x = x ∧ d.z = z ∧ ds[i]? = some f ∧ mg x = some (.ref (He.ga K x)) ∧ FunD K d.x d.x (defArgs (d.st p)) (defBody (d.st p)) (defScope (d.st p)) [] [] (He.ga K d.x) fd ∧ d.okB p f = true ∧ (d.trB p t f ∧ d.trZ p t f) ∧ d.bP p := fun {x i z} e => by
    obtain ⟨d, hd, e1, e2⟩ := fnB_ok hf e
    obtain ⟨f, hf, e3⟩ := faOf_mem e hc
    cases e3
    obtain ⟨fd, F⟩ := def_at cD hd
    obtain ⟨dd, q1, q2, q3, q4⟩ := hT.get hd
    exact ⟨d, dd, fd, ⟨List.mem_of_getElem? hd, hd⟩, e1, e2, q1, He.glo_ok X G (says_all cD hf), F, q2, q3, q4⟩
  have fld : ∀ {l}, glOf t ")" = some (.flds l) → mg "super" = none ∧ ∀ e ∈ l, ∀ A, (GmOf K p D ex).c e.1 = some A → ∃ fI, FldC p K A e.2 fI ∧ PySem.W.keepIn K (.ref A) = true := fun {l} e => by
    obtain ⟨f, hf, e2⟩ := faOf_mem e hc
    cases e2
    obtain ⟨f1, f2⟩ := hfl l e
    refine ⟨He.free_ok X G (says_all cD hf), fun e' he A hA => ?_⟩
    have hfs : flsOf t = l := by
      unfold flsOf
      rw [e]
    unfold flB at m4
    rw [hfs] at m4
    have := List.all_eq_true.mp m4 e' he
    obtain ⟨q, q1, rfl⟩ := Gm_at hA
    rw [q1] at this
    obtain ⟨g1, g2, g3⟩ := f2 e' he
    obtain ⟨T, kC⟩ := fldB_ok (prog := p) this g1 ⟨g2, g3⟩ f1
    exact ⟨_, T, kC⟩
  refine ⟨⟨fun x => free, fun x w => con, fun x i z e => ?_, fun x n mk e => excAt_of X G cD hc m1 ho e, fun _ => rfl, fun l => fld⟩, ⟨fun x e => free (strip_of e).1, fun x w e => con (strip_of e).1, fun x i z e => ?_, fun x n mk e => excAt_of X G cD hc m1 ho (strip_of e).1, fun e => absurd rfl ((strip_of e).2.1 rfl), fun l e => fld (strip_of e).1⟩⟩
  · obtain ⟨d, f, fd, ⟨hd, hd2⟩, rfl, rfl, q1, q2, F, q3, q4, q5⟩ := fn e
    obtain ⟨B, A⟩ := defAt_of (ex := ex) hd F q3 q4.1 q5 X G c.hd m2 m3
    exact ⟨f, _, fd, d.ps, q1, q2, F.kp, B, A, kwOk_of hkw hd2 F⟩
  · obtain ⟨d, f, fd, ⟨hd, hd2⟩, rfl, rfl, q1, q2, F, q3, q4, q5⟩ := fn (strip_of e).1
    exact ⟨f, _, fd, d.ps, q1, q2, F.kp, F.bindsN q5, defAt_z F q3 q4.2 ((strip_of e).2.2 _ _ rfl), fun l e hl => kwOk_of hkw hd2 F l e (strip_of hl).1⟩
/-! ### the defs that tell -/
def saidsOf : List (Str × Gb) → List (Str × Bool × Tab)
  | [] => []
  | (x, .said md tab) :: r => (x, md, tab) :: saidsOf r
  | _ :: r => saidsOf r
theorem saidsOf_mem : ∀ {t : List (Str × Gb)} {x : Str} {md : Bool} {tab : Tab}, (x, Gb.said md tab) ∈ t → (x, md, tab) ∈ saidsOf t
  | [], _, _, _, h => nomatch h
  | (y, g) :: r, x, md, tab, h => by
    rcases List.mem_cons.mp h with e | h
    · cases e
      exact List.mem_cons_self
    · have := saidsOf_mem h
      cases g <;> first | exact this | exact List.mem_cons_of_mem _ this
def WDof (p : Program) (d : DI) (pw : Str) : WD := ⟨d.x, pw, d.N, (defScope (d.st p)).names, defBody (d.st p)⟩
/-- a def that tells: its text and what it answers -/
structure SaidD (p : Program) (t : List (Str × Gb)) (D : List DI) (cn : List (Str × Nat)) (ex : Exs) (q : Str × Bool × Tab) : Prop where
  ok : ∃ (d : DI) (a en ce : Str) (ie cc : Nat) (mk : Bool) (W0 : Option (DI × Str)) (b₀ : Stmt) (suite : List Stmt) (p1 p2 p3 p4 p5 p6 p7 p8 : Pos) (j : Nat),
    d ∈ D ∧ d.x = q.1 ∧ d.bP p ∧ d.ps = [a] ∧ scopeB d.N d.ps (defScope (d.st p)) = true ∧ defBody (d.st p) = [.Try (tryB q.2.1 a p1 p2 p3 p4 p5 j) [.ExceptHandler (some (.Name ce p6)) (some en) (b₀ :: suite) p7] [] [] p8] ∧
    d.N[ie]? = some en ∧ (nameOk en = true ∧ (defScope (d.st p)).names.lookup en = some .local) ∧ (nameOk ce = true ∧ (defScope (d.st p)).names.lookup ce = some .globalImplicit) ∧ glOf t ce = some (.exc cc mk) ∧ (ex.all fun e => subX e.1 cc) = true ∧
    (q.2.1 = false → (defScope (d.st p)).names.lookup ("repr" : Str) = some .globalImplicit) ∧ nameOk q.1 = true ∧ (nameOk a = true ∧ (defScope (d.st p)).names.lookup a = some .local) ∧
    (∀ w, W0 = some w → w.1 ∈ D ∧ w.1.bP p ∧ w.1.ps = [w.2] ∧ scopeB w.1.N w.1.ps (defScope (w.1.st p)) = true ∧ (nameOk w.1.x = true ∧ nameOk w.2 = true ∧ (defScope (w.1.st p)).names.lookup w.2 = some .local) ∧ (defScope (d.st p)).names.lookup w.1.x = some .globalImplicit ∧ ∃ i z, glOf t w.1.x = some (.fn i z)) ∧
    tabB cn (ex.map Prod.fst) ⟨d.N, (defScope (d.st p)).names, fun _ => false, false, false⟩ en (W0.map fun w => WDof p w.1 w.2) (b₀ :: suite) q.2.2 = true
  ve : glOf t "ValueError" = some .free ∧ glOf t "isinstance" = some .free ∧ glOf t "repr" = some .free
  cn : cn ≠ []
theorem saidG_of {P : Program} {base : Heap} {w : World} {hp : Heap} {cn : List (Str × Nat)} {ex : Exs} (X : K.In base) (G : base.Ns mainGlobals mg) (c : Says t p D cn ex w hp K) (hc : conOk t = true) (ho : excOk t ex = true) (hs : ∀ q ∈ saidsOf t, SaidD p t D cn ex q) :
    SaidG P w K mg base (GmOf K p D ex) (glOf t) := by
  intro x md tab hg k N qual scope f cdv A outer s H E cc T cold hr hcv TB hT hu Y hY hgl
  have S := hs _ (saidsOf_mem (glOf_mem hg))
  obtain ⟨d, a, en, ce, ie, cn2, mk, W0, b₀, suite, p1, p2, p3, p4, p5, p6, p7, p8, j, h1, rfl, h2, h3, h4, h5, h6, h7, h8, h9, h10, h11, h12, h13, h14, h15⟩ := S.ok
  have cD := c.t.d
  have hmore := c.more
  unfold moreB at hmore
  simp only [Bool.and_eq_true] at hmore
  obtain ⟨m1, m2, m3, m4⟩ := hmore
  have free : ∀ {x}, glOf t x = some .free → mg x = none := fun {x} e => by
    obtain ⟨f, hf, e2⟩ := faOf_mem e hc
    cases e2
    exact He.free_ok X G (says_all cD hf)
  have defs : ∀ {d : DI}, d ∈ D → ∃ fd, FunD K d.x d.x (defArgs (d.st p)) (defBody (d.st p)) (defScope (d.st p)) [] [] (He.ga K d.x) fd := fun {d} hd => by
    obtain ⟨i, hi, e⟩ := List.mem_iff_getElem.mp hd
    exact def_at cD (i := i) (by rw [List.getElem?_eq_getElem hi, e])
  obtain ⟨fd, F⟩ := defs h1
  obtain ⟨CS, c1, c2, c3, _⟩ := excAt_of (K := K) (p := p) (D := D) X G cD hc m1 ho h9
  have kx : KX K mg (GmOf K p D ex) cn (ex.map Prod.fst) := by
    refine ⟨fun x n hx => ⟨He.ga K x, ?_, fun c D0 hr hG => ?_⟩, ⟨free S.ve.1, free S.ve.2.1, free S.ve.2.2⟩, fun c D0 hr hG => ?_, fun c D0 f hr hG hn => ?_⟩
    · unfold exB at m1
      rw [Bool.and_eq_true] at m1
      exact He.glo_ok X G (List.all_eq_true.mp m1.1 _ hx)
    · obtain ⟨q, q1, rfl⟩ := Gm_at hG
      exact ((exB_at m1 q1).2.2 S.cn).1 _ hx
    · obtain ⟨q, q1, rfl⟩ := Gm_at hG
      obtain ⟨-, e1, e2, -⟩ := (exB_at m1 q1).2.2 S.cn
      exact ⟨e1, e2⟩
    · obtain ⟨q, q1, rfl⟩ := Gm_at hG
      obtain ⟨-, -, -, e3⟩ := (exB_at m1 q1).2.2 S.cn
      exact nofB_ok e3 hn
  obtain ⟨f0, hf0, e0⟩ := faOf_mem hg hc
  cases e0
  have gx := He.glo_ok X G (says_all cD hf0)
  rw [h5] at F
  have i1 : FnScope d.N [a] (defScope (d.st p)) := by rw [← h3]; exact scopeB_ok h4
  have i2 : Binds K fd [a] [] := by
    rw [← h3]
    exact F.bindsN (by rw [← h5]; exact h2)
  have i3 : tabB cn (ex.map Prod.fst) ⟨d.N, (defScope (d.st p)).names, fun _ => false, false, false⟩ en (W0.map fun w => WDof p w.1 w.2) (b₀ :: suite) tab = true := h15
  have i4 : ∀ n D0, n ∈ ex.map Prod.fst → (GmOf K p D ex).c n = some D0 → PySem.W.exmOne K (.ref D0) (.ref CS) = some true := fun n D0 hn hG => by
    have := c3 n D0 hG
    obtain ⟨e, he, rfl⟩ := List.mem_map.mp hn
    rw [this, List.all_eq_true.mp h10 _ he]
  have i5 : ∀ w', (W0.map fun w => WDof p w.1 w.2) = some w' → WordAt (cxOf (L2.CX P w) P w K mg base N qual scope f cdv A outer s H E) w' ∧ (defScope (d.st p)).names.lookup w'.g = some .globalImplicit := fun w' hw => by
    cases W0 with
    | none => cases hw
    | some w0 =>
      cases hw
      obtain ⟨k1, k2, k3, k4, k5, k6, k7⟩ := h14 w0 rfl
      obtain ⟨fw, Fw⟩ := defs k1
      have b1 : Binds K fw w0.1.ps [] := Fw.bindsN k2
      have b2 := scopeB_ok k4
      rw [k3] at b1 b2
      exact ⟨⟨⟨He.ga K w0.1.x, fw, _, _, (by
        obtain ⟨i, z, k7⟩ := k7
        obtain ⟨f, hf, e⟩ := faOf_mem k7 hc
        cases e
        exact He.glo_ok X G (says_all cD hf)), Fw.kp, Fw, b1, b2, rfl⟩, k5⟩, k6⟩
  have i6 : (T, (envOfC qual scope s.heap.objs.size f cdv).qual ++ "<lambda>") ∈ (GmOf K p D ex).T := hT
  have i7 : ∀ q ∈ (GmOf K p D ex).T, q.1 = T → q.2 = (envOfC qual scope s.heap.objs.size f cdv).qual ++ "<lambda>" := hu
  have i8 : FunD K d.x d.x (defArgs (d.st p)) [.Try (tryB md a p1 p2 p3 p4 p5 j) [.ExceptHandler (some (.Name ce p6)) (some en) (b₀ :: suite) p7] [] [] p8] (defScope (d.st p)) [] [] (He.ga K d.x) fd := F
  have hcode : Y.env.code = .ref cc := hY.code.trans hcv
  have hT2 : (T, Y.env.qual ++ "<lambda>") ∈ (GmOf K p D ex).T := by
    rw [hY.qual]
    exact i6
  have hu2 : ∀ q ∈ (GmOf K p D ex).T, q.1 = T → q.2 = Y.env.qual ++ "<lambda>" := by
    rw [hY.qual]
    exact i7
  obtain ⟨g1, g2, g3, g4, g5, g6, -, -⟩ := hY
  obtain ⟨y1, y2, y3, y4, y5, y6, y7, y8, y9, y10, y11, y12, y13, y14, y15, y16, y17⟩ := Y
  dsimp only at g1 g2 g3 g4 g5 g6 hcode hT2 hu2 hgl
  replace g1 := g1.symm
  replace g2 := g2.symm
  replace g3 := g3.symm
  replace g4 := g4.symm
  replace g5 := g5.symm
  replace g6 := g6.symm
  subst g1 g2 g3 g4 g5 g6
  refine said_at (G := GmOf K p D ex) (cn := cn) (rs := ex.map Prod.fst) (N := d.N) (sg := defScope (d.st p)) (ie := ie) (k := k) (a := a) (x := d.x) (en := en) (ce := ce) (W0 := W0.map fun w => WDof p w.1 w.2) (md := md) (tab := tab) (CS := CS) (P := T) (g := He.ga K d.x) (c := cc) (fd := fd) (b₀ := b₀) (suite := suite) (p1 := p1) (p2 := p2) (p3 := p3) (p4 := p4) (p5 := p5) (p6 := p6) (p7 := p7) (p8 := p8) (j := j) (pg := defArgs (d.st p))
    ?_ ?_ ?_ ?_ ?_ ?_ ?_ ?_ ?_ ?_ ?_ ?_ ?_ ?_ ?_ ?_ ?_ ?_ ?_ ?_ ?_ ?_
  · exact cold
  · exact hr
  · exact kx
  · exact i1
  · exact h6
  · exact h7
  · exact ⟨h8.1, h8.2, c2⟩
  · exact h11
  · exact i4
  · exact fun w2 e2 => ⟨⟨(i5 w2 e2).1.ok, (i5 w2 e2).1.na⟩, (i5 w2 e2).2⟩
  · exact i3
  · exact h12
  · exact hgl
  · exact gx
  · exact F.kp
  · exact i8
  · exact i2
  · exact h13
  · exact TB
  · exact hcode
  · exact hT2
  · exact hu2
/-- the hook: the module's names and the statics -/
def asF (g : Addr → Option Obj) (n : Nat) : List Addr := He.asD g n ++ [cStatics]
def obsF (n : Nat) (fa : List He.Fa) (fn : List He.DefD) (tf : List He.Defn) (ex : PySem.W.Frag → Bool) (g : Addr → Option Obj) : He.AlX := (He.obsT fa fn [] (He.frT g (asF g n)), ex (He.frT g (asF g n)) && He.tabsB g tf (He.frT g (asF g n)))
theorem saysF_of {n : Nat} {fa : List He.Fa} {fn : List He.DefD} {tf : List He.Defn} {ex : PySem.W.Frag → Bool} {w : World} {h : Heap} (e : obsF n fa fn tf ex h.get? = He.valX fn [] w) : He.SaysX fa fn [] tf ex w h (He.frT h.get? (asF h.get? n)) := by
  have e1 : He.obsT fa fn [] (He.frT h.get? (asF h.get? n)) = He.valT fn [] w := congrArg (fun z : He.AlX => z.1) e
  have e2 : (ex (He.frT h.get? (asF h.get? n)) && He.tabsB h.get? tf (He.frT h.get? (asF h.get? n))) = true := congrArg (fun z : He.AlX => z.2) e
  rw [Bool.and_eq_true] at e2
  have key : ∀ q ∈ tf, PySem.W.codeHdIn (He.frT h.get? (asF h.get? n)) (He.cT (He.frT h.get? (asF h.get? n)) q).1 (He.cT (He.frT h.get? (asF h.get? n)) q).2 = true ∧ ∃ o, h.get? (He.cT (He.frT h.get? (asF h.get? n)) q).2 = some o ∧ He.emptyTab o = true := fun q hq => by
    have := List.all_eq_true.mp e2.2 q hq
    rw [Bool.and_eq_true] at this
    refine ⟨this.1, ?_⟩
    cases z : h.get? (He.cT (He.frT h.get? (asF h.get? n)) q).2 with
    | none =>
      have h4 := this.2
      rw [z] at h4
      cases h4
    | some o =>
      have h4 := this.2
      rw [z] at h4
      exact ⟨o, rfl, h4⟩
  exact ⟨e1, e2.1, fun q hq => (key q hq).1, fun q hq => by
    obtain ⟨_, o, z1, z2⟩ := key q hq
    exact He.frT_none z1 z2, fun q hq => by
    obtain ⟨_, o, z1, z2⟩ := key q hq
    rw [z1, He.emptyTab_eq z2]⟩
def hookF (n : Nat) (fa : List He.Fa) (fn : List He.DefD) (tf : List He.Defn) (ex : PySem.W.Frag → Bool) : PySem.W.Hook where
  α := He.AlX
  obs := fun s => obsF n fa fn tf ex s.heap.get?
  val := fun w => He.valX fn [] w
  says := fun w h => ∃ K : PySem.W.Frag, K.In h ∧ He.SaysX fa fn [] tf ex w h K
  of := fun _ _ e => ⟨_, He.frT_in, saysF_of e⟩
  keeps := fun _ _ _ ⟨K, hK, c⟩ k => ⟨K, PySem.W.Frag.In.keeps hK k, c.t, c.more, c.hd, c.out, fun q hq => k _ _ (c.empty q hq)⟩
theorem obsF_eq {n : Nat} {fa : List He.Fa} {fn : List He.DefD} {tf : List He.Defn} {ex : PySem.W.Frag → Bool} {g : Addr → Option Obj} {s : Shared} (h : ∀ a, g a = s.heap.get? a) : obsF n fa fn tf ex g = (hookF n fa fn tf ex).obs s := by
  have e : g = s.heap.get? := funext h
  rw [e] <;> rfl
/-- the law's end -/
theorem walkM {l : PySem.W.OpenLaw} {k : Nat} {q : Program} {loose : List Str} {XP : (Str → Option Value) → Heap → Prop} {YP : World → Heap → Prop} {dr : DefRec} {D : List DI} {t : List (Str × Gb)} {ds : List Dfn} {lw : Nat} {dl : DI} {z : Str} {zl : Bool} {cn : List (Str × Nat)} {ex : Exs}
    (hn : l.most = some 63) (hdf : dr.params.defaults = []) (hr : Room (3 * k) callerA) (hx : dr.name = dl.x) (hc : conOk t = true) (hf : fnB D t = true) (hkw : KwAll l.prog t D) (hfl : FlOk l.prog t) (ho : excOk t ex = true) (hT : AllTr l.prog t D ds) (hl : D[lw]? = some dl) (hg : glOf t dl.x = some (.fn lw zl)) (hps : dl.ps = [z])
    (hs : ∀ q ∈ saidsOf t, SaidD l.prog t D cn ex q) (hY : ∀ (w : World) (h : Heap), YP w h → ∃ K : PySem.W.Frag, K.In h ∧ Says t l.prog D cn ex w h K)
    (hlaw : ∀ ns : List Int, ns.length ≤ 63 → ∃ s, callN ds k lw [.scr ns] [] = .ok (.bl true) s) : PySem.W.WalkO q loose XP YP l.row.toRowW dr [] (fun f vs => PySem.call f vs) := by
  refine Att.attach_call hn hdf fun w _ s1 mg _ fa _ _ _ _ ad vs ns GG Y _ _ _ hmg ho' hi hlen hgn => ?_
  obtain ⟨K, KX, c⟩ := hY w _ Y
  have cD := c.t.d
  have Gn := GG.T.g
  obtain ⟨fd, F⟩ := def_at cD hl
  obtain ⟨dd, q1, q2, q3, q4⟩ := hT.get hl
  have hmore := c.more
  unfold moreB at hmore
  simp only [Bool.and_eq_true] at hmore
  obtain ⟨m1, m2, m3, m4⟩ := hmore
  have hfa : fa = He.ga K dl.x := by
    obtain ⟨f, hf, e⟩ := faOf_mem hg hc
    cases e
    have e3 := He.glo_ok KX Gn (says_all cD hf)
    rw [hx] at hmg
    exact Value.ref.inj (Option.some.inj (hmg.symm.trans e3))
  subst hfa
  have hb : ∀ (s : Shared) (u : Value), BindsTo s fd ⟨[u], []⟩ [(z, u)] := fun s u => by
    have := FunD.bindsA (ps := dl.ps) F q4 s [u] (by rw [hps]; rfl)
    rw [hps] at this
    exact this
  refine law_callG (CX := L2.CX l.prog w) (ts := (TOf K l.prog D).map (·.1)) KX Gn GG.T.b GG.T.builtins GG.T.nolimit hgn (fun p hp => ?_) ho' hi (Nat.le_trans hlen (by decide)) hr (sp := spLaw K (GmOf K l.prog D ex)) (fun base Kb Nb => ?_) hb (fun H hH hS => ⟨ad, ns, rfl, hS, hlen, fun p hp => ?_, fun _ => rfl⟩) fun H e s' z => ?_
  · obtain ⟨p2, hp2, rfl⟩ := List.mem_map.mp hp
    obtain ⟨d, hd, rfl⟩ := List.mem_map.mp hp2
    have hq : (d.x, none) ∈ tfOf D := List.mem_map.mpr ⟨d, hd, rfl⟩
    exact ⟨c.empty _ hq, c.out _ hq, ((PySem.W.codeHd_of_K KX (c.hd _ hq)).tab (c.empty _ hq)).isCodeTable⟩
  · rw [← hps]
    obtain ⟨g1, g2⟩ := glob_of Kb Nb c hc hf hkw hfl ho hT
    obtain ⟨_, A⟩ := defAt_of (ex := ex) (List.mem_of_getElem? hl) F q2 q3.1 q4 Kb Nb c.hd m2 m3
    exact law_ok (def_ok g1 (fun _ => ⟨g2, saidG_of Kb Nb c hc ho hs, def_ok g2 fun z => nomatch z⟩) k lw dd _ fd dl.ps q1 A) hlaw
  · exact LamX.TabS.nil (hH _ (List.mem_map.mpr ⟨p, hp, rfl⟩))
  · obtain ⟨_, _, _, _, _, _, _, _, _, _, _, _, z⟩ := z
    exact z
end
end Mi

/-! Steps of the small language, with what is left to do as named functions (so that simp only walks forward). -/
namespace Mi
open PySem
section
variable (C : CallI)
def varO : Option Sl → Sto → Out W
  | some (.val w), s => .ok w s
  | _, _ => .no
def rdvO : Option Sl → Sto → Out W
  | some (.val w), s => .ok w s
  | some (.own w), s => .ok w s
  | _, _ => .no
theorem st_var (i : Nat) (env : Env) (s : Sto) : evalE C (.var i) env s = varO env[i]? s := by
  rw [evalE]
  cases env[i]? with
  | none => rfl
  | some u => cases u <;> rfl
theorem varO_val (w : W) (s : Sto) : varO (some (.val w)) s = .ok w s := nrfl rfl
theorem st_cst (w : W) (env : Env) (s : Sto) : evalE C (.cst w) env s = .ok w s := by rw [evalE]
/-- what is only read -/
def rdE' (a : Ex) (env : Env) (s : Sto) : Out W := rdv env a s (evalE C a env s)
theorem rd_var (i : Nat) (env : Env) (s : Sto) : rdE' C (.var i) env s = rdvO env[i]? s := by
  show (match env[i]? with | some (.own w) => Out.ok w s | _ => evalE C (.var i) env s) = _
  rw [st_var]
  cases env[i]? with
  | none => rfl
  | some u => cases u <;> rfl
theorem rdvO_val (w : W) (s : Sto) : rdvO (some (.val w)) s = .ok w s := nrfl rfl
theorem rdvO_own (w : W) (s : Sto) : rdvO (some (.own w)) s = .ok w s := nrfl rfl
def isV0 : Ex → Bool
  | .var _ => true
  | _ => false
theorem rd_ne {a : Ex} (h : isV0 a = false) (env : Env) (s : Sto) : rdE' C a env s = evalE C a env s := by
  unfold rdE' rdv
  cases a <;> first | rfl | cases h
/-! two operands -/
def kBin2 (o : Bop) (x y : W) (s : Sto) : Out W := .of (bop o x y) s
def kBin1 (o : Bop) (b : Ex) (env : Env) (x : W) (s : Sto) : Out W := (evalE C b env s).bind (kBin2 o x)
theorem st_bin (o : Bop) (a b : Ex) (env : Env) (s : Sto) : evalE C (.bin o a b) env s = (evalE C a env s).bind (kBin1 C o b env) := by rw [evalE]; rfl
theorem st_bin1 (o : Bop) (b : Ex) (env : Env) (x : W) (s : Sto) : kBin1 C o b env x s = (evalE C b env s).bind (kBin2 o x) := nrfl rfl
def kNeg (x : W) (s : Sto) : Out W := match x with
  | .int i => .ok (.int (-i)) s
  | _ => .no
theorem st_neg (a : Ex) (env : Env) (s : Sto) : evalE C (.neg a) env s = (evalE C a env s).bind kNeg := by rw [evalE]; rfl
def kB (b : Bool) (s : Sto) : Out W := .ok (.bl b) s
def kCmp2 (o : Cop) (x y : W) (s : Sto) : Out W := (Out.of (cmpV o x y) s).bind kB
def kCmp1 (o : Cop) (b : Ex) (env : Env) (x : W) (s : Sto) : Out W := (rdE' C b env s).bind (kCmp2 o x)
theorem st_cmp' (o : Cop) (a b : Ex) (env : Env) (s : Sto) : evalE C (.cmp o a b) env s = (rdE' C a env s).bind (kCmp1 C o b env) := by rw [evalE]; rfl
theorem st_cmp1 (o : Cop) (b : Ex) (env : Env) (x : W) (s : Sto) : kCmp1 C o b env x s = (rdE' C b env s).bind (kCmp2 o x) := nrfl rfl
theorem st_cmp2 (o : Cop) (x y : W) (s : Sto) : kCmp2 o x y s = (Out.of (cmpV o x y) s).bind kB := nrfl rfl
def kChain3 (p : Cop) (y : W) (z : W) (s : Sto) : Out W := match y, z with
  | .int j, .int k => .ok (.bl (cmpI p j k)) s
  | _, _ => .no
def kChain2 (o p : Cop) (c : Ex) (env : Env) (x y : W) (s : Sto) : Out W := match x, y with
  | .int i, .int j => if cmpI o i j then (evalE C c env s).bind (kChain3 p (.int j)) else .ok (.bl false) s
  | _, _ => .no
def kChain1 (o p : Cop) (b c : Ex) (env : Env) (x : W) (s : Sto) : Out W := (evalE C b env s).bind (kChain2 C o p c env x)
theorem st_chain' (o p : Cop) (a b c : Ex) (env : Env) (s : Sto) : evalE C (.chain o p a b c) env s = (evalE C a env s).bind (kChain1 C o p b c env) := by
  rw [evalE]
  congr 1
  funext x s
  unfold kChain1
  congr 1
  funext y s
  unfold kChain2
  cases x <;> try rfl
  cases y <;> try rfl
  simp only
  split
  · congr 1
    funext z s
    cases z <;> rfl
  · rfl
theorem st_chain1 (o p : Cop) (b c : Ex) (env : Env) (x : W) (s : Sto) : kChain1 C o p b c env x s = (evalE C b env s).bind (kChain2 C o p c env x) := nrfl rfl
theorem st_chain2 (o p : Cop) (c : Ex) (env : Env) (i j : Int) (s : Sto) : kChain2 C o p c env (.int i) (.int j) s = if cmpI o i j then (evalE C c env s).bind (kChain3 p (.int j)) else .ok (.bl false) s := nrfl rfl
theorem st_chain3 (p : Cop) (j k : Int) (s : Sto) : kChain3 p (.int j) (.int k) s = .ok (.bl (cmpI p j k)) s := nrfl rfl
def isNon : W → Bool
  | .non => true
  | _ => false
def kIsN (x : W) (s : Sto) : Out W := .ok (.bl (isNon x)) s
def kNotN (x : W) (s : Sto) : Out W := .ok (.bl (!isNon x)) s
theorem st_isN' (a : Ex) (env : Env) (s : Sto) : evalE C (.isN a) env s = (evalE C a env s).bind kIsN := by
  rw [evalE]
  congr 1
theorem st_notN' (a : Ex) (env : Env) (s : Sto) : evalE C (.notN a) env s = (evalE C a env s).bind kNotN := by
  rw [evalE]
  congr 1
  funext x s
  cases x <;> rfl
def kToB (y : W) (s : Sto) : Out W := (Out.of (toB y) s).bind kB
theorem kToB_bl (b : Bool) (s : Sto) : kToB (.bl b) s = .ok (.bl b) s := nrfl rfl
def kAnd (b : Ex) (env : Env) (x : W) (s : Sto) : Out W := match x with
  | .bl true => (evalE C b env s).bind kToB
  | .bl false => .ok (.bl false) s
  | _ => .no
theorem st_and (a b : Ex) (env : Env) (s : Sto) : evalE C (.and a b) env s = (evalE C a env s).bind (kAnd C b env) := by
  rw [evalE]
  congr 1
  funext x s
  cases x with
  | bl t => cases t <;> rfl
  | _ => rfl
theorem kAnd_t (b : Ex) (env : Env) (s : Sto) : kAnd C b env (.bl true) s = (evalE C b env s).bind kToB := nrfl rfl
theorem kAnd_f (b : Ex) (env : Env) (s : Sto) : kAnd C b env (.bl false) s = .ok (.bl false) s := nrfl rfl
def kOr (b : Ex) (env : Env) (x : W) (s : Sto) : Out W := match x with
  | .bl false => (evalE C b env s).bind kToB
  | .bl true => .ok (.bl true) s
  | _ => .no
theorem st_or (a b : Ex) (env : Env) (s : Sto) : evalE C (.or a b) env s = (evalE C a env s).bind (kOr C b env) := by
  rw [evalE]
  congr 1
  funext x s
  cases x with
  | bl t => cases t <;> rfl
  | _ => rfl
theorem kOr_t (b : Ex) (env : Env) (s : Sto) : kOr C b env (.bl true) s = .ok (.bl true) s := nrfl rfl
theorem kOr_f (b : Ex) (env : Env) (s : Sto) : kOr C b env (.bl false) s = (evalE C b env s).bind kToB := nrfl rfl
/-- where a test is not known yet -/
theorem kAnd_d (b : Ex) (env : Env) (p : Bool) (s : Sto) : kAnd C b env (.bl p) s = bif p then (evalE C b env s).bind kToB else .ok (.bl false) s := by cases p <;> rfl
theorem kOr_d (b : Ex) (env : Env) (p : Bool) (s : Sto) : kOr C b env (.bl p) s = bif p then .ok (.bl true) s else (evalE C b env s).bind kToB := by cases p <;> rfl
def kNot (x : W) (s : Sto) : Out W := match x with
  | .bl b => .ok (.bl (!b)) s
  | _ => .no
theorem kNot_bl (b : Bool) (s : Sto) : kNot (.bl b) s = .ok (.bl (!b)) s := nrfl rfl
theorem st_nt (a : Ex) (env : Env) (s : Sto) : evalE C (.not a) env s = (evalE C a env s).bind kNot := by
  rw [evalE]
  congr 1
  funext x s
  cases x <;> rfl
def kIte (a b : Ex) (env : Env) (x : W) (s : Sto) : Out W := match x with
  | .bl true => evalE C a env s
  | .bl false => evalE C b env s
  | _ => .no
theorem st_ite (c a b : Ex) (env : Env) (s : Sto) : evalE C (.ite c a b) env s = (evalE C c env s).bind (kIte C a b env) := by
  rw [evalE]
  congr 1
  funext x s
  cases x with
  | bl t => cases t <;> rfl
  | _ => rfl
theorem kIte_t (a b : Ex) (env : Env) (s : Sto) : kIte C a b env (.bl true) s = evalE C a env s := nrfl rfl
theorem kIte_f (a b : Ex) (env : Env) (s : Sto) : kIte C a b env (.bl false) s = evalE C b env s := nrfl rfl
theorem kIte_d (a b : Ex) (env : Env) (p : Bool) (s : Sto) : kIte C a b env (.bl p) s = bif p then evalE C a env s else evalE C b env s := by cases p <;> rfl
def kTup (l : List W) (s : Sto) : Out W := .ok (.tup l) s
def kLst (l : List W) (s : Sto) : Out W := .ok (.lst l) s
theorem st_tup (es : List Ex) (env : Env) (s : Sto) : evalE C (.tup es) env s = (evalL C es env s).bind kTup := by rw [evalE]; rfl
theorem st_lst (es : List Ex) (env : Env) (s : Sto) : evalE C (.lst es) env s = (evalL C es env s).bind kLst := by rw [evalE]; rfl
def kCall (f : Nat) (l : List W) (s : Sto) : Out W := C f l s
theorem st_call (f : Nat) (es : List Ex) (env : Env) (s : Sto) : evalE C (.call f es) env s = (evalL C es env s).bind (kCall C f) := by rw [evalE]; rfl
def kCallK (f : Nat) (pm : List Nat) (l : List W) (s : Sto) : Out W := bif decide (l.length = pm.length) then C f (permL pm l) s else .no
theorem st_callK (f : Nat) (pm : List Nat) (es : List Ex) (env : Env) (s : Sto) : evalE C (.callK f pm es) env s = (evalL C es env s).bind (kCallK C f pm) := by
  rw [evalE]
  congr 1
  funext l s
  unfold kCallK
  split
  · rename_i h; rw [decide_eq_true h]; rfl
  · rename_i h; rw [decide_eq_false h]; rfl
theorem kCallK_eq (f : Nat) (pm : List Nat) (l : List W) (s : Sto) : kCallK C f pm l s = bif decide (l.length = pm.length) then C f (permL pm l) s else .no := nrfl rfl
theorem permL_nil (l : List W) : permL [] l = [] := nrfl rfl
theorem permL_cons (i : Nat) (r : List Nat) (l : List W) : permL (i :: r) l = putO l[i]? (permL r l) := nrfl rfl
theorem putO_some (x : W) (r : List W) : putO (some x) r = x :: r := nrfl rfl
theorem kCall_eq (f : Nat) (l : List W) (s : Sto) : kCall C f l s = C f l s := nrfl rfl
def kBi (b : Bi) (l : List W) (s : Sto) : Out W := .of (biV s b l) s
theorem st_bi (b : Bi) (es : List Ex) (env : Env) (s : Sto) : evalE C (.bi b es) env s = (evalRs C es env s).bind (kBi b) := by rw [evalE]; rfl
theorem kBi_eq (b : Bi) (l : List W) (s : Sto) : kBi b l s = .of (biV s b l) s := nrfl rfl
def kIsin (t : Ty) (x : W) (s : Sto) : Out W := (Out.of (isTy t x) s).bind kB
theorem st_isin (e : Ex) (t : Ty) (env : Env) (s : Sto) : evalE C (.isin e t) env s = (evalE C e env s).bind (kIsin t) := by rw [evalE]; rfl
theorem kIsin_eq (t : Ty) (x : W) (s : Sto) : kIsin t x s = (Out.of (isTy t x) s).bind kB := nrfl rfl
def kIdx2 (x y : W) (s : Sto) : Out W := .of (idxV s x y) s
def kIdx1 (b : Ex) (env : Env) (x : W) (s : Sto) : Out W := (evalE C b env s).bind (kIdx2 x)
theorem st_idx (a b : Ex) (env : Env) (s : Sto) : evalE C (.idx a b) env s = (rdE' C a env s).bind (kIdx1 C b env) := by rw [evalE]; rfl
theorem st_idx1 (b : Ex) (env : Env) (x : W) (s : Sto) : kIdx1 C b env x s = (evalE C b env s).bind (kIdx2 x) := nrfl rfl
theorem st_idx2 (x y : W) (s : Sto) : kIdx2 x y s = .of (idxV s x y) s := nrfl rfl
def kSlc3 (x : W) (lo : Option Int) (bh : Bool) (z : W) (s : Sto) : Out W := (Out.of (partV bh z) s).bind fun hi s => .of (slcV x lo hi) s
def kSlc2 (x : W) (bl bh : Bool) (hi : Ex) (env : Env) (y : W) (s : Sto) : Out W := match partV bl y with
  | some lo => (bif bh then evalE C hi env s else .ok .non s).bind (kSlc3 x lo bh)
  | none => .no
def kSlc1 (bl : Bool) (lo : Ex) (bh : Bool) (hi : Ex) (env : Env) (x : W) (s : Sto) : Out W := (bif bl then evalE C lo env s else .ok .non s).bind (kSlc2 C x bl bh hi env)
theorem st_slc (a : Ex) (bl : Bool) (lo : Ex) (bh : Bool) (hi : Ex) (env : Env) (s : Sto) : evalE C (.slc a bl lo bh hi) env s = (rdE' C a env s).bind (kSlc1 C bl lo bh hi env) := by
  rw [evalE]
  congr 1
  funext x s
  unfold kSlc1
  cases bl <;> simp only [cond_true, cond_false, if_true, if_false, Bool.false_eq_true] <;> (
    congr 1
    funext y s
    unfold kSlc2
    cases partV _ y with
    | none => rfl
    | some lo => cases bh <;> simp only [cond_true, cond_false, if_true, if_false, Bool.false_eq_true] <;> rfl)
theorem st_slc1 (bl : Bool) (lo : Ex) (bh : Bool) (hi : Ex) (env : Env) (x : W) (s : Sto) : kSlc1 C bl lo bh hi env x s = (bif bl then evalE C lo env s else .ok .non s).bind (kSlc2 C x bl bh hi env) := nrfl rfl
theorem st_slc2i (x : W) (bh : Bool) (hi : Ex) (env : Env) (i : Int) (s : Sto) : kSlc2 C x true bh hi env (.int i) s = (bif bh then evalE C hi env s else .ok .non s).bind (kSlc3 x (some i) bh) := nrfl rfl
theorem st_slc2n (x : W) (bh : Bool) (hi : Ex) (env : Env) (s : Sto) : kSlc2 C x false bh hi env .non s = (bif bh then evalE C hi env s else .ok .non s).bind (kSlc3 x none bh) := nrfl rfl
theorem st_slc3i (x : W) (lo : Option Int) (i : Int) (s : Sto) : kSlc3 x lo true (.int i) s = .of (slcV x lo (some i)) s := nrfl rfl
theorem st_slc3n (x : W) (lo : Option Int) (s : Sto) : kSlc3 x lo false .non s = .of (slcV x lo none) s := nrfl rfl
def kRev (x : W) (s : Sto) : Out W := .of (revV x) s
theorem st_rev (a : Ex) (env : Env) (s : Sto) : evalE C (.rev a) env s = (rdE' C a env s).bind kRev := by rw [evalE]; rfl
theorem kRev_eq (x : W) (s : Sto) : kRev x s = .of (revV x) s := nrfl rfl
def kAddL2 (x y : W) (s : Sto) : Out W := match x, y with
  | .lst l, .lst r => if l.length + r.length ≤ lim then .ok (.lst (l ++ r)) s else .no
  | _, _ => .no
def kAddL1 (b : Ex) (env : Env) (x : W) (s : Sto) : Out W := (rdE' C b env s).bind (kAddL2 x)
theorem st_addL (a b : Ex) (env : Env) (s : Sto) : evalE C (.addL a b) env s = (rdE' C a env s).bind (kAddL1 C b env) := by
  rw [evalE]
  congr 1
theorem st_addL1 (b : Ex) (env : Env) (x : W) (s : Sto) : kAddL1 C b env x s = (rdE' C b env s).bind (kAddL2 x) := nrfl rfl
theorem st_addL2 (l r : List W) (s : Sto) : kAddL2 (.lst l) (.lst r) s = if l.length + r.length ≤ lim then .ok (.lst (l ++ r)) s else .no := nrfl rfl
def kMulL2 (x y : W) (s : Sto) : Out W := match x, y with
  | .lst l, .int n => if 0 ≤ n ∧ n ≤ 1000 ∧ l.length ≤ 1000 then .ok (.lst (List.replicate n.toNat l).flatten) s else .no
  | _, _ => .no
def kMulL1 (b : Ex) (env : Env) (x : W) (s : Sto) : Out W := (evalE C b env s).bind (kMulL2 x)
theorem st_mulL (a b : Ex) (env : Env) (s : Sto) : evalE C (.mulL a b) env s = (evalE C a env s).bind (kMulL1 C b env) := by
  rw [evalE]
  congr 1
theorem st_mulL1 (b : Ex) (env : Env) (x : W) (s : Sto) : kMulL1 C b env x s = (evalE C b env s).bind (kMulL2 x) := nrfl rfl
theorem st_mulL2 (l : List W) (n : Int) (s : Sto) : kMulL2 (.lst l) (.int n) s = if 0 ≤ n ∧ n ≤ 1000 ∧ l.length ≤ 1000 then .ok (.lst (List.replicate n.toNat l).flatten) s else .no := nrfl rfl
def kTru (x : W) (s : Sto) : Out W := (Out.of (toT x) s).bind kB
theorem st_tru' (a : Ex) (env : Env) (s : Sto) : evalE C (.tru a) env s = (rdE' C a env s).bind kTru := by rw [evalE]; rfl
theorem kTru_bl (b : Bool) (s : Sto) : kTru (.bl b) s = .ok (.bl b) s := nrfl rfl
theorem kTru_lst (l : List W) (s : Sto) : kTru (.lst l) s = .ok (.bl (!l.isEmpty)) s := nrfl rfl
def kDsp (l : List W) (s : Sto) : Out W := .of (dspV l) s
theorem st_dsp (es : List Ex) (env : Env) (s : Sto) : evalE C (.dsp es) env s = (evalL C es env s).bind kDsp := by rw [evalE]; rfl
theorem kDsp_eq (l : List W) (s : Sto) : kDsp l s = .of (dspV l) s := nrfl rfl
/-! a comprehension: what one turn does, all of them -/
def kSome (v : W) (s : Sto) : Out (Option W) := .ok (some v) s
def kTst (elt : Ex) (env : Env) (t : Bool) (s : Sto) : Out (Option W) := bif t then (evalE C elt env s).bind kSome else .ok none s
def turn (elt : Ex) (cs : List Ex) : Option Env → Sto → Out (Option W)
  | some env, s => (evalC C cs env s).bind (kTst C elt env)
  | none, _ => .no
def cBdy (vs : List Nat) (elt : Ex) (tg : Tg) (cs : List Ex) (env : Env) (w : W) (s : Sto) : Out (Option W) := turn C elt cs (bindTg tg w (wipeE env vs)) s
def kComp2 (vs : List Nat) (elt : Ex) (tg : Tg) (cs : List Ex) (env : Env) (l : List W) (s : Sto) : Out W := if l.length ≤ lim then (noEx (compL (cBdy C vs elt tg cs env) l s)).bind kLst else .no
def kComp1 (vs : List Nat) (elt : Ex) (tg : Tg) (cs : List Ex) (env : Env) (x : W) (s : Sto) : Out W := match seqOf x with
  | some l => kComp2 C vs elt tg cs env l s
  | none => .no
theorem st_comp (vs : List Nat) (elt : Ex) (tg : Tg) (it : Ex) (cs : List Ex) (env : Env) (s : Sto) : evalE C (.comp vs elt tg it cs) env s = (rdE' C it env s).bind (kComp1 C vs elt tg cs env) := by
  rw [evalE]
  congr 1
  funext x s
  unfold kComp1
  cases seqOf x with
  | none => rfl
  | some l =>
    show (if l.length ≤ lim then _ else _) = kComp2 C vs elt tg cs env l s
    unfold kComp2
    split
    · show Out.bind (noEx (compL _ l s)) _ = Out.bind (noEx (compL _ l s)) _
      have e : (fun w s => (Out.of (bindTg tg w (wipeE env vs)) s).bind fun env s => (evalC C cs env s).bind fun t s => if t then (evalE C elt env s).bind fun v s => .ok (some v) s else .ok none s) = cBdy C vs elt tg cs env := by
        funext w s
        unfold cBdy
        cases bindTg tg w (wipeE env vs) with
        | none => rfl
        | some env =>
          show (evalC C cs env s).bind _ = (evalC C cs env s).bind _
          congr 1
          funext t s
          cases t <;> rfl
      rw [e]
      rfl
    · rfl
theorem kComp1_some {x : W} {l : List W} (h : seqOf x = some l) (vs : List Nat) (elt : Ex) (tg : Tg) (cs : List Ex) (env : Env) (s : Sto) : kComp1 C vs elt tg cs env x s = kComp2 C vs elt tg cs env l s := by
  unfold kComp1
  rw [h]
theorem compL_map {body : W → Sto → Out (Option W)} {g : W → W} : ∀ {l : List W} {s : Sto}, (∀ x ∈ l, body x s = .ok (some (g x)) s) → compL body l s = .ok (l.map g) s
  | [], s, _ => rfl
  | x :: r, s, h => by
    unfold compL
    rw [h x (List.mem_cons_self ..), Out.bind_ok, compL_map fun y hy => h y (List.mem_cons_of_mem _ hy)]
    rfl
theorem compL_filterMap {body : W → Sto → Out (Option W)} {g : W → Option W} : ∀ {l : List W} {s : Sto}, (∀ x ∈ l, body x s = .ok (g x) s) → compL body l s = .ok (l.filterMap g) s
  | [], s, _ => rfl
  | x :: r, s, h => by
    unfold compL
    rw [h x (List.mem_cons_self ..), Out.bind_ok, compL_filterMap fun y hy => h y (List.mem_cons_of_mem _ hy), Out.bind_ok, List.filterMap_cons]
    cases g x <;> rfl
theorem kComp2_map {vs : List Nat} {elt : Ex} {tg : Tg} {cs : List Ex} {env : Env} {l : List W} {s : Sto} {g : W → W} (hl : l.length ≤ lim) (h : ∀ x ∈ l, cBdy C vs elt tg cs env x s = .ok (some (g x)) s) : kComp2 C vs elt tg cs env l s = .ok (.lst (l.map g)) s := by
  unfold kComp2
  rw [if_pos hl, compL_map h]
  rfl
theorem kComp2_filterMap {vs : List Nat} {elt : Ex} {tg : Tg} {cs : List Ex} {env : Env} {l : List W} {s : Sto} {g : W → Option W} (hl : l.length ≤ lim) (h : ∀ x ∈ l, cBdy C vs elt tg cs env x s = .ok (g x) s) : kComp2 C vs elt tg cs env l s = .ok (.lst (l.filterMap g)) s := by
  unfold kComp2
  rw [if_pos hl, compL_filterMap h]
  rfl
theorem cBdy_eq (vs : List Nat) (elt : Ex) (tg : Tg) (cs : List Ex) (env : Env) (w : W) (s : Sto) : cBdy C vs elt tg cs env w s = turn C elt cs (bindTg tg w (wipeE env vs)) s := nrfl rfl
theorem turn_some (elt : Ex) (cs : List Ex) (env : Env) (s : Sto) : turn C elt cs (some env) s = (evalC C cs env s).bind (kTst C elt env) := nrfl rfl
theorem kTst_t (elt : Ex) (env : Env) (s : Sto) : kTst C elt env true s = (evalE C elt env s).bind kSome := nrfl rfl
theorem kTst_f (elt : Ex) (env : Env) (s : Sto) : kTst C elt env false s = .ok none s := nrfl rfl
theorem kTst_d (elt : Ex) (env : Env) (t : Bool) (s : Sto) : kTst C elt env t s = bif t then (evalE C elt env s).bind kSome else .ok none s := nrfl rfl
theorem kSome_eq (v : W) (s : Sto) : kSome v s = .ok (some v) s := nrfl rfl
theorem kLst_eq (l : List W) (s : Sto) : kLst l s = .ok (.lst l) s := nrfl rfl
theorem kTup_eq (l : List W) (s : Sto) : kTup l s = .ok (.tup l) s := nrfl rfl
theorem kB_eq (b : Bool) (s : Sto) : kB b s = .ok (.bl b) s := nrfl rfl
/-! walks -/
def rangeL (i j : Int) : List W := (List.range (j - i).toNat).map fun (k : Nat) => W.int (i + (k : Int))
def kRange2 (x y : W) (s : Sto) : Out W := match x, y with
  | .int i, .int j => if wir i ∧ wir j then .ok (.lst (rangeL i j)) s else .no
  | _, _ => .no
def kRange1 (b : Ex) (env : Env) (x : W) (s : Sto) : Out W := (evalE C b env s).bind (kRange2 x)
theorem st_range (a b : Ex) (env : Env) (s : Sto) : evalE C (.range a b) env s = (evalE C a env s).bind (kRange1 C b env) := by
  rw [evalE]
  congr 1
theorem st_range1 (b : Ex) (env : Env) (x : W) (s : Sto) : kRange1 C b env x s = (evalE C b env s).bind (kRange2 x) := nrfl rfl
theorem st_range2 {i j : Int} (s : Sto) (h : -4611686018427387904 ≤ i ∧ i < 4611686018427387904) (h2 : -4611686018427387904 ≤ j ∧ j < 4611686018427387904) : kRange2 (.int i) (.int j) s = .ok (.lst (rangeL i j)) s := by
  unfold kRange2
  exact if_pos ⟨decide_eq_true h, decide_eq_true h2⟩
def enumL (l : List W) : List W := l.zipIdx.map fun p => .tup [.int p.2, p.1]
def kEnum (x : W) (s : Sto) : Out W := match x with
  | .lst l => .ok (.lst (enumL l)) s
  | .tup l => .ok (.lst (enumL l)) s
  | _ => .no
theorem st_enum (a : Ex) (env : Env) (s : Sto) : evalE C (.enum a) env s = (evalE C a env s).bind kEnum := by
  rw [evalE]
  congr 1
theorem kEnum_t (l : List W) (s : Sto) : kEnum (.tup l) s = .ok (.lst (enumL l)) s := nrfl rfl
theorem kEnum_l (l : List W) (s : Sto) : kEnum (.lst l) s = .ok (.lst (enumL l)) s := nrfl rfl
def zipL (l r : List W) : List W := List.zipWith (fun x y => .tup [x, y]) l r
def kZip2 (x y : W) (s : Sto) : Out W := match x, y with
  | .lst l, .lst r => .ok (.lst (zipL l r)) s
  | .tup l, .tup r => .ok (.lst (zipL l r)) s
  | _, _ => .no
def kZip1 (b : Ex) (env : Env) (x : W) (s : Sto) : Out W := (evalE C b env s).bind (kZip2 x)
theorem st_zip (a b : Ex) (env : Env) (s : Sto) : evalE C (.zip a b) env s = (evalE C a env s).bind (kZip1 C b env) := by
  rw [evalE]
  congr 1
theorem st_zip1 (b : Ex) (env : Env) (x : W) (s : Sto) : kZip1 C b env x s = (evalE C b env s).bind (kZip2 x) := nrfl rfl
theorem kZip2_t (l r : List W) (s : Sto) : kZip2 (.tup l) (.tup r) s = .ok (.lst (zipL l r)) s := nrfl rfl
theorem kZip2_l (l r : List W) (s : Sto) : kZip2 (.lst l) (.lst r) s = .ok (.lst (zipL l r)) s := nrfl rfl
/-! lists of expressions -/
def kCons (x : W) (r : List W) (s : Sto) : Out (List W) := .ok (x :: r) s
def kL (es : List Ex) (env : Env) (x : W) (s : Sto) : Out (List W) := (evalL C es env s).bind (kCons x)
theorem st_nil (env : Env) (s : Sto) : evalL C [] env s = .ok [] s := by rw [evalL]
def isStar0 : Ex → Bool
  | .star _ => true
  | _ => false
theorem st_cons {e : Ex} (h : isStar0 e = false) (es : List Ex) (env : Env) (s : Sto) : evalL C (e :: es) env s = (evalE C e env s).bind (kL C es env) := by
  cases e <;> first | (exact Bool.noConfusion h) | (rw [evalL] <;> first | rfl | (intro e h; cases h; done))
theorem kL_eq (es : List Ex) (env : Env) (x : W) (s : Sto) : kL C es env x s = (evalL C es env s).bind (kCons x) := nrfl rfl
theorem kCons_eq (x : W) (r : List W) (s : Sto) : kCons x r s = .ok (x :: r) s := nrfl rfl
def kStar2 (l r : List W) (s : Sto) : Out (List W) := if l.length + r.length ≤ lim then .ok (l ++ r) s else .no
def kStar (es : List Ex) (env : Env) (x : W) (s : Sto) : Out (List W) := match x with
  | .tup l => (evalL C es env s).bind (kStar2 l)
  | _ => .no
theorem st_star (e : Ex) (es : List Ex) (env : Env) (s : Sto) : evalL C (.star e :: es) env s = (evalE C e env s).bind (kStar C es env) := by
  rw [evalL]
  congr 1
theorem kStar_eq (es : List Ex) (env : Env) (l : List W) (s : Sto) : kStar C es env (.tup l) s = (evalL C es env s).bind (kStar2 l) := nrfl rfl
theorem kStar2_eq (l r : List W) (s : Sto) : kStar2 l r s = if l.length + r.length ≤ lim then .ok (l ++ r) s else .no := nrfl rfl
def kRs (es : List Ex) (env : Env) (x : W) (s : Sto) : Out (List W) := (evalRs C es env s).bind (kCons x)
theorem st_rnil (env : Env) (s : Sto) : evalRs C [] env s = .ok [] s := by rw [evalRs]
theorem st_rcons (e : Ex) (es : List Ex) (env : Env) (s : Sto) : evalRs C (e :: es) env s = (rdE' C e env s).bind (kRs C es env) := by rw [evalRs]; rfl
theorem kRs_eq (es : List Ex) (env : Env) (x : W) (s : Sto) : kRs C es env x s = (evalRs C es env s).bind (kCons x) := nrfl rfl
def kPs (es : List Ex) (env : Env) (x : W) (s : Sto) : Out (List W) := (evalP C es env s).bind (kCons x)
theorem st_pnil (env : Env) (s : Sto) : evalP C [] env s = .ok [] s := by rw [evalP]
theorem st_pcons (e : Ex) (es : List Ex) (env : Env) (s : Sto) : evalP C (e :: es) env s = (evalE C e env s).bind (kPs C es env) := by rw [evalP]; rfl
theorem kPs_eq (es : List Ex) (env : Env) (x : W) (s : Sto) : kPs C es env x s = (evalP C es env s).bind (kCons x) := nrfl rfl
def kC (es : List Ex) (env : Env) (x : W) (s : Sto) : Out Bool := match x with
  | .bl true => evalC C es env s
  | .bl false => .ok false s
  | _ => .no
theorem st_cnil (env : Env) (s : Sto) : evalC C [] env s = .ok true s := by rw [evalC]
theorem st_ccons (e : Ex) (es : List Ex) (env : Env) (s : Sto) : evalC C (e :: es) env s = (evalE C e env s).bind (kC C es env) := by
  rw [evalC]
  congr 1
  funext x s
  cases x with
  | bl t => cases t <;> rfl
  | _ => rfl
theorem kC_t (es : List Ex) (env : Env) (s : Sto) : kC C es env (.bl true) s = evalC C es env s := nrfl rfl
theorem kC_f (es : List Ex) (env : Env) (s : Sto) : kC C es env (.bl false) s = .ok false s := nrfl rfl
theorem kC_last (env : Env) (p : Bool) (s : Sto) : kC C [] env (.bl p) s = .ok p s := by
  cases p
  · rfl
  · exact st_cnil C env s
end
end Mi

/-! Steps of statements; what a run gives (Tr); loops. -/
namespace Mi
open PySem
section
variable (C : CallI)
/-- the rest of a block -/
def kS (r : List Sm) : Fl → Sto → Out Fl
  | .nx env, s => execs C r env s
  | f, s => .ok f s
theorem kS_nx (r : List Sm) (env : Env) (s : Sto) : kS C r (.nx env) s = execs C r env s := nrfl rfl
theorem kS_rt (r : List Sm) (w : W) (s : Sto) : kS C r (.rt w) s = .ok (.rt w) s := nrfl rfl
theorem kS_ct (r : List Sm) (env : Env) (s : Sto) : kS C r (.ct env) s = .ok (.ct env) s := nrfl rfl
theorem sx_nil (env : Env) (s : Sto) : execs C [] env s = .ok (.nx env) s := by rw [execs]
theorem sx_cons (st : Sm) (r : List Sm) (env : Env) (s : Sto) : execs C (st :: r) env s = (exec C st env s).bind (kS C r) := by
  rw [execs]
  congr 1
  funext f s
  cases f <;> rfl
def kBound (o : Option Env) (s : Sto) : Out Fl := match o with
  | some env => .ok (.nx env) s
  | none => .no
theorem kBound_some (env : Env) (s : Sto) : kBound (some env) s = .ok (.nx env) s := nrfl rfl
def kAsg (t : Tg) (env : Env) (w : W) (s : Sto) : Out Fl := kBound (bindTg t w env) s
theorem sx_asg (t : Tg) (e : Ex) (env : Env) (s : Sto) : exec C (.asg t e) env s = (evalE C e env s).bind (kAsg t env) := by
  rw [exec]
  congr 1
  funext w s
  unfold kAsg
  cases bindTg t w env <;> rfl
theorem kAsg_nm (i : Nat) (env : Env) (w : W) (s : Sto) : kAsg (.nm i) env w s = .ok (.nx (env.set i (.val w))) s := by
  unfold kAsg
  rw [bindTg]
  rfl
theorem kAsg_tup (ts : List Tg) (env : Env) (ws : List W) (s : Sto) : kAsg (.tup ts) env (.tup ws) s = kBound (bindTgs ts ws env) s := by
  unfold kAsg
  rw [bindTg]
theorem bindTg_nm (i : Nat) (w : W) (env : Env) : bindTg (.nm i) w env = some (env.set i (.val w)) := by rw [bindTg]
theorem bindTg_tup (ts : List Tg) (ws : List W) (env : Env) : bindTg (.tup ts) (.tup ws) env = bindTgs ts ws env := by rw [bindTg]
theorem bindTgs_nil (env : Env) : bindTgs [] [] env = some env := by rw [bindTgs]
theorem bindTgs_cons (t : Tg) (ts : List Tg) (w : W) (ws : List W) (env : Env) : bindTgs (t :: ts) (w :: ws) env = (bindTg t w env).bind (bindTgs ts ws) := by rw [bindTgs]
def kAsgN (i : Nat) (env : Env) (w : W) (s : Sto) : Out Fl := .ok (.nx (env.set i (.own w))) s
theorem sx_asgN (i : Nat) (e : Ex) (env : Env) (s : Sto) : exec C (.asgN i e) env s = (evalE C e env s).bind (kAsgN i env) := by rw [exec]; rfl
theorem kAsgN_eq (i : Nat) (env : Env) (w : W) (s : Sto) : kAsgN i env w s = .ok (.nx (env.set i (.own w))) s := nrfl rfl
def kPar (fs : List Bool) (is : List Nat) (env : Env) (ws : List W) (s : Sto) : Out Fl := kBound (sets fs is ws env) s
theorem ss_par (fs : List Bool) (is : List Nat) (es : List Ex) (env : Env) (s : Sto) : exec C (.par fs is es) env s = (evalP C es env s).bind (kPar fs is env) := by
  rw [exec]
  congr 1
  funext w s
  unfold kPar
  cases sets fs is w env <;> rfl
theorem kPar_eq (fs : List Bool) (is : List Nat) (env : Env) (ws : List W) (s : Sto) : kPar fs is env ws s = kBound (sets fs is ws env) s := nrfl rfl
theorem sets_nil (env : Env) : sets [] [] [] env = some env := nrfl rfl
theorem sets_f (fs : List Bool) (i : Nat) (is : List Nat) (w : W) (ws : List W) (env : Env) : sets (false :: fs) (i :: is) (w :: ws) env = sets fs is ws (env.set i (.val w)) := nrfl rfl
theorem sets_t (fs : List Bool) (i : Nat) (is : List Nat) (w : W) (ws : List W) (env : Env) : sets (true :: fs) (i :: is) (w :: ws) env = sets fs is ws (env.set i (.own w)) := nrfl rfl
def kRet (w : W) (s : Sto) : Out Fl := .ok (.rt w) s
theorem sx_ret (e : Ex) (env : Env) (s : Sto) : exec C (.ret e) env s = (evalE C e env s).bind kRet := by rw [exec]; rfl
theorem kRet_eq (w : W) (s : Sto) : kRet w s = .ok (.rt w) s := nrfl rfl
theorem sx_retN (env : Env) (s : Sto) : exec C .retN env s = .ok (.rt .non) s := by rw [exec]
def kRetK (l : List W) (s : Sto) : Out Fl := if flats l then .ok (.rt (.ref s.length)) (s ++ [l]) else .no
theorem sx_retK (es : List Ex) (env : Env) (s : Sto) : exec C (.retK es) env s = (evalL C es env s).bind kRetK := by rw [exec]; rfl
theorem kRetK_eq (l : List W) (s : Sto) : kRetK l s = if flats l then .ok (.rt (.ref s.length)) (s ++ [l]) else .no := nrfl rfl
def kIfs (a b : List Sm) (env : Env) (x : W) (s : Sto) : Out Fl := match x with
  | .bl true => execs C a env s
  | .bl false => execs C b env s
  | _ => .no
theorem ss_ifs (c : Ex) (a b : List Sm) (env : Env) (s : Sto) : exec C (.ifs c a b) env s = (evalE C c env s).bind (kIfs C a b env) := by
  rw [exec]
  congr 1
  funext x s
  cases x with
  | bl t => cases t <;> rfl
  | _ => rfl
theorem kIfs_t (a b : List Sm) (env : Env) (s : Sto) : kIfs C a b env (.bl true) s = execs C a env s := nrfl rfl
theorem kIfs_f (a b : List Sm) (env : Env) (s : Sto) : kIfs C a b env (.bl false) s = execs C b env s := nrfl rfl
def kLoop (t : Tg) (b : List Sm) (env : Env) (l : List W) (s : Sto) : Out Fl := forL (bindTg t) (execs C b) l env s
def kFor (t : Tg) (b : List Sm) (env : Env) (x : W) (s : Sto) : Out Fl := match seqOf x with
  | some l => kLoop C t b env l s
  | none => .no
theorem sx_for (t : Tg) (it : Ex) (b : List Sm) (env : Env) (s : Sto) : exec C (.for_ t it b) env s = (evalE C it env s).bind (kFor C t b env) := by
  rw [exec]
  congr 1
  funext x s
  unfold kFor
  cases seqOf x <;> rfl
theorem kFor_lst (t : Tg) (b : List Sm) (env : Env) (l : List W) (s : Sto) : kFor C t b env (.lst l) s = kLoop C t b env l s := nrfl rfl
theorem kFor_tup (t : Tg) (b : List Sm) (env : Env) (l : List W) (s : Sto) : kFor C t b env (.tup l) s = kLoop C t b env l s := nrfl rfl
def kTB (x : W) (s : Sto) : Out Bool := .of (toB x) s
def wTst (c : Ex) (env : Env) (s : Sto) : Out Bool := (evalE C c env s).bind kTB
theorem sx_whl (c : Ex) (b : List Sm) (env : Env) (s : Sto) : exec C (.whl c b) env s = whlN (wTst C c) (execs C b) turns env s := by rw [exec]; rfl
/-! lists of one's own -/
def kAppO (i : Nat) (l : List W) (env : Env) (w : W) (s : Sto) : Out Fl := if l.length < lim then .ok (.nx (env.set i (.own (.lst (l ++ [w]))))) s else .no
theorem ss_app_own {i : Nat} {env : Env} {l : List W} (h : env[i]? = some (.own (.lst l))) (e : Ex) (s : Sto) : exec C (.app i e) env s = (evalE C e env s).bind (kAppO i l env) := by
  rw [exec, h]
  rfl
theorem kAppO_ok {i : Nat} {l : List W} {env : Env} {w : W} {s : Sto} (h : l.length < lim) : kAppO i l env w s = .ok (.nx (env.set i (.own (.lst (l ++ [w]))))) s := if_pos h
def kStsO (i : Nat) (k : Ex) (env : Env) (l : List W) (w : W) (s : Sto) : Out Fl := (evalE C k env s).bind fun x s => match x with
  | .int x => kBound ((L2.ixN l.length x).map fun j => env.set i (.own (.lst (l.set j w)))) s
  | _ => .no
theorem ss_sts_own {i : Nat} {env : Env} {l : List W} (h : env[i]? = some (.own (.lst l))) (k e : Ex) (s : Sto) : exec C (.sts i k e) env s = (evalE C e env s).bind (kStsO C i k env l) := by
  rw [exec]
  congr 1
  funext w s
  rw [h]
  show (evalE C k env s).bind _ = (evalE C k env s).bind _
  congr 1
  funext x s
  cases x <;> try rfl
  show (Out.of (L2.ixN l.length _) s).bind _ = kBound ((L2.ixN l.length _).map _) s
  cases L2.ixN l.length _ <;> rfl
/-! the pen: the store's n-th list -/
def kStsR2 (n : Nat) (env : Env) (w : W) (x : W) (s : Sto) : Out Fl := match x, s[n]? with
  | .int x, some l => if flat w then (Out.of (L2.ixN l.length x) s).bind fun j s => .ok (.nx env) (s.set n (l.set j w)) else .no
  | _, _ => .no
def kStsR (n : Nat) (k : Ex) (env : Env) (w : W) (s : Sto) : Out Fl := (evalE C k env s).bind (kStsR2 n env w)
theorem ss_sts_ref {i n : Nat} {env : Env} (h : env[i]? = some (.val (.ref n))) (k e : Ex) (s : Sto) : exec C (.sts i k e) env s = (evalE C e env s).bind (kStsR C n k env) := by
  rw [exec]
  congr 1
  funext w s
  rw [h]
  show (evalE C k env s).bind _ = (evalE C k env s).bind _
  congr 1
theorem kStsR_eq (n : Nat) (k : Ex) (env : Env) (w : W) (s : Sto) : kStsR C n k env w s = (evalE C k env s).bind (kStsR2 n env w) := nrfl rfl
/-! dicts of one's own -/
def kPut (i : Nat) (env : Env) (n : Nat) (o : Option (List W × List W)) (s : Sto) : Out Fl := match o with
  | some p => if n < lim then .ok (.nx (env.set i (.own (.map p.1 p.2)))) s else .no
  | none => .no
theorem kPut_ok {i : Nat} {env : Env} {n : Nat} {ks vs : List W} {s : Sto} (h : n < lim) : kPut i env n (some (ks, vs)) s = .ok (.nx (env.set i (.own (.map ks vs)))) s := if_pos h
def kStsM2 (i : Nat) (env : Env) (ks vs : List W) (w x : W) (s : Sto) : Out Fl := kPut i env ks.length (putD ks vs x w) s
theorem kStsM2_eq (i : Nat) (env : Env) (ks vs : List W) (w x : W) (s : Sto) : kStsM2 i env ks vs w x s = kPut i env ks.length (putD ks vs x w) s := nrfl rfl
def kStsM (i : Nat) (k : Ex) (env : Env) (ks vs : List W) (w : W) (s : Sto) : Out Fl := (evalE C k env s).bind (kStsM2 i env ks vs w)
theorem kStsM_eq (i : Nat) (k : Ex) (env : Env) (ks vs : List W) (w : W) (s : Sto) : kStsM C i k env ks vs w s = (evalE C k env s).bind (kStsM2 i env ks vs w) := nrfl rfl
theorem ss_sts_map {i : Nat} {env : Env} {ks vs : List W} (h : env[i]? = some (.own (.map ks vs))) (k e : Ex) (s : Sto) : exec C (.sts i k e) env s = (evalE C e env s).bind (kStsM C i k env ks vs) := by
  rw [exec]
  congr 1
  funext w s
  rw [h]
  show (evalE C k env s).bind _ = (evalE C k env s).bind _
  congr 1
  funext x s
  unfold kStsM2 kPut
  cases putD ks vs x w <;> rfl
def kSts (i : Nat) (k : Ex) (env : Env) (o : Option Sl) (w : W) (s : Sto) : Out Fl := match o with
  | some (.own (.map ks vs)) => kStsM C i k env ks vs w s
  | some (.own (.lst l)) => kStsO C i k env l w s
  | some (.val (.ref n)) => kStsR C n k env w s
  | _ => .no
theorem sx_sts (i : Nat) (k e : Ex) (env : Env) (s : Sto) : exec C (.sts i k e) env s = (evalE C e env s).bind (kSts C i k env env[i]?) := by
  cases h : env[i]? with
  | none =>
    rw [exec, h]
    congr 1
  | some u =>
    cases u with
    | emp =>
      rw [exec, h]
      congr 1
    | own w =>
      cases w with
      | lst l => exact ss_sts_own C h k e s
      | map ks vs => exact ss_sts_map C h k e s
      | _ =>
        rw [exec, h]
        congr 1
    | val w =>
      cases w with
      | ref n => exact ss_sts_ref C h k e s
      | _ =>
        rw [exec, h]
        congr 1
theorem kSts_own (i : Nat) (k : Ex) (env : Env) (l : List W) (w : W) (s : Sto) : kSts C i k env (some (.own (.lst l))) w s = kStsO C i k env l w s := nrfl rfl
theorem kSts_ref (i : Nat) (k : Ex) (env : Env) (n : Nat) (w : W) (s : Sto) : kSts C i k env (some (.val (.ref n))) w s = kStsR C n k env w s := nrfl rfl
theorem kSts_map (i : Nat) (k : Ex) (env : Env) (ks vs : List W) (w : W) (s : Sto) : kSts C i k env (some (.own (.map ks vs))) w s = kStsM C i k env ks vs w s := nrfl rfl
def kSet (n : Nat) (env : Env) (w : W) (l : List W) (o : Option Nat) (s : Sto) : Out Fl := match o with
  | some j => .ok (.nx env) (s.set n (l.set j w))
  | none => .no
theorem kSet_some (n : Nat) (env : Env) (w : W) (l : List W) (j : Nat) (s : Sto) : kSet n env w l (some j) s = .ok (.nx env) (s.set n (l.set j w)) := nrfl rfl
def kSet0 (n : Nat) (env : Env) (w : W) (x : Int) (o : Option (List W)) (s : Sto) : Out Fl := match o with
  | some l => bif flat w then kSet n env w l (L2.ixN l.length x) s else .no
  | none => .no
theorem kSet0_some (n : Nat) (env : Env) (w : W) (x : Int) (l : List W) (s : Sto) : kSet0 n env w x (some l) s = bif flat w then kSet n env w l (L2.ixN l.length x) s else .no := nrfl rfl
theorem kStsR2_eq (n : Nat) (env : Env) (w : W) (x : Int) (s : Sto) : kStsR2 n env w (.int x) s = kSet0 n env w x s[n]? s := by
  unfold kStsR2 kSet0
  cases s[n]? with
  | none => rfl
  | some l =>
    show (if flat w = true then _ else _) = _
    cases flat w with
    | false => rfl
    | true =>
      show (Out.of (L2.ixN l.length x) s).bind _ = kSet n env w l (L2.ixN l.length x) s
      cases L2.ixN l.length x <;> rfl
def kApp (i : Nat) (e : Ex) (env : Env) (o : Option Sl) (s : Sto) : Out Fl := match o with
  | some (.own (.lst l)) => (evalE C e env s).bind (kAppO i l env)
  | _ => exec C (.app i e) env s
theorem sx_app (i : Nat) (e : Ex) (env : Env) (s : Sto) : exec C (.app i e) env s = kApp C i e env env[i]? s := by
  cases h : env[i]? with
  | none => rfl
  | some u =>
    cases u with
    | own w =>
      cases w with
      | lst l => exact ss_app_own C h e s
      | _ => rfl
    | _ => rfl
theorem kApp_own (i : Nat) (e : Ex) (env : Env) (l : List W) (s : Sto) : kApp C i e env (some (.own (.lst l))) s = (evalE C e env s).bind (kAppO i l env) := nrfl rfl
def kExtO (i : Nat) (l : List W) (env : Env) (w : W) (s : Sto) : Out Fl := match w with
  | .lst r => if l.length + r.length ≤ lim then .ok (.nx (env.set i (.own (.lst (l ++ r))))) s else .no
  | _ => .no
theorem kExtO_ok {i : Nat} {l r : List W} {env : Env} {s : Sto} (h : l.length + r.length ≤ lim) : kExtO i l env (.lst r) s = .ok (.nx (env.set i (.own (.lst (l ++ r))))) s := if_pos h
def kExt (i : Nat) (e : Ex) (env : Env) (o : Option Sl) (s : Sto) : Out Fl := match o with
  | some (.own (.lst l)) => (evalE C e env s).bind (kExtO i l env)
  | _ => exec C (.ext i e) env s
theorem sx_ext (i : Nat) (e : Ex) (env : Env) (s : Sto) : exec C (.ext i e) env s = kExt C i e env env[i]? s := by
  cases h : env[i]? with
  | none => rfl
  | some u =>
    cases u with
    | own w =>
      cases w with
      | lst l =>
        rw [exec, h]
        show (evalE C e env s).bind _ = (evalE C e env s).bind _
        congr 1
      | _ => rfl
    | _ => rfl
theorem kExt_own (i : Nat) (e : Ex) (env : Env) (l : List W) (s : Sto) : kExt C i e env (some (.own (.lst l))) s = (evalE C e env s).bind (kExtO i l env) := nrfl rfl
/-! dicts read -/
theorem st_mp0 (env : Env) (s : Sto) : evalE C .mp0 env s = .ok (.map [] []) s := by rw [evalE]
def kMp2 (x y : W) (s : Sto) : Out W := match keyD x with
  | some _ => if isTupW x then .ok (.map [x] [y]) s else .no
  | none => .no
def kMp1 (v : Ex) (env : Env) (x : W) (s : Sto) : Out W := (evalE C v env s).bind (kMp2 x)
theorem st_mp1 (k v : Ex) (env : Env) (s : Sto) : evalE C (.mp1 k v) env s = (evalE C k env s).bind (kMp1 C v env) := by
  rw [evalE]
  congr 1
  funext x s
  show _ = (evalE C v env s).bind (kMp2 x)
  congr 1
  funext y s
  unfold kMp2
  cases keyD x <;> rfl
theorem kMp1_eq (v : Ex) (env : Env) (x : W) (s : Sto) : kMp1 C v env x s = (evalE C v env s).bind (kMp2 x) := nrfl rfl
theorem kMp2_ok {x y : W} {k : NestedKey} {s : Sto} (h : keyD x = some k) (t : isTupW x = true) : kMp2 x y s = .ok (.map [x] [y]) s := by
  unfold kMp2
  rw [h]
  exact if_pos t
def kGot (o : Option (Option W)) (s : Sto) : Out W := match o with
  | some o => .ok (o.getD .non) s
  | none => .no
theorem kGot_some (o : Option W) (s : Sto) : kGot (some o) s = .ok (o.getD .non) s := nrfl rfl
def kGet2 (ks vs : List W) (y : W) (s : Sto) : Out W := kGot (getD ks vs y) s
theorem kGet2_eq (ks vs : List W) (y : W) (s : Sto) : kGet2 ks vs y s = kGot (getD ks vs y) s := nrfl rfl
def kGet1 (k : Ex) (env : Env) (x : W) (s : Sto) : Out W := match x with
  | .map ks vs => (evalE C k env s).bind (kGet2 ks vs)
  | _ => .no
theorem st_get (a k : Ex) (env : Env) (s : Sto) : evalE C (.get a k) env s = (rdE' C a env s).bind (kGet1 C k env) := by
  rw [evalE]
  show (rdE' C a env s).bind _ = (rdE' C a env s).bind _
  congr 1
  funext x s
  cases x <;> try rfl
  show (evalE C k env s).bind _ = (evalE C k env s).bind _
  congr 1
  funext y s
  unfold kGet2 kGot
  cases getD _ _ y <;> rfl
theorem kGet1_map (k : Ex) (env : Env) (ks vs : List W) (s : Sto) : kGet1 C k env (.map ks vs) s = (evalE C k env s).bind (kGet2 ks vs) := nrfl rfl
def kItems (x : W) (s : Sto) : Out W := match x with
  | .map ks vs => .ok (.lst (pairsD ks vs)) s
  | _ => .no
theorem st_items (a : Ex) (env : Env) (s : Sto) : evalE C (.items a) env s = (evalE C a env s).bind kItems := by
  rw [evalE]
  congr 1
theorem kItems_map (ks vs : List W) (s : Sto) : kItems (.map ks vs) s = .ok (.lst (pairsD ks vs)) s := nrfl rfl
def kR33 (x y z : W) (s : Sto) : Out W := match x, y, z with
  | .int i, .int j, .int c => if c ≠ 0 ∧ c.natAbs < 1073741824 ∧ Builtin.Range.small i j c = true then .ok (.lst (rangeC i j c)) s else .no
  | _, _, _ => .no
def kR32 (c : Ex) (env : Env) (x y : W) (s : Sto) : Out W := (evalE C c env s).bind (kR33 x y)
def kR31 (b c : Ex) (env : Env) (x : W) (s : Sto) : Out W := (evalE C b env s).bind (kR32 C c env x)
theorem st_range3 (a b c : Ex) (env : Env) (s : Sto) : evalE C (.range3 a b c) env s = (evalE C a env s).bind (kR31 C b c env) := by
  rw [evalE]
  congr 1
theorem kR31_eq (b c : Ex) (env : Env) (x : W) (s : Sto) : kR31 C b c env x s = (evalE C b env s).bind (kR32 C c env x) := nrfl rfl
theorem kR32_eq (c : Ex) (env : Env) (x y : W) (s : Sto) : kR32 C c env x y s = (evalE C c env s).bind (kR33 x y) := nrfl rfl
theorem kR33_ok {i j c : Int} {s : Sto} (h : c ≠ 0 ∧ c.natAbs < 1073741824 ∧ Builtin.Range.small i j c = true) : kR33 (.int i) (.int j) (.int c) s = .ok (.lst (rangeC i j c)) s := if_pos h
theorem kFor_map (t : Tg) (b : List Sm) (env : Env) (ks vs : List W) (s : Sto) : kFor C t b env (.map ks vs) s = kLoop C t b env ks s := nrfl rfl
theorem kComp1_mapD (vs0 : List Nat) (elt : Ex) (tg : Tg) (cs : List Ex) (env : Env) (ks vs : List W) (s : Sto) : kComp1 C vs0 elt tg cs env (.map ks vs) s = kComp2 C vs0 elt tg cs env ks s := nrfl rfl
theorem rd_mp0 (env : Env) (s : Sto) : rdE' C .mp0 env s = evalE C .mp0 env s := rd_ne C rfl env s
theorem rd_mp1 (a b : Ex) (env : Env) (s : Sto) : rdE' C (.mp1 a b) env s = evalE C (.mp1 a b) env s := rd_ne C rfl env s
theorem rd_get (a b : Ex) (env : Env) (s : Sto) : rdE' C (.get a b) env s = evalE C (.get a b) env s := rd_ne C rfl env s
theorem rd_items (a : Ex) (env : Env) (s : Sto) : rdE' C (.items a) env s = evalE C (.items a) env s := rd_ne C rfl env s
theorem rd_range3 (a b c : Ex) (env : Env) (s : Sto) : rdE' C (.range3 a b c) env s = evalE C (.range3 a b c) env s := rd_ne C rfl env s
theorem sl_mp0 (es : List Ex) (env : Env) (s : Sto) : evalL C (.mp0 :: es) env s = (evalE C .mp0 env s).bind (kL C es env) := st_cons C rfl es env s
theorem sl_mp1 (a b : Ex) (es : List Ex) (env : Env) (s : Sto) : evalL C (.mp1 a b :: es) env s = (evalE C (.mp1 a b) env s).bind (kL C es env) := st_cons C rfl es env s
theorem sl_get (a b : Ex) (es : List Ex) (env : Env) (s : Sto) : evalL C (.get a b :: es) env s = (evalE C (.get a b) env s).bind (kL C es env) := st_cons C rfl es env s
def kMeth2 (m : Sth) (a : Str) (y : W) (s : Sto) : Out W := .of (methV s m a y) s
theorem kMeth2_eq (m : Sth) (a : Str) (y : W) (s : Sto) : kMeth2 m a y s = .of (methV s m a y) s := nrfl rfl
def kMeth1 (m : Sth) (e : Ex) (env : Env) (x : W) (s : Sto) : Out W := match x with
  | .str a => (rdE' C e env s).bind (kMeth2 m a)
  | _ => .no
theorem kMeth1_eq (m : Sth) (e : Ex) (env : Env) (a : Str) (s : Sto) : kMeth1 C m e env (.str a) s = (rdE' C e env s).bind (kMeth2 m a) := nrfl rfl
theorem st_meth (m : Sth) (o e : Ex) (env : Env) (s : Sto) : evalE C (.meth m o e) env s = (evalE C o env s).bind (kMeth1 C m e env) := by
  rw [evalE]
  congr 1
def kSplit2 (a : Str) (y : W) (s : Sto) : Out W := .of (splitV a y) s
theorem kSplit2_eq (a : Str) (y : W) (s : Sto) : kSplit2 a y s = .of (splitV a y) s := nrfl rfl
def kSplit1 (e : Ex) (env : Env) (x : W) (s : Sto) : Out W := match x with
  | .str a => (evalE C e env s).bind (kSplit2 a)
  | _ => .no
theorem kSplit1_eq (e : Ex) (env : Env) (a : Str) (s : Sto) : kSplit1 C e env (.str a) s = (evalE C e env s).bind (kSplit2 a) := nrfl rfl
theorem st_split (o e : Ex) (env : Env) (s : Sto) : evalE C (.split o e) env s = (evalE C o env s).bind (kSplit1 C e env) := by
  rw [evalE]
  congr 1
theorem rd_meth (m : Sth) (a b : Ex) (env : Env) (s : Sto) : rdE' C (.meth m a b) env s = evalE C (.meth m a b) env s := rd_ne C rfl env s
def kIxOf2 (l : List W) (y : W) (s : Sto) : Out W := .of (indexV l y) s
theorem kIxOf2_eq (l : List W) (y : W) (s : Sto) : kIxOf2 l y s = .of (indexV l y) s := nrfl rfl
def kIxOf1 (e : Ex) (env : Env) (x : W) (s : Sto) : Out W := match x with
  | .lst l => (evalE C e env s).bind (kIxOf2 l)
  | _ => .no
theorem kIxOf1_eq (e : Ex) (env : Env) (l : List W) (s : Sto) : kIxOf1 C e env (.lst l) s = (evalE C e env s).bind (kIxOf2 l) := nrfl rfl
theorem st_ixOf (o e : Ex) (env : Env) (s : Sto) : evalE C (.ixOf o e) env s = (rdE' C o env s).bind (kIxOf1 C e env) := by
  rw [evalE]
  congr 1
theorem rd_ixOf (a b : Ex) (env : Env) (s : Sto) : rdE' C (.ixOf a b) env s = evalE C (.ixOf a b) env s := rd_ne C rfl env s
theorem sl_ixOf (a b : Ex) (es : List Ex) (env : Env) (s : Sto) : evalL C (.ixOf a b :: es) env s = (evalE C (.ixOf a b) env s).bind (kL C es env) := st_cons C rfl es env s
/-! dict comprehensions -/
def kMap (m : List W × List W) (s : Sto) : Out W := .ok (.map m.1 m.2) s
def kDict (l : List W) (s : Sto) : Out W := (Out.of (foldD ([], []) l) s).bind kMap
def kPair2 (x y : W) (s : Sto) : Out (Option W) := .ok (some (.tup [x, y])) s
theorem kPair2_eq (x y : W) (s : Sto) : kPair2 x y s = .ok (some (.tup [x, y])) s := nrfl rfl
def kPair1 (v : Ex) (env : Env) (x : W) (s : Sto) : Out (Option W) := (evalE C v env s).bind (kPair2 x)
theorem kPair1_eq (v : Ex) (env : Env) (x : W) (s : Sto) : kPair1 C v env x s = (evalE C v env s).bind (kPair2 x) := nrfl rfl
def kTstD (k v : Ex) (env : Env) (t : Bool) (s : Sto) : Out (Option W) := bif t then (evalE C k env s).bind (kPair1 C v env) else .ok none s
theorem kTstD_t (k v : Ex) (env : Env) (s : Sto) : kTstD C k v env true s = (evalE C k env s).bind (kPair1 C v env) := nrfl rfl
def turnD (k v : Ex) (cs : List Ex) : Option Env → Sto → Out (Option W)
  | some env, s => (evalC C cs env s).bind (kTstD C k v env)
  | none, _ => .no
theorem turnD_some (k v : Ex) (cs : List Ex) (env : Env) (s : Sto) : turnD C k v cs (some env) s = (evalC C cs env s).bind (kTstD C k v env) := nrfl rfl
def dBdy (vs : List Nat) (k v : Ex) (tg : Tg) (cs : List Ex) (env : Env) (w : W) (s : Sto) : Out (Option W) := turnD C k v cs (bindTg tg w (wipeE env vs)) s
theorem dBdy_eq (vs : List Nat) (k v : Ex) (tg : Tg) (cs : List Ex) (env : Env) (w : W) (s : Sto) : dBdy C vs k v tg cs env w s = turnD C k v cs (bindTg tg w (wipeE env vs)) s := nrfl rfl
def kDc2 (vs : List Nat) (k v : Ex) (tg : Tg) (cs : List Ex) (env : Env) (l : List W) (s : Sto) : Out W := if l.length ≤ lim then (noEx (compL (dBdy C vs k v tg cs env) l s)).bind kDict else .no
def kDc1 (vs : List Nat) (k v : Ex) (tg : Tg) (cs : List Ex) (env : Env) (x : W) (s : Sto) : Out W := match seqOf x with
  | some l => kDc2 C vs k v tg cs env l s
  | none => .no
theorem st_dcomp (vs : List Nat) (k v : Ex) (tg : Tg) (it : Ex) (cs : List Ex) (env : Env) (s : Sto) : evalE C (.dcomp vs k v tg it cs) env s = (rdE' C it env s).bind (kDc1 C vs k v tg cs env) := by
  rw [evalE]
  congr 1
  funext x s
  unfold kDc1
  cases seqOf x with
  | none => rfl
  | some l =>
    show (if l.length ≤ lim then _ else _) = kDc2 C vs k v tg cs env l s
    unfold kDc2
    split
    · have e : (fun w s => (Out.of (bindTg tg w (wipeE env vs)) s).bind fun env s => (evalC C cs env s).bind fun t s => if t then (evalE C k env s).bind fun x s => (evalE C v env s).bind fun y s => .ok (some (.tup [x, y])) s else .ok none s) = dBdy C vs k v tg cs env := by
        funext w s
        unfold dBdy
        cases bindTg tg w (wipeE env vs) with
        | none => rfl
        | some env =>
          show (evalC C cs env s).bind _ = (evalC C cs env s).bind _
          congr 1
          funext t s
          cases t <;> rfl
      rw [e]
      rfl
    · rfl
theorem kDc1_tup (vs : List Nat) (k v : Ex) (tg : Tg) (cs : List Ex) (env : Env) (l : List W) (s : Sto) : kDc1 C vs k v tg cs env (.tup l) s = kDc2 C vs k v tg cs env l s := nrfl rfl
theorem kDc1_lst (vs : List Nat) (k v : Ex) (tg : Tg) (cs : List Ex) (env : Env) (l : List W) (s : Sto) : kDc1 C vs k v tg cs env (.lst l) s = kDc2 C vs k v tg cs env l s := nrfl rfl
theorem kDc1_mapD (vs : List Nat) (k v : Ex) (tg : Tg) (cs : List Ex) (env : Env) (ks us : List W) (s : Sto) : kDc1 C vs k v tg cs env (.map ks us) s = kDc2 C vs k v tg cs env ks s := nrfl rfl
theorem rd_dcomp (vs : List Nat) (k v : Ex) (tg : Tg) (it : Ex) (cs : List Ex) (env : Env) (s : Sto) : rdE' C (.dcomp vs k v tg it cs) env s = evalE C (.dcomp vs k v tg it cs) env s := rd_ne C rfl env s
theorem sl_dcomp (vs : List Nat) (k v : Ex) (tg : Tg) (it : Ex) (cs : List Ex) (es : List Ex) (env : Env) (s : Sto) : evalL C (.dcomp vs k v tg it cs :: es) env s = (evalE C (.dcomp vs k v tg it cs) env s).bind (kL C es env) := st_cons C rfl es env s
def kCnt2 (l : List W) (y : W) (s : Sto) : Out W := .of (countV l y) s
theorem kCnt2_eq (l : List W) (y : W) (s : Sto) : kCnt2 l y s = .of (countV l y) s := nrfl rfl
def kCnt1 (e : Ex) (env : Env) (x : W) (s : Sto) : Out W := match x with
  | .lst l => (evalE C e env s).bind (kCnt2 l)
  | _ => .no
theorem kCnt1_eq (e : Ex) (env : Env) (l : List W) (s : Sto) : kCnt1 C e env (.lst l) s = (evalE C e env s).bind (kCnt2 l) := nrfl rfl
theorem st_cntOf (o e : Ex) (env : Env) (s : Sto) : evalE C (.cntOf o e) env s = (rdE' C o env s).bind (kCnt1 C e env) := by
  rw [evalE]
  congr 1
theorem rd_cntOf (a b : Ex) (env : Env) (s : Sto) : rdE' C (.cntOf a b) env s = evalE C (.cntOf a b) env s := rd_ne C rfl env s
theorem sl_cntOf (a b : Ex) (es : List Ex) (env : Env) (s : Sto) : evalL C (.cntOf a b :: es) env s = (evalE C (.cntOf a b) env s).bind (kL C es env) := st_cons C rfl es env s
theorem rd_split (a b : Ex) (env : Env) (s : Sto) : rdE' C (.split a b) env s = evalE C (.split a b) env s := rd_ne C rfl env s
theorem sl_meth (m : Sth) (a b : Ex) (es : List Ex) (env : Env) (s : Sto) : evalL C (.meth m a b :: es) env s = (evalE C (.meth m a b) env s).bind (kL C es env) := st_cons C rfl es env s
theorem sl_split (a b : Ex) (es : List Ex) (env : Env) (s : Sto) : evalL C (.split a b :: es) env s = (evalE C (.split a b) env s).bind (kL C es env) := st_cons C rfl es env s
theorem kFor_str (t : Tg) (b : List Sm) (env : Env) (x : Str) (s : Sto) : kFor C t b env (.str x) s = kLoop C t b env (x.cps.toList.map fun c => .str ⟨#[c]⟩) s := nrfl rfl
theorem kComp1_str (vs : List Nat) (elt : Ex) (tg : Tg) (cs : List Ex) (env : Env) (x : Str) (s : Sto) : kComp1 C vs elt tg cs env (.str x) s = kComp2 C vs elt tg cs env (x.cps.toList.map fun c => .str ⟨#[c]⟩) s := nrfl rfl
theorem len_map (s : Sto) (ks vs : List W) : biV s .len [.map ks vs] = some (.int ks.length) := nrfl rfl
theorem idx_map (s : Sto) (ks vs : List W) (x : W) : idxV s (.map ks vs) x = (lookD ks vs x).bind id := nrfl rfl
theorem in_map' (x : W) (ks vs : List W) : cmpV .in_ x (.map ks vs) = (lookD ks vs x).map (·.isSome) := by
  cases x <;> rfl
theorem nin_map (x : W) (ks vs : List W) : cmpV .nin x (.map ks vs) = (lookD ks vs x).map (!·.isSome) := by
  have : cmpV .nin x (.map ks vs) = ((lookD ks vs x).map (·.isSome)).map (!·) := by cases x <;> rfl
  rw [this, Option.map_map]
  rfl
def kExp (env : Env) (_ : W) (s : Sto) : Out Fl := .ok (.nx env) s
theorem sx_exp (e : Ex) (env : Env) (s : Sto) : exec C (.exp e) env s = (evalE C e env s).bind (kExp env) := by rw [exec]; rfl
theorem kExp_eq (env : Env) (w : W) (s : Sto) : kExp env w s = .ok (.nx env) s := nrfl rfl
theorem sx_frz (is : List Nat) (env : Env) (s : Sto) : exec C (.frz is) env s = .ok (.nx (frz is env)) s := by rw [exec]
def frzA (i : Nat) (env : Env) : Option Sl → Env
  | some (.own w) => env.set i (.val w)
  | _ => env
theorem frz_nil (env : Env) : frz [] env = env := nrfl rfl
theorem frz_cons (i : Nat) (is : List Nat) (env : Env) : frz (i :: is) env = frz is (frzA i env env[i]?) := by
  rw [frz]
  cases env[i]? with
  | none => rfl
  | some u => cases u <;> rfl
theorem frzA_own (i : Nat) (env : Env) (w : W) : frzA i env (some (.own w)) = env.set i (.val w) := nrfl rfl
theorem frzA_val (i : Nat) (env : Env) (w : W) : frzA i env (some (.val w)) = env := nrfl rfl
theorem frzA_emp (i : Nat) (env : Env) : frzA i env (some .emp) = env := nrfl rfl
theorem sx_pass (env : Env) (s : Sto) : exec C .pass env s = .ok (.nx env) s := by rw [exec]
theorem sx_cont (env : Env) (s : Sto) : exec C .cont env s = .ok (.ct env) s := by rw [exec]
theorem wipe_nil (env : Env) : wipeE env [] = env := nrfl rfl
theorem wipe_cons (env : Env) (i : Nat) (is : List Nat) : wipeE env (i :: is) = (wipeE env is).set i .emp := nrfl rfl
/-! a def's body, run -/
def runD (d : Dfn) (ws : List W) (s : Sto) : Out W := if ws.length = d.np then (execs C d.body (start d.nv ws) s).bind fin else .no
theorem callN_eq {ds : List Dfn} {f : Nat} {d : Dfn} (h : ds[f]? = some d) (k : Nat) (ws : List W) (s : Sto) : callN ds (k + 1) f ws s = runD (callN ds k) d ws s := by
  show (match ds[f]? with | none => Out.no | some d => _) = _
  rw [h]
  rfl
theorem runD_eq {nv : Nat} {body : List Sm} {np : Nat} {ws : List W} (h : ws.length = np) (s : Sto) : runD C ⟨np, nv, body⟩ ws s = (execs C body (start nv ws) s).bind fin := if_pos h
theorem fin_rt (w : W) (s : Sto) : fin (.rt w) s = .ok w s := nrfl rfl
theorem fin_nx (env : Env) (s : Sto) : fin (.nx env) s = .ok .non s := nrfl rfl
theorem kIfs_d (a b : List Sm) (env : Env) (p : Bool) (s : Sto) : kIfs C a b env (.bl p) s = bif p then execs C a env s else execs C b env s := by cases p <;> rfl
theorem kC_d (es : List Ex) (env : Env) (p : Bool) (s : Sto) : kC C es env (.bl p) s = bif p then evalC C es env s else .ok false s := by cases p <;> rfl
theorem cond_bind {α β : Type} (p : Bool) (x y : Out α) (f : α → Sto → Out β) : (bif p then x else y).bind f = bif p then x.bind f else y.bind f := by cases p <;> rfl
theorem cond_ok (p : Bool) (x y : W) (s : Sto) : (bif p then Out.ok x s else Out.ok y s) = Out.ok (bif p then x else y) s := by cases p <;> rfl
theorem cond_bl (p x y : Bool) : (bif p then W.bl x else W.bl y) = W.bl (bif p then x else y) := by cases p <;> rfl
theorem cond_int (p : Bool) (x y : Int) : (bif p then W.int x else W.int y) = W.int (bif p then x else y) := by cases p <;> rfl
theorem cond_and (p x : Bool) : (bif p then x else false) = (p && x) := by cases p <;> rfl
theorem cond_or (p x : Bool) : (bif p then true else x) = (p || x) := by cases p <;> rfl
theorem cond_nand (p x : Bool) : (bif p then false else x) = (!p && x) := by cases p <;> rfl
theorem cond_nor (p x : Bool) : (bif p then x else true) = (!p || x) := by cases p <;> rfl
theorem litC (n : Nat) : ((no_index (OfNat.ofNat n : Nat)) : Int) = (OfNat.ofNat n : Int) := nrfl rfl
theorem kComp1_tup (vs : List Nat) (elt : Ex) (tg : Tg) (cs : List Ex) (env : Env) (l : List W) (s : Sto) : kComp1 C vs elt tg cs env (.tup l) s = kComp2 C vs elt tg cs env l s := nrfl rfl
theorem kComp1_lst (vs : List Nat) (elt : Ex) (tg : Tg) (cs : List Ex) (env : Env) (l : List W) (s : Sto) : kComp1 C vs elt tg cs env (.lst l) s = kComp2 C vs elt tg cs env l s := nrfl rfl
theorem kChain2_eq (o p : Cop) (c : Ex) (env : Env) (i j : Int) (s : Sto) : kChain2 C o p c env (.int i) (.int j) s = bif cmpI o i j then (evalE C c env s).bind (kChain3 p (.int j)) else .ok (.bl false) s := by
  show (if _ then _ else _) = _
  cases cmpI o i j <;> rfl
/-! places in lists -/
theorem ix0 {n : Nat} : L2.ixN (n + 1) 0 = some 0 := by
  unfold L2.ixN
  rw [if_pos (by omega), if_pos (by omega)]
  rfl
theorem ix1 {n : Nat} : L2.ixN (n + 1 + 1) 1 = some 1 := by
  unfold L2.ixN
  rw [if_pos (by omega), if_pos (by omega)]
  rfl
theorem ix2 {n : Nat} : L2.ixN (n + 1 + 1 + 1) 2 = some 2 := by
  unfold L2.ixN
  rw [if_pos (by omega), if_pos (by omega)]
  rfl
theorem at0 (a : W) (r : List W) : atIx (a :: r) 0 = some a := by
  unfold atIx
  rw [List.length_cons, ix0]
  rfl
theorem at1 (a b : W) (r : List W) : atIx (a :: b :: r) 1 = some b := by
  unfold atIx
  rw [List.length_cons, List.length_cons, ix1]
  rfl
theorem at2 (a b c : W) (r : List W) : atIx (a :: b :: c :: r) 2 = some c := by
  unfold atIx
  rw [List.length_cons, List.length_cons, List.length_cons, ix2]
  rfl
theorem at3 (a b c d : W) (r : List W) : atIx (a :: b :: c :: d :: r) 3 = some d := by
  unfold atIx L2.ixN
  simp only [List.length_cons]
  rw [if_pos (by omega), if_pos (by omega)]
  rfl
theorem atN {l : List W} {i : Int} {n : Nat} {w : W} (h : i = n) (e : l[n]? = some w) : atIx l i = some w := by
  subst h
  have hn : n < l.length := by
    rcases Nat.lt_or_ge n l.length with z | z
    · exact z
    · rw [List.getElem?_eq_none z] at e
      cases e
  unfold atIx L2.ixN
  rw [if_pos (by omega), if_pos (by omega), Option.bind_some, Int.toNat_natCast]
  exact e
/-- the last -/
theorem atLast {l : List W} {w : W} : atIx (l ++ [w]) (-1) = some w := by
  unfold atIx L2.ixN
  rw [if_neg (by omega), if_pos (by rw [List.length_append]; simp only [List.length_cons, List.length_nil]; omega), Option.bind_some]
  have : ((-1 : Int) + ((l ++ [w]).length : Int)).toNat = l.length := by
    simp only [List.length_append, List.length_cons, List.length_nil]
    omega
  rw [this]
  simp
theorem get_set {s : Sto} {n : Nat} {l l' : List W} (h : s[n]? = some l) : (s.set n l')[n]? = some l' := by
  have hn : n < s.length := by
    rcases Nat.lt_or_ge n s.length with z | z
    · exact z
    · rw [List.getElem?_eq_none z] at h
      cases h
  rw [List.getElem?_set_self hn]
theorem idx_tup (s : Sto) (l : List W) (i : Int) : idxV s (.tup l) (.int i) = atIx l i := nrfl rfl
theorem idx_lst (s : Sto) (l : List W) (i : Int) : idxV s (.lst l) (.int i) = atIx l i := nrfl rfl
theorem idx_ref (s : Sto) (n : Nat) (i : Int) : idxV s (.ref n) (.int i) = (s[n]?).bind fun l => atIx l i := nrfl rfl
theorem idx_scr (s : Sto) (l : List Int) (i : Int) : idxV s (.scr l) (.int i) = atIx (l.map .int) i := nrfl rfl
theorem slc_tup (l : List W) (lo hi : Option Int) : slcV (.tup l) lo hi = some (.tup (cut l lo hi)) := nrfl rfl
theorem slc_lst (l : List W) (lo hi : Option Int) : slcV (.lst l) lo hi = some (.lst (cut l lo hi)) := nrfl rfl
theorem len_tup (s : Sto) (l : List W) : biV s .len [.tup l] = some (.int l.length) := nrfl rfl
theorem len_lst (s : Sto) (l : List W) : biV s .len [.lst l] = some (.int l.length) := nrfl rfl
theorem len_scr (s : Sto) (l : List Int) : biV s .len [.scr l] = some (.int l.length) := by
  show some (W.int ((l.map W.int).length : Int)) = _
  rw [List.length_map]
theorem tuple_lst (s : Sto) (l : List W) : biV s .tuple [.lst l] = some (.tup l) := nrfl rfl
theorem tuple_tup (s : Sto) (l : List W) : biV s .tuple [.tup l] = some (.tup l) := nrfl rfl
theorem list_tup (s : Sto) (l : List W) : biV s .list [.tup l] = some (.lst l) := nrfl rfl
theorem list_lst (s : Sto) (l : List W) : biV s .list [.lst l] = some (.lst l) := nrfl rfl
theorem max2 (s : Sto) (i j : Int) : biV s .max [.int i, .int j] = some (.int (max i j)) := nrfl rfl
theorem min2 (s : Sto) (i j : Int) : biV s .min [.int i, .int j] = some (.int (min i j)) := nrfl rfl
theorem boolsL_map {α : Type} (f : α → Bool) : ∀ l : List α, boolsL (l.map fun x => W.bl (f x)) = some (l.map f)
  | [] => rfl
  | x :: r => by
    show (boolsL (r.map fun x => W.bl (f x))).map (f x :: ·) = _
    rw [boolsL_map f r]
    rfl
theorem intsL_map {α : Type} (f : α → Int) : ∀ l : List α, intsL (l.map fun x => W.int (f x)) = some (l.map f)
  | [] => rfl
  | x :: r => by
    show (intsL (r.map fun x => W.int (f x))).map (f x :: ·) = _
    rw [intsL_map f r]
    rfl
theorem all_bl {α : Type} (s : Sto) (f : α → Bool) (l : List α) : biV s .all [.lst (l.map fun x => W.bl (f x))] = some (.bl (l.all f)) := by
  show (boolsL _).map _ = _
  rw [boolsL_map]
  simp [List.all_map]
theorem all_true {α : Type} (s : Sto) (l : List α) : biV s .all [.lst (l.map fun _ => W.bl true)] = some (.bl true) := by
  rw [all_bl]
  simp
theorem sum_int {α : Type} (s : Sto) (f : α → Int) (l : List α) : biV s .sum [.lst (l.map fun x => W.int (f x))] = some (.int (l.map f).sum) := by
  show (intsL _).map _ = _
  rw [intsL_map]
  rfl
theorem add_int (i j : Int) : bop .add (.int i) (.int j) = some (.int (i + j)) := nrfl rfl
theorem sub_int (i j : Int) : bop .sub (.int i) (.int j) = some (.int (i - j)) := nrfl rfl
theorem wid_of {i : Int} (h : -(18446744073709551616) < i ∧ i < 18446744073709551616) : wid i = true := decide_eq_true h
theorem mul_l {i j : Int} (h : -(18446744073709551616) < i ∧ i < 18446744073709551616) : bop .mul (.int i) (.int j) = some (.int (i * j)) := by
  show (if (wid i || wid j) = true then _ else _) = _
  rw [wid_of h, Bool.true_or, if_pos rfl]
theorem mul_r {i j : Int} (h : -(18446744073709551616) < j ∧ j < 18446744073709551616) : bop .mul (.int i) (.int j) = some (.int (i * j)) := by
  show (if (wid i || wid j) = true then _ else _) = _
  rw [wid_of h, Bool.or_true, if_pos rfl]
theorem mod_int {i j : Int} (h : 0 < j) : bop .mod (.int i) (.int j) = some (.int (i % j)) := if_pos h
theorem fdiv_int {i j : Int} (h : 0 < j ∧ j < 1073741824) : bop .fdiv (.int i) (.int j) = some (.int (i / j)) := if_pos h
theorem add_tup (l r : List W) (h : l.length + r.length ≤ lim) : bop .add (.tup l) (.tup r) = some (.tup (l ++ r)) := if_pos h
theorem rd_cst (w : W) (env : Env) (s : Sto) : rdE' C (.cst w) env s = evalE C (.cst w) env s := rd_ne C rfl env s
theorem rd_bin (o : Bop) (a b : Ex) (env : Env) (s : Sto) : rdE' C (.bin o a b) env s = evalE C (.bin o a b) env s := rd_ne C rfl env s
theorem rd_neg (a : Ex) (env : Env) (s : Sto) : rdE' C (.neg a) env s = evalE C (.neg a) env s := rd_ne C rfl env s
theorem rd_cmp (o : Cop) (a b : Ex) (env : Env) (s : Sto) : rdE' C (.cmp o a b) env s = evalE C (.cmp o a b) env s := rd_ne C rfl env s
theorem rd_chain (o p : Cop) (a b c : Ex) (env : Env) (s : Sto) : rdE' C (.chain o p a b c) env s = evalE C (.chain o p a b c) env s := rd_ne C rfl env s
theorem rd_isN (a : Ex) (env : Env) (s : Sto) : rdE' C (.isN a) env s = evalE C (.isN a) env s := rd_ne C rfl env s
theorem rd_notN (a : Ex) (env : Env) (s : Sto) : rdE' C (.notN a) env s = evalE C (.notN a) env s := rd_ne C rfl env s
theorem rd_and (a b : Ex) (env : Env) (s : Sto) : rdE' C (.and a b) env s = evalE C (.and a b) env s := rd_ne C rfl env s
theorem rd_or (a b : Ex) (env : Env) (s : Sto) : rdE' C (.or a b) env s = evalE C (.or a b) env s := rd_ne C rfl env s
theorem rd_not (a : Ex) (env : Env) (s : Sto) : rdE' C (.not a) env s = evalE C (.not a) env s := rd_ne C rfl env s
theorem rd_ite (c a b : Ex) (env : Env) (s : Sto) : rdE' C (.ite c a b) env s = evalE C (.ite c a b) env s := rd_ne C rfl env s
theorem rd_tup (l : List Ex) (env : Env) (s : Sto) : rdE' C (.tup l) env s = evalE C (.tup l) env s := rd_ne C rfl env s
theorem rd_lst (l : List Ex) (env : Env) (s : Sto) : rdE' C (.lst l) env s = evalE C (.lst l) env s := rd_ne C rfl env s
theorem rd_callK (f : Nat) (pm : List Nat) (l : List Ex) (env : Env) (s : Sto) : rdE' C (.callK f pm l) env s = evalE C (.callK f pm l) env s := rd_ne C rfl env s
theorem rd_call (f : Nat) (l : List Ex) (env : Env) (s : Sto) : rdE' C (.call f l) env s = evalE C (.call f l) env s := rd_ne C rfl env s
theorem rd_bi (b : Bi) (l : List Ex) (env : Env) (s : Sto) : rdE' C (.bi b l) env s = evalE C (.bi b l) env s := rd_ne C rfl env s
theorem rd_isin (e : Ex) (t : Ty) (env : Env) (s : Sto) : rdE' C (.isin e t) env s = evalE C (.isin e t) env s := rd_ne C rfl env s
theorem rd_idx (a b : Ex) (env : Env) (s : Sto) : rdE' C (.idx a b) env s = evalE C (.idx a b) env s := rd_ne C rfl env s
theorem rd_slc (a : Ex) (p : Bool) (lo : Ex) (r : Bool) (hi : Ex) (env : Env) (s : Sto) : rdE' C (.slc a p lo r hi) env s = evalE C (.slc a p lo r hi) env s := rd_ne C rfl env s
theorem rd_rev (a : Ex) (env : Env) (s : Sto) : rdE' C (.rev a) env s = evalE C (.rev a) env s := rd_ne C rfl env s
theorem rd_addL (a b : Ex) (env : Env) (s : Sto) : rdE' C (.addL a b) env s = evalE C (.addL a b) env s := rd_ne C rfl env s
theorem rd_mulL (a b : Ex) (env : Env) (s : Sto) : rdE' C (.mulL a b) env s = evalE C (.mulL a b) env s := rd_ne C rfl env s
theorem rd_comp (vs : List Nat) (x : Ex) (tg : Tg) (it : Ex) (cs : List Ex) (env : Env) (s : Sto) : rdE' C (.comp vs x tg it cs) env s = evalE C (.comp vs x tg it cs) env s := rd_ne C rfl env s
theorem rd_range (a b : Ex) (env : Env) (s : Sto) : rdE' C (.range a b) env s = evalE C (.range a b) env s := rd_ne C rfl env s
theorem rd_enum (a : Ex) (env : Env) (s : Sto) : rdE' C (.enum a) env s = evalE C (.enum a) env s := rd_ne C rfl env s
theorem rd_zip (a b : Ex) (env : Env) (s : Sto) : rdE' C (.zip a b) env s = evalE C (.zip a b) env s := rd_ne C rfl env s
theorem sl_cst (w : W) (es : List Ex) (env : Env) (s : Sto) : evalL C (.cst w :: es) env s = (evalE C (.cst w) env s).bind (kL C es env) := st_cons C rfl es env s
theorem sl_bin (o : Bop) (a b : Ex) (es : List Ex) (env : Env) (s : Sto) : evalL C (.bin o a b :: es) env s = (evalE C (.bin o a b) env s).bind (kL C es env) := st_cons C rfl es env s
theorem sl_neg (a : Ex) (es : List Ex) (env : Env) (s : Sto) : evalL C (.neg a :: es) env s = (evalE C (.neg a) env s).bind (kL C es env) := st_cons C rfl es env s
theorem sl_cmp (o : Cop) (a b : Ex) (es : List Ex) (env : Env) (s : Sto) : evalL C (.cmp o a b :: es) env s = (evalE C (.cmp o a b) env s).bind (kL C es env) := st_cons C rfl es env s
theorem sl_chain (o p : Cop) (a b c : Ex) (es : List Ex) (env : Env) (s : Sto) : evalL C (.chain o p a b c :: es) env s = (evalE C (.chain o p a b c) env s).bind (kL C es env) := st_cons C rfl es env s
theorem sl_isN (a : Ex) (es : List Ex) (env : Env) (s : Sto) : evalL C (.isN a :: es) env s = (evalE C (.isN a) env s).bind (kL C es env) := st_cons C rfl es env s
theorem sl_notN (a : Ex) (es : List Ex) (env : Env) (s : Sto) : evalL C (.notN a :: es) env s = (evalE C (.notN a) env s).bind (kL C es env) := st_cons C rfl es env s
theorem sl_and (a b : Ex) (es : List Ex) (env : Env) (s : Sto) : evalL C (.and a b :: es) env s = (evalE C (.and a b) env s).bind (kL C es env) := st_cons C rfl es env s
theorem sl_or (a b : Ex) (es : List Ex) (env : Env) (s : Sto) : evalL C (.or a b :: es) env s = (evalE C (.or a b) env s).bind (kL C es env) := st_cons C rfl es env s
theorem sl_not (a : Ex) (es : List Ex) (env : Env) (s : Sto) : evalL C (.not a :: es) env s = (evalE C (.not a) env s).bind (kL C es env) := st_cons C rfl es env s
theorem sl_ite (c a b : Ex) (es : List Ex) (env : Env) (s : Sto) : evalL C (.ite c a b :: es) env s = (evalE C (.ite c a b) env s).bind (kL C es env) := st_cons C rfl es env s
theorem sl_tup (l : List Ex) (es : List Ex) (env : Env) (s : Sto) : evalL C (.tup l :: es) env s = (evalE C (.tup l) env s).bind (kL C es env) := st_cons C rfl es env s
theorem sl_lst (l : List Ex) (es : List Ex) (env : Env) (s : Sto) : evalL C (.lst l :: es) env s = (evalE C (.lst l) env s).bind (kL C es env) := st_cons C rfl es env s
theorem sl_callK (f : Nat) (pm : List Nat) (l : List Ex) (es : List Ex) (env : Env) (s : Sto) : evalL C (.callK f pm l :: es) env s = (evalE C (.callK f pm l) env s).bind (kL C es env) := st_cons C rfl es env s
theorem sl_call (f : Nat) (l : List Ex) (es : List Ex) (env : Env) (s : Sto) : evalL C (.call f l :: es) env s = (evalE C (.call f l) env s).bind (kL C es env) := st_cons C rfl es env s
theorem sl_bi (b : Bi) (l : List Ex) (es : List Ex) (env : Env) (s : Sto) : evalL C (.bi b l :: es) env s = (evalE C (.bi b l) env s).bind (kL C es env) := st_cons C rfl es env s
theorem sl_isin (e : Ex) (t : Ty) (es : List Ex) (env : Env) (s : Sto) : evalL C (.isin e t :: es) env s = (evalE C (.isin e t) env s).bind (kL C es env) := st_cons C rfl es env s
theorem sl_idx (a b : Ex) (es : List Ex) (env : Env) (s : Sto) : evalL C (.idx a b :: es) env s = (evalE C (.idx a b) env s).bind (kL C es env) := st_cons C rfl es env s
theorem sl_slc (a : Ex) (p : Bool) (lo : Ex) (r : Bool) (hi : Ex) (es : List Ex) (env : Env) (s : Sto) : evalL C (.slc a p lo r hi :: es) env s = (evalE C (.slc a p lo r hi) env s).bind (kL C es env) := st_cons C rfl es env s
theorem sl_rev (a : Ex) (es : List Ex) (env : Env) (s : Sto) : evalL C (.rev a :: es) env s = (evalE C (.rev a) env s).bind (kL C es env) := st_cons C rfl es env s
theorem sl_addL (a b : Ex) (es : List Ex) (env : Env) (s : Sto) : evalL C (.addL a b :: es) env s = (evalE C (.addL a b) env s).bind (kL C es env) := st_cons C rfl es env s
theorem sl_mulL (a b : Ex) (es : List Ex) (env : Env) (s : Sto) : evalL C (.mulL a b :: es) env s = (evalE C (.mulL a b) env s).bind (kL C es env) := st_cons C rfl es env s
theorem sl_comp (vs : List Nat) (x : Ex) (tg : Tg) (it : Ex) (cs : List Ex) (es : List Ex) (env : Env) (s : Sto) : evalL C (.comp vs x tg it cs :: es) env s = (evalE C (.comp vs x tg it cs) env s).bind (kL C es env) := st_cons C rfl es env s
theorem sl_range (a b : Ex) (es : List Ex) (env : Env) (s : Sto) : evalL C (.range a b :: es) env s = (evalE C (.range a b) env s).bind (kL C es env) := st_cons C rfl es env s
theorem sl_enum (a : Ex) (es : List Ex) (env : Env) (s : Sto) : evalL C (.enum a :: es) env s = (evalE C (.enum a) env s).bind (kL C es env) := st_cons C rfl es env s
theorem sl_zip (a b : Ex) (es : List Ex) (env : Env) (s : Sto) : evalL C (.zip a b :: es) env s = (evalE C (.zip a b) env s).bind (kL C es env) := st_cons C rfl es env s
theorem rd_tru (a : Ex) (env : Env) (s : Sto) : rdE' C (.tru a) env s = evalE C (.tru a) env s := rd_ne C rfl env s
theorem rd_dsp (a : List Ex) (env : Env) (s : Sto) : rdE' C (.dsp a) env s = evalE C (.dsp a) env s := rd_ne C rfl env s
theorem sl_tru (a : Ex) (es : List Ex) (env : Env) (s : Sto) : evalL C (.tru a :: es) env s = (evalE C (.tru a) env s).bind (kL C es env) := st_cons C rfl es env s
theorem sl_dsp (l : List Ex) (es : List Ex) (env : Env) (s : Sto) : evalL C (.dsp l :: es) env s = (evalE C (.dsp l) env s).bind (kL C es env) := st_cons C rfl es env s
theorem sx_thru (b : List Sm) (env : Env) (s : Sto) : exec C (.thru b) env s = noEx (execs C b env s) := by rw [exec]
theorem sl_var (i : Nat) (es : List Ex) (env : Env) (s : Sto) : evalL C (.var i :: es) env s = (evalE C (.var i) env s).bind (kL C es env) := st_cons C rfl es env s
end
/-! ### what a run gives -/
def Tr {α : Type} (m : Out α) (Q : α → Sto → Prop) : Prop := ∃ a s, m = .ok a s ∧ Q a s
theorem Tr.ok {α : Type} {a : α} {s : Sto} {Q : α → Sto → Prop} (h : Q a s) : Tr (.ok a s) Q := ⟨a, s, rfl, h⟩
theorem Tr.bind {α β : Type} {m : Out α} {f : α → Sto → Out β} {R : α → Sto → Prop} {Q : β → Sto → Prop} (h : Tr m R) (k : ∀ a s, R a s → Tr (f a s) Q) : Tr (m.bind f) Q := by
  obtain ⟨a, s, rfl, r⟩ := h
  exact k a s r
theorem Tr.mono {α : Type} {m : Out α} {R Q : α → Sto → Prop} (h : Tr m R) (k : ∀ a s, R a s → Q a s) : Tr m Q := by
  obtain ⟨a, s, e, r⟩ := h
  exact ⟨a, s, e, k a s r⟩
theorem Tr.of_ok {α : Type} {a : α} {s : Sto} {Q : α → Sto → Prop} (h : Tr (.ok a s) Q) : Q a s := by
  obtain ⟨a', s', e, r⟩ := h
  cases e
  exact r
theorem Tr_ok {α : Type} {a : α} {s : Sto} {Q : α → Sto → Prop} : Tr (.ok a s) Q = Q a s := propext ⟨Tr.of_ok, Tr.ok⟩
theorem Tr.eq {α : Type} {m : Out α} {a : α} {s : Sto} (h : m = .ok a s) {Q : α → Sto → Prop} (q : Q a s) : Tr m Q := ⟨a, s, h, q⟩
/-- a loop whose turns all go on; what holds after j turns -/
theorem forL_tr {bnd : W → Env → Option Env} {body : Env → Sto → Out Fl} (I : Nat → Env → Sto → Prop) : ∀ (l : List W) (j : Nat) (env : Env) (s : Sto), I j env s →
    (∀ i x env s, l[i]? = some x → I (j + i) env s → ∃ env', bnd x env = some env' ∧ Tr (body env' s) fun f s => match f with
      | .nx env => I (j + i + 1) env s
      | .ct env => I (j + i + 1) env s
      | .rt _ => False) →
    Tr (forL bnd body l env s) fun f s => match f with
      | .nx env => I (j + l.length) env s
      | _ => False
  | [], j, env, s, h, _ => ⟨_, _, rfl, h⟩
  | x :: r, j, env, s, h, hb => by
    obtain ⟨env', e1, f, s1, e2, q⟩ := hb 0 x env s rfl h
    have go : ∀ env2, I (j + 1) env2 s1 → Tr (forL bnd body r env2 s1) fun f s => match f with
      | .nx env => I (j + (x :: r).length) env s
      | _ => False := fun env2 h2 => by
      have := forL_tr I r (j + 1) env2 s1 h2 fun i y env s hy hi => by
        have := hb (i + 1) y env s hy (by rw [show j + (i + 1) = j + 1 + i by omega]; exact hi)
        rw [show j + (i + 1) = j + 1 + i by omega] at this
        exact this
      rw [show j + (x :: r).length = j + 1 + r.length by simp only [List.length_cons]; omega]
      exact this
    unfold forL
    rw [e1]
    show Tr ((body env' s).bind _) _
    rw [e2]
    cases f with
    | nx env2 => exact go env2 q
    | ct env2 => exact go env2 q
    | rt w => exact q.elim
/-- .. what holds at every turn -/
theorem forL_inv {bnd : W → Env → Option Env} {body : Env → Sto → Out Fl} (I : Env → Sto → Prop) {l : List W} {env : Env} {s : Sto} (h : I env s)
    (hb : ∀ x ∈ l, ∀ env s, I env s → ∃ env', bnd x env = some env' ∧ Tr (body env' s) fun f s => match f with
      | .nx env => I env s
      | .ct env => I env s
      | .rt _ => False) :
    Tr (forL bnd body l env s) fun f s => match f with
      | .nx env => I env s
      | _ => False :=
  (forL_tr (fun _ => I) l 0 env s h fun i x env s hx hi => hb x (List.mem_of_getElem? hx) env s hi).mono fun _ _ h => h
section
variable (C : CallI)
/-! ### what is raised, what is told -/
def kTold (md : Bool) (tab : List ((Nat × Option Int) × Str)) (m : Out W) : Out W := match m with
  | .ok w s => .of (if md then some (.str "told") else biV s .repr [w]) s
  | .ex x s => .of ((toldX tab x).map .str) s
  | .no => .no
theorem st_told (md : Bool) (tab : List ((Nat × Option Int) × Str)) (e : Ex) (env : Env) (s : Sto) : evalE C (.told md tab e) env s = kTold md tab (evalE C e env s) := by rw [evalE]; rfl
theorem kTold_ok (tab : List ((Nat × Option Int) × Str)) (w : W) (s : Sto) : kTold false tab (.ok w s) = .of (biV s .repr [w]) s := nrfl rfl
theorem kTold_t (tab : List ((Nat × Option Int) × Str)) (w : W) (s : Sto) : kTold true tab (.ok w s) = .ok (.str "told") s := nrfl rfl
theorem kTold_ex (md : Bool) (tab : List ((Nat × Option Int) × Str)) (x : Exn) (s : Sto) : kTold md tab (.ex x s) = .of ((toldX tab x).map .str) s := nrfl rfl
theorem rd_told (md : Bool) (tab : List ((Nat × Option Int) × Str)) (e : Ex) (env : Env) (s : Sto) : rdE' C (.told md tab e) env s = evalE C (.told md tab e) env s := rd_ne C rfl env s
theorem sl_told (md : Bool) (tab : List ((Nat × Option Int) × Str)) (a : Ex) (es : List Ex) (env : Env) (s : Sto) : evalL C (.told md tab a :: es) env s = (evalE C (.told md tab a) env s).bind (kL C es env) := st_cons C rfl es env s
theorem sx_raise (c : Nat) (env : Env) (s : Sto) : exec C (.raise c) env s = .ex ⟨c, none⟩ s := by rw [exec]
def kTry (c : Nat) (w : W) (m : Out Fl) : Out Fl := match m with
  | .ex x s => if subX x.cls c then .ok (.rt w) s else .ex x s
  | o => o
theorem sx_tryR (b : List Sm) (c : Nat) (w : W) (env : Env) (s : Sto) : exec C (.tryR b c w) env s = kTry c w (execs C b env s) := by rw [exec]; rfl
theorem kTry_ok (c : Nat) (w : W) (f : Fl) (s : Sto) : kTry c w (.ok f s) = .ok f s := nrfl rfl
theorem kTry_ex (c : Nat) (w : W) (x : Exn) (s : Sto) : kTry c w (.ex x s) = if subX x.cls c then .ok (.rt w) s else .ex x s := nrfl rfl
theorem Tr.try {c : Nat} {w : W} {m : Out Fl} {Q : Fl → Sto → Prop} (h : Tr m Q) : Tr (kTry c w m) Q := by
  obtain ⟨a, s, rfl, q⟩ := h
  exact ⟨a, s, rfl, q⟩
end
end Mi

namespace Bd
open Mi PySem
def b_is_between : List Sm := [
  .ret (.and (.isin (.var 0) .int) (.and (.not (.isin (.var 0) .bool)) (.chain .le .le (.var 1) (.var 0) (.var 2))))]
def b_is_station (i_is_between : Nat) : List Sm := [
  .ifs (.or (.not (.isin (.var 0) .tuple)) (.or (.cmp .ne (.bi .len [(.var 0)]) (.cst (.int 3))) (.not (.call i_is_between [(.idx (.var 0) (.cst (.int 0))), (.cst (.int 1)), (.cst (.int 6))])))) [
    .ret (.cst (.bl false))] [],
  .ret (.and (.call i_is_between [(.idx (.var 0) (.cst (.int 1))), (.cst (.int 0)), (.cst (.int 24))]) (.call i_is_between [(.idx (.var 0) (.cst (.int 2))), (.cst (.int 0)), (.cst (.int 24))]))]
def b_are_stations (i_is_station : Nat) : List Sm := [
  .ifs (.or (.not (.isin (.var 0) .tuple)) (.not (.chain .le .le (.cst (.int 1)) (.bi .len [(.var 0)]) (.cst (.int 4))))) [
    .ret (.cst (.bl false))] [],
  .ret (.bi .all [(.comp [1] (.call i_is_station [(.var 1)]) (.nm 1) (.var 0) [])])]
def b_is_setting (i_is_between i_are_stations : Nat) : List Sm := [
  .ifs (.or (.not (.isin (.var 0) .tuple)) (.or (.cmp .ne (.bi .len [(.var 0)]) (.cst (.int 3))) (.not (.call i_is_between [(.idx (.var 0) (.cst (.int 0))), (.cst (.int 2)), (.cst (.int 24))])))) [
    .ret (.cst (.bl false))] [],
  .ret (.and (.call i_is_between [(.idx (.var 0) (.cst (.int 1))), (.cst (.int 1)), (.cst (.int 4))]) (.call i_are_stations [(.idx (.var 0) (.cst (.int 2)))]))]
def b_law_same : List Sm := [
  .ret (.cmp .eq (.bi .repr [(.var 0)]) (.bi .repr [(.var 1)]))]
def b_need_setting (i_is_setting : Nat) : List Sm := [
  .ifs (.not (.call i_is_setting [(.var 0)])) [
    .dead] []]
def b_load_of : List Sm := [
  .ret (.bin .sub (.bin .add (.bi .sum [(.comp [1, 2, 3] (.bin .add (.var 1) (.var 2)) (.tup [(.nm 1), (.nm 2), (.nm 3)]) (.idx (.var 0) (.cst (.int 2))) [])]) (.idx (.var 0) (.cst (.int 1)))) (.cst (.int 1)))]
def b_does_fit (i_load_of : Nat) : List Sm := [
  .ret (.cmp .le (.call i_load_of [(.var 0)]) (.idx (.var 0) (.cst (.int 0))))]
def b_first_of : List Sm := [
  .ret (.tup [(.cst (.int 0)), (.bin .mul (.tup [(.idx (.var 0) (.cst (.int 0)))]) (.bi .len [(.idx (.var 0) (.cst (.int 2)))]))])]
def b_round_from : List Sm := [
  .asg (.tup [(.nm 1), (.nm 2)]) (.var 0),
  .ret (.bin .add (.slc (.var 2) true (.var 1) false (.cst .non)) (.slc (.var 2) false (.cst .non) true (.var 1)))]
def b_is_state_of (i_is_between i_round_from : Nat) : List Sm := [
  .asg (.tup [(.nm 2), (.nm 3)]) (.tup [(.idx (.var 0) (.cst (.int 0))), (.bi .len [(.idx (.var 0) (.cst (.int 2)))])]),
  .ifs (.or (.not (.isin (.var 1) .tuple)) (.or (.cmp .ne (.bi .len [(.var 1)]) (.cst (.int 2))) (.not (.call i_is_between [(.idx (.var 1) (.cst (.int 0))), (.cst (.int 0)), (.bin .sub (.var 3) (.cst (.int 1)))])))) [
    .ret (.cst (.bl false))] [],
  .ifs (.or (.not (.isin (.idx (.var 1) (.cst (.int 1))) .tuple)) (.cmp .ne (.bi .len [(.idx (.var 1) (.cst (.int 1)))]) (.var 3))) [
    .ret (.cst (.bl false))] [],
  .ifs (.not (.bi .all [(.comp [5] (.call i_is_between [(.var 5), (.neg (.var 2)), (.var 2)]) (.nm 5) (.idx (.var 1) (.cst (.int 1))) [])])) [
    .ret (.cst (.bl false))] [],
  .asg (.nm 4) (.call i_round_from [(.var 1)]),
  .ret (.and (.bi .all [(.comp [6, 7] (.cmp .le (.var 6) (.var 7)) (.tup [(.nm 6), (.nm 7)]) (.zip (.var 4) (.slc (.var 4) true (.cst (.int 1)) false (.cst .non))) [])]) (.cmp .le (.idx (.var 4) (.neg (.cst (.int 1)))) (.bin .add (.idx (.var 4) (.cst (.int 0))) (.var 2))))]
def b_room_of : List Sm := [
  .asg (.tup [(.nm 2), (.nm 3)]) (.var 1),
  .ret (.bi .max [(.cst (.int 0)), (.bin .sub (.idx (.var 3) (.var 2)) (.idx (.idx (.idx (.var 0) (.cst (.int 2))) (.var 2)) (.cst (.int 2))))])]
def b_greatest_extra (i_room_of : Nat) : List Sm := [
  .asg (.nm 2) (.idx (.var 0) (.cst (.int 1))),
  .ret (.bin .mul (.bin .fdiv (.bin .sub (.bin .add (.call i_room_of [(.var 0), (.var 1)]) (.var 2)) (.cst (.int 1))) (.var 2)) (.var 2))]
def b_moved : List Sm := [
  .asg (.tup [(.nm 3), (.nm 4), (.nm 5)]) (.var 0),
  .asg (.tup [(.nm 6), (.nm 7)]) (.var 1),
  .asg (.nm 8) (.bin .add (.var 2) (.idx (.idx (.var 5) (.var 6)) (.cst (.int 0)))),
  .asg (.nm 9) (.ite (.cmp .gt (.idx (.var 7) (.var 6)) (.cst (.int 0))) (.var 3) (.bin .add (.idx (.var 7) (.var 6)) (.var 3))),
  .asg (.nm 10) (.bi .tuple [(.comp [11, 12] (.bin .sub (.ite (.cmp .eq (.var 11) (.var 6)) (.var 9) (.var 12)) (.var 8)) (.tup [(.nm 11), (.nm 12)]) (.enum (.var 7)) [])]),
  .asg (.nm 6) (.bin .mod (.bin .add (.var 6) (.cst (.int 1))) (.bi .len [(.var 5)])),
  .ret (.tup [(.var 8), (.ite (.cmp .ge (.idx (.var 10) (.var 6)) (.neg (.var 3))) (.tup [(.var 6), (.var 10)]) (.cst .non))])]
def b_choices (i_greatest_extra i_moved : Nat) : List Sm := [
  .par [false, true] [2, 3] [(.call i_greatest_extra [(.var 0), (.var 1)]), .mp0],
  .for_ (.nm 4) (.range (.cst (.int 0)) (.bin .add (.idx (.idx (.idx (.var 0) (.cst (.int 2))) (.idx (.var 1) (.cst (.int 0)))) (.cst (.int 1))) (.cst (.int 1)))) [
    .for_ (.nm 5) (.range3 (.cst (.int 0)) (.bin .add (.var 2) (.cst (.int 1))) (.idx (.var 0) (.cst (.int 1)))) [
      .ifs (.cmp .nin (.bin .add (.var 4) (.var 5)) (.var 3)) [
        .sts 3 (.bin .add (.var 4) (.var 5)) (.tup [(.var 4), (.var 5)])] []]],
  .asgN 6 (.lst []),
  .frz [3],
  .for_ (.tup [(.nm 7), (.nm 8)]) (.items (.var 3)) [
    .asg (.tup [(.nm 9), (.nm 10)]) (.call i_moved [(.var 0), (.var 1), (.var 7)]),
    .app 6 (.tup [(.var 8), (.var 9), (.var 10)])],
  .frz [6],
  .ret (.var 6)]
def b_came_up_v3 (i_choices : Nat) : List Sm := [
  .par [true, true, false, false] [2, 3, 4, 5] [(.mp1 (.var 1) (.cst .non)), (.lst [(.var 1)]), (.cst (.int 0)), (.cst .non)],
  .whl (.cmp .lt (.var 4) (.bi .len [(.var 3)])) [
    .par [false, false] [6, 4] [(.idx (.var 3) (.var 4)), (.bin .add (.var 4) (.cst (.int 1)))],
    .for_ (.tup [(.nm 7), (.nm 8), (.nm 9)]) (.call i_choices [(.var 0), (.var 6)]) [
      .ifs (.isN (.var 9)) [
        .asg (.nm 5) (.ite (.isN (.var 5)) (.tup [(.var 6), (.var 7)]) (.var 5))] [
        .ifs (.cmp .nin (.var 9) (.var 2)) [
          .ifs (.cmp .eq (.bi .len [(.var 3)]) (.cst (.int 500))) [
            .dead] [],
          .sts 2 (.var 9) (.tup [(.var 6), (.var 7)]),
          .app 3 (.var 9)] []]]],
  .frz [2],
  .ret (.tup [(.var 2), (.var 5)])]
def b_need_state (i_is_state_of : Nat) : List Sm := [
  .ifs (.not (.call i_is_state_of [(.var 0), (.var 1)])) [
    .dead] []]
def b_is_wish_for (i_is_between : Nat) : List Sm := [
  .ifs (.or (.not (.isin (.var 1) .tuple)) (.or (.cmp .ne (.bi .len [(.var 1)]) (.cst (.int 2))) (.not (.call i_is_between [(.idx (.var 1) (.cst (.int 0))), (.cst (.int 0)), (.idx (.var 0) (.cst (.int 1)))])))) [
    .ret (.cst (.bl false))] [],
  .ret (.or (.isN (.idx (.var 1) (.cst (.int 1)))) (.call i_is_between [(.idx (.var 1) (.cst (.int 1))), (.cst (.int 0)), (.cst (.int 99))]))]
def b_is_wish_of (i_is_wish_for : Nat) : List Sm := [
  .ifs (.or (.not (.isin (.var 1) .tuple)) (.cmp .ne (.bi .len [(.var 1)]) (.bi .len [(.idx (.var 0) (.cst (.int 2)))]))) [
    .ret (.cst (.bl false))] [],
  .ret (.bi .all [(.comp [2, 3] (.call i_is_wish_for [(.var 2), (.var 3)]) (.tup [(.nm 2), (.nm 3)]) (.zip (.idx (.var 0) (.cst (.int 2))) (.var 1)) [])])]
def b_need_wish (i_need_setting i_is_wish_of : Nat) : List Sm := [
  .exp (.call i_need_setting [(.var 0)]),
  .ifs (.not (.call i_is_wish_of [(.var 0), (.var 1)])) [
    .dead] []]
def b_wished_of (i_greatest_extra : Nat) : List Sm := [
  .asg (.tup [(.nm 3), (.nm 4)]) (.idx (.var 1) (.idx (.var 2) (.cst (.int 0)))),
  .asg (.nm 5) (.call i_greatest_extra [(.var 0), (.var 2)]),
  .ifs (.notN (.var 4)) [
    .asg (.nm 5) (.bi .min [(.var 5), (.bin .mul (.bin .fdiv (.var 4) (.idx (.var 0) (.cst (.int 1)))) (.idx (.var 0) (.cst (.int 1))))])] [],
  .ret (.tup [(.var 3), (.var 5)])]
def b_wished (i_need_wish i_need_state i_wished_of : Nat) : List Sm := [
  .exp (.call i_need_wish [(.var 0), (.var 1)]),
  .exp (.call i_need_state [(.var 0), (.var 2)]),
  .ret (.call i_wished_of [(.var 0), (.var 1), (.var 2)])]
def b_web_of_v2 (i_came_up i_first_of i_choices : Nat) : List Sm := [
  .asgN 1 .mp0,
  .for_ (.nm 2) (.idx (.call i_came_up [(.var 0), (.call i_first_of [(.var 0)])]) (.cst (.int 0))) [
    .sts 1 (.var 2) (.comp [3] (.var 3) (.nm 3) (.call i_choices [(.var 0), (.var 2)]) [(.notN (.idx (.var 3) (.cst (.int 2))))])],
  .frz [1],
  .ret (.var 1)]
def b_one_more : List Sm := [
  .asgN 2 .mp0,
  .for_ (.tup [(.nm 3), (.nm 4)]) (.items (.var 0)) [
    .asgN 5 (.comp [6, 7, 8] (.bin .add (.var 7) (.idx (.var 1) (.var 8))) (.tup [(.nm 6), (.nm 7), (.nm 8)]) (.var 4) [(.cmp .in_ (.var 8) (.var 1))]),
    .ifs (.cmp .ne (.var 5) (.lst [])) [
      .sts 2 (.var 3) (.bi .max [(.var 5)])] []],
  .frz [2],
  .ret (.var 2)]
def b_greatest_with : List Sm := [
  .asgN 2 (.comp [3, 4] (.var 4) (.tup [(.nm 3), (.nm 4)]) (.items (.var 0)) [(.cmp .eq (.idx (.var 3) (.cst (.int 0))) (.var 1))]),
  .ret (.ite (.cmp .ne (.var 2) (.lst [])) (.bi .max [(.var 2)]) (.cst .non))]
def b_sure_of_v2 (i_web_of i_one_more i_greatest_with : Nat) : List Sm := [
  .asg (.nm 3) (.call i_web_of [(.var 0)]),
  .asgN 4 (.dcomp [8] (.var 8) (.cst (.int 0)) (.nm 8) (.var 3) []),
  .for_ (.nm 5) (.range (.cst (.int 0)) (.var 2)) [
    .for_ (.nm 6) (.idx (.var 0) (.cst (.int 2))) [
      .frz [4],
      .asg (.nm 4) (.call i_one_more [(.var 3), (.var 4)])],
    .frz [4],
    .asg (.nm 7) (.call i_greatest_with [(.var 4), (.var 1)]),
    .ifs (.and (.notN (.var 7)) (.cmp .gt (.var 7) (.var 2))) [
      .ret (.var 5)] []],
  .ret (.var 2)]
def b_promised_of (i_load_of i_does_fit : Nat) : List Sm := [
  .asg (.nm 2) (.call i_load_of [(.var 0)]),
  .ifs (.or (.not (.call i_does_fit [(.var 0)])) (.cmp .lt (.var 1) (.var 2))) [
    .ret (.cst (.int 0))] [],
  .ret (.bin .fdiv (.bin .sub (.var 1) (.var 2)) (.idx (.var 0) (.cst (.int 0))))]
def b_is_message (i_is_between : Nat) : List Sm := [
  .ifs (.or (.not (.isin (.var 0) .tuple)) (.cmp .ne (.bi .len [(.var 0)]) (.cst (.int 2)))) [
    .ret (.cst (.bl false))] [],
  .ret (.and (.call i_is_between [(.idx (.var 0) (.cst (.int 0))), (.cst (.int 1)), (.cst (.int 60))]) (.call i_is_between [(.idx (.var 0) (.cst (.int 1))), (.cst (.int 0)), (.cst (.int 99))]))]
def b_is_place (i_is_between : Nat) : List Sm := [
  .ifs (.or (.not (.isin (.var 0) .tuple)) (.cmp .ne (.bi .len [(.var 0)]) (.cst (.int 2)))) [
    .ret (.cst (.bl false))] [],
  .ret (.and (.call i_is_between [(.idx (.var 0) (.cst (.int 0))), (.cst (.int 1)), (.cst (.int 6))]) (.call i_is_between [(.idx (.var 0) (.cst (.int 1))), (.cst (.int 0)), (.cst (.int 24))]))]
def b_served (i_need_setting i_need_messages i_sure_of : Nat) : List Sm := [
  .exp (.call i_need_setting [(.var 0)]),
  .exp (.call i_need_messages [(.var 1), (.bi .len [(.idx (.var 0) (.cst (.int 2)))])]),
  .asgN 2 (.lst []),
  .for_ (.tup [(.nm 3), (.tup [(.nm 4), (.nm 5)])]) (.enum (.var 1)) [
    .app 2 (.cmp .ge (.bin .mul (.idx (.idx (.idx (.var 0) (.cst (.int 2))) (.var 3)) (.cst (.int 1))) (.call i_sure_of [(.var 0), (.var 3), (.var 4)])) (.var 5))],
  .ret (.bi .tuple [(.var 2)])]
def b_with_allots : List Sm := [
  .asgN 4 (.comp [5, 6, 7] (.tup [(.var 5), (.var 7), (.var 6)]) (.tup [(.tup [(.nm 5), (.nm 6)]), (.nm 7)]) (.zip (.var 2) (.var 3)) []),
  .ret (.tup [(.var 0), (.var 1), (.bi .tuple [(.var 4)])])]
def b_shared : List Sm := [
  .ret (.bin .fdiv (.bin .sub (.bin .add (.var 0) (.var 1)) (.cst (.int 1))) (.var 1))]
def b_allotted_by (i_shared i_with_allots i_does_fit i_load_of : Nat) : List Sm := [
  .for_ (.tup [(.nm 4), (.tup [(.nm 5), (.nm 6)])]) (.enum (.var 3)) [
    .ifs (.and (.cmp .gt (.var 6) (.cst (.int 0))) (.cmp .lt (.bin .fdiv (.var 5) (.var 0)) (.cst (.int 2)))) [
      .ret (.tup [(.cst (.str "late")), (.var 4)])] []],
  .asg (.nm 7) (.bi .tuple [(.comp [5, 6] (.ite (.cmp .gt (.var 6) (.cst (.int 0))) (.call i_shared [(.var 6), (.bin .sub (.bin .fdiv (.var 5) (.var 0)) (.cst (.int 1)))]) (.cst (.int 0))) (.tup [(.nm 5), (.nm 6)]) (.var 3) [])]),
  .asg (.nm 8) (.call i_with_allots [(.var 0), (.var 1), (.var 2), (.var 7)]),
  .ret (.ite (.call i_does_fit [(.var 8)]) (.tup [(.cst (.str "allots")), (.var 7)]) (.tup [(.cst (.str "over")), (.call i_load_of [(.var 8)])]))]
def b_allotted (i_need_target i_need_rest i_allotted_by : Nat) : List Sm := [
  .exp (.call i_need_target [(.var 0)]),
  .exp (.call i_need_rest [(.var 1), (.var 2), (.var 3)]),
  .ret (.call i_allotted_by [(.var 0), (.var 1), (.var 2), (.var 3)])]
def b_targets (i_need_rest i_allotted_by : Nat) : List Sm := [
  .exp (.call i_need_rest [(.var 0), (.var 1), (.var 2)]),
  .asgN 3 (.lst []),
  .for_ (.nm 4) (.range (.cst (.int 2)) (.bin .add (.cst (.int 24)) (.cst (.int 1)))) [
    .ifs (.cmp .eq (.idx (.call i_allotted_by [(.var 4), (.var 0), (.var 1), (.var 2)]) (.cst (.int 0))) (.cst (.str "allots"))) [
      .app 3 (.var 4)] []],
  .ret (.bi .tuple [(.var 3)])]
def b_raised (i_promised_of i_shared : Nat) : List Sm := [
  .asgN 2 (.lst []),
  .for_ (.tup [(.tup [(.nm 3), (.nm 4), (.nm 5)]), (.tup [(.nm 6), (.nm 7)])]) (.zip (.idx (.var 0) (.cst (.int 2))) (.var 1)) [
    .asg (.nm 8) (.call i_promised_of [(.var 0), (.var 6)]),
    .ifs (.cmp .ge (.bin .mul (.var 4) (.var 8)) (.var 7)) [
      .app 2 (.var 4)] [
      .ifs (.cmp .eq (.var 8) (.cst (.int 0))) [
        .ret (.cst .non)] [
        .app 2 (.call i_shared [(.var 7), (.var 8)])]]],
  .ret (.bi .tuple [(.var 2)])]
def b_least_allots (i_need_target i_need_rest i_with_allots i_does_fit i_raised : Nat) : List Sm := [
  .exp (.call i_need_target [(.var 0)]),
  .exp (.call i_need_rest [(.var 1), (.var 2), (.var 3)]),
  .par [false, false] [4, 5] [(.cst .non), (.bin .mul (.tup [(.cst (.int 0))]) (.bi .len [(.var 2)]))],
  .whl (.and (.cmp .ne (.var 4) (.var 5)) (.notN (.var 5))) [
    .asg (.nm 4) (.var 5),
    .asg (.nm 6) (.call i_with_allots [(.var 0), (.var 1), (.var 2), (.var 4)]),
    .asg (.nm 5) (.ite (.call i_does_fit [(.var 6)]) (.call i_raised [(.var 6), (.var 3)]) (.cst .non))],
  .ret (.var 5)]
def b_after (i_wished_of i_moved : Nat) : List Sm := [
  .asg (.tup [(.nm 3), (.nm 4)]) (.call i_wished_of [(.var 0), (.var 1), (.var 2)]),
  .ret (.idx (.call i_moved [(.var 0), (.var 2), (.bin .add (.var 3) (.var 4))]) (.cst (.int 1)))]
def b_steps_from (i_after : Nat) : List Sm := [
  .par [true, true] [3, 4] [.mp0, (.lst [])],
  .whl (.and (.notN (.var 2)) (.cmp .nin (.var 2) (.var 3))) [
    .sts 3 (.var 2) (.bi .len [(.var 4)]),
    .app 4 (.var 2),
    .asg (.nm 2) (.call i_after [(.var 0), (.var 1), (.var 2)])],
  .frz [4],
  .ret (.tup [(.var 4), (.get (.var 3) (.var 2))])]
def b_steady (i_need_wish i_steps_from i_first_of : Nat) : List Sm := [
  .exp (.call i_need_wish [(.var 0), (.var 1)]),
  .asg (.tup [(.nm 2), (.nm 3)]) (.call i_steps_from [(.var 0), (.var 1), (.call i_first_of [(.var 0)])]),
  .ifs (.isN (.var 3)) [
    .ret (.tup [(.cst (.str "lost")), (.bi .len [(.var 2)])])] [],
  .ret (.tup [(.cst (.str "round")), (.var 3), (.bi .tuple [(.slc (.var 2) true (.var 3) false (.cst .non))])])]
def b_rates_of (i_wished_of i_moved : Nat) : List Sm := [
  .par [false, true] [3, 4] [(.cst (.int 0)), (.mulL (.lst [(.tup [(.cst (.int 0)), (.cst (.int 0))])]) (.bi .len [(.idx (.var 0) (.cst (.int 2)))]))],
  .for_ (.nm 5) (.var 2) [
    .asg (.tup [(.nm 6), (.nm 7)]) (.call i_wished_of [(.var 0), (.var 1), (.var 5)]),
    .asg (.nm 3) (.bin .add (.var 3) (.idx (.call i_moved [(.var 0), (.var 5), (.bin .add (.var 6) (.var 7))]) (.cst (.int 0)))),
    .asg (.nm 8) (.idx (.var 4) (.idx (.var 5) (.cst (.int 0)))),
    .sts 4 (.idx (.var 5) (.cst (.int 0))) (.tup [(.bin .add (.idx (.var 8) (.cst (.int 0))) (.var 6)), (.bin .add (.idx (.var 8) (.cst (.int 1))) (.var 7))])],
  .ret (.tup [(.var 3), (.bin .fdiv (.bi .len [(.var 2)]) (.bi .len [(.idx (.var 0) (.cst (.int 2)))])), (.bi .tuple [(.var 4)])])]
def b_rates (i_need_wish i_steps_from i_first_of i_rates_of : Nat) : List Sm := [
  .exp (.call i_need_wish [(.var 0), (.var 1)]),
  .asg (.tup [(.nm 2), (.nm 3)]) (.call i_steps_from [(.var 0), (.var 1), (.call i_first_of [(.var 0)])]),
  .ret (.ite (.isN (.var 3)) (.cst .non) (.call i_rates_of [(.var 0), (.var 1), (.slc (.var 2) true (.var 3) false (.cst .non))]))]
def b_rounds_v2 (i_need_wish i_came_up i_first_of i_after i_rates_of : Nat) : List Sm := [
  .exp (.call i_need_wish [(.var 0), (.var 1)]),
  .par [true, true] [2, 3] [.mp0, (.lst [])],
  .for_ (.nm 4) (.idx (.call i_came_up [(.var 0), (.call i_first_of [(.var 0)])]) (.cst (.int 0))) [
    .asgN 5 (.lst []),
    .whl (.and (.notN (.var 4)) (.cmp .nin (.var 4) (.var 2))) [
      .sts 2 (.var 4) (.cst (.bl true)),
      .app 5 (.var 4),
      .asg (.nm 4) (.call i_after [(.var 0), (.var 1), (.var 4)])],
    .ifs (.cmp .in_ (.var 4) (.var 5)) [
      .asg (.nm 6) (.slc (.var 5) true (.ixOf (.var 5) (.var 4)) false (.cst .non)),
      .app 3 (.tup [(.bi .min [(.var 6)]), (.star (.slc (.call i_rates_of [(.var 0), (.var 1), (.var 6)]) false (.cst .non) true (.cst (.int 2))))])] []],
  .ret (.bi .tuple [(.bi .sorted [(.var 3)])])]
def b_need_messages (i_is_message : Nat) : List Sm := [
  .ifs (.or (.not (.isin (.var 0) .tuple)) (.or (.cmp .ne (.bi .len [(.var 0)]) (.var 1)) (.not (.bi .all [(.comp [2] (.call i_is_message [(.var 2)]) (.nm 2) (.var 0) [])])))) [
    .dead] []]
def b_need_target (i_is_between : Nat) : List Sm := [
  .ifs (.not (.call i_is_between [(.var 0), (.cst (.int 2)), (.cst (.int 24))])) [
    .dead] []]
def b_need_rest (i_is_between i_is_place i_need_messages : Nat) : List Sm := [
  .ifs (.not (.call i_is_between [(.var 0), (.cst (.int 1)), (.cst (.int 4))])) [
    .dead] [],
  .ifs (.or (.not (.isin (.var 1) .tuple)) (.not (.chain .le .le (.cst (.int 1)) (.bi .len [(.var 1)]) (.cst (.int 4))))) [
    .dead] [],
  .ifs (.not (.bi .all [(.comp [3] (.call i_is_place [(.var 3)]) (.nm 3) (.var 1) [])])) [
    .dead] [],
  .exp (.call i_need_messages [(.var 2), (.bi .len [(.var 1)])])]
def b_law_wishes_right (i__law_same i_steady i_rates i_rounds : Nat) : List Sm := [
  .asg (.nm 0) (.tup [(.cst (.int 4)), (.cst (.int 1)), (.tup [(.tup [(.cst (.int 1)), (.cst (.int 0)), (.cst (.int 0))]), (.tup [(.cst (.int 1)), (.cst (.int 0)), (.cst (.int 0))])])]),
  .asg (.nm 1) (.tup [(.tup [(.cst (.int 1)), (.tup [(.cst (.int 2)), (.cst (.int 1))])]), (.tup [(.cst (.int 0)), (.tup [(.cst (.int 0)), (.cst (.int 2))])]), (.tup [(.cst (.int 1)), (.tup [(.cst (.int 3)), (.cst (.int 1))])]), (.tup [(.cst (.int 0)), (.tup [(.cst (.int 1)), (.cst (.int 2))])]), (.tup [(.cst (.int 1)), (.tup [(.cst (.int 2)), (.cst (.int 0))])]), (.tup [(.cst (.int 0)), (.tup [(.cst (.int 1)), (.cst (.int 3))])])]),
  .ifs (.not (.call i__law_same [(.call i_steady [(.var 0), (.tup [(.tup [(.cst (.int 0)), (.cst .non)]), (.tup [(.cst (.int 0)), (.cst .non)])])]), (.tup [(.cst (.str "round")), (.cst (.int 5)), (.var 1)])])) [
    .ret (.cst (.bl false))] [],
  .ifs (.not (.call i__law_same [(.call i_steady [(.var 0), (.tup [(.tup [(.cst (.int 0)), (.cst (.int 1))]), (.tup [(.cst (.int 0)), (.cst (.int 1))])])]), (.tup [(.cst (.str "round")), (.cst (.int 2)), (.bin .add (.slc (.var 1) true (.cst (.int 1)) false (.cst .non)) (.slc (.var 1) false (.cst .non) true (.cst (.int 1))))])])) [
    .ret (.cst (.bl false))] [],
  .ifs (.not (.call i__law_same [(.call i_rates [(.var 0), (.tup [(.tup [(.cst (.int 0)), (.cst (.int 1))]), (.tup [(.cst (.int 0)), (.cst (.int 1))])])]), (.tup [(.cst (.int 10)), (.cst (.int 3)), (.tup [(.tup [(.cst (.int 0)), (.cst (.int 2))]), (.tup [(.cst (.int 0)), (.cst (.int 2))])])])])) [
    .ret (.cst (.bl false))] [],
  .ifs (.cmp .nin (.tup [(.tup [(.cst (.int 0)), (.tup [(.cst (.int 0)), (.cst (.int 2))])]), (.cst (.int 10)), (.cst (.int 3))]) (.call i_rounds [(.var 0), (.tup [(.tup [(.cst (.int 0)), (.cst .non)]), (.tup [(.cst (.int 0)), (.cst .non)])])])) [
    .ret (.cst (.bl false))] [],
  .ifs (.not (.call i__law_same [(.call i_steady [(.var 0), (.tup [(.tup [(.cst (.int 0)), (.cst (.int 0))]), (.tup [(.cst (.int 0)), (.cst (.int 0))])])]), (.tup [(.cst (.str "round")), (.cst (.int 2)), (.tup [(.tup [(.cst (.int 0)), (.tup [(.cst (.int 2)), (.cst (.int 3))])]), (.tup [(.cst (.int 1)), (.tup [(.cst (.int 3)), (.cst (.int 2))])])])])])) [
    .ret (.cst (.bl false))] [],
  .ret (.call i__law_same [(.call i_rates [(.var 0), (.tup [(.tup [(.cst (.int 0)), (.cst (.int 0))]), (.tup [(.cst (.int 0)), (.cst (.int 0))])])]), (.tup [(.cst (.int 2)), (.cst (.int 1)), (.tup [(.tup [(.cst (.int 0)), (.cst (.int 0))]), (.tup [(.cst (.int 0)), (.cst (.int 0))])])])])]
def b_law_others_right (i__law_same i_steady i_rates i_wished i_rounds i_served : Nat) : List Sm := [
  .asg (.nm 0) (.tup [(.cst (.int 6)), (.cst (.int 2)), (.tup [(.tup [(.cst (.int 1)), (.cst (.int 1)), (.cst (.int 2))]), (.tup [(.cst (.int 2)), (.cst (.int 0)), (.cst (.int 0))])])]),
  .asg (.nm 1) (.tup [(.tup [(.cst (.int 1)), (.tup [(.cst (.int 4)), (.cst (.int 2))])]), (.tup [(.cst (.int 0)), (.tup [(.cst (.int 0)), (.cst (.int 2))])]), (.tup [(.cst (.int 1)), (.tup [(.cst (.int 4)), (.cst (.int 0))])]), (.tup [(.cst (.int 0)), (.tup [(.cst (.int 2)), (.cst (.int 4))])])]),
  .ifs (.not (.call i__law_same [(.call i_steady [(.var 0), (.tup [(.tup [(.cst (.int 1)), (.cst .non)]), (.tup [(.cst (.int 0)), (.cst (.int 3))])])]), (.tup [(.cst (.str "round")), (.cst (.int 7)), (.var 1)])])) [
    .ret (.cst (.bl false))] [],
  .ifs (.not (.call i__law_same [(.call i_rates [(.var 0), (.tup [(.tup [(.cst (.int 1)), (.cst .non)]), (.tup [(.cst (.int 0)), (.cst (.int 3))])])]), (.tup [(.cst (.int 10)), (.cst (.int 2)), (.tup [(.tup [(.cst (.int 2)), (.cst (.int 0))]), (.tup [(.cst (.int 0)), (.cst (.int 2))])])])])) [
    .ret (.cst (.bl false))] [],
  .ifs (.not (.call i__law_same [(.call i_wished [(.var 0), (.tup [(.tup [(.cst (.int 1)), (.cst (.int 3))]), (.tup [(.cst (.int 0)), (.cst (.int 3))])]), (.tup [(.cst (.int 0)), (.tup [(.cst (.int 6)), (.cst (.int 6))])])]), (.tup [(.cst (.int 1)), (.cst (.int 2))])])) [
    .ret (.cst (.bl false))] [],
  .asg (.nm 2) (.tup [(.cst (.int 2)), (.cst (.int 1)), (.tup [(.tup [(.cst (.int 3)), (.cst (.int 0)), (.cst (.int 0))])])]),
  .asgN 3 (.lst [(.call i_steady [(.var 2), (.tup [(.tup [(.cst (.int 0)), (.cst (.int 0))])])]), (.call i_rates [(.var 2), (.tup [(.tup [(.cst (.int 0)), (.cst (.int 0))])])]), (.call i_rounds [(.var 2), (.tup [(.tup [(.cst (.int 0)), (.cst (.int 0))])])])]),
  .frz [3],
  .ifs (.not (.call i__law_same [(.var 3), (.lst [(.tup [(.cst (.str "lost")), (.cst (.int 3))]), (.cst .non), (.tup [])])])) [
    .ret (.cst (.bl false))] [],
  .ret (.call i__law_same [(.call i_served [(.tup [(.cst (.int 4)), (.cst (.int 1)), (.tup [(.tup [(.cst (.int 1)), (.cst (.int 0)), (.cst (.int 0))]), (.tup [(.cst (.int 1)), (.cst (.int 0)), (.cst (.int 0))])])]), (.tup [(.tup [(.cst (.int 9)), (.cst (.int 0))]), (.tup [(.cst (.int 9)), (.cst (.int 1))])])]), (.tup [(.cst (.bl true)), (.cst (.bl false))])])]
def b_law_messages_right (i_allotted i__law_same i_targets i_least_allots i_served : Nat) : List Sm := [
  .asg (.tup [(.nm 0), (.nm 1)]) (.tup [(.tup [(.tup [(.cst (.int 1)), (.cst (.int 0))]), (.tup [(.cst (.int 1)), (.cst (.int 0))])]), (.tup [(.tup [(.cst (.int 20)), (.cst (.int 2))]), (.tup [(.cst (.int 30)), (.cst (.int 1))])])]),
  .asgN 2 (.comp [4] (.call i_allotted [(.var 4), (.cst (.int 1)), (.var 0), (.var 1)]) (.nm 4) (.lst [(.cst (.int 3)), (.cst (.int 4)), (.cst (.int 7)), (.cst (.int 10)), (.cst (.int 11))]) []),
  .asgN 3 (.lst [(.tup [(.cst (.str "over")), (.cst (.int 4))]), (.tup [(.cst (.str "allots")), (.tup [(.cst (.int 1)), (.cst (.int 1))])]), (.tup [(.cst (.str "allots")), (.tup [(.cst (.int 2)), (.cst (.int 1))])]), (.tup [(.cst (.str "allots")), (.tup [(.cst (.int 2)), (.cst (.int 1))])]), (.tup [(.cst (.str "late")), (.cst (.int 0))])]),
  .frz [2, 3],
  .ifs (.or (.not (.call i__law_same [(.var 2), (.var 3)])) (.not (.call i__law_same [(.call i_targets [(.cst (.int 1)), (.var 0), (.var 1)]), (.tup [(.cst (.int 4)), (.cst (.int 5)), (.cst (.int 6)), (.cst (.int 7)), (.cst (.int 8)), (.cst (.int 9)), (.cst (.int 10))])]))) [
    .ret (.cst (.bl false))] [],
  .asgN 2 (.comp [4] (.call i_least_allots [(.var 4), (.cst (.int 1)), (.var 0), (.var 1)]) (.nm 4) (.lst [(.cst (.int 3)), (.cst (.int 4)), (.cst (.int 7)), (.cst (.int 10)), (.cst (.int 18))]) []),
  .frz [2],
  .ifs (.not (.call i__law_same [(.var 2), (.lst [(.cst .non), (.tup [(.cst (.int 1)), (.cst (.int 1))]), (.tup [(.cst (.int 1)), (.cst (.int 1))]), (.tup [(.cst (.int 2)), (.cst (.int 1))]), (.cst .non)])])) [
    .ret (.cst (.bl false))] [],
  .ifs (.not (.call i__law_same [(.call i_targets [(.cst (.int 1)), (.var 0), (.tup [(.tup [(.cst (.int 12)), (.cst (.int 4))]), (.tup [(.cst (.int 20)), (.cst (.int 3))])])]), (.tup [])])) [
    .ret (.cst (.bl false))] [],
  .ret (.call i__law_same [(.call i_served [(.tup [(.cst (.int 4)), (.cst (.int 1)), (.tup [(.tup [(.cst (.int 1)), (.cst (.int 1)), (.cst (.int 0))]), (.tup [(.cst (.int 1)), (.cst (.int 1)), (.cst (.int 0))])])]), (.var 1)]), (.tup [(.cst (.bl true)), (.cst (.bl true))])])]
def b_law_v67 (i__law_wishes_right i__law_others_right i__law_messages_right : Nat) : List Sm := [
  .thru [
    .ret (.and (.call i__law_wishes_right []) (.and (.call i__law_others_right []) (.call i__law_messages_right [])))]]
end Bd
namespace Lw
open PySem PySem.Spec PyProof.Rows L2 Mi
def ds : List Dfn := [⟨3, 3, Bd.b_is_between⟩, ⟨1, 1, Bd.b_is_station 0⟩, ⟨1, 2, Bd.b_are_stations 1⟩, ⟨1, 1, Bd.b_is_setting 0 2⟩, ⟨1, 1, Bd.b_need_setting 3⟩, ⟨1, 4, Bd.b_load_of⟩, ⟨1, 1, Bd.b_does_fit 5⟩, ⟨1, 1, Bd.b_first_of⟩, ⟨1, 3, Bd.b_round_from⟩, ⟨2, 8, Bd.b_is_state_of 0 8⟩, ⟨2, 2, Bd.b_need_state 9⟩, ⟨2, 4, Bd.b_room_of⟩, ⟨2, 3, Bd.b_greatest_extra 11⟩, ⟨3, 13, Bd.b_moved⟩, ⟨2, 11, Bd.b_choices 12 13⟩, ⟨2, 10, Bd.b_came_up_v3 14⟩, ⟨2, 2, Bd.b_is_wish_for 0⟩, ⟨2, 4, Bd.b_is_wish_of 16⟩, ⟨2, 2, Bd.b_need_wish 4 17⟩, ⟨3, 6, Bd.b_wished_of 12⟩, ⟨3, 3, Bd.b_wished 18 10 19⟩, ⟨3, 5, Bd.b_after 19 13⟩, ⟨3, 5, Bd.b_steps_from 21⟩, ⟨2, 4, Bd.b_steady 18 22 7⟩, ⟨3, 9, Bd.b_rates_of 19 13⟩, ⟨2, 4, Bd.b_rates 18 22 7 24⟩, ⟨2, 7, Bd.b_rounds_v2 18 15 7 21 24⟩, ⟨1, 4, Bd.b_web_of_v2 15 7 14⟩, ⟨2, 9, Bd.b_one_more⟩, ⟨2, 5, Bd.b_greatest_with⟩, ⟨3, 9, Bd.b_sure_of_v2 27 28 29⟩, ⟨2, 3, Bd.b_promised_of 5 6⟩, ⟨1, 1, Bd.b_is_message 0⟩, ⟨2, 3, Bd.b_need_messages 32⟩, ⟨1, 1, Bd.b_is_place 0⟩, ⟨1, 1, Bd.b_need_target 0⟩, ⟨3, 4, Bd.b_need_rest 0 34 33⟩, ⟨2, 6, Bd.b_served 4 33 30⟩, ⟨4, 8, Bd.b_with_allots⟩, ⟨2, 2, Bd.b_shared⟩, ⟨4, 9, Bd.b_allotted_by 39 38 6 5⟩, ⟨4, 4, Bd.b_allotted 35 36 40⟩, ⟨3, 5, Bd.b_targets 36 40⟩, ⟨2, 9, Bd.b_raised 31 39⟩, ⟨4, 7, Bd.b_least_allots 35 36 38 6 43⟩, ⟨2, 2, Bd.b_law_same⟩, ⟨0, 2, Bd.b_law_wishes_right 45 23 25 26⟩, ⟨0, 4, Bd.b_law_others_right 45 23 25 20 26 37⟩, ⟨0, 5, Bd.b_law_messages_right 41 45 42 44 37⟩, ⟨1, 1, Bd.b_law_v67 46 47 48⟩]
def d_is_between : DI := ⟨17, "is_between", ["thing", "low", "high"], ["thing", "low", "high"], [], false, false, false⟩
def d_is_station : DI := ⟨18, "is_station", ["thing"], ["thing"], [], false, false, false⟩
def d_are_stations : DI := ⟨19, "are_stations", ["thing"], ["thing", "one"], [], false, false, false⟩
def d_is_setting : DI := ⟨20, "is_setting", ["thing"], ["thing"], [], false, false, false⟩
def d_need_setting : DI := ⟨21, "need_setting", ["thing"], ["thing"], [], false, false, false⟩
def d_load_of : DI := ⟨22, "load_of", ["setting"], ["setting", "walk", "allot", "floor"], [], false, false, false⟩
def d_does_fit : DI := ⟨23, "does_fit", ["setting"], ["setting"], [], false, false, false⟩
def d_first_of : DI := ⟨24, "first_of", ["setting"], ["setting"], [], false, false, false⟩
def d_round_from : DI := ⟨25, "round_from", ["state"], ["state", "who", "dues"], [], false, false, false⟩
def d_is_state_of : DI := ⟨26, "is_state_of", ["setting", "thing"], ["setting", "thing", "target", "many", "dues", "due", "one", "other"], [], false, false, false⟩
def d_need_state : DI := ⟨27, "need_state", ["setting", "thing"], ["setting", "thing"], [], false, false, false⟩
def d_room_of : DI := ⟨29, "room_of", ["setting", "state"], ["setting", "state", "who", "dues"], [], false, false, false⟩
def d_greatest_extra : DI := ⟨30, "greatest_extra", ["setting", "state"], ["setting", "state", "frame"], [], false, false, false⟩
def d_moved : DI := ⟨31, "moved", ["setting", "state", "sent"], ["setting", "state", "sent", "target", "frame", "stations", "who", "dues", "ticks", "anew", "later", "at", "due"], [], false, false, false⟩
def d_choices : DI := ⟨34, "choices", ["setting", "state"], ["setting", "state", "most", "found", "own", "extra", "rows", "sent", "pair", "ticks", "later"], [3, 6], false, false, false⟩
def d_came_up : DI := ⟨35, "came_up", ["setting", "state"], ["setting", "state", "before", "line", "at", "loss", "here", "pair", "ticks", "later"], [2, 3], false, false, false⟩
def d_is_wish_for : DI := ⟨40, "is_wish_for", ["station", "thing"], ["station", "thing"], [], false, false, false⟩
def d_is_wish_of : DI := ⟨41, "is_wish_of", ["setting", "thing"], ["setting", "thing", "station", "pair"], [], false, false, false⟩
def d_need_wish : DI := ⟨42, "need_wish", ["setting", "wish"], ["setting", "wish"], [], false, false, false⟩
def d_wished_of : DI := ⟨43, "wished_of", ["setting", "wish", "state"], ["setting", "wish", "state", "own", "bound", "extra"], [], false, false, false⟩
def d_wished : DI := ⟨44, "wished", ["setting", "wish", "state"], ["setting", "wish", "state"], [], false, false, false⟩
def d_after : DI := ⟨45, "after", ["setting", "wish", "state"], ["setting", "wish", "state", "own", "extra"], [], false, false, false⟩
def d_steps_from : DI := ⟨46, "steps_from", ["setting", "wish", "state"], ["setting", "wish", "state", "known", "line"], [3, 4], false, false, false⟩
def d_steady : DI := ⟨47, "steady", ["setting", "wish"], ["setting", "wish", "line", "begin"], [], false, false, false⟩
def d_rates_of : DI := ⟨48, "rates_of", ["setting", "wish", "states"], ["setting", "wish", "states", "ticks", "sent", "state", "own", "extra", "before"], [4], false, false, false⟩
def d_rates : DI := ⟨49, "rates", ["setting", "wish"], ["setting", "wish", "line", "begin"], [], false, false, false⟩
def d_rounds : DI := ⟨50, "rounds", ["setting", "wish"], ["setting", "wish", "known", "found", "state", "line", "states"], [2, 3, 5], false, false, false⟩
def d_web_of : DI := ⟨52, "web_of", ["setting"], ["setting", "web", "state", "one"], [1], false, false, false⟩
def d_one_more : DI := ⟨53, "one_more", ["web", "best"], ["web", "best", "found", "state", "rows", "sums", "pair", "ticks", "later"], [2, 5], false, false, false⟩
def d_greatest_with : DI := ⟨54, "greatest_with", ["best", "number"], ["best", "number", "found", "state", "ticks"], [2], false, false, false⟩
def d_sure_of : DI := ⟨55, "sure_of", ["setting", "number", "span"], ["setting", "number", "span", "web", "best", "turn", "station", "ticks", "state"], [4], false, false, false⟩
def d_promised_of : DI := ⟨56, "promised_of", ["setting", "span"], ["setting", "span", "most"], [], false, false, false⟩
def d_is_message : DI := ⟨63, "is_message", ["thing"], ["thing"], [], false, false, false⟩
def d_need_messages : DI := ⟨64, "need_messages", ["thing", "many"], ["thing", "many", "one"], [], false, false, false⟩
def d_is_place : DI := ⟨65, "is_place", ["thing"], ["thing"], [], false, false, false⟩
def d_need_target : DI := ⟨66, "need_target", ["thing"], ["thing"], [], false, false, false⟩
def d_need_rest : DI := ⟨67, "need_rest", ["frame", "places", "messages"], ["frame", "places", "messages", "one"], [], false, false, false⟩
def d_served : DI := ⟨68, "served", ["setting", "messages"], ["setting", "messages", "found", "number", "every", "long"], [2], false, false, false⟩
def d_with_allots : DI := ⟨69, "with_allots", ["target", "frame", "places", "allots"], ["target", "frame", "places", "allots", "stations", "walk", "floor", "allot"], [4], false, false, false⟩
def d_shared : DI := ⟨70, "shared", ["long", "turns"], ["long", "turns"], [], false, false, false⟩
def d_allotted_by : DI := ⟨71, "allotted_by", ["target", "frame", "places", "messages"], ["target", "frame", "places", "messages", "number", "every", "long", "allots", "setting"], [], false, false, false⟩
def d_allotted : DI := ⟨72, "allotted", ["target", "frame", "places", "messages"], ["target", "frame", "places", "messages"], [], false, false, false⟩
def d_targets : DI := ⟨73, "targets", ["frame", "places", "messages"], ["frame", "places", "messages", "found", "target"], [3], false, false, false⟩
def d_raised : DI := ⟨74, "raised", ["setting", "messages"], ["setting", "messages", "found", "walk", "allot", "floor", "every", "long", "turns"], [2], false, false, false⟩
def d_least_allots : DI := ⟨75, "least_allots", ["target", "frame", "places", "messages"], ["target", "frame", "places", "messages", "allots", "later", "setting"], [], false, false, false⟩
def d__law_same : DI := ⟨77, "_law_same", ["_law_found", "_law_due"], ["_law_found", "_law_due"], [], false, false, false⟩
def d__law_wishes_right : DI := ⟨78, "_law_wishes_right", [], ["_law_two", "_law_states"], [], false, false, false⟩
def d__law_others_right : DI := ⟨79, "_law_others_right", [], ["_law_mixed", "_law_states", "_law_alone", "_law_found"], [3], false, false, false⟩
def d__law_messages_right : DI := ⟨80, "_law_messages_right", [], ["_law_places", "_law_messages", "_law_found", "_law_due", "_law_target"], [2, 3], false, false, false⟩
def d_law : DI := ⟨81, "law", ["_law_script"], ["_law_script"], [], false, false, false⟩
def D : List DI := [d_is_between, d_is_station, d_are_stations, d_is_setting, d_need_setting, d_load_of, d_does_fit, d_first_of, d_round_from, d_is_state_of, d_need_state, d_room_of, d_greatest_extra, d_moved, d_choices, d_came_up, d_is_wish_for, d_is_wish_of, d_need_wish, d_wished_of, d_wished, d_after, d_steps_from, d_steady, d_rates_of, d_rates, d_rounds, d_web_of, d_one_more, d_greatest_with, d_sure_of, d_promised_of, d_is_message, d_need_messages, d_is_place, d_need_target, d_need_rest, d_served, d_with_allots, d_shared, d_allotted_by, d_allotted, d_targets, d_raised, d_least_allots, d__law_same, d__law_wishes_right, d__law_others_right, d__law_messages_right, d_law]
def t : List (Str × Gb) := [gb "is_between" (.fn 0 false), gb "is_station" (.fn 1 false), gb "are_stations" (.fn 2 false), gb "is_setting" (.fn 3 false), gb "need_setting" (.fn 4 false), gb "load_of" (.fn 5 false), gb "does_fit" (.fn 6 false), gb "first_of" (.fn 7 false), gb "round_from" (.fn 8 false), gb "is_state_of" (.fn 9 false), gb "need_state" (.fn 10 false), gb "room_of" (.fn 11 false), gb "greatest_extra" (.fn 12 false), gb "moved" (.fn 13 false), gb "choices" (.fn 14 false), gb "came_up" (.fn 15 false), gb "is_wish_for" (.fn 16 false), gb "is_wish_of" (.fn 17 false), gb "need_wish" (.fn 18 false), gb "wished_of" (.fn 19 false), gb "wished" (.fn 20 false), gb "after" (.fn 21 false), gb "steps_from" (.fn 22 false), gb "steady" (.fn 23 false), gb "rates_of" (.fn 24 false), gb "rates" (.fn 25 false), gb "rounds" (.fn 26 false), gb "web_of" (.fn 27 false), gb "one_more" (.fn 28 false), gb "greatest_with" (.fn 29 false), gb "sure_of" (.fn 30 false), gb "promised_of" (.fn 31 false), gb "is_message" (.fn 32 false), gb "need_messages" (.fn 33 false), gb "is_place" (.fn 34 false), gb "need_target" (.fn 35 false), gb "need_rest" (.fn 36 false), gb "served" (.fn 37 false), gb "with_allots" (.fn 38 false), gb "shared" (.fn 39 false), gb "allotted_by" (.fn 40 false), gb "allotted" (.fn 41 false), gb "targets" (.fn 42 false), gb "raised" (.fn 43 false), gb "least_allots" (.fn 44 false), gb "_law_same" (.fn 45 false), gb "_law_wishes_right" (.fn 46 false), gb "_law_others_right" (.fn 47 false), gb "_law_messages_right" (.fn 48 false), gb "law" (.fn 49 false), gb "LEAST_TARGET" (.con (.int 2)), gb "MOST_TARGET" (.con (.int 24)), gb "MOST_FRAME" (.con (.int 4)), gb "MOST_STATIONS" (.con (.int 4)), gb "MOST_WALK" (.con (.int 6)), gb "MOST_TICKS" (.con (.int 24)), gb "LIMIT" (.con (.int 500)), gb "MOST_EXTRA" (.con (.int 99)), gb "ROUND" (.con (.str "round")), gb "LOST" (.con (.str "lost")), gb "MOST_EVERY" (.con (.int 60)), gb "MOST_LONG" (.con (.int 99)), gb "ALLOTS" (.con (.str "allots")), gb "LATE" (.con (.str "late")), gb "OVER" (.con (.str "over")), gb "all" .free, gb "bool" .free, gb "enumerate" .free, gb "int" .free, gb "isinstance" .free, gb "len" .free, gb "max" .free, gb "min" .free, gb "range" .free, gb "repr" .free, gb "sorted" .free, gb "sum" .free, gb "tuple" .free, gb "zip" .free]
def cn : List (Str × Nat) := []
def ex : Exs := []
abbrev p : Program := PySem.Challenge.pw_handson_k48_wishes_and_messages_by_hand
theorem k_is_between : d_is_between.okB p ⟨3, 3, Bd.b_is_between⟩ = true := by kernel_rfl
theorem x_is_between : d_is_between.trB p t ⟨3, 3, Bd.b_is_between⟩ := by
  unfold DI.trB
  kernel_rfl
theorem z_is_between : d_is_between.trZ p t ⟨3, 3, Bd.b_is_between⟩ := fun h => nomatch h
theorem y_is_between : d_is_between.bP p := fun _ _ _ _ _ _ us hl => match us, hl with | [_, _, _], _ => rfl
theorem k_is_station : d_is_station.okB p ⟨1, 1, Bd.b_is_station 0⟩ = true := by kernel_rfl
theorem x_is_station : d_is_station.trB p t ⟨1, 1, Bd.b_is_station 0⟩ := by
  unfold DI.trB
  kernel_rfl
theorem z_is_station : d_is_station.trZ p t ⟨1, 1, Bd.b_is_station 0⟩ := fun h => nomatch h
theorem y_is_station : d_is_station.bP p := fun _ _ _ _ _ _ us hl => match us, hl with | [_], _ => rfl
theorem k_are_stations : d_are_stations.okB p ⟨1, 2, Bd.b_are_stations 1⟩ = true := by kernel_rfl
theorem x_are_stations : d_are_stations.trB p t ⟨1, 2, Bd.b_are_stations 1⟩ := by
  unfold DI.trB
  kernel_rfl
theorem z_are_stations : d_are_stations.trZ p t ⟨1, 2, Bd.b_are_stations 1⟩ := fun h => nomatch h
theorem y_are_stations : d_are_stations.bP p := fun _ _ _ _ _ _ us hl => match us, hl with | [_], _ => rfl
theorem k_is_setting : d_is_setting.okB p ⟨1, 1, Bd.b_is_setting 0 2⟩ = true := by kernel_rfl
theorem x_is_setting : d_is_setting.trB p t ⟨1, 1, Bd.b_is_setting 0 2⟩ := by
  unfold DI.trB
  kernel_rfl
theorem z_is_setting : d_is_setting.trZ p t ⟨1, 1, Bd.b_is_setting 0 2⟩ := fun h => nomatch h
theorem y_is_setting : d_is_setting.bP p := fun _ _ _ _ _ _ us hl => match us, hl with | [_], _ => rfl
theorem k_need_setting : d_need_setting.okB p ⟨1, 1, Bd.b_need_setting 3⟩ = true := by kernel_rfl
theorem x_need_setting : d_need_setting.trB p t ⟨1, 1, Bd.b_need_setting 3⟩ := by
  unfold DI.trB
  kernel_rfl
theorem z_need_setting : d_need_setting.trZ p t ⟨1, 1, Bd.b_need_setting 3⟩ := fun h => nomatch h
theorem y_need_setting : d_need_setting.bP p := fun _ _ _ _ _ _ us hl => match us, hl with | [_], _ => rfl
theorem k_load_of : d_load_of.okB p ⟨1, 4, Bd.b_load_of⟩ = true := by kernel_rfl
theorem x_load_of : d_load_of.trB p t ⟨1, 4, Bd.b_load_of⟩ := by
  unfold DI.trB
  kernel_rfl
theorem z_load_of : d_load_of.trZ p t ⟨1, 4, Bd.b_load_of⟩ := fun h => nomatch h
theorem y_load_of : d_load_of.bP p := fun _ _ _ _ _ _ us hl => match us, hl with | [_], _ => rfl
theorem k_does_fit : d_does_fit.okB p ⟨1, 1, Bd.b_does_fit 5⟩ = true := by kernel_rfl
theorem x_does_fit : d_does_fit.trB p t ⟨1, 1, Bd.b_does_fit 5⟩ := by
  unfold DI.trB
  kernel_rfl
theorem z_does_fit : d_does_fit.trZ p t ⟨1, 1, Bd.b_does_fit 5⟩ := fun h => nomatch h
theorem y_does_fit : d_does_fit.bP p := fun _ _ _ _ _ _ us hl => match us, hl with | [_], _ => rfl
theorem k_first_of : d_first_of.okB p ⟨1, 1, Bd.b_first_of⟩ = true := by kernel_rfl
theorem x_first_of : d_first_of.trB p t ⟨1, 1, Bd.b_first_of⟩ := by
  unfold DI.trB
  kernel_rfl
theorem z_first_of : d_first_of.trZ p t ⟨1, 1, Bd.b_first_of⟩ := fun h => nomatch h
theorem y_first_of : d_first_of.bP p := fun _ _ _ _ _ _ us hl => match us, hl with | [_], _ => rfl
theorem k_round_from : d_round_from.okB p ⟨1, 3, Bd.b_round_from⟩ = true := by kernel_rfl
theorem x_round_from : d_round_from.trB p t ⟨1, 3, Bd.b_round_from⟩ := by
  unfold DI.trB
  kernel_rfl
theorem z_round_from : d_round_from.trZ p t ⟨1, 3, Bd.b_round_from⟩ := fun h => nomatch h
theorem y_round_from : d_round_from.bP p := fun _ _ _ _ _ _ us hl => match us, hl with | [_], _ => rfl
theorem k_is_state_of : d_is_state_of.okB p ⟨2, 8, Bd.b_is_state_of 0 8⟩ = true := by kernel_rfl
theorem x_is_state_of : d_is_state_of.trB p t ⟨2, 8, Bd.b_is_state_of 0 8⟩ := by
  unfold DI.trB
  kernel_rfl
theorem z_is_state_of : d_is_state_of.trZ p t ⟨2, 8, Bd.b_is_state_of 0 8⟩ := fun h => nomatch h
theorem y_is_state_of : d_is_state_of.bP p := fun _ _ _ _ _ _ us hl => match us, hl with | [_, _], _ => rfl
theorem k_need_state : d_need_state.okB p ⟨2, 2, Bd.b_need_state 9⟩ = true := by kernel_rfl
theorem x_need_state : d_need_state.trB p t ⟨2, 2, Bd.b_need_state 9⟩ := by
  unfold DI.trB
  kernel_rfl
theorem z_need_state : d_need_state.trZ p t ⟨2, 2, Bd.b_need_state 9⟩ := fun h => nomatch h
theorem y_need_state : d_need_state.bP p := fun _ _ _ _ _ _ us hl => match us, hl with | [_, _], _ => rfl
theorem k_room_of : d_room_of.okB p ⟨2, 4, Bd.b_room_of⟩ = true := by kernel_rfl
theorem x_room_of : d_room_of.trB p t ⟨2, 4, Bd.b_room_of⟩ := by
  unfold DI.trB
  kernel_rfl
theorem z_room_of : d_room_of.trZ p t ⟨2, 4, Bd.b_room_of⟩ := fun h => nomatch h
theorem y_room_of : d_room_of.bP p := fun _ _ _ _ _ _ us hl => match us, hl with | [_, _], _ => rfl
theorem k_greatest_extra : d_greatest_extra.okB p ⟨2, 3, Bd.b_greatest_extra 11⟩ = true := by kernel_rfl
theorem x_greatest_extra : d_greatest_extra.trB p t ⟨2, 3, Bd.b_greatest_extra 11⟩ := by
  unfold DI.trB
  kernel_rfl
theorem z_greatest_extra : d_greatest_extra.trZ p t ⟨2, 3, Bd.b_greatest_extra 11⟩ := fun h => nomatch h
theorem y_greatest_extra : d_greatest_extra.bP p := fun _ _ _ _ _ _ us hl => match us, hl with | [_, _], _ => rfl
theorem k_moved : d_moved.okB p ⟨3, 13, Bd.b_moved⟩ = true := by kernel_rfl
theorem x_moved : d_moved.trB p t ⟨3, 13, Bd.b_moved⟩ := by
  unfold DI.trB
  kernel_rfl
theorem z_moved : d_moved.trZ p t ⟨3, 13, Bd.b_moved⟩ := fun h => nomatch h
theorem y_moved : d_moved.bP p := fun _ _ _ _ _ _ us hl => match us, hl with | [_, _, _], _ => rfl
theorem k_choices : d_choices.okB p ⟨2, 11, Bd.b_choices 12 13⟩ = true := by kernel_rfl
theorem x_choices : d_choices.trB p t ⟨2, 11, Bd.b_choices 12 13⟩ := by
  unfold DI.trB
  kernel_rfl
theorem z_choices : d_choices.trZ p t ⟨2, 11, Bd.b_choices 12 13⟩ := fun h => nomatch h
theorem y_choices : d_choices.bP p := fun _ _ _ _ _ _ us hl => match us, hl with | [_, _], _ => rfl
theorem k_came_up : d_came_up.okB p ⟨2, 10, Bd.b_came_up_v3 14⟩ = true := by kernel_rfl
theorem x_came_up : d_came_up.trB p t ⟨2, 10, Bd.b_came_up_v3 14⟩ := by
  unfold DI.trB
  kernel_rfl
theorem z_came_up : d_came_up.trZ p t ⟨2, 10, Bd.b_came_up_v3 14⟩ := fun h => nomatch h
theorem y_came_up : d_came_up.bP p := fun _ _ _ _ _ _ us hl => match us, hl with | [_, _], _ => rfl
theorem k_is_wish_for : d_is_wish_for.okB p ⟨2, 2, Bd.b_is_wish_for 0⟩ = true := by kernel_rfl
theorem x_is_wish_for : d_is_wish_for.trB p t ⟨2, 2, Bd.b_is_wish_for 0⟩ := by
  unfold DI.trB
  kernel_rfl
theorem z_is_wish_for : d_is_wish_for.trZ p t ⟨2, 2, Bd.b_is_wish_for 0⟩ := fun h => nomatch h
theorem y_is_wish_for : d_is_wish_for.bP p := fun _ _ _ _ _ _ us hl => match us, hl with | [_, _], _ => rfl
theorem k_is_wish_of : d_is_wish_of.okB p ⟨2, 4, Bd.b_is_wish_of 16⟩ = true := by kernel_rfl
theorem x_is_wish_of : d_is_wish_of.trB p t ⟨2, 4, Bd.b_is_wish_of 16⟩ := by
  unfold DI.trB
  kernel_rfl
theorem z_is_wish_of : d_is_wish_of.trZ p t ⟨2, 4, Bd.b_is_wish_of 16⟩ := fun h => nomatch h
theorem y_is_wish_of : d_is_wish_of.bP p := fun _ _ _ _ _ _ us hl => match us, hl with | [_, _], _ => rfl
theorem k_need_wish : d_need_wish.okB p ⟨2, 2, Bd.b_need_wish 4 17⟩ = true := by kernel_rfl
theorem x_need_wish : d_need_wish.trB p t ⟨2, 2, Bd.b_need_wish 4 17⟩ := by
  unfold DI.trB
  kernel_rfl
theorem z_need_wish : d_need_wish.trZ p t ⟨2, 2, Bd.b_need_wish 4 17⟩ := fun h => nomatch h
theorem y_need_wish : d_need_wish.bP p := fun _ _ _ _ _ _ us hl => match us, hl with | [_, _], _ => rfl
theorem k_wished_of : d_wished_of.okB p ⟨3, 6, Bd.b_wished_of 12⟩ = true := by kernel_rfl
theorem x_wished_of : d_wished_of.trB p t ⟨3, 6, Bd.b_wished_of 12⟩ := by
  unfold DI.trB
  kernel_rfl
theorem z_wished_of : d_wished_of.trZ p t ⟨3, 6, Bd.b_wished_of 12⟩ := fun h => nomatch h
theorem y_wished_of : d_wished_of.bP p := fun _ _ _ _ _ _ us hl => match us, hl with | [_, _, _], _ => rfl
theorem k_wished : d_wished.okB p ⟨3, 3, Bd.b_wished 18 10 19⟩ = true := by kernel_rfl
theorem x_wished : d_wished.trB p t ⟨3, 3, Bd.b_wished 18 10 19⟩ := by
  unfold DI.trB
  kernel_rfl
theorem z_wished : d_wished.trZ p t ⟨3, 3, Bd.b_wished 18 10 19⟩ := fun h => nomatch h
theorem y_wished : d_wished.bP p := fun _ _ _ _ _ _ us hl => match us, hl with | [_, _, _], _ => rfl
theorem k_after : d_after.okB p ⟨3, 5, Bd.b_after 19 13⟩ = true := by kernel_rfl
theorem x_after : d_after.trB p t ⟨3, 5, Bd.b_after 19 13⟩ := by
  unfold DI.trB
  kernel_rfl
theorem z_after : d_after.trZ p t ⟨3, 5, Bd.b_after 19 13⟩ := fun h => nomatch h
theorem y_after : d_after.bP p := fun _ _ _ _ _ _ us hl => match us, hl with | [_, _, _], _ => rfl
theorem k_steps_from : d_steps_from.okB p ⟨3, 5, Bd.b_steps_from 21⟩ = true := by kernel_rfl
theorem x_steps_from : d_steps_from.trB p t ⟨3, 5, Bd.b_steps_from 21⟩ := by
  unfold DI.trB
  kernel_rfl
theorem z_steps_from : d_steps_from.trZ p t ⟨3, 5, Bd.b_steps_from 21⟩ := fun h => nomatch h
theorem y_steps_from : d_steps_from.bP p := fun _ _ _ _ _ _ us hl => match us, hl with | [_, _, _], _ => rfl
theorem k_steady : d_steady.okB p ⟨2, 4, Bd.b_steady 18 22 7⟩ = true := by kernel_rfl
theorem x_steady : d_steady.trB p t ⟨2, 4, Bd.b_steady 18 22 7⟩ := by
  unfold DI.trB
  kernel_rfl
theorem z_steady : d_steady.trZ p t ⟨2, 4, Bd.b_steady 18 22 7⟩ := fun h => nomatch h
theorem y_steady : d_steady.bP p := fun _ _ _ _ _ _ us hl => match us, hl with | [_, _], _ => rfl
theorem k_rates_of : d_rates_of.okB p ⟨3, 9, Bd.b_rates_of 19 13⟩ = true := by kernel_rfl
theorem x_rates_of : d_rates_of.trB p t ⟨3, 9, Bd.b_rates_of 19 13⟩ := by
  unfold DI.trB
  kernel_rfl
theorem z_rates_of : d_rates_of.trZ p t ⟨3, 9, Bd.b_rates_of 19 13⟩ := fun h => nomatch h
theorem y_rates_of : d_rates_of.bP p := fun _ _ _ _ _ _ us hl => match us, hl with | [_, _, _], _ => rfl
theorem k_rates : d_rates.okB p ⟨2, 4, Bd.b_rates 18 22 7 24⟩ = true := by kernel_rfl
theorem x_rates : d_rates.trB p t ⟨2, 4, Bd.b_rates 18 22 7 24⟩ := by
  unfold DI.trB
  kernel_rfl
theorem z_rates : d_rates.trZ p t ⟨2, 4, Bd.b_rates 18 22 7 24⟩ := fun h => nomatch h
theorem y_rates : d_rates.bP p := fun _ _ _ _ _ _ us hl => match us, hl with | [_, _], _ => rfl
theorem k_rounds : d_rounds.okB p ⟨2, 7, Bd.b_rounds_v2 18 15 7 21 24⟩ = true := by kernel_rfl
theorem x_rounds : d_rounds.trB p t ⟨2, 7, Bd.b_rounds_v2 18 15 7 21 24⟩ := by
  unfold DI.trB
  kernel_rfl
theorem z_rounds : d_rounds.trZ p t ⟨2, 7, Bd.b_rounds_v2 18 15 7 21 24⟩ := fun h => nomatch h
theorem y_rounds : d_rounds.bP p := fun _ _ _ _ _ _ us hl => match us, hl with | [_, _], _ => rfl
theorem k_web_of : d_web_of.okB p ⟨1, 4, Bd.b_web_of_v2 15 7 14⟩ = true := by kernel_rfl
theorem x_web_of : d_web_of.trB p t ⟨1, 4, Bd.b_web_of_v2 15 7 14⟩ := by
  unfold DI.trB
  kernel_rfl
theorem z_web_of : d_web_of.trZ p t ⟨1, 4, Bd.b_web_of_v2 15 7 14⟩ := fun h => nomatch h
theorem y_web_of : d_web_of.bP p := fun _ _ _ _ _ _ us hl => match us, hl with | [_], _ => rfl
theorem k_one_more : d_one_more.okB p ⟨2, 9, Bd.b_one_more⟩ = true := by kernel_rfl
theorem x_one_more : d_one_more.trB p t ⟨2, 9, Bd.b_one_more⟩ := by
  unfold DI.trB
  kernel_rfl
theorem z_one_more : d_one_more.trZ p t ⟨2, 9, Bd.b_one_more⟩ := fun h => nomatch h
theorem y_one_more : d_one_more.bP p := fun _ _ _ _ _ _ us hl => match us, hl with | [_, _], _ => rfl
theorem k_greatest_with : d_greatest_with.okB p ⟨2, 5, Bd.b_greatest_with⟩ = true := by kernel_rfl
theorem x_greatest_with : d_greatest_with.trB p t ⟨2, 5, Bd.b_greatest_with⟩ := by
  unfold DI.trB
  kernel_rfl
theorem z_greatest_with : d_greatest_with.trZ p t ⟨2, 5, Bd.b_greatest_with⟩ := fun h => nomatch h
theorem y_greatest_with : d_greatest_with.bP p := fun _ _ _ _ _ _ us hl => match us, hl with | [_, _], _ => rfl
theorem k_sure_of : d_sure_of.okB p ⟨3, 9, Bd.b_sure_of_v2 27 28 29⟩ = true := by kernel_rfl
theorem x_sure_of : d_sure_of.trB p t ⟨3, 9, Bd.b_sure_of_v2 27 28 29⟩ := by
  unfold DI.trB
  kernel_rfl
theorem z_sure_of : d_sure_of.trZ p t ⟨3, 9, Bd.b_sure_of_v2 27 28 29⟩ := fun h => nomatch h
theorem y_sure_of : d_sure_of.bP p := fun _ _ _ _ _ _ us hl => match us, hl with | [_, _, _], _ => rfl
theorem k_promised_of : d_promised_of.okB p ⟨2, 3, Bd.b_promised_of 5 6⟩ = true := by kernel_rfl
theorem x_promised_of : d_promised_of.trB p t ⟨2, 3, Bd.b_promised_of 5 6⟩ := by
  unfold DI.trB
  kernel_rfl
theorem z_promised_of : d_promised_of.trZ p t ⟨2, 3, Bd.b_promised_of 5 6⟩ := fun h => nomatch h
theorem y_promised_of : d_promised_of.bP p := fun _ _ _ _ _ _ us hl => match us, hl with | [_, _], _ => rfl
theorem k_is_message : d_is_message.okB p ⟨1, 1, Bd.b_is_message 0⟩ = true := by kernel_rfl
theorem x_is_message : d_is_message.trB p t ⟨1, 1, Bd.b_is_message 0⟩ := by
  unfold DI.trB
  kernel_rfl
theorem z_is_message : d_is_message.trZ p t ⟨1, 1, Bd.b_is_message 0⟩ := fun h => nomatch h
theorem y_is_message : d_is_message.bP p := fun _ _ _ _ _ _ us hl => match us, hl with | [_], _ => rfl
theorem k_need_messages : d_need_messages.okB p ⟨2, 3, Bd.b_need_messages 32⟩ = true := by kernel_rfl
theorem x_need_messages : d_need_messages.trB p t ⟨2, 3, Bd.b_need_messages 32⟩ := by
  unfold DI.trB
  kernel_rfl
theorem z_need_messages : d_need_messages.trZ p t ⟨2, 3, Bd.b_need_messages 32⟩ := fun h => nomatch h
theorem y_need_messages : d_need_messages.bP p := fun _ _ _ _ _ _ us hl => match us, hl with | [_, _], _ => rfl
theorem k_is_place : d_is_place.okB p ⟨1, 1, Bd.b_is_place 0⟩ = true := by kernel_rfl
theorem x_is_place : d_is_place.trB p t ⟨1, 1, Bd.b_is_place 0⟩ := by
  unfold DI.trB
  kernel_rfl
theorem z_is_place : d_is_place.trZ p t ⟨1, 1, Bd.b_is_place 0⟩ := fun h => nomatch h
theorem y_is_place : d_is_place.bP p := fun _ _ _ _ _ _ us hl => match us, hl with | [_], _ => rfl
theorem k_need_target : d_need_target.okB p ⟨1, 1, Bd.b_need_target 0⟩ = true := by kernel_rfl
theorem x_need_target : d_need_target.trB p t ⟨1, 1, Bd.b_need_target 0⟩ := by
  unfold DI.trB
  kernel_rfl
theorem z_need_target : d_need_target.trZ p t ⟨1, 1, Bd.b_need_target 0⟩ := fun h => nomatch h
theorem y_need_target : d_need_target.bP p := fun _ _ _ _ _ _ us hl => match us, hl with | [_], _ => rfl
theorem k_need_rest : d_need_rest.okB p ⟨3, 4, Bd.b_need_rest 0 34 33⟩ = true := by kernel_rfl
theorem x_need_rest : d_need_rest.trB p t ⟨3, 4, Bd.b_need_rest 0 34 33⟩ := by
  unfold DI.trB
  kernel_rfl
theorem z_need_rest : d_need_rest.trZ p t ⟨3, 4, Bd.b_need_rest 0 34 33⟩ := fun h => nomatch h
theorem y_need_rest : d_need_rest.bP p := fun _ _ _ _ _ _ us hl => match us, hl with | [_, _, _], _ => rfl
theorem k_served : d_served.okB p ⟨2, 6, Bd.b_served 4 33 30⟩ = true := by kernel_rfl
theorem x_served : d_served.trB p t ⟨2, 6, Bd.b_served 4 33 30⟩ := by
  unfold DI.trB
  kernel_rfl
theorem z_served : d_served.trZ p t ⟨2, 6, Bd.b_served 4 33 30⟩ := fun h => nomatch h
theorem y_served : d_served.bP p := fun _ _ _ _ _ _ us hl => match us, hl with | [_, _], _ => rfl
theorem k_with_allots : d_with_allots.okB p ⟨4, 8, Bd.b_with_allots⟩ = true := by kernel_rfl
theorem x_with_allots : d_with_allots.trB p t ⟨4, 8, Bd.b_with_allots⟩ := by
  unfold DI.trB
  kernel_rfl
theorem z_with_allots : d_with_allots.trZ p t ⟨4, 8, Bd.b_with_allots⟩ := fun h => nomatch h
theorem y_with_allots : d_with_allots.bP p := fun _ _ _ _ _ _ us hl => match us, hl with | [_, _, _, _], _ => rfl
theorem k_shared : d_shared.okB p ⟨2, 2, Bd.b_shared⟩ = true := by kernel_rfl
theorem x_shared : d_shared.trB p t ⟨2, 2, Bd.b_shared⟩ := by
  unfold DI.trB
  kernel_rfl
theorem z_shared : d_shared.trZ p t ⟨2, 2, Bd.b_shared⟩ := fun h => nomatch h
theorem y_shared : d_shared.bP p := fun _ _ _ _ _ _ us hl => match us, hl with | [_, _], _ => rfl
theorem k_allotted_by : d_allotted_by.okB p ⟨4, 9, Bd.b_allotted_by 39 38 6 5⟩ = true := by kernel_rfl
theorem x_allotted_by : d_allotted_by.trB p t ⟨4, 9, Bd.b_allotted_by 39 38 6 5⟩ := by
  unfold DI.trB
  kernel_rfl
theorem z_allotted_by : d_allotted_by.trZ p t ⟨4, 9, Bd.b_allotted_by 39 38 6 5⟩ := fun h => nomatch h
theorem y_allotted_by : d_allotted_by.bP p := fun _ _ _ _ _ _ us hl => match us, hl with | [_, _, _, _], _ => rfl
theorem k_allotted : d_allotted.okB p ⟨4, 4, Bd.b_allotted 35 36 40⟩ = true := by kernel_rfl
theorem x_allotted : d_allotted.trB p t ⟨4, 4, Bd.b_allotted 35 36 40⟩ := by
  unfold DI.trB
  kernel_rfl
theorem z_allotted : d_allotted.trZ p t ⟨4, 4, Bd.b_allotted 35 36 40⟩ := fun h => nomatch h
theorem y_allotted : d_allotted.bP p := fun _ _ _ _ _ _ us hl => match us, hl with | [_, _, _, _], _ => rfl
theorem k_targets : d_targets.okB p ⟨3, 5, Bd.b_targets 36 40⟩ = true := by kernel_rfl
theorem x_targets : d_targets.trB p t ⟨3, 5, Bd.b_targets 36 40⟩ := by
  unfold DI.trB
  kernel_rfl
theorem z_targets : d_targets.trZ p t ⟨3, 5, Bd.b_targets 36 40⟩ := fun h => nomatch h
theorem y_targets : d_targets.bP p := fun _ _ _ _ _ _ us hl => match us, hl with | [_, _, _], _ => rfl
theorem k_raised : d_raised.okB p ⟨2, 9, Bd.b_raised 31 39⟩ = true := by kernel_rfl
theorem x_raised : d_raised.trB p t ⟨2, 9, Bd.b_raised 31 39⟩ := by
  unfold DI.trB
  kernel_rfl
theorem z_raised : d_raised.trZ p t ⟨2, 9, Bd.b_raised 31 39⟩ := fun h => nomatch h
theorem y_raised : d_raised.bP p := fun _ _ _ _ _ _ us hl => match us, hl with | [_, _], _ => rfl
theorem k_least_allots : d_least_allots.okB p ⟨4, 7, Bd.b_least_allots 35 36 38 6 43⟩ = true := by kernel_rfl
theorem x_least_allots : d_least_allots.trB p t ⟨4, 7, Bd.b_least_allots 35 36 38 6 43⟩ := by
  unfold DI.trB
  kernel_rfl
theorem z_least_allots : d_least_allots.trZ p t ⟨4, 7, Bd.b_least_allots 35 36 38 6 43⟩ := fun h => nomatch h
theorem y_least_allots : d_least_allots.bP p := fun _ _ _ _ _ _ us hl => match us, hl with | [_, _, _, _], _ => rfl
theorem k__law_same : d__law_same.okB p ⟨2, 2, Bd.b_law_same⟩ = true := by kernel_rfl
theorem x__law_same : d__law_same.trB p t ⟨2, 2, Bd.b_law_same⟩ := by
  unfold DI.trB
  kernel_rfl
theorem z__law_same : d__law_same.trZ p t ⟨2, 2, Bd.b_law_same⟩ := fun h => nomatch h
theorem y__law_same : d__law_same.bP p := fun _ _ _ _ _ _ us hl => match us, hl with | [_, _], _ => rfl
theorem k__law_wishes_right : d__law_wishes_right.okB p ⟨0, 2, Bd.b_law_wishes_right 45 23 25 26⟩ = true := by kernel_rfl
theorem x__law_wishes_right : d__law_wishes_right.trB p t ⟨0, 2, Bd.b_law_wishes_right 45 23 25 26⟩ := by
  unfold DI.trB
  kernel_rfl
theorem z__law_wishes_right : d__law_wishes_right.trZ p t ⟨0, 2, Bd.b_law_wishes_right 45 23 25 26⟩ := fun h => nomatch h
theorem y__law_wishes_right : d__law_wishes_right.bP p := fun _ _ _ _ _ _ us hl => match us, hl with | [], _ => rfl
theorem k__law_others_right : d__law_others_right.okB p ⟨0, 4, Bd.b_law_others_right 45 23 25 20 26 37⟩ = true := by kernel_rfl
theorem x__law_others_right : d__law_others_right.trB p t ⟨0, 4, Bd.b_law_others_right 45 23 25 20 26 37⟩ := by
  unfold DI.trB
  kernel_rfl
theorem z__law_others_right : d__law_others_right.trZ p t ⟨0, 4, Bd.b_law_others_right 45 23 25 20 26 37⟩ := fun h => nomatch h
theorem y__law_others_right : d__law_others_right.bP p := fun _ _ _ _ _ _ us hl => match us, hl with | [], _ => rfl
theorem k__law_messages_right : d__law_messages_right.okB p ⟨0, 5, Bd.b_law_messages_right 41 45 42 44 37⟩ = true := by kernel_rfl
theorem x__law_messages_right : d__law_messages_right.trB p t ⟨0, 5, Bd.b_law_messages_right 41 45 42 44 37⟩ := by
  unfold DI.trB
  kernel_rfl
theorem z__law_messages_right : d__law_messages_right.trZ p t ⟨0, 5, Bd.b_law_messages_right 41 45 42 44 37⟩ := fun h => nomatch h
theorem y__law_messages_right : d__law_messages_right.bP p := fun _ _ _ _ _ _ us hl => match us, hl with | [], _ => rfl
theorem k_law : d_law.okB p ⟨1, 1, Bd.b_law_v67 46 47 48⟩ = true := by kernel_rfl
theorem x_law : d_law.trB p t ⟨1, 1, Bd.b_law_v67 46 47 48⟩ := by
  unfold DI.trB
  kernel_rfl
theorem z_law : d_law.trZ p t ⟨1, 1, Bd.b_law_v67 46 47 48⟩ := fun h => nomatch h
theorem y_law : d_law.bP p := fun _ _ _ _ _ _ us hl => match us, hl with | [_], _ => rfl
theorem allTr : AllTr p t D ds := .cons k_is_between ⟨x_is_between, z_is_between⟩ y_is_between <| .cons k_is_station ⟨x_is_station, z_is_station⟩ y_is_station <| .cons k_are_stations ⟨x_are_stations, z_are_stations⟩ y_are_stations <| .cons k_is_setting ⟨x_is_setting, z_is_setting⟩ y_is_setting <| .cons k_need_setting ⟨x_need_setting, z_need_setting⟩ y_need_setting <| .cons k_load_of ⟨x_load_of, z_load_of⟩ y_load_of <| .cons k_does_fit ⟨x_does_fit, z_does_fit⟩ y_does_fit <| .cons k_first_of ⟨x_first_of, z_first_of⟩ y_first_of <| .cons k_round_from ⟨x_round_from, z_round_from⟩ y_round_from <| .cons k_is_state_of ⟨x_is_state_of, z_is_state_of⟩ y_is_state_of <| .cons k_need_state ⟨x_need_state, z_need_state⟩ y_need_state <| .cons k_room_of ⟨x_room_of, z_room_of⟩ y_room_of <| .cons k_greatest_extra ⟨x_greatest_extra, z_greatest_extra⟩ y_greatest_extra <| .cons k_moved ⟨x_moved, z_moved⟩ y_moved <| .cons k_choices ⟨x_choices, z_choices⟩ y_choices <| .cons k_came_up ⟨x_came_up, z_came_up⟩ y_came_up <| .cons k_is_wish_for ⟨x_is_wish_for, z_is_wish_for⟩ y_is_wish_for <| .cons k_is_wish_of ⟨x_is_wish_of, z_is_wish_of⟩ y_is_wish_of <| .cons k_need_wish ⟨x_need_wish, z_need_wish⟩ y_need_wish <| .cons k_wished_of ⟨x_wished_of, z_wished_of⟩ y_wished_of <| .cons k_wished ⟨x_wished, z_wished⟩ y_wished <| .cons k_after ⟨x_after, z_after⟩ y_after <| .cons k_steps_from ⟨x_steps_from, z_steps_from⟩ y_steps_from <| .cons k_steady ⟨x_steady, z_steady⟩ y_steady <| .cons k_rates_of ⟨x_rates_of, z_rates_of⟩ y_rates_of <| .cons k_rates ⟨x_rates, z_rates⟩ y_rates <| .cons k_rounds ⟨x_rounds, z_rounds⟩ y_rounds <| .cons k_web_of ⟨x_web_of, z_web_of⟩ y_web_of <| .cons k_one_more ⟨x_one_more, z_one_more⟩ y_one_more <| .cons k_greatest_with ⟨x_greatest_with, z_greatest_with⟩ y_greatest_with <| .cons k_sure_of ⟨x_sure_of, z_sure_of⟩ y_sure_of <| .cons k_promised_of ⟨x_promised_of, z_promised_of⟩ y_promised_of <| .cons k_is_message ⟨x_is_message, z_is_message⟩ y_is_message <| .cons k_need_messages ⟨x_need_messages, z_need_messages⟩ y_need_messages <| .cons k_is_place ⟨x_is_place, z_is_place⟩ y_is_place <| .cons k_need_target ⟨x_need_target, z_need_target⟩ y_need_target <| .cons k_need_rest ⟨x_need_rest, z_need_rest⟩ y_need_rest <| .cons k_served ⟨x_served, z_served⟩ y_served <| .cons k_with_allots ⟨x_with_allots, z_with_allots⟩ y_with_allots <| .cons k_shared ⟨x_shared, z_shared⟩ y_shared <| .cons k_allotted_by ⟨x_allotted_by, z_allotted_by⟩ y_allotted_by <| .cons k_allotted ⟨x_allotted, z_allotted⟩ y_allotted <| .cons k_targets ⟨x_targets, z_targets⟩ y_targets <| .cons k_raised ⟨x_raised, z_raised⟩ y_raised <| .cons k_least_allots ⟨x_least_allots, z_least_allots⟩ y_least_allots <| .cons k__law_same ⟨x__law_same, z__law_same⟩ y__law_same <| .cons k__law_wishes_right ⟨x__law_wishes_right, z__law_wishes_right⟩ y__law_wishes_right <| .cons k__law_others_right ⟨x__law_others_right, z__law_others_right⟩ y__law_others_right <| .cons k__law_messages_right ⟨x__law_messages_right, z__law_messages_right⟩ y__law_messages_right <| .cons k_law ⟨x_law, z_law⟩ y_law <| .nil
theorem kwall : KwAll p t D := kwNone (by kernel_rfl)
theorem fls : FlOk p t := flNone (by kernel_rfl)
theorem saids : ∀ q ∈ saidsOf t, SaidD p t D cn ex q := by
  intro q hq
  have e : saidsOf t = [] := by kernel_rfl
  rw [e] at hq
  cases hq
abbrev R : PySem.W.OpenRow := PySem.W.OpenLaw.row PySem.Challenge.rw_handson_k48_wishes_and_messages_by_hand
abbrev hk : PySem.W.Hook := He.hookX 5 (faOf t) (D.map (·.df p)) [] (tfOf D) (moreB p t D cn ex)
def ob (s : PySem.W.SharedT) : He.AlX := He.obsX 5 (faOf t) (D.map (·.df p)) [] (tfOf D) (moreB p t D cn ex) (HandSHeadRun.getT s)
theorem ob_eq (s : PySem.W.SharedT) : ob s = hk.obs s.abs := He.obsX_eq (HandSHeadRun.getT_eq s)
def loose0 : List PySem.Str := [lx "RingError", lx "NoSetting", lx "NoState", lx "NoWish", lx "NoTarget", lx "NoFrame", lx "NoPlaces", lx "NoMessages", lx "TooMany", lx "LEAST_TARGET", lx "MOST_TARGET", lx "MOST_FRAME", lx "MOST_STATIONS", lx "MOST_WALK", lx "MOST_TICKS", lx "is_between", lx "is_station", lx "are_stations", lx "is_setting", lx "need_setting", lx "load_of", lx "does_fit", lx "first_of", lx "round_from", lx "is_state_of", lx "need_state", lx "room_of", lx "greatest_extra", lx "moved", lx "LIMIT", lx "choices", lx "came_up", lx "MOST_EXTRA", lx "ROUND", lx "LOST", lx "is_wish_for", lx "is_wish_of", lx "need_wish", lx "wished_of", lx "wished"]
def loose1 : List PySem.Str := [lx "after", lx "steps_from", lx "steady", lx "rates_of", lx "rates", lx "rounds", lx "web_of", lx "one_more", lx "greatest_with", lx "sure_of", lx "promised_of", lx "MOST_EVERY", lx "MOST_LONG", lx "ALLOTS", lx "LATE", lx "OVER", lx "is_message", lx "need_messages", lx "is_place", lx "need_target", lx "need_rest", lx "served", lx "with_allots", lx "shared", lx "allotted_by", lx "allotted", lx "targets", lx "raised", lx "least_allots", lx "_law_same", lx "_law_wishes_right", lx "_law_others_right", lx "_law_messages_right"]
def loose : List PySem.Str := loose0 ++ loose1
theorem run (w : World) : HandSHeadRun.RunEq R (PySem.W.view R.prog [81]) hk ob 12000 loose w := by
  intro os
  kernel_rfl
def lawIx : Nat := 49
def levels : Nat := 40
end Lw
open PySem PySem.W PySem.Calls PyProof.Rows in
theorem holds_of (h : ∀ ns : List Int, ns.length ≤ 63 → ∃ s, Mi.callN Lw.ds Lw.levels Lw.lawIx [.scr ns] [] = .ok (.bl true) s) : PySem.Challenge.rw_handson_k48_wishes_and_messages_by_hand.Holds := by
  w_on; o_law
  refine HandSHeadRun.head_any (r := OpenLaw.row PySem.Challenge.rw_handson_k48_wishes_and_messages_by_hand) (q := view (OpenLaw.row PySem.Challenge.rw_handson_k48_wishes_and_messages_by_hand).prog [81]) (H := Lw.hk) (ob := Lw.ob) (M := 12000) (loose := Lw.loose) (d := HandSHeadRun.topDef (OpenLaw.row PySem.Challenge.rw_handson_k48_wishes_and_messages_by_hand).prog 81) (kwd := []) Lw.ob_eq
    (by kernel_rfl) (fun s => by kernel_rfl) Lw.run (by kernel_rfl) (by kernel_rfl) (by kernel_rfl) (by rfl) (by first | assumption | decide +kernel) (by decide +kernel) ⟨rfl, rfl, rfl, rfl, rfl, by decide +kernel⟩ ?hw ?hc
  case hw => w_witness2
  case hc =>
    exact Mi.walkM (l := PySem.Challenge.rw_handson_k48_wishes_and_messages_by_hand) (k := Lw.levels) (D := Lw.D) (t := Lw.t) (ds := Lw.ds) (lw := Lw.lawIx) (dl := Lw.d_law) (z := "_law_script") (zl := false) (cn := Lw.cn) (ex := Lw.ex) rfl (by kernel_rfl) ⟨rfl, by decide, by decide⟩ (by kernel_rfl) (by kernel_rfl) (by kernel_rfl) Lw.kwall Lw.fls (by kernel_rfl) Lw.allTr rfl (by kernel_rfl) rfl Lw.saids (fun w h Y => Y) h
open Mi PySem
namespace K48
def ds48 : List Dfn := [⟨3, 3, Bd.b_is_between⟩, ⟨1, 1, Bd.b_is_station 0⟩, ⟨1, 2, Bd.b_are_stations 1⟩, ⟨1, 1, Bd.b_is_setting 0 2⟩, ⟨1, 1, Bd.b_need_setting 3⟩, ⟨1, 4, Bd.b_load_of⟩, ⟨1, 1, Bd.b_does_fit 5⟩, ⟨1, 1, Bd.b_first_of⟩, ⟨1, 3, Bd.b_round_from⟩, ⟨2, 8, Bd.b_is_state_of 0 8⟩, ⟨2, 2, Bd.b_need_state 9⟩, ⟨2, 4, Bd.b_room_of⟩, ⟨2, 3, Bd.b_greatest_extra 11⟩, ⟨3, 13, Bd.b_moved⟩, ⟨2, 11, Bd.b_choices 12 13⟩, ⟨2, 10, Bd.b_came_up_v3 14⟩, ⟨2, 2, Bd.b_is_wish_for 0⟩, ⟨2, 4, Bd.b_is_wish_of 16⟩, ⟨2, 2, Bd.b_need_wish 4 17⟩, ⟨3, 6, Bd.b_wished_of 12⟩, ⟨3, 3, Bd.b_wished 18 10 19⟩, ⟨3, 5, Bd.b_after 19 13⟩, ⟨3, 5, Bd.b_steps_from 21⟩, ⟨2, 4, Bd.b_steady 18 22 7⟩, ⟨3, 9, Bd.b_rates_of 19 13⟩, ⟨2, 4, Bd.b_rates 18 22 7 24⟩, ⟨2, 7, Bd.b_rounds_v2 18 15 7 21 24⟩, ⟨1, 4, Bd.b_web_of_v2 15 7 14⟩, ⟨2, 9, Bd.b_one_more⟩, ⟨2, 5, Bd.b_greatest_with⟩, ⟨3, 9, Bd.b_sure_of_v2 27 28 29⟩, ⟨2, 3, Bd.b_promised_of 5 6⟩, ⟨1, 1, Bd.b_is_message 0⟩, ⟨2, 3, Bd.b_need_messages 32⟩, ⟨1, 1, Bd.b_is_place 0⟩, ⟨1, 1, Bd.b_need_target 0⟩, ⟨3, 4, Bd.b_need_rest 0 34 33⟩, ⟨2, 6, Bd.b_served 4 33 30⟩, ⟨4, 8, Bd.b_with_allots⟩, ⟨2, 2, Bd.b_shared⟩, ⟨4, 9, Bd.b_allotted_by 39 38 6 5⟩, ⟨4, 4, Bd.b_allotted 35 36 40⟩, ⟨3, 5, Bd.b_targets 36 40⟩, ⟨2, 9, Bd.b_raised 31 39⟩, ⟨4, 7, Bd.b_least_allots 35 36 38 6 43⟩, ⟨2, 2, Bd.b_law_same⟩, ⟨0, 2, Bd.b_law_wishes_right 45 23 25 26⟩, ⟨0, 4, Bd.b_law_others_right 45 23 25 20 26 37⟩, ⟨0, 5, Bd.b_law_messages_right 41 45 42 44 37⟩, ⟨1, 1, Bd.b_law_v67 46 47 48⟩]
theorem ms2 {α : Type} (r : α → α → Bool) (a b : α) : List.mergeSort [a, b] r = if r a b then [a, b] else [b, a] := by
  simp [List.mergeSort, List.merge, List.MergeSort.Internal.splitInTwo]
abbrev CC : CallI := callN ds48 38
abbrev Bw : List Sm := Bd.b_law_wishes_right 45 23 25 26
def envW : Mi.Env := match execs CC (Bw.take 2) (start 2 []) [] with | .ok (.nx e) _ => e | _ => []
/-- the ring's rounds, ahead of the sort -/
def envR : Mi.Env := match execs (callN ds48 37) ((Bd.b_rounds_v2 18 15 7 21 24).take 3) (start 7 [.tup [.int 4, .int 1, .tup [.tup [.int 1, .int 0, .int 0], .tup [.int 1, .int 0, .int 0]]], .tup [.tup [.int 0, .non], .tup [.int 0, .non]]]) [] with | .ok (.nx e) _ => e | _ => []
def L48 : List W := match (envR[3]? : Option Sl) with | some (Sl.own (W.lst l)) => l | _ => []
theorem L48_eq : L48 = [L48.getD 0 .non, L48.getD 1 .non] := by kernel_rfl
abbrev le48 : W → W → Bool := PySem.W.dataLe false toD
abbrev xE : Ex := (.tup [(.tup [(.cst (.int 0)), (.tup [(.cst (.int 0)), (.cst (.int 2))])]), (.cst (.int 10)), (.cst (.int 3))])
abbrev xW : W := (.tup [(.tup [(.int 0), (.tup [(.int 0), (.int 2)])]), (.int 10), (.int 3)])
abbrev rE : Ex := (.call 26 [(.var 0), (.tup [(.tup [(.cst (.int 0)), (.cst .non)]), (.tup [(.cst (.int 0)), (.cst .non)])])])
theorem rds : evalE CC rE envW [] = .ok (.tup (L48.mergeSort le48)) [] := by kernel_rfl
theorem in48a : cmpV .nin xW (.tup [L48.getD 0 .non, L48.getD 1 .non]) = some false := by kernel_rfl
theorem in48b : cmpV .nin xW (.tup [L48.getD 1 .non, L48.getD 0 .non]) = some false := by kernel_rfl
theorem in48 : cmpV .nin xW (.tup (L48.mergeSort le48)) = some false := by
  rw [L48_eq, ms2]
  cases le48 (L48.getD 0 .non) (L48.getD 1 .non)
  · exact in48b
  · exact in48a
theorem nin_at {C : CallI} {env : Mi.Env} {x e : Ex} {v y : W} (hx : ∀ s, rdv env x s (evalE C x env s) = evalE C x env s) (he : ∀ s, rdv env e s (evalE C e env s) = evalE C e env s) (h1 : evalE C x env [] = .ok v []) (h2 : evalE C e env [] = .ok y []) (h3 : cmpV .nin v y = some false) : evalE C (.cmp .nin x e) env [] = .ok (.bl false) [] := by
  rw [evalE, hx, h1, Out.bind_ok, he, h2, Out.bind_ok, h3]
  rfl
theorem ifs_not {C : CallI} {env : Mi.Env} {c : Ex} {a r : List Sm} (h : evalE C c env [] = .ok (.bl false) []) : execs C (.ifs c a [] :: r) env [] = execs C r env [] := by
  rw [Mi.execs, Mi.exec, h, Out.bind_ok]
  simp only [toB, Out.of_some, Out.bind_ok, Mi.execs, if_false, Bool.false_eq_true]
theorem rdv_x {env : Mi.Env} {s : Sto} {r : Out W} : rdv env xE s r = r := by unfold rdv; rfl
theorem rdv_r {env : Mi.Env} {s : Sto} {r : Out W} : rdv env rE s r = r := by unfold rdv; rfl
theorem xE_at {C : CallI} {env : Mi.Env} : evalE C xE env [] = .ok xW [] := by kernel_rfl
theorem not48 : evalE CC (.cmp .nin xE rE) envW [] = .ok (.bl false) [] := nin_at (fun _ => rdv_x) (fun _ => rdv_r) xE_at rds in48
theorem head48 : ∀ r, execs CC (Bw.take 5 ++ r) (start 2 []) [] = execs CC r envW [] := fun r => by kernel_rfl
theorem tail48 : execs CC (Bw.drop 6) envW [] = .ok (.rt (.bl true)) [] := by kernel_rfl
theorem body48 : Bw = Bw.take 5 ++ (.ifs (.cmp .nin xE rE) [.ret (.cst (.bl false))] [] :: Bw.drop 6) := by kernel_rfl
theorem run48 : execs CC Bw (start 2 []) [] = .ok (.rt (.bl true)) [] := by
  rw [body48, head48, ifs_not not48, tail48]
theorem call46 : callN ds48 39 46 [] [] = (execs CC Bw (start 2 []) []).bind fin := by kernel_rfl
theorem w46 : callN ds48 39 46 [] [] = .ok (.bl true) [] := by
  rw [call46, run48]
  exact nrfl rfl
theorem w47 : callN ds48 39 47 [] [] = .ok (.bl true) [] := by kernel_rfl
theorem w48 : callN ds48 39 48 [] [] = .ok (.bl true) [] := by kernel_rfl
theorem ok_plain_k48 (ns : List Int) (_ : ns.length ≤ 63) : ∃ s, callN ds48 40 49 [.scr ns] [] = .ok (.bl true) s := by
  have h : ∀ C : CallI, C 46 [] [] = .ok (.bl true) [] → C 47 [] [] = .ok (.bl true) [] → C 48 [] [] = .ok (.bl true) [] →
      (execs C (Bd.b_law_v67 46 47 48) (start 1 [.scr ns]) []).bind fin = .ok (.bl true) [] := fun C h1 h2 h3 => by
    unfold Bd.b_law_v67
    simp [Mi.execs, Mi.exec, evalE, evalL, h1, h2, h3, toB, noEx, fin, Out.of, Out.bind]
  exact ⟨[], h (callN ds48 39) w46 w47 w48⟩
end K48

namespace Rg
end Rg
namespace Lw
open PySem Mi Rg
theorem plain (ns : List Int) (hn : ns.length ≤ 63) : ∃ s, callN ds levels lawIx [.scr ns] [] = .ok (.bl true) s :=
  K48.ok_plain_k48 ns hn
end Lw
theorem PySem.Challenge.cw_handson_k48_wishes_and_messages_by_hand_holds : PySem.Challenge.rw_handson_k48_wishes_and_messages_by_hand.Holds :=
  holds_of Lw.plain
