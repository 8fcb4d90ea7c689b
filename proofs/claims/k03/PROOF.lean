import PyProof.Rows.All
import Wide.All
import OpenK.AllK
import Wide.FinOn
import HandS.ForMost
import HandS.ForExc
import HandS.Wide
import HandS.TupAny
import HandS.Style
import HandS.Deep
import HandS.IsInst
import HandS.SortInts
import HandS.ExcInit
import HandS.RaiseMore
import HandS.Small
import HandS.NoneIn
import HandS.SetFor
import HandS.Strs
import HandS.Defaults
import HandS.HeadEnd
import HandS.HeadHook2
import HandS.Head2
import KE.GoesEnum
import KE.KStateDown
import HandS.Head0
import HandS.Head1
import HandS.HeadHook1
import PySem.Challenge.RW_touchcontest_k03_whole_paths_moved_and_c
set_option Elab.async false
set_option linter.all false
set_option maxRecDepth 100000
namespace TL
open PySem

abbrev Pd := PyData

/-- what a slot holds: data that nobody changes any more, or a thing that this slot alone holds -/
inductive Ob where
  | dat (d : Pd)
  | ol (ds : List Pd)
  | od (kvs : List (Pd × Pd))
  | lo (os : List Ob)
  | to (os : List Ob)
  | ins (c : Nat) (ns : List Nat) (os : List Ob)

/-- read as data -/
def Ob.view : Ob → Option Pd
  | .dat d => some d
  | .ol ds => some (.list ds)
  | .od kvs => some (.dict kvs)
  | _ => none

/-- a value on its way: data for good; a look at what slot i holds; a new thing -/
inductive Vl where
  | d (x : Pd)
  | pk (o : Ob) (i : Nat)
  | fr (o : Ob)

def Vl.view : Vl → Option Pd
  | .d x => some x
  | .pk o _ => o.view
  | .fr o => o.view

/-- an exception: its class's number, its fields -/
structure Ex where
  c : Nat
  fs : List Pd

abbrev Ev := List (Option Ob)

inductive Re (α : Type) where
  | ok (a : α) (ρ : Ev)
  | ex (e : Ex) (ρ : Ev)
  | no

@[simp] def Re.bind {α β : Type} (r : Re α) (f : α → Ev → Re β) : Re β :=
  match r with
  | .ok a ρ => f a ρ
  | .ex e ρ => .ex e ρ
  | .no => .no

/-- a step that may not be taken -/
@[simp] def ofO {α : Type} (o : Option α) (ρ : Ev) : Re α :=
  match o with
  | some a => .ok a ρ
  | none => .no

inductive BO where
  | add | sub | mul | fdiv | mod | pow
  deriving DecidableEq
inductive CO where
  | eq | ne | lt | le | gt | ge | isN | notN | inn | nin
  deriving DecidableEq

abbrev szL : Nat := 16777216

def bop : BO → Pd → Pd → Option Vl
  | .add, .int i, .int j => some (.d (.int (i + j)))
  | .add, .str x, .str y => if x.length + y.length ≤ szL then some (.d (.str (x ++ y))) else none
  | .add, .list xs, .list ys => if xs.length + ys.length ≤ szL then some (.fr (.ol (xs ++ ys))) else none
  | .add, .tuple xs, .tuple ys => if xs.length + ys.length ≤ szL then some (.d (.tuple (xs ++ ys))) else none
  | .sub, .int i, .int j => some (.d (.int (i - j)))
  | .mul, .int i, .int j => if i.natAbs.log2 + j.natAbs.log2 < 1000000 then some (.d (.int (i * j))) else none
  | .mul, .list xs, .int k => if -(2 ^ 63) ≤ k ∧ k < 2 ^ 63 ∧ xs.length * k.toNat ≤ szL then some (.fr (.ol (List.replicate k.toNat xs).flatten)) else none
  | .fdiv, .int i, .int j => if 0 < j ∧ j.natAbs.log2 < 9000 then some (.d (.int (i / j))) else none
  | .mod, .int i, .int j => if 0 < j then some (.d (.int (i % j))) else none
  | .pow, .int i, .int j => if 0 ≤ j ∧ (i.natAbs.log2 + 1) * j.toNat ≤ 134217728 then some (.d (.int (i ^ j.toNat))) else none
  | _, _, _ => none

mutual
/-- data of a form that == takes: no dict within, not too deep -/
def flatE : Nat → Pd → Bool
  | _, .none | _, .bool _ | _, .int _ => true
  | _, .str x => PyData.strOk x
  | n + 1, .list xs => flatEs n xs
  | n + 1, .tuple xs => flatEs n xs
  | _, _ => false
def flatEs : Nat → List Pd → Bool
  | _, [] => true
  | n, x :: xs => flatE n x && flatEs n xs
end

/-- two that == takes without a look within -/
def scal0 : Pd → Pd → Bool
  | .none, .none | .none, .int _ | .int _, .none | .none, .bool _ | .bool _, .none | .none, .str _ | .str _, .none => true
  | .int _, .int _ | .bool _, .bool _ | .str _, .str _ | .int _, .str _ | .str _, .int _ | .bool _, .str _ | .str _, .bool _ => true
  | _, _ => false
/-- two lists of unlike lengths -/
def lenNe : Pd → Pd → Bool
  | .list xs, .list ys => xs.length != ys.length
  | _, _ => false
def scalP (x y : Pd) : Bool := scal0 x y || lenNe x y
def isNone : Pd → Bool
  | .none => true
  | _ => false
def cop : CO → Pd → Pd → Option Bool
  | .eq, x, y => if scalP x y || (flatE 60 x && flatE 60 y) then some (PyData.eqv x y) else none
  | .ne, x, y => if scalP x y || (flatE 60 x && flatE 60 y) then some (!PyData.eqv x y) else none
  | .lt, .int i, .int j => some (decide (i < j))
  | .le, .int i, .int j => some (decide (i ≤ j))
  | .gt, .int i, .int j => some (decide (j < i))
  | .ge, .int i, .int j => some (decide (j ≤ i))
  | .isN, x, .none => some (isNone x)
  | .notN, x, .none => some (!isNone x)
  | _, _, _ => none

/-- the place of an index -/
abbrev ixD (n : Nat) (i : Int) : Option Nat := L2.ixN n i

/-- a slice -/
def cut {α : Type} (xs : List α) (lo hi : Option Int) : List α := (xs.drop (HT.sIx xs.length 0 lo)).take (HT.sIx xs.length xs.length hi - HT.sIx xs.length 0 lo)

end TL
set_option Elab.async false
set_option linter.all false
set_option maxRecDepth 100000
namespace TL
open PySem

mutual
/-- no list, no dict within -/
def flatP : Pd → Bool
  | .none | .bool _ | .int _ | .str _ => true
  | .tuple xs => flatPs xs
  | _ => false
def flatPs : List Pd → Bool
  | [] => true
  | x :: xs => flatP x && flatPs xs
end

/-- may leave a call that only looked at its arguments -/
def Vl.clean : Vl → Bool
  | .d x => flatP x
  | .fr (.ol ds) => flatPs ds
  | .fr (.dat x) => flatP x
  | _ => false

/-- keys of dicts: ints and texts -/
def keyP : Pd → Option (Sum Int Str)
  | .int i => some (.inl i)
  | .str s => some (.inr s)
  | _ => none
def dlook (kvs : List (Pd × Pd)) (k : Pd) : Option Pd :=
  match kvs with
  | [] => none
  | (a, v) :: r => if keyP a = keyP k then some v else dlook r k
def dput (kvs : List (Pd × Pd)) (k v : Pd) : List (Pd × Pd) :=
  match kvs with
  | [] => [(k, v)]
  | (a, w) :: r => if keyP a = keyP k then (a, v) :: r else (a, w) :: dput r k v
def ddel (kvs : List (Pd × Pd)) (k : Pd) : List (Pd × Pd) :=
  match kvs with
  | [] => []
  | (a, w) :: r => if keyP a = keyP k then r else (a, w) :: ddel r k

def signIn (l : List Nat) (y : Str) : Option Bool :=
  match l with
  | [c] => some (decide (c ∈ y.cps.toList))
  | _ => none
/-- x in y -/
def inD : Pd → Pd → Option Bool
  | x, .list ys => if flatE 60 x && flatE 60 (.list ys) then some (ys.any fun z => PyData.eqv z x) else none
  | x, .tuple ys => if flatE 0 x && flatEs 0 ys then some (ys.any fun z => PyData.eqv z x) else none
  | .str x, .str y => signIn x.cps.toList y
  | _, _ => none
def cop2 : CO → Pd → Pd → Option Bool
  | .inn, x, y => inD x y
  | .nin, x, y => (inD x y).map (!·)
  | o, x, y => cop o x y

/-- a[i] -/
def idxD : Pd → Pd → Option Pd
  | .list xs, .int i => (ixD xs.length i).bind fun j => xs[j]?
  | .tuple xs, .int i => (ixD xs.length i).bind fun j => xs[j]?
  | .str s, .int i => if s.length ≤ szL then (L2.atI s.cps.toList i).map fun c => .str ⟨#[c]⟩ else none
  | _, _ => none

def slcD (x : Pd) (lo hi : Option Int) : Option Vl :=
  match x with
  | .list xs => some (.fr (.ol (cut xs lo hi)))
  | .tuple xs => some (.d (.tuple (cut xs lo hi)))
  | .str s => if s.length ≤ szL then some (.d (.str (L2.cutS s lo hi))) else none
  | _ => none
def revD : Pd → Option Vl
  | .list xs => some (.fr (.ol xs.reverse))
  | _ => none

inductive BI where
  | len | abs | max2 | min2 | int1 | str1 | repr1 | all1 | any1 | list1 | tuple1 | sorted1 | sum1 | max1 | min1
  deriving DecidableEq

def intsOf : List Pd → Option (List Int)
  | [] => some []
  | .int i :: r => (intsOf r).map (i :: ·)
  | _ => none
def boolsOf : List Pd → Option (List Bool)
  | [] => some []
  | .bool i :: r => (boolsOf r).map (i :: ·)
  | _ => none
def pairsOf : List Pd → Option (List (Int × Int))
  | [] => some []
  | .tuple [.int i, .int j] :: r => (pairsOf r).map ((i, j) :: ·)
  | _ => none
def pairD (p : Int × Int) : Pd := .tuple [.int p.1, .int p.2]
def leP (p q : Int × Int) : Bool := decide (p.1 < q.1) || (p.1 == q.1 && decide (p.2 ≤ q.2))
def sortD (ds : List Pd) : Option (List Pd) :=
  match intsOf ds with
  | some is => some ((is.mergeSort (fun a b => decide (a ≤ b))).map .int)
  | none => none

def lenD : Pd → Option Nat
  | .list xs => some xs.length
  | .tuple xs => some xs.length
  | .str s => if s.length ≤ szL then some s.length else none
  | _ => none

def bi : BI → List Pd → Option Vl
  | .len, [x] => (lenD x).map fun (n : Nat) => Vl.d (.int (n : Int))
  | .abs, [.int i] => some (.d (.int (if i < 0 then -i else i)))
  | .max2, [.int i, .int j] => some (.d (.int (if j > i then j else i)))
  | .min2, [.int i, .int j] => some (.d (.int (if j < i then j else i)))
  | .int1, [.int i] => some (.d (.int i))
  | .int1, [.bool b] => some (.d (.int (if b then 1 else 0)))
  | .str1, [.int i] => if i.natAbs.log2 < 1920 then some (.d (.str (toString i))) else none
  | .str1, [.str x] => some (.d (.str x))
  | .repr1, [x] => if x.showable && decide (x.depth ≤ 60) && decide (x.shown.length ≤ szL) then some (.d (.str x.shown)) else none
  | .all1, [.list xs] => (boolsOf xs).map fun bs => .d (.bool (bs.all id))
  | .any1, [.list xs] => (boolsOf xs).map fun bs => .d (.bool (bs.any id))
  | .list1, [.list xs] => some (.fr (.ol xs))
  | .list1, [.tuple xs] => some (.fr (.ol xs))
  | .tuple1, [.list xs] => some (.d (.tuple xs))
  | .tuple1, [.tuple xs] => some (.d (.tuple xs))
  | .sorted1, [.list xs] => (sortD xs).map fun ys => .fr (.ol ys)
  | .sum1, [.list xs] => (intsOf xs).map fun is => .d (.int is.sum)
  | .max1, [.list xs] => (intsOf xs).bind fun is => is.max?.map fun m => .d (.int m)
  | .min1, [.list xs] => (intsOf xs).bind fun is => is.min?.map fun m => .d (.int m)
  | _, _ => none

/-- built-in classes, for isinstance -/
inductive CN where
  | int | bool | str | list | tuple | dict
  deriving DecidableEq
def isiD : CN → Pd → Bool
  | .int, .int _ | .int, .bool _ | .bool, .bool _ | .str, .str _ | .list, .list _ | .tuple, .tuple _ | .dict, .dict _ => true
  | _, _ => false

mutual
inductive IT where
  | nm (i : Nat)
  | tp (l : ITs)
inductive ITs where
  | nil
  | cons (t : IT) (l : ITs)
end
mutual
inductive IE where
  | var (i : Nat)
  | cst (d : Pd)
  | glb (k : Nat)
  | neg (a : IE)
  | not_ (a : IE)
  | bin (op : BO) (a b : IE)
  | cmp (op : CO) (a b : IE)
  | chn (o1 o2 : CO) (a b c : IE)
  | and_ (a b : IE)
  | or_ (a b : IE)
  | ife (c a b : IE)
  | lst (as : IA)
  | tup (as : IA)
  | dct (ks vs : IA)
  | idx (a b : IE)
  | slc (a lo hi : IE)
  | rev (a : IE)
  | cal (f : Nat) (as : IA)
  | bi (b : BI) (as : IA)
  | isi (c : CN) (a : IE)
  | repL (as : IA)
  | srt (a : IE)
  | slk (a lo : IE) (k : Nat)
  | mpop (i : Nat)
  | mpopi (i : Nat) (a : IE)
  | lc (elt : IE) (tg : IT) (it : II) (cs : IA) (own : List Nat)
inductive IA where
  | nil
  | cons (a : IE) (r : IA)
  | io (i : Nat) (r : IA)
inductive II where
  | val (a : IE)
  | rng1 (a : IE)
  | rng2 (a b : IE)
  | enm (a : IE) (st : Int)
  | zip (a b : IE)
  | zipd (a b : IE)
end
inductive IS where
  | nil
  | seq (s t : IS)
  | set (i : Nat) (e : IE)
  | tgt (t : IT) (e : IE)
  | ptg (is : List Nat) (as : IA)
  | par (i j : Nat) (a b : IE)
  | exp (e : IE)
  | app (i : Nat) (e : IE)
  | sti (i : Nat) (a e : IE)
  | aug (i : Nat) (op : BO) (e : IE)
  | if_ (c : IE) (a b : IS)
  | whl (n : Nat) (c : IE) (b : IS)
  | for_ (t : IT) (it : II) (b : IS)
  | ret (e : IE)
  | retn
  | brk
  | cnt
  | pass
  | rse (c : Nat) (as : IA)
  | never

mutual
def ioE : IE → List Nat
  | .var _ | .cst _ | .glb _ => []
  | .neg a | .not_ a | .rev a | .isi _ a | .srt a => ioE a
  | .slk a lo _ => ioE a ++ ioE lo
  | .bin _ a b | .cmp _ a b | .and_ a b | .or_ a b | .idx a b => ioE a ++ ioE b
  | .chn _ _ a b c | .ife a b c | .slc a b c => ioE a ++ (ioE b ++ ioE c)
  | .lst as | .tup as | .cal _ as | .bi _ as | .repL as => ioA as
  | .dct ks vs => ioA ks ++ ioA vs
  | .mpop i => [i]
  | .mpopi i a => i :: ioE a
  | .lc e _ it cs _ => ioI it ++ (ioA cs ++ ioE e)
def ioA : IA → List Nat
  | .nil => []
  | .cons a r => ioE a ++ ioA r
  | .io i r => i :: ioA r
def ioI : II → List Nat
  | .val a | .rng1 a | .enm a _ => ioE a
  | .rng2 a b | .zip a b | .zipd a b => ioE a ++ ioE b
end

/-- the slots that a call is handed over -/
def ioT : IA → List Nat
  | .nil => []
  | .cons _ r => ioT r
  | .io i r => i :: ioT r

/-- a slice's part: left out, or an int -/
def IE.left : IE → Bool
  | .cst .none => true
  | _ => false
def partE (i : IE) (p : Pd) : Option (Option Int) :=
  if i.left then some none else match p with
  | .int k => some (some k)
  | _ => none

/-- a call's end: its value, what its parameters hold then -/
inductive Cen where
  | ok (v : Vl) (outs : List (Option Ob))
  | ex (e : Ex) (outs : List (Option Ob))
  | no
abbrev Calls := Nat → List Ob → Cen

/-- a value kept for good -/
def take (v : Vl) (ρ : Ev) : Re Pd :=
  match v with
  | .d x => .ok x ρ
  | .fr o => ofO o.view ρ
  | .pk (.ol ds) i => match ρ[i]? with
    | some (some _) => .ok (.list ds) (ρ.set i (some (.dat (.list ds))))
    | _ => .no
  | .pk (.od kvs) i => match ρ[i]? with
    | some (some _) => .ok (.dict kvs) (ρ.set i (some (.dat (.dict kvs))))
    | _ => .no
  | .pk _ _ => .no
/-- a look may not be behind by now -/
def fresh (v : Vl) (io : List Nat) : Bool :=
  match v with
  | .pk _ i => !io.contains i
  | _ => true
def seen (v : Vl) (io : List Nat) : Option Pd := if fresh v io then v.view else none

/-- walked: a thing of a slot's own is hidden while the walk lasts -/
def peekIt (v : Vl) (ρ : Ev) : Re (Pd × List (Nat × Ob)) :=
  match v with
  | .d x => .ok (x, []) ρ
  | .fr o => ofO (o.view.map fun x => (x, [])) ρ
  | .pk (.ol ds) i => match ρ[i]? with
    | some (some _) => .ok (.list ds, [(i, .ol ds)]) (ρ.set i none)
    | _ => .no
  | .pk _ _ => .no
def unhide : List (Nat × Ob) → Ev → Ev
  | [], ρ => ρ
  | (i, o) :: l, ρ => (unhide l ρ).set i (some o)

mutual
def assignT : IT → Pd → Ev → Option Ev
  | .nm i, x, ρ => some (ρ.set i (some (.dat x)))
  | .tp l, .tuple xs, ρ => assignTs l xs ρ
  | .tp l, .list xs, ρ => assignTs l xs ρ
  | .tp _, _, _ => none
def assignTs : ITs → List Pd → Ev → Option Ev
  | .nil, [], ρ => some ρ
  | .cons t l, x :: xs, ρ => (assignT t x ρ).bind fun ρ' => assignTs l xs ρ'
  | _, _, _ => none
end

/-- the end of a call: what the slots that were handed over hold -/
def setIO : IA → List (Option Ob) → Ev → Option Ev
  | .nil, _, ρ => some ρ
  | .cons _ r, _ :: os, ρ => setIO r os ρ
  | .io i r, some o :: os, ρ => (setIO r os ρ).map (·.set i (some o))
  | _, _, _ => none

def wipeE (ρ : Ev) : List Nat → Ev
  | [] => ρ
  | i :: l => (wipeE ρ l).set i none
/-- behind a comprehension: its own names are as they were, if they were data -/
def unwipe (ρ0 ρ : Ev) : List Nat → Ev
  | [] => ρ
  | i :: l => (unwipe ρ0 ρ l).set i (match ρ0[i]? with
    | some (some (.dat d)) => some (.dat d)
    | _ => none)

/-- a comprehension's turns -/
def lcGo (f : Pd → Ev → Re (Option Pd)) : List Pd → Ev → List Pd → Re (List Pd)
  | [], ρ, acc => .ok acc ρ
  | x :: xs, ρ, acc => match f x ρ with
    | .ok (some y) ρ' => if acc.length < szL then lcGo f xs ρ' (acc ++ [y]) else .no
    | .ok none ρ' => lcGo f xs ρ' acc
    | _ => .no

def enumD (st : Int) : List Pd → List Pd
  | [] => []
  | x :: xs => .tuple [.int st, x] :: enumD (st + 1) xs
def seqD : Pd → Option (List Pd)
  | .list xs => some xs
  | .tuple xs => some xs
  | _ => none
def listD : Pd → Option (List Pd)
  | .list xs => some xs
  | _ => none
def rngD (lo hi : Int) : List Pd := (List.range (hi - lo).toNat).map fun (k : Nat) => .int (lo + (k : Int))
def smallI (i : Int) : Bool := decide (-(2 ^ 62) ≤ i) && decide (i < 2 ^ 62)

/-- without the later of two alike -/
def ddI : List Int → List Int
  | [] => []
  | x :: xs => if x ∈ xs then ddI xs else x :: ddI xs
def srtI (is : List Int) : List Int := (ddI is).mergeSort fun a b => decide (a ≤ b)
/-- the places of a slice with a step -/
def idxS (lo k : Int) (n : Nat) : List Nat := sliceRange (sliceBounds (some lo) none (some k) n).1 (sliceBounds (some lo) none (some k) n).2.1 (sliceBounds (some lo) none (some k) n).2.2
def pickS {α : Type} (is : List Nat) (xs : List α) : List α := is.filterMap (xs[·]?)

mutual
def evalE (G : List Pd) (C : Calls) : IE → Ev → Re Vl
  | .var i, ρ => match ρ[i]? with
    | some (some (.dat x)) => .ok (.d x) ρ
    | some (some o) => .ok (.pk o i) ρ
    | _ => .no
  | .cst d, ρ => .ok (.d d) ρ
  | .glb k, ρ => match G[k]? with
    | some x => .ok (.d x) ρ
    | none => .no
  | .neg a, ρ => (evalE G C a ρ).bind fun v ρ => match v.view with
    | some (.int i) => .ok (.d (.int (-i))) ρ
    | _ => .no
  | .not_ a, ρ => (evalE G C a ρ).bind fun v ρ => match v.view with
    | some (.bool b) => .ok (.d (.bool (!b))) ρ
    | _ => .no
  | .bin op a b, ρ => (evalE G C a ρ).bind fun v ρ => (evalE G C b ρ).bind fun w ρ => match seen v (ioE b), w.view with
    | some x, some y => ofO (bop op x y) ρ
    | _, _ => .no
  | .cmp op a b, ρ => (evalE G C a ρ).bind fun v ρ => (evalE G C b ρ).bind fun w ρ => match seen v (ioE b), w.view with
    | some x, some y => ofO ((cop2 op x y).map fun b => .d (.bool b)) ρ
    | _, _ => .no
  | .chn o1 o2 a b c, ρ => (evalE G C a ρ).bind fun v ρ => (evalE G C b ρ).bind fun w ρ => match seen v (ioE b), w.view with
    | some x, some y => match cop2 o1 x y with
      | some true => (evalE G C c ρ).bind fun u ρ => match seen w (ioE c), u.view with
        | some y, some z => ofO ((cop2 o2 y z).map fun b => .d (.bool b)) ρ
        | _, _ => .no
      | some false => .ok (.d (.bool false)) ρ
      | none => .no
    | _, _ => .no
  | .and_ a b, ρ => (evalE G C a ρ).bind fun v ρ => match v.view with
    | some (.bool true) => evalE G C b ρ
    | some (.bool false) => .ok (.d (.bool false)) ρ
    | _ => .no
  | .or_ a b, ρ => (evalE G C a ρ).bind fun v ρ => match v.view with
    | some (.bool true) => .ok (.d (.bool true)) ρ
    | some (.bool false) => evalE G C b ρ
    | _ => .no
  | .ife c a b, ρ => (evalE G C c ρ).bind fun v ρ => match v.view with
    | some (.bool true) => evalE G C a ρ
    | some (.bool false) => evalE G C b ρ
    | _ => .no
  | .lst as, ρ => (evalD G C as ρ).bind fun xs ρ => .ok (.fr (.ol xs)) ρ
  | .tup as, ρ => (evalD G C as ρ).bind fun xs ρ => .ok (.d (.tuple xs)) ρ
  | .dct ks vs, ρ => match ks with
    | .nil => .ok (.fr (.od [])) ρ
    | .cons (.cst (.int i)) .nil => match vs with
      | .cons (.var j) .nil => match ρ[j]? with
        | some (some (.dat x)) => .ok (.fr (.od [(.int i, x)])) ρ
        | _ => .no
      | _ => .no
    | _ => .no
  | .idx a b, ρ => (evalE G C a ρ).bind fun v ρ => (evalE G C b ρ).bind fun w ρ => match seen v (ioE b), w.view with
    | some x, some y => ofO ((idxD x y).map .d) ρ
    | _, _ => .no
  | .slc a lo hi, ρ => (evalE G C a ρ).bind fun v ρ => (evalE G C lo ρ).bind fun l ρ => match l.view.bind (partE lo) with
    | some l => (evalE G C hi ρ).bind fun h ρ => match seen v (ioE lo ++ ioE hi), h.view.bind (partE hi) with
      | some x, some h => ofO (slcD x l h) ρ
      | _, _ => .no
    | none => .no
  | .rev a, ρ => (evalE G C a ρ).bind fun v ρ => match v.view with
    | some x => ofO (revD x) ρ
    | none => .no
  | .cal f as, ρ => (evalA G C (ioT as).isEmpty as ρ).bind fun p ρ => match C f p.1 with
    | .ok v outs => if p.2.isEmpty || v.clean then match setIO as outs ρ with
        | some ρ => .ok v ρ
        | none => .no
      else .no
    | .ex e outs => match setIO as outs ρ with
        | some ρ => .ex e ρ
        | none => .no
    | .no => .no
  | .bi b as, ρ => (evalP G C as ρ).bind fun xs ρ => ofO (bi b xs) ρ
  | .srt a, ρ => (evalE G C a ρ).bind fun v ρ => match v.view with
    | some (.list xs) => match intsOf xs with
      | some is => if is.length < 60 then .ok (.fr (.ol ((srtI is).map .int))) ρ else .no
      | none => .no
    | _ => .no
  | .slk a lo k, ρ => (evalE G C a ρ).bind fun v ρ => (evalE G C lo ρ).bind fun w ρ => match seen v (ioE lo), w.view with
    | some (.list xs), some (.int i) => if 0 < k then .ok (.fr (.ol (pickS (idxS i k xs.length) xs))) ρ else .no
    | _, _ => .no
  | .repL as, ρ => (evalP G C as ρ).bind fun xs ρ => ofO (bi .repr1 [.list xs]) ρ
  | .isi c a, ρ => (evalE G C a ρ).bind fun v ρ => match v.view with
    | some x => .ok (.d (.bool (isiD c x))) ρ
    | none => .no
  | .mpop i, ρ => match ρ[i]? with
    | some (some (.ol ds)) => match ds.getLast? with
      | some x => .ok (.d x) (ρ.set i (some (.ol ds.dropLast)))
      | none => .no
    | _ => .no
  | .mpopi i a, ρ => match ρ[i]? with
    | some (some (.ol _)) => (evalE G C a ρ).bind fun w ρ => match w.view, ρ[i]? with
      | some (.int k), some (some (.ol ds)) => match ixD ds.length k with
        | some j => match ds[j]? with
          | some x => .ok (.d x) (ρ.set i (some (.ol (ds.eraseIdx j))))
          | none => .no
        | none => .no
      | _, _ => .no
    | _ => .no
  | .lc elt tg it cs own, ρ => (evalI G C it ρ).bind fun p ρ => if p.2.any fun q => own.contains q.1 then .no else
    (lcGo (fun x ρ => match assignT tg x (wipeE ρ own) with
      | some ρ => (evalC G C cs ρ).bind fun b ρ => if b then (evalE G C elt ρ).bind fun v ρ => (take v ρ).bind fun y ρ => .ok (some y) ρ else .ok none ρ
      | none => .no) p.1 (wipeE ρ own) []).bind fun ys ρ' => .ok (.fr (.ol ys)) (unhide p.2 (unwipe ρ ρ' own))
/-- a list of values kept for good -/
def evalD (G : List Pd) (C : Calls) : IA → Ev → Re (List Pd)
  | .nil, ρ => .ok [] ρ
  | .cons a r, ρ => (evalE G C a ρ).bind fun v ρ => (take v ρ).bind fun x ρ => (evalD G C r ρ).bind fun xs ρ => .ok (x :: xs) ρ
  | .io _ _, _ => .no
/-- a list of values to be looked at -/
def evalP (G : List Pd) (C : Calls) : IA → Ev → Re (List Pd)
  | .nil, ρ => .ok [] ρ
  | .cons a r, ρ => (evalE G C a ρ).bind fun v ρ => (evalP G C r ρ).bind fun xs ρ => match seen v (ioA r) with
    | some x => .ok (x :: xs) ρ
    | none => .no
  | .io _ _, _ => .no
/-- a call's arguments, and the slots that are looked at (m: looks are let) -/
def evalA (G : List Pd) (C : Calls) (m : Bool) : IA → Ev → Re (List Ob × List Nat)
  | .nil, ρ => .ok ([], []) ρ
  | .cons a r, ρ => (evalE G C a ρ).bind fun v ρ => match v with
    | .pk o i => match o.view with
      | some x => if m && !(ioA r).contains i then (evalA G C m r ρ).bind fun p ρ => .ok (.dat x :: p.1, i :: p.2) ρ
        else (take v ρ).bind fun x ρ => (evalA G C m r ρ).bind fun p ρ => .ok (.dat x :: p.1, p.2) ρ
      | none => .no
    | v => (take v ρ).bind fun x ρ => (evalA G C m r ρ).bind fun p ρ => .ok (.dat x :: p.1, p.2) ρ
  | .io i r, ρ => match ρ[i]? with
    | some (some _) => (evalA G C m r ρ).bind fun p ρ => match ρ[i]? with
      | some (some o) => if (ioT r).contains i then .no else .ok (o :: p.1, p.2) ρ
      | _ => .no
    | _ => .no
/-- values on their way, looks taken for good -/
def evalV (G : List Pd) (C : Calls) : IA → Ev → Re (List Vl)
  | .nil, ρ => .ok [] ρ
  | .cons a r, ρ => (evalE G C a ρ).bind fun v ρ => match v with
    | .fr o => (evalV G C r ρ).bind fun vs ρ => .ok (.fr o :: vs) ρ
    | v => (take v ρ).bind fun x ρ => (evalV G C r ρ).bind fun vs ρ => .ok (.d x :: vs) ρ
  | .io _ _, _ => .no
/-- tests behind a comprehension's for -/
def evalC (G : List Pd) (C : Calls) : IA → Ev → Re Bool
  | .nil, ρ => .ok true ρ
  | .cons a r, ρ => (evalE G C a ρ).bind fun v ρ => match v.view with
    | some (.bool true) => evalC G C r ρ
    | some (.bool false) => .ok false ρ
    | _ => .no
  | .io _ _, _ => .no
/-- what is walked, and the slots that are hidden meanwhile -/
def evalI (G : List Pd) (C : Calls) : II → Ev → Re (List Pd × List (Nat × Ob))
  | .val a, ρ => (evalE G C a ρ).bind fun v ρ => (peekIt v ρ).bind fun p ρ => ofO ((seqD p.1).map fun xs => (xs, p.2)) ρ
  | .rng1 a, ρ => (evalE G C a ρ).bind fun v ρ => match v.view with
    | some (.int i) => if smallI i then .ok (rngD 0 i, []) ρ else .no
    | _ => .no
  | .rng2 a b, ρ => (evalE G C a ρ).bind fun v ρ => (evalE G C b ρ).bind fun w ρ => match seen v (ioE b), w.view with
    | some (.int i), some (.int j) => if smallI i && smallI j then .ok (rngD i j, []) ρ else .no
    | _, _ => .no
  | .enm a st, ρ => (evalE G C a ρ).bind fun v ρ => (peekIt v ρ).bind fun p ρ => ofO ((listD p.1).map fun xs => (enumD st xs, p.2)) ρ
  | .zip a b, ρ => (evalE G C a ρ).bind fun v ρ => (peekIt v ρ).bind fun p ρ => (evalE G C b ρ).bind fun w ρ => (peekIt w ρ).bind fun q ρ =>
    match listD p.1, listD q.1 with
    | some xs, some ys => .ok (List.zipWith (fun x y => .tuple [x, y]) xs ys, q.2 ++ p.2) ρ
    | _, _ => .no
  | .zipd a b, ρ => (evalE G C a ρ).bind fun v ρ => (take v ρ).bind fun x ρ => (peekIt (.d x) ρ).bind fun p ρ => (evalE G C b ρ).bind fun w ρ => (peekIt w ρ).bind fun q ρ =>
    match listD p.1, listD q.1 with
    | some xs, some ys => .ok (List.zipWith (fun x y => .tuple [x, y]) xs ys, q.2 ++ p.2) ρ
    | _, _ => .no
end

mutual
def asT : IT → List Nat
  | .nm i => [i]
  | .tp l => asTs l
def asTs : ITs → List Nat
  | .nil => []
  | .cons t l => asT t ++ asTs l
end
def asS : IS → List Nat
  | .seq s t | .if_ _ s t => asS s ++ asS t
  | .set i _ | .aug i _ _ => [i]
  | .par i j _ _ => [i, j]
  | .ptg is _ => is
  | .tgt t _ => asT t
  | .whl _ _ b => asS b
  | .for_ t _ b => asT t ++ asS b
  | _ => []
def Re.mapE {α : Type} (f : Ev → Ev) : Re α → Re α
  | .ok a ρ => .ok a (f ρ)
  | .ex e ρ => .ex e (f ρ)
  | .no => .no
inductive Fl where
  | nx
  | rt (v : Vl)
  | bk
  | ct

def forGo (f : Pd → Ev → Re Fl) : List Pd → Ev → Re Fl
  | [], ρ => .ok .nx ρ
  | x :: xs, ρ => match f x ρ with
    | .ok .nx ρ' => forGo f xs ρ'
    | .ok .ct ρ' => forGo f xs ρ'
    | .ok .bk ρ' => .ok .nx ρ'
    | r => r
def whlGo (c : Ev → Re Bool) (f : Ev → Re Fl) : Nat → Ev → Re Fl
  | 0, _ => .no
  | n + 1, ρ => (c ρ).bind fun b ρ => if b then match f ρ with
      | .ok .nx ρ' => whlGo c f n ρ'
      | .ok .ct ρ' => whlGo c f n ρ'
      | .ok .bk ρ' => .ok .nx ρ'
      | r => r
    else .ok .nx ρ
def boolOf (v : Vl) (ρ : Ev) : Re Bool :=
  match v.view with
  | some (.bool b) => .ok b ρ
  | _ => .no
/-- what a slot gets -/
def store (i : Nat) (v : Vl) (ρ : Ev) : Re Fl :=
  match v with
  | .fr o => .ok .nx (ρ.set i (some o))
  | v => (take v ρ).bind fun x ρ => .ok .nx (ρ.set i (some (.dat x)))

def storeV : List Nat → List Vl → Ev → Re Fl
  | [], [], ρ => .ok .nx ρ
  | i :: is, .d x :: vs, ρ => storeV is vs (ρ.set i (some (.dat x)))
  | i :: is, .fr o :: vs, ρ => storeV is vs (ρ.set i (some o))
  | _, _, _ => .no
def execS (G : List Pd) (C : Calls) : IS → Ev → Re Fl
  | .nil, ρ => .ok .nx ρ
  | .seq s t, ρ => match execS G C s ρ with
    | .ok .nx ρ => execS G C t ρ
    | r => r
  | .set i e, ρ => (evalE G C e ρ).bind fun v ρ => store i v ρ
  | .tgt t e, ρ => (evalE G C e ρ).bind fun v ρ => (take v ρ).bind fun x ρ => match assignT t x ρ with
    | some ρ => .ok .nx ρ
    | none => .no
  | .par i j a b, ρ => (evalV G C (.cons a (.cons b .nil)) ρ).bind fun vs ρ => storeV [i, j] vs ρ
  | .ptg is as, ρ => (evalV G C as ρ).bind fun vs ρ => storeV is vs ρ
  | .exp e, ρ => (evalE G C e ρ).bind fun _ ρ => .ok .nx ρ
  | .app i e, ρ => match ρ[i]? with
    | some (some (.ol _)) => (evalE G C e ρ).bind fun v ρ => (take v ρ).bind fun x ρ => match ρ[i]? with
      | some (some (.ol ds)) => if ds.length < szL then .ok .nx (ρ.set i (some (.ol (ds ++ [x])))) else .no
      | _ => .no
    | _ => .no
  | .sti i a e, ρ => (evalE G C e ρ).bind fun v ρ => (take v ρ).bind fun x ρ => match ρ[i]? with
    | some (some (.ol _)) => (evalE G C a ρ).bind fun w ρ => match w.view, ρ[i]? with
      | some (.int k), some (some (.ol ds)) => match ixD ds.length k with
        | some j => .ok .nx (ρ.set i (some (.ol (ds.set j x))))
        | none => .no
      | _, _ => .no
    | _ => .no
  | .aug i op e, ρ => match ρ[i]? with
    | some (some (.dat x)) => (evalE G C e ρ).bind fun w ρ => match w.view with
      | some y => match op, x, y with
        | .add, .int i', .int j => .ok .nx (ρ.set i (some (.dat (.int (i' + j)))))
        | .sub, .int i', .int j => .ok .nx (ρ.set i (some (.dat (.int (i' - j)))))
        | _, _, _ => .no
      | none => .no
    | _ => .no
  | .if_ c a b, ρ => (evalE G C c ρ).bind fun v ρ => (boolOf v ρ).bind fun k ρ => if k then execS G C a ρ else execS G C b ρ
  | .whl n c b, ρ => whlGo (fun ρ => (evalE G C c ρ).bind boolOf) (execS G C b) n ρ
  | .for_ t it b, ρ => (evalI G C it ρ).bind fun p ρ => if p.2.any fun q => (asT t ++ asS b).contains q.1 then .no else
    (forGo (fun x ρ => match assignT t x ρ with
      | some ρ => execS G C b ρ
      | none => .no) p.1 ρ).mapE (unhide p.2)
  | .ret e, ρ => (evalE G C e ρ).bind fun v ρ => match v with
    | .pk o i => .ok (.rt (.fr o)) (ρ.set i none)
    | v => .ok (.rt v) ρ
  | .retn, ρ => .ok (.rt (.d .none)) ρ
  | .brk, ρ => .ok .bk ρ
  | .cnt, ρ => .ok .ct ρ
  | .pass, ρ => .ok .nx ρ
  | .rse c as, ρ => (evalD G C as ρ).bind fun xs ρ => if flatPs xs then .ex ⟨c, xs⟩ ρ else .no
  | .never, _ => .no

structure Fn where
  np : Nat          -- parameters
  ns : Nat          -- slots
  body : IS

/-- what the parameters hold at the end, but those that were stored to -/
def outs (f : Fn) (ρ : Ev) : List (Option Ob) := (wipeE ρ (asS f.body)).take f.np
def runB (G : List Pd) (C : Calls) (f : Fn) (as : List Ob) : Cen :=
  match execS G C f.body (as.map some ++ List.replicate (f.ns - f.np) none) with
  | .ok .nx ρ => .ok (.d .none) (outs f ρ)
  | .ok (.rt v) ρ => .ok v (outs f ρ)
  | .ok _ _ => .no
  | .ex e ρ => .ex e (outs f ρ)
  | .no => .no
def run (G : List Pd) (T : List Fn) : Nat → Calls
  | 0, _, _ => .no
  | n + 1, j, as => match T[j]? with
    | some f => if as.length = f.np then runB G (run G T n) f as else .no
    | none => .no

end TL
set_option Elab.async false
set_option linter.all false
set_option maxRecDepth 100000
set_option maxHeartbeats 1000000
namespace TL
open PySem PySem.Spec L2

/-- a tuple of the written part -/
def KT (K : PySem.W.Frag) (a : Addr) (xs : List V) : Prop :=
  ∃ (o : Obj) (its : Array Value) (n : Nat), K.lookup a = some o ∧ o.cls = .type "tuple" ∧ o.data = .seq its n ∧ its.size ≤ sizeLine ∧ Vals xs its.toList

/-- a list of the written part -/
def KL (K : PySem.W.Frag) (a : Addr) (xs : List V) : Prop :=
  ∃ (its : List Value) (n : Nat), K.lookup a = some { cls := .type "list", data := .seq its.toArray n } ∧ its.length ≤ sizeLine ∧ Vals xs its
/-- a list, tracked or of the written part -/
def LL (K : PySem.W.Frag) (H : Hp) (a : Addr) (xs : List V) : Prop := Rd H a (.lst xs) ∨ KL K a xs
theorem LL.sq {K : PySem.W.Frag} {H : Hp} {a : Addr} {xs : List V} (h : LL K H a xs) : SqL K H a xs := by
  rcases h with h | ⟨its, n, h1, h2, h3⟩
  · exact .inl h
  · exact .inr ⟨_, its.toArray, n, h1, rfl, rfl, rfl, by simpa using h2, by simpa using h3⟩
theorem LL.ok {X : Cx} {pins : List (Addr × Obj)} {σ : St} {H : Hp} {s : Shared} {a : Addr} {xs : List V} (I : Inv X pins σ H s) (h : LL X.K H a xs) : ∃ (its : List Value) (n : Nat), Vals xs its ∧ s.heap.get? a = some { cls := .type "list", data := .seq its.toArray n } := by
  rcases h with h | ⟨its, n, h1, h2, h3⟩
  · obtain ⟨z, its, n, r, e⟩ := h.ok I.hok
    exact ⟨its, n, r, e⟩
  · exact ⟨its, n, h3, I.kIn a _ h1⟩

abbrev Zs := Addr → Prop

mutual
/-- data that stay: every object of them lies in Z, or in the written part -/
inductive RF (K : PySem.W.Frag) (Z : Zs) (H : Hp) : V → Pd → Prop
  | non : RF K Z H .non .none
  | bl (b : Bool) : RF K Z H (.bl b) (.bool b)
  | int (i : Int) : RF K Z H (.int i) (.int i)
  | str (x : Str) : RF K Z H (.str x) (.str x)
  | lst {a : Addr} {xs : List V} {ds : List Pd} (z : Z a) (h : Rd H a (.lst xs)) (r : RFs K Z H xs ds) : RF K Z H (.ref a) (.list ds)
  | lstK {a : Addr} {xs : List V} {ds : List Pd} (h : KL K a xs) (r : RFs K Z H xs ds) : RF K Z H (.ref a) (.list ds)
  | tup {a : Addr} {xs : List V} {ds : List Pd} (z : Z a) (h : Rd H a (.tup xs)) (r : RFs K Z H xs ds) : RF K Z H (.ref a) (.tuple ds)
  | tupK {a : Addr} {xs : List V} {ds : List Pd} (h : KT K a xs) (r : RFs K Z H xs ds) : RF K Z H (.ref a) (.tuple ds)
  | dct {a : Addr} {kvs : List (Key × V)} {ds : List (Pd × Pd)} (z : Z a) (h : Rd H a (.dK kvs)) (r : RFd K Z H kvs ds) : RF K Z H (.ref a) (.dict ds)
inductive RFs (K : PySem.W.Frag) (Z : Zs) (H : Hp) : List V → List Pd → Prop
  | nil : RFs K Z H [] []
  | cons {v : V} {vs : List V} {d : Pd} {ds : List Pd} (h : RF K Z H v d) (r : RFs K Z H vs ds) : RFs K Z H (v :: vs) (d :: ds)
inductive RFd (K : PySem.W.Frag) (Z : Zs) (H : Hp) : List (Key × V) → List (Pd × Pd) → Prop
  | nil : RFd K Z H [] []
  | cons {k : Key} {v : V} {vs : List (Key × V)} {p d : Pd} {ds : List (Pd × Pd)} (e : keyP p = some k) (h : RF K Z H v d) (r : RFd K Z H vs ds) : RFd K Z H ((k, v) :: vs) ((p, d) :: ds)
end

theorem rdKeep {H H' : Hp} {a : Addr} {u : HO} (h : Rd H a u) (k : ∀ o, H a = some o → H' a = some o) : Rd H' a u := by
  rcases h with h | ⟨o, h⟩
  · exact .inl (k _ h)
  · exact .inr ⟨o, k _ h⟩

section
variable {K : PySem.W.Frag} {Z Z' : Zs} {H H' : Hp}
mutual
theorem RF.mono (hz : ∀ a, Z a → Z' a) (hk : ∀ a o, Z a → H a = some o → H' a = some o) : ∀ {v : V} {d : Pd}, RF K Z H v d → RF K Z' H' v d
  | _, _, .non => .non
  | _, _, .bl b => .bl b
  | _, _, .int i => .int i
  | _, _, .str x => .str x
  | _, _, .lst z h r => .lst (hz _ z) (rdKeep h fun o => hk _ o z) (RFs.mono hz hk r)
  | _, _, .lstK h r => .lstK h (RFs.mono hz hk r)
  | _, _, .tup z h r => .tup (hz _ z) (rdKeep h fun o => hk _ o z) (RFs.mono hz hk r)
  | _, _, .tupK h r => .tupK h (RFs.mono hz hk r)
  | _, _, .dct z h r => .dct (hz _ z) (rdKeep h fun o => hk _ o z) (RFd.mono hz hk r)
theorem RFs.mono (hz : ∀ a, Z a → Z' a) (hk : ∀ a o, Z a → H a = some o → H' a = some o) : ∀ {v : List V} {d : List Pd}, RFs K Z H v d → RFs K Z' H' v d
  | _, _, .nil => .nil
  | _, _, .cons h r => .cons (RF.mono hz hk h) (RFs.mono hz hk r)
theorem RFd.mono (hz : ∀ a, Z a → Z' a) (hk : ∀ a o, Z a → H a = some o → H' a = some o) : ∀ {v : List (Key × V)} {d : List (Pd × Pd)}, RFd K Z H v d → RFd K Z' H' v d
  | _, _, .nil => .nil
  | _, _, .cons e h r => .cons e (RF.mono hz hk h) (RFd.mono hz hk r)
end

mutual
/-- data without lists and dicts stay whatever is done, as far as tuples stay -/
theorem RF.flat : ∀ {v : V} {d : Pd}, RF K Z H v d → flatP d = true → (∀ a xs, Z a → Rd H a (.tup xs) → Z' a) → RF K Z' H v d
  | _, _, .non, _, _ => .non
  | _, _, .bl b, _, _ => .bl b
  | _, _, .int i, _, _ => .int i
  | _, _, .str x, _, _ => .str x
  | _, _, .lst z h r, e, _ => nomatch e
  | _, _, .lstK h r, e, _ => nomatch e
  | _, _, .tup z h r, e, t => .tup (t _ _ z h) h (RFs.flat r e t)
  | _, _, .tupK h r, e, t => .tupK h (RFs.flat r e t)
  | _, _, .dct z h r, e, _ => nomatch e
theorem RFs.flat : ∀ {v : List V} {d : List Pd}, RFs K Z H v d → flatPs d = true → (∀ a xs, Z a → Rd H a (.tup xs) → Z' a) → RFs K Z' H v d
  | _, _, .nil, _, _ => .nil
  | _, _, .cons h r, e, t => by
    have e : (flatP _ && flatPs _) = true := e
    rw [Bool.and_eq_true] at e
    exact .cons (RF.flat h e.1 t) (RFs.flat r e.2 t)
end

theorem RFs.length : ∀ {vs : List V} {ds : List Pd}, RFs K Z H vs ds → vs.length = ds.length
  | _, _, .nil => rfl
  | _, _, .cons _ r => by rw [List.length_cons, List.length_cons, RFs.length r]
theorem RFs.get : ∀ {vs : List V} {ds : List Pd} {i : Nat} {d : Pd}, RFs K Z H vs ds → ds[i]? = some d → ∃ v, vs[i]? = some v ∧ RF K Z H v d
  | _, _, _, _, .nil, e => by simp at e
  | _, _, 0, _, .cons h r, e => by
    have e : some _ = some _ := e
    cases e
    exact ⟨_, rfl, h⟩
  | _, _, i + 1, _, .cons h r, e => by
    obtain ⟨v, h1, h2⟩ := RFs.get (i := i) r (by simpa using e)
    exact ⟨v, by simpa using h1, h2⟩
theorem RFs.get' : ∀ {vs : List V} {ds : List Pd} {i : Nat} {v : V}, RFs K Z H vs ds → vs[i]? = some v → ∃ d, ds[i]? = some d ∧ RF K Z H v d
  | _, _, _, _, .nil, e => by simp at e
  | _, _, 0, _, .cons h r, e => by
    have e : some _ = some _ := e
    cases e
    exact ⟨_, rfl, h⟩
  | _, _, i + 1, _, .cons h r, e => by
    obtain ⟨v, h1, h2⟩ := RFs.get' (i := i) r (by simpa using e)
    exact ⟨v, by simpa using h1, h2⟩
theorem RFs.append : ∀ {vs ws : List V} {ds es : List Pd}, RFs K Z H vs ds → RFs K Z H ws es → RFs K Z H (vs ++ ws) (ds ++ es)
  | _, _, _, _, .nil, s => s
  | _, _, _, _, .cons h r, s => .cons h (RFs.append r s)
theorem RFs.take : ∀ {vs : List V} {ds : List Pd} (n : Nat), RFs K Z H vs ds → RFs K Z H (vs.take n) (ds.take n)
  | _, _, 0, _ => .nil
  | _, _, _ + 1, .nil => .nil
  | _, _, n + 1, .cons h r => .cons h (RFs.take n r)
theorem RFs.drop : ∀ {vs : List V} {ds : List Pd} (n : Nat), RFs K Z H vs ds → RFs K Z H (vs.drop n) (ds.drop n)
  | _, _, 0, r => r
  | _, _, _ + 1, .nil => .nil
  | _, _, n + 1, .cons _ r => RFs.drop n r
theorem RFs.rev {vs : List V} {ds : List Pd} (r : RFs K Z H vs ds) : RFs K Z H vs.reverse ds.reverse := by
  induction vs generalizing ds with
  | nil => cases r; exact .nil
  | cons v vs ih =>
    cases r with
    | cons h r =>
      rw [List.reverse_cons, List.reverse_cons]
      exact (ih r).append (.cons h .nil)
theorem RFs.set : ∀ {vs : List V} {ds : List Pd} {v : V} {d : Pd} (n : Nat), RFs K Z H vs ds → RF K Z H v d → RFs K Z H (vs.set n v) (ds.set n d)
  | _, _, _, _, _, .nil, _ => .nil
  | _, _, _, _, 0, .cons _ r, q => .cons q r
  | _, _, _, _, n + 1, .cons h r, q => .cons h (RFs.set n r q)
theorem RFs.erase : ∀ {vs : List V} {ds : List Pd} (n : Nat), RFs K Z H vs ds → RFs K Z H (vs.eraseIdx n) (ds.eraseIdx n)
  | _, _, _, .nil => .nil
  | _, _, 0, .cons _ r => r
  | _, _, n + 1, .cons h r => .cons h (RFs.erase n r)
theorem RFs.rep {vs : List V} {ds : List Pd} (r : RFs K Z H vs ds) : ∀ n : Nat, RFs K Z H (List.replicate n vs).flatten (List.replicate n ds).flatten
  | 0 => .nil
  | n + 1 => by
    rw [List.replicate_succ, List.replicate_succ, List.flatten_cons, List.flatten_cons]
    exact r.append (RFs.rep r n)
theorem RFs.ints {vs : List V} : ∀ {is : List Int}, RFs K Z H vs (is.map .int) → vs = is.map V.int := fun {is} h => by
  induction is generalizing vs with
  | nil => cases h; rfl
  | cons i is ih =>
    cases h with
    | cons h r =>
      cases h
      rw [ih r]
      rfl
theorem RFs.of_ints : ∀ (is : List Int), RFs K Z H (is.map V.int) (is.map .int)
  | [] => .nil
  | i :: is => .cons (.int i) (RFs.of_ints is)
theorem RFs.bools {vs : List V} : ∀ {is : List Bool}, RFs K Z H vs (is.map .bool) → vs = is.map V.bl := fun {is} h => by
  induction is generalizing vs with
  | nil => cases h; rfl
  | cons i is ih =>
    cases h with
    | cons h r =>
      cases h
      rw [ih r]
      rfl

/-- to the hand layer's data -/
theorem KT.sq {a : Addr} {xs : List V} (h : KT K a xs) : SqT K H a xs := .inr h
mutual
theorem RF.dp : ∀ {v : V} {d : Pd}, RF K Z H v d → ∀ n, flatE n d = true → Dp K H v d
  | _, _, .non, _, _ => .non
  | _, _, .bl b, _, _ => .bl b
  | _, _, .int i, _, _ => .int i
  | _, _, .str x, _, _ => .str x
  | _, _, .lst z h r, n + 1, e => .lst (.inl h) (RFs.dp r n e)
  | _, _, .lstK h r, n + 1, e => .lst (LL.sq (.inr h)) (RFs.dp r n e)
  | _, _, .tup z h r, n + 1, e => .tup (.inl h) (RFs.dp r n e)
  | _, _, .tupK h r, n + 1, e => .tup (.inr h) (RFs.dp r n e)
  | _, _, .lst z h r, 0, e => nomatch e
  | _, _, .lstK h r, 0, e => nomatch e
  | _, _, .tup z h r, 0, e => nomatch e
  | _, _, .tupK h r, 0, e => nomatch e
  | _, _, .dct z h r, 0, e => nomatch e
  | _, _, .dct z h r, _ + 1, e => nomatch e
theorem RFs.dp : ∀ {v : List V} {d : List Pd}, RFs K Z H v d → ∀ n, flatEs n d = true → DpAll K H v d
  | _, _, .nil, _, _ => .nil
  | _, _, .cons h r, n, e => by
    have e : (flatE n _ && flatEs n _) = true := e
    rw [Bool.and_eq_true] at e
    exact .cons (RF.dp h n e.1) (RFs.dp r n e.2)
end
end

inductive RO (K : PySem.W.Frag) (Z : Zs) (H : Hp) : V → Ob → List Addr → Prop
  | dat {v : V} {d : Pd} (h : RF K Z H v d) : RO K Z H v (.dat d) []
  | ol {a : Addr} {xs : List V} {ds : List Pd} (h : H a = some (.lst xs)) (r : RFs K Z H xs ds) : RO K Z H (.ref a) (.ol ds) [a]
  | od {a : Addr} {kvs : List (Key × V)} {ds : List (Pd × Pd)} (h : H a = some (.dK kvs)) (r : RFd K Z H kvs ds) : RO K Z H (.ref a) (.od ds) [a]

/-- a thing as it stands now, its items for good -/
inductive RI (K : PySem.W.Frag) (Z : Zs) (H : Hp) : V → Pd → Prop
  | rf {v : V} {d : Pd} (h : RF K Z H v d) : RI K Z H v d
  | ol {a : Addr} {xs : List V} {ds : List Pd} (h : H a = some (.lst xs)) (r : RFs K Z H xs ds) : RI K Z H (.ref a) (.list ds)
  | od {a : Addr} {kvs : List (Key × V)} {ds : List (Pd × Pd)} (h : H a = some (.dK kvs)) (r : RFd K Z H kvs ds) : RI K Z H (.ref a) (.dict ds)

section
variable {K : PySem.W.Frag} {Z Z' : Zs} {H H' : Hp}
theorem RO.mono {v : V} {o : Ob} {L : List Addr} (h : RO K Z H v o L) (hz : ∀ a, Z a → Z' a) (hk : ∀ a u, Z a → H a = some u → H' a = some u) (hl : ∀ a u, a ∈ L → H a = some u → H' a = some u) : RO K Z' H' v o L := by
  cases h with
  | dat h => exact .dat (h.mono hz hk)
  | ol h r => exact .ol (hl _ _ (List.mem_singleton.mpr rfl) h) (r.mono hz hk)
  | od h r => exact .od (hl _ _ (List.mem_singleton.mpr rfl) h) (r.mono hz hk)
theorem RO.ri {v : V} {o : Ob} {L : List Addr} {p : Pd} (h : RO K Z H v o L) (e : o.view = some p) : RI K Z H v p := by
  cases h with
  | dat h => cases e; exact .rf h
  | ol h r => cases e; exact .ol h r
  | od h r => cases e; exact .od h r
/-- frozen -/
theorem RO.frz {v : V} {o : Ob} {L : List Addr} {p : Pd} (h : RO K Z H v o L) (e : o.view = some p) : RF K (fun a => Z a ∨ a ∈ L) H v p := by
  cases h with
  | dat h => cases e; exact h.mono (fun _ z => .inl z) fun _ _ _ q => q
  | ol h r => cases e; exact .lst (.inr (List.mem_singleton.mpr rfl)) (.inl h) (r.mono (fun _ z => .inl z) fun _ _ _ q => q)
  | od h r => cases e; exact .dct (.inr (List.mem_singleton.mpr rfl)) (.inl h) (r.mono (fun _ z => .inl z) fun _ _ _ q => q)
theorem RO.al {v : V} {o : Ob} {L : List Addr} (h : RO K Z H v o L) : ∀ a ∈ L, ∃ u, H a = some u := fun a ha => by
  cases h with
  | dat h => cases ha
  | ol h r => rw [List.mem_singleton.mp ha]; exact ⟨_, h⟩
  | od h r => rw [List.mem_singleton.mp ha]; exact ⟨_, h⟩
theorem RI.list {v : V} {ds : List Pd} (h : RI K Z H v (.list ds)) : ∃ a xs, v = .ref a ∧ LL K H a xs ∧ RFs K Z H xs ds := by
  cases h with
  | rf h => cases h with
    | lst z h r => exact ⟨_, _, rfl, .inl h, r⟩
    | lstK h r => exact ⟨_, _, rfl, .inr h, r⟩
  | ol h r => exact ⟨_, _, rfl, .inl (.inl h), r⟩
theorem RI.tuple {v : V} {ds : List Pd} (h : RI K Z H v (.tuple ds)) : RF K Z H v (.tuple ds) ∧ ∃ a xs, v = .ref a ∧ SqT K H a xs ∧ RFs K Z H xs ds := by
  cases h with
  | rf h => exact ⟨h, match h with
    | .tup z h r => ⟨_, _, rfl, .inl h, r⟩
    | .tupK h r => ⟨_, _, rfl, .inr h, r⟩⟩
theorem RI.dict {v : V} {ds : List (Pd × Pd)} (h : RI K Z H v (.dict ds)) : ∃ a kvs, v = .ref a ∧ Rd H a (.dK kvs) ∧ RFd K Z H kvs ds := by
  cases h with
  | rf h => cases h with
    | dct z h r => exact ⟨_, _, rfl, h, r⟩
  | od h r => exact ⟨_, _, rfl, .inl h, r⟩
theorem RI.int {v : V} {i : Int} (h : RI K Z H v (.int i)) : v = .int i := by
  cases h with
  | rf h => cases h; rfl
theorem RI.bool {v : V} {i : Bool} (h : RI K Z H v (.bool i)) : v = .bl i := by
  cases h with
  | rf h => cases h; rfl
theorem RI.str {v : V} {i : Str} (h : RI K Z H v (.str i)) : v = .str i := by
  cases h with
  | rf h => cases h; rfl
theorem RI.none {v : V} (h : RI K Z H v .none) : v = .non := by
  cases h with
  | rf h => cases h; rfl
theorem RI.dp {v : V} {d : Pd} (h : RI K Z H v d) {n : Nat} (e : flatE n d = true) : Dp K H v d := by
  cases h with
  | rf h => exact h.dp n e
  | ol h r =>
    cases n with
    | zero => exact nomatch e
    | succ n => exact .lst (.inl (.inl h)) (r.dp n e)
  | od h r => cases n <;> exact nomatch e
end
end TL
set_option Elab.async false
set_option linter.all false
set_option maxRecDepth 100000
set_option maxHeartbeats 1000000
namespace TL
open PySem PySem.Spec L2

abbrev Fp := Nat → List Addr

structure Rel (K : PySem.W.Frag) (ρ : Ev) (σ : St) (H : Hp) (Z : Zs) (F : Fp) : Prop where
  len : ρ.length = σ.length
  rep : ∀ i o, ρ[i]? = some (some o) → ∃ v, σ[i]? = some (some v) ∧ RO K Z H v o (F i)
  dj : ∀ i j a, a ∈ F i → a ∈ F j → i = j
  nz : ∀ i a, a ∈ F i → ¬ Z a
  al : ∀ i a, a ∈ F i → ∃ o, H a = some o
  za : ∀ a, Z a → ∃ o, H a = some o

/-- behind an expression that may change the slots io alone -/
structure Gr (io : List Nat) (H : Hp) (Z : Zs) (F : Fp) (H' : Hp) (Z' : Zs) (F' : Fp) : Prop where
  keep : ∀ a o, H a = some o → (∀ i ∈ io, a ∉ F i) → H' a = some o
  am : ∀ a, H' a = none → H a = none
  zm : ∀ a, Z a → Z' a
  zn : ∀ a, Z' a → Z a ∨ H a = none ∨ ∃ i, a ∈ F i
  fn : ∀ i a, a ∈ F' i → a ∈ F i ∨ H a = none ∨ ∃ j ∈ io, a ∈ F j
/-- behind a statement -/
structure GS (H : Hp) (Z : Zs) (F : Fp) (H' : Hp) (Z' : Zs) (F' : Fp) : Prop where
  keep : ∀ a o, H a = some o → (∀ i, a ∉ F i) → H' a = some o
  am : ∀ a, H' a = none → H a = none
  zm : ∀ a, Z a → Z' a
  zn : ∀ a, Z' a → Z a ∨ H a = none ∨ ∃ i, a ∈ F i
  fn : ∀ i a, a ∈ F' i → H a = none ∨ ∃ j, a ∈ F j

section
variable {K : PySem.W.Frag} {ρ : Ev} {σ : St} {H H' H1 H2 H3 : Hp} {Z Z' Z1 Z2 Z3 : Zs} {F F' F1 F2 F3 : Fp} {io io' : List Nat}
theorem Gr.refl : Gr io H Z F H Z F := ⟨fun _ _ h _ => h, fun _ h => h, fun _ z => z, fun _ z => .inl z, fun _ _ h => .inl h⟩
theorem Gr.weak (g : Gr io H Z F H1 Z1 F1) (h : ∀ i ∈ io, i ∈ io') : Gr io' H Z F H1 Z1 F1 := ⟨fun a o e n => g.keep a o e fun i hi => n i (h i hi), g.am, g.zm, g.zn, fun i a m => (g.fn i a m).imp id (Or.imp id fun ⟨j, hj, z⟩ => ⟨j, h j hj, z⟩)⟩
theorem Gr.fn' (g : Gr io H Z F H1 Z1 F1) {i : Nat} {a : Addr} (h : a ∈ F1 i) : H a = none ∨ ∃ j, a ∈ F j :=
  match g.fn i a h with
  | .inl h => .inr ⟨i, h⟩
  | .inr (.inl h) => .inl h
  | .inr (.inr ⟨j, _, h⟩) => .inr ⟨j, h⟩
theorem Gr.trans (g : Gr io H Z F H1 Z1 F1) (k : Gr io' H1 Z1 F1 H2 Z2 F2) : Gr (io ++ io') H Z F H2 Z2 F2 where
  keep := fun a o e n => by
    refine k.keep a o (g.keep a o e fun i hi => n i (List.mem_append_left _ hi)) fun i hi ha => ?_
    rcases g.fn i a ha with h | h | ⟨j, hj, h⟩
    · exact n i (List.mem_append_right _ hi) h
    · rw [h] at e; cases e
    · exact n j (List.mem_append_left _ hj) h
  am := fun a h => g.am a (k.am a h)
  zm := fun a z => k.zm a (g.zm a z)
  zn := fun a z => by
    rcases k.zn a z with h | h | ⟨i, h⟩
    · exact g.zn a h
    · exact .inr (.inl (g.am a h))
    · exact (g.fn' h).elim (fun h => .inr (.inl h)) fun h => .inr (.inr h)
  fn := fun i a h => by
    have one : ∀ j, j ∈ io' ∨ j = i → a ∈ F1 j → a ∈ F i ∨ H a = none ∨ ∃ j ∈ io ++ io', a ∈ F j := fun j hj h => by
      rcases g.fn j a h with h | h | ⟨j', hj', h⟩
      · rcases hj with hj | hj
        · exact .inr (.inr ⟨j, List.mem_append_right _ hj, h⟩)
        · exact .inl (hj ▸ h)
      · exact .inr (.inl h)
      · exact .inr (.inr ⟨j', List.mem_append_left _ hj', h⟩)
    rcases k.fn i a h with h | h | ⟨j, hj, h⟩
    · exact one i (.inr rfl) h
    · exact .inr (.inl (g.am a h))
    · exact one j (.inl hj) h
theorem GS.refl : GS H Z F H Z F := ⟨fun _ _ h _ => h, fun _ h => h, fun _ z => z, fun _ z => .inl z, fun i _ h => .inr ⟨i, h⟩⟩
theorem Gr.gs (g : Gr io H Z F H1 Z1 F1) : GS H Z F H1 Z1 F1 := ⟨fun a o e n => g.keep a o e fun i _ => n i, g.am, g.zm, g.zn, fun i a h => g.fn' h⟩
theorem GS.trans (g : GS H Z F H1 Z1 F1) (k : GS H1 Z1 F1 H2 Z2 F2) : GS H Z F H2 Z2 F2 where
  keep := fun a o e n => by
    refine k.keep a o (g.keep a o e n) fun i ha => ?_
    rcases g.fn i a ha with h | ⟨j, h⟩
    · rw [h] at e; cases e
    · exact n j h
  am := fun a h => g.am a (k.am a h)
  zm := fun a z => k.zm a (g.zm a z)
  zn := fun a z => by
    rcases k.zn a z with h | h | ⟨i, h⟩
    · exact g.zn a h
    · exact .inr (.inl (g.am a h))
    · rcases g.fn i a h with h | h
      · exact .inr (.inl h)
      · exact .inr (.inr h)
  fn := fun i a h => by
    rcases k.fn i a h with h | ⟨j, h⟩
    · exact .inl (g.am a h)
    · exact g.fn j a h

/-- data for good stay -/
theorem Rel.rf (R : Rel K ρ σ H Z F) (g : Gr io H Z F H1 Z1 F1) {v : V} {d : Pd} (h : RF K Z H v d) : RF K Z1 H1 v d :=
  h.mono g.zm fun a o z e => g.keep a o e fun i _ ha => R.nz i a ha z
theorem Rel.rfs (R : Rel K ρ σ H Z F) (g : Gr io H Z F H1 Z1 F1) {v : List V} {d : List Pd} (h : RFs K Z H v d) : RFs K Z1 H1 v d :=
  h.mono g.zm fun a o z e => g.keep a o e fun i _ ha => R.nz i a ha z
theorem Rel.rfS (R : Rel K ρ σ H Z F) (g : GS H Z F H1 Z1 F1) {v : V} {d : Pd} (h : RF K Z H v d) : RF K Z1 H1 v d :=
  h.mono g.zm fun a o z e => g.keep a o e fun i ha => R.nz i a ha z
theorem Rel.rfsS (R : Rel K ρ σ H Z F) (g : GS H Z F H1 Z1 F1) {v : List V} {d : List Pd} (h : RFs K Z H v d) : RFs K Z1 H1 v d :=
  h.mono g.zm fun a o z e => g.keep a o e fun i ha => R.nz i a ha z

/-- a value on its way; H0, F0: as things stood at the start -/
def RV (K : PySem.W.Frag) (H0 : Hp) (F0 : Fp) (Z : Zs) (H : Hp) (F : Fp) (x : V) : Vl → Prop
  | .d p => RF K Z H x p
  | .pk o i => ∃ L, RO K Z H x o L ∧ ∀ a ∈ L, a ∈ F i
  | .fr o => ∃ L, RO K Z H x o L ∧ ∀ a ∈ L, ¬ Z a ∧ (∀ i, a ∉ F i) ∧ (H0 a = none ∨ ∃ j, a ∈ F0 j)
/-- a value handed back -/
def RR (K : PySem.W.Frag) (H0 : Hp) (F0 : Fp) (Z : Zs) (H : Hp) (F : Fp) (x : V) : Vl → Prop
  | .d p => RF K Z H x p
  | .pk _ _ => False
  | .fr o => ∃ L, RO K Z H x o L ∧ ∀ a ∈ L, ¬ Z a ∧ (∀ i, a ∉ F i) ∧ (H0 a = none ∨ ∃ j, a ∈ F0 j)

theorem RV.now {H0 : Hp} {F0 : Fp} {x : V} {v : Vl} {p : Pd} (h : RV K H0 F0 Z H F x v) (e : v.view = some p) : RI K Z H x p := by
  cases v with
  | d q => cases e; exact .rf h
  | pk o i => obtain ⟨L, h, _⟩ := h; exact h.ri e
  | fr o => obtain ⟨L, h, _⟩ := h; exact h.ri e
/-- behind a further expression -/
theorem RV.later {H0 : Hp} {F0 : Fp} {x : V} {v : Vl} {p : Pd} (R : Rel K ρ σ H Z F) (h : RV K H0 F0 Z H F x v) (g : Gr io H Z F H1 Z1 F1) (e : seen v io = some p) : RI K Z1 H1 x p := by
  unfold seen at e
  split at e
  · rename_i hf
    cases v with
    | d q => cases e; exact .rf (R.rf g h)
    | pk o i =>
      obtain ⟨L, h, hl⟩ := h
      have hf : (!io.contains i) = true := hf
      have ni : i ∉ io := by simpa using hf
      refine (h.mono g.zm (fun a o z e => g.keep a o e fun i _ ha => R.nz i a ha z) fun a u ha e => g.keep a u e fun j hj haj => ?_).ri e
      exact ni (R.dj i j a (hl a ha) haj ▸ hj)
    | fr o =>
      obtain ⟨L, h, hl⟩ := h
      exact (h.mono g.zm (fun a o z e => g.keep a o e fun i _ ha => R.nz i a ha z) fun a u ha e => g.keep a u e fun j hj haj => (hl a ha).2.1 j haj).ri e
  · cases e
theorem seen_view {v : Vl} {p : Pd} (e : seen v io = some p) : v.view = some p := by
  unfold seen at e
  split at e
  · exact e
  · cases e

/-- a heap that keeps all and has more -/
theorem Rel.more (R : Rel K ρ σ H Z F) (h : ∀ a o, H a = some o → H' a = some o) : Rel K ρ σ H' Z F :=
  ⟨R.len, fun i o e => let ⟨v, h1, h2⟩ := R.rep i o e; ⟨v, h1, h2.mono (fun _ z => z) (fun a u _ q => h a u q) fun a u _ q => h a u q⟩, R.dj, R.nz, fun i a ha => let ⟨o, e⟩ := R.al i a ha; ⟨o, h a o e⟩, fun a z => let ⟨o, e⟩ := R.za a z; ⟨o, h a o e⟩⟩
theorem upd_more {a : Addr} {o : HO} (h : H a = none) : ∀ b u, H b = some u → upd H a o b = some u := fun b u e => by
  rw [upd_ne (ne_of_none e h)]; exact e
theorem Gr.more (h : ∀ a o, H a = some o → H' a = some o) : Gr io H Z F H' Z F :=
  ⟨fun a o e _ => h a o e, fun a e => (by
    cases q : H a with
    | none => rfl
    | some o =>
      rw [h a o q] at e
      cases e), fun _ z => z, fun _ z => .inl z, fun _ _ h => .inl h⟩
/-- a new thing for good -/
theorem Rel.addZ {a : Addr} {o : HO} (R : Rel K ρ σ H Z F) (h : H a = none) : Rel K ρ σ (upd H a o) (fun b => Z b ∨ b = a) F := by
  have m := upd_more (o := o) h
  refine ⟨R.len, fun i u e => ?_, R.dj, fun i b hb z => ?_, fun i b hb => let ⟨o, e⟩ := R.al i b hb; ⟨o, m b o e⟩, fun b z => ?_⟩
  · obtain ⟨v, h1, h2⟩ := R.rep i u e
    exact ⟨v, h1, h2.mono (fun _ z => .inl z) (fun b u _ q => m b u q) fun b u _ q => m b u q⟩
  · rcases z with z | z
    · exact R.nz i b hb z
    · obtain ⟨o, e⟩ := R.al i b hb
      rw [z, h] at e; cases e
  · rcases z with z | z
    · obtain ⟨o, e⟩ := R.za b z
      exact ⟨o, m b o e⟩
    · exact ⟨o, by rw [z]; exact upd_same⟩
theorem Gr.addZ {a : Addr} {o : HO} (h : H a = none) : Gr io H Z F (upd H a o) (fun b => Z b ∨ b = a) F where
  keep := fun b u e _ => upd_more h b u e
  am := (Gr.more (io := io) (Z := Z) (F := F) (upd_more (o := o) h)).am
  zm := fun _ z => .inl z
  zn := fun b z => z.elim .inl fun z => .inr (.inl (by rw [z]; exact h))
  fn := fun _ _ h => .inl h

/-- a new list as a value -/
theorem RV.newL {H0 : Hp} {F0 : Fp} {a : Addr} {xs : List V} {ds : List Pd} (R : Rel K ρ σ H Z F) (h : H a = none) (h0 : H0 a = none) (r : RFs K Z H xs ds) : RV K H0 F0 Z (upd H a (.lst xs)) F (.ref a) (.fr (.ol ds)) := by
  refine ⟨[a], .ol upd_same (r.mono (fun _ z => z) fun b u _ q => upd_more h b u q), fun b hb => ?_⟩
  rw [List.mem_singleton.mp hb]
  refine ⟨fun z => ?_, fun i hi => ?_, .inl h0⟩
  · obtain ⟨o, e⟩ := R.za a z
    rw [h] at e; cases e
  · obtain ⟨o, e⟩ := R.al i a hi
    rw [h] at e; cases e
theorem RV.newD {H0 : Hp} {F0 : Fp} {a : Addr} {xs : List (Key × V)} {ds : List (Pd × Pd)} (R : Rel K ρ σ H Z F) (h : H a = none) (h0 : H0 a = none) (r : RFd K Z H xs ds) : RV K H0 F0 Z (upd H a (.dK xs)) F (.ref a) (.fr (.od ds)) := by
  refine ⟨[a], .od upd_same (r.mono (fun _ z => z) fun b u _ q => upd_more h b u q), fun b hb => ?_⟩
  rw [List.mem_singleton.mp hb]
  refine ⟨fun z => ?_, fun i hi => ?_, .inl h0⟩
  · obtain ⟨o, e⟩ := R.za a z
    rw [h] at e; cases e
  · obtain ⟨o, e⟩ := R.al i a hi
    rw [h] at e; cases e
theorem RF.newT {a : Addr} {xs : List V} {ds : List Pd} (h : H a = none) (r : RFs K Z H xs ds) : RF K (fun b => Z b ∨ b = a) (upd H a (.tup xs)) (.ref a) (.tuple ds) :=
  .tup (.inr rfl) (.inl upd_same) (r.mono (fun _ z => .inl z) fun b u _ q => upd_more h b u q)

/-- a slot's things given up for good -/
theorem Rel.freeze {L : List Addr} (R : Rel K ρ σ H Z F) (al : ∀ a ∈ L, ∃ o, H a = some o) (hl : ∀ i a, a ∈ F i → a ∉ L) : Rel K ρ σ H (fun b => Z b ∨ b ∈ L) F :=
  ⟨R.len, fun i o e => let ⟨v, h1, h2⟩ := R.rep i o e; ⟨v, h1, h2.mono (fun _ z => .inl z) (fun _ _ _ q => q) fun _ _ _ q => q⟩, R.dj, fun i a ha z => z.elim (R.nz i a ha) (hl i a ha), R.al, fun a z => z.elim (R.za a) (al a)⟩

/-- F with slot i's things told anew -/
def fset (F : Fp) (i : Nat) (L : List Addr) : Fp := fun j => if j = i then L else F j
theorem fset_same {i : Nat} {L : List Addr} : fset F i L i = L := if_pos rfl
theorem fset_ne {i j : Nat} {L : List Addr} (h : j ≠ i) : fset F i L j = F j := if_neg h
theorem mem_fset {i j : Nat} {L : List Addr} {a : Addr} (h : a ∈ fset F i L j) : (j = i ∧ a ∈ L) ∨ (j ≠ i ∧ a ∈ F j) := by
  by_cases e : j = i
  · subst e; rw [fset_same] at h; exact .inl ⟨rfl, h⟩
  · rw [fset_ne e] at h; exact .inr ⟨e, h⟩

/-- slot i changed in ρ alone: it holds o now, as it stands -/
theorem Rel.put {i : Nat} {o : Option Ob} {L : List Addr} (R : Rel K ρ σ H Z F) (hv : ∀ u, o = some u → i < ρ.length → ∃ v, σ[i]? = some (some v) ∧ RO K Z H v u L)
    (hd : ∀ a ∈ L, ∀ j, j ≠ i → a ∉ F j) (hz : ∀ a ∈ L, ¬ Z a) (ha : ∀ a ∈ L, ∃ u, H a = some u) : Rel K (ρ.set i o) σ H Z (fset F i L) := by
  refine ⟨by rw [List.length_set]; exact R.len, fun j u e => ?_, fun j k a h1 h2 => ?_, fun j a h => ?_, fun j a h => ?_, R.za⟩
  · by_cases hj : j = i
    · subst hj
      rw [List.getElem?_set] at e
      simp only [↓reduceIte] at e
      split at e
      · rename_i hlt
        have e' : o = some u := Option.some.inj e
        rw [fset_same]
        exact hv u e' hlt
      · cases e
    · rw [List.getElem?_set_ne (Ne.symm hj)] at e
      rw [fset_ne hj]
      exact R.rep j u e
  · rcases mem_fset h1 with ⟨e1, m1⟩ | ⟨e1, m1⟩
    · rcases mem_fset h2 with ⟨e2, m2⟩ | ⟨e2, m2⟩
      · rw [e1, e2]
      · exact absurd m2 (hd a m1 k e2)
    · rcases mem_fset h2 with ⟨e2, m2⟩ | ⟨e2, m2⟩
      · exact absurd m1 (hd a m2 j e1)
      · exact R.dj j k a m1 m2
  · rcases mem_fset h with ⟨_, m⟩ | ⟨_, m⟩
    · exact hz a m
    · exact R.nz j a m
  · rcases mem_fset h with ⟨_, m⟩ | ⟨_, m⟩
    · exact ha a m
    · exact R.al j a m
/-- slot i is forgotten -/
theorem Rel.drop {i : Nat} (R : Rel K ρ σ H Z F) : Rel K (ρ.set i none) σ H Z (fset F i []) :=
  R.put (fun _ e => nomatch e) (fun _ h => nomatch h) (fun _ h => nomatch h) fun _ h => nomatch h
/-- slot i is stored to, in both -/
theorem Rel.store {i : Nat} {o : Ob} {v : V} {L : List Addr} (R : Rel K ρ σ H Z F) (hv : RO K Z H v o L)
    (hd : ∀ a ∈ L, ∀ j, j ≠ i → a ∉ F j) (hz : ∀ a ∈ L, ¬ Z a) : Rel K (ρ.set i (some o)) (σ.set i (some v)) H Z (fset F i L) := by
  have R' : Rel K (ρ.set i none) (σ.set i (some v)) H Z (fset F i []) := by
    have D := R.drop (i := i)
    refine ⟨by rw [List.length_set, List.length_set]; exact R.len, fun j u e => ?_, D.dj, D.nz, D.al, D.za⟩
    by_cases hj : j = i
    · subst hj
      rw [List.getElem?_set] at e
      simp only [↓reduceIte] at e
      split at e <;> cases e
    · obtain ⟨w, h1, h2⟩ := D.rep j u e
      exact ⟨w, by rw [List.getElem?_set_ne (Ne.symm hj)]; exact h1, h2⟩
  have e : ρ.set i (some o) = (ρ.set i none).set i (some o) := by rw [List.set_set]
  have e2 : fset F i L = fset (fset F i []) i L := by
    funext j
    by_cases hj : j = i
    · rw [hj, fset_same, fset_same]
    · rw [fset_ne hj, fset_ne hj, fset_ne hj]
  rw [e, e2]
  refine R'.put (fun u eu hlt => ?_) (fun a ha j hj => ?_) hz (hv.al)
  · cases eu
    refine ⟨v, ?_, hv⟩
    rw [List.length_set] at hlt
    rw [List.getElem?_set_self (by rw [← R.len]; exact hlt)]
  · rw [fset_ne hj]; exact hd a ha j hj
end

/-- what is known of an exception -/
def RX (cl : Nat → Option Addr) (fl : Nat → List Str) (e : Ex) (c : Value) (d : Option Addr) (H : Hp) : Prop :=
  ∃ C, cl e.c = some C ∧ c = .ref C ∧ ((fl e.c = [] ∧ e.fs.length ≤ 1) ∨ ∃ dx vs, d = some dx ∧ H dx = some (.xd ((fl e.c).zip vs)) ∧ vs.length = (fl e.c).length ∧ vs.length = e.fs.length ∧
    ∀ (i : Nat) (v : V) (p : Pd), vs[i]? = some v → e.fs[i]? = some p → (p = .none ∧ v = .non) ∨ (∃ k, p = .int k ∧ v = .int k) ∨ (∃ k, p = .str k ∧ v = .str k) ∨ ∃ k, p = .bool k ∧ v = .bl k)
end TL
set_option Elab.async false
set_option linter.all false
set_option maxRecDepth 100000
set_option maxHeartbeats 2000000
namespace TL
open PySem PySem.Spec L2

/-- how a result comes: as it is, or as a new thing -/
def Gv (K : PySem.W.Frag) (Z : Zs) (H : Hp) : Vl → VK → Prop
  | .d d, Q => (∀ z, RF K Z H z d → Q z H) ∧ ∀ a xs ds, d = .tuple ds → H a = none → RFs K Z H xs ds → Q (.ref a) (upd H a (.tup xs))
  | .fr (.ol ds), Q => ∀ a xs, H a = none → RFs K Z H xs ds → Q (.ref a) (upd H a (.lst xs))
  | .fr (.od ds), Q => ∀ a xs, H a = none → RFd K Z H xs ds → Q (.ref a) (upd H a (.dK xs))
  | _, _ => False

def Vl.plain : Vl → Bool
  | .d _ | .fr (.ol _) | .fr (.od _) => true
  | _ => false
section
variable {K : PySem.W.Frag} {ρ : Ev} {σ : L2.St} {H H0 : Hp} {Z Z0 : Zs} {F F0 : Fp} {io : List Nat}
theorem Gv.of {u : Vl} {Q : VK} (hp : u.plain = true) (R : Rel K ρ σ H Z F) (g : Gr io H0 Z0 F0 H Z F)
    (hQ : ∀ x H' Z' F', Rel K ρ σ H' Z' F' → Gr io H0 Z0 F0 H' Z' F' → RV K H0 F0 Z' H' F' x u → Q x H') : Gv K Z H u Q := by
  cases u with
  | d d =>
    refine ⟨fun z h => hQ z H Z F R g h, fun a xs ds e h r => ?_⟩
    subst e
    have g2 : Gr [] H Z F (upd H a (.tup xs)) (fun b => Z b ∨ b = a) F := Gr.addZ h
    exact hQ _ _ _ F (R.addZ h) ((g.trans g2).weak fun i hi => by simpa using hi) (RF.newT h r)
  | pk o i => cases hp
  | fr o => cases o with
    | ol ds =>
      intro a xs h r
      have m := upd_more (o := .lst xs) h
      have g2 : Gr [] H Z F (upd H a (.lst xs)) Z F := Gr.more m
      exact hQ _ _ Z F (R.more m) ((g.trans g2).weak fun i hi => by simpa using hi) (RV.newL R h (g.am a h) r)
    | od ds =>
      intro a xs h r
      have m := upd_more (o := .dK xs) h
      have g2 : Gr [] H Z F (upd H a (.dK xs)) Z F := Gr.more m
      exact hQ _ _ Z F (R.more m) ((g.trans g2).weak fun i hi => by simpa using hi) (RV.newD R h (g.am a h) r)
    | dat d => cases hp
    | lo d => cases hp
    | to d => cases hp
    | ins c n d => cases hp
end

/-- a two-place operation by its data -/
def rD2 (K : PySem.W.Frag) (f : Pd → Pd → Option Vl) : R2 := fun x y H Q => ∃ Z p q u, RI K Z H x p ∧ RI K Z H y q ∧ f p q = some u ∧ Gv K Z H u Q

section
variable {X : Cx}
theorem op_catR : OpR X (binaryOp .Add) (fun x y H Q => ∃ l b xs zs, x = .ref l ∧ y = .ref b ∧ LL X.K H l xs ∧ LL X.K H b zs ∧ xs.length + zs.length ≤ sizeLine ∧ ∀ p, H p = none → Q (.ref p) (upd H p (.lst (xs ++ zs)))) := by
  intro pins s σ H x y v u Q I rx ry h
  obtain ⟨l, b, xs, zs, rfl, rfl, hH, hB, hz, q⟩ := h
  cases rx
  cases ry
  obtain ⟨its, n, r, e⟩ := hH.ok I
  obtain ⟨its2, n2, r2, e2⟩ := hB.ok I
  have h1 := r.length
  have h2 := r2.length
  refine PySem.P.add_list e e2 ?_ (by rw [List.size_toArray, List.size_toArray]; omega)
  have ea : its.toArray ++ its2.toArray = (its ++ its2).toArray := by simp
  rw [ea]
  exact ⟨.ref _, _, I.lnew (t' := s.toks) (r.append r2) (by rw [List.length_append]; omega), rfl, q _ I.fresh⟩

theorem foldl_repT {α : Type} (xs : List α) : ∀ (m : Nat) (acc : List α), List.foldl (fun (x1 x2 : Array α) => x1 ++ x2) acc.toArray (List.replicate m xs.toArray) = (acc ++ (List.replicate m xs).flatten).toArray
  | 0, acc => by simp
  | m + 1, acc => by
    rw [List.replicate_succ, List.foldl_cons, List.replicate_succ, List.flatten_cons]
    have e : acc.toArray ++ xs.toArray = (acc ++ xs).toArray := by simp
    rw [e, foldl_repT xs m (acc ++ xs), List.append_assoc]
open PyProof.Rows in
theorem op_repR : OpR X (binaryOp .Mult) (fun x y H Q => ∃ l k xs, x = .ref l ∧ y = .int k ∧ LL X.K H l xs ∧ -(2 ^ 63) ≤ k ∧ k < 2 ^ 63 ∧ xs.length * k.toNat ≤ sizeLine ∧
    ∀ p, H p = none → Q (.ref p) (upd H p (.lst (List.replicate k.toNat xs).flatten))) := by
  intro pins s σ H x y v u Q I rx ry h
  obtain ⟨l, k, xs, rfl, rfl, hH, h1, h2, hz, q⟩ := h
  cases rx
  obtain ⟨t, rfl⟩ := ry
  obtain ⟨its, n, r, e⟩ := hH.ok I
  have hl := r.length
  have hlen : its.toArray.size * k.toNat ≤ sizeLine := by rw [List.size_toArray, ← hl]; exact hz
  have hcap : ¬ its.toArray.size * k.toNat > (2 ^ 63 - 1) / 8 := by
    have : (sizeLine : Nat) ≤ (2 ^ 63 - 1) / 8 := by decide
    omega
  have hfit : ¬ (!Builtin.List.listFitsIndex k) = true := by
    rw [fitsIndex_both h1 h2]
    exact Bool.false_ne_true
  have hlong : ¬ Builtin.List.listTooLong (its.toArray.size * k.toNat) = true := by
    rw [notLongL hlen]
    exact Bool.false_ne_true
  have hnew : List.foldl (fun x1 x2 => x1 ++ x2) #[] (List.replicate (if its.toArray.isEmpty = true then 0 else k.toNat) its.toArray) = (List.replicate k.toNat its).flatten.toArray := by
    have f0 : ∀ m : Nat, List.foldl (fun x1 x2 => x1 ++ x2) #[] (List.replicate m its.toArray) = (List.replicate m its).flatten.toArray := fun m => by
      have := foldl_repT its m []
      rw [List.nil_append] at this
      exact this
    rw [f0]
    cases its with
    | nil => simp
    | cons a r' => rw [if_neg (by simp)]
  refine wpAny_binaryOp_repeat_ref (T := "list") (U := "int") (by decide) ⟨_, e, rfl⟩ (fun s' => typeIs_int s' k t) noFill_list_mul F.fills_int_mul F.slot_int_rmul repeat_list F.slot_int_index.lookup
    (call_meets F.slot_int_rmul (typeIs_int s k t) F.entry_int_rmul (F.args_int_rmul_2 _ _) (int___rmul___int_list k t l its.toArray n)
      ⟨e, rfl, ⟨_, e, rfl⟩, call_meets F.slot_list_mul ⟨_, e, rfl⟩ F.entry_list_mul (F.args_list_mul_2 _ _) (AutoListH.list___mul___list_int_3 l its.toArray n k t hfit hcap hlong) ⟨e, ?_⟩⟩)
  rw [hnew]
  exact ⟨.ref _, _, I.lnew (t' := s.toks) (r.rep k.toNat) (by rw [PyProof.Rows.lm_len_rep_flat, Nat.mul_comm]; exact hz), rfl, q _ I.fresh⟩

theorem op_powW : OpR X (binaryOp .Pow) (rI (fun i j => 0 ≤ j ∧ ((i.natAbs.log2 + 1 : Nat) : Int) * j ≤ 2 ^ 27) fun i j => .int (i ^ j.toNat)) := opI fun i j _ _ _ _ _ hc q => by
  refine PyProof.Rows.pow_int hc.1 (Int.le_trans (Int.mul_le_mul_of_nonneg_right ?_ hc.1) hc.2) q
  unfold Builtin.Int.intBits
  split <;> omega

abbrev BO.ast : BO → Operator
  | .add => .Add | .sub => .Sub | .mul => .Mult | .fdiv => .FloorDiv | .mod => .Mod | .pow => .Pow
theorem op_bin (o : BO) : OpR X (binaryOp o.ast) (rD2 X.K (bop o)) := by
  intro pins s σ H x y v u Q I rx ry ⟨Z, p, q, w, hp, hq, e, g⟩
  unfold bop at e
  split at e
  · cases e
    have e1 := hp.int
    have e2 := hq.int
    subst e1 e2
    exact op_add pins s σ H _ _ v u Q I rx ry ⟨_, _, rfl, rfl, g.1 _ (.int _)⟩
  · split at e
    · rename_i hz
      cases e
      have e1 := hp.str
      have e2 := hq.str
      subst e1 e2
      exact op_add_str pins s σ H _ _ v u Q I rx ry ⟨_, _, rfl, rfl, hz, g.1 _ (.str _)⟩
    · cases e
  · split at e
    · rename_i hz
      cases e
      obtain ⟨a, xs, rfl, h1, r1⟩ := hp.list
      obtain ⟨b, ys, rfl, h2, r2⟩ := hq.list
      exact op_catR pins s σ H _ _ v u Q I rx ry ⟨_, _, _, _, rfl, rfl, h1, h2, by rw [r1.length, r2.length]; exact hz, fun l hl => g l _ hl (r1.append r2)⟩
    · cases e
  · split at e
    · rename_i hz
      cases e
      obtain ⟨f1, a, xs, rfl, h1, r1⟩ := hp.tuple
      obtain ⟨f2, b, ys, rfl, h2, r2⟩ := hq.tuple
      refine op_catA pins s σ H _ _ v u Q I rx ry ⟨_, _, _, _, rfl, rfl, h1, h2, by rw [r1.length, r2.length]; exact hz, fun z => ?_, fun _ z => ?_, fun _ _ l hl => g.2 l _ _ rfl hl (r1.append r2)⟩
      · subst z
        cases r1
        exact g.1 _ (by rw [List.nil_append]; exact f2)
      · subst z
        cases r2
        exact g.1 _ (by rw [List.append_nil]; exact f1)
    · cases e
  · cases e
    have e1 := hp.int
    have e2 := hq.int
    subst e1 e2
    exact op_sub pins s σ H _ _ v u Q I rx ry ⟨_, _, rfl, rfl, g.1 _ (.int _)⟩
  · split at e
    · rename_i hz
      cases e
      have e1 := hp.int
      have e2 := hq.int
      subst e1 e2
      exact op_mulW pins s σ H _ _ v u Q I rx ry ⟨_, _, rfl, rfl, hz, g.1 _ (.int _)⟩
    · cases e
  · split at e
    · rename_i hz
      cases e
      obtain ⟨a, xs, rfl, h1, r1⟩ := hp.list
      have e2 := hq.int
      subst e2
      exact op_repR pins s σ H _ _ v u Q I rx ry ⟨_, _, _, rfl, rfl, h1, hz.1, hz.2.1, by rw [r1.length]; exact hz.2.2, fun l hl => g l _ hl (r1.rep _)⟩
    · cases e
  · split at e
    · rename_i hz
      cases e
      have e1 := hp.int
      have e2 := hq.int
      subst e1 e2
      exact op_fdivW pins s σ H _ _ v u Q I rx ry ⟨_, _, rfl, rfl, hz, g.1 _ (.int _)⟩
    · cases e
  · split at e
    · rename_i hz
      cases e
      have e1 := hp.int
      have e2 := hq.int
      subst e1 e2
      exact op_mod pins s σ H _ _ v u Q I rx ry ⟨_, _, rfl, rfl, hz, g.1 _ (.int _)⟩
    · cases e
  · split at e
    · rename_i hz
      cases e
      have e1 := hp.int
      have e2 := hq.int
      subst e1 e2
      refine op_powW pins s σ H _ _ v u Q I rx ry ⟨_, _, rfl, rfl, ⟨hz.1, ?_⟩, g.1 _ (.int _)⟩
      have q := hz.2
      rename_i i j _
      rw [← Int.toNat_of_nonneg hz.1, ← Int.natCast_mul]
      have e : ((2 : Int) ^ 27) = ((134217728 : Nat) : Int) := by decide
      rw [e]
      exact Int.ofNat_le.mpr q
    · cases e
  · cases e
end
end TL
set_option Elab.async false
set_option linter.all false
set_option maxRecDepth 100000
set_option maxHeartbeats 2000000
namespace TL
open PySem PySem.Spec L2

mutual
theorem flatE_lay : ∀ (n : Nat) (d : Pd), flatE n d = true → d.canLay0 = true ∧ d.depth ≤ n
  | _, .none, _ => ⟨rfl, Nat.zero_le _⟩
  | _, .bool _, _ => ⟨rfl, Nat.zero_le _⟩
  | _, .int _, _ => ⟨rfl, Nat.zero_le _⟩
  | 0, .str x, e => ⟨e, Nat.zero_le _⟩
  | _ + 1, .str x, e => ⟨e, Nat.zero_le _⟩
  | n + 1, .list xs, e => by
    have h := flatEs_lay n xs e
    exact ⟨h.1, Nat.succ_le_succ h.2⟩
  | n + 1, .tuple xs, e => by
    have h := flatEs_lay n xs e
    exact ⟨h.1, Nat.succ_le_succ h.2⟩
  | 0, .list _, e => nomatch e
  | 0, .tuple _, e => nomatch e
  | 0, .dict _, e => nomatch e
  | _ + 1, .dict _, e => nomatch e
theorem flatEs_lay : ∀ (n : Nat) (d : List Pd), flatEs n d = true → PyData.canLayAll0 d = true ∧ PyData.depthAll d ≤ n
  | _, [], _ => ⟨rfl, Nat.zero_le _⟩
  | n, x :: xs, e => by
    have e : (flatE n x && flatEs n xs) = true := e
    rw [Bool.and_eq_true] at e
    have h1 := flatE_lay n x e.1
    have h2 := flatEs_lay n xs e.2
    refine ⟨?_, ?_⟩
    · show (x.canLay0 && PyData.canLayAll0 xs) = true
      rw [h1.1, h2.1]; rfl
    · show max _ _ ≤ n
      exact Nat.max_le.mpr ⟨h1.2, h2.2⟩
end
theorem flatE_shaped {n : Nat} {d : Pd} (e : flatE n d = true) (h : n ≤ 64) : SeqAt.shaped d = true := by
  obtain ⟨h1, h2⟩ := flatE_lay n d e
  unfold SeqAt.shaped
  rw [h1, decide_eq_true (by omega)]; rfl

section
variable {K : PySem.W.Frag} {Z : Zs} {H : Hp}
theorem scal_of {x y : V} {p q : Pd} (hp : RI K Z H x p) (hq : RI K Z H y q) (e : scal0 p q = true) : scal x y = true ∧ decide (x = y) = PyData.eqv p q := by
  cases p <;> cases q <;> try (cases e; done)
  all_goals (first | have e1 := hp.int | have e1 := hp.bool | have e1 := hp.str | have e1 := hp.none)
  all_goals (first | have e2 := hq.int | have e2 := hq.bool | have e2 := hq.str | have e2 := hq.none)
  all_goals (subst e1 e2)
  all_goals (first
    | exact ⟨rfl, dec_int⟩
    | exact ⟨rfl, dec_bl⟩
    | exact ⟨rfl, dec_str⟩
    | exact ⟨rfl, decide_eq_true rfl⟩
    | exact ⟨rfl, decide_eq_false (fun z => nomatch z)⟩)
/-- flat items by data -/
theorem RFs.flatV : ∀ {vs : List V} {ds : List Pd}, RFs K Z H vs ds → flatEs 0 ds = true → vs.all flatV = true
  | _, _, .nil, _ => rfl
  | _, _, .cons (d := d) h r, e => by
    have e : (flatE 0 d && flatEs 0 _) = true := e
    rw [Bool.and_eq_true] at e
    rw [List.all_cons, RFs.flatV r e.2]
    cases h <;> first | rfl | (have e1 := e.1; cases e1; done)
theorem eqV_eqv {x y : V} {p q : Pd} (hp : RI K Z H x p) (hq : RI K Z H y q) (ep : flatE 0 p = true) (eq : flatE 0 q = true) : eqV x y = PyData.eqv p q := by
  cases p <;> try (cases ep; done)
  all_goals (cases q <;> try (cases eq; done))
  all_goals (first | have e1 := hp.int | have e1 := hp.bool | have e1 := hp.str | have e1 := hp.none)
  all_goals (first | have e2 := hq.int | have e2 := hq.bool | have e2 := hq.str | have e2 := hq.none)
  all_goals (subst e1 e2; first | rfl)
theorem inV_any {x : V} {p : Pd} (hp : RI K Z H x p) (ep : flatE 0 p = true) : ∀ {vs : List V} {ds : List Pd}, RFs K Z H vs ds → flatEs 0 ds = true → inV x vs = ds.any fun z => PyData.eqv z p
  | _, _, .nil, _ => rfl
  | _, _, .cons (d := d) h r, e => by
    have e : (flatE 0 d && flatEs 0 _) = true := e
    rw [Bool.and_eq_true] at e
    have ih := inV_any hp ep r e.2
    unfold inV at ih ⊢
    rw [List.any_cons, List.any_cons, ih, eqV_eqv (.rf h) hp e.1 ep]
theorem RI.flatV {x : V} {p : Pd} (hp : RI K Z H x p) (e : flatE 0 p = true) : L2.flatV x = true := by
  cases p <;> try (cases e; done)
  all_goals (first | have e1 := hp.int | have e1 := hp.bool | have e1 := hp.str | have e1 := hp.none)
  all_goals (subst e1; rfl)
theorem signIn_of {x y : Str} {b : Bool} (e : signIn x.cps.toList y = some b) : ∃ c : Nat, x = ⟨#[c]⟩ ∧ b = decide (c ∈ y.cps.toList) := by
  unfold signIn at e
  split at e
  · rename_i c h
    refine ⟨c, ?_, (Option.some.inj e).symm⟩
    obtain ⟨l⟩ := x
    have h2 : l = #[c] := by
      apply Array.toList_inj.mp
      exact h
    rw [h2]
  · cases e
theorem isN_of {x : V} {p : Pd} (hp : RI K Z H x p) : decide (x = .non) = isNone p := by
  cases hp with
  | rf h => cases h <;> first | exact decide_eq_true rfl | exact decide_eq_false (fun z => nomatch z)
  | ol h r => exact decide_eq_false (fun z => nomatch z)
  | od h r => exact decide_eq_false (fun z => nomatch z)
end

/-- a comparison by its data -/
def rC2 (K : PySem.W.Frag) (f : Pd → Pd → Option Bool) : R2 := fun x y H Q => ∃ Z p q b, RI K Z H x p ∧ RI K Z H y q ∧ f p q = some b ∧ Q (.bl b) H
abbrev CO.ast : CO → CmpOp
  | .eq => .Eq | .ne => .NotEq | .lt => .Lt | .le => .LtE | .gt => .Gt | .ge => .GtE | .isN => .Is | .notN => .IsNot | .inn => .In | .nin => .NotIn
theorem eqvAll_len : ∀ {xs ys : List Pd}, (xs.length != ys.length) = true → PyData.eqvAll xs ys = false
  | [], [], h => nomatch h
  | [], _ :: _, _ => rfl
  | _ :: _, [], _ => rfl
  | x :: xs, y :: ys, h => by
    have h' : (xs.length != ys.length) = true := by simpa using h
    show (PyData.eqv x y && PyData.eqvAll xs ys) = false
    rw [eqvAll_len h', Bool.and_false]
theorem lenNe_of {K : PySem.W.Frag} {Z : Zs} {H : Hp} {x y : V} {p q : Pd} (hp : RI K Z H x p) (hq : RI K Z H y q) (e : lenNe p q = true) :
    ∃ a b xs ys, x = .ref a ∧ y = .ref b ∧ LL K H a xs ∧ LL K H b ys ∧ (xs.length != ys.length) = true ∧ PyData.eqv p q = false := by
  unfold lenNe at e
  split at e
  · obtain ⟨a, xs, rfl, h1, r1⟩ := hp.list
    obtain ⟨b, ys, rfl, h2, r2⟩ := hq.list
    exact ⟨a, b, xs, ys, rfl, rfl, h1, h2, by rw [r1.length, r2.length]; exact e, eqvAll_len e⟩
  · cases e
section
variable {X : Cx}
theorem cmp_len {pins : List (Addr × Obj)} {s : Shared} {σ : L2.St} {H : Hp} {Z : Zs} {x y : V} {v u : Value} {p q : Pd} (hu : X.A.units + 65 < cLine) (I : Inv X pins σ H s) (rx : RelV x v) (ry : RelV y u) (hp : RI X.K Z H x p) (hq : RI X.K Z H y q) (e : lenNe p q = true) :
    PyData.eqv p q = false ∧ ∃ l b its its2, v = .ref l ∧ u = .ref b ∧ s.heap.IsList l its ∧ s.heap.IsList b its2 ∧ (its.size != its2.size) = true := by
  obtain ⟨a, b, xs, ys, rfl, rfl, h1, h2, h3, h4⟩ := lenNe_of hp hq e
  obtain ⟨its, n, r1, g1⟩ := h1.ok I
  obtain ⟨its2, n2, r2, g2⟩ := h2.ok I
  have e1 : v = Value.ref a := rx
  have e2 : u = Value.ref b := ry
  have l1 : its.length = xs.length := r1.length.symm
  have l2 : its2.length = ys.length := r2.length.symm
  refine ⟨h4, a, b, its.toArray, its2.toArray, e1, e2, ⟨_, g1, rfl, n, rfl⟩, ⟨_, g2, rfl, n2, rfl⟩, ?_⟩
  rw [List.size_toArray, List.size_toArray, l1, l2]
  exact h3
theorem op_cmpI {P : Pd → Pd → Option Bool} {o : CmpOp} {g : Int → Int → Bool} (r : OpR X (compareOp o) (rI0 fun i j => .bl (g i j)))
    (h : ∀ p q b, P p q = some b → ∃ i j, p = .int i ∧ q = .int j ∧ b = g i j) : OpR X (compareOp o) (rC2 X.K P) := by
  intro pins s σ H x y v u Q I rx ry ⟨Z, p, q, b, hp, hq, e, g'⟩
  obtain ⟨i, j, rfl, rfl, rfl⟩ := h p q b e
  have e1 := hp.int
  have e2 := hq.int
  subst e1 e2
  exact r pins s σ H _ _ v u Q I rx ry ⟨_, _, rfl, rfl, g'⟩
theorem op_cmp (hu : X.A.units + 65 < cLine) (o : CO) : OpR X (compareOp o.ast) (rC2 X.K (cop2 o)) := by
  cases o with
  | eq =>
    intro pins s σ H x y v u Q I rx ry ⟨Z, p, q, b, hp, hq, e, g⟩
    have e : (if scalP p q || (flatE 60 p && flatE 60 q) then some (PyData.eqv p q) else none) = some b := e
    split at e
    · rename_i h
      cases e
      rcases Bool.or_eq_true_iff.mp h with h | h
      · rcases Bool.or_eq_true_iff.mp h with h | h
        rotate_left
        · obtain ⟨z, l, b, its, its2, rfl, rfl, i1, i2, i3⟩ := cmp_len hu I rx ry hp hq h
          rw [z] at g
          exact SeqAt.RcAt.lists_lengths i1 i2 i3 (by omega) X.prog X.w _ _ ⟨.bl false, H, I, rfl, g⟩
        obtain ⟨h1, h2⟩ := scal_of hp hq h
        exact op_eq pins s σ H _ _ v u Q I rx ry ⟨h1, by rw [h2]; exact g⟩
      · rw [Bool.and_eq_true] at h
        exact op_eqD (by omega) pins s σ H _ _ v u Q I rx ry ⟨_, _, hp.dp h.1, hq.dp h.2, flatE_shaped h.1 (by decide), flatE_shaped h.2 (by decide), g⟩
    · cases e
  | ne =>
    intro pins s σ H x y v u Q I rx ry ⟨Z, p, q, b, hp, hq, e, g⟩
    have e : (if scalP p q || (flatE 60 p && flatE 60 q) then some (!PyData.eqv p q) else none) = some b := e
    split at e
    · rename_i h
      cases e
      rcases Bool.or_eq_true_iff.mp h with h | h
      · rcases Bool.or_eq_true_iff.mp h with h | h
        rotate_left
        · obtain ⟨z, l, b, its, its2, rfl, rfl, i1, i2, i3⟩ := cmp_len hu I rx ry hp hq h
          rw [z] at g
          exact SeqAt.RcNeAt.lists_lengths i1 i2 i3 (by omega) X.prog X.w _ _ ⟨.bl true, H, I, rfl, g⟩
        obtain ⟨h1, h2⟩ := scal_of hp hq h
        exact op_ne pins s σ H _ _ v u Q I rx ry ⟨h1, by rw [h2]; exact g⟩
      · rw [Bool.and_eq_true] at h
        exact op_neD (by omega) pins s σ H _ _ v u Q I rx ry ⟨_, _, hp.dp h.1, hq.dp h.2, flatE_shaped h.1 (by decide), flatE_shaped h.2 (by decide), g⟩
    · cases e
  | lt => exact op_cmpI op_lt fun p q b e => (by cases p <;> cases q <;> first | (cases e; exact ⟨_, _, rfl, rfl, rfl⟩) | cases e)
  | le => exact op_cmpI op_le fun p q b e => (by cases p <;> cases q <;> first | (cases e; exact ⟨_, _, rfl, rfl, rfl⟩) | cases e)
  | gt => exact op_cmpI op_gt fun p q b e => (by cases p <;> cases q <;> first | (cases e; exact ⟨_, _, rfl, rfl, rfl⟩) | cases e)
  | ge => exact op_cmpI op_ge fun p q b e => (by cases p <;> cases q <;> first | (cases e; exact ⟨_, _, rfl, rfl, rfl⟩) | cases e)
  | isN =>
    intro pins s σ H x y v u Q I rx ry ⟨Z, p, q, b, hp, hq, e, g⟩
    cases q with
    | none =>
      have e2 := hq.none
      subst e2
      exact op_isN pins s σ H _ _ v u Q I rx ry ⟨rfl, by rw [isN_of hp]; cases e; exact g⟩
    | _ => cases e
  | notN =>
    intro pins s σ H x y v u Q I rx ry ⟨Z, p, q, b, hp, hq, e, g⟩
    cases q with
    | none =>
      have e2 := hq.none
      subst e2
      exact op_notN pins s σ H _ _ v u Q I rx ry ⟨rfl, by rw [isN_of hp]; cases e; exact g⟩
    | _ => cases e
  | inn =>
    intro pins s σ H x y v u Q I rx ry ⟨Z, p, q, b, hp, hq, e, g⟩
    have e : inD p q = some b := e
    unfold inD at e
    split at e
    · split at e
      · rename_i h
        cases e
        rw [Bool.and_eq_true] at h
        exact op_inD hu pins s σ H _ _ v u Q I rx ry ⟨_, _, hp.dp h.1, hq.dp h.2, flatE_shaped h.1 (by decide), flatE_shaped h.2 (by decide), g⟩
      · cases e
    · split at e
      · rename_i h
        cases e
        rw [Bool.and_eq_true] at h
        obtain ⟨_, a, xs, rfl, h1, r1⟩ := hq.tuple
        refine op_in_seq pins s σ H _ _ v u Q I rx ry ⟨_, _, rfl, .inr h1, hp.flatV h.1, r1.flatV h.2, ?_⟩
        rw [if_neg Bool.false_ne_true, inV_any hp h.1 r1 h.2]
        exact g
      · cases e
    · have e1 := hp.str
      have e2 := hq.str
      subst e1 e2
      obtain ⟨c, ex, eb⟩ := signIn_of e
      rw [ex] at rx
      exact op_in_sign pins s σ H _ _ v u Q I rx ry ⟨_, _, rfl, rfl, by rw [← eb]; exact g⟩
    · cases e
  | nin =>
    intro pins s σ H x y v u Q I rx ry ⟨Z, p, q, b, hp, hq, e, g⟩
    have e : (inD p q).map (!·) = some b := e
    unfold inD at e
    split at e
    · split at e
      · rename_i h
        cases e
        rw [Bool.and_eq_true] at h
        exact op_notInD hu pins s σ H _ _ v u Q I rx ry ⟨_, _, hp.dp h.1, hq.dp h.2, flatE_shaped h.1 (by decide), flatE_shaped h.2 (by decide), g⟩
      · cases e
    · split at e
      · rename_i h
        cases e
        rw [Bool.and_eq_true] at h
        obtain ⟨_, a, xs, rfl, h1, r1⟩ := hq.tuple
        refine op_notIn_seq pins s σ H _ _ v u Q I rx ry ⟨_, _, rfl, .inr h1, hp.flatV h.1, r1.flatV h.2, ?_⟩
        rw [if_pos rfl, inV_any hp h.1 r1 h.2]
        exact g
      · cases e
    · have e1 := hp.str
      have e2 := hq.str
      subst e1 e2
      obtain ⟨b', e3, rfl⟩ := Option.map_eq_some_iff.mp e
      obtain ⟨c, ex, eb⟩ := signIn_of e3
      rw [ex] at rx
      exact op_notIn_sign pins s σ H _ _ v u Q I rx ry ⟨_, _, rfl, rfl, by rw [← eb]; exact g⟩
    · cases e

/-- a[i] -/
def rX2 (K : PySem.W.Frag) (f : Pd → Pd → Option Pd) : R2 := fun x y H Q => ∃ Z p q d, RI K Z H x p ∧ RI K Z H y q ∧ f p q = some d ∧ ∀ z, RF K Z H z d → Q z H
theorem RFs.atI {K : PySem.W.Frag} {Z : Zs} {H : Hp} {vs : List V} {ds : List Pd} {i : Int} {d : Pd} (r : RFs K Z H vs ds) (e : ((ixN ds.length i).bind fun j => ds[j]?) = some d) : ∃ v, L2.atI vs i = some v ∧ RF K Z H v d := by
  unfold L2.atI
  rw [r.length]
  cases h : ixN ds.length i with
  | none => rw [h] at e; cases e
  | some j =>
    rw [h] at e
    exact r.get (i := j) e
theorem ix_D : IxR X (rX2 X.K idxD) := by
  intro value slice pins s σ H x y v u Q I rx ry ⟨Z, p, q, d, hp, hq, e, g⟩ hs
  unfold idxD at e
  split at e
  · obtain ⟨a, xs, rfl, h1, r1⟩ := hp.list
    have e2 := hq.int
    subst e2
    obtain ⟨w, hw, rw'⟩ := r1.atI e
    exact ix_list value slice pins s σ H _ _ v u Q I rx ry ⟨_, _, _, _, rfl, rfl, h1.sq, hw, g _ rw'⟩ hs
  · obtain ⟨_, a, xs, rfl, h1, r1⟩ := hp.tuple
    have e2 := hq.int
    subst e2
    obtain ⟨w, hw, rw'⟩ := r1.atI e
    exact ix_tup value slice pins s σ H _ _ v u Q I rx ry ⟨_, _, _, _, rfl, rfl, h1, hw, g _ rw'⟩ hs
  · split at e
    · rename_i hz
      have e1 := hp.str
      have e2 := hq.int
      subst e1 e2
      obtain ⟨c, h3, rfl⟩ := Option.map_eq_some_iff.mp e
      exact (ix_seq (X := X)) value slice pins s σ H _ _ v u Q I rx ry (.inr (.inr ⟨_, _, c, rfl, rfl, hz, h3, g _ (.str _)⟩)) hs
    · cases e
  · cases e

/-- a slice by its data -/
def rS3 (K : PySem.W.Frag) : V → Option Int → Option Int → Hp → VK → Prop := fun x lo hi H Q => ∃ Z p u, RI K Z H x p ∧ slcD p lo hi = some u ∧ Gv K Z H u Q
theorem RFs.cut {K : PySem.W.Frag} {Z : Zs} {H : Hp} {vs : List V} {ds : List Pd} (r : RFs K Z H vs ds) (lo hi : Option Int) : RFs K Z H (cutV vs lo hi) (cut ds lo hi) := by
  unfold cutV TL.cut
  rw [r.length]
  exact (r.drop _).take _
theorem sl_D : SlR X (rS3 X.K) := by
  intro pins s σ H x v vl vu lo hi sl Q I rx hs pl pu ⟨Z, p, u, hp, e, g⟩
  unfold slcD at e
  split at e
  · cases e
    obtain ⟨a, xs, rfl, h1, r1⟩ := hp.list
    exact sl_list pins s σ H _ v vl vu lo hi sl Q I rx hs pl pu ⟨_, _, rfl, h1.sq, fun l hl => g l _ hl (r1.cut lo hi)⟩
  · cases e
    obtain ⟨f1, a, xs, rfl, h1, r1⟩ := hp.tuple
    refine sl_tupA pins s σ H _ v vl vu lo hi sl Q I rx hs pl pu ⟨_, _, rfl, h1, fun w => ?_, fun _ l hl => g.2 l _ _ rfl hl (r1.cut lo hi)⟩
    refine g.1 _ ?_
    have ew : TL.cut _ lo hi = _ := (show TL.cut (_ : List Pd) lo hi = _ by
      unfold TL.cut
      rw [← r1.length, w.1, w.2, Nat.sub_zero, List.drop_zero, r1.length, List.take_length])
    rw [ew]
    exact f1
  · split at e
    · rename_i hz
      cases e
      have e1 := hp.str
      subst e1
      exact sl_str pins s σ H _ v vl vu lo hi sl Q I rx hs pl pu ⟨_, rfl, hz, g.1 _ (.str _)⟩
    · cases e
  · cases e
end
end TL
set_option Elab.async false
set_option linter.all false
set_option maxRecDepth 100000
set_option maxHeartbeats 2000000
namespace TL
open PySem PySem.Spec L2

/-- the table of modules lies in the base -/
def SmB (base : Heap) : Prop := ∃ mm, base.Ns sysModules mm
section
variable {X : Cx} {pins : List (Addr × Obj)} {σ : L2.St} {H : Hp} {s : Shared} {Z : Zs}
theorem smH (I : Inv X pins σ H s) (sm : SmB X.base) : (∃ o es ep, s.heap.get? sysModules = some o ∧ o.data = .dict es ep) ∧ H sysModules = none := by
  obtain ⟨mm, o, es, ep, e, d, _⟩ := sm
  obtain ⟨h1, h2⟩ := I.bs _ _ e
  exact ⟨⟨o, es, ep, h1, d⟩, h2⟩
theorem rd_ne {a : Addr} {u : HO} (I : Inv X pins σ H s) (sm : SmB X.base) (h : Rd H a u) : a ≠ sysModules := fun e => by
  have n := (smH I sm).2
  subst e
  rcases h with h | ⟨o, h⟩ <;> (rw [n] at h; cases h)
theorem not_mem_app {x : Addr} {as bs : List Addr} (h1 : x ∉ as) (h2 : x ∉ bs) : x ∉ as ++ bs := fun m => (List.mem_append.mp m).elim h1 h2
theorem key_reads {p : Pd} {k : Key} {x : Value} (e : keyP p = some k) (h : keyIs k x = true) : ∃ as, Reads s.heap x p as ∧ sysModules ∉ as := by
  rcases keyIs_shape h with ⟨i, t, rfl, rfl⟩ | ⟨z, t, rfl, rfl⟩
  · cases p <;> cases e
    exact ⟨[], .int i t, List.not_mem_nil⟩
  · cases p <;> cases e
    exact ⟨[], .str z t, List.not_mem_nil⟩
mutual
theorem RF.reads (I : Inv X pins σ H s) (sm : SmB X.base) : ∀ {v : V} {d : Pd}, RF X.K Z H v d → ∀ {u : Value}, RelV v u → ∃ as, Reads s.heap u d as ∧ sysModules ∉ as
  | _, _, .non, u, r => by
    have e : u = Value.none := r
    subst e
    exact ⟨[], .none, List.not_mem_nil⟩
  | _, _, .bl b, u, r => by
    have e : u = Value.bool b := r
    subst e
    exact ⟨[], .bool b, List.not_mem_nil⟩
  | _, _, .int i, u, r => by
    obtain ⟨t, e⟩ := (show ∃ t, u = Value.int i t from r)
    subst e
    exact ⟨[], .int i t, List.not_mem_nil⟩
  | _, _, .str x, u, r => by
    obtain ⟨t, e⟩ := (show ∃ t, u = Value.str x t from r)
    subst e
    exact ⟨[], .str x t, List.not_mem_nil⟩
  | _, _, .lst (a := a) z h q, u, r => by
    have e : u = Value.ref a := r
    subst e
    obtain ⟨_, its, n, r', g⟩ := h.ok I.hok
    obtain ⟨as, h1, h2⟩ := RFs.reads I sm q r'
    exact ⟨a :: as, .list g rfl rfl h1, fun m => (List.mem_cons.mp m).elim (fun e => rd_ne I sm h e.symm) h2⟩
  | _, _, .lstK (a := a) h q, u, r => by
    have e : u = Value.ref a := r
    subst e
    obtain ⟨its, n, h1, _, r'⟩ := h
    have g := I.kIn a _ h1
    obtain ⟨as, h2, h3⟩ := RFs.reads I sm q r'
    refine ⟨a :: as, .list g rfl rfl h2, fun m => (List.mem_cons.mp m).elim (fun e => ?_) h3⟩
    obtain ⟨⟨o, es, ep, e1, e2⟩, _⟩ := smH I sm
    rw [e, g] at e1
    cases e1
    cases e2
  | _, _, .tup (a := a) z h q, u, r => by
    have e : u = Value.ref a := r
    subst e
    obtain ⟨_, its, r', o, ho, hc, n, hd⟩ := h.ok I.hok
    obtain ⟨as, h1, h2⟩ := RFs.reads I sm q r'
    exact ⟨as, .tuple ho hc hd h1, h2⟩
  | _, _, .tupK (a := a) h q, u, r => by
    have e : u = Value.ref a := r
    subst e
    obtain ⟨o, its, n, h1, hc, hd, _, r'⟩ := h
    obtain ⟨as, h2, h3⟩ := RFs.reads I sm q r'
    exact ⟨as, .tuple (I.kIn a _ h1) hc hd h2, h3⟩
  | _, _, .dct (a := a) z h q, u, r => by
    have e : u = Value.ref a := r
    subst e
    obtain ⟨_, _, vs, rel, o, es, ep, ho, hc, hd, _, hp, _⟩ := h.ok I.hok
    obtain ⟨as, bs, h1, h2, h3, h4⟩ := RFd.reads I sm q rel hp
    exact ⟨a :: as ++ bs, .dict ho hc.1 hd h1 h2, not_mem_app (fun m => (List.mem_cons.mp m).elim (fun e => rd_ne I sm h e.symm) h3) h4⟩
theorem RFs.reads (I : Inv X pins σ H s) (sm : SmB X.base) : ∀ {vs : List V} {ds : List Pd}, RFs X.K Z H vs ds → ∀ {us : List Value}, Vals vs us → ∃ as, ReadsAll s.heap us ds as ∧ sysModules ∉ as
  | _, _, .nil, us, r => by
    cases r
    exact ⟨[], .nil, List.not_mem_nil⟩
  | _, _, .cons h q, us, r => by
    cases r with
    | cons r1 r2 =>
      obtain ⟨as, h1, h2⟩ := RF.reads I sm h r1
      obtain ⟨bs, h3, h4⟩ := RFs.reads I sm q r2
      exact ⟨as ++ bs, .cons h1 h3, not_mem_app h2 h4⟩
theorem RFd.reads (I : Inv X pins σ H s) (sm : SmB X.base) : ∀ {kvs : List (Key × V)} {ds : List (Pd × Pd)}, RFd X.K Z H kvs ds → ∀ {vs : List (Key × Value)} {es : List DictEntry}, KV kvs vs → Pairs (mixKind X.prog X.w) es vs →
    ∃ as bs, ReadsAll s.heap (es.map (·.key)) (ds.map (·.1)) as ∧ ReadsAll s.heap (es.map (·.val)) (ds.map (·.2)) bs ∧ sysModules ∉ as ∧ sysModules ∉ bs
  | _, _, .nil, vs, es, r, p => by
    cases r
    cases p
    exact ⟨[], [], .nil, .nil, List.not_mem_nil, List.not_mem_nil⟩
  | _, _, .cons ek h q, vs, es, r, ps => by
    cases r with
    | cons r1 r2 =>
      cases ps with
      | cons p1 p2 p3 =>
        obtain ⟨as, bs, h1, h2, h3, h4⟩ := RFd.reads I sm q r2 p3
        obtain ⟨q1, q2⟩ := r1
        dsimp only at q1 q2
        rw [← q1] at p1
        rw [← p2] at q2
        obtain ⟨cs, h5, h6⟩ := RF.reads I sm h q2
        obtain ⟨ts, h7, h8⟩ := key_reads (s := s) ek p1
        exact ⟨ts ++ as, cs ++ bs, .cons h7 h1, .cons h5 h2, not_mem_app h8 h3, not_mem_app h6 h4⟩
end
theorem RI.reads (I : Inv X pins σ H s) (sm : SmB X.base) {v : V} {d : Pd} (h : RI X.K Z H v d) {u : Value} (r : RelV v u) : ∃ as, Reads s.heap u d as ∧ sysModules ∉ as := by
  cases h with
  | rf h => exact h.reads I sm r
  | ol h q => exact RF.reads I sm (Z := fun _ => True) (.lst trivial (.inl h) (q.mono (fun _ _ => trivial) fun _ _ _ e => e)) r
  | od h q => exact RF.reads I sm (Z := fun _ => True) (.dct trivial (.inl h) (q.mono (fun _ _ => trivial) fun _ _ _ e => e)) r
theorem RIs.reads (I : Inv X pins σ H s) (sm : SmB X.base) : ∀ {vs : List V} {ds : List Pd}, (∀ (i : Nat) (v : V) (d : Pd), vs[i]? = some v → ds[i]? = some d → RI X.K Z H v d) → vs.length = ds.length → ∀ {us : List Value}, Vals vs us → ∃ as, ReadsAll s.heap us ds as ∧ sysModules ∉ as
  | [], [], _, _, us, r => by
    cases r
    exact ⟨[], .nil, List.not_mem_nil⟩
  | v :: vs, d :: ds, h, l, us, r => by
    cases r with
    | cons r1 r2 =>
      obtain ⟨as, h1, h2⟩ := (h 0 v d rfl rfl).reads I sm r1
      obtain ⟨bs, h3, h4⟩ := RIs.reads I sm (fun i w e hw he => h (i + 1) w e (by simpa using hw) (by simpa using he)) (by simpa using l) r2
      exact ⟨as ++ bs, .cons h1 h3, not_mem_app h2 h4⟩
  | [], _ :: _, _, l, _, _ => by cases l
  | _ :: _, [], _, l, _, _ => by cases l
end
end TL
set_option Elab.async false
set_option linter.all false
set_option maxRecDepth 100000
set_option maxHeartbeats 3200000
namespace TL
open PySem PySem.Spec L2 PyProof.Rows

abbrev nSet (w : World) : Obj := { cls := .type "set", dict := none, data := .set #[] 0 (.fresh 0 0 (!w.params.followText "set-order")) }
abbrev hSet (w : World) (s : Shared) : Heap := s.heap.push (nSet w)
/-- what set(xs) leaves -/
def SetMade (w : World) (s : Shared) (ns : List Int) (s2 : Shared) : Prop :=
  ∃ g t c, s2 = { s with heap := g, toks := t } ∧ SetR w g s.heap.objs.size (fun j => decide (j ∈ ns)) c ∧ c ≤ ns.length ∧ ∀ b o, s.heap.get? b = some o → g.get? b = some o
section
variable {P : Program} {w : World} {A : Around} {E : Value → Shared → Prop} {s : Shared}
theorem set_listI {l : Addr} {xs : Array Value} {ns : List Int} {Q : Value → Shared → Prop} (calm : A.handled = none) (hl : s.heap.IsList l xs) (hi : IntsAre xs.toList ns) (room : ns.length + 1 < scanBound)
    (k : ∀ s2, SetMade w s ns s2 → Q (.ref s.heap.objs.size) s2) : wpAny (model P w) A (call (.type "set") [.ref l]) Q E s := by
  have len : xs.size = ns.length := by rw [← Array.length_toList]; exact IntsAre.length hi
  have f0 := F.called_set.made
  have f1 := F.called_set.sub
  have f2 := F.called_set.notType
  have f3 := F.called_set.canCreate
  have f4 := F.typeCall_set_1 (.ref l)
  obtain ⟨_, _, f5⟩ := F.called_set.mro
  have at0 : (hSet w s).get? s.heap.objs.size = some (nSet w) := Heap.get?_push_size _ rfl
  refine wpAny_call (codeAny_of_tree ?_)
  show wpAny _ _ (callAny (.type "set") _) _ _ _
  refine wpAny_pure ⟨Code.quiet_builtin _ (by decide +kernel), codeAny_builtin F.entry_type_call ?_⟩
  rw [Around.under_plain (weight_type_call_type "set" [.ref l] []) rfl]
  repeat (any_goals (first | assumption | wp_step))
  refine codeAny_mono (code_set_led1 (.ref l) (E := E) (Q₁ := fun v t => v = .ref s.heap.objs.size ∧ t = { s with heap := hSet w s }) ⟨rfl, rfl⟩) fun r t hr => ?_
  match r, hr with
  | .error _, hr => exact hr
  | .ok .next, hr => exact hr.elim
  | .ok .brk, hr => exact hr.elim
  | .ok .cont, hr => exact hr.elim
  | .ok (.ret v), hr =>
    obtain ⟨rfl, rfl⟩ := hr
    have ty : Shared.TypeIs { s with heap := hSet w s } (.ref s.heap.objs.size) "set" := ⟨_, at0, rfl⟩
    have f6 := F.called_set.init.lookup
    have f7 := F.called_set.init.bind (.ref s.heap.objs.size)
    repeat (any_goals (first | assumption | wp_step))
    refine codeAny_mono (codeAny_call_builtin (R := wants (fun r t => r = .none ∧ SetMade w s ns t) E) F.called_set.init.plain F.entry_set_init (check_set_init_1 ty ?_)) fun r2 t2 h2 => ?_
    · obtain ⟨⟨oc, od, oa, os⟩, g1, g2, n, g3⟩ := hl
      simp only at g2 g3
      subst g2 g3
      have g4 : (hSet w s).get? l = some { cls := .type "list", dict := od, data := .seq xs n, slots := os } := Heap.get?_push_of_some _ g1
      have g5 : (hSet w s).IsList l xs := ⟨_, g4, rfl, n, rfl⟩
      have b1 := F.sub_list_set
      have b2 := F.sub_list_frozenset
      have b3 : (Value.type "list" == Value.type "dict") = false := by decide
      unfold Builtin.«set.__init__» noKeywords Builtin.Frozenset.updateFrom
      generalize hPI : pyIter = PI
      wp_walk
      subst hPI
      refine wpAny_pyIter_list g5 (wpAny_bind (wpAny_runValue ?_))
      have lt : l < s.heap.objs.size := Heap.lt_size g1
      have sz : (hSet w s).objs.size = s.heap.objs.size + 1 := Heap.size_push ..
      have n1 : l ≠ (hSet w s).objs.size := fun e => Nat.ne_of_lt (Nat.lt_succ_of_lt lt) (e.trans sz)
      have n2 : s.heap.objs.size ∉ [(hSet w s).objs.size, l] := fun m => by
        rcases List.mem_cons.mp m with m | m
        · exact Nat.ne_of_lt (Nat.lt_succ_self _) (m.trans sz)
        · exact Nat.ne_of_gt lt (List.mem_singleton.mp m)
      have each : ∀ (i : Nat) (v : Value), xs[i]? = some v → ∃ k t, ns[i]? = some k ∧ v = .int k t := fun i v hv => by
        have lt2 : i < ns.length := by rw [← len]; exact (Array.getElem?_eq_some_iff.mp hv).1
        obtain ⟨t, e⟩ := IntsAre.int_at hi i v (by rw [Array.getElem?_toList]; exact hv)
        exact ⟨ns[i], t, List.getElem?_eq_getElem lt2, by rw [e, List.getD_eq_getElem?_getD, List.getElem?_eq_getElem lt2]; rfl⟩
      have hh : A.in1.in1.in1.handled = none := by simp [calm]
      refine set_update_ints ((Walks.list hh _ l n1 xs).toS) s.heap.objs.size n2 ns len room each (xs.size - 0) 0 _ (by omega) (Nat.zero_le _) ⟨⟨_, Heap.get?_push_size _ rfl, rfl, rfl⟩, g5.push _⟩ ?_ fun t c mv hc R => ?_
      · exact ⟨0, Nat.le_refl 0, setR_new_at (Heap.get?_push_of_some _ at0)⟩
      · obtain ⟨g, ge, d, tk, os2⟩ := t
        obtain rfl : ge = s.gens := mv.gens
        obtain rfl : d = s.drawn := mv.drawn
        obtain rfl : os2 = s.os := mv.os
        show wpAny _ _ _ _ _ _
        refine wpAny_pure ?_
        show wpAny _ _ (ret Value.none) _ _ _
        refine wpAny_pure ⟨rfl, g, tk, c, rfl, R, by omega, fun b o e => ?_⟩
        have b0 : b < s.heap.objs.size := Heap.lt_size e
        refine mv.heap b o (fun m => ?_) (Heap.get?_push_of_some _ (Heap.get?_push_of_some _ e))
        rcases List.mem_cons.mp m with m | m
        · exact Nat.ne_of_lt b0 m
        · exact Nat.ne_of_lt (Nat.lt_succ_of_lt b0) ((List.mem_singleton.mp m).trans sz)
    · match r2, h2 with
      | .error _, h2 => exact h2
      | .ok .next, h2 => exact h2.elim
      | .ok .brk, h2 => exact h2.elim
      | .ok .cont, h2 => exact h2.elim
      | .ok (.ret v), h2 =>
        obtain ⟨rfl, m⟩ := h2
        repeat (any_goals (first | assumption | wp_step))
        exact k _ m
end
end TL
set_option Elab.async false
set_option linter.all false
set_option maxRecDepth 100000
set_option maxHeartbeats 3200000
namespace TL
open PySem PySem.Spec L2 PyProof.Rows

theorem mem_ddI {k : Int} : ∀ {is : List Int}, k ∈ ddI is ↔ k ∈ is
  | [] => Iff.rfl
  | x :: xs => by
    unfold ddI
    split
    · rename_i h
      rw [mem_ddI (is := xs), List.mem_cons]
      exact ⟨.inr, fun m => m.elim (fun e => e ▸ h) id⟩
    · rw [List.mem_cons, List.mem_cons, mem_ddI (is := xs)]
theorem nodup_ddI : ∀ is : List Int, (ddI is).Nodup
  | [] => List.nodup_nil
  | x :: xs => by
    unfold ddI
    split
    · exact nodup_ddI xs
    · rename_i h
      exact List.nodup_cons.mpr ⟨fun m => h (mem_ddI.mp m), nodup_ddI xs⟩
theorem mem_srtI {k : Int} {is : List Int} : k ∈ srtI is ↔ k ∈ is := by
  unfold srtI
  rw [List.mem_mergeSort, mem_ddI]
theorem lt_srtI (is : List Int) : (srtI is).Pairwise (· < ·) := by
  have h1 : (srtI is).Pairwise (· ≤ ·) := by
    have := List.pairwise_mergeSort (le := fun (a b : Int) => decide (a ≤ b)) (fun a b c h1 h2 => by simp at *; omega) (fun a b => by simp; omega) (ddI is)
    exact this.imp (by intro a b h; simpa using h)
  have h2 : (srtI is).Nodup := (List.mergeSort_perm (ddI is) _).nodup_iff.mpr (nodup_ddI is)
  exact (h1.and h2).imp (by intro a b h; omega)
theorem lt_same {xs ys : List Int} (hx : xs.Pairwise (· < ·)) (hy : ys.Pairwise (· < ·)) (h : ∀ k, k ∈ xs ↔ k ∈ ys) : xs = ys := by
  have nx : xs.Nodup := hx.imp (by intro a b h e; omega)
  have ny : ys.Nodup := hy.imp (by intro a b h e; omega)
  exact ((List.perm_ext_iff_of_nodup nx ny).mpr h).eq_of_pairwise (fun a b _ _ h1 h2 => by omega) hx hy
section
variable {X : Cx}
def rSetLI (K : PySem.W.Frag) (w : World) : List V → Hp → VK → Prop := fun vs H Q => ∃ (a : Addr) (ns : List Int), vs = [V.ref a] ∧ SqL K H a (ns.map V.int) ∧ ns.length < 60 ∧ ∀ (p : Addr) (n : Nat), H p = none → n ≤ ns.length → Q (.ref p) (upd H p (SetO w p (fun j => decide (j ∈ ns)) n))
theorem cr_setLI (hc : X.calm = true) : CallR X (.type "set") (rSetLI X.K X.w) := by
  intro pins s σ H vs us Q I r ⟨a, ns, e, hs, hl, q⟩
  subst e
  obtain ⟨its, rv, ht, hz⟩ := I.list hs
  rw [Vals.ref1 r]
  refine set_listI (I.ok.hd hc) ht.isList (intsAre_of rv) (by unfold scanBound; omega) fun s2 ⟨g, t, c, e, R, hcn, keep⟩ => ?_
  subst e
  exact ⟨.ref _, upd H s.heap.objs.size (SetO X.w s.heap.objs.size (fun j => decide (j ∈ ns)) c), I.laid (t' := t) (h' := g) keep (Nat.le_refl _) (setO_new R), rfl, q _ _ (I.hok.fresh (Nat.le_refl _)) hcn⟩
theorem slicePick_S (its : List Value) (lo k : Int) : slicePick its.toArray (some lo) none (some k) = (pickS (idxS lo k its.length) its).toArray := by
  unfold slicePick pickS idxS
  rw [List.size_toArray]
  congr 1
  congr 1
  funext i
  exact List.getElem?_toArray ..
theorem pickS_le {α : Type} (lo k : Int) (xs : List α) (hk : 0 < k) : (pickS (idxS lo k xs.length) xs).length ≤ xs.length := by
  unfold pickS
  refine Nat.le_trans (List.length_filterMap_le _ _) ?_
  have := slicePick_size_le (List.replicate xs.length Value.none).toArray (some lo) none (some k)
  rw [slicePick_S, List.size_toArray, List.size_toArray, List.length_replicate] at this
  refine Nat.le_trans ?_ this
  unfold pickS
  have all : ∀ (is : List Nat), (∀ i ∈ is, i < xs.length) → is.length ≤ (is.filterMap ((List.replicate xs.length Value.none)[·]?)).length := by
    intro is
    induction is with
    | nil => intro _; exact Nat.le_refl _
    | cons i is ih =>
      intro h
      have hi := h i List.mem_cons_self
      have e : (List.replicate xs.length Value.none)[i]? = some Value.none := by rw [List.getElem?_replicate, if_pos hi]
      rw [List.filterMap_cons, e, List.length_cons]
      dsimp only
      rw [List.length_cons]
      exact Nat.succ_le_succ (ih fun j hj => h j (List.mem_cons_of_mem _ hj))
  refine all _ fun i hi => ?_
  unfold idxS sliceRange at hi
  obtain ⟨j, hj, rfl⟩ := List.mem_map.mp hi
  rw [List.mem_range] at hj
  have b0 : 0 ≤ (sliceBounds (some lo) none (some k) xs.length).1 := by
    simp only [sliceBounds, Option.getD_some, hk, if_true, gt_iff_lt]
    omega
  have b1 : (sliceBounds (some lo) none (some k) xs.length).2.1 = xs.length := by
    simp only [sliceBounds, Option.getD_some, hk, if_true, gt_iff_lt]
  have b2 : (sliceBounds (some lo) none (some k) xs.length).2.2 = k := rfl
  rw [b1, b2] at hj
  rw [b2]
  clear hi
  generalize (sliceBounds (some lo) none (some k) xs.length).1 = z at *
  rw [if_pos (show k > 0 from hk)] at hj
  split at hj
  · have h1 : (j : Int) < ((xs.length : Int) - z + k - 1) / k := by omega
    have h2 : (j : Int) + 1 ≤ ((xs.length : Int) - z + k - 1) / k := h1
    have h3 := (Int.le_ediv_iff_mul_le hk).mp h2
    have h4 : ((j : Int) + 1) * k = k * j + k := by rw [Int.add_mul, Int.one_mul, Int.mul_comm]
    have h5 : 0 ≤ k * (j : Int) := Int.mul_nonneg (by omega) (by omega)
    omega
  · simp at hj
theorem Vals.pick {xs : List V} {us : List Value} (r : Vals xs us) : ∀ is : List Nat, Vals (pickS is xs) (pickS is us)
  | [] => .nil
  | i :: is => by
    have ih := Vals.pick r is
    unfold pickS at ih ⊢
    rw [List.filterMap_cons, List.filterMap_cons]
    cases e : xs[i]? with
    | some x =>
      obtain ⟨u, h1, h2⟩ := r.get e
      rw [h1]
      exact .cons h2 ih
    | none =>
      have e2 : us[i]? = none := by
        rw [List.getElem?_eq_none_iff] at e ⊢
        rw [← r.length]
        exact e
      rw [e2]
      exact ih
theorem RFs.pick {K : PySem.W.Frag} {Z : Zs} {H : Hp} {xs : List V} {ds : List Pd} (r : RFs K Z H xs ds) : ∀ is : List Nat, RFs K Z H (pickS is xs) (pickS is ds)
  | [] => .nil
  | i :: is => by
    have ih := RFs.pick r is
    unfold pickS at ih ⊢
    rw [List.filterMap_cons, List.filterMap_cons]
    cases e : xs[i]? with
    | some x =>
      obtain ⟨u, h1, h2⟩ := r.get' e
      rw [h1]
      exact .cons h2 ih
    | none =>
      have e2 : ds[i]? = none := by
        rw [List.getElem?_eq_none_iff] at e ⊢
        rw [← r.length]
        exact e
      rw [e2]
      exact ih
def tStepL (K : PySem.W.Frag) (k : Int) (te : TE) (tl : TO) : TE := fun σ H Q => te σ H fun x H1 => tl σ H1 fun o H2 => ∃ a xs lo, x = .ref a ∧ o = some lo ∧ SqL K H2 a xs ∧ ∀ p, H2 p = none → Q (.ref p) (upd H2 p (.lst (pickS (idxS lo k xs.length) xs)))
theorem pe_stepL {e lo : Expr} {te : TE} {tl : TO} {k : Int} {j : Nat} {p1 p2 p : Pos} (hk : 0 < k) (he : PE X e te) (hl : PO X (some lo) tl) : PE X (.Subscript e (.Slice (some lo) none (some (.Constant (.int k) j p1)) p2) p) (tStepL X.K k te tl) := by
  have hs : PO X (some (.Constant (.int k) j p1)) (tPart (tC (.int k))) := po_some pe_int
  refine ⟨fun pins s σ H Q I q => Subscript_ (thn (he.run pins s σ H _ I q) fun v s1 ⟨x, H1, I1, rx, q1⟩ => ?_)⟩
  refine wpAny_Slice (thn (hl.run pins s1 σ H1 _ I1 q1) fun v1 s2 ⟨o, H2, I2, pl, a, xs, l, ex, eo, hx, q2⟩ => ?_)
  subst ex eo
  cases rx
  refine thn (po_none.run pins s2 σ H2 (fun o H' => o = none ∧ H' = H2) I2 ⟨rfl, rfl⟩) fun v2 s3 ⟨o2, H3, I3, pu, e2, e3⟩ => ?_
  subst e2 e3
  refine thn (hs.run pins s3 σ H3 (fun o H' => o = some k ∧ H' = H3) I3 ⟨k, rfl, rfl, rfl⟩) fun v3 s4 ⟨o3, H4, I4, pt, e4, e5⟩ => ?_
  subst e4 e5
  have I5 : Inv X pins σ H4 { s4 with heap := s4.heap.push { cls := .type "slice", data := .fields #[v1, v2, v3] } } := I4.kept (t' := s4.toks) fun _ _ z => Heap.get?_push_of_some _ z
  obtain ⟨its, rv, ht, hz⟩ := I5.list hx
  have ln := rv.length
  show wpAny (model X.prog X.w) X.A (subscriptTail e (.Slice (some lo) none (some (.Constant (.int k) j p1)) p2) (.ref a) (.ref s4.heap.objs.size)) (EP X pins σ Q) X.xe { s4 with heap := s4.heap.push { cls := .type "slice", data := .fields #[v1, v2, v3] } }
  refine tail_any (ops := [.ref a, .ref s4.heap.objs.size]) ht.isList.typeIs (PySem.slot_list_getitem.lookup) ?_ (by with_unfolding_all rfl)
  refine wpAny_getItem_list_slice ht.isList (Heap.IsSliceOf.new _ v1 v2 v3) pl pu pt (fun z => by cases z; omega) ?_ (by rw [List.size_toArray]; omega)
  rw [slicePick_S, ← ln]
  refine ⟨.ref _, _, I5.laid (t' := s4.toks) (o := .lst (pickS (idxS l k xs.length) xs)) (fun _ _ z => Heap.get?_push_of_some _ z) (Nat.le_refl _) ⟨Nat.le_trans (pickS_le l k xs hk) hz, _, 0, Vals.pick rv _, Heap.get?_push_size _ rfl⟩, rfl, q2 _ (I5.hok.fresh (Nat.le_refl _))⟩
end
end TL
set_option Elab.async false
set_option linter.all false
set_option maxRecDepth 100000
set_option maxHeartbeats 2000000
namespace TL
open PySem PySem.Spec L2

/-- arguments that are looked at -/
inductive RIs (K : PySem.W.Frag) (Z : Zs) (H : Hp) : List V → List Pd → Prop
  | nil : RIs K Z H [] []
  | cons {v : V} {vs : List V} {d : Pd} {ds : List Pd} (h : RI K Z H v d) (r : RIs K Z H vs ds) : RIs K Z H (v :: vs) (d :: ds)
def rB (K : PySem.W.Frag) (f : List Pd → Option Vl) : List V → Hp → VK → Prop := fun vs H Q => ∃ Z ps u, RIs K Z H vs ps ∧ f ps = some u ∧ Gv K Z H u Q

section
variable {K : PySem.W.Frag} {Z : Zs} {H : Hp}
theorem RIs.one {vs : List V} {p : Pd} (h : RIs K Z H vs [p]) : ∃ v, vs = [v] ∧ RI K Z H v p := by
  cases h with
  | cons h r =>
    cases r
    exact ⟨_, rfl, h⟩
theorem RIs.two {vs : List V} {p q : Pd} (h : RIs K Z H vs [p, q]) : ∃ v w, vs = [v, w] ∧ RI K Z H v p ∧ RI K Z H w q := by
  cases h with
  | cons h r =>
    obtain ⟨w, rfl, h2⟩ := r.one
    exact ⟨_, _, rfl, h, h2⟩
theorem intsOf_map : ∀ {ds : List Pd} {is : List Int}, intsOf ds = some is → ds = is.map .int
  | [], _, e => by cases e; rfl
  | .int i :: r, _, e => by
    obtain ⟨js, e2, rfl⟩ := Option.map_eq_some_iff.mp e
    rw [intsOf_map e2]
    rfl
  | .none :: _, _, e => nomatch e
  | .bool _ :: _, _, e => nomatch e
  | .str _ :: _, _, e => nomatch e
  | .list _ :: _, _, e => nomatch e
  | .tuple _ :: _, _, e => nomatch e
  | .dict _ :: _, _, e => nomatch e
theorem boolsOf_map : ∀ {ds : List Pd} {is : List Bool}, boolsOf ds = some is → ds = is.map .bool
  | [], _, e => by cases e; rfl
  | .bool i :: r, _, e => by
    obtain ⟨js, e2, rfl⟩ := Option.map_eq_some_iff.mp e
    rw [boolsOf_map e2]
    rfl
  | .none :: _, _, e => nomatch e
  | .int _ :: _, _, e => nomatch e
  | .str _ :: _, _, e => nomatch e
  | .list _ :: _, _, e => nomatch e
  | .tuple _ :: _, _, e => nomatch e
  | .dict _ :: _, _, e => nomatch e
theorem sort_uniq {ns' ns : List Int} (hp : ns'.Perm ns) (hs : ns'.Pairwise (· ≤ ·)) : ns' = ns.mergeSort (fun a b => decide (a ≤ b)) := by
  have h1 : (ns.mergeSort (fun a b => decide (a ≤ b))).Pairwise (· ≤ ·) := by
    have := List.pairwise_mergeSort (le := fun (a b : Int) => decide (a ≤ b)) (fun a b c h1 h2 => by simp at *; omega) (fun a b => by simp; omega) ns
    exact this.imp (by intro a b h; simpa using h)
  exact (hp.trans (List.mergeSort_perm ns _).symm).eq_of_pairwise (fun a b _ _ h1 h2 => Int.le_antisymm h1 h2) hs h1
end

section
variable {X : Cx}
abbrev BI.fn : BI → Value
  | .len => .builtin "len" | .abs => .builtin "abs" | .max2 => .builtin "max" | .min2 => .builtin "min" | .int1 => .type "int" | .str1 => .type "str" | .repr1 => .builtin "repr" | .all1 => .builtin "all" | .any1 => .builtin "any"
  | .list1 => .type "list" | .tuple1 => .type "tuple" | .sorted1 => .builtin "sorted" | .sum1 => .builtin "sum" | .max1 => .builtin "max" | .min1 => .builtin "min"

/-- read whole, wherever it stands -/
def Rdb (X : Cx) (H : Hp) (v : V) (d : Pd) : Prop := ∀ (pins : List (Addr × Obj)) (σ : L2.St) (s : Shared) (u : Value), Inv X pins σ H s → RelV v u → ∃ as, Reads s.heap u d as ∧ sysModules ∉ as
theorem call_reprF (hg : X.A.guards = some []) (hu : X.A.units + 70 < cLine) {d : Pd} (h1 : d.showable = true) (h3 : d.depth ≤ 60) (h4 : d.shown.length ≤ sizeLine) :
    CallR X (.builtin "repr") (fun vs H Q => ∃ v, vs = [v] ∧ Rdb X H v d ∧ Q (.str d.shown) H) := by
  intro pins s σ H xs us Q I r ⟨v, e, hd, q⟩
  subst e
  obtain ⟨u, rfl, ru⟩ := vals1 r
  obtain ⟨as, hr, ns⟩ := hd pins σ s u I ru
  have fin : ∀ (h' : Heap) (u : Tok) (tk : Nat), (∀ b o, s.heap.get? b = some o → h'.get? b = some o) → EP X pins σ Q (.str d.shown u) { s with heap := h', toks := tk } := fun h' u tk k => ⟨.str _, H, I.kept k, ⟨u, rfl⟩, q⟩
  have cut : ∀ {a : Addr}, Reads s.heap (.ref a) d as → wpAny (model X.prog X.w) X.A (call (.builtin "repr") [.ref a]) (EP X pins σ Q) X.xe s := fun r =>
    repr_of_reads' r h1 (fun _ => ns) hg (by omega) (fun _ _ e => e) fin h4
  cases hr with
  | none => exact PySem.P.repr_of_none (fin s.heap _ _ fun _ _ e => e)
  | bool b => exact PySem.P.repr_of_bool (fin s.heap _ _ fun _ _ e => e)
  | int i t => exact PySem.P.repr_of_int (by simpa [PyData.showable] using h1) (fin s.heap _ _ fun _ _ e => e)
  | str x t => exact PySem.P.repr_of_str (fin s.heap _ _ fun _ _ e => e) h4
  | list a b c e => exact cut (.list a b c e)
  | tuple a b c e => exact cut (.tuple a b c e)
  | dict a b c e f => exact cut (.dict a b c e f)

theorem call_bi (sm : SmB X.base) (hc : X.calm = true) (hg : X.A.guards = some []) (hu : X.A.units + 70 < cLine) (b : BI) : CallR X b.fn (rB X.K (bi b)) := by
  intro pins s σ H xs us Q I r ⟨Z, ps, u, hp, e, g⟩
  unfold bi at e
  split at e
  · -- len
    obtain ⟨v, rfl, h⟩ := hp.one
    obtain ⟨(n : Nat), e1, e2⟩ := Option.map_eq_some_iff.mp e
    cases e2
    refine call_len pins s σ H _ us Q I r ⟨_, n, rfl, ?_, g.1 _ (.int _)⟩
    unfold lenD at e1
    split at e1
    · cases e1
      obtain ⟨a, vs, rfl, h1, r1⟩ := h.list
      exact .inl ⟨vs, h1.sq, r1.length.symm⟩
    · cases e1
      obtain ⟨_, a, vs, rfl, h1, r1⟩ := h.tuple
      exact .inr ⟨vs, h1, r1.length.symm⟩
    · split at e1
      · rename_i hz
        cases e1
        have e2 := h.str
        subst e2
        exact ⟨hz, rfl⟩
      · cases e1
    · cases e1
  · -- abs
    obtain ⟨v, rfl, h⟩ := hp.one
    cases e
    have e2 := h.int
    subst e2
    exact call_abs pins s σ H _ us Q I r ⟨_, rfl, g.1 _ (.int _)⟩
  · obtain ⟨v, w, rfl, h, h'⟩ := hp.two
    cases e
    have e2 := h.int
    have e3 := h'.int
    subst e2 e3
    exact call_max2 hc pins s σ H _ us Q I r ⟨_, _, rfl, g.1 _ (.int _)⟩
  · obtain ⟨v, w, rfl, h, h'⟩ := hp.two
    cases e
    have e2 := h.int
    have e3 := h'.int
    subst e2 e3
    exact call_min2 hc pins s σ H _ us Q I r ⟨_, _, rfl, g.1 _ (.int _)⟩
  · obtain ⟨v, rfl, h⟩ := hp.one
    cases e
    have e2 := h.int
    subst e2
    exact call_int1 pins s σ H _ us Q I r (.inl ⟨_, rfl, g.1 _ (.int _)⟩)
  · obtain ⟨v, rfl, h⟩ := hp.one
    cases e
    have e2 := h.bool
    subst e2
    exact call_int1 pins s σ H _ us Q I r (.inr ⟨_, rfl, g.1 _ (.int _)⟩)
  · obtain ⟨v, rfl, h⟩ := hp.one
    split at e
    · rename_i hz
      cases e
      have e2 := h.int
      subst e2
      exact call_str_int pins s σ H _ us Q I r ⟨_, rfl, hz, g.1 _ (.str _)⟩
    · cases e
  · obtain ⟨v, rfl, h⟩ := hp.one
    cases e
    have e2 := h.str
    subst e2
    exact SkE.call_str_str pins s σ H _ us Q I r ⟨_, rfl, g.1 _ (.str _)⟩
  · obtain ⟨v, rfl, h⟩ := hp.one
    split at e
    · rename_i hz
      cases e
      simp only [Bool.and_eq_true, decide_eq_true_eq] at hz
      obtain ⟨⟨z1, z3⟩, z4⟩ := hz
      exact call_reprF hg hu z1 z3 z4 pins s σ H _ us Q I r ⟨_, rfl, fun _ _ _ _ I' r' => h.reads I' sm r', g.1 _ (.str _)⟩
    · cases e
  · obtain ⟨v, rfl, h⟩ := hp.one
    obtain ⟨bs, e1, rfl⟩ := Option.map_eq_some_iff.mp e
    obtain ⟨a, vs, rfl, h1, r1⟩ := h.list
    rw [boolsOf_map e1] at r1
    have ev := r1.bools
    subst ev
    exact cr_all hc pins s σ H _ us Q I r ⟨_, _, rfl, h1.sq, g.1 _ (.bl _)⟩
  · obtain ⟨v, rfl, h⟩ := hp.one
    obtain ⟨bs, e1, rfl⟩ := Option.map_eq_some_iff.mp e
    obtain ⟨a, vs, rfl, h1, r1⟩ := h.list
    rw [boolsOf_map e1] at r1
    have ev := r1.bools
    subst ev
    exact cr_any hc pins s σ H _ us Q I r ⟨_, _, rfl, h1.sq, g.1 _ (.bl _)⟩
  · obtain ⟨v, rfl, h⟩ := hp.one
    cases e
    obtain ⟨a, vs, rfl, h1, r1⟩ := h.list
    exact call_list_of pins s σ H _ us Q I r ⟨_, _, rfl, .inl h1.sq, fun l hl => g l _ hl r1⟩
  · obtain ⟨v, rfl, h⟩ := hp.one
    cases e
    obtain ⟨_, a, vs, rfl, h1, r1⟩ := h.tuple
    exact call_list_of pins s σ H _ us Q I r ⟨_, _, rfl, .inr h1, fun l hl => g l _ hl r1⟩
  · obtain ⟨v, rfl, h⟩ := hp.one
    cases e
    obtain ⟨a, vs, rfl, h1, r1⟩ := h.list
    exact call_tuple_of pins s σ H _ us Q I r ⟨_, _, rfl, .inl ⟨h1.sq, fun l hl => g.2 l _ _ rfl hl r1⟩⟩
  · obtain ⟨v, rfl, h⟩ := hp.one
    cases e
    obtain ⟨f, a, vs, rfl, h1, r1⟩ := h.tuple
    exact call_tuple_of pins s σ H _ us Q I r ⟨_, _, rfl, .inr ⟨h1, g.1 _ f⟩⟩
  · obtain ⟨v, rfl, h⟩ := hp.one
    obtain ⟨ys, e1, rfl⟩ := Option.map_eq_some_iff.mp e
    obtain ⟨a, vs, rfl, h1, r1⟩ := h.list
    unfold sortD at e1
    split at e1
    · rename_i is hi
      cases e1
      rw [intsOf_map hi] at r1
      have ev := r1.ints
      subst ev
      exact cr_sortedI pins s σ H _ us Q I r ⟨_, _, rfl, h1.sq, fun ns' p hp' hs hn => by
        rw [sort_uniq hp' hs]
        exact g p _ hn (RFs.of_ints _)⟩
    · cases e1
  · obtain ⟨v, rfl, h⟩ := hp.one
    obtain ⟨is, e1, rfl⟩ := Option.map_eq_some_iff.mp e
    obtain ⟨a, vs, rfl, h1, r1⟩ := h.list
    rw [intsOf_map e1] at r1
    have ev := r1.ints
    subst ev
    exact cr_sum hc pins s σ H _ us Q I r ⟨_, _, rfl, h1.sq, g.1 _ (.int _)⟩
  · obtain ⟨v, rfl, h⟩ := hp.one
    obtain ⟨is, e1, e3⟩ := Option.bind_eq_some_iff.mp e
    obtain ⟨m, e4, rfl⟩ := Option.map_eq_some_iff.mp e3
    obtain ⟨a, vs, rfl, h1, r1⟩ := h.list
    rw [intsOf_map e1] at r1
    have ev := r1.ints
    subst ev
    obtain ⟨m1, m2⟩ := List.max?_eq_some_iff.mp e4
    refine cr_max hc pins s σ H _ us Q I r ⟨_, _, rfl, h1.sq, List.length_pos_of_mem m1, fun k hk hle => ?_⟩
    rw [Int.le_antisymm (m2 k hk) (hle m m1)]
    exact g.1 _ (.int _)
  · obtain ⟨v, rfl, h⟩ := hp.one
    obtain ⟨is, e1, e3⟩ := Option.bind_eq_some_iff.mp e
    obtain ⟨m, e4, rfl⟩ := Option.map_eq_some_iff.mp e3
    obtain ⟨a, vs, rfl, h1, r1⟩ := h.list
    rw [intsOf_map e1] at r1
    have ev := r1.ints
    subst ev
    obtain ⟨m1, m2⟩ := List.min?_eq_some_iff.mp e4
    refine cr_min hc pins s σ H _ us Q I r ⟨_, _, rfl, h1.sq, List.length_pos_of_mem m1, fun k hk hle => ?_⟩
    rw [Int.le_antisymm (hle m m1) (m2 k hk)]
    exact g.1 _ (.int _)
  · cases e
end
end TL
set_option Elab.async false
set_option linter.all false
set_option maxRecDepth 100000
set_option maxHeartbeats 2000000
namespace TL
open PySem PySem.Spec L2

/-- a block's names: their kinds; which of them are its own cells -/
structure Sc where
  N : List Str
  names : List (Str × NameKind)
  fn : Str → Bool

def Sc.vis (c : Sc) (x : Str) : Bool :=
  match c.names.lookup x with
  | some .local | some .cell | some .free => true
  | _ => false
def Sc.sto (c : Sc) (x : Str) : Bool :=
  match c.names.lookup x with
  | some .local => true
  | some .cell => c.fn x
  | _ => false
def Sc.glo (c : Sc) (x : Str) : Bool := c.names.lookup x == some .globalImplicit
def odd (x : Str) : Bool := x == ("__debug__" : Str) || x == ("__classdict__" : Str) || x == ("__name__" : Str)
/-- a comprehension's block within -/
def Sc.blk (c : Sc) (scope : Scope) : Sc where
  N := c.N
  names := scope.names.map fun q => if q.2 == .free && c.names.lookup q.1 == some .cell then (q.1, .cell) else q
  fn := fun x => scope.names.lookup x == some .cell

/-- the names that a text's terms lean on -/
structure Tb where
  free : List Str
  gn : List Str
  fns : List Str

def cstD : Const → Option Pd
  | .none => some .none
  | .bool b => some (.bool b)
  | .int i => some (.int i)
  | .str s => some (.str s)
  | _ => none
def sameD : Pd → Pd → Bool
  | .none, .none => true
  | .bool a, .bool b => a == b
  | .int a, .int b => a == b
  | .str a, .str b => a == b
  | _, _ => false
def BO.of : Operator → Option BO
  | .Add => some .add | .Sub => some .sub | .Mult => some .mul | .FloorDiv => some .fdiv | .Mod => some .mod | .Pow => some .pow
  | _ => none
def CO.of : CmpOp → Option CO
  | .Eq => some .eq | .NotEq => some .ne | .Lt => some .lt | .LtE => some .le | .Gt => some .gt | .GtE => some .ge | .Is => some .isN | .IsNot => some .notN | .In => some .inn | .NotIn => some .nin
def BI.name : BI → Str
  | .len => "len" | .abs => "abs" | .max2 => "max" | .min2 => "min" | .int1 => "int" | .str1 => "str" | .repr1 => "repr" | .all1 => "all" | .any1 => "any"
  | .list1 => "list" | .tuple1 => "tuple" | .sorted1 => "sorted" | .sum1 => "sum" | .max1 => "max" | .min1 => "min"
def CN.name : CN → Str
  | .int => "int" | .bool => "bool" | .str => "str" | .list => "list" | .tuple => "tuple" | .dict => "dict"
/-- not a form that its neighbours look at -/
def plainE : Expr → Bool
  | .Starred .. | .Set .. | .Slice .. | .NamedExpr .. | .GeneratorExp .. | .Yield .. | .YieldFrom .. | .Await .. | .SetComp .. | .DictComp .. => false
  | _ => true

mutual
def ckT (c : Sc) : IT → Expr → Bool
  | .nm i, .Name x _ => c.N[i]? == some x && c.sto x && !odd x
  | .tp l, .Tuple es _ _ => ckTs c l es
  | _, _ => false
def ckTs (c : Sc) : ITs → List Expr → Bool
  | .nil, [] => true
  | .cons t l, e :: es => ckT c t e && ckTs c l es
  | _, _ => false
end

def ownOf (c : Sc) (own : List Nat) : List (Str × Nat) := own.filterMap fun i => (c.N[i]?).map fun x => (x, i)
def ckName (c : Sc) (i : Nat) (x : Str) : Bool := c.N[i]? == some x && c.vis x && !odd x
def freeN (T : Tb) (c : Sc) (x : Str) : Bool := c.glo x && T.free.contains x && !odd x
/-- a term that may stand as a test -/
def testOk : IE → Bool
  | .ife .. => false
  | .not_ a => testOk a
  | .and_ a b | .or_ a b => testOk a && testOk b
  | _ => true
def testOks : IA → Bool
  | .nil => true
  | .cons a .nil => testOk a
  | _ => false
mutual
def ckE (T : Tb) (c : Sc) : IE → Expr → Bool
  | .var i, .Name x _ => ckName c i x
  | .cst d, .Constant k _ _ => match cstD k with
    | some q => sameD d q
    | none => false
  | .glb k, .Name x _ => T.gn[k]? == some x && c.glo x && !odd x
  | .neg a, .UnaryOp .USub e _ => ckE T c a e
  | .not_ a, .UnaryOp .Not e _ => ckE T c a e
  | .bin o a b, .BinOp l op r _ => o.ast == op && ckE T c a l && ckE T c b r
  | .cmp o a b, .Compare l [op] [r] _ => o.ast == op && ckE T c a l && ckE T c b r
  | .chn o p a b d, .Compare l [op, op'] [r, q] _ => o.ast == op && p.ast == op' && ckE T c a l && ckE T c b r && ckE T c d q
  | .and_ a b, .BoolOp .And (x :: y :: r) p => ckE T c a x && (match r with
    | [] => ckE T c b y
    | _ => ckE T c b (.BoolOp .And (y :: r) p))
  | .or_ a b, .BoolOp .Or (x :: y :: r) p => ckE T c a x && (match r with
    | [] => ckE T c b y
    | _ => ckE T c b (.BoolOp .Or (y :: r) p))
  | .ife t a b, .IfExp u x y _ => testOk t && ckE T c t u && ckE T c a x && ckE T c b y
  | .lst as, .List es _ => ckA T c as es && decide (es.length ≤ 10000)
  | .tup as, .Tuple es _ _ => ckA T c as es && decide (es.length ≤ 10000)
  | .dct .nil .nil, .Dict [] [] _ => true
  | .dct (.cons (.cst (.int i)) .nil) (.cons (.var j) .nil), .Dict [some (.Constant k _ _)] [.Name x _] _ => (match cstD k with
    | some q => sameD (.int i) q
    | none => false) && ckName c j x
  | .idx a b, .Subscript x y _ => ckE T c a x && ckE T c b y && plainE y
  | .slc a l h, .Subscript x (.Slice lo hi none _) _ => ckE T c a x && (match lo with
    | none => l.left
    | some e => !l.left && ckE T c l e) && (match hi with
    | none => h.left
    | some e => !h.left && ckE T c h e)
  | .rev a, .Subscript x (.Slice none none (some (.UnaryOp .USub (.Constant (.int 1) _ _) _)) _) _ => ckE T c a x
  | .cal f as, .Call (.Name x _) (e :: es) [] _ => T.fns[f]? == some x && c.glo x && !odd x && ckA T c as (e :: es)
  | .bi b as, .Call (.Name x _) (e :: es) [] _ => b.name == x && freeN T c x && ckA T c as (e :: es)
  | .srt a, .Call (.Name x _) [.Call (.Name y _) [e] [] _] [] _ => x == ("sorted" : Str) && freeN T c x && (y == ("set" : Str) && freeN T c y) && ckE T c a e && plainE e
  | .slk a lo k, .Subscript x (.Slice (some l) none (some (.Constant (.int j) _ _)) _) _ => ckE T c a x && ckE T c lo l && decide (j = (k : Int)) && decide (0 < k)
  | .repL as, .Call (.Name x _) [.List es _] [] _ => x == ("repr" : Str) && freeN T c x && ckA T c as es && decide (es.length ≤ 10000)
  | .isi k a, .Call (.Name x _) [e, .Name y _] [] _ => x == ("isinstance" : Str) && freeN T c x && y == k.name && freeN T c y && ckE T c a e && plainE e
  | .mpop i, .Call (.Attribute (.Name x _) m ap) [] [] cp => ckName c i x && m == ("pop" : Str) && ap.endLine == cp.line
  | .lc elt tg it cs own, .ListComp e [⟨t, i, fs, 0⟩] scope _ => ckI T c it i t && ckT (c.blk scope) tg t && ckE T (c.blk scope) elt e && ckA T (c.blk scope) cs fs && testOks cs && blkC c.N ⟨.function, c.names, false, false, []⟩ scope (ownOf c own) && (ownOf c own).map (·.2) == own && (asT tg).all own.contains && plainE i
  | _, _ => false
termination_by structural i => i
def ckA (T : Tb) (c : Sc) : IA → List Expr → Bool
  | .nil, [] => true
  | .cons a r, e :: es => ckE T c a e && plainE e && ckA T c r es
  | .io i r, .Name x _ :: es => ckName c i x && ckA T c r es
  | _, _ => false
termination_by structural i => i
/-- what is walked, for a target -/
def ckI (T : Tb) (c : Sc) : II → Expr → Expr → Bool
  | .val a, e, _ => ckE T c a e && plainE e
  | .rng1 a, .Call (.Name x _) [e] [] _, _ => x == ("range" : Str) && freeN T c x && ckE T c a e && plainE e
  | .rng2 a b, .Call (.Name x _) [e, f] [] _, _ => x == ("range" : Str) && freeN T c x && ckE T c a e && ckE T c b f && plainE e && plainE f
  | .enm a st, .Call (.Name x _) [e] [] _, .Tuple .. => x == ("enumerate" : Str) && freeN T c x && st == 0 && ckE T c a e && plainE e
  | .enm a st, .Call (.Name x _) [e, .Constant (.int k) _ _] [] _, .Tuple .. => x == ("enumerate" : Str) && freeN T c x && st == k && decide (0 ≤ k) && decide (k < 1000) && ckE T c a e && plainE e
  | .zipd a b, .Call (.Name x _) [e, f] [] _, .Tuple .. => x == ("zip" : Str) && freeN T c x && ckE T c a e && ckE T c b f && plainE e && plainE f
  | .zip a b, .Call (.Name x _) [e, f] [] _, .Tuple .. => x == ("zip" : Str) && freeN T c x && ckE T c a e && ckE T c b f && plainE e && plainE f
  | _, _, _ => false
termination_by structural i => i
end

def noComp : Expr → Bool
  | .ListComp .. | .SetComp .. | .DictComp .. => false
  | _ => true
/-- as the stores of (a, b, ..) = (x, y, ..) go: none, or from the right -/
def isStar : Expr → Bool
  | .Starred .. => true
  | _ => false
def swN (c : Sc) (ts : List Expr) : List Str := ts.filterMap fun (e : Expr) => match e with
  | Expr.Name id pos => if c.names.lookup id == some NameKind.local && pos.line == (ts.head?.map (fun (e : Expr) => e.pos.line)).getD 0 then some id else none
  | _ => none
def swC (c : Sc) (ts vs : List Expr) : Option (Option (List Str)) :=
  if !(ts.length == 2 || ts.length == 3) || vs.length != ts.length then some none
  else if vs.any isStar then some none
  else if (swN c ts).length != ts.length || (swN c ts).eraseDups.length != (swN c ts).length then some none
  else if vs.all (foldedForSure 8) then some none
  else if vs.all (constantsAlone 8) then none
  else some (some (swN c ts))
/-- [..] assigned to a name on one line -/
def swL (c : Sc) (x : Str) (px : Pos) (scope : Scope) (pos : Pos) : Bool :=
  c.names.lookup x == some .local && px.line == pos.line && !(scope.names.any fun (n, k) => n == x && (k == .local || k == .cell))
def ckNs (c : Sc) : List Nat → List Expr → Bool
  | [], [] => true
  | i :: is, .Name x _ :: es => c.N[i]? == some x && c.sto x && ckNs c is es
  | _, _ => false
mutual
def ckS (T : Tb) (c : Sc) : IS → Stmt → Bool
  | .set i e, .Assign [.Name x px] v pos => c.N[i]? == some x && c.sto x && !odd x && ckE T c e v && (match v with
    | .ListComp _ _ scope p2 => !swL c x px scope p2 || c.names.lookup x == some .local
    | _ => noComp v)
  | .tgt t e, .Assign [tg] v _ => ckT c t tg && ckE T c e v && (match t, tg with
    | .tp _, .Tuple ts _ _ => (match v with
      | .Tuple vs _ _ => swC c ts vs == some none
      | _ => true)
    | _, _ => false)
  | .ptg is as, .Assign [.Tuple ts _ _] (.Tuple vs _ _) _ => ckNs c is ts && ckA T c as vs && swC c ts vs == some none && decide (vs.length ≤ 10000)
  | .par i j a b, .Assign [.Tuple [.Name x px, .Name y py] _ _] (.Tuple [l, r] _ _) _ => c.N[i]? == some x && c.N[j]? == some y && decide (i ≠ j) && c.names.lookup x == some .local && c.names.lookup y == some .local && ckE T c a l && ckE T c b r && plainE l && plainE r &&
      swC c [.Name x px, .Name y py] [l, r] == some (some [x, y])
  | .app i a, .Expr (.Call (.Attribute (.Name x _) m ap) [e] [] cp) _ => ckName c i x && m == ("append" : Str) && ap.endLine == cp.line && ckE T c a e && plainE e
  | .exp a, .Expr e _ => ckE T c a e && noComp e
  | .sti i b a, .Assign [.Subscript (.Name x _) q _] v _ => ckName c i x && ckE T c a v && ckE T c b q && plainE q
  | .aug i o a, .AugAssign (.Name x _) op e _ => (o == .add || o == .sub) && o.ast == op && c.N[i]? == some x && c.sto x && ckE T c a e
  | .if_ a s t, .If e sa sb _ => testOk a && ckE T c a e && ckSs T c s sa && ckSs T c t sb
  | .whl _ a s, .While e sa [] _ => testOk a && ckE T c a e && ckSs T c s sa
  | .for_ t it s, .For tg iter sa [] _ => ckI T c it iter tg && ckT c t tg && plainE iter && ckSs T c s sa
  | .ret a, .Return (some e) _ => ckE T c a e
  | .retn, .Return none _ => true
  | .brk, .Break _ => true
  | .cnt, .Continue _ => true
  | .pass, .Pass _ => true
  | .never, _ => true
  | _, _ => false
termination_by structural i => i
def ckSs (T : Tb) (c : Sc) : IS → List Stmt → Bool
  | .nil, [] => true
  | .seq s t, st :: rest => ckS T c s st && ckSs T c t rest
  | _, _ => false
termination_by structural i => i
end
end TL
set_option Elab.async false
set_option linter.all false
set_option maxRecDepth 100000
set_option maxHeartbeats 2000000
namespace TL
open PySem PySem.Spec PyProof.Rows L2

structure FnG (P : Program) (w : World) (K : PySem.W.Frag) (mg : Str → Option Value) (base : Heap) (k : Nat) (f : Addr) (fd : FuncData) (ps : List Str) (sp : Sp) : Prop where
  len : ∀ vs H Q E, sp vs H Q E → vs.length = ps.length
  go : ∀ (B : Around) (above : List Env) (s0 : Shared) (H0 : Hp) (ar : Args) (us : List Value) (xs : List V) (Q0 : VK) (E0 : XK), Room k B → B.guards = some [] → Env0 P w K mg base B above s0 H0 →
    BindsTo s0 fd ar (ps.zip us) → Vals xs us → sp xs H0 Q0 E0 → codeAny (model P w) B (.call (.ref f) ar) (CR (L2.CX P w) above P w H0 s0 Q0 E0) s0
theorem FnG.mono {P : Program} {w : World} {K : PySem.W.Frag} {mg : Str → Option Value} {base : Heap} {j k : Nat} {f : Addr} {fd : FuncData} {ps : List Str} {sp : Sp} (F : FnG P w K mg base j f fd ps sp) (h : j ≤ k) : FnG P w K mg base k f fd ps sp :=
  ⟨F.len, fun B ab s0 H0 ar us xs Q0 E0 r => F.go B ab s0 H0 ar us xs Q0 E0 (r.mono h)⟩

/-- a def of the text keeps its promise if its body does -/
theorem fnG_of {P : Program} {w : World} {K : PySem.W.Frag} {mg : Str → Option Value} {base : Heap} {k : Nat} {f : Addr} {nm qual : Str} {pm0 : Arguments} {bd : List Stmt} {sc : Scope} {dfv kwv dc pv cd ctv ocl : Value} {ann odi : Option Addr}
    {sl : Array (Option Value)} {N ps : List Str} {sp : Sp} (lk : K.lookup f = some ⟨ocl, odi, .func (PySem.W.fnOf nm qual pm0 bd sc dfv kwv dc pv ann cd ctv), sl⟩) (hcode : PySem.W.codeIn K cd qual = true) (S : FnScope N ps sc)
    (len : ∀ vs H Q E, sp vs H Q E → vs.length = ps.length)
    (hb0 : ∀ (B : Around) (above : List Env) (s0 : Shared) (H0 : Hp) (xs : List V) (Q0 : VK) (E0 : XK), Room k (B.deeper (envOfC qual sc s0.heap.objs.size f cd)) → B.guards = some [] → sp xs H0 Q0 E0 →
      ∃ t, PSs (cxOf (L2.CX P w) P w K mg base N qual sc f cd B above s0 H0 E0) bd t ∧ t { nx := fun _ h => Q0 .non h, rt := Q0 } (start N xs) H0) :
    FnG P w K mg base (k + 1) f (PySem.W.fnOf nm qual pm0 bd sc dfv kwv dc pv ann cd ctv) ps sp := by
  refine ⟨len, fun B above s0 H0 ar us xs Q0 E0 room gds en bi vr pr => ?_⟩
  have ln := len _ _ _ _ pr
  have inK : K.In s0.heap := en.mod.kin.keeps fun b o z => (en.bs b o z).1
  have lims : s0.heap.NoLimit := en.mod.nolimit.keeps fun b o z => (en.bs b o z).1
  have kinds : ∀ y ∈ ps.zip us, sc.names.lookup y.1 = some .local ∨
      (sc.names.lookup y.1 = some .cell ∧ ((cellsFrom (s0.heap.objs.size + 1) sc.names []).lookup y.1).isSome = true) := by
    rintro ⟨n, v⟩ hy
    rcases S.par n (List.of_mem_zip hy).1 with z | z
    · exact .inl z
    · exact .inr ⟨z, PySem.W.cellsFrom_some _ _ _ (.inl z)⟩
  refine codeAny_call_function room.depth (inK _ _ lk) rfl S.co S.gen rfl
    (PySem.W.codeRec_of inK hcode) (bi _ _ _ _ ?_)
  refine wpAny_newFunctionEnv_cells S.kind kinds fun en' hen s' xx => ?_
  subst hen
  refine ⟨lims.keeps xx.toInCall.keep, codeAny_func ?_⟩
  obtain ⟨t, ht, hq⟩ := hb0 B above s0 H0 xs Q0 E0 (room.deeper _) gds pr
  have J : Inv (cxOf (L2.CX P w) P w K mg base N qual sc f cd B above s0 H0 E0) [] (start N xs) H0 s' :=
    inv_start S room.hd en ln vr xx
  refine wpAny_mono (ht.run [] s' (start N xs) H0 _ J hq) (fun fl s2 hs => ?_) fun e s2 hs => hs
  have close : ∀ {σ2 : L2.St} {H2 : Hp} {v : V} {u : Value}, Inv (cxOf (L2.CX P w) P w K mg base N qual sc f cd B above s0 H0 E0) [] σ2 H2 s2 → RelV v u → Q0 v H2 →
      CE above P w H0 s0 Q0 u s2 := fun {σ2 H2 v u} j rv z => ⟨v, H2, j.os, j.bare, j.base, j.hok, rv, z⟩
  match fl, hs with
  | .ret u, hs =>
    obtain ⟨v, σ2, H2, j, rv, z⟩ := hs
    exact close j rv z
  | .next, hs =>
    obtain ⟨σ2, H2, j, z⟩ := hs
    exact close (v := V.non) (u := Value.none) j rfl z
  | .brk, hs =>
    obtain ⟨_, _, _, z⟩ := hs
    exact z.elim
  | .cont, hs =>
    obtain ⟨_, _, _, z⟩ := hs
    exact z.elim

section
variable {X : Cx} {k : Nat} {f : Addr} {fd : FuncData} {ps : List Str} {sp : Sp} {E : L2.St → XK} {x : Str} {p pos : Pos} {e : Expr} {es : List Expr} {t : TA}
theorem runG {pins : List (Addr × Obj)} {σ : L2.St} {H : Hp} {s : Shared} {Q : VK} {us : List Value} {vs : List V} (F : FnG X.prog X.w X.K X.mg X.base k f fd ps sp) (hr : Room k X.A) (hgd : X.A.guards = some []) (hb : Binds X.K fd ps [])
    (hx : PassesAt (L2.CX X.prog X.w) X σ (E σ)) (I : Inv X pins σ H s) (r : Vals vs us) (h : sp vs H Q (E σ)) : wpAny (model X.prog X.w) X.A (call (.ref f) us) (EP X pins σ Q) X.xe s := by
  have ln : us.length = ps.length := r.length.symm.trans (F.len _ _ _ _ h)
  have bt : BindsTo s fd ⟨us, []⟩ (ps.zip us) := by
    have z := hb s us I.kIn (by simpa using ln)
    simpa using z
  refine wpAny_call (codeAny_mono (F.go X.A X.stack s H ⟨us, []⟩ us vs Q (E σ) hr hgd I.env0 bt r h) fun w s2 hq => ?_)
  match w, hq with
  | .error e, hq => exact hx pins H s e s2 I hq
  | .ok (.ret u), hq => exact I.after hq
  | .ok .next, hq => exact False.elim hq
  | .ok .brk, hq => exact False.elim hq
  | .ok .cont, hq => exact False.elim hq
theorem pe_callG (F : FnG X.prog X.w X.K X.mg X.base k f fd ps sp) (hr : Room k X.A) (hgd : X.A.guards = some []) (hg : Gl X x) (hm : X.mg x = some (.ref f)) (hk : PySem.W.keepIn X.K (.ref f) = true) (hb : Binds X.K fd ps [])
    (hx : ∀ σ, PassesAt (L2.CX X.prog X.w) X σ (E σ)) (ha : PA X (e :: es) t) (hdb : (x == ("__debug__" : Str)) = false)
    (he : starEach (e :: es) X.env = (false, eval e X.env) :: starEach es X.env) (hpl : (backTo pos (starEach es X.env)).any (·.1) = false) : PE X (.Call (.Name x p) (e :: es) [] pos) (tCallS sp E t) :=
  ⟨fun pins s σ H Q I h => wpAny_Call_Name_kw (ld_glob I hg hm (PySem.W.callWith_K (h₀ := X.base) I.ok.mod.kin hk (thn (ha.run pos pins s σ H _ I h)
    fun us s1 ⟨vs, H1, I1, r, q⟩ => ⟨I1.kIn, runG F hr hgd hb (hx σ) I1 r q⟩) he hpl) hdb)⟩
end

/-- the law's call behind the top -/
theorem lawG {P : Program} {w : World} {K : PySem.W.Frag} {mg mb : Str → Option Value} {k : Nat} {fa a : Addr} {fd : FuncData} {x : Str} {sp : Sp} {s1 : Shared} {vs : List Value} {ns : List Int}
    (inK : K.In s1.heap) (gl : s1.heap.Ns mainGlobals mg) (bl : s1.heap.Ns builtinsNs mb) (bb : ∀ x : Str, x ≠ "__name__" → mb x = bootBuiltins x) (lim : s1.heap.NoLimit) (sm : SmB s1.heap) (gn : s1.gens = #[])
    (ha : s1.heap.get? a = some { cls := .type "list", data := .seq vs.toArray }) (hi : IntsAre vs ns) (hl : ns.length ≤ sizeLine) (room : Room k callerA)
    (F : ∀ base : Heap, K.In base → base.Ns mainGlobals mg → SmB base → FnG P w K mg base k fa fd [x] sp) (bind : ∀ (s : Shared) (u : Value), BindsTo s fd ⟨[u], []⟩ [(x, u)])
    (hsp : ∀ H : Hp, Only H → LL K H a (ns.map V.int) → sp [.ref a] H (fun v _ => v = .bl true) fun _ _ _ => False) :
    codeAny (model P w) callerA (.call (.ref fa) ⟨[.ref a], []⟩) (fun r s' => r = .ok (.ret (.bool true)) ∧ OldK s1.heap s'.heap ∧ s'.os = s1.os ∧ AllBare s'.gens) s1 := by
  have vr := vals_ints hi
  have vl := hi.length
  have main : ∀ H : Hp, Only H → LL K H a (ns.map V.int) → HOk P w H s1.heap → (∀ b, H b ≠ none → b = a) → (H a ≠ none → K.lookup a = none) →
      codeAny (model P w) callerA (.call (.ref fa) ⟨[.ref a], []⟩) (fun r s' => r = .ok (.ret (.bool true)) ∧ OldK s1.heap s'.heap ∧ s'.os = s1.os ∧ AllBare s'.gens) s1 := by
    intro H only sq hok atA noK
    have notA : ∀ {b : Addr} {o : Obj} {es : Array DictEntry} {ep : Nat}, s1.heap.get? b = some o → o.data = .dict es ep → H b = none := by
      intro b o es ep e d
      cases z : H b with
      | none => rfl
      | some u =>
        obtain rfl : b = a := atA b (by rw [z]; simp)
        rw [ha] at e
        cases e
        exact nomatch (show Data.seq vs.toArray _ = Data.dict es ep from d)
    have ns' : ∀ {b : Addr} {m : Str → Option Value}, s1.heap.Ns b m → (hidT s1.heap H).Ns b m := fun {b m} ⟨o, es, ep, e, d, r⟩ => ⟨o, es, ep, hidT_get e (notA e d), d, r⟩
    have inB : K.In (hidT s1.heap H) := by
      intro b o e
      refine hidT_get (inK b o e) ?_
      cases z : H b with
      | none => rfl
      | some u =>
        obtain rfl : b = a := atA b (by rw [z]; simp)
        rw [noK (by rw [z]; simp)] at e
        cases e
    have en : Env0 P w K mg (hidT s1.heap H) callerA [] s1 H :=
      ⟨rfl, ⟨inB, ns' gl, ⟨mb, ns' bl, bb⟩, let ⟨mc, l1, l2⟩ := lim; ⟨mc, ns' l1, l2⟩⟩, fun b o e => of_hidT e, Nat.le_of_eq (hidT_size _ _), trivial, fun b hb => (List.not_mem_nil (show b ∈ ([] : List Addr) from hb)).elim, hok, .of_eq gn⟩
    refine codeAny_mono ((F _ inB (ns' gl) (let ⟨mm, q⟩ := sm; ⟨mm, ns' q⟩)).go callerA [] s1 H ⟨[.ref a], []⟩ [.ref a] [.ref a] _ _ room rfl en (bind s1 (.ref a)) (.cons rfl .nil) (hsp H only sq)) fun r s2 h => ?_
    match r, h with
    | .error e, h =>
      obtain ⟨_, _, _, _, _, _, _, _, _, _, _, _, z⟩ := h
      exact z.elim
    | .ok .next, h => exact False.elim h
    | .ok .brk, h => exact False.elim h
    | .ok .cont, h => exact False.elim h
    | .ok (.ret u), h =>
      obtain ⟨v, H2, os, bare, un, hok2, rv, hv⟩ := h
      obtain rfl : v = .bl true := hv
      obtain rfl : u = Value.bool true := rv
      refine ⟨rfl, OldK.of_keep fun b o e => ?_, os, bare⟩
      cases z : H b with
      | none => exact un.keep b o e z (fun y => (List.not_mem_nil (show b ∈ ([] : List Addr) from y)).elim) (by simp)
      | some u =>
        rcases only b with y | ⟨ob, xs, y⟩
        · rw [z] at y
          cases y
        · obtain ⟨e1, _⟩ := hok b _ y
          obtain ⟨e2, _⟩ := hok2 b _ (un.frzs b ob _ y)
          rw [e] at e1
          cases e1
          exact e2
  cases lk : K.lookup a with
  | some o =>
    have e := inK a o lk
    rw [ha] at e
    cases e
    refine main (fun _ => none) (fun _ => .inl rfl) (.inr ⟨vs, _, lk, by rw [vl]; exact hl, vr⟩) (fun b u z => ?_) (fun b z => absurd rfl z) fun z => absurd rfl z
    exact nomatch (show (none : Option HO) = some u from z)
  | none =>
    refine main (fun b => if b = a then some (.frz { cls := .type "list", data := .seq vs.toArray } (.lst (ns.map V.int))) else none) (fun b => ?_) (.inl (.inr ⟨{ cls := .type "list", data := .seq vs.toArray }, if_pos rfl⟩)) (fun b u z => ?_) (fun b z => ?_) fun _ => lk
    · by_cases hb : b = a
      · exact .inr ⟨_, _, if_pos hb⟩
      · exact .inl (if_neg hb)
    · by_cases hb : b = a
      · subst hb
        cases (if_pos rfl).symm.trans z
        exact ⟨ha, by rw [List.length_map]; exact hl, vs, _, vr, ha⟩
      · cases (if_neg hb).symm.trans z
    · exact Decidable.byContradiction fun hb => z (if_neg hb)

theorem walkG {l : PySem.W.OpenLaw} {n k : Nat} {q : Program} {loose : List Str} {XP : (Str → Option Value) → Heap → Prop} {YP : World → Heap → Prop} {d : DefRec} {x : Str}
    (imp : PyProof.Rows.importsNone q = true) (hn : l.most = some n) (hn2 : n ≤ sizeLine) (hdf : d.params.defaults = []) (room : Room k callerA)
    (F : ∀ (w : World) (mg : Str → Option Value) (fa : Addr) (h : Heap), YP w h → h.Ns mainGlobals mg → mg d.name = some (.ref fa) →
      ∃ (K : PySem.W.Frag) (fd : FuncData) (sp : Sp), K.In h ∧ (∀ (s : Shared) (u : Value), BindsTo s fd ⟨[u], []⟩ [(x, u)]) ∧
        (∀ (H : Hp) (a : Addr) (ns : List Int), ns.length ≤ n → Only H → LL K H a (ns.map V.int) → sp [.ref a] H (fun v _ => v = .bl true) fun _ _ _ => False) ∧
        ∀ base : Heap, K.In base → base.Ns mainGlobals mg → SmB base → FnG l.prog w K mg base k fa fd [x] sp) :
    PySem.W.WalkO q loose XP YP l.row.toRowW d [] (fun f vs => PySem.call f vs) := by
  refine Att.attach_call hn hdf fun w s0 s1 mg mb fa o pm cd doc a vs ns G Y ho hd hcd hmg hobj hints hlen hgen => ?_
  obtain ⟨K, fd, sp, inK, bind, hsp, hF⟩ := F w mg fa _ Y G.T.g hmg
  exact lawG inK G.T.g G.T.b G.T.builtins G.T.nolimit (let ⟨mm, q, _⟩ := (G.T.seer imp).mods; ⟨mm, q⟩) hgen hobj hints (Nat.le_trans hlen hn2) room hF bind fun H only sq => hsp H a ns hlen only sq
end TL
set_option Elab.async false
set_option linter.all false
set_option maxRecDepth 100000
set_option maxHeartbeats 2000000
namespace TL
open PySem PySem.Spec L2

/-- a text: its names, its constants, its calls, the room, how its exceptions stand -/
structure Sg where
  T : Tb
  G : List Pd
  C : Calls
  lv : Nat
  rx : Ex → Value → Option Addr → Hp → Prop

/-- a call's promise -/
def spC (K : PySem.W.Frag) (rx : Ex → Value → Option Addr → Hp → Prop) (C : Calls) (f : Nat) : Sp := fun vs H Q E => ∃ as Z F, vs.length = as.length ∧ Rel K (as.map some) (vs.map some) H Z F ∧ match C f as with
  | .no => False
  | .ok v outs => ∀ x H' Z' F', Rel K outs (vs.map some) H' Z' F' → GS H Z F H' Z' F' → RR K H F Z' H' F' x v → Q x H'
  | .ex e outs => ∀ c d H' Z' F', Rel K outs (vs.map some) H' Z' F' → GS H Z F H' Z' F' → rx e c d H' → E c d H'

structure Fx (S : Sg) (P : Program) (w : World) (K : PySem.W.Frag) (mg : Str → Option Value) (base : Heap) : Prop where
  sm : SmB base
  free : ∀ x, x ∈ S.T.free → mg x = none
  gl : ∀ (k : Nat) (x : Str), S.T.gn[k]? = some x → ∃ (u : Value) (v : V) (d : Pd), mg x = some u ∧ RelV v u ∧ S.G[k]? = some d ∧ ∀ Z H, RF K Z H v d
  fns : ∀ (f : Nat) (x : Str), S.T.fns[f]? = some x → ∃ (fa : Addr) (fd : FuncData) (ps : List Str), mg x = some (.ref fa) ∧ PySem.W.keepIn K (.ref fa) = true ∧ Binds K fd ps [] ∧ FnG P w K mg base S.lv fa fd ps (spC K S.rx S.C f)

structure Gd (S : Sg) (X : Cx) (c : Sc) (W : WX) : Prop where
  fx : Fx S X.prog X.w X.K X.mg X.base
  N : X.N = c.N
  nd : X.N.Nodup
  names : X.env.scope.names = c.names
  fn : ∀ x, X.fn x = c.fn x
  kind : X.env.scope.kind = .function
  calm : X.calm = true
  room : Room S.lv X.A
  gds : X.A.guards = some []
  tk : Takes X W
  pass : PassesOwn (model X.prog X.w) X.A X.env X.xe

/-- what an expression's evaluation lets out -/
def Out {α : Type} (S : Sg) (K : PySem.W.Frag) (W : WX) (io : List Nat) (σ : L2.St) (H : Hp) (Z : Zs) (F : Fp) (r : Re α) (P : α → Ev → Prop) : Prop :=
  match r with
  | .no => False
  | .ex e ρ => ∀ c d H' Z' F', Rel K ρ σ H' Z' F' → Gr io H Z F H' Z' F' → S.rx e c d H' → W c d σ H'
  | .ok v ρ => P v ρ
def tE (S : Sg) (K : PySem.W.Frag) (W : WX) (i : IE) : TE := fun σ H Q => ∃ ρ Z F, Rel K ρ σ H Z F ∧ Out S K W (ioE i) σ H Z F (evalE S.G S.C i ρ) fun v ρ' =>
  ∀ x H' Z' F', Rel K ρ' σ H' Z' F' → Gr (ioE i) H Z F H' Z' F' → RV K H F Z' H' F' x v → Q x H'
def tT (S : Sg) (K : PySem.W.Frag) (W : WX) (i : IE) : TT := fun σ H Q => ∃ ρ Z F, Rel K ρ σ H Z F ∧ Out S K W (ioE i) σ H Z F (evalE S.G S.C i ρ) fun v ρ' =>
  ∃ b, v.view = some (.bool b) ∧ ∀ H' Z' F', Rel K ρ' σ H' Z' F' → Gr (ioE i) H Z F H' Z' F' → Q b H'
/-- arguments kept for good -/
def tD (S : Sg) (K : PySem.W.Frag) (W : WX) (as : IA) : TA := fun σ H Q => ∃ ρ Z F, Rel K ρ σ H Z F ∧ Out S K W (ioA as) σ H Z F (evalD S.G S.C as ρ) fun ds ρ' =>
  ∀ xs H' Z' F', Rel K ρ' σ H' Z' F' → Gr (ioA as) H Z F H' Z' F' → RFs K Z' H' xs ds → Q xs H'
/-- arguments looked at -/
def tP (S : Sg) (K : PySem.W.Frag) (W : WX) (as : IA) : TA := fun σ H Q => ∃ ρ Z F, Rel K ρ σ H Z F ∧ Out S K W (ioA as) σ H Z F (evalP S.G S.C as ρ) fun ds ρ' =>
  ∀ xs H' Z' F', Rel K ρ' σ H' Z' F' → Gr (ioA as) H Z F H' Z' F' → RIs K Z' H' xs ds → Q xs H'

section
variable {S : Sg} {K : PySem.W.Frag} {W : WX} {σ : L2.St} {H H1 : Hp} {Z Z1 : Zs} {F F1 : Fp} {io io' : List Nat}
theorem Out.imp {α : Type} {r : Re α} {P P' : α → Ev → Prop} (h : Out S K W io σ H Z F r P) (f : ∀ v ρ, P v ρ → P' v ρ) : Out S K W io σ H Z F r P' := by
  cases r with
  | ok v ρ => exact f v ρ h
  | ex e ρ => exact h
  | no => exact h
/-- the first of two: what follows is told by the rest -/
theorem Out.first {α β : Type} {r : Re α} {f : α → Ev → Re β} {P : β → Ev → Prop} (h : Out S K W (io ++ io') σ H Z F (r.bind f) P) :
    Out S K W io σ H Z F r fun v ρ => Out S K W (io ++ io') σ H Z F (f v ρ) P := by
  cases r with
  | ok v ρ => exact h
  | ex e ρ => exact fun c d H' Z' F' R g x => h c d H' Z' F' R (g.weak fun i hi => List.mem_append_left _ hi) x
  | no => exact h
theorem Out.one {α β : Type} {r : Re α} {f : α → Ev → Re β} {P : β → Ev → Prop} (h : Out S K W io σ H Z F (r.bind f) P) :
    Out S K W io σ H Z F r fun v ρ => Out S K W io σ H Z F (f v ρ) P := by
  cases r with
  | ok v ρ => exact h
  | ex e ρ => exact h
  | no => exact h
/-- a later one, told from its own start -/
theorem Out.later {α : Type} {r : Re α} {P : α → Ev → Prop} (g : Gr io H Z F H1 Z1 F1) (h : Out S K W (io ++ io') σ H Z F r P) : Out S K W io' σ H1 Z1 F1 r P := by
  cases r with
  | ok v ρ => exact h
  | ex e ρ => exact fun c d H' Z' F' R g' x => h c d H' Z' F' R (g.trans g') x
  | no => exact h
theorem Out.weak {α : Type} {r : Re α} {P : α → Ev → Prop} (h : Out S K W io' σ H Z F r P) (w : ∀ i ∈ io, i ∈ io') : Out S K W io σ H Z F r P := by
  cases r with
  | ok v ρ => exact h
  | ex e ρ => exact fun c d H' Z' F' R g x => h c d H' Z' F' R (g.weak w) x
  | no => exact h
theorem Out.nil {α : Type} {r : Re α} {P : α → Ev → Prop} (h : Out S K W (io ++ []) σ H Z F r P) : Out S K W io σ H Z F r P := h.weak fun i hi => by simpa using hi
end

theorem PE.imp {X : Cx} {e : Expr} {t t' : TE} (h : PE X e t) (f : ∀ σ H Q, t' σ H Q → t σ H Q) : PE X e t' := ⟨fun pins s σ H Q I q => h.run pins s σ H Q I (f σ H Q q)⟩
theorem PT.imp {X : Cx} {e : Expr} {t t' : TT} (h : PT X e t) (f : ∀ σ H Q, t' σ H Q → t σ H Q) : PT X e t' := ⟨fun pins s σ H Q I q => h.run pins s σ H Q I (f σ H Q q)⟩
theorem PW.imp {X : Cx} {e : Expr} {t t' : TT} (h : PW X e t) (f : ∀ σ H Q, t' σ H Q → t σ H Q) : PW X e t' := ⟨fun wh pins s σ H Q I q => h.run wh pins s σ H Q I (f σ H Q q)⟩
theorem PA.imp {X : Cx} {e : List Expr} {t t' : TA} (h : PA X e t) (f : ∀ σ H Q, t' σ H Q → t σ H Q) : PA X e t' := ⟨fun pos pins s σ H Q I q => h.run pos pins s σ H Q I (f σ H Q q)⟩

/-- a value told from an earlier start -/
theorem RV.back {K : PySem.W.Frag} {H0 H1 H : Hp} {Z0 Z1 Z : Zs} {F0 F1 F : Fp} {io : List Nat} {x : V} {v : Vl} (h : RV K H1 F1 Z H F x v) (g : Gr io H0 Z0 F0 H1 Z1 F1) : RV K H0 F0 Z H F x v := by
  cases v with
  | d p => exact h
  | pk o i => exact h
  | fr o =>
    obtain ⟨L, h1, h2⟩ := h
    refine ⟨L, h1, fun a ha => ⟨(h2 a ha).1, (h2 a ha).2.1, ?_⟩⟩
    rcases (h2 a ha).2.2 with n | ⟨j, n⟩
    · exact .inl (g.am a n)
    · exact g.fn' n
section
variable {S : Sg} {X : Cx} {c : Sc} {W : WX} {a b d : IE} {l r q : Expr} {pos : Pos}
theorem odd_of {x : Str} (h : odd x = false) : (x == ("__debug__" : Str)) = false ∧ (x == ("__classdict__" : Str)) = false ∧ (x == ("__name__" : Str)) = false := by
  unfold odd at h
  simp only [Bool.or_eq_false_iff] at h
  exact ⟨h.1.1, h.1.2, h.2⟩
theorem Gd.vis (g : Gd S X c W) {x : Str} (h : c.vis x = true) : Vis X.env.scope x := by
  unfold Sc.vis at h
  unfold Vis
  rw [g.names]
  split at h
  · exact .inl (by assumption)
  · exact .inr (.inl (by assumption))
  · exact .inr (.inr (by assumption))
  · cases h
theorem Gd.glo (g : Gd S X c W) {x : Str} (h : c.glo x = true) : Gl X x := by
  unfold Gl Env.kindOf
  rw [g.names]
  exact eq_of_beq h

/-- a name in slot i -/
theorem e_var (g : Gd S X c W) {i : Nat} {x : Str} (h : ckName c i x = true) : PE X (.Name x pos) (tE S X.K W (.var i)) := by
  unfold ckName at h
  simp only [Bool.and_eq_true, Bool.not_eq_true'] at h
  obtain ⟨⟨h1, h2⟩, h3⟩ := h
  obtain ⟨o1, o2, _⟩ := odd_of h3
  refine PE.imp (pe_var (i := i) (by rw [g.N]; exact eq_of_beq h1) (g.vis h2) o1 o2) fun σ H Q ⟨ρ, Z, F, R, h⟩ => ?_
  unfold evalE at h
  split at h
  · rename_i y e
    obtain ⟨v, hv, ro⟩ := R.rep i _ e
    refine ⟨v, hv, h v H Z F R Gr.refl ?_⟩
    generalize F i = L at ro
    cases ro with
    | dat hr => exact hr
  · rename_i o hn e
    obtain ⟨v, hv, ro⟩ := R.rep i _ e
    exact ⟨v, hv, h v H Z F R Gr.refl ⟨_, ro, fun a ha => ha⟩⟩
  · exact h.elim
theorem e_const {v : V} {x : Pd} (hp : PE X l (tC v)) (hv : ∀ Z H, RF X.K Z H v x) : PE X l (tE S X.K W (.cst x)) :=
  PE.imp hp fun σ H Q ⟨ρ, Z, F, R, h⟩ => h v H Z F R Gr.refl (hv Z H)
theorem e_cst {k : Const} {j : Nat} {x y : Pd} (e : cstD k = some y) (h : sameD x y = true) : PE X (.Constant k j pos) (tE S X.K W (.cst x)) := by
  have exy : x = y := by
    unfold sameD at h
    split at h <;> first | rfl | (rw [eq_of_beq h]) | cases h
  subst exy
  cases k with
  | none => cases e; exact e_const pe_non fun _ _ => .non
  | bool b => cases e; exact e_const pe_bl fun _ _ => .bl b
  | int i => cases e; exact e_const pe_int fun _ _ => .int i
  | str s => cases e; exact e_const pe_str fun _ _ => .str s
  | _ => cases e
theorem e_glb (g : Gd S X c W) {k : Nat} {x : Str} (h1 : S.T.gn[k]? = some x) (h2 : c.glo x = true) (h3 : odd x = false) : PE X (.Name x pos) (tE S X.K W (.glb k)) := by
  obtain ⟨u, v, y, m, rv, e, rf⟩ := g.fx.gl k x h1
  refine PE.imp (pe_glob (g.glo h2) m rv (odd_of h3).1) fun σ H Q ⟨ρ, Z, F, R, h⟩ => ?_
  unfold evalE at h
  rw [e] at h
  exact h v H Z F R Gr.refl (rf Z H)

theorem e_neg (ha : PE X l (tE S X.K W a)) : PE X (.UnaryOp .USub l pos) (tE S X.K W (.neg a)) := by
  refine PE.imp (pe_un un_neg ha) fun σ H Q ⟨ρ, Z, F, R, h⟩ => ?_
  unfold evalE at h
  refine ⟨ρ, Z, F, R, (Out.one h).imp fun v ρ1 h x H1 Z1 F1 R1 g1 v1 => ?_⟩
  split at h
  · rename_i i e
    have ex := (v1.now e).int
    subst ex
    exact ⟨i, rfl, h _ _ _ _ R1 g1 (.int _)⟩
  · exact h.elim
theorem e_not (ha : PE X l (tE S X.K W a)) : PE X (.UnaryOp .Not l pos) (tE S X.K W (.not_ a)) := by
  refine PE.imp (pe_not ha) fun σ H Q ⟨ρ, Z, F, R, h⟩ => ?_
  unfold evalE at h
  refine ⟨ρ, Z, F, R, (Out.one h).imp fun v ρ1 h x H1 Z1 F1 R1 g1 v1 => ?_⟩
  split at h
  · rename_i i e
    have ex := (v1.now e).bool
    subst ex
    exact ⟨i, rfl, h _ _ _ _ R1 g1 (.bl _)⟩
  · exact h.elim
theorem bop_plain {o : BO} {p q : Pd} {u : Vl} (e : bop o p q = some u) : u.plain = true := by
  unfold bop at e
  split at e <;> (try split at e) <;> cases e <;> rfl
theorem e_bin {o : BO} (ha : PE X l (tE S X.K W a)) (hb : PE X r (tE S X.K W b)) : PE X (.BinOp l o.ast r pos) (tE S X.K W (.bin o a b)) := by
  refine PE.imp (pe_op (op_bin o) ha hb) fun σ H Q ⟨ρ, Z, F, R, h⟩ => ?_
  unfold evalE at h
  refine ⟨ρ, Z, F, R, (Out.first (io' := ioE b) h).imp fun v ρ1 h x H1 Z1 F1 R1 g1 v1 => ?_⟩
  refine ⟨ρ1, Z1, F1, R1, (Out.one (Out.later g1 h)).imp fun w ρ2 h y H2 Z2 F2 R2 g2 v2 => ?_⟩
  split at h
  · rename_i p q e1 e2
    cases e : bop o p q with
    | none =>
      rw [e] at h
      exact h.elim
    | some u =>
      rw [e] at h
      exact ⟨Z2, p, q, u, v1.later R1 g2 e1, v2.now e2, e, Gv.of (bop_plain e) R2 (g1.trans g2) h⟩
  · exact h.elim
theorem e_cmp (hu : X.A.units + 65 < cLine) {o : CO} (ha : PE X l (tE S X.K W a)) (hb : PE X r (tE S X.K W b)) (hm : behindInMarks o.ast r = false) : PE X (.Compare l [o.ast] [r] pos) (tE S X.K W (.cmp o a b)) := by
  refine PE.imp (pe_cmpR (op_cmp hu o) ha hb hm) fun σ H Q ⟨ρ, Z, F, R, h⟩ => ?_
  unfold evalE at h
  refine ⟨ρ, Z, F, R, (Out.first (io' := ioE b) h).imp fun v ρ1 h x H1 Z1 F1 R1 g1 v1 => ?_⟩
  refine ⟨ρ1, Z1, F1, R1, (Out.one (Out.later g1 h)).imp fun w ρ2 h y H2 Z2 F2 R2 g2 v2 => ?_⟩
  split at h
  · rename_i p q e1 e2
    cases e : cop2 o p q with
    | none =>
      rw [e] at h
      exact h.elim
    | some k =>
      rw [e] at h
      exact ⟨Z2, p, q, k, v1.later R1 g2 e1, v2.now e2, e, h _ _ _ _ R2 (g1.trans g2) (.bl _)⟩
  · exact h.elim
theorem t_cmp (hu : X.A.units + 65 < cLine) {o : CO} (ha : PE X l (tE S X.K W a)) (hb : PE X r (tE S X.K W b)) (hm : behindInMarks o.ast r = false) : PT X (.Compare l [o.ast] [r] pos) (tT S X.K W (.cmp o a b)) := by
  refine PT.imp (pt_cmpR (op_cmp hu o) ha hb hm) fun σ H Q ⟨ρ, Z, F, R, h⟩ => ?_
  unfold evalE at h
  refine ⟨ρ, Z, F, R, (Out.first (io' := ioE b) h).imp fun v ρ1 h x H1 Z1 F1 R1 g1 v1 => ?_⟩
  refine ⟨ρ1, Z1, F1, R1, (Out.one (Out.later g1 h)).imp fun w ρ2 h y H2 Z2 F2 R2 g2 v2 => ?_⟩
  split at h
  · rename_i p q e1 e2
    cases e : cop2 o p q with
    | none =>
      rw [e] at h
      exact h.elim
    | some k =>
      rw [e] at h
      obtain ⟨k', e3, h⟩ := h
      cases e3
      exact ⟨Z2, p, q, _, v1.later R1 g2 e1, v2.now e2, e, _, rfl, h _ _ _ R2 (g1.trans g2)⟩
  · exact h.elim

theorem e_chn (hu : X.A.units + 65 < cLine) {o o' : CO} (ha : PE X l (tE S X.K W a)) (hb : PE X r (tE S X.K W b)) (hd : PE X q (tE S X.K W d)) (hm : lastMarks [o.ast, o'.ast] [r, q] = false) :
    PE X (.Compare l [o.ast, o'.ast] [r, q] pos) (tE S X.K W (.chn o o' a b d)) := by
  refine PE.imp (pe_chain (op_cmp hu o) (op_cmp hu o') ha hb hd hm) fun σ H Q ⟨ρ, Z, F, R, h⟩ => ?_
  unfold evalE at h
  refine ⟨ρ, Z, F, R, (Out.first (io' := ioE b ++ ioE d) h).imp fun v ρ1 h x H1 Z1 F1 R1 g1 v1 => ?_⟩
  refine ⟨ρ1, Z1, F1, R1, (Out.first (Out.later g1 h)).imp fun w ρ2 h y H2 Z2 F2 R2 g2 v2 => ?_⟩
  split at h
  · rename_i p q e1 e2
    split at h
    · rename_i e
      refine ⟨Z2, p, q, true, v1.later R1 g2 e1, v2.now e2, e, true, rfl, ?_⟩
      rw [if_pos rfl]
      refine ⟨ρ2, Z2, F2, R2, (Out.one (Out.later g2 h)).imp fun u ρ3 h z H3 Z3 F3 R3 g3 v3 => ?_⟩
      split at h
      · rename_i y' z' e3 e4
        cases e5 : cop2 o' y' z' with
        | none =>
          rw [e5] at h
          exact h.elim
        | some k =>
          rw [e5] at h
          exact ⟨Z3, y', z', k, v2.later R2 g3 e3, v3.now e4, e5, h _ _ _ _ R3 (g1.trans (g2.trans g3)) (.bl _)⟩
      · exact h.elim
    · rename_i e
      refine ⟨Z2, p, q, false, v1.later R1 g2 e1, v2.now e2, e, false, rfl, ?_⟩
      rw [if_neg Bool.false_ne_true]
      exact h _ _ _ _ R2 ((g1.trans (g2.trans (Gr.refl (io := ioE d))))) (.bl _)
    · exact h.elim
  · exact h.elim
/-- a test whose value is told, from the value -/
theorem t_val (ha : PE X l (tE S X.K W a)) (he : ∀ whole, isTrue l X.env whole = (do let v ← whole; standAt l.pos; holding [v] (truthy v))) : PT X l (tT S X.K W a) := by
  refine PT.imp (pt_val ha he) fun σ H Q ⟨ρ, Z, F, R, h⟩ => ⟨ρ, Z, F, R, h.imp fun v ρ1 h x H1 Z1 F1 R1 g1 v1 => ?_⟩
  obtain ⟨b, e, h⟩ := h
  have ex := (v1.now e).bool
  subst ex
  exact ⟨b, rfl, h _ _ _ R1 g1⟩
theorem t_chn (hu : X.A.units + 65 < cLine) {o o' : CO} (ha : PE X l (tE S X.K W a)) (hb : PE X r (tE S X.K W b)) (hd : PE X q (tE S X.K W d)) (hm : lastMarks [o.ast, o'.ast] [r, q] = false) :
    PT X (.Compare l [o.ast, o'.ast] [r, q] pos) (tT S X.K W (.chn o o' a b d)) := by
  refine PT.imp (pt_chain (op_cmp hu o) (op_cmp hu o') ha hb hd hm) fun σ H Q ⟨ρ, Z, F, R, h⟩ => ?_
  unfold evalE at h
  refine ⟨ρ, Z, F, R, (Out.first (io' := ioE b ++ ioE d) h).imp fun v ρ1 h x H1 Z1 F1 R1 g1 v1 => ?_⟩
  refine ⟨ρ1, Z1, F1, R1, (Out.first (Out.later g1 h)).imp fun w ρ2 h y H2 Z2 F2 R2 g2 v2 => ?_⟩
  split at h
  · rename_i p q e1 e2
    split at h
    · rename_i e
      refine ⟨Z2, p, q, true, v1.later R1 g2 e1, v2.now e2, e, true, rfl, ?_⟩
      rw [if_pos rfl]
      refine ⟨ρ2, Z2, F2, R2, (Out.one (Out.later g2 h)).imp fun u ρ3 h z H3 Z3 F3 R3 g3 v3 => ?_⟩
      split at h
      · rename_i y' z' e3 e4
        cases e5 : cop2 o' y' z' with
        | none =>
          rw [e5] at h
          exact h.elim
        | some k =>
          rw [e5] at h
          obtain ⟨k', e6, h⟩ := h
          cases e6
          exact ⟨Z3, y', z', _, v2.later R2 g3 e3, v3.now e4, e5, _, rfl, h _ _ _ R3 (g1.trans (g2.trans g3))⟩
      · exact h.elim
    · rename_i e
      refine ⟨Z2, p, q, false, v1.later R1 g2 e1, v2.now e2, e, false, rfl, ?_⟩
      rw [if_neg Bool.false_ne_true]
      obtain ⟨k', e6, h⟩ := h
      cases e6
      exact ⟨false, rfl, h _ _ _ R2 ((g1.trans (g2.trans (Gr.refl (io := ioE d)))))⟩
    · exact h.elim
  · exact h.elim
theorem e_and {rest : List Expr} (ha : PE X l (tE S X.K W a)) (hb : PE X (.BoolOp .And (r :: rest) pos) (tE S X.K W b)) : PE X (.BoolOp .And (l :: r :: rest) pos) (tE S X.K W (.and_ a b)) := by
  refine PE.imp (pe_and ha hb) fun σ H Q ⟨ρ, Z, F, R, h⟩ => ?_
  unfold evalE at h
  refine ⟨ρ, Z, F, R, (Out.first (io' := ioE b) h).imp fun v ρ1 h x H1 Z1 F1 R1 g1 v1 => ?_⟩
  split at h
  · rename_i e
    refine ⟨true, (v1.now e).bool, ?_⟩
    rw [if_pos rfl]
    exact ⟨ρ1, Z1, F1, R1, (Out.later g1 h).imp fun w ρ2 h y H2 Z2 F2 R2 g2 v2 => h y H2 Z2 F2 R2 (g1.trans g2) (v2.back g1)⟩
  · rename_i e
    refine ⟨false, (v1.now e).bool, ?_⟩
    rw [if_neg Bool.false_ne_true]
    exact h _ _ _ _ R1 (g1.trans Gr.refl) (.bl _)
  · exact h.elim
theorem e_or {rest : List Expr} (ha : PE X l (tE S X.K W a)) (hb : PE X (.BoolOp .Or (r :: rest) pos) (tE S X.K W b)) : PE X (.BoolOp .Or (l :: r :: rest) pos) (tE S X.K W (.or_ a b)) := by
  refine PE.imp (pe_or ha hb) fun σ H Q ⟨ρ, Z, F, R, h⟩ => ?_
  unfold evalE at h
  refine ⟨ρ, Z, F, R, (Out.first (io' := ioE b) h).imp fun v ρ1 h x H1 Z1 F1 R1 g1 v1 => ?_⟩
  split at h
  · rename_i e
    refine ⟨true, (v1.now e).bool, ?_⟩
    rw [if_pos rfl]
    exact h _ _ _ _ R1 (g1.trans Gr.refl) (.bl _)
  · rename_i e
    refine ⟨false, (v1.now e).bool, ?_⟩
    rw [if_neg Bool.false_ne_true]
    exact ⟨ρ1, Z1, F1, R1, (Out.later g1 h).imp fun w ρ2 h y H2 Z2 F2 R2 g2 v2 => h y H2 Z2 F2 R2 (g1.trans g2) (v2.back g1)⟩
  · exact h.elim
theorem w_and {rest : List Expr} (ha : PT X l (tT S X.K W a)) (hb : PW X (.BoolOp .And (r :: rest) pos) (tT S X.K W b)) : PW X (.BoolOp .And (l :: r :: rest) pos) (tT S X.K W (.and_ a b)) := by
  refine PW.imp (pw_and ha hb) fun σ H Q ⟨ρ, Z, F, R, h⟩ => ?_
  unfold evalE at h
  refine ⟨ρ, Z, F, R, (Out.first (io' := ioE b) h).imp fun v ρ1 h => ?_⟩
  split at h
  · rename_i e
    refine ⟨true, e, fun H1 Z1 F1 R1 g1 => ?_⟩
    dsimp only
    rw [if_pos rfl]
    exact ⟨ρ1, Z1, F1, R1, (Out.later g1 h).imp fun w ρ2 ⟨k, e2, h⟩ => ⟨k, e2, fun H2 Z2 F2 R2 g2 => h H2 Z2 F2 R2 (g1.trans g2)⟩⟩
  · rename_i e
    obtain ⟨k, e2, h⟩ := h
    cases e2
    refine ⟨false, e, fun H1 Z1 F1 R1 g1 => ?_⟩
    dsimp only
    rw [if_neg Bool.false_ne_true]
    exact h _ _ _ R1 (g1.trans Gr.refl)
  · exact h.elim
theorem w_or {rest : List Expr} (ha : PT X l (tT S X.K W a)) (hb : PW X (.BoolOp .Or (r :: rest) pos) (tT S X.K W b)) : PW X (.BoolOp .Or (l :: r :: rest) pos) (tT S X.K W (.or_ a b)) := by
  refine PW.imp (pw_or ha hb) fun σ H Q ⟨ρ, Z, F, R, h⟩ => ?_
  unfold evalE at h
  refine ⟨ρ, Z, F, R, (Out.first (io' := ioE b) h).imp fun v ρ1 h => ?_⟩
  split at h
  · rename_i e
    obtain ⟨k, e2, h⟩ := h
    cases e2
    refine ⟨true, e, fun H1 Z1 F1 R1 g1 => ?_⟩
    dsimp only
    rw [if_pos rfl]
    exact h _ _ _ R1 (g1.trans Gr.refl)
  · rename_i e
    refine ⟨false, e, fun H1 Z1 F1 R1 g1 => ?_⟩
    dsimp only
    rw [if_neg Bool.false_ne_true]
    exact ⟨ρ1, Z1, F1, R1, (Out.later g1 h).imp fun w ρ2 ⟨k, e2, h⟩ => ⟨k, e2, fun H2 Z2 F2 R2 g2 => h H2 Z2 F2 R2 (g1.trans g2)⟩⟩
  · exact h.elim
theorem t_not (ha : PT X l (tT S X.K W a)) : PT X (.UnaryOp .Not l pos) (tT S X.K W (.not_ a)) := by
  refine PT.imp (pt_not ha) fun σ H Q ⟨ρ, Z, F, R, h⟩ => ?_
  unfold evalE at h
  refine ⟨ρ, Z, F, R, (Out.one h).imp fun v ρ1 h => ?_⟩
  split at h
  · rename_i i e
    obtain ⟨k, e2, h⟩ := h
    cases e2
    exact ⟨i, e, fun H1 Z1 F1 R1 g1 => h _ _ _ R1 g1⟩
  · exact h.elim
theorem e_ife {t : Expr} (hc : PT X t (tT S X.K W d)) (ha : PE X l (tE S X.K W a)) (hb : PE X r (tE S X.K W b)) : PE X (.IfExp t l r pos) (tE S X.K W (.ife d a b)) := by
  refine PE.imp (pe_ifExp hc ha hb) fun σ H Q ⟨ρ, Z, F, R, h⟩ => ?_
  unfold evalE at h
  refine ⟨ρ, Z, F, R, (Out.first (io' := ioE a ++ ioE b) h).imp fun v ρ1 h => ?_⟩
  split at h
  · rename_i e
    refine ⟨true, e, fun H1 Z1 F1 R1 g1 => ?_⟩
    dsimp only
    rw [if_pos rfl]
    refine ⟨ρ1, Z1, F1, R1, ((Out.later g1 h).weak fun i hi => List.mem_append_left _ hi).imp fun w ρ2 h y H2 Z2 F2 R2 g2 v2 => ?_⟩
    exact h y H2 Z2 F2 R2 (g1.trans (g2.weak fun i hi => List.mem_append_left _ hi)) (v2.back g1)
  · rename_i e
    refine ⟨false, e, fun H1 Z1 F1 R1 g1 => ?_⟩
    dsimp only
    rw [if_neg Bool.false_ne_true]
    refine ⟨ρ1, Z1, F1, R1, ((Out.later g1 h).weak fun i hi => List.mem_append_right _ hi).imp fun w ρ2 h y H2 Z2 F2 R2 g2 v2 => ?_⟩
    exact h y H2 Z2 F2 R2 (g1.trans (g2.weak fun i hi => List.mem_append_right _ hi)) (v2.back g1)
  · exact h.elim
end
end TL
set_option Elab.async false
set_option linter.all false
set_option maxRecDepth 100000
set_option maxHeartbeats 2000000
namespace TL
open PySem PySem.Spec L2

section
variable {K : PySem.W.Frag} {ρ ρ' : Ev} {σ : L2.St} {H H0 : Hp} {Z Z0 : Zs} {F F0 : Fp} {io : List Nat} {S : Sg} {W : WX}
/-- a look at a slot's own thing: the slot holds it -/
theorem pk_own {x : V} {o o' : Ob} {i : Nat} {a : Addr} {L : List Addr} (R : Rel K ρ σ H Z F) (e : ρ[i]? = some (some o')) (ha : a ∈ F i) : σ[i]? = some (some (.ref a)) ∧ F i = [a] := by
  obtain ⟨v, h1, h2⟩ := R.rep i _ e
  generalize hL : F i = L at h2 ha
  cases h2 with
  | dat h => cases ha
  | ol h r =>
    cases List.mem_singleton.mp ha
    exact ⟨h1, rfl⟩
  | od h r =>
    cases List.mem_singleton.mp ha
    exact ⟨h1, rfl⟩
theorem take_pk {x : V} {i : Nat} {a : Addr} {d : Pd} {o' : Ob} (R : Rel K ρ σ H Z F) (g : Gr io H0 Z0 F0 H Z F) (e : ρ[i]? = some (some o')) (ha : a ∈ F i) (hr : RF K (fun b => Z b ∨ b ∈ [a]) H (.ref a) d) :
    ∃ Z' F', Rel K (ρ.set i (some (.dat d))) σ H Z' F' ∧ Gr io H0 Z0 F0 H Z' F' ∧ RF K Z' H (.ref a) d := by
  obtain ⟨h1, h2⟩ := pk_own (x := x) (o := o') (L := []) R e ha
  have D := R.drop (i := i)
  have Fz : Rel K (ρ.set i none) σ H (fun b => Z b ∨ b ∈ [a]) (fset F i []) := D.freeze (fun b hb => by rw [List.mem_singleton.mp hb]; exact R.al i a ha) fun j b hb hm => by
    rw [List.mem_singleton.mp hm] at hb
    rcases mem_fset hb with ⟨_, m⟩ | ⟨n, m⟩
    · cases m
    · exact n (R.dj j i a m ha)
  have P := Fz.put (i := i) (o := some (.dat d)) (L := []) (fun u eu _ => by cases eu; exact ⟨_, h1, .dat hr⟩) (fun _ h => nomatch h) (fun _ h => nomatch h) (fun _ h => nomatch h)
  rw [List.set_set] at P
  refine ⟨_, _, P, ⟨g.keep, g.am, fun b z => .inl (g.zm b z), fun b z => ?_, fun j b hb => ?_⟩, hr⟩
  · rcases z with z | z
    · exact g.zn b z
    · rw [List.mem_singleton.mp z]
      exact (g.fn' ha).elim (fun n => .inr (.inl n)) fun n => .inr (.inr n)
  · rcases mem_fset hb with ⟨_, m⟩ | ⟨_, m⟩
    · cases m
    · rcases mem_fset m with ⟨_, m⟩ | ⟨_, m⟩
      · cases m
      · exact g.fn j b m
theorem take_ok {x : V} {v : Vl} {d : Pd} (R : Rel K ρ σ H Z F) (g : Gr io H0 Z0 F0 H Z F) (rv : RV K H0 F0 Z H F x v) (e : take v ρ = .ok d ρ') :
    ∃ Z' F', Rel K ρ' σ H Z' F' ∧ Gr io H0 Z0 F0 H Z' F' ∧ RF K Z' H x d := by
  unfold take at e
  split at e
  · cases e
    exact ⟨Z, F, R, g, rv⟩
  · rename_i o
    obtain ⟨L, h1, h2⟩ := rv
    cases ev : o.view with
    | none => rw [ev] at e; cases e
    | some p =>
      rw [ev] at e
      cases e
      refine ⟨fun b => Z b ∨ b ∈ L, F, R.freeze h1.al fun i a ha hm => (h2 a hm).2.1 i ha, ⟨g.keep, g.am, fun b z => .inl (g.zm b z), fun b z => ?_, g.fn⟩, h1.frz ev⟩
      rcases z with z | z
      · exact g.zn b z
      · exact .inr ((h2 b z).2.2)
  · rename_i ds i
    obtain ⟨L, h1, h2⟩ := rv
    split at e
    · rename_i o' e'
      cases e
      cases h1 with
      | @ol a xs ds h r => exact take_pk (x := .ref a) R g e' (h2 a (List.mem_singleton.mpr rfl)) ((RO.ol h r).frz rfl)
    · cases e
  · rename_i ds i
    obtain ⟨L, h1, h2⟩ := rv
    split at e
    · rename_i o' e'
      cases e
      cases h1 with
      | @od a xs ds h r => exact take_pk (x := .ref a) R g e' (h2 a (List.mem_singleton.mpr rfl)) ((RO.od h r).frz rfl)
    · cases e
  · cases e
theorem take_no {v : Vl} {e : Ex} : take v ρ ≠ .ex e ρ' := by
  intro h
  unfold take at h
  split at h
  · cases h
  · rename_i o
    cases ev : o.view with
    | none => rw [ev] at h; cases h
    | some p => rw [ev] at h; cases h
  · split at h <;> cases h
  · split at h <;> cases h
  · cases h
theorem Out.take {β : Type} {io' : List Nat} {x : V} {v : Vl} {f : Pd → Ev → Re β} {P : β → Ev → Prop} {σ0 : L2.St} (R : Rel K ρ σ H Z F) (g : Gr io H0 Z0 F0 H Z F) (rv : RV K H0 F0 Z H F x v) (h : Out S K W io' σ0 H0 Z0 F0 ((TL.take v ρ).bind f) P) :
    ∃ d ρ' Z' F', Rel K ρ' σ H Z' F' ∧ Gr io H0 Z0 F0 H Z' F' ∧ RF K Z' H x d ∧ Out S K W io' σ0 H0 Z0 F0 (f d ρ') P := by
  cases e : TL.take v ρ with
  | ok d ρ' =>
    rw [e] at h
    obtain ⟨Z', F', R', g', r⟩ := take_ok R g rv e
    exact ⟨d, ρ', Z', F', R', g', r, h⟩
  | ex e' ρ' => exact (take_no e).elim
  | no =>
    rw [e] at h
    exact h.elim
theorem Out.imp2 {α : Type} {r : Re α} {P P' : α → Ev → Prop} (h : Out S K W io σ H Z F r P) (f : ∀ v ρ, r = .ok v ρ → P v ρ → P' v ρ) : Out S K W io σ H Z F r P' := by
  cases r with
  | ok v ρ => exact f v ρ rfl h
  | ex e ρ => exact h
  | no => exact h
end

theorem starE {X : Cx} {e : Expr} {es : List Expr} (h : plainE e = true) : starEach (e :: es) X.env = (false, eval e X.env) :: starEach es X.env := by
  cases e <;> first | rfl | cases h
theorem ckA_star {T : Tb} {c : Sc} {X : Cx} {pos : Pos} : ∀ {as : IA} {es : List Expr}, ckA T c as es = true → (backTo pos (starEach es X.env)).any (·.1) = false := by
  intro as es h
  have z : ∀ (as : IA) (es : List Expr), ckA T c as es = true → (starEach es X.env).any (·.1) = false := by
    intro as es
    induction es generalizing as with
    | nil => intro _; rfl
    | cons e es ih =>
      intro h
      cases as with
      | nil => unfold ckA at h; cases h
      | cons a r =>
        unfold ckA at h
        simp only [Bool.and_eq_true] at h
        rw [starE h.1.2, List.any_cons, ih _ h.2, Bool.false_or]
      | io i r =>
        cases e with
        | Name x p =>
          unfold ckA at h
          simp only [Bool.and_eq_true] at h
          rw [starE (e := .Name x p) rfl, List.any_cons, ih _ h.2, Bool.false_or]
        | _ => unfold ckA at h; cases h
  have z2 := z as es h
  generalize starEach es X.env = l at z2
  have e : (backTo pos l).any (·.1) = l.any (·.1) := by
    unfold backTo
    first | (cases l <;> simp [List.any_map, Function.comp_def]; done) | simp [List.any_map, Function.comp_def]
  rw [e]
  exact z2

section
variable {S : Sg} {X : Cx} {c : Sc} {W : WX} {a b d : IE} {as r : IA} {l q : Expr} {es : List Expr} {pos : Pos}
theorem d_nil : PA X [] (tD S X.K W .nil) := PA.imp pa_nil fun σ H Q ⟨ρ, Z, F, R, h⟩ => by
  unfold evalD at h
  exact h [] H Z F R Gr.refl .nil
theorem d_cons (ha : PE X l (tE S X.K W a)) (hr : PA X es (tD S X.K W r)) (hs : plainE l = true) : PA X (l :: es) (tD S X.K W (.cons a r)) := by
  refine PA.imp (pa_cons ha hr (starE hs)) fun σ H Q ⟨ρ, Z, F, R, h⟩ => ?_
  unfold evalD at h
  refine ⟨ρ, Z, F, R, (Out.first (io' := ioA r) h).imp fun v ρ1 h x H1 Z1 F1 R1 g1 v1 => ?_⟩
  obtain ⟨p, ρ2, Z2, F2, R2, g2, r2, h⟩ := Out.take R1 g1 v1 h
  exact ⟨ρ2, Z2, F2, R2, (Out.one (Out.later g2 h)).imp fun ds ρ3 h xs H3 Z3 F3 R3 g3 r3 => h _ _ _ _ R3 (g2.trans g3) (.cons (R2.rf g3 r2) r3)⟩
theorem p_nil : PA X [] (tP S X.K W .nil) := PA.imp pa_nil fun σ H Q ⟨ρ, Z, F, R, h⟩ => by
  unfold evalP at h
  exact h [] H Z F R Gr.refl .nil
theorem p_cons (ha : PE X l (tE S X.K W a)) (hr : PA X es (tP S X.K W r)) (hs : plainE l = true) : PA X (l :: es) (tP S X.K W (.cons a r)) := by
  refine PA.imp (pa_cons ha hr (starE hs)) fun σ H Q ⟨ρ, Z, F, R, h⟩ => ?_
  unfold evalP at h
  refine ⟨ρ, Z, F, R, (Out.first (io' := ioA r) h).imp fun v ρ1 h x H1 Z1 F1 R1 g1 v1 => ?_⟩
  refine ⟨ρ1, Z1, F1, R1, (Out.one (Out.later g1 h)).imp fun ds ρ3 h xs H3 Z3 F3 R3 g3 r3 => ?_⟩
  split at h
  · rename_i p e
    exact h _ _ _ _ R3 (g1.trans g3) (.cons (v1.later R1 g3 e) r3)
  · exact h.elim
theorem evalD_len {G : List Pd} {C : Calls} : ∀ {as : IA} {ρ ρ' : Ev} {ds : List Pd} {n : Nat}, evalD G C as ρ = .ok ds ρ' → ∀ {T : Tb} {c : Sc} {es : List Expr}, ckA T c as es = true → ds.length = es.length
  | .nil, _, _, _, _, h, _, _, [], _ => by unfold evalD at h; cases h; rfl
  | .nil, _, _, _, _, h, _, _, _ :: _, k => by unfold ckA at k; cases k
  | .cons a r, _, _, _, _, h, _, _, [], k => by unfold ckA at k; cases k
  | .cons a r, ρ, ρ', ds, n, h, T, c, e :: es, k => by
    unfold evalD at h
    unfold ckA at k
    simp only [Bool.and_eq_true] at k
    cases e1 : evalE G C a ρ with
    | ok v ρ1 =>
      rw [e1] at h
      have h : (TL.take v ρ1).bind _ = _ := h
      cases e2 : TL.take v ρ1 with
      | ok p ρ2 =>
        rw [e2] at h
        have h : (evalD G C r ρ2).bind _ = _ := h
        cases e3 : evalD G C r ρ2 with
        | ok xs ρ3 =>
          rw [e3] at h
          cases h
          rw [List.length_cons, List.length_cons, evalD_len (n := 0) e3 k.2]
        | ex _ _ => rw [e3] at h; cases h
        | no => rw [e3] at h; cases h
      | ex _ _ => rw [e2] at h; cases h
      | no => rw [e2] at h; cases h
    | ex _ _ => rw [e1] at h; cases h
    | no => rw [e1] at h; cases h
  | .io _ _, _, _, _, _, h, _, _, _, _ => by unfold evalD at h; cases h
theorem e_lst (h : PA X es (tD S X.K W as)) {T : Tb} (k : ckA T c as es = true) (hn : es.length ≤ 10000) : PE X (.List es pos) (tE S X.K W (.lst as)) := by
  refine PE.imp (pe_lst h) fun σ H Q ⟨ρ, Z, F, R, h⟩ => ?_
  unfold evalE at h
  refine ⟨ρ, Z, F, R, (Out.one h).imp2 fun ds ρ1 e h xs H1 Z1 F1 R1 g1 r1 => ⟨?_, fun p hp => ?_⟩⟩
  · rw [r1.length, evalD_len (n := 0) e k]
    exact Nat.le_trans hn (by decide)
  · have m := upd_more (o := .lst xs) hp
    have g2 : Gr [] H1 Z1 F1 (upd H1 p (.lst xs)) Z1 F1 := Gr.more m
    exact h _ _ _ _ (R1.more m) ((g1.trans g2).weak fun i hi => (List.mem_append.mp hi).elim id fun h => nomatch h) (RV.newL R1 hp (g1.am p hp) r1)
theorem e_tup {k2 : _} (h : PA X es (tD S X.K W as)) {T : Tb} (k : ckA T c as es = true) (hn : es.length ≤ 10000) : PE X (.Tuple es k2 pos) (tE S X.K W (.tup as)) := by
  refine PE.imp (pe_tup h) fun σ H Q ⟨ρ, Z, F, R, h⟩ => ?_
  unfold evalE at h
  refine ⟨ρ, Z, F, R, (Out.one h).imp2 fun ds ρ1 e h xs H1 Z1 F1 R1 g1 r1 => ⟨?_, fun p hp => ?_⟩⟩
  · rw [r1.length, evalD_len (n := 0) e k]
    exact Nat.le_trans hn (by decide)
  · have g2 : Gr [] H1 Z1 F1 (upd H1 p (.tup xs)) (fun b => Z1 b ∨ b = p) F1 := Gr.addZ hp
    exact h _ _ _ _ (R1.addZ hp) ((g1.trans g2).weak fun i hi => (List.mem_append.mp hi).elim id fun h => nomatch h) (RF.newT hp r1)
theorem e_dct : PE X (.Dict [] [] pos) (tE S X.K W (.dct .nil .nil)) := by
  refine PE.imp pe_dnewK fun σ H Q ⟨ρ, Z, F, R, h⟩ p hp => ?_
  unfold evalE at h
  have m := upd_more (o := .dK []) hp
  exact h _ _ _ _ (R.more m) (Gr.more m) (RV.newD R hp hp .nil)
theorem Gr.apart {p : Addr} {o : HO} (g : Gr [] H Z F H' Z' F') (e : H p = some o) (hz : ¬ Z p) (hf : ∀ i, p ∉ F i) : H' p = some o ∧ ¬ Z' p ∧ ∀ i, p ∉ F' i := by
  refine ⟨g.keep p o e (fun i hi => nomatch hi), fun z => ?_, fun i m => ?_⟩
  · rcases g.zn p z with z | z | ⟨i, z⟩
    · exact hz z
    · rw [e] at z; cases z
    · exact hf i z
  · rcases g.fn i p m with z | z | ⟨j, hj, z⟩
    · exact hf i z
    · rw [e] at z; cases z
    · cases hj
theorem Rel.beside {p : Addr} {o : HO} (R : Rel K ρ σ H Z F) (hz : ¬ Z p) (hf : ∀ i, p ∉ F i) : Rel K ρ σ (upd H p o) Z F := by
  have ne : ∀ {a : Addr} {u : HO}, a ≠ p → H a = some u → upd H p o a = some u := fun n e => by rw [upd_ne n]; exact e
  refine ⟨R.len, fun i ob e => ?_, R.dj, R.nz, fun i a ha => ?_, fun a z => ?_⟩
  · obtain ⟨v, h1, h2⟩ := R.rep i ob e
    exact ⟨v, h1, h2.mono (fun _ z => z) (fun a u z q => ne (fun e => hz (e ▸ z)) q) fun a u m q => ne (fun e => hf i (e ▸ m)) q⟩
  · obtain ⟨u, e⟩ := R.al i a ha
    exact ⟨u, ne (fun e => hf i (e ▸ ha)) e⟩
  · obtain ⟨u, e⟩ := R.za a z
    exact ⟨u, ne (fun e => hz (e ▸ z)) e⟩
/-- {i: x} -/
theorem e_dct1 (g : Gd S X c W) {i : Int} {j kj : Nat} {x : Str} {kc : Const} {y : Pd} {p1 p2 : Pos} (e : cstD kc = some y) (hs : sameD (.int i) y = true) (h : ckName c j x = true) :
    PE X (.Dict [some (.Constant kc kj p1)] [.Name x p2] pos) (tE S X.K W (.dct (.cons (.cst (.int i)) .nil) (.cons (.var j) .nil))) := by
  refine PE.imp (pe_disp (pps_cons (e_cst (S := S) (W := W) e hs) (e_var g h) pps_nil) rfl rfl (by simp) (by simp)) fun σ H Q ⟨ρ, Z, F, R, hO⟩ p hp => ?_
  have ev : ∃ d, ρ[j]? = some (some (.dat d)) ∧ ∀ x H' Z' F', Rel X.K ρ σ H' Z' F' → Gr [] H Z F H' Z' F' → RV X.K H F Z' H' F' x (.fr (.od [(.int i, d)])) → Q x H' := by
    have io : ioE (.dct (.cons (.cst (.int i)) .nil) (.cons (.var j) .nil)) = [] := rfl
    rw [io] at hO
    unfold evalE at hO
    dsimp only at hO
    split at hO
    · rename_i d e
      exact ⟨d, e, fun x H' Z' F' r1 r2 r3 => hO x H' Z' F' r1 r2 r3⟩
    · exact hO.elim
  obtain ⟨d, ed, hq⟩ := ev
  have z0 : ¬ Z p := fun z => by
    obtain ⟨o, e⟩ := R.za p z
    rw [hp] at e; cases e
  have f0 : ∀ i, p ∉ F i := fun i m => by
    obtain ⟨o, e⟩ := R.al i p m
    rw [hp] at e; cases e
  have m := upd_more (o := .dK []) hp
  have g1 : Gr [] H Z F (upd H p (.dK [])) Z F := Gr.more m
  have R1 : Rel X.K ρ σ (upd H p (.dK [])) Z F := R.more m
  refine ⟨ρ, Z, F, R1, ?_⟩
  have ec : evalE S.G S.C (.cst (.int i)) ρ = .ok (.d (.int i)) ρ := by unfold evalE; rfl
  rw [ec]
  intro kx H1 Z1 F1 R2 g2 rk
  have rk : RF X.K Z1 H1 kx (.int i) := rk
  cases rk
  have g2 : Gr [] (upd H p (.dK [])) Z F H1 Z1 F1 := g2
  obtain ⟨a1, a2, a3⟩ := g2.apart upd_same z0 f0
  refine ⟨ρ, Z1, F1, R2, ?_⟩
  have ev : evalE S.G S.C (.var j) ρ = .ok (.d d) ρ := by unfold evalE; rw [ed]
  rw [ev]
  intro vy H2 Z2 F2 R3 g3 ry
  have ry : RF X.K Z2 H2 vy d := ry
  have g3 : Gr [] H1 Z1 F1 H2 Z2 F2 := g3
  obtain ⟨b1, b2, b3⟩ := g3.apart a1 a2 a3
  have gg : Gr [] H Z F H2 Z2 F2 := (g1.trans g2).trans g3
  refine ⟨b1, [(.inl i, vy)], rfl, by simp, ?_⟩
  have cut : ∀ {a : Addr} {u : HO}, a ≠ p → H2 a = some u → upd H2 p (.dK (mergeK [] [(.inl i, vy)])) a = some u := fun n e => by rw [upd_ne n]; exact e
  refine hq _ _ _ _ (R3.beside b2 b3) ⟨fun a o e n => ?_, fun a e => ?_, gg.zm, gg.zn, gg.fn⟩ ⟨[p], .od upd_same (.cons rfl (ry.mono (fun _ z => z) fun a u z q => cut (fun e => b2 (e ▸ z)) q) .nil), fun b hb => ?_⟩
  · exact cut (fun e2 => by rw [e2, hp] at e; cases e) (gg.keep a o e n)
  · refine gg.am a ?_
    by_cases ha : a = p
    · subst ha
      rw [upd_same] at e
      cases e
    · rw [upd_ne ha] at e
      exact e
  · rw [List.mem_singleton.mp hb]
    exact ⟨b2, b3, .inl hp⟩
theorem plainIx {e : Expr} (h : plainE e = true) : PlainIx e := by
  cases e <;> first | (intro _ _; rfl) | cases h
theorem e_idx (hs : PlainIx q) (ha : PE X l (tE S X.K W a)) (hb : PE X q (tE S X.K W b)) : PE X (.Subscript l q pos) (tE S X.K W (.idx a b)) := by
  refine PE.imp (pe_ix ix_D ha hb hs) fun σ H Q ⟨ρ, Z, F, R, h⟩ => ?_
  unfold evalE at h
  refine ⟨ρ, Z, F, R, (Out.first (io' := ioE b) h).imp fun v ρ1 h x H1 Z1 F1 R1 g1 v1 => ?_⟩
  refine ⟨ρ1, Z1, F1, R1, (Out.one (Out.later g1 h)).imp fun w ρ2 h y H2 Z2 F2 R2 g2 v2 => ?_⟩
  split at h
  · rename_i p q e1 e2
    cases e : idxD p q with
    | none =>
      rw [e] at h
      exact h.elim
    | some k =>
      rw [e] at h
      exact ⟨Z2, p, q, k, v1.later R1 g2 e1, v2.now e2, e, fun z hz => h z _ _ _ R2 (g1.trans g2) hz⟩
  · exact h.elim
/-- a slice's part -/
def tO (S : Sg) (K : PySem.W.Frag) (W : WX) (i : IE) : TO := fun σ H Q => ∃ ρ Z F, Rel K ρ σ H Z F ∧ Out S K W (ioE i) σ H Z F (evalE S.G S.C i ρ) fun v ρ' =>
  ∃ p j, v.view = some p ∧ partE i p = some j ∧ ∀ H' Z' F', Rel K ρ' σ H' Z' F' → Gr (ioE i) H Z F H' Z' F' → Q j H'
theorem PO.imp {X : Cx} {e : Option Expr} {t t' : TO} (h : PO X e t) (f : ∀ σ H Q, t' σ H Q → t σ H Q) : PO X e t' := ⟨fun pins s σ H Q I q => h.run pins s σ H Q I (f σ H Q q)⟩
theorem left_eq {i : IE} (h : i.left = true) : i = .cst .none := by
  unfold IE.left at h
  split at h
  · rfl
  · cases h
theorem o_none (hl : a.left = true) : PO X none (tO S X.K W a) := by
  cases left_eq hl
  refine PO.imp po_none fun σ H Q ⟨ρ, Z, F, R, h⟩ => ?_
  unfold evalE at h
  obtain ⟨p, j, e1, e2, h⟩ := h
  cases e2
  exact h H Z F R Gr.refl
theorem o_some (hl : a.left = false) (ha : PE X l (tE S X.K W a)) : PO X (some l) (tO S X.K W a) := by
  refine PO.imp (po_some ha) fun σ H Q ⟨ρ, Z, F, R, h⟩ => ⟨ρ, Z, F, R, h.imp fun v ρ1 ⟨p, j, e1, e2, h⟩ x H1 Z1 F1 R1 g1 v1 => ?_⟩
  unfold partE at e2
  rw [hl] at e2
  simp only [Bool.false_eq_true, ↓reduceIte] at e2
  split at e2
  · cases e2
    exact ⟨_, (v1.now e1).int, h _ _ _ R1 g1⟩
  · cases e2
theorem slc_plain {x : Pd} {lo hi : Option Int} {u : Vl} (e : slcD x lo hi = some u) : u.plain = true := by
  unfold slcD at e
  split at e <;> (try split at e) <;> cases e <;> rfl
theorem e_slc {lo hi : Option Expr} {p2 : Pos} {b d : IE} (ha : PE X l (tE S X.K W a)) (hl : PO X lo (tO S X.K W b)) (hh : PO X hi (tO S X.K W d)) : PE X (.Subscript l (.Slice lo hi none p2) pos) (tE S X.K W (.slc a b d)) := by
  refine PE.imp (pe_slice sl_D ha hl hh) fun σ H Q ⟨ρ, Z, F, R, h⟩ => ?_
  unfold evalE at h
  refine ⟨ρ, Z, F, R, (Out.first (io' := ioE b ++ ioE d) h).imp fun v ρ1 h x H1 Z1 F1 R1 g1 v1 => ?_⟩
  refine ⟨ρ1, Z1, F1, R1, (Out.first (Out.later g1 h)).imp fun w ρ2 h => ?_⟩
  cases e : w.view with
  | none => rw [e] at h; exact h.elim
  | some p =>
    cases e2 : partE b p with
    | none => rw [e, Option.bind_some, e2] at h; exact h.elim
    | some j =>
      rw [e, Option.bind_some, e2] at h
      refine ⟨p, j, rfl, e2, fun H2 Z2 F2 R2 g2 => ?_⟩
      refine ⟨ρ2, Z2, F2, R2, (Out.one (Out.later g2 h)).imp fun u ρ3 h => ?_⟩
      cases e3 : u.view with
      | none =>
        rw [e3] at h
        split at h
        · rename_i e4; cases e4
        · exact h.elim
      | some q =>
        cases e4 : partE d q with
        | none =>
          rw [e3, Option.bind_some, e4] at h
          split at h
          · rename_i e5; cases e5
          · exact h.elim
        | some k =>
          rw [e3, Option.bind_some, e4] at h
          refine ⟨q, k, rfl, e4, fun H3 Z3 F3 R3 g3 => ?_⟩
          split at h
          · rename_i y h' e5 e6
            cases e6
            cases e7 : slcD y j k with
            | none => rw [e7] at h; exact h.elim
            | some u =>
              rw [e7] at h
              exact ⟨Z3, y, u, v1.later R1 (g2.trans g3) e5, e7, Gv.of (slc_plain e7) R3 (g1.trans (g2.trans g3)) h⟩
          · exact h.elim
theorem e_rev {k : Nat} {p1 p2 p3 : Pos} (ha : PE X l (tE S X.K W a)) : PE X (.Subscript l (.Slice none none (some (.UnaryOp .USub (.Constant (.int 1) k p1) p2)) p3) pos) (tE S X.K W (.rev a)) := by
  refine PE.imp (pe_revL ha) fun σ H Q ⟨ρ, Z, F, R, h⟩ => ?_
  unfold evalE at h
  refine ⟨ρ, Z, F, R, (Out.one h).imp fun v ρ1 h x H1 Z1 F1 R1 g1 v1 => ?_⟩
  split at h
  · rename_i p e
    unfold revD at h
    split at h
    · rename_i ds
      obtain ⟨a, xs, rfl, h1, h2⟩ := (v1.now e).list
      refine ⟨a, xs, rfl, h1.sq, fun p hp => ?_⟩
      have m := upd_more (o := .lst xs.reverse) hp
      have g2 : Gr [] H1 Z1 F1 (upd H1 p (.lst xs.reverse)) Z1 F1 := Gr.more m
      exact h _ _ _ _ (R1.more m) ((g1.trans g2).weak fun i hi => (List.mem_append.mp hi).elim id fun h => nomatch h) (RV.newL R1 hp (g1.am p hp) h2.rev)
    · exact h.elim
  · exact h.elim

inductive VVs (K : PySem.W.Frag) (H0 : Hp) (F0 : Fp) (Z : Zs) (H : Hp) (F : Fp) : List Addr → List V → List Vl → Prop
  | nil : VVs K H0 F0 Z H F [] [] []
  | d {U : List Addr} {x : V} {p : Pd} {xs : List V} {vs : List Vl} (h : RF K Z H x p) (t : VVs K H0 F0 Z H F U xs vs) : VVs K H0 F0 Z H F U (x :: xs) (.d p :: vs)
  | fr {U L : List Addr} {x : V} {o : Ob} {xs : List V} {vs : List Vl} (h : RO K Z H x o L) (k : ∀ a ∈ L, ¬ Z a ∧ (∀ i, a ∉ F i) ∧ (H0 a = none ∨ ∃ j, a ∈ F0 j)) (n : ∀ a ∈ L, a ∉ U) (t : VVs K H0 F0 Z H F U xs vs) : VVs K H0 F0 Z H F (L ++ U) (x :: xs) (.fr o :: vs)
theorem VVs.from {K : PySem.W.Frag} {H0 H : Hp} {F0 F : Fp} {Z : Zs} : ∀ {U : List Addr} {xs : List V} {vs : List Vl}, VVs K H0 F0 Z H F U xs vs → ∀ a ∈ U, H0 a = none ∨ ∃ j, a ∈ F0 j
  | _, _, _, .nil, _, h => nomatch h
  | _, _, _, .d _ t, a, h => t.from a h
  | _, _, _, .fr _ k _ t, a, h => (List.mem_append.mp h).elim (fun h => (k a h).2.2) (t.from a)
theorem VVs.len {K : PySem.W.Frag} {H0 H : Hp} {F0 F : Fp} {Z : Zs} : ∀ {U : List Addr} {xs : List V} {vs : List Vl}, VVs K H0 F0 Z H F U xs vs → xs.length = vs.length
  | _, _, _, .nil => rfl
  | _, _, _, .d _ t => by rw [List.length_cons, List.length_cons, t.len]
  | _, _, _, .fr _ _ _ t => by rw [List.length_cons, List.length_cons, t.len]
theorem VVs.back {K : PySem.W.Frag} {H0 H1 H : Hp} {F0 F1 F : Fp} {Z0 Z1 Z : Zs} {io : List Nat} (g : Gr io H0 Z0 F0 H1 Z1 F1) : ∀ {U : List Addr} {xs : List V} {vs : List Vl}, VVs K H1 F1 Z H F U xs vs → VVs K H0 F0 Z H F U xs vs
  | _, _, _, .nil => .nil
  | _, _, _, .d h t => .d h (t.back g)
  | _, _, _, .fr h k n t => .fr h (fun a ha => ⟨(k a ha).1, (k a ha).2.1, (k a ha).2.2.elim (fun q => .inl (g.am a q)) fun ⟨_, q⟩ => g.fn' q⟩) n (t.back g)
def tV (S : Sg) (K : PySem.W.Frag) (W : WX) (as : IA) : TA := fun σ H Q => ∃ ρ Z F, Rel K ρ σ H Z F ∧ Out S K W (ioA as) σ H Z F (evalV S.G S.C as ρ) fun vs ρ' =>
  ∀ xs U H' Z' F', Rel K ρ' σ H' Z' F' → Gr (ioA as) H Z F H' Z' F' → VVs K H F Z' H' F' U xs vs → Q xs H'
theorem v_nil : PA X [] (tV S X.K W .nil) := PA.imp pa_nil fun σ H Q ⟨ρ, Z, F, R, h⟩ => by
  unfold evalV at h
  exact h [] [] H Z F R Gr.refl .nil
theorem v_cons (ha : PE X l (tE S X.K W a)) (hr : PA X es (tV S X.K W r)) (hs : plainE l = true) : PA X (l :: es) (tV S X.K W (.cons a r)) := by
  refine PA.imp (pa_cons ha hr (starE hs)) fun σ H Q ⟨ρ, Z, F, R, h⟩ => ?_
  unfold evalV at h
  refine ⟨ρ, Z, F, R, (Out.first (io' := ioA r) h).imp fun v ρ1 h x H1 Z1 F1 R1 g1 v1 => ?_⟩
  split at h
  · rename_i o
    obtain ⟨L, h1, h2⟩ := v1
    refine ⟨ρ1, Z1, F1, R1, (Out.one (Out.later g1 h)).imp fun vs ρ3 h xs U H3 Z3 F3 R3 g3 r3 => h _ (L ++ U) _ _ _ R3 (g1.trans g3) (.fr (h1.mono g3.zm (fun a u z e => g3.keep a u e fun i _ hi => R1.nz i a hi z) fun a u ha e => g3.keep a u e fun i _ hi => (h2 a ha).2.1 i hi) (fun a ha => ⟨fun z => ?_, fun i hi => ?_, (h2 a ha).2.2⟩) (fun a ha hu => ?_) (r3.back g1))⟩
    · obtain ⟨u, e⟩ := h1.al a ha
      rcases g3.zn a z with q | q | ⟨i, q⟩
      · exact (h2 a ha).1 q
      · rw [q] at e; cases e
      · exact (h2 a ha).2.1 i q
    · obtain ⟨u, e⟩ := h1.al a ha
      rcases g3.fn' hi with q | ⟨j, q⟩
      · rw [q] at e; cases e
      · exact (h2 a ha).2.1 j q
    · obtain ⟨u, e⟩ := h1.al a ha
      rcases r3.from a hu with q | ⟨j, q⟩
      · rw [q] at e; cases e
      · exact (h2 a ha).2.1 j q
  · obtain ⟨p, ρ2, Z2, F2, R2, g2, r2, h⟩ := Out.take R1 g1 v1 h
    exact ⟨ρ2, Z2, F2, R2, (Out.one (Out.later g2 h)).imp fun vs ρ3 h xs U H3 Z3 F3 R3 g3 r3 => h _ U _ _ _ R3 (g2.trans g3) (.d (R2.rf g3 r2) (r3.back g2))⟩
theorem evalV_len {G : List Pd} {C : Calls} : ∀ {as : IA} {ρ ρ' : Ev} {vs : List Vl}, evalV G C as ρ = .ok vs ρ' → ∀ {T : Tb} {c : Sc} {es : List Expr}, ckA T c as es = true → vs.length = es.length
  | .nil, _, _, _, h, _, _, [], _ => by unfold evalV at h; cases h; rfl
  | .nil, _, _, _, h, _, _, _ :: _, k => by unfold ckA at k; cases k
  | .cons a r, _, _, _, h, _, _, [], k => by unfold ckA at k; cases k
  | .cons a r, ρ, ρ', vs, h, T, c, e :: es, k => by
    unfold evalV at h
    unfold ckA at k
    simp only [Bool.and_eq_true] at k
    have rest : ∀ {ρ2 : Ev} {f : Vl}, ((evalV G C r ρ2).bind fun vs ρ => .ok (f :: vs) ρ) = .ok vs ρ' → vs.length = (e :: es).length := fun {ρ2 f} h => by
      cases e3 : evalV G C r ρ2 with
      | ok xs ρ3 =>
        rw [e3] at h
        cases h
        rw [List.length_cons, List.length_cons, evalV_len e3 k.2]
      | ex _ _ => rw [e3] at h; cases h
      | no => rw [e3] at h; cases h
    cases e1 : evalE G C a ρ with
    | ok v ρ1 =>
      rw [e1] at h
      dsimp only [Re.bind] at h
      split at h
      · exact rest h
      · rename_i u _
        cases e2 : TL.take v ρ1 with
        | ok p ρ2 =>
          rw [e2] at h
          exact rest h
        | ex _ _ => rw [e2] at h; cases h
        | no => rw [e2] at h; cases h
    | ex _ _ => rw [e1] at h; cases h
    | no => rw [e1] at h; cases h
  | .io _ _, _, _, _, h, _, _, _, _ => by unfold evalV at h; cases h
end
end TL
set_option Elab.async false
set_option linter.all false
set_option maxRecDepth 100000
set_option maxHeartbeats 2000000
namespace TL
open PySem PySem.Spec L2

section
variable {S : Sg} {X : Cx} {c : Sc} {W : WX} {a b d : IE} {as r : IA} {l q e : Expr} {es : List Expr} {pos p : Pos}
theorem bi_plain {b : BI} {ps : List Pd} {u : Vl} (e : bi b ps = some u) : u.plain = true := by
  unfold bi at e
  split at e
  all_goals first
    | (cases e; done)
    | (cases e; rfl)
    | (split at e <;> cases e <;> rfl)
    | (obtain ⟨_, _, rfl⟩ := Option.map_eq_some_iff.mp e; rfl)
    | (obtain ⟨_, _, e⟩ := Option.bind_eq_some_iff.mp e; obtain ⟨_, _, rfl⟩ := Option.map_eq_some_iff.mp e; rfl)
theorem bi_step {b : BI} {t : TA} (hp : t = tP S X.K W as) : ∀ σ H Q, tE S X.K W (.bi b as) σ H Q → tCB (rB X.K (bi b)) t σ H Q := by
  subst hp
  intro σ H Q ⟨ρ, Z, F, R, h⟩
  unfold evalE at h
  refine ⟨ρ, Z, F, R, (Out.one h).imp fun ps ρ1 h xs H1 Z1 F1 R1 g1 r1 => ?_⟩
  cases e : bi b ps with
  | none => rw [e] at h; exact h.elim
  | some u =>
    rw [e] at h
    exact ⟨Z1, ps, u, r1, e, Gv.of (bi_plain e) R1 g1 h⟩
theorem e_bi (g : Gd S X c W) (hu : X.A.units + 70 < cLine) {b : BI} {x : Str} (ha : PA X (e :: es) (tP S X.K W as)) (h1 : b.name = x) (h2 : c.glo x = true) (h3 : x ∈ S.T.free) (h4 : odd x = false) (hk : ckA S.T c as (e :: es) = true) (hs : starEach (e :: es) X.env = (false, eval e X.env) :: starEach es X.env)
    (hp : (backTo pos (starEach es X.env)).any (·.1) = false) : PE X (.Call (.Name x p) (e :: es) [] pos) (tE S X.K W (.bi b as)) := by
  have call := call_bi (X := X) g.fx.sm g.calm g.gds hu b
  have hg := g.glo h2
  have hm := g.fx.free x h3
  have hn : x ≠ "__name__" := fun z => by
    have := (odd_of h4).2.2
    rw [z] at this
    exact absurd this (by decide)
  have hd := (odd_of h4).1
  subst h1
  refine PE.imp ?_ (bi_step rfl)
  cases b <;> first
    | exact pe_callB call hg hm rfl ha hn hd hs hp
    | exact pe_callTy call hg hm rfl ha hn hd hs hp

theorem ckName_of {i : Nat} {x : Str} (h : ckName c i x = true) : c.N[i]? = some x ∧ c.vis x = true ∧ odd x = false := by
  unfold ckName at h
  simp only [Bool.and_eq_true, Bool.not_eq_true'] at h
  exact ⟨eq_of_beq h.1.1, h.1.2, h.2⟩
theorem n_var (g : Gd S X c W) {i : Nat} {x : Str} (h : ckName c i x = true) : PE X (.Name x pos) (tVar i) := by
  obtain ⟨h1, h2, h3⟩ := ckName_of h
  exact pe_var (by rw [g.N]; exact h1) (g.vis h2) (odd_of h3).1 (odd_of h3).2.1
/-- slot i's own list changed -/
theorem Rel.setL {K : PySem.W.Frag} {ρ : Ev} {σ : L2.St} {H : Hp} {Z : Zs} {F : Fp} {i : Nat} {a : Addr} {ds ds' : List Pd} {xs xs' : List V} (R : Rel K ρ σ H Z F) (e : ρ[i]? = some (some (.ol ds))) (hv : σ[i]? = some (some (.ref a))) (hF : F i = [a]) (h : H a = some (.lst xs)) (r : RFs K Z H xs' ds') :
    Rel K (ρ.set i (some (.ol ds'))) σ (upd H a (.lst xs')) Z F := by
  have ai : a ∈ F i := by rw [hF]; exact List.mem_singleton.mpr rfl
  have k : ∀ b u, b ≠ a → H b = some u → upd H a (.lst xs') b = some u := fun b u n e => by rw [upd_ne n]; exact e
  have r' : RFs K Z (upd H a (.lst xs')) xs' ds' := r.mono (fun _ z => z) fun b u z q => k b u (fun e => R.nz i a ai (e ▸ z)) q
  refine ⟨by rw [List.length_set]; exact R.len, fun j o eo => ?_, R.dj, R.nz, fun j b hb => ?_, fun b z => ?_⟩
  · by_cases hj : j = i
    · subst hj
      rw [List.getElem?_set] at eo
      simp only [↓reduceIte] at eo
      split at eo
      · cases eo
        refine ⟨_, hv, ?_⟩
        rw [hF]
        exact .ol upd_same r'
      · cases eo
    · rw [List.getElem?_set_ne (Ne.symm hj)] at eo
      obtain ⟨v, h1, h2⟩ := R.rep j o eo
      exact ⟨v, h1, h2.mono (fun _ z => z) (fun b u z q => k b u (fun e => R.nz i a ai (e ▸ z)) q) fun b u hb q => k b u (fun e => hj (R.dj j i a (e ▸ hb) ai)) q⟩
  · by_cases hb' : b = a
    · exact ⟨_, by rw [hb']; exact upd_same⟩
    · obtain ⟨o, e⟩ := R.al j b hb
      exact ⟨o, k b o hb' e⟩
  · obtain ⟨o, e⟩ := R.za b z
    exact ⟨o, k b o (fun e => R.nz i a ai (e ▸ z)) e⟩
theorem Gr.setL {io : List Nat} {H : Hp} {Z : Zs} {F : Fp} {i : Nat} {a : Addr} {o u : HO} (hi : i ∈ io) (ai : a ∈ F i) (h : H a = some u) : Gr io H Z F (upd H a o) Z F where
  keep := fun b w e n => by
    have hb : b ≠ a := fun z => n i hi (z ▸ ai)
    rw [upd_ne hb]
    exact e
  am := fun b e => by
    by_cases hb : b = a
    · rw [hb, upd_same] at e; cases e
    · rw [upd_ne hb] at e; exact e
  zm := fun _ z => z
  zn := fun _ z => .inl z
  fn := fun _ _ h => .inl h
theorem Rel.own {K : PySem.W.Frag} {ρ : Ev} {σ : L2.St} {H : Hp} {Z : Zs} {F : Fp} {i : Nat} {ds : List Pd} (R : Rel K ρ σ H Z F) (e : ρ[i]? = some (some (.ol ds))) : ∃ a xs, σ[i]? = some (some (.ref a)) ∧ F i = [a] ∧ H a = some (.lst xs) ∧ RFs K Z H xs ds := by
  obtain ⟨v, h1, h2⟩ := R.rep i _ e
  generalize hL : F i = L at h2
  cases h2 with
  | @ol a xs _ h r => exact ⟨a, xs, h1, rfl, h, r⟩
theorem RFs.last {K : PySem.W.Frag} {Z : Zs} {H : Hp} {xs : List V} {ds : List Pd} {d : Pd} (r : RFs K Z H xs ds) (e : ds.getLast? = some d) : ∃ y, xs[xs.length - 1]? = some y ∧ RF K Z H y d := by
  rw [List.getLast?_eq_getElem?] at e
  obtain ⟨y, h1, h2⟩ := r.get e
  exact ⟨y, by rw [r.length]; exact h1, h2⟩
theorem RFs.dropLast {K : PySem.W.Frag} {Z : Zs} {H : Hp} {xs : List V} {ds : List Pd} (r : RFs K Z H xs ds) : RFs K Z H xs.dropLast ds.dropLast := by
  rw [List.dropLast_eq_take, List.dropLast_eq_take, r.length]
  exact r.take _
theorem e_mpop (g : Gd S X c W) {i : Nat} {x m : Str} {p p2 cp : Pos} (h : ckName c i x = true) (hm : m = "pop") (hl : (p2.endLine == cp.line) = true) (hn : attributeBase (.Name x p) m X.env (eval (.Name x p) X.env) = eval (.Name x p) X.env) :
    PE X (.Call (.Attribute (.Name x p) m p2) [] [] cp) (tE S X.K W (.mpop i)) := by
  subst hm
  refine PE.imp (pe_bm0 PySem.F.plainAttrs_list PySem.F.slot_list_pop PySem.F.type_list_pop mt_pop (n_var g h) hn hl) fun σ H Q ⟨ρ, Z, F, R, h⟩ => ?_
  unfold evalE at h
  split at h
  · rename_i ds e
    split at h
    · rename_i d e2
      obtain ⟨a, xs, h1, h2, h3, r⟩ := R.own e
      obtain ⟨y, hy, ry⟩ := r.last e2
      have ai : a ∈ F i := by rw [h2]; exact List.mem_singleton.mpr rfl
      have g' : Gr (ioE (.mpop i)) H Z F (upd H a (.lst xs.dropLast)) Z F := Gr.setL (i := i) (List.mem_singleton.mpr rfl) ai h3
      exact ⟨_, h1, .inl ⟨rfl, xs, .inl (.inl h3)⟩, a, xs, y, rfl, rfl, h3, hy, h _ _ _ _ (R.setL e h1 h2 h3 r.dropLast) g' (R.rf g' ry)⟩
    · exact h.elim
  · exact h.elim

/-- the slot at a place of the arguments; a slot's place -/
def ioAt : IA → Nat → Option Nat
  | .nil, _ => none
  | .cons _ _, 0 => none
  | .cons _ r, j + 1 => ioAt r j
  | .io i _, 0 => some i
  | .io _ r, j + 1 => ioAt r j
def posA : IA → Nat → Option Nat
  | .nil, _ => none
  | .cons _ r, i => (posA r i).map (· + 1)
  | .io k r, i => if i = k then some 0 else (posA r i).map (· + 1)
theorem posA_at : ∀ {as : IA} {i j : Nat}, posA as i = some j → ioAt as j = some i
  | .nil, _, _, h => nomatch h
  | .cons _ r, i, j, h => by
    obtain ⟨k, h1, rfl⟩ := Option.map_eq_some_iff.mp h
    exact posA_at (as := r) h1
  | .io k r, i, j, h => by
    unfold posA at h
    split at h
    · cases h
      rename_i e
      rw [e]; rfl
    · obtain ⟨k, h1, rfl⟩ := Option.map_eq_some_iff.mp h
      exact posA_at (as := r) h1
theorem posA_none : ∀ {as : IA} {i : Nat}, posA as i = none → i ∉ ioT as
  | .nil, _, _, h => nomatch h
  | .cons _ r, i, e, h => posA_none (as := r) (Option.map_eq_none_iff.mp e) h
  | .io k r, i, e, h => by
    unfold posA at e
    split at e
    · cases e
    · rename_i n
      rcases List.mem_cons.mp h with h | h
      · exact n h
      · exact posA_none (as := r) (Option.map_eq_none_iff.mp e) h
theorem ioAt_mem : ∀ {as : IA} {i j : Nat}, ioAt as j = some i → i ∈ ioT as
  | .cons _ r, i, j + 1, h => ioAt_mem (as := r) h
  | .cons _ _, _, 0, h => nomatch h
  | .nil, _, _, h => nomatch h
  | .io k r, i, 0, h => by cases h; exact List.mem_cons_self
  | .io k r, i, j + 1, h => List.mem_cons_of_mem _ (ioAt_mem (as := r) h)
theorem posA_mem {as : IA} {i j : Nat} (h : posA as i = some j) : i ∈ ioT as := ioAt_mem (posA_at h)
theorem ioT_sub : ∀ {as : IA} {i : Nat}, i ∈ ioT as → i ∈ ioA as
  | .cons _ r, i, h => List.mem_append_right _ (ioT_sub (as := r) h)
  | .io k r, i, h => by
    rcases List.mem_cons.mp h with h | h
    · rw [h]; exact List.mem_cons_self
    · exact List.mem_cons_of_mem _ (ioT_sub (as := r) h)
/-- what the slots hold behind the call -/
theorem setIO_at : ∀ {as : IA} {outs : List (Option Ob)} {ρ ρ' : Ev}, setIO as outs ρ = some ρ' → ρ'.length = ρ.length ∧ ∀ i, (posA as i = none → ρ'[i]? = ρ[i]?) ∧ ∀ j, posA as i = some j → ∃ o, outs[j]? = some (some o) ∧ (ρ'[i]? = some (some o) ∨ ρ'[i]? = none)
  | .nil, _, _, _, h => by
    unfold setIO at h
    cases h
    exact ⟨rfl, fun i => ⟨fun _ => rfl, fun j h => nomatch h⟩⟩
  | .cons _ r, [], _, _, h => by unfold setIO at h; cases h
  | .cons _ r, o :: os, ρ, ρ', h => by
    unfold setIO at h
    obtain ⟨h1, h2⟩ := setIO_at (as := r) h
    refine ⟨h1, fun i => ⟨fun e => (h2 i).1 (Option.map_eq_none_iff.mp e), fun j e => ?_⟩⟩
    obtain ⟨k, e1, rfl⟩ := Option.map_eq_some_iff.mp e
    exact (h2 i).2 k e1
  | .io _ _, [], _, _, h => by unfold setIO at h; cases h
  | .io _ _, none :: _, _, _, h => by unfold setIO at h; cases h
  | .io k r, some o :: os, ρ, ρ', h => by
    unfold setIO at h
    obtain ⟨ρ1, e1, rfl⟩ := Option.map_eq_some_iff.mp h
    obtain ⟨h1, h2⟩ := setIO_at (as := r) e1
    refine ⟨by rw [List.length_set]; exact h1, fun i => ⟨fun e => ?_, fun j e => ?_⟩⟩
    · unfold posA at e
      split at e
      · cases e
      · rename_i n
        rw [List.getElem?_set_ne (Ne.symm n)]
        exact (h2 i).1 (Option.map_eq_none_iff.mp e)
    · unfold posA at e
      split at e
      · rename_i n
        cases e
        subst n
        refine ⟨o, rfl, ?_⟩
        by_cases hl : i < ρ1.length
        · exact .inl (List.getElem?_set_self hl)
        · exact .inr (List.getElem?_eq_none (by rw [List.length_set]; omega))
      · rename_i n
        obtain ⟨k', e2, rfl⟩ := Option.map_eq_some_iff.mp e
        obtain ⟨o', h3, h4⟩ := (h2 i).2 k' e2
        refine ⟨o', h3, ?_⟩
        rw [List.getElem?_set_ne (Ne.symm n)]
        exact h4
/-- a list or a dict stands at a -/
def Big (H : Hp) (a : Addr) : Prop := (∃ xs, H a = some (.lst xs)) ∨ ∃ xs, H a = some (.dK xs)
/-- arguments of a call; L: what is looked at -/
inductive AV (K : PySem.W.Frag) (Z : Zs) (H : Hp) (F : Fp) (σ : L2.St) (L : List Addr) : IA → List V → List Ob → Prop
  | nil : AV K Z H F σ L .nil [] []
  | cons {a : IE} {r : IA} {x : V} {d : Pd} {xs : List V} {os : List Ob} (h : RF K (fun b => Z b ∨ b ∈ L) H x d) (t : AV K Z H F σ L r xs os) : AV K Z H F σ L (.cons a r) (x :: xs) (.dat d :: os)
  | io {i : Nat} {r : IA} {x : V} {o : Ob} {xs : List V} {os : List Ob} (hs : σ[i]? = some (some x)) (h : RO K Z H x o (F i)) (n : i ∉ ioT r) (t : AV K Z H F σ L r xs os) : AV K Z H F σ L (.io i r) (x :: xs) (o :: os)
def tA (S : Sg) (K : PySem.W.Frag) (W : WX) (m : Bool) (as : IA) : TA := fun σ H Q => ∃ ρ Z F, Rel K ρ σ H Z F ∧ Out S K W (ioA as) σ H Z F (evalA S.G S.C m as ρ) fun p ρ' =>
  ∀ xs L H' Z' F', Rel K ρ' σ H' Z' F' → Gr (ioA as) H Z F H' Z' F' → (∀ a ∈ L, Big H' a) → (p.2 = [] → L = []) → (p.2 ≠ [] → m = true) → AV K Z' H' F' σ L as xs p.1 → Q xs H'
theorem a_nil {m : Bool} : PA X [] (tA S X.K W m .nil) := PA.imp pa_nil fun σ H Q ⟨ρ, Z, F, R, h⟩ => by
  unfold evalA at h
  exact h [] [] H Z F R Gr.refl (fun _ h => nomatch h) (fun _ => rfl) (fun h => (h rfl).elim) .nil
theorem AV.mono {K : PySem.W.Frag} {Z : Zs} {H : Hp} {F : Fp} {σ : L2.St} {L L' : List Addr} (hl : ∀ a ∈ L, a ∈ L') : ∀ {as : IA} {xs : List V} {os : List Ob}, AV K Z H F σ L as xs os → AV K Z H F σ L' as xs os
  | _, _, _, .nil => .nil
  | _, _, _, .cons h t => .cons (h.mono (fun a z => z.imp id (hl a)) fun _ _ _ q => q) (AV.mono hl t)
  | _, _, _, .io hs h n t => .io hs h n (AV.mono hl t)
theorem a_cons {m : Bool} (ha : PE X l (tE S X.K W a)) (hr : PA X es (tA S X.K W m r)) (hs : plainE l = true) : PA X (l :: es) (tA S X.K W m (.cons a r)) := by
  refine PA.imp (pa_cons ha hr (starE hs)) fun σ H Q ⟨ρ, Z, F, R, h⟩ => ?_
  unfold evalA at h
  refine ⟨ρ, Z, F, R, (Out.first (io' := ioA r) h).imp fun v ρ1 h x H1 Z1 F1 R1 g1 v1 => ?_⟩
  -- kept for good
  have kept : Out S X.K W (ioE a ++ ioA r) σ H Z F ((TL.take v ρ1).bind fun x ρ => (evalA S.G S.C m r ρ).bind fun p ρ => .ok (.dat x :: p.1, p.2) ρ) (fun p ρ' => ∀ xs L H' Z' F', Rel X.K ρ' σ H' Z' F' → Gr (ioE a ++ ioA r) H Z F H' Z' F' → (∀ a ∈ L, Big H' a) → (p.2 = [] → L = []) → (p.2 ≠ [] → m = true) → AV X.K Z' H' F' σ L (.cons a r) xs p.1 → Q xs H') →
      tA S X.K W m r σ H1 fun xs H2 => Q (x :: xs) H2 := fun h => by
    obtain ⟨p, ρ2, Z2, F2, R2, g2, r2, h⟩ := Out.take R1 g1 v1 h
    exact ⟨ρ2, Z2, F2, R2, (Out.one (Out.later g2 h)).imp fun p' ρ3 h xs L H3 Z3 F3 R3 g3 b3 l3 m3 t3 => h _ _ _ _ _ R3 (g2.trans g3) b3 l3 m3 (.cons ((R2.rf g3 r2).mono (fun _ z => .inl z) fun _ _ _ q => q) t3)⟩
  split at h
  · rename_i o i
    split at h
    · rename_i y ev
      split at h
      · rename_i hm
        simp only [Bool.and_eq_true, Bool.not_eq_true', List.contains_eq_mem, decide_eq_false_iff_not] at hm
        obtain ⟨L1, h1, h2⟩ := v1
        refine ⟨ρ1, Z1, F1, R1, (Out.one (Out.later g1 h)).imp fun p' ρ3 h xs L H3 Z3 F3 R3 g3 b3 l3 m3 t3 => ?_⟩
        have kp : ∀ b u, b ∈ L1 → H1 b = some u → H3 b = some u := fun b u hb e => g3.keep b u e fun j hj hbj => hm.2 (R1.dj i j b (h2 b hb) hbj ▸ hj)
        refine h _ (L1 ++ L) _ _ _ R3 (g1.trans g3) (fun b hb => ?_) (fun z => nomatch z) (fun _ => hm.1) (.cons ((h1.frz ev).mono (fun b z => ?_) fun b u z e => ?_) (t3.mono fun b hb => List.mem_append_right _ hb))
        · rcases List.mem_append.mp hb with hb | hb
          · cases h1 with
            | dat _ => cases hb
            | ol h r => rw [List.mem_singleton.mp hb]; exact .inl ⟨_, kp _ _ (List.mem_singleton.mpr rfl) h⟩
            | od h r => rw [List.mem_singleton.mp hb]; exact .inr ⟨_, kp _ _ (List.mem_singleton.mpr rfl) h⟩
          · exact b3 b hb
        · exact z.imp (g3.zm b) fun z => List.mem_append_left _ z
        · rcases z with z | z
          · exact g3.keep b u e fun j _ hb => R1.nz j b hb z
          · exact kp b u z e
      · exact kept h
    · exact h.elim
  · exact kept h
theorem a_io (g : Gd S X c W) {m : Bool} {i : Nat} {x : Str} (hc : ckName c i x = true) (hr : PA X es (tA S X.K W m r)) : PA X (.Name x p :: es) (tA S X.K W m (.io i r)) := by
  refine PA.imp (pa_cons (n_var g hc) hr (starE rfl)) fun σ H Q ⟨ρ, Z, F, R, h⟩ => ?_
  unfold evalA at h
  split at h
  · rename_i o e
    obtain ⟨v, hv, _⟩ := R.rep i _ e
    refine ⟨v, hv, ρ, Z, F, R, ((Out.one h).weak fun j hj => List.mem_cons_of_mem _ hj).imp fun p' ρ3 h xs L H3 Z3 F3 R3 g3 b3 l3 m3 t3 => ?_⟩
    split at h
    · rename_i o' e'
      split at h
      · exact h.elim
      · rename_i hn
        simp only [List.contains_eq_mem, decide_eq_true_eq] at hn
        obtain ⟨v', hv', ro⟩ := R3.rep i _ e'
        rw [hv] at hv'
        cases hv'
        exact h _ L _ _ _ R3 (g3.weak fun j hj => List.mem_cons_of_mem _ hj) b3 l3 m3 (.io hv ro hn t3)
    · exact h.elim
  · exact h.elim

theorem AV.inj {K : PySem.W.Frag} {Z : Zs} {H : Hp} {F : Fp} {σ : L2.St} {L : List Addr} : ∀ {as : IA} {xs : List V} {os : List Ob}, AV K Z H F σ L as xs os → ∀ {i j : Nat}, ioAt as j = some i → posA as i = some j
  | _, _, _, .nil, _, _, h => nomatch h
  | _, _, _, .cons _ t, _, 0, h => nomatch h
  | _, _, _, .cons (r := r) _ t, i, j + 1, h => by
    show (posA r i).map (· + 1) = _
    rw [t.inj (i := i) (j := j) h]
    rfl
  | _, _, _, .io _ _ _ t, i, 0, h => by
    cases h
    unfold posA
    rw [if_pos rfl]
  | _, _, _, .io (i := k) (r := r) _ _ n t, i, j + 1, h => by
    have h : ioAt r j = some i := h
    have ne : i ≠ k := fun e => n (by rw [← e]; exact ioAt_mem h)
    unfold posA
    rw [if_neg ne, t.inj h]
    rfl
theorem AV.len {K : PySem.W.Frag} {Z : Zs} {H : Hp} {F : Fp} {σ : L2.St} {L : List Addr} : ∀ {as : IA} {xs : List V} {os : List Ob}, AV K Z H F σ L as xs os → xs.length = os.length
  | _, _, _, .nil => rfl
  | _, _, _, .cons _ t => by rw [List.length_cons, List.length_cons, t.len]
  | _, _, _, .io _ _ _ t => by rw [List.length_cons, List.length_cons, t.len]
def fcA (as : IA) (F : Fp) : Fp := fun j => match ioAt as j with
  | some i => F i
  | none => []
theorem mem_fcA {as : IA} {F : Fp} {j : Nat} {a : Addr} (h : a ∈ fcA as F j) : ∃ i, ioAt as j = some i ∧ a ∈ F i := by
  unfold fcA at h
  split at h
  · exact ⟨_, by assumption, h⟩
  · cases h
theorem AV.rep {K : PySem.W.Frag} {Z : Zs} {H : Hp} {F : Fp} {σ : L2.St} {L : List Addr} : ∀ {as : IA} {xs : List V} {os : List Ob}, AV K Z H F σ L as xs os → ∀ {j : Nat} {o : Ob}, os[j]? = some o → ∃ v, xs[j]? = some v ∧ RO K (fun b => Z b ∨ b ∈ L) H v o (fcA as F j) ∧ ∀ i, ioAt as j = some i → σ[i]? = some (some v)
  | _, _, _, .nil, _, _, h => by simp at h
  | _, _, _, .cons hd t, 0, o, h => by
    have h : some _ = some _ := h
    cases h
    exact ⟨_, rfl, .dat hd, fun i e => nomatch e⟩
  | _, _, _, .cons hd t, j + 1, o, h => by
    obtain ⟨v, h1, h2, h3⟩ := t.rep (j := j) (by simpa using h)
    exact ⟨v, by simpa using h1, h2, h3⟩
  | _, _, _, .io hs h0 n t, 0, o, h => by
    have h : some _ = some _ := h
    cases h
    exact ⟨_, rfl, h0.mono (fun _ z => .inl z) (fun _ _ _ q => q) fun _ _ _ q => q, fun i e => by cases e; exact hs⟩
  | _, _, _, .io hs h0 n t, j + 1, o, h => by
    obtain ⟨v, h1, h2, h3⟩ := t.rep (j := j) (by simpa using h)
    exact ⟨v, by simpa using h1, h2, h3⟩

section
variable {K : PySem.W.Frag} {ρ ρ' : Ev} {σ : L2.St} {H H' : Hp} {Z Z' : Zs} {F F' : Fp} {L : List Addr} {xs : List V} {os : List Ob} {outs : List (Option Ob)}
/-- as the callee finds things -/
theorem AV.rel (R : Rel K ρ σ H Z F) (A : AV K Z H F σ L as xs os) (b : ∀ a ∈ L, Big H a) (n : L ≠ [] → ioT as = []) : Rel K (os.map some) (xs.map some) H (fun b => Z b ∨ b ∈ L) (fcA as F) := by
  refine ⟨by rw [List.length_map, List.length_map, A.len], fun j o e => ?_, fun i j a h1 h2 => ?_, fun j a h z => ?_, fun j a h => ?_, fun a z => ?_⟩
  · rw [List.getElem?_map] at e
    obtain ⟨o', e1, e2⟩ := Option.map_eq_some_iff.mp e
    cases e2
    obtain ⟨v, h1, h2, _⟩ := A.rep e1
    exact ⟨v, by rw [List.getElem?_map, h1]; rfl, h2⟩
  · obtain ⟨i1, e1, m1⟩ := mem_fcA h1
    obtain ⟨i2, e2, m2⟩ := mem_fcA h2
    have := R.dj i1 i2 a m1 m2
    subst this
    have q := A.inj e1
    rw [A.inj e2] at q
    exact (Option.some.inj q).symm
  · obtain ⟨i, e, m⟩ := mem_fcA h
    rcases z with z | z
    · exact R.nz i a m z
    · have := n (fun q => by rw [q] at z; cases z)
      have q := ioAt_mem e
      rw [this] at q
      cases q
  · obtain ⟨i, e, m⟩ := mem_fcA h
    exact R.al i a m
  · rcases z with z | z
    · exact R.za a z
    · rcases b a z with ⟨xs, e⟩ | ⟨xs, e⟩ <;> exact ⟨_, e⟩
def zB (Z Z' : Zs) (L : List Addr) : Zs := fun a => Z' a ∧ (a ∈ L → Z a)
def bkA (as : IA) (F F' : Fp) : Fp := fun i => match posA as i with
  | some j => F' j
  | none => F i
theorem mem_bkA {i : Nat} {a : Addr} (h : a ∈ bkA as F F' i) : (∃ j, posA as i = some j ∧ a ∈ F' j) ∨ (posA as i = none ∧ a ∈ F i) := by
  unfold bkA at h
  split at h
  · exact .inl ⟨_, by assumption, h⟩
  · exact .inr ⟨by assumption, h⟩
theorem not_fc (R : Rel K ρ σ H Z F) {i : Nat} {a : Addr} (e : posA as i = none) (h : a ∈ F i) : ∀ j, a ∉ fcA as F j := fun j hj => by
  obtain ⟨i', e', m⟩ := mem_fcA hj
  have := R.dj i i' a h m
  subst this
  exact posA_none e (ioAt_mem e')
theorem AV.back (R : Rel K ρ σ H Z F) (A : AV K Z H F σ L as xs os) (b : ∀ a ∈ L, Big H a) (n : L ≠ [] → ioT as = []) (hs : setIO as outs ρ = some ρ') (R' : Rel K outs (xs.map some) H' Z' F') (g : GS H (fun b => Z b ∨ b ∈ L) (fcA as F) H' Z' F') :
    Rel K ρ' σ H' (zB Z Z' L) (bkA as F F') ∧ Gr (ioT as) H Z F H' (zB Z Z' L) (bkA as F F') := by
  obtain ⟨hl, hat⟩ := setIO_at hs
  have zz : ∀ a, Z a → zB Z Z' L a := fun a z => ⟨g.zm a (.inl z), fun _ => z⟩
  have kz : ∀ a o, Z a → H a = some o → H' a = some o := fun a o z e => g.keep a o e fun j hj => by
    obtain ⟨i, _, m⟩ := mem_fcA hj
    exact R.nz i a m z
  have noL : ∀ {i j : Nat}, posA as i = some j → L = [] := fun {i j} e => by
    refine Classical.byContradiction fun q => ?_
    have h := posA_mem e
    rw [n q] at h
    cases h
  refine ⟨⟨hl.trans R.len, fun i o e => ?_, fun i1 i2 a h1 h2 => ?_, fun i a h z => ?_, fun i a h => ?_, fun a z => R'.za a z.1⟩, ⟨fun a o e q => g.keep a o e fun j hj => ?_, g.am, zz, fun a z => ?_, fun i a h => ?_⟩⟩
  · unfold bkA
    split
    · rename_i j ep
      obtain ⟨o', h1, h2⟩ := (hat i).2 j ep
      have eo : o' = o := by
        rcases h2 with h2 | h2
        · rw [h2] at e; exact Option.some.inj (Option.some.inj e)
        · rw [h2] at e; cases e
      subst eo
      obtain ⟨v, h3, h4⟩ := R'.rep j o' h1
      rw [List.getElem?_map] at h3
      obtain ⟨v', h5, h6⟩ := Option.map_eq_some_iff.mp h3
      cases h6
      have hlt : j < os.length := by
        rw [← A.len]
        exact (List.getElem?_eq_some_iff.mp h5).1
      obtain ⟨v2, h7, _, h8⟩ := A.rep (List.getElem?_eq_getElem hlt)
      rw [h5] at h7
      cases h7
      exact ⟨v, h8 i (posA_at ep), h4.mono (fun a z => ⟨z, fun q => by rw [noL ep] at q; cases q⟩) (fun _ _ _ q => q) fun _ _ _ q => q⟩
    · rename_i ep
      rw [(hat i).1 ep] at e
      obtain ⟨v, h1, h2⟩ := R.rep i o e
      exact ⟨v, h1, h2.mono zz (fun a u z q => kz a u z q) fun a u ha q => g.keep a u q (not_fc R ep ha)⟩
  · rcases mem_bkA h1 with ⟨j1, e1, m1⟩ | ⟨e1, m1⟩ <;> rcases mem_bkA h2 with ⟨j2, e2, m2⟩ | ⟨e2, m2⟩
    · have := R'.dj j1 j2 a m1 m2
      subst this
      have q := posA_at e1
      rw [posA_at e2] at q
      exact (Option.some.inj q).symm
    · rcases g.fn j1 a m1 with h | ⟨j, h⟩
      · obtain ⟨o, e⟩ := R.al i2 a m2
        rw [h] at e; cases e
      · exact absurd h (not_fc R e2 m2 j)
    · rcases g.fn j2 a m2 with h | ⟨j, h⟩
      · obtain ⟨o, e⟩ := R.al i1 a m1
        rw [h] at e; cases e
      · exact absurd h (not_fc R e1 m1 j)
    · exact R.dj i1 i2 a m1 m2
  · rcases mem_bkA h with ⟨j, e, m⟩ | ⟨e, m⟩
    · exact R'.nz j a m z.1
    · rcases g.zn a z.1 with (q | q) | q | ⟨j, q⟩
      · exact R.nz i a m q
      · exact R.nz i a m (z.2 q)
      · obtain ⟨o, e'⟩ := R.al i a m
        rw [q] at e'; cases e'
      · exact not_fc R e m j q
  · rcases mem_bkA h with ⟨j, e, m⟩ | ⟨e, m⟩
    · exact R'.al j a m
    · obtain ⟨o, e'⟩ := R.al i a m
      exact ⟨o, g.keep a o e' (not_fc R e m)⟩
  · obtain ⟨i, e', m⟩ := mem_fcA hj
    exact q i (ioAt_mem e') m
  · rcases g.zn a z.1 with (q | q) | q | ⟨j, q⟩
    · exact .inl q
    · exact .inl (z.2 q)
    · exact .inr (.inl q)
    · obtain ⟨i, _, m⟩ := mem_fcA q
      exact .inr (.inr ⟨i, m⟩)
  · rcases mem_bkA h with ⟨j, e, m⟩ | ⟨e, m⟩
    · rcases g.fn j a m with h | ⟨j', h⟩
      · exact .inr (.inl h)
      · obtain ⟨i', e', m'⟩ := mem_fcA h
        exact .inr (.inr ⟨i', ioAt_mem e', m'⟩)
    · exact .inl m
theorem RR.rv {x : V} {v : Vl} (R : Rel K ρ σ H Z F) (A : AV K Z H F σ L as xs os) (b : ∀ a ∈ L, Big H a) (n : L ≠ [] → ioT as = []) (R' : Rel K outs (xs.map some) H' Z' F') (g : GS H (fun b => Z b ∨ b ∈ L) (fcA as F) H' Z' F') (hc : L = [] ∨ v.clean = true)
    (h : RR K H (fcA as F) Z' H' F' x v) : RV K H F (zB Z Z' L) H' (bkA as F F') x v := by
  have tz : ∀ a xs, Z' a → Rd H' a (.tup xs) → zB Z Z' L a := fun a ts z rd => ⟨z, fun q => by
    have hn : L ≠ [] := fun e => by rw [e] at q; cases q
    have kp : ∀ o, H a = some o → H' a = some o := fun o e => g.keep a o e fun j hj => by
      obtain ⟨i, e', _⟩ := mem_fcA hj
      have m := ioAt_mem e'
      rw [n hn] at m
      cases m
    rcases b a q with ⟨ys, e⟩ | ⟨ys, e⟩ <;> rcases rd with rd | ⟨o, rd⟩ <;> (rw [kp _ e] at rd; cases rd)⟩
  have all : L = [] → ∀ a, Z' a → zB Z Z' L a := fun e a z => ⟨z, fun q => by rw [e] at q; cases q⟩
  cases v with
  | d p =>
    rcases hc with e | hc
    · exact RF.mono (all e) (fun _ _ _ q => q) h
    · exact RF.flat h hc tz
  | pk o i => exact h.elim
  | fr o =>
    obtain ⟨L', h1, h2⟩ := h
    refine ⟨L', ?_, fun a ha => ⟨fun z => (h2 a ha).1 z.1, fun i hi => ?_, ?_⟩⟩
    · rcases hc with e | hc
      · exact h1.mono (all e) (fun _ _ _ q => q) fun _ _ _ q => q
      · cases h1 with
        | dat h => exact .dat (RF.flat h hc tz)
        | ol h r => exact .ol h (RFs.flat r hc tz)
        | od h r => exact nomatch hc
    · rcases mem_bkA hi with ⟨j, e, m⟩ | ⟨e, m⟩
      · exact (h2 a ha).2.1 j m
      · rcases (h2 a ha).2.2 with q | ⟨j, q⟩
        · obtain ⟨o, e'⟩ := R.al i a m
          rw [q] at e'; cases e'
        · exact not_fc R e m j q
    · rcases (h2 a ha).2.2 with q | ⟨j, q⟩
      · exact .inl q
      · obtain ⟨i, _, m⟩ := mem_fcA q
        exact .inr ⟨i, m⟩
end
/-- f(a, ..), f of the text -/
theorem e_cal (g : Gd S X c W) {f : Nat} {x : Str} (h1 : S.T.fns[f]? = some x) (h2 : c.glo x = true) (h3 : odd x = false) (hk : ckA S.T c as (e :: es) = true) (hx : ∀ σ, PassesAt (L2.CX X.prog X.w) X σ (fun cl d H => W cl d σ H))
    (ha : PA X (e :: es) (tA S X.K W (ioT as).isEmpty as)) (hs : starEach (e :: es) X.env = (false, eval e X.env) :: starEach es X.env) (hp : (backTo pos (starEach es X.env)).any (·.1) = false) :
    PE X (.Call (.Name x p) (e :: es) [] pos) (tE S X.K W (.cal f as)) := by
  obtain ⟨fa, fd, ps, m1, m2, m3, m4⟩ := g.fx.fns f x h1
  refine PE.imp (pe_callG (E := fun σ cl d H => W cl d σ H) m4 g.room g.gds (g.glo h2) m1 m2 m3 hx ha (odd_of h3).1 hs hp) fun σ H Q ⟨ρ, Z, F, R, h⟩ => ?_
  unfold evalE at h
  refine ⟨ρ, Z, F, R, (Out.one h).imp fun p ρ1 h xs L H1 Z1 F1 R1 g1 b1 l1 n1 A => ?_⟩
  have nL : L ≠ [] → ioT as = [] := fun q => by
    have hm := n1 fun e => q (l1 e)
    simpa using hm
  refine ⟨p.1, _, _, A.len, A.rel R1 b1 nL, ?_⟩
  have w : ∀ i ∈ ioA as ++ ioT as, i ∈ ioE (.cal f as) := fun i hi => (List.mem_append.mp hi).elim id ioT_sub
  cases hC : S.C f p.1 with
  | ok v outs =>
    rw [hC] at h
    have h : Out S X.K W _ σ H Z F (if p.2.isEmpty || v.clean then _ else _) _ := h
    split at h
    · rename_i hcl
      cases hs : setIO as outs ρ1 with
      | none => rw [hs] at h; exact h.elim
      | some ρ2 =>
        rw [hs] at h
        intro y H' Z' F' R' g' rr
        obtain ⟨R2, g2⟩ := A.back R1 b1 nL hs R' g'
        have hc : L = [] ∨ v.clean = true := by
          simp only [Bool.or_eq_true, List.isEmpty_iff] at hcl
          exact hcl.imp l1 id
        exact h y _ _ _ R2 ((g1.trans g2).weak w) ((RR.rv R1 A b1 nL R' g' hc rr).back g1)
    · exact h.elim
  | ex e outs =>
    rw [hC] at h
    dsimp only at h
    cases hs : setIO as outs ρ1 with
    | none => rw [hs] at h; exact h.elim
    | some ρ2 =>
      rw [hs] at h
      intro cl d H' Z' F' R' g' hrx
      obtain ⟨R2, g2⟩ := A.back R1 b1 nL hs R' g'
      exact h cl d _ _ _ R2 ((g1.trans g2).weak w) hrx
  | no => rw [hC] at h; exact h.elim
end
end TL
set_option Elab.async false
set_option linter.all false
set_option maxRecDepth 100000
set_option maxHeartbeats 2000000
namespace TL
open PySem PySem.Spec L2

/-- slots but those of l are as they were -/
structure Ag (l : List Nat) (σ σ' : L2.St) : Prop where
  len : σ'.length = σ.length
  at_ : ∀ i, i ∉ l → σ'[i]? = σ[i]?
theorem Ag.refl {l : List Nat} {σ : L2.St} : Ag l σ σ := ⟨rfl, fun _ _ => rfl⟩
theorem Ag.trans {l l' : List Nat} {σ σ1 σ2 : L2.St} (h : Ag l σ σ1) (k : Ag l' σ1 σ2) : Ag (l ++ l') σ σ2 :=
  ⟨k.len.trans h.len, fun i n => (k.at_ i fun m => n (List.mem_append_right _ m)).trans (h.at_ i fun m => n (List.mem_append_left _ m))⟩
theorem Ag.weak {l l' : List Nat} {σ σ1 : L2.St} (h : Ag l σ σ1) (w : ∀ i ∈ l, i ∈ l') : Ag l' σ σ1 := ⟨h.len, fun i n => h.at_ i fun m => n (w i m)⟩
theorem Ag.set {i : Nat} {σ : L2.St} {o : Option V} : Ag [i] σ (σ.set i o) := ⟨List.length_set, fun j n => List.getElem?_set_ne fun e => n (List.mem_singleton.mpr e.symm)⟩
theorem PG.imp {X : Cx} {e : Expr} {t t' : TG} (h : PG X e t) (f : ∀ v σ H Q, t' v σ H Q → t v σ H Q) : PG X e t' := ⟨fun pins s σ H v u Q I r q => h.run pins s σ H v u Q I r (f v σ H Q q)⟩
theorem PGs.imp {X : Cx} {e : List Expr} {t t' : TGs} (h : PGs X e t) (f : ∀ v σ H Q, t' v σ H Q → t v σ H Q) : PGs X e t' := ⟨fun pins s σ H v u Q I r q => h.run pins s σ H v u Q I r (f v σ H Q q)⟩
theorem PG.or {X : Cx} {e : Expr} {t u : TG} (h : PG X e t) (k : PG X e u) : PG X e (fun v σ H Q => t v σ H Q ∨ u v σ H Q) :=
  ⟨fun pins s σ H v w Q I r q => q.elim (fun q => h.run pins s σ H v w Q I r q) fun q => k.run pins s σ H v w Q I r q⟩
theorem PI.imp {X : Cx} {tg e : Expr} {t t' : TI} (h : PI X tg e t) (f : ∀ σ H R, t' σ H R → t σ H R) : PI X tg e t' := ⟨fun pins s σ H R I q => h.run pins s σ H R I (f σ H R q)⟩
theorem PI.or {X : Cx} {tg e : Expr} {t u : TI} (h : PI X tg e t) (k : PI X tg e u) : PI X tg e (fun σ H R => t σ H R ∨ u σ H R) :=
  ⟨fun pins s σ H R I q => q.elim (fun q => h.run pins s σ H R I q) fun q => k.run pins s σ H R I q⟩

def tGt (K : PySem.W.Frag) (t : IT) : TG := fun v σ H Q => ∃ ρ Z F d ρ', Rel K ρ σ H Z F ∧ RF K Z H v d ∧ assignT t d ρ = some ρ' ∧
  ∀ σ' F', Rel K ρ' σ' H Z F' → (∀ i a, a ∈ F' i → a ∈ F i) → Ag (asT t) σ σ' → Q σ' H
def tGts (K : PySem.W.Frag) (l : ITs) : TGs := fun vs σ H Q => ∃ ρ Z F ds ρ', Rel K ρ σ H Z F ∧ RFs K Z H vs ds ∧ assignTs l ds ρ = some ρ' ∧
  ∀ σ' F', Rel K ρ' σ' H Z F' → (∀ i a, a ∈ F' i → a ∈ F i) → Ag (asTs l) σ σ' → Q σ' H

theorem ckT_name {c : Sc} {i : Nat} {e : Expr} (h : ckT c (.nm i) e = true) : ∃ x p, e = .Name x p ∧ c.N[i]? = some x ∧ c.sto x = true ∧ odd x = false := by
  cases e with
  | Name x p =>
    unfold ckT at h
    simp only [Bool.and_eq_true, Bool.not_eq_true'] at h
    exact ⟨x, p, rfl, eq_of_beq h.1.1, h.1.2, h.2⟩
  | _ => unfold ckT at h; cases h
theorem ckT_tup {c : Sc} {l : ITs} {e : Expr} (h : ckT c (.tp l) e = true) : ∃ es k p, e = .Tuple es k p ∧ ckTs c l es = true := by
  cases e with
  | Tuple es k p => unfold ckT at h; exact ⟨es, k, p, rfl, h⟩
  | _ => unfold ckT at h; cases h
theorem ckT_plain {c : Sc} {t : IT} {e : Expr} (h : ckT c t e = true) : ∀ (es : List Expr) (env : Env), assignEach (e :: es) env = (false, assign e env) :: assignEach es env := by
  cases t with
  | nm i => obtain ⟨x, p, rfl, _⟩ := ckT_name h; intro _ _; rfl
  | tp l => obtain ⟨es, k, p, rfl, _⟩ := ckT_tup h; intro _ _; rfl
theorem ckTs_plain {c : Sc} : ∀ {l : ITs} {es : List Expr}, ckTs c l es = true → ∀ env : Env, (assignEach es env).length = es.length ∧ (assignEach es env).findIdx? (·.1) = none
  | .nil, [], _, _ => ⟨rfl, rfl⟩
  | .nil, _ :: _, h, _ => by unfold ckTs at h; cases h
  | .cons _ _, [], h, _ => by unfold ckTs at h; cases h
  | .cons t l, e :: es, h, env => by
    unfold ckTs at h
    rw [Bool.and_eq_true] at h
    obtain ⟨h1, h2⟩ := ckTs_plain (es := es) h.2 env
    rw [ckT_plain h.1]
    refine ⟨by rw [List.length_cons, List.length_cons, h1], ?_⟩
    rw [List.findIdx?_cons, h2]
    rfl
section
variable {S : Sg} {X : Cx} {c : Sc} {W : WX}
theorem Gd.sto (g : Gd S X c W) {x : Str} (h : c.sto x = true) : L2.Loc X.env.scope x ∧ (X.fn x = true ∨ X.env.scope.names.lookup x = some .local) := by
  unfold Sc.sto at h
  unfold L2.Loc
  rw [g.names, g.fn]
  split at h
  · exact ⟨.inl (by assumption), .inr (by assumption)⟩
  · exact ⟨.inr (by assumption), .inl h⟩
  · cases h
theorem assignTs_len : ∀ {l : ITs} {ds : List Pd} {ρ ρ' : Ev} {es : List Expr}, assignTs l ds ρ = some ρ' → ckTs c l es = true → ds.length = es.length
  | .nil, [], _, _, [], _, _ => rfl
  | .nil, _ :: _, _, _, _, e, _ => nomatch e
  | .nil, _, _, _, _ :: _, _, k => nomatch k
  | .cons _ _, _, _, _, [], _, k => nomatch k
  | .cons _ _, [], _, _, _, e, _ => nomatch e
  | .cons t l, d :: ds, ρ, ρ', x :: es, e, k => by
    have e : (assignT t d ρ).bind _ = some ρ' := e
    have k : (ckT c t x && ckTs c l es) = true := k
    rw [Bool.and_eq_true] at k
    obtain ⟨_, _, e2⟩ := Option.bind_eq_some_iff.mp e
    rw [List.length_cons, List.length_cons, assignTs_len e2 k.2]
mutual
theorem g_ok (g : Gd S X c W) : ∀ {t : IT} {e : Expr}, ckT c t e = true → PG X e (tGt X.K t)
  | .nm i, e, h => by
    obtain ⟨x, p, rfl, h1, h2, h3⟩ := ckT_name h
    obtain ⟨l1, l2⟩ := g.sto h2
    refine PG.imp (pg_name (i := i) g.nd (by rw [g.N]; exact h1) l1 l2) fun v σ H Q ⟨ρ, Z, F, d, ρ', R, r, ea, h⟩ => ?_
    unfold assignT at ea
    cases ea
    refine h _ _ (R.store (L := []) (.dat r) (fun _ h => nomatch h) fun _ h => nomatch h) (fun j a ha => ?_) Ag.set
    rcases mem_fset ha with ⟨_, m⟩ | ⟨_, m⟩
    · cases m
    · exact m
  | .tp l, e, h => by
    obtain ⟨es, k, p, rfl, hl⟩ := ckT_tup h
    have G := gs_ok g hl
    obtain ⟨n1, n2⟩ := ckTs_plain hl X.env
    refine PG.imp (PG.or (pg_tup g.calm G n1 n2) (pg_unl g.calm G n1 n2)) fun v σ H Q ⟨ρ, Z, F, d, ρ', R, r, ea, h⟩ => ?_
    cases d with
    | tuple ds =>
      have ea : assignTs l ds ρ = some ρ' := ea
      obtain ⟨a, xs, e1, e2, e3⟩ := (RI.tuple (.rf r)).2
      exact .inl ⟨a, xs, e1, e2, e3.length.trans (assignTs_len ea hl), ρ, Z, F, _, ρ', R, e3, ea, h⟩
    | list ds =>
      have ea : assignTs l ds ρ = some ρ' := ea
      obtain ⟨a, xs, e1, e2, e3⟩ := RI.list (.rf r)
      exact .inr ⟨a, xs, e1, e2.sq, e3.length.trans (assignTs_len ea hl), ρ, Z, F, _, ρ', R, e3, ea, h⟩
    | _ => exact nomatch ea
theorem gs_ok (g : Gd S X c W) : ∀ {l : ITs} {es : List Expr}, ckTs c l es = true → PGs X es (tGts X.K l)
  | .nil, [], _ => PGs.imp pgs_nil fun v σ H Q ⟨ρ, Z, F, d, ρ', R, r, ea, h⟩ => by
    cases r with
    | nil =>
      have ea : some ρ = some ρ' := ea
      cases ea
      exact ⟨rfl, h σ F R (fun _ _ h => h) Ag.refl⟩
    | cons _ _ => exact nomatch ea
  | .nil, _ :: _, h => by unfold ckTs at h; cases h
  | .cons _ _, [], h => by unfold ckTs at h; cases h
  | .cons t l, e :: es, h => by
    unfold ckTs at h
    rw [Bool.and_eq_true] at h
    refine PGs.imp (pgs_cons (g_ok g h.1) (gs_ok g h.2) (by rw [ckT_plain h.1]; rfl)) fun v σ H Q ⟨ρ, Z, F, d, ρ', R, r, ea, h⟩ => ?_
    cases r with
    | nil => unfold assignTs at ea; cases ea
    | cons r1 r2 =>
      unfold assignTs at ea
      obtain ⟨ρ1, e1, e2⟩ := Option.bind_eq_some_iff.mp ea
      refine ⟨_, _, rfl, ρ, Z, F, _, ρ1, R, r1, e1, fun σ1 F1 R1 f1 a1 => ?_⟩
      exact ⟨ρ1, Z, F1, _, ρ', R1, r2, e2, fun σ2 F2 R2 f2 a2 => h σ2 F2 R2 (fun i a m => f1 i a (f2 i a m)) (a1.trans a2)⟩
end
end
end TL
set_option Elab.async false
set_option linter.all false
set_option maxRecDepth 100000
set_option maxHeartbeats 2000000
namespace TL
open PySem PySem.Spec L2

/-- onward, whatever is done to things that were not there at Hw -/
structure GW (Hw : Hp) (H : Hp) (Z : Zs) (F : Fp) (H' : Hp) (Z' : Zs) (F' : Fp) : Prop where
  keep : ∀ a o, (∃ u, Hw a = some u) → H a = some o → (∀ i, a ∉ F i) → H' a = some o
  am : ∀ a, H' a = none → H a = none
  zm : ∀ a, Z a → Z' a
  zn : ∀ a, Z' a → Z a ∨ H a = none ∨ ∃ i, a ∈ F i
  fn : ∀ i a, a ∈ F' i → H a = none ∨ ∃ j, a ∈ F j
theorem GS.gw {Hw H H' : Hp} {Z Z' : Zs} {F F' : Fp} (g : GS H Z F H' Z' F') : GW Hw H Z F H' Z' F' := ⟨fun a o _ e n => g.keep a o e n, g.am, g.zm, g.zn, g.fn⟩

/-- a thing that is looked at for long: x reads as d, its own address (if any) is nobody's -/
structure Lk (K : PySem.W.Frag) (Zw : Zs) (Hw : Hp) (x : V) (d : Pd) (o : Ob) (L : List Addr) (Z : Zs) (F : Fp) (H : Hp) : Prop where
  vw : o.view = some d
  ro : RO K Zw H x o L
  hw : ∀ a ∈ L, ∃ u, Hw a = some u
  zw : ∀ a, Zw a → ∃ u, Hw a = some u
  sub : ∀ a, Zw a → Z a
  al : ∀ a ∈ L, ∃ u, H a = some u
  out : ∀ a ∈ L, ¬ Z a ∧ ∀ i, a ∉ F i
section
variable {K : PySem.W.Frag} {Zw Z Z' : Zs} {Hw H H' : Hp} {F F' : Fp} {x : V} {d : Pd} {o : Ob} {L : List Addr} {ρ ρ' : Ev} {σ : L2.St}
theorem Lk.step (l : Lk K Zw Hw x d o L Z F H) (R : Rel K ρ σ H Z F) (g : GW Hw H Z F H' Z' F') : Lk K Zw Hw x d o L Z' F' H' := by
  have kl : ∀ a u, a ∈ L → H a = some u → H' a = some u := fun a u ha e => g.keep a u (l.hw a ha) e (l.out a ha).2
  refine ⟨l.vw, l.ro.mono (fun _ z => z) (fun a u z e => g.keep a u (l.zw a z) e fun i hi => R.nz i a hi (l.sub a z)) kl, l.hw, l.zw, fun a z => g.zm a (l.sub a z), fun a ha => ?_, fun a ha => ⟨fun z => ?_, fun i hi => ?_⟩⟩
  · obtain ⟨u, e⟩ := l.al a ha
    exact ⟨u, kl a u ha e⟩
  · obtain ⟨u, e⟩ := l.al a ha
    rcases g.zn a z with q | q | ⟨i, q⟩
    · exact (l.out a ha).1 q
    · rw [q] at e; cases e
    · exact (l.out a ha).2 i q
  · obtain ⟨u, e⟩ := l.al a ha
    rcases g.fn i a hi with q | ⟨j, q⟩
    · rw [q] at e; cases e
    · exact (l.out a ha).2 j q
theorem Lk.now (l : Lk K Zw Hw x d o L Z F H) : RI K Z H x d := (l.ro.mono l.sub (fun _ _ _ q => q) fun _ _ _ q => q).ri l.vw

/-- hidden for a walk -/
theorem peek_ok {H0 : Hp} {F0 : Fp} {v : Vl} {hid : List (Nat × Ob)} (R : Rel K ρ σ H Z F) (rv : RV K H0 F0 Z H F x v) (e : peekIt v ρ = .ok (d, hid) ρ') :
    ∃ F' o L, Rel K ρ' σ H Z F' ∧ (∀ i a, a ∈ F' i → a ∈ F i) ∧ Lk K Z H x d o L Z F' H ∧ (hid = [] ∨ ∃ i, hid = [(i, o)] ∧ σ[i]? = some (some x) ∧ ∀ a ∈ L, a ∈ F i) := by
  unfold peekIt at e
  split at e
  · cases e
    exact ⟨F, .dat d, [], R, fun _ _ h => h, ⟨rfl, .dat rv, fun _ h => (nomatch h), R.za, fun _ z => z, fun _ h => (nomatch h), fun _ h => (nomatch h)⟩, .inl rfl⟩
  · rename_i o
    cases ev : o.view with
    | none => rw [ev] at e; cases e
    | some p =>
      rw [ev] at e
      cases e
      obtain ⟨L, h1, h2⟩ := rv
      exact ⟨F, o, L, R, fun _ _ h => h, ⟨ev, h1, h1.al, R.za, fun _ z => z, h1.al, fun a ha => ⟨(h2 a ha).1, (h2 a ha).2.1⟩⟩, .inl rfl⟩
  · rename_i ds i
    obtain ⟨L, h1, h2⟩ := rv
    split at e
    · rename_i o' e'
      cases e
      cases h1 with
      | @ol a xs ds h r =>
        have ai := h2 a (List.mem_singleton.mpr rfl)
        obtain ⟨p1, p2⟩ := pk_own (x := .ref a) (o := o') (L := []) R e' ai
        refine ⟨_, .ol ds, [a], R.drop (i := i), fun j b m => (mem_fset m).elim (fun m => nomatch m.2) fun m => m.2, ⟨rfl, .ol h r, (RO.ol h r).al, R.za, fun _ z => z, (RO.ol h r).al, fun b hb => ?_⟩, .inr ⟨i, rfl, p1, h2⟩⟩
        rw [List.mem_singleton.mp hb]
        refine ⟨R.nz i a ai, fun j m => ?_⟩
        rcases mem_fset m with ⟨_, m⟩ | ⟨n, m⟩
        · cases m
        · exact n (R.dj j i a m ai)
    · cases e
  · cases e
theorem peek_no {v : Vl} {e : Ex} : peekIt v ρ ≠ .ex e ρ' := by
  intro h
  unfold peekIt at h
  split at h
  · cases h
  · rename_i o
    cases ev : o.view with
    | none => rw [ev] at h; cases h
    | some p => rw [ev] at h; cases h
  · split at h <;> cases h
  · cases h
theorem Gr.shrink {io : List Nat} (h : ∀ i a, a ∈ F' i → a ∈ F i) : Gr io H Z F H Z F' := ⟨fun _ _ e _ => e, fun _ e => e, fun _ z => z, fun _ z => .inl z, fun i a m => .inl (h i a m)⟩
end

/-- a walk over ds by J; hid: what is hidden meanwhile; H0, F0: as things stood at the start -/
structure WkP (K : PySem.W.Frag) (σ0 : L2.St) (io : List Nat) (H0 : Hp) (F0 : Fp) (J : It) (ds : List Pd) (hid : List (Nat × Ob)) (Hw : Hp) (P : Zs → Fp → Hp → Prop) (Hd : Addr → Prop) : Prop where
  hd : ∀ {Z : Zs} {F : Fp} {H : Hp} {a : Addr}, P Z F H → Hd a → (∃ u, H a = some u) ∧ ∀ i, a ∉ F i
  step : ∀ {ρ : Ev} {σ : L2.St} {Z Z' : Zs} {F F' : Fp} {H H' : Hp}, P Z F H → Rel K ρ σ H Z F → GW Hw H Z F H' Z' F' → P Z' F' H'
  go : ∀ {i : Nat} {d : Pd} {Z : Zs} {F : Fp} {H : Hp}, P Z F H → ds[i]? = some d → J.go i H ∧ ∀ x H', J.yld i H x H' → ∃ Z', RF K Z' H' x d ∧ Gr [] H Z F H' Z' F ∧ ∀ {ρ : Ev} {σ : L2.St}, Rel K ρ σ H Z F → Rel K ρ σ H' Z' F
  stop : ∀ {Z : Zs} {F : Fp} {H : Hp}, P Z F H → J.stop ds.length H
  back : ∀ {ρ : Ev} {σ : L2.St} {Z : Zs} {F : Fp} {H : Hp}, P Z F H → Rel K ρ σ H Z F → (∀ q ∈ hid, σ[q.1]? = σ0[q.1]?) → ∃ F', Rel K (unhide hid ρ) σ H Z F' ∧
    ∀ i a, a ∈ F' i → a ∈ F i ∨ (Hd a ∧ (∃ u, Hw a = some u) ∧ (a ∈ F0 i ∨ H0 a = none ∨ ∃ j ∈ io, a ∈ F0 j))
def Wk (K : PySem.W.Frag) (σ0 : L2.St) (io : List Nat) (H0 : Hp) (F0 : Fp) (J : It) (ds : List Pd) (hid : List (Nat × Ob)) (Z : Zs) (F : Fp) (H : Hp) : Prop :=
  ∃ P Hd, P Z F H ∧ WkP K σ0 io H0 F0 J ds hid H P Hd
def tI (S : Sg) (K : PySem.W.Frag) (W : WX) (it : II) : TI := fun σ H R => ∃ ρ Z F, Rel K ρ σ H Z F ∧ Out S K W (ioI it) σ H Z F (evalI S.G S.C it ρ) fun p ρ' =>
  ∀ J H' Z' F', Rel K ρ' σ H' Z' F' → Gr (ioI it) H Z F H' Z' F' → Wk K σ (ioI it) H F J p.1 p.2 Z' F' H' → R J H'

section
variable {K : PySem.W.Frag} {Zw Z Z' Z0 Z1 : Zs} {Hw H H' H0 H1 : Hp} {F F' F0 F1 : Fp} {x y : V} {d : Pd} {o : Ob} {L : List Addr} {ρ ρ' : Ev} {σ : L2.St} {io : List Nat} {hid : List (Nat × Ob)}
/-- a hidden thing comes back -/
theorem Lk.back (g : Gr io H0 Z0 F0 H1 Z1 F1) (hh : hid = [] ∨ ∃ i, hid = [(i, o)] ∧ σ[i]? = some (some x) ∧ ∀ a ∈ L, a ∈ F1 i) {σ' : L2.St} (l : Lk K Zw Hw x d o L Z F H) (R : Rel K ρ σ' H Z F) (hs : ∀ q ∈ hid, σ'[q.1]? = σ[q.1]?) :
    ∃ F', Rel K (unhide hid ρ) σ' H Z F' ∧ ∀ i a, a ∈ F' i → a ∈ F i ∨ (a ∈ L ∧ (∃ u, Hw a = some u) ∧ (a ∈ F0 i ∨ H0 a = none ∨ ∃ j ∈ io, a ∈ F0 j)) := by
  rcases hh with rfl | ⟨i, rfl, h1, h2⟩
  · exact ⟨F, R, fun i a m => .inl m⟩
  · have hv := hs _ (List.mem_singleton.mpr rfl)
    have hv : σ'[i]? = σ[i]? := hv
    refine ⟨fset F i L, R.put (o := some o) (fun u eu _ => ?_) (fun a ha j _ => (l.out a ha).2 j) (fun a ha => (l.out a ha).1) l.al, fun j a m => ?_⟩
    · cases eu
      exact ⟨x, by rw [hv]; exact h1, l.ro.mono l.sub (fun _ _ _ q => q) fun _ _ _ q => q⟩
    · rcases mem_fset m with ⟨e, m2⟩ | ⟨_, m2⟩
      · rw [e]
        exact .inr ⟨m2, l.hw a m2, g.fn i a (h2 a m2)⟩
      · exact .inl m2
/-- from a look at a list: turns -/
theorem wk_list {io : List Nat} {ds : List Pd} {hid : List (Nat × Ob)} {a : Addr} (g : Gr io H0 Z0 F0 H1 Z1 F1) (hh : hid = [] ∨ ∃ i, hid = [(i, o)] ∧ σ[i]? = some (some (.ref a)) ∧ ∀ b ∈ L, b ∈ F1 i) (l : Lk K Z H (.ref a) (.list ds) o L Z F H) :
    Wk K σ io H0 F0 (Itl K a) ds hid Z F H := by
  have cur : ∀ {Z' : Zs} {F' : Fp} {H' : Hp}, Lk K Z H (.ref a) (.list ds) o L Z' F' H' → ∃ xs, SqL K H' a xs ∧ RFs K Z' H' xs ds := fun l => by
    obtain ⟨b, xs, e, h1, h2⟩ := l.now.list
    cases e
    exact ⟨xs, h1.sq, h2⟩
  refine ⟨fun Z' F' H' => Lk K Z H (.ref a) (.list ds) o L Z' F' H', fun a => a ∈ L, l, ⟨fun l m => ⟨l.al _ m, (l.out _ m).2⟩, fun l R g => l.step R g, fun {i d Z' F' H'} l e => ?_, fun {Z' F' H'} l => ?_, fun {ρ σ' Z' F' H'} l R hs => ?_⟩⟩
  · obtain ⟨xs, h1, h2⟩ := cur l
    obtain ⟨x, hx, _⟩ := h2.get e
    refine ⟨⟨xs, x, h1, hx⟩, fun y H2 ⟨e2, hy⟩ => ?_⟩
    subst e2
    obtain ⟨d', e3, r⟩ := h2.get' (hy xs h1)
    rw [e] at e3
    cases e3
    exact ⟨Z', r, Gr.refl, fun R => R⟩
  · obtain ⟨xs, h1, h2⟩ := cur l
    exact ⟨xs, h1, Nat.le_of_eq h2.length⟩
  · obtain ⟨F2, R2, f2⟩ := Lk.back g hh l R hs
    exact ⟨F2, R2, f2⟩
theorem wk_tup {io : List Nat} {ds : List Pd} {hid : List (Nat × Ob)} {a : Addr} (g : Gr io H0 Z0 F0 H1 Z1 F1) (hh : hid = [] ∨ ∃ i, hid = [(i, o)] ∧ σ[i]? = some (some (.ref a)) ∧ ∀ b ∈ L, b ∈ F1 i) (l : Lk K Z H (.ref a) (.tuple ds) o L Z F H) :
    Wk K σ io H0 F0 (Itt K a) ds hid Z F H := by
  have cur : ∀ {Z' : Zs} {F' : Fp} {H' : Hp}, Lk K Z H (.ref a) (.tuple ds) o L Z' F' H' → ∃ xs, SqT K H' a xs ∧ RFs K Z' H' xs ds := fun l => by
    obtain ⟨_, b, xs, e, h1, h2⟩ := l.now.tuple
    cases e
    exact ⟨xs, h1, h2⟩
  refine ⟨fun Z' F' H' => Lk K Z H (.ref a) (.tuple ds) o L Z' F' H', fun a => a ∈ L, l, ⟨fun l m => ⟨l.al _ m, (l.out _ m).2⟩, fun l R g => l.step R g, fun {i d Z' F' H'} l e => ?_, fun {Z' F' H'} l => ?_, fun {ρ σ' Z' F' H'} l R hs => ?_⟩⟩
  · obtain ⟨xs, h1, h2⟩ := cur l
    obtain ⟨x, hx, _⟩ := h2.get e
    refine ⟨⟨xs, x, h1, hx⟩, fun y H2 ⟨e2, hy⟩ => ?_⟩
    subst e2
    obtain ⟨d', e3, r⟩ := h2.get' (hy xs h1)
    rw [e] at e3
    cases e3
    exact ⟨Z', r, Gr.refl, fun R => R⟩
  · obtain ⟨xs, h1, h2⟩ := cur l
    exact ⟨xs, h1, Nat.le_of_eq h2.length⟩
  · obtain ⟨F2, R2, f2⟩ := Lk.back g hh l R hs
    exact ⟨F2, R2, f2⟩
theorem enumD_at : ∀ {ds : List Pd} {st : Int} {i : Nat} {d : Pd}, (enumD st ds)[i]? = some d → ∃ p, ds[i]? = some p ∧ d = .tuple [.int (st + (i : Int)), p]
  | [], _, _, _, e => by simp [enumD] at e
  | x :: xs, st, 0, d, e => by
    have e : some _ = some d := e
    cases e
    refine ⟨x, rfl, ?_⟩
    simp
  | x :: xs, st, i + 1, d, e => by
    have e : (enumD (st + 1) xs)[i]? = some d := by simpa [enumD] using e
    obtain ⟨p, h1, h2⟩ := enumD_at e
    refine ⟨p, by simpa using h1, ?_⟩
    rw [h2]
    have : st + 1 + (i : Int) = st + ((i + 1 : Nat) : Int) := by omega
    rw [this]
theorem enumD_len : ∀ {ds : List Pd} {st : Int}, (enumD st ds).length = ds.length
  | [], _ => rfl
  | x :: xs, st => by unfold enumD; rw [List.length_cons, List.length_cons, enumD_len]
/-- a new pair for good -/
theorem new_pair {T : Addr} {v w : V} {p q : Pd} (hT : H T = none) (h1 : RF K Z H v p) (h2 : RF K Z H w q) :
    ∃ Z', RF K Z' (upd H T (.tup [v, w])) (.ref T) (.tuple [p, q]) ∧ Gr [] H Z F (upd H T (.tup [v, w])) Z' F ∧ ∀ {ρ : Ev} {σ : L2.St}, Rel K ρ σ H Z F → Rel K ρ σ (upd H T (.tup [v, w])) Z' F :=
  ⟨_, RF.newT hT (.cons h1 (.cons h2 .nil)), Gr.addZ hT, fun R => R.addZ hT⟩
theorem wk_enum {io : List Nat} {ds : List Pd} {hid : List (Nat × Ob)} {a : Addr} (g : Gr io H0 Z0 F0 H1 Z1 F1) (hh : hid = [] ∨ ∃ i, hid = [(i, o)] ∧ σ[i]? = some (some (.ref a)) ∧ ∀ b ∈ L, b ∈ F1 i) (l : Lk K Z H (.ref a) (.list ds) o L Z F H) :
    Wk K σ io H0 F0 (Ite K a) (enumD 0 ds) hid Z F H := by
  have cur : ∀ {Z' : Zs} {F' : Fp} {H' : Hp}, Lk K Z H (.ref a) (.list ds) o L Z' F' H' → ∃ xs, SqL K H' a xs ∧ RFs K Z' H' xs ds := fun l => by
    obtain ⟨b, xs, e, h1, h2⟩ := l.now.list
    cases e
    exact ⟨xs, h1.sq, h2⟩
  refine ⟨fun Z' F' H' => Lk K Z H (.ref a) (.list ds) o L Z' F' H', fun a => a ∈ L, l, ⟨fun l m => ⟨l.al _ m, (l.out _ m).2⟩, fun l R g => l.step R g, fun {i d Z' F' H'} l e => ?_, fun {Z' F' H'} l => ?_, fun {ρ σ' Z' F' H'} l R hs => ?_⟩⟩
  · obtain ⟨xs, h1, h2⟩ := cur l
    obtain ⟨p, e1, e2⟩ := enumD_at e
    obtain ⟨x, hx, _⟩ := h2.get e1
    refine ⟨⟨xs, x, h1, hx⟩, fun y H2 ⟨T, z, e3, hT, e4, hz⟩ => ?_⟩
    subst e3 e4 e2
    obtain ⟨d', e5, r⟩ := h2.get' (hz xs h1)
    rw [e1] at e5
    cases e5
    rw [Int.zero_add]
    exact new_pair hT (.int _) r
  · obtain ⟨xs, h1, h2⟩ := cur l
    exact ⟨xs, h1, Nat.le_of_eq (by rw [enumD_len]; exact h2.length)⟩
  · obtain ⟨F2, R2, f2⟩ := Lk.back g hh l R hs
    exact ⟨F2, R2, f2⟩
theorem rngD_at {lo hi : Int} {i : Nat} {d : Pd} (e : (rngD lo hi)[i]? = some d) : i < (hi - lo).toNat ∧ d = .int (lo + (i : Int)) := by
  unfold rngD at e
  rw [List.getElem?_map] at e
  obtain ⟨k, e1, e2⟩ := Option.map_eq_some_iff.mp e
  obtain ⟨h1, h2⟩ := List.getElem?_eq_some_iff.mp e1
  rw [List.length_range] at h1
  rw [List.getElem_range] at h2
  subst h2
  exact ⟨h1, e2.symm⟩
theorem wk_rng {io : List Nat} {lo hi : Int} : Wk K σ io H0 F0 (Itr lo (hi - lo).toNat) (rngD lo hi) [] Z F H := by
  refine ⟨fun _ _ _ => True, fun _ => False, trivial, ⟨fun _ m => m.elim, fun _ _ _ => trivial, fun {i d Z' F' H'} _ e => ?_, fun {Z' F' H'} _ => ?_, fun {ρ σ' Z' F' H'} _ R _ => ⟨F', R, fun _ _ m => .inl m⟩⟩⟩
  · obtain ⟨h1, h2⟩ := rngD_at e
    refine ⟨h1, fun y H2 ⟨e2, e3⟩ => ?_⟩
    subst e2 e3 h2
    exact ⟨Z', .int _, Gr.refl, fun R => R⟩
  · show (hi - lo).toNat ≤ (rngD lo hi).length
    unfold rngD
    rw [List.length_map, List.length_range]
    exact Nat.le_refl _
theorem wk_zip {io : List Nat} {ds es : List Pd} {hid hid2 : List (Nat × Ob)} {a b : Addr} {o2 : Ob} {L2 : List Addr} {F2 : Fp} {H2 : Hp} {Z2 : Zs} (g : Gr io H0 Z0 F0 H1 Z1 F1) (g2 : Gr io H0 Z0 F0 H2 Z2 F2) (hh : hid = [] ∨ ∃ i, hid = [(i, o)] ∧ σ[i]? = some (some (.ref a)) ∧ ∀ b ∈ L, b ∈ F1 i)
    (hh2 : hid2 = [] ∨ ∃ i, hid2 = [(i, o2)] ∧ σ[i]? = some (some (.ref b)) ∧ ∀ b ∈ L2, b ∈ F2 i) (hd : hid2 = [] ∨ ∀ c ∈ L2, c ∉ L) (l : Lk K Z H (.ref a) (.list ds) o L Z F H) (k : Lk K Z H (.ref b) (.list es) o2 L2 Z F H) :
    Wk K σ io H0 F0 (Itz K a b) (List.zipWith (fun x y => .tuple [x, y]) ds es) (hid2 ++ hid) Z F H := by
  have cur : ∀ {Z' : Zs} {F' : Fp} {H' : Hp} {a : Addr} {ds : List Pd} {o : Ob} {L : List Addr}, Lk K Z H (.ref a) (.list ds) o L Z' F' H' → ∃ xs, SqL K H' a xs ∧ RFs K Z' H' xs ds := fun l => by
    obtain ⟨b, xs, e, h1, h2⟩ := l.now.list
    cases e
    exact ⟨xs, h1.sq, h2⟩
  refine ⟨fun Z' F' H' => Lk K Z H (.ref a) (.list ds) o L Z' F' H' ∧ Lk K Z H (.ref b) (.list es) o2 L2 Z' F' H', fun a => a ∈ L ∨ a ∈ L2, ⟨l, k⟩, ⟨fun l m => m.elim (fun m => ⟨l.1.al _ m, (l.1.out _ m).2⟩) fun m => ⟨l.2.al _ m, (l.2.out _ m).2⟩, fun l R g => ⟨l.1.step R g, l.2.step R g⟩, fun {i d Z' F' H'} l e => ?_, fun {Z' F' H'} l => ?_, fun {ρ σ' Z' F' H'} l R hs => ?_⟩⟩
  · obtain ⟨xs, h1, h2⟩ := cur l.1
    obtain ⟨ys, k1, k2⟩ := cur l.2
    rw [List.getElem?_zipWith] at e
    split at e
    · rename_i p q e1 e2
      cases e
      obtain ⟨x, hx, _⟩ := h2.get e1
      obtain ⟨y, hy, _⟩ := k2.get e2
      refine ⟨⟨xs, ys, x, y, h1, k1, hx, hy⟩, fun v H2 ⟨T, z, w, e3, hT, e4, hz, hw⟩ => ?_⟩
      subst e3 e4
      obtain ⟨d', e5, r⟩ := h2.get' (hz xs h1)
      rw [e1] at e5
      cases e5
      obtain ⟨d', e5, r2⟩ := k2.get' (hw ys k1)
      rw [e2] at e5
      cases e5
      exact new_pair hT r r2
    · cases e
  · obtain ⟨xs, h1, h2⟩ := cur l.1
    obtain ⟨ys, k1, k2⟩ := cur l.2
    refine ⟨xs, ys, h1, k1, ?_⟩
    rw [List.length_zipWith, h2.length, k2.length]
    rcases Nat.le_total ds.length es.length with h | h
    · exact .inl (by rw [Nat.min_eq_left h]; exact Nat.le_refl _)
    · exact .inr (by rw [Nat.min_eq_right h]; exact Nat.le_refl _)
  · obtain ⟨F3, R3, f3⟩ := Lk.back g hh l.1 R fun q m => hs q (List.mem_append_right _ m)
    have un : unhide (hid2 ++ hid) ρ = unhide hid2 (unhide hid ρ) := by
      induction hid2 with
      | nil => rfl
      | cons q r ih =>
        rcases hh2 with e | ⟨_, e, _⟩
        · cases e
        · cases e; rfl
    have l2 : hid2 = [] ∨ Lk K Z H (.ref b) (.list es) o2 L2 Z' F3 H' := by
      rcases hd with e | hd
      · exact .inl e
      · have q := l.2
        exact .inr ⟨q.vw, q.ro, q.hw, q.zw, q.sub, q.al, fun c hc => ⟨(q.out c hc).1, fun i hi => (f3 i c hi).elim (fun m => (q.out c hc).2 i m) fun m => hd c hc m.1⟩⟩
    rw [un]
    rcases l2 with rfl | l2
    · exact ⟨F3, R3, fun i a m => (f3 i a m).imp id fun m => ⟨.inl m.1, m.2⟩⟩
    · obtain ⟨F4, R4, f4⟩ := Lk.back g2 hh2 l2 R3 fun q m => hs q (List.mem_append_left _ m)
      refine ⟨F4, R4, fun i a m => ?_⟩
      rcases f4 i a m with m | m
      · exact (f3 i a m).imp id fun m => ⟨.inl m.1, m.2⟩
      · exact .inr ⟨.inr m.1, m.2⟩
end
end TL
set_option Elab.async false
set_option linter.all false
set_option maxRecDepth 100000
set_option maxHeartbeats 2000000
namespace TL
open PySem PySem.Spec L2

/-- the list at a as it stands at each turn, each item in a new pair, counted from k -/
def IteS (K : PySem.W.Frag) (a : Addr) (k : Int) : It where
  go := fun i H => ∃ (xs : List V) (x : V), SqL K H a xs ∧ xs[i]? = some x
  yld := fun i H v H' => ∃ T x, v = .ref T ∧ H T = none ∧ H' = upd H T (.tup [.int (k + (i : Int)), x]) ∧ ∀ xs, SqL K H a xs → xs[i]? = some x
  stop := fun i H => ∃ xs : List V, SqL K H a xs ∧ i = xs.length
theorem listIter_ne {h : Heap} {it l a : Addr} {i : Nat} {items : Array Value} (h1 : h.IsListIter it a i) (h2 : h.IsList l items) : l ≠ it := fun e => by
  obtain ⟨o, e1, c1, _⟩ := h1
  obtain ⟨o2, e2, c2, _⟩ := h2
  rw [e, e1] at e2
  cases e2
  rw [c1] at c2
  exact absurd c2 (by decide)
theorem enum_ne {h : Heap} {e it l : Addr} {c : Int} {old : Value} {items : Array Value} (h1 : IsEnum h e it c old) (h2 : h.IsList l items) : e ≠ l := fun z => by
  obtain ⟨o2, e2, c2, _⟩ := h2
  have e1 := h1
  unfold IsEnum at e1
  rw [z, e2] at e1
  cases e1
  have c3 : Value.type "enumerate" = Value.type "list" := c2
  exact absurd c3 (by decide)
theorem turn_enumS {P : Program} {w : World} {K : PySem.W.Frag} {elts : List Expr} {kk : Nat} {tpos : Pos} (a e it : Addr) (k : Int) :
    Turn P w K (.Tuple elts kk tpos) (IteS K a k) [e, it] e (fun i h => (∃ old, IsEnum h e it (k + (i : Int)) old) ∧ h.IsListIter it a i ∧ e ≠ it) where
  mem := List.mem_cons_self
  obj := fun i h ⟨⟨old, he⟩, ⟨o, ho, _, hd⟩, _⟩ b hb => by
    rcases List.mem_cons.mp hb with z | z
    · rw [z]
      exact ⟨_, he, fun v q => nomatch q⟩
    · rw [List.mem_singleton.mp z]
      exact ⟨o, ho, fun v q => by rw [hd] at q; cases q⟩
  keep := fun i h h' ⟨⟨old, he⟩, hi, hne⟩ kp => ⟨⟨old, kp e List.mem_cons_self _ he⟩, hi.at fun o q => kp it (List.mem_cons_of_mem _ List.mem_cons_self) o q, hne⟩
  item := by
    intro X eP ew eK hc i pins s σ H E I hf st hg
    subst eP ew eK
    obtain ⟨⟨old, he⟩, hit, hne⟩ := st
    obtain ⟨xs, x, hq, hx⟩ := hg
    obtain ⟨its, rv, pl, _⟩ := I.list hq
    obtain ⟨u, hu, ru⟩ := rv.get hx
    have lst := pl.isList
    have lt : i < its.toArray.size := by
      have q := (List.getElem?_eq_some_iff.mp hu).1
      rw [List.size_toArray]
      exact q
    have hel : e < s.heap.objs.size := Heap.lt_size he
    have hil : it < s.heap.objs.size := by obtain ⟨_, q, _⟩ := hit; exact Heap.lt_size q
    have D := Draws.list (prog := X.prog) (w := X.w) (A := X.A.in1) (I.ok.hd hc) it a (listIter_ne hit lst) its.toArray
    have nfp : e ∉ [it, a] := fun m => (List.mem_cons.mp m).elim hne fun m => enum_ne he lst (List.mem_singleton.mp m)
    refine wpAny_pyNext_enum_itemC D he ⟨hit, lst⟩ lt hne nfp fun y h' tk hy ho hst hT hsz hk => ?_
    have ey : y = u := by
      have q : its[i]? = some y := by simpa using hy
      rw [hu] at q
      exact (Option.some.inj q).symm
    subst ey
    refine ⟨_, rfl, wpAny_letOwnedTupleGo_enum (s := { s with heap := h', toks := tk + 1 }) ho fun h2 he2 sb => ?_⟩
    have hT2 : h2.get? s.heap.objs.size = some { cls := .type "tuple", data := .seq #[.int (k + (i : Int)) tk, y] } := (sb.2 _ (Nat.ne_of_gt hel)).trans hT
    have nw : ObjOk X.prog X.w (upd H s.heap.objs.size (.tup [.int (k + (i : Int)), x])) h2 s.heap.objs.size (.tup [.int (k + (i : Int)), x]) :=
      ⟨by show 2 ≤ sizeLine; decide, [.int (k + (i : Int)) tk, y], .cons ⟨_, rfl⟩ (.cons ru .nil), ⟨_, hT2, rfl, _, rfl⟩⟩
    have out : ∀ {b : Addr}, b ∉ [e, it] → b ≠ e ∧ b ≠ it := fun {b} m => ⟨fun z => m (z ▸ List.mem_cons_self), fun z => m (z ▸ List.mem_cons_of_mem _ List.mem_cons_self)⟩
    have I1 : Inv X pins σ (upd H s.heap.objs.size (.tup [.int (k + (i : Int)), x])) { s with heap := h2, toks := tk + 1 } :=
      I.turnedNew (ch := [e, it]) (fun b ob hb q => (sb.2 b (out hb).1).trans (hk b ob (out hb).1 (out hb).2 q)) hf (Nat.le_refl _) nw
    refine ⟨.ref s.heap.objs.size, _, I1, rfl, ⟨_, x, rfl, I.hok.fresh (Nat.le_refl _), rfl, fun ys hy => by rw [I.list_inj hy hq]; exact hx⟩, ⟨⟨y, ?_⟩, hst.1.at fun o q => (sb.2 it (Ne.symm hne)).trans q, hne⟩, fun b hb => ?_⟩
    · have e1 : k + ((i + 1 : Nat) : Int) = k + (i : Int) + 1 := by omega
      rw [e1]
      exact he2
    · have hb' : b < s.heap.objs.size := by
        rcases List.mem_cons.mp hb with z | z
        · rw [z]; exact hel
        · rw [List.mem_singleton.mp z]; exact hil
      rw [upd_ne (Nat.ne_of_lt hb')]
      exact (hf b hb).1
  done := by
    intro X eP ew eK hc i pins s σ H E I hf st hg
    subst eP ew eK
    obtain ⟨⟨old, he⟩, hit, hne⟩ := st
    obtain ⟨xs, hq, hx⟩ := hg
    obtain ⟨its, rv, pl, _⟩ := I.list hq
    obtain ⟨f0, f1, f2, f3, f4, f5⟩ := hf it (List.mem_cons_of_mem _ List.mem_cons_self)
    have lst := pl.isList
    have D := Draws.list (prog := X.prog) (w := X.w) (A := X.A.in1) (I.ok.hd hc) it a (listIter_ne hit lst) its.toArray
    have ei : i = its.toArray.size := by rw [hx, rv.length, List.size_toArray]
    rw [ei] at hit
    exact wpAny_pyNext_enum_endD D he ⟨hit, lst⟩ fun h' eb => ⟨rfl, I.turned (t' := s.toks) (fun b o hb q => eb b o hb q) f0 f1 f3 f4 f5⟩
  self := fun A i s Q E ⟨⟨_, he⟩, _⟩ h => wpAny_pyIter_enum he h
def iEnS (K : PySem.W.Frag) (k : Int) (ta : TA) : TI := fun σ H R => ta σ H fun vs H1 => ∃ a xs, vs = [.ref a, .int k] ∧ SqL K H1 a xs ∧ R (IteS K a k) H1
theorem pi_enumS {X : Cx} {e e2 : Expr} {ta : TA} {p pos tpos : Pos} {elts : List Expr} {kk : Nat} {k : Int} (hk : 0 ≤ k ∧ k < 1000) (hg : Gl X "enumerate") (hm : X.mg "enumerate" = none) (ha : PA X [e, e2] ta)
    (hs : starEach [e, e2] X.env = (false, eval e X.env) :: starEach [e2] X.env) (hp : (backTo pos (starEach [e2] X.env)).any (·.1) = false) :
    PI X (.Tuple elts kk tpos) (.Call (.Name "enumerate" p) [e, e2] [] pos) (iEnS X.K k ta) := by
  refine ⟨fun pins s σ H R I h => ?_⟩
  refine PyProof.Rows.Call_ (ld_blt I hg hm PyProof.Rows.boot_enumerate (PyProof.Rows.callWith_type1 (thn (ha.run pos pins s σ H _ I h) fun us s1 ⟨vs, H1, I1, r1, a, xs, ex, hq, q⟩ => ?_) hs hp))
  subst ex
  obtain ⟨u1, u2, rfl, r, r'⟩ := vals2 r1
  cases r
  obtain ⟨t, rfl⟩ := r'
  obtain ⟨its, rv, pl, hz⟩ := I1.list hq
  refine enum_begins (begins_list a its.toArray) pl.isList (by omega) (by omega) fun h' he hit hsz kp => wpAny_pyIter_enum he ?_
  have I2 : Inv X pins σ H1 { s1 with heap := h' } := I1.kept (t' := s1.toks) kp
  refine ⟨s1.heap.objs.size + 1, [s1.heap.objs.size + 1, s1.heap.objs.size], _, _, H1, rfl, I2, turn_enumS a (s1.heap.objs.size + 1) s1.heap.objs.size k, ⟨⟨.none, by simpa using he⟩, ⟨_, hit, rfl, rfl⟩, Nat.succ_ne_self _⟩, fun b hb => ?_, q⟩
  have hle : s1.heap.objs.size ≤ b := by
    rcases List.mem_cons.mp hb with z | z
    · rw [z]; exact Nat.le_add_right _ _
    · rw [List.mem_singleton.mp z]; exact Nat.le_refl _
  exact I1.fpOk hle (I1.hok.fresh hle)

abbrev CN.ty : CN → String
  | .int => "int" | .bool => "bool" | .str => "str" | .list => "list" | .tuple => "tuple" | .dict => "dict"
def Pd.ty : Pd → String
  | .none => "NoneType" | .bool _ => "bool" | .int _ => "int" | .str _ => "str" | .list _ => "list" | .tuple _ => "tuple" | .dict _ => "dict"
def isiT (k : CN) (t : String) : Bool := t == k.ty || (t == "bool" && k == .int)
def mroB (t c : String) : Option Bool := (fastBuiltinMro t).map (·.contains (.type c))
theorem isi_mro : ∀ t ∈ ["NoneType", "bool", "int", "str", "list", "tuple", "dict"], ∀ k ∈ [CN.int, CN.bool, CN.str, CN.list, CN.tuple, CN.dict], mroB t k.ty = some (isiT k t) ∧ PySem.W.kitMeta k.ty = true := by decide +kernel
theorem isi_kit (K : PySem.W.Frag) (t : String) (ht : t ∈ ["NoneType", "bool", "int", "str", "list", "tuple", "dict"]) (k : CN) : PySem.W.kitOne K (.type t) (.type k.ty) = some (isiT k t) := by
  obtain ⟨h1, h2⟩ := isi_mro t ht k (by cases k <;> decide)
  unfold PySem.W.kitOne
  by_cases e : t = k.ty
  · rw [if_pos (by rw [e]; simp)]
    unfold isiT
    rw [e]
    simp
  · rw [if_neg (by simpa using e)]
    unfold PySem.W.kitCls
    dsimp only
    rw [if_pos h2]
    exact h1
theorem isiD_T (k : CN) (p : Pd) : isiD k p = isiT k p.ty := by
  cases p <;> cases k <;> rfl
theorem Pd.ty_in (p : Pd) : p.ty ∈ ["NoneType", "bool", "int", "str", "list", "tuple", "dict"] := by
  cases p <;> simp [Pd.ty]
theorem Rd.lstTy {K : PySem.W.Frag} {H : Hp} {a : Addr} {xs : List V} (h : Rd H a (.lst xs)) : TyX K H (.ref a) (.type "list") := by
  rcases h with h | ⟨o, h⟩
  · exact .base (.lst h)
  · exact .base (.frz h)
theorem RI.ty {K : PySem.W.Frag} {Z : Zs} {H : Hp} {v : V} {p : Pd} (h : RI K Z H v p) : TyX K H v (.type p.ty) := by
  cases h with
  | rf h =>
    cases h with
    | non => exact .base .non
    | bl b => exact .base (.bl b)
    | int i => exact .base (.int i)
    | str x => exact .base (.str x)
    | lst z h r => exact Rd.lstTy h
    | lstK h r =>
      obtain ⟨its, n, e, _⟩ := h
      exact .kList e rfl
    | tup z h r =>
      rcases h with h | ⟨o, h⟩
      · exact .base (.tup h)
      · exact .fTuple h
    | tupK h r =>
      obtain ⟨o, its, n, e, c, _⟩ := h
      exact .kTuple e c
    | dct z h r =>
      rcases h with h | ⟨o, h⟩
      · exact .base (.dK h)
      · exact .fDict h
  | ol h r => exact .base (.lst h)
  | od h r => exact .base (.dK h)
end TL
set_option Elab.async false
set_option linter.all false
set_option maxRecDepth 100000
set_option maxHeartbeats 2000000
namespace TL
open PySem PySem.Spec L2

theorem Lk.base {K : PySem.W.Frag} {Zw Z : Zs} {Hw H : Hp} {F : Fp} {x : V} {d : Pd} {o : Ob} {L : List Addr} {ρ : Ev} {σ : L2.St} (l : Lk K Zw Hw x d o L Z F H) (R : Rel K ρ σ H Z F) : Lk K Z H x d o L Z F H :=
  ⟨l.vw, l.ro.mono l.sub (fun _ _ _ q => q) fun _ _ _ q => q, l.al, R.za, fun _ z => z, l.al, l.out⟩
section
variable {S : Sg} {X : Cx} {c : Sc} {W : WX} {a b : IE} {l q tg : Expr} {pos p : Pos}
theorem Out.peek {K : PySem.W.Frag} {ρ : Ev} {σ σ0 : L2.St} {H H0 H9 : Hp} {Z Z0 Z9 : Zs} {F F0 F9 : Fp} {io io' : List Nat} {β : Type} {x : V} {v : Vl} {f : Pd × List (Nat × Ob) → Ev → Re β} {P : β → Ev → Prop} (R : Rel K ρ σ H Z F) (g : Gr io H0 Z0 F0 H Z F) (rv : RV K H0 F0 Z H F x v) (h : Out S K W io' σ0 H9 Z9 F9 ((peekIt v ρ).bind f) P) :
    ∃ d hid ρ' F' o L, Rel K ρ' σ H Z F' ∧ Gr io H0 Z0 F0 H Z F' ∧ (∀ i a, a ∈ F' i → a ∈ F i) ∧ Lk K Z H x d o L Z F' H ∧ (hid = [] ∨ ∃ i, hid = [(i, o)] ∧ σ[i]? = some (some x) ∧ ∀ a ∈ L, a ∈ F i) ∧ Out S K W io' σ0 H9 Z9 F9 (f (d, hid) ρ') P := by
  cases e : peekIt v ρ with
  | ok r ρ' =>
    rw [e] at h
    obtain ⟨d, hid⟩ := r
    obtain ⟨F', o, L, R', f', lk, hh⟩ := peek_ok R rv e
    have g2 : Gr [] H Z F H Z F' := Gr.shrink f'
    exact ⟨d, hid, ρ', F', o, L, R', (g.trans g2).weak (fun i hi => (List.mem_append.mp hi).elim id fun h => nomatch h), f', lk, hh, h⟩
  | ex e' ρ' => exact (peek_no e).elim
  | no =>
    rw [e] at h
    exact h.elim
theorem i_val (ha : PE X l (tE S X.K W a)) : PI X tg l (tI S X.K W (.val a)) := by
  refine PI.imp (PI.or (pi_list ha) (pi_tup ha)) fun σ H R ⟨ρ, Z, F, R0, h⟩ => ?_
  unfold evalI at h
  by_cases hT : ∃ v ρ1 ds hid ρ2, evalE S.G S.C a ρ = .ok v ρ1 ∧ peekIt v ρ1 = .ok (.tuple ds, hid) ρ2
  · refine .inr ⟨ρ, Z, F, R0, (Out.one h).imp2 fun v ρ1 ev h x H1 Z1 F1 R1 g1 v1 => ?_⟩
    obtain ⟨v', ρ1', ds, hid, ρ2, e1, e2⟩ := hT
    rw [ev] at e1
    cases e1
    rw [e2] at h
    obtain ⟨F2, o, L, R2, f2, lk, hh⟩ := peek_ok R1 v1 e2
    obtain ⟨_, ad, xs, rfl, h1, _⟩ := lk.now.tuple
    exact ⟨ad, rfl, ⟨xs, h1⟩, h _ _ _ _ R2 ((g1.trans (Gr.shrink (io := []) f2)).weak fun i hi => (List.mem_append.mp hi).elim id fun h => nomatch h) (wk_tup g1 hh lk)⟩
  · refine .inl ⟨ρ, Z, F, R0, (Out.one h).imp2 fun v ρ1 ev h x H1 Z1 F1 R1 g1 v1 => ?_⟩
    cases e : peekIt v ρ1 with
    | ok r ρ2 =>
      obtain ⟨d, hid⟩ := r
      rw [e] at h
      obtain ⟨F2, o, L, R2, f2, lk, hh⟩ := peek_ok R1 v1 e
      cases d with
      | list ds =>
        obtain ⟨ad, xs, rfl, h1, _⟩ := lk.now.list
        exact ⟨ad, rfl, ⟨xs, h1.sq⟩, h _ _ _ _ R2 ((g1.trans (Gr.shrink (io := []) f2)).weak fun i hi => (List.mem_append.mp hi).elim id fun h => nomatch h) (wk_list g1 hh lk)⟩
      | tuple ds => exact (hT ⟨v, ρ1, ds, hid, ρ2, ev, e⟩).elim
      | _ => exact h.elim
    | ex e' ρ' => exact (peek_no e).elim
    | no => rw [e] at h; exact h.elim
theorem i_rng1 (g : Gd S X c W) {x : Str} (hx : x = "range") (h2 : c.glo x = true) (h3 : x ∈ S.T.free) (ha : PE X l (tE S X.K W a)) (hp : plainE l = true) : PI X tg (.Call (.Name x p) [l] [] pos) (tI S X.K W (.rng1 a)) := by
  subst hx
  refine PI.imp (pi_range1 (g.glo h2) (g.fx.free _ h3) (pa_cons ha pa_nil (starE hp)) (starE hp)) fun σ H R ⟨ρ, Z, F, R0, h⟩ => ?_
  unfold evalI at h
  refine ⟨ρ, Z, F, R0, (Out.one h).imp fun v ρ1 h x H1 Z1 F1 R1 g1 v1 => ?_⟩
  split at h
  · rename_i i e
    split at h
    · rename_i hs
      have ex := (v1.now e).int
      subst ex
      unfold smallI at hs
      rw [Bool.and_eq_true, decide_eq_true_eq, decide_eq_true_eq] at hs
      refine ⟨i, rfl, hs.1, hs.2, ?_⟩
      have w := h _ _ _ _ R1 g1 (wk_rng (lo := 0) (hi := i))
      rw [Int.sub_zero] at w
      exact w
    · exact h.elim
  · exact h.elim
theorem i_rng2 (g : Gd S X c W) {x : Str} (hx : x = "range") (h2 : c.glo x = true) (h3 : x ∈ S.T.free) (ha : PE X l (tE S X.K W a)) (hb : PE X q (tE S X.K W b)) (hp : plainE l = true) (hq : plainE q = true) : PI X tg (.Call (.Name x p) [l, q] [] pos) (tI S X.K W (.rng2 a b)) := by
  subst hx
  refine PI.imp (pi_range2 (g.glo h2) (g.fx.free _ h3) (pa_cons ha (pa_cons hb pa_nil (starE hq)) (starE hp)) (by rw [starE hp, starE hq]; rfl) (starE hq)) fun σ H R ⟨ρ, Z, F, R0, h⟩ => ?_
  unfold evalI at h
  refine ⟨ρ, Z, F, R0, (Out.first (io' := ioE b) h).imp fun v ρ1 h x H1 Z1 F1 R1 g1 v1 => ?_⟩
  refine ⟨ρ1, Z1, F1, R1, (Out.one (Out.later g1 h)).imp fun w ρ2 h y H2 Z2 F2 R2 g2 v2 => ?_⟩
  split at h
  · rename_i i j e1 e2
    split at h
    · rename_i hs
      have ex := (v1.later R1 g2 e1).int
      have ey := (v2.now e2).int
      subst ex ey
      unfold smallI at hs
      simp only [Bool.and_eq_true, decide_eq_true_eq] at hs
      exact ⟨i, j, rfl, ⟨hs.1.1, hs.1.2, hs.2.1, hs.2.2⟩, h _ _ _ _ R2 (g1.trans g2) wk_rng⟩
    · exact h.elim
  · exact h.elim
theorem i_enm (g : Gd S X c W) {x : Str} {elts : List Expr} {kk : Nat} {tpos : Pos} (hx : x = "enumerate") (h2 : c.glo x = true) (h3 : x ∈ S.T.free) (ha : PE X l (tE S X.K W a)) (hp : plainE l = true) : PI X (.Tuple elts kk tpos) (.Call (.Name x p) [l] [] pos) (tI S X.K W (.enm a 0)) := by
  subst hx
  refine PI.imp (pi_enum (g.glo h2) (g.fx.free _ h3) (pa_cons ha pa_nil (starE hp)) (starE hp)) fun σ H R ⟨ρ, Z, F, R0, h⟩ => ?_
  unfold evalI at h
  refine ⟨ρ, Z, F, R0, (Out.one h).imp fun v ρ1 h x H1 Z1 F1 R1 g1 v1 => ?_⟩
  obtain ⟨d, hid, ρ2, F2, o, L, R2, g2, f2, lk, hh, h⟩ := Out.peek R1 g1 v1 h
  cases d with
  | list ds =>
    obtain ⟨ad, xs, rfl, h1, _⟩ := lk.now.list
    exact ⟨ad, xs, rfl, h1.sq, h _ _ _ _ R2 g2 (wk_enum g1 hh lk)⟩
  | _ => exact h.elim
theorem wk_enumS {K : PySem.W.Frag} {Z Z0 Z1 : Zs} {H H0 H1 : Hp} {F F0 F1 : Fp} {o : Ob} {L : List Addr} {σ : L2.St} {io : List Nat} {ds : List Pd} {hid : List (Nat × Ob)} {a : Addr} (st : Int) (g : Gr io H0 Z0 F0 H1 Z1 F1) (hh : hid = [] ∨ ∃ i, hid = [(i, o)] ∧ σ[i]? = some (some (.ref a)) ∧ ∀ b ∈ L, b ∈ F1 i) (l : Lk K Z H (.ref a) (.list ds) o L Z F H) :
    Wk K σ io H0 F0 (IteS K a st) (enumD st ds) hid Z F H := by
  have cur : ∀ {Z' : Zs} {F' : Fp} {H' : Hp}, Lk K Z H (.ref a) (.list ds) o L Z' F' H' → ∃ xs, SqL K H' a xs ∧ RFs K Z' H' xs ds := fun l => by
    obtain ⟨b, xs, e, h1, h2⟩ := l.now.list
    cases e
    exact ⟨xs, h1.sq, h2⟩
  refine ⟨fun Z' F' H' => Lk K Z H (.ref a) (.list ds) o L Z' F' H', fun a => a ∈ L, l, ⟨fun l m => ⟨l.al _ m, (l.out _ m).2⟩, fun l R g => l.step R g, fun {i d Z' F' H'} l e => ?_, fun {Z' F' H'} l => ?_, fun {ρ σ' Z' F' H'} l R hs => ?_⟩⟩
  · obtain ⟨xs, h1, h2⟩ := cur l
    obtain ⟨p, e1, e2⟩ := enumD_at e
    obtain ⟨x, hx, _⟩ := h2.get e1
    refine ⟨⟨xs, x, h1, hx⟩, fun y H2 ⟨T, z, e3, hT, e4, hz⟩ => ?_⟩
    subst e3 e4 e2
    obtain ⟨d', e5, r⟩ := h2.get' (hz xs h1)
    rw [e1] at e5
    cases e5
    exact new_pair hT (.int _) r
  · obtain ⟨xs, h1, h2⟩ := cur l
    exact ⟨xs, h1, by rw [enumD_len]; exact h2.length.symm⟩
  · obtain ⟨F2, R2, f2⟩ := Lk.back g hh l R hs
    exact ⟨F2, R2, f2⟩
theorem i_enmS (g : Gd S X c W) {x : Str} {elts : List Expr} {kk j : Nat} {tpos p2 : Pos} {k : Int} (hx : x = "enumerate") (h2 : c.glo x = true) (h3 : x ∈ S.T.free) (hk : 0 ≤ k ∧ k < 1000) (ha : PE X l (tE S X.K W a)) (hp : plainE l = true) :
    PI X (.Tuple elts kk tpos) (.Call (.Name x p) [l, .Constant (.int k) j p2] [] pos) (tI S X.K W (.enm a k)) := by
  subst hx
  have hc : PE X (.Constant (.int k) j p2) (tC (.int k)) := pe_int
  refine PI.imp (pi_enumS hk (g.glo h2) (g.fx.free _ h3) (pa_cons ha (pa_cons hc pa_nil) (starE hp)) (starE hp) rfl) fun σ H R ⟨ρ, Z, F, R0, h⟩ => ?_
  unfold evalI at h
  refine ⟨ρ, Z, F, R0, (Out.one h).imp fun v ρ1 h x H1 Z1 F1 R1 g1 v1 => ?_⟩
  obtain ⟨d, hid, ρ2, F2, o, L, R2, g2, f2, lk, hh, h⟩ := Out.peek R1 g1 v1 h
  cases d with
  | list ds =>
    obtain ⟨ad, xs, rfl, h1, _⟩ := lk.now.list
    exact ⟨ad, xs, rfl, h1.sq, h _ _ _ _ R2 g2 (wk_enumS k g1 hh lk)⟩
  | _ => exact h.elim
theorem RI.more {K : PySem.W.Frag} {Z : Zs} {H H' : Hp} {v : V} {d : Pd} (m : ∀ a u, H a = some u → H' a = some u) (h : RI K Z H v d) : RI K Z H' v d := by
  cases h with
  | rf h => exact .rf (h.mono (fun _ z => z) fun a u _ q => m a u q)
  | ol h r => exact .ol (m _ _ h) (r.mono (fun _ z => z) fun a u _ q => m a u q)
  | od h r => exact .od (m _ _ h) (r.mono (fun _ z => z) fun a u _ q => m a u q)
theorem RIs.dps {K : PySem.W.Frag} {Z : Zs} {H H' : Hp} (m : ∀ a u, H a = some u → H' a = some u) : ∀ {vs : List V} {ds : List Pd} {n : Nat}, RIs K Z H vs ds → flatEs n ds = true → DpAll K H' vs ds
  | _, _, _, .nil, _ => .nil
  | _, _, n, .cons h r, e => by
    have e : (flatE n _ && flatEs n _) = true := e
    rw [Bool.and_eq_true] at e
    exact .cons ((h.more m).dp e.1) (RIs.dps m r e.2)
theorem RIs.len {K : PySem.W.Frag} {Z : Zs} {H : Hp} : ∀ {vs : List V} {ds : List Pd}, RIs K Z H vs ds → vs.length = ds.length
  | _, _, .nil => rfl
  | _, _, .cons _ r => by rw [List.length_cons, List.length_cons, r.len]
theorem evalP_len {G : List Pd} {C : Calls} : ∀ {as : IA} {ρ ρ' : Ev} {ds : List Pd}, evalP G C as ρ = .ok ds ρ' → ∀ {T : Tb} {c : Sc} {es : List Expr}, ckA T c as es = true → ds.length = es.length
  | .nil, _, _, _, h, _, _, [], _ => by unfold evalP at h; cases h; rfl
  | .nil, _, _, _, h, _, _, _ :: _, k => by unfold ckA at k; cases k
  | .cons a r, _, _, _, h, _, _, [], k => by unfold ckA at k; cases k
  | .cons a r, ρ, ρ', ds, h, T, c, e :: es, k => by
    unfold evalP at h
    unfold ckA at k
    simp only [Bool.and_eq_true] at k
    cases e1 : evalE G C a ρ with
    | ok v ρ1 =>
      rw [e1] at h
      have h : (evalP G C r ρ1).bind _ = _ := h
      cases e3 : evalP G C r ρ1 with
      | ok xs ρ3 =>
        rw [e3] at h
        dsimp only [Re.bind] at h
        split at h
        · cases h
          rw [List.length_cons, List.length_cons, evalP_len e3 k.2]
        · cases h
      | ex _ _ => rw [e3] at h; cases h
      | no => rw [e3] at h; cases h
    | ex _ _ => rw [e1] at h; cases h
    | no => rw [e1] at h; cases h
  | .io _ _, _, _, _, h, _, _, _, _ => by unfold evalP at h; cases h
theorem RIs.readsAll {X : Cx} {pins : List (Addr × Obj)} {σ : L2.St} {H H' : Hp} {Z : Zs} {s : Shared} (I : Inv X pins σ H' s) (sm : SmB X.base) (m : ∀ a u, H a = some u → H' a = some u) : ∀ {vs : List V} {ds : List Pd}, RIs X.K Z H vs ds → ∀ {us : List Value}, Vals vs us → ∃ as, ReadsAll s.heap us ds as ∧ sysModules ∉ as
  | _, _, .nil, us, r => by
    cases r
    exact ⟨[], .nil, List.not_mem_nil⟩
  | _, _, .cons h q, us, r => by
    cases r with
    | cons r1 r2 =>
      obtain ⟨as, h1, h2⟩ := (RI.more m h).reads I sm r1
      obtain ⟨bs, h3, h4⟩ := RIs.readsAll I sm m q r2
      exact ⟨as ++ bs, .cons h1 h3, not_mem_app h2 h4⟩
/-- repr([a, ..]): the list is gone behind it -/
theorem e_repL (g : Gd S X c W) (hu : X.A.units + 70 < cLine) {x : Str} {as : IA} {es : List Expr} {p2 : Pos} (hx : x = "repr") (h2 : c.glo x = true) (h3 : x ∈ S.T.free) (ha : PA X es (tP S X.K W as)) (hk : ckA S.T c as es = true) (hn : es.length ≤ 10000) :
    PE X (.Call (.Name x p) [.List es p2] [] pos) (tE S X.K W (.repL as)) := by
  subst hx
  refine ⟨fun pins s σ H Q I ⟨ρ, Z, F, R, h⟩ => ?_⟩
  unfold evalE at h
  have key : ∀ {d : Pd}, d.showable = true → d.depth ≤ 60 → d.shown.length ≤ sizeLine → PE X (.Call (.Name "repr" p) [.List es p2] [] pos) (tCB (fun vs H Q => ∃ v, vs = [v] ∧ Rdb X H v d ∧ Q (.str d.shown) H) (tCons (tLst (tP S X.K W as)) tNil)) := fun z1 z3 z4 =>
    pe_callB (call_reprF g.gds hu z1 z3 z4) (g.glo h2) (g.fx.free _ h3) rfl (pa_cons (pe_lst ha) pa_nil rfl) (by decide) (by decide) rfl rfl
  cases ev : evalP S.G S.C as ρ with
  | no => rw [ev] at h; exact h.elim
  | ex e ρ1 =>
    rw [ev] at h
    refine (key (d := .none) rfl (by decide) (by decide)).run pins s σ H Q I ⟨ρ, Z, F, R, ?_⟩
    rw [ev]
    exact h
  | ok ds ρ1 =>
    have h' := h
    rw [ev] at h'
    have h' : Out S X.K W _ σ H Z F (ofO (bi .repr1 [.list ds]) ρ1) _ := h'
    cases eb : bi .repr1 [.list ds] with
    | none => rw [eb] at h'; exact h'.elim
    | some u =>
      have eb2 : (if (PyData.list ds).showable && decide ((PyData.list ds).depth ≤ 60) && decide ((PyData.list ds).shown.length ≤ szL) then some (Vl.d (.str (PyData.list ds).shown)) else none) = some u := eb
      split at eb2
      · rename_i hz
        cases eb2
        simp only [Bool.and_eq_true, decide_eq_true_eq] at hz
        obtain ⟨⟨z1, z3⟩, z4⟩ := hz
        rw [eb] at h'
        refine (key z1 z3 z4).run pins s σ H Q I ⟨ρ, Z, F, R, ?_⟩
        rw [ev]
        intro xs H1 Z1 F1 R1 g1 r1
        refine ⟨?_, fun ad hp => ⟨_, rfl, ?_, ?_⟩⟩
        · rw [r1.len, evalP_len ev hk]
          exact Nat.le_trans hn (by decide)
        · have m := upd_more (o := .lst xs) hp
          intro pins9 σ9 s9 u9 I9 r9
          have e9 : u9 = Value.ref ad := r9
          subst e9
          obtain ⟨_, its, n, rv, gt⟩ := I9.hok ad _ upd_same
          obtain ⟨as9, h1, h2⟩ := RIs.readsAll I9 g.fx.sm m r1 rv
          refine ⟨ad :: as9, .list gt rfl rfl h1, fun hm => (List.mem_cons.mp hm).elim (fun e => ?_) h2⟩
          have n9 := (smH I9 g.fx.sm).2
          rw [e, upd_same] at n9
          cases n9
        · have m := upd_more (o := .lst xs) hp
          have g2 : Gr [] H1 Z1 F1 (upd H1 ad (.lst xs)) Z1 F1 := Gr.more m
          exact h' _ _ _ _ (R1.more m) ((g1.trans g2).weak fun i hi => (List.mem_append.mp hi).elim id fun h => nomatch h) (.str _)
      · cases eb2
theorem e_isi (g : Gd S X c W) {x y : Str} {p2 : Pos} {k : CN} (hx : x = "isinstance") (h2 : c.glo x = true) (h3 : x ∈ S.T.free) (hy : y = k.name) (k2 : c.glo y = true) (k3 : y ∈ S.T.free) (ha : PE X l (tE S X.K W a)) (hp : plainE l = true) :
    PE X (.Call (.Name x p) [l, .Name y p2] [] pos) (tE S X.K W (.isi k a)) := by
  subst hx hy
  have hc : PE X (.Name k.name p2) (tC (.ty k.ty)) := pe_bltn (g.glo k2) (g.fx.free _ k3) (by cases k <;> rfl) rfl (by cases k <;> decide) (by cases k <;> decide)
  refine PE.imp (pe_callB call_isi (g.glo h2) (g.fx.free _ h3) rfl (pa_cons ha (pa_cons hc pa_nil rfl) (starE hp)) (by decide) (by decide) (starE hp) rfl) fun σ H Q ⟨ρ, Z, F, R0, h⟩ => ?_
  unfold evalE at h
  refine ⟨ρ, Z, F, R0, (Out.one h).imp fun v ρ1 h x H1 Z1 F1 R1 g1 v1 => ?_⟩
  split at h
  · rename_i q e
    refine ⟨x, .ty k.ty, _, .type k.ty, isiD k q, rfl, .ty _, (v1.now e).ty, ?_, h _ _ _ _ R1 g1 (.bl _)⟩
    rw [isiD_T]
    exact isi_kit X.K q.ty q.ty_in k
  · exact h.elim
theorem i_zip (g : Gd S X c W) {x : Str} {elts : List Expr} {kk : Nat} {tpos : Pos} (hx : x = "zip") (h2 : c.glo x = true) (h3 : x ∈ S.T.free) (ha : PE X l (tE S X.K W a)) (hb : PE X q (tE S X.K W b)) (hp : plainE l = true) (hq : plainE q = true) : PI X (.Tuple elts kk tpos) (.Call (.Name x p) [l, q] [] pos) (tI S X.K W (.zip a b)) := by
  subst hx
  refine PI.imp (pi_zip (g.glo h2) (g.fx.free _ h3) (pa_cons ha (pa_cons hb pa_nil (starE hq)) (starE hp)) (starE hp) (by rw [starE hq]; rfl)) fun σ H R ⟨ρ, Z, F, R0, h⟩ => ?_
  unfold evalI at h
  refine ⟨ρ, Z, F, R0, (Out.first (io' := ioE b) h).imp fun v ρ1 h x H1 Z1 F1 R1 g1 v1 => ?_⟩
  obtain ⟨d, hid, ρ2, F2, o, L, R2, g2, f2, lk, hh, h⟩ := Out.peek R1 g1 v1 h
  refine ⟨ρ2, Z1, F2, R2, (Out.one (Out.later g2 h)).imp fun w ρ3 h y H3 Z3 F3 R3 g3 v3 => ?_⟩
  have w3 := v3.back g2
  obtain ⟨e, hid2, ρ4, F4, o2, L2, R4, g4, f4, lk2, hh2, h⟩ := Out.peek R3 (g2.trans g3) w3 h
  have lk1 := (lk.step R2 g3.gs.gw).step R3 ((Gr.shrink (io := []) f4).gs.gw) |>.base R4
  cases d with
  | list ds => cases e with
    | list es =>
      obtain ⟨ad, xs, rfl, h1, _⟩ := lk1.now.list
      obtain ⟨bd, ys, rfl, k1, _⟩ := lk2.now.list
      refine ⟨ad, bd, xs, ys, rfl, h1.sq, k1.sq, h _ _ _ _ R4 g4 (wk_zip (g1.weak fun i hi => List.mem_append_left _ hi) (g2.trans g3) hh hh2 ?_ lk1 lk2)⟩
      rcases hh2 with e | ⟨i, _, _, m⟩
      · exact .inl e
      · exact .inr fun z hz hl => (lk.step R2 g3.gs.gw).out z hl |>.2 i (m z hz)
    | _ => exact h.elim
  | _ => exact h.elim
theorem i_zipd (g : Gd S X c W) {x : Str} {elts : List Expr} {kk : Nat} {tpos : Pos} (hx : x = "zip") (h2 : c.glo x = true) (h3 : x ∈ S.T.free) (ha : PE X l (tE S X.K W a)) (hb : PE X q (tE S X.K W b)) (hp : plainE l = true) (hq : plainE q = true) : PI X (.Tuple elts kk tpos) (.Call (.Name x p) [l, q] [] pos) (tI S X.K W (.zipd a b)) := by
  subst hx
  refine PI.imp (pi_zip (g.glo h2) (g.fx.free _ h3) (pa_cons ha (pa_cons hb pa_nil (starE hq)) (starE hp)) (starE hp) (by rw [starE hq]; rfl)) fun σ H R ⟨ρ, Z, F, R0, h⟩ => ?_
  unfold evalI at h
  refine ⟨ρ, Z, F, R0, (Out.first (io' := ioE b) h).imp fun v ρ1 h x H1 Z1 F1 R1 g1 v1 => ?_⟩
  obtain ⟨dd, ρ0, Z0, F0, R0', g0, r0, h⟩ := Out.take R1 g1 v1 h
  obtain ⟨d, hid, ρ2, F2, o, L, R2, g2, f2, lk, hh, h⟩ := Out.peek (v := .d dd) R0' g0 r0 h
  refine ⟨ρ2, Z0, F2, R2, (Out.one (Out.later g2 h)).imp fun w ρ3 h y H3 Z3 F3 R3 g3 v3 => ?_⟩
  have w3 := v3.back g2
  obtain ⟨e, hid2, ρ4, F4, o2, L2, R4, g4, f4, lk2, hh2, h⟩ := Out.peek R3 (g2.trans g3) w3 h
  have lk1 := (lk.step R2 g3.gs.gw).step R3 ((Gr.shrink (io := []) f4).gs.gw) |>.base R4
  cases d with
  | list ds => cases e with
    | list es =>
      obtain ⟨ad, xs, rfl, h1, _⟩ := lk1.now.list
      obtain ⟨bd, ys, rfl, k1, _⟩ := lk2.now.list
      refine ⟨ad, bd, xs, ys, rfl, h1.sq, k1.sq, h _ _ _ _ R4 g4 (wk_zip (g0.weak fun i hi => List.mem_append_left _ hi) (g2.trans g3) hh hh2 ?_ lk1 lk2)⟩
      rcases hh2 with e | ⟨i, _, _, m⟩
      · exact .inl e
      · exact .inr fun z hz hl => (lk.step R2 g3.gs.gw).out z hl |>.2 i (m z hz)
    | _ => exact h.elim
  | _ => exact h.elim
end
end TL
set_option Elab.async false
set_option linter.all false
set_option maxRecDepth 100000
set_option maxHeartbeats 2000000
namespace TL
open PySem PySem.Spec L2

theorem wipeE_len {ρ : Ev} : ∀ {l : List Nat}, (wipeE ρ l).length = ρ.length
  | [] => rfl
  | i :: l => by unfold wipeE; rw [List.length_set, wipeE_len]
theorem wipeE_at {ρ : Ev} : ∀ {l : List Nat} {i : Nat} {o : Ob}, (wipeE ρ l)[i]? = some (some o) → ρ[i]? = some (some o) ∧ i ∉ l
  | [], _, _, h => ⟨h, fun h => nomatch h⟩
  | k :: l, i, o, h => by
    unfold wipeE at h
    by_cases e : k = i
    · subst e
      rw [List.getElem?_set] at h
      simp only [↓reduceIte] at h
      split at h <;> cases h
    · rw [List.getElem?_set_ne e] at h
      obtain ⟨h1, h2⟩ := wipeE_at h
      exact ⟨h1, fun m => (List.mem_cons.mp m).elim (fun z => e z.symm) h2⟩
theorem wipe_out {σ : L2.St} : ∀ {l : List Nat} {i : Nat}, i ∉ l → (wipe σ l)[i]? = σ[i]?
  | [], _, _ => rfl
  | k :: l, i, h => by
    unfold wipe
    rw [List.getElem?_set_ne fun e => h (by rw [e]; exact List.mem_cons_self)]
    exact wipe_out fun m => h (List.mem_cons_of_mem _ m)
theorem wipe_in {σ : L2.St} : ∀ {l : List Nat} {i : Nat}, i ∈ l → (wipe σ l)[i]? = if i < σ.length then some none else none
  | k :: l, i, h => by
    unfold wipe
    by_cases e : k = i
    · subst e
      rw [List.getElem?_set, wipe_length]
      simp
    · rw [List.getElem?_set_ne e]
      exact wipe_in ((List.mem_cons.mp h).resolve_left fun z => e z.symm)
theorem wipe_ag {l vs : List Nat} {σ σ' : L2.St} (h : Ag l σ σ') (k : ∀ i ∈ l, i ∈ vs) : wipe σ' vs = wipe σ vs := by
  refine List.ext_getElem? fun i => ?_
  by_cases m : i ∈ vs
  · rw [wipe_in m, wipe_in m, h.len]
  · rw [wipe_out m, wipe_out m]
    exact h.at_ i fun z => m (k i z)
theorem wipe_wipe {vs : List Nat} {σ : L2.St} : wipe (wipe σ vs) vs = wipe σ vs := by
  refine List.ext_getElem? fun i => ?_
  by_cases m : i ∈ vs
  · rw [wipe_in m, wipe_in m, wipe_length]
  · rw [wipe_out m]
def noF (l : List Nat) (F : Fp) : Fp := fun i => if i ∈ l then [] else F i
theorem mem_noF {l : List Nat} {F : Fp} {i : Nat} {a : Addr} (h : a ∈ noF l F i) : i ∉ l ∧ a ∈ F i := by
  unfold noF at h
  split at h
  · cases h
  · exact ⟨by assumption, h⟩
theorem noF_out {l : List Nat} {F : Fp} {i : Nat} (h : i ∉ l) : noF l F i = F i := if_neg h
section
variable {K : PySem.W.Frag} {ρ ρ1 : Ev} {σ σ' : L2.St} {H H1 H2 H' : Hp} {Z Z1 Z2 Z' : Zs} {F F1 F2 F' : Fp} {l io io' : List Nat} {D : Addr}
theorem Rel.lessF (R : Rel K ρ σ H Z F) (h : ∀ i a, a ∈ F' i → a ∈ F i) (hr : ∀ i o, ρ1[i]? = some (some o) → ∃ v, σ'[i]? = some (some v) ∧ RO K Z H v o (F' i)) (hl : ρ1.length = σ'.length) : Rel K ρ1 σ' H Z F' :=
  ⟨hl, hr, fun i j a m1 m2 => R.dj i j a (h i a m1) (h j a m2), fun i a m => R.nz i a (h i a m), fun i a m => R.al i a (h i a m), R.za⟩
theorem Rel.wipeB (R : Rel K ρ σ H Z F) : Rel K (wipeE ρ l) (wipe σ l) H Z (noF l F) :=
  R.lessF (fun i a m => (mem_noF m).2) (fun i o e => by
    obtain ⟨h1, h2⟩ := wipeE_at e
    obtain ⟨v, h3, h4⟩ := R.rep i o h1
    exact ⟨v, by rw [wipe_out h2]; exact h3, by rw [noF_out h2]; exact h4⟩) (by rw [wipeE_len, wipe_length]; exact R.len)
theorem Rel.wipeL (R : Rel K ρ σ H Z F) : Rel K (wipeE ρ l) σ H Z (noF l F) :=
  R.lessF (fun i a m => (mem_noF m).2) (fun i o e => by
    obtain ⟨h1, h2⟩ := wipeE_at e
    obtain ⟨v, h3, h4⟩ := R.rep i o h1
    exact ⟨v, h3, by rw [noF_out h2]; exact h4⟩) (by rw [wipeE_len]; exact R.len)
/-- a thing that nobody holds is changed -/
theorem Rel.out {o : HO} (R : Rel K ρ σ H Z F) (z : ¬ Z D) (f : ∀ i, D ∉ F i) : Rel K ρ σ (upd H D o) Z F := by
  have k : ∀ b u, b ≠ D → H b = some u → upd H D o b = some u := fun b u n e => by rw [upd_ne n]; exact e
  have al : ∀ b, (∃ u, H b = some u) → ∃ u, upd H D o b = some u := fun b ⟨u, e⟩ => by
    by_cases hb : b = D
    · exact ⟨o, by rw [hb]; exact upd_same⟩
    · exact ⟨u, k b u hb e⟩
  refine ⟨R.len, fun i u e => ?_, R.dj, R.nz, fun i b m => al b (R.al i b m), fun b m => al b (R.za b m)⟩
  obtain ⟨v, h1, h2⟩ := R.rep i u e
  exact ⟨v, h1, h2.mono (fun _ z => z) (fun b u zb q => k b u (fun e => z (e ▸ zb)) q) fun b u hb q => k b u (fun e => f i (e ▸ hb)) q⟩
theorem Gr.into (g : Gr io H Z F H1 Z1 F1) (k : Gr io' H1 Z1 F1 H2 Z2 F2) (h : ∀ i ∈ io', i ∈ io) : Gr io H Z F H2 Z2 F2 :=
  (g.trans k).weak fun i m => (List.mem_append.mp m).elim id (h i)
theorem Gr.upd (g : Gr io H Z F H1 Z1 F1) (hD : H D = none) {o : HO} : Gr io H Z F (upd H1 D o) Z1 F1 :=
  ⟨fun a u e n => by
    have ne : a ≠ D := fun z => by rw [z, hD] at e; cases e
    rw [upd_ne ne]
    exact g.keep a u e n, fun a e => by
    by_cases hb : a = D
    · rw [hb, upd_same] at e; cases e
    · rw [upd_ne hb] at e; exact g.am a e, g.zm, g.zn, g.fn⟩
theorem GW.upd {Hw : Hp} (hD : Hw D = none) {o : HO} : GW Hw H Z F (upd H D o) Z F :=
  ⟨fun a u ⟨w, ew⟩ e _ => by
    have ne : a ≠ D := fun z => by rw [z, hD] at ew; cases ew
    rw [upd_ne ne]
    exact e, fun a e => by
    by_cases hb : a = D
    · rw [hb, upd_same] at e; cases e
    · rw [upd_ne hb] at e; exact e, fun _ z => z, fun _ z => .inl z, fun i _ h => .inr ⟨i, h⟩⟩
/-- a thing that nobody holds stays so -/
structure Off (D : Addr) (u : HO) (H : Hp) (Z : Zs) (F : Fp) : Prop where
  at_ : H D = some u
  nz : ¬ Z D
  nf : ∀ i, D ∉ F i
theorem Off.step {u : HO} (o : Off D u H Z F) (g : Gr io H Z F H1 Z1 F1) : Off D u H1 Z1 F1 := by
  refine ⟨g.keep D u o.at_ fun i _ => o.nf i, fun z => ?_, fun i m => ?_⟩
  · rcases g.zn D z with h | h | ⟨i, h⟩
    · exact o.nz h
    · rw [o.at_] at h; cases h
    · exact o.nf i h
  · rcases g.fn' m with h | ⟨j, h⟩
    · rw [o.at_] at h; cases h
    · exact o.nf j h
theorem unwipe_at {ρ0 : Ev} : ∀ {l : List Nat} {i : Nat} {o : Ob}, (unwipe ρ0 ρ l)[i]? = some (some o) → (i ∈ l ∧ ∃ d, o = .dat d ∧ ρ0[i]? = some (some (.dat d))) ∨ (i ∉ l ∧ ρ[i]? = some (some o))
  | [], _, _, h => .inr ⟨(fun h => nomatch h), h⟩
  | k :: l, i, o, h => by
    unfold unwipe at h
    by_cases e : k = i
    · subst e
      rw [List.getElem?_set] at h
      simp only [↓reduceIte] at h
      split at h
      · have h := Option.some.inj h
        split at h
        · rename_i d ed
          cases h
          exact .inl ⟨List.mem_cons_self, d, rfl, ed⟩
        · cases h
      · cases h
    · rw [List.getElem?_set_ne e] at h
      rcases unwipe_at h with ⟨m, d, h1, h2⟩ | ⟨m, h1⟩
      · exact .inl ⟨List.mem_cons_of_mem _ m, d, h1, h2⟩
      · exact .inr ⟨fun z => (List.mem_cons.mp z).elim (fun z => e z.symm) m, h1⟩
theorem unwipe_len {ρ0 : Ev} : ∀ {l : List Nat}, (unwipe ρ0 ρ l).length = ρ.length
  | [] => rfl
  | i :: l => by unfold unwipe; rw [List.length_set, unwipe_len]
/-- behind a comprehension -/
theorem Rel.unwipe (R1 : Rel K ρ1 σ H1 Z1 F1) (g : Gr io H1 Z1 F1 H Z F) (R : Rel K ρ σ' H Z F) (hw : wipe σ' l = wipe σ l) : Rel K (unwipe ρ1 ρ l) σ H Z (noF l F) := by
  have hl : σ'.length = σ.length := by rw [← wipe_length σ' l, hw, wipe_length]
  refine R.lessF (fun i a m => (mem_noF m).2) (fun i o e => ?_) (by rw [unwipe_len, R.len, hl])
  rcases unwipe_at e with ⟨m, d, rfl, h2⟩ | ⟨m, h1⟩
  · obtain ⟨v, h3, h4⟩ := R1.rep i _ h2
    refine ⟨v, h3, ?_⟩
    have z : noF l F i = [] := if_pos m
    rw [z]
    generalize F1 i = L at h4
    cases h4 with
    | dat h4 => exact .dat (R1.rf g h4)
  · obtain ⟨v, h3, h4⟩ := R.rep i o h1
    refine ⟨v, ?_, by rw [noF_out m]; exact h4⟩
    rw [← wipe_out (σ := σ) m, ← hw, wipe_out m]
    exact h3
end

abbrev W0 : WX := fun _ _ _ _ => False
/-- the tests -/
def tCs (S : Sg) (K : PySem.W.Frag) (W : WX) (cs : IA) : TT := fun σ H Q => ∃ ρ Z F, Rel K ρ σ H Z F ∧ Out S K W (ioA cs) σ H Z F (evalC S.G S.C cs ρ) fun b ρ' =>
  ∀ H' Z' F', Rel K ρ' σ H' Z' F' → Gr (ioA cs) H Z F H' Z' F' → Q b H'
theorem PTs.imp {X : Cx} {e : List Expr} {t t' : TT} (h : PTs X e t) (f : ∀ σ H Q, t' σ H Q → t σ H Q) : PTs X e t' := ⟨fun pins s σ H Q I q => h.run pins s σ H Q I (f σ H Q q)⟩
theorem folded {e : Expr} {env : Env} (h : plainE e = true) : ∀ x, foldedSetIterable e env x = pure x := by
  intro x
  cases e <;> first | rfl | cases h
section
variable {S : Sg} {X : Cx} {c : Sc} {W : WX}
theorem cs_nil : PTs X [] (tCs S X.K W .nil) := PTs.imp pts_nil fun σ H Q ⟨ρ, Z, F, R, h⟩ => by
  unfold evalC at h
  exact h _ _ _ R Gr.refl
theorem cs_one {a : IE} {e : Expr} (ha : PT X e (tT S X.K W a)) : PTs X [e] (tCs S X.K W (.cons a .nil)) := PTs.imp (pts_one ha) fun σ H Q ⟨ρ, Z, F, R, h⟩ => by
  unfold evalC at h
  refine ⟨ρ, Z, F, R, (Out.one h).weak (io := ioE a) (fun i m => List.mem_append_left _ m) |>.imp fun v ρ1 h => ?_⟩
  split at h
  · rename_i e
    unfold evalC at h
    exact ⟨true, e, fun H' Z' F' R g => h H' Z' F' R (g.weak fun i m => List.mem_append_left _ m)⟩
  · rename_i e
    exact ⟨false, e, fun H' Z' F' R g => h H' Z' F' R (g.weak fun i m => List.mem_append_left _ m)⟩
  · exact h.elim
theorem lc_step {elt : IE} {it : II} {tg : IT} {cs : IA} {own : List Nat} (hag : ∀ i ∈ asT tg, i ∈ own) : ∀ σ H Q, tE S X.K W (.lc elt tg it cs own) σ H Q → tLc (tI S X.K W it) (tGt X.K tg) (tCs S X.K W0 cs) (tE S X.K W0 elt) own σ H Q := by
  intro σ H Q ⟨ρ, Z, F, R, h⟩
  unfold evalE at h
  refine ⟨ρ, Z, F, R, (Out.first (io' := ioA cs ++ ioE elt) h).imp fun p ρ1 h J H1 Z1 F1 R1 g1 wk D hD => ?_⟩
  obtain ⟨ds, hid⟩ := p
  dsimp only at h wk
  split at h
  · exact h.elim
  obtain ⟨Pr, Hd, p0, wp⟩ := wk
  generalize hf : (fun (x : Pd) (ρ : Ev) => (match assignT tg x (wipeE ρ own) with
      | some ρ => (evalC S.G S.C cs ρ).bind fun b ρ => if b then (evalE S.G S.C elt ρ).bind fun v ρ => (TL.take v ρ).bind fun y ρ => .ok (some y) ρ else .ok none ρ
      | none => .no : Re (Option Pd))) = f at h
  let Fin : Re (List Pd) → Prop := fun r => Out S X.K W (ioI it ++ (ioA cs ++ ioE elt)) σ H Z F (r.bind fun ys ρ' => .ok (.fr (.ol ys)) (unhide hid (unwipe ρ1 ρ' own))) fun v ρ' =>
    ∀ x H' Z' F', Rel X.K ρ' σ H' Z' F' → Gr (ioE (.lc elt tg it cs own)) H Z F H' Z' F' → RV X.K H F Z' H' F' x v → Q x H'
  have h : Fin (lcGo f ds (wipeE ρ1 own) []) := h
  have nof : ∀ {ρ : Ev}, ¬ Fin (.no) := fun z => z
  have exf : ∀ {d : Pd} {ds : List Pd} {ρ : Ev} {acc : List Pd}, f d ρ = .no → ¬ Fin (lcGo f (d :: ds) ρ acc) := fun e z => by
    unfold lcGo at z
    rw [e] at z
    exact z
  have exx : ∀ {d : Pd} {ds : List Pd} {ρ ρ' : Ev} {e : Ex} {acc : List Pd}, f d ρ = .ex e ρ' → ¬ Fin (lcGo f (d :: ds) ρ acc) := fun e z => by
    unfold lcGo at z
    rw [e] at z
    exact z
  let io2 := ioA cs ++ ioE elt
  let Wf : Nat → Nat → Hp → Prop := fun i m Hc => ∃ ρc σc Zc Fc acc dacc, m = ds.length - i ∧ i ≤ ds.length ∧ Rel X.K ρc σc Hc Zc Fc ∧ wipe σc own = wipe σ own ∧ Pr Zc Fc Hc ∧ Off D (.lst acc) Hc Zc Fc ∧ RFs X.K Zc Hc acc dacc ∧
    Gr io2 H1 Z1 F1 Hc Zc Fc ∧ Fin (lcGo f (ds.drop i) ρc dacc)
  have RL := R1.wipeL (l := own)
  have sh : ∀ {H : Hp} {Z : Zs} {F : Fp}, Gr [] H Z F H Z (noF own F) := fun {H Z F} => Gr.shrink fun i a m => (mem_noF m).2
  have m1 := upd_more (o := .lst []) hD
  refine ⟨Wf, ⟨ds.length, wipeE ρ1 own, σ, Z1, noF own F1, [], [], rfl, Nat.zero_le _, RL.more m1, rfl, ?_, ⟨upd_same, fun z => ?_, fun i m => ?_⟩, .nil, ?_, h⟩, ?_⟩
  · exact wp.step (wp.step p0 R1 sh.gs.gw) RL (GW.upd hD)
  · obtain ⟨o, e⟩ := R1.za D z
    rw [hD] at e; cases e
  · obtain ⟨o, e⟩ := R1.al i D (mem_noF m).2
    rw [hD] at e; cases e
  · exact (sh.weak fun i m => nomatch m).upd hD
  rintro i m Hc ⟨ρc, σc, Zc, Fc, acc, dacc, em, hi, Rc, hw, pc, oc, rc, gc, fin⟩
  have rN : ∀ {io : List Nat} {H H' : Hp} {Z Z' : Zs} {F F' : Fp}, Gr io H Z F H' Z' F' → (∀ i ∈ io, i ∈ io2) → Gr io2 H1 Z1 F1 H Z F → Gr io2 H1 Z1 F1 H' Z' F' := fun g h k => k.into g h
  by_cases hlt : i < ds.length
  · have ed : ds[i]? = some ds[i] := List.getElem?_eq_getElem hlt
    have dr : ds.drop i = ds[i] :: ds.drop (i + 1) := List.drop_eq_getElem_cons hlt
    rw [dr] at fin
    generalize ds[i] = d at ed fin
    obtain ⟨go, yl⟩ := wp.go pc ed
    refine .inr ⟨go, fun H' => Wf (i + 1) (ds.length - (i + 1)) H', fun H' w => ⟨_, by omega, w⟩, fun x H' y => ?_⟩
    obtain ⟨Z', rd, gy, tr⟩ := yl x H' y
    have Ry := tr Rc
    have Rw := Ry.wipeB (l := own)
    rw [hw] at Rw
    have py := wp.step (wp.step pc Rc gy.gs.gw) Ry (sh.gs.gw)
    have oy := (oc.step gy).step sh
    have gy2 := rN sh (fun i m => nomatch m) (rN gy (fun i m => nomatch m) gc)
    have ry := (Ry.rfs (io := []) Gr.refl (Rc.rfs gy rc))
    cases ea : assignT tg d (wipeE ρc own) with
    | none => exact (exf (by rw [← hf]; dsimp only; rw [ea]) fin).elim
    | some ρ2 =>
      refine ⟨wipeE ρc own, Z', noF own Fc, d, ρ2, Rw, rd, ea, fun σ2 F2 R2 f2 a2 => ?_⟩
      have hw2 : wipe σ2 own = wipe σ own := (wipe_ag a2 hag).trans wipe_wipe
      have gs2 : Gr [] H' Z' (noF own Fc) H' Z' F2 := Gr.shrink f2
      have p2 := wp.step py Rw gs2.gs.gw
      have o2 := oy.step gs2
      have g2 := rN gs2 (fun i m => nomatch m) gy2
      refine ⟨hw2, ρ2, Z', F2, R2, ?_⟩
      cases ec : evalC S.G S.C cs ρ2 with
      | no => exact (exf (by rw [← hf]; dsimp only; rw [ea]; dsimp only; rw [ec]; rfl) fin).elim
      | ex e ρ3 => exact (exx (by rw [← hf]; dsimp only; rw [ea]; dsimp only; rw [ec]; rfl) fin).elim
      | ok b ρ3 =>
        intro H3 Z3 F3 R3 g3
        have p3 := wp.step p2 R2 g3.gs.gw
        have o3 := o2.step g3
        have g3' := rN g3 (fun i m => List.mem_append_left _ m) g2
        have r3 := R2.rfs g3 ry
        cases b with
        | false =>
          rw [if_neg Bool.false_ne_true]
          have ef : f d ρc = .ok none ρ3 := by rw [← hf]; dsimp only; rw [ea]; dsimp only; rw [ec]; rfl
          unfold lcGo at fin
          rw [ef] at fin
          exact ⟨ρ3, σ2, Z3, F3, acc, dacc, rfl, hlt, R3, hw2, p3, o3, r3, g3', fin⟩
        | true =>
          rw [if_pos rfl]
          refine ⟨ρ3, Z3, F3, R3, ?_⟩
          cases ee : evalE S.G S.C elt ρ3 with
          | no => exact (exf (by rw [← hf]; dsimp only; rw [ea]; dsimp only; rw [ec]; show (evalE S.G S.C elt ρ3).bind _ = _; rw [ee]; rfl) fin).elim
          | ex e ρ4 => exact (exx (by rw [← hf]; dsimp only; rw [ea]; dsimp only; rw [ec]; show (evalE S.G S.C elt ρ3).bind _ = _; rw [ee]; rfl) fin).elim
          | ok v ρ4 =>
            intro y H4 Z4 F4 R4 g4 v4
            cases et : TL.take v ρ4 with
            | no => exact (exf (by rw [← hf]; dsimp only; rw [ea]; dsimp only; rw [ec]; show (evalE S.G S.C elt ρ3).bind _ = _; rw [ee]; show (TL.take v ρ4).bind _ = _; rw [et]; rfl) fin).elim
            | ex e ρ5 => exact (take_no et).elim
            | ok p ρ5 =>
              obtain ⟨Z5, F5, R5, g5, r5⟩ := take_ok R4 g4 v4 et
              have ef : f d ρc = .ok (some p) ρ5 := by rw [← hf]; dsimp only; rw [ea]; dsimp only; rw [ec]; show (evalE S.G S.C elt ρ3).bind _ = _; rw [ee]; show (TL.take v ρ4).bind _ = _; rw [et]; rfl
              unfold lcGo at fin
              rw [ef] at fin
              dsimp only at fin
              split at fin
              · rename_i hl
                have o5 := o3.step g5
                have p5 := wp.step p3 R3 g5.gs.gw
                have r5' := R3.rfs g5 r3
                refine ⟨acc, o5.at_, by rw [r5'.length]; exact hl, ρ5, σ2, Z5, F5, acc ++ [y], dacc ++ [p], rfl, hlt, R5.out o5.nz o5.nf, hw2, wp.step p5 R5 (GW.upd hD), ⟨upd_same, o5.nz, o5.nf⟩, ?_, (rN g5 (fun i m => List.mem_append_right _ m) g3').upd hD, fin⟩
                refine (r5'.append (.cons r5 .nil)).mono (fun _ z => z) fun b u z q => ?_
                have ne : b ≠ D := fun e => o5.nz (e ▸ z)
                rw [upd_ne ne]
                exact q
              · exact fin.elim
  · have ei : i = ds.length := by omega
    subst ei
    rw [List.drop_length] at fin
    refine .inl ⟨wp.stop pc, ?_⟩
    have fin : ∀ x H' Z' F', Rel X.K (unhide hid (unwipe ρ1 ρc own)) σ H' Z' F' → Gr (ioE (.lc elt tg it cs own)) H Z F H' Z' F' → RV X.K H F Z' H' F' x (.fr (.ol dacc)) → Q x H' := fin
    have Ru := R1.unwipe gc Rc hw
    have pu := wp.step pc Rc (sh.gs.gw)
    have ou := oc.step sh
    obtain ⟨F', R', f'⟩ := wp.back pu Ru fun _ _ => rfl
    have gt := g1.trans gc
    refine fin _ _ _ F' R' ⟨gt.keep, gt.am, gt.zm, gt.zn, fun i a m => ?_⟩ ⟨[D], .ol oc.at_ rc, fun a ha => ?_⟩
    · rcases f' i a m with m | ⟨_, _, m⟩
      · exact gt.fn i a (mem_noF m).2
      · exact m.imp id (Or.imp id fun ⟨j, hj, z⟩ => ⟨j, List.mem_append_left _ hj, z⟩)
    · rw [List.mem_singleton.mp ha]
      refine ⟨oc.nz, fun i m => ?_, .inl (g1.am D hD)⟩
      rcases f' i D m with m | ⟨_, ⟨u, e⟩, _⟩
      · exact ou.nf i m
      · rw [hD] at e; cases e
theorem e_lc (g : Gd S X c W) {elt : IE} {it : II} {tg : IT} {cs : IA} {own : List Nat} {ow : List (Str × Nat)} {ex t iter : Expr} {fs : List Expr} {scope : Scope} {pos : Pos} (hi : PI X t iter (tI S X.K W it)) (ok : BlkOk X.N X.env.scope scope ow) (ho : ow.map (·.2) = own)
    (hag : ∀ i ∈ asT tg, i ∈ own) (hf : plainE iter = true)
    (hg : ∀ (s : Shared) (H : Hp) (C : Addr) (cl : List (Str × Addr)) (fp : List Addr), PG (X.blk s H scope (compEnvC scope cl C X.env) fp) t (tGt X.K tg))
    (ht : ∀ (s : Shared) (H : Hp) (C : Addr) (cl : List (Str × Addr)) (fp : List Addr), PTs (X.blk s H scope (compEnvC scope cl C X.env) fp) fs (tCs S X.K W0 cs))
    (he : ∀ (s : Shared) (H : Hp) (C : Addr) (cl : List (Str × Addr)) (fp : List Addr), PE (X.blk s H scope (compEnvC scope cl C X.env) fp) ex (tE S X.K W0 elt)) :
    PE X (.ListComp ex [⟨t, iter, fs, 0⟩] scope pos) (tE S X.K W (.lc elt tg it cs own)) := by
  have P := pe_lc (pos := pos) g.calm g.nd hi ok hg ht he (folded hf)
  rw [ho] at P
  exact PE.imp P (lc_step hag)
end
end TL
set_option Elab.async false
set_option linter.all false
set_option maxRecDepth 100000
set_option maxHeartbeats 2000000
namespace TL
open PySem PySem.Spec L2

/-- behind a statement that stores to l alone -/
def Post (K : PySem.W.Frag) (l : List Nat) (σ : L2.St) (H : Hp) (Z : Zs) (F : Fp) (ρ' : Ev) (P : L2.St → Hp → Zs → Fp → Prop) : Prop :=
  ∀ σ' H' Z' F', Rel K ρ' σ' H' Z' F' → GS H Z F H' Z' F' → Ag l σ σ' → P σ' H' Z' F'
def OutS (S : Sg) (K : PySem.W.Frag) (W : WX) (l : List Nat) (σ : L2.St) (H : Hp) (Z : Zs) (F : Fp) (r : Re Fl) (D : Ends) : Prop :=
  match r with
  | .no => False
  | .ex e ρ' => Post K l σ H Z F ρ' fun σ' H' _ _ => ∀ c d, S.rx e c d H' → W c d σ' H'
  | .ok .nx ρ' => Post K l σ H Z F ρ' fun σ' H' _ _ => D.nx σ' H'
  | .ok (.rt v) ρ' => Post K l σ H Z F ρ' fun _ H' Z' F' => ∀ x, RR K H F Z' H' F' x v → D.rt x H'
  | .ok .bk ρ' => Post K l σ H Z F ρ' fun σ' H' _ _ => D.bk σ' H'
  | .ok .ct ρ' => Post K l σ H Z F ρ' fun σ' H' _ _ => D.ct σ' H'
def tS (S : Sg) (K : PySem.W.Frag) (W : WX) (i : IS) : TS := fun D σ H => ∃ ρ Z F, Rel K ρ σ H Z F ∧ OutS S K W (asS i) σ H Z F (execS S.G S.C i ρ) D
theorem PS.imp {X : Cx} {e : Stmt} {t t' : TS} (h : PS X e t) (f : ∀ D σ H, t' D σ H → t D σ H) : PS X e t' := ⟨fun pins s σ H Q I q => h.run pins s σ H Q I (f Q σ H q)⟩
theorem PSs.imp {X : Cx} {e : List Stmt} {t t' : TS} (h : PSs X e t) (f : ∀ D σ H, t' D σ H → t D σ H) : PSs X e t' := ⟨fun pins s σ H Q I q => h.run pins s σ H Q I (f Q σ H q)⟩
section
variable {S : Sg} {K : PySem.W.Frag} {W : WX} {σ σ1 : L2.St} {H H1 : Hp} {Z Z1 : Zs} {F F1 : Fp} {io l la lb : List Nat} {ρ : Ev} {D : Ends}
theorem RR.back {Z2 : Zs} {H2 : Hp} {F2 : Fp} {x : V} {v : Vl} (g : GS H Z F H1 Z1 F1) (h : RR K H1 F1 Z2 H2 F2 x v) : RR K H F Z2 H2 F2 x v := by
  cases v with
  | d p => exact h
  | pk o i => exact h
  | fr o =>
    obtain ⟨L, h1, h2⟩ := h
    refine ⟨L, h1, fun a ha => ⟨(h2 a ha).1, (h2 a ha).2.1, ?_⟩⟩
    rcases (h2 a ha).2.2 with n | ⟨j, n⟩
    · exact .inl (g.am a n)
    · exact g.fn j a n
theorem Post.later {P P' : L2.St → Hp → Zs → Fp → Prop} (h : Post K l σ H Z F ρ P) (g : GS H Z F H1 Z1 F1) (a : Ag la σ σ1) (k1 : ∀ i ∈ la, i ∈ l) (k2 : ∀ i ∈ lb, i ∈ l) (f : ∀ σ H Z F, P σ H Z F → P' σ H Z F) : Post K lb σ1 H1 Z1 F1 ρ P' :=
  fun σ' H' Z' F' R g' a' => f _ _ _ _ (h σ' H' Z' F' R (g.trans g') ((a.trans a').weak fun i m => (List.mem_append.mp m).elim (k1 i) (k2 i)))
theorem OutS.later {r : Re Fl} (h : OutS S K W l σ H Z F r D) (g : GS H Z F H1 Z1 F1) (a : Ag la σ σ1) (k1 : ∀ i ∈ la, i ∈ l) (k2 : ∀ i ∈ lb, i ∈ l) : OutS S K W lb σ1 H1 Z1 F1 r D := by
  cases r with
  | no => exact h
  | ex e ρ' => exact Post.later h g a k1 k2 fun _ _ _ _ h => h
  | ok fl ρ' => cases fl with
    | nx => exact Post.later h g a k1 k2 fun _ _ _ _ h => h
    | rt v => exact Post.later h g a k1 k2 fun _ _ _ _ h x q => h x (q.back g)
    | bk => exact Post.later h g a k1 k2 fun _ _ _ _ h => h
    | ct => exact Post.later h g a k1 k2 fun _ _ _ _ h => h
/-- behind an expression -/
theorem OutS.on {r : Re Fl} (h : OutS S K W l σ H Z F r D) (g : Gr io H Z F H1 Z1 F1) : OutS S K W l σ H1 Z1 F1 r D :=
  h.later g.gs (Ag.refl (l := [])) (fun _ m => nomatch m) fun _ m => m
theorem OutS.expr {α : Type} {r : Re α} {f : α → Ev → Re Fl} (h : OutS S K W l σ H Z F (r.bind f) D) : Out S K W io σ H Z F r fun v ρ' => OutS S K W l σ H Z F (f v ρ') D := by
  cases r with
  | ok v ρ => exact h
  | ex e ρ => exact fun c d H' Z' F' R g x => h σ H' Z' F' R g.gs Ag.refl c d x
  | no => exact h
theorem OutS.take {x : V} {v : Vl} {f : Pd → Ev → Re Fl} {H0 : Hp} {Z0 : Zs} {F0 : Fp} {l0 : List Nat} {σ9 : L2.St} {H9 : Hp} {Z9 : Zs} {F9 : Fp} (R : Rel K ρ σ H Z F) (g : Gr io H0 Z0 F0 H Z F) (rv : RV K H0 F0 Z H F x v) (h : OutS S K W l0 σ9 H9 Z9 F9 ((TL.take v ρ).bind f) D) :
    ∃ d ρ' Z' F', Rel K ρ' σ H Z' F' ∧ Gr io H0 Z0 F0 H Z' F' ∧ RF K Z' H x d ∧ OutS S K W l0 σ9 H9 Z9 F9 (f d ρ') D := by
  cases e : TL.take v ρ with
  | ok d ρ' =>
    rw [e] at h
    obtain ⟨Z', F', R', g', r⟩ := take_ok R g rv e
    exact ⟨d, ρ', Z', F', R', g', r, h⟩
  | ex e' ρ' => exact (take_no e).elim
  | no =>
    rw [e] at h
    exact h.elim
theorem GS.setF {i : Nat} {L : List Addr} (g : GS H Z F H1 Z1 F1) (h : ∀ a ∈ L, H a = none ∨ ∃ j, a ∈ F j) : GS H Z F H1 Z1 (fset F1 i L) :=
  ⟨g.keep, g.am, g.zm, g.zn, fun j a m => (mem_fset m).elim (fun m => h a m.2) fun m => g.fn j a m.2⟩
end

section
variable {S : Sg} {X : Cx} {c : Sc} {W : WX} {a b d : IE} {l q e : Expr} {es : List Expr} {pos p : Pos} {i : Nat} {x : Str}
theorem set_step : ∀ D σ H, tS S X.K W (.set i a) D σ H → tAsg (tE S X.K W a) (gName i) D σ H := by
  intro D σ H ⟨ρ, Z, F, R, h⟩
  unfold execS at h
  refine ⟨ρ, Z, F, R, (OutS.expr h).imp fun v ρ1 h x H1 Z1 F1 R1 g1 v1 => ?_⟩
  have kept : OutS S X.K W [i] σ H Z F ((TL.take v ρ1).bind fun x ρ => .ok .nx (ρ.set i (some (.dat x)))) D → gName i x σ H1 D.nx := fun h => by
    obtain ⟨p, ρ2, Z2, F2, R2, g2, r2, h⟩ := OutS.take R1 g1 v1 h
    exact h _ _ _ _ (R2.store (.dat r2) (fun _ h => nomatch h) fun _ h => nomatch h) (g2.gs.setF fun _ h => nomatch h) Ag.set
  unfold TL.store at h
  split at h
  · rename_i o
    obtain ⟨L, h1, h2⟩ := v1
    exact h _ _ _ _ (R1.store h1 (fun a ha j _ => (h2 a ha).2.1 j) fun a ha => (h2 a ha).1) (g1.gs.setF fun a ha => (h2 a ha).2.2) Ag.set
  · exact kept h
theorem s_set (g : Gd S X c W) {p : Pos} (h1 : c.N[i]? = some x) (h2 : c.sto x = true) (he : PE X e (tE S X.K W a)) (hs : swapsWith e (some (.Name x p)) pos.line X.env = pure false) : PS X (.Assign [.Name x p] e pos) (tS S X.K W (.set i a)) := by
  obtain ⟨l1, l2⟩ := g.sto h2
  exact PS.imp (ps_set (i := i) g.nd (by rw [g.N]; exact h1) l1 he hs l2) set_step
theorem s_tgt (g : Gd S X c W) {t : IT} {tg : Expr} (ht : ckT c t tg = true) (he : PE X e (tE S X.K W a)) (hs : swapsWithSole [tg] e pos.line X.env = pure false) (hw : swappedStores [tg] e X.env = pure none) : PS X (.Assign [tg] e pos) (tS S X.K W (.tgt t a)) := by
  refine PS.imp (ps_asg he (g_ok g ht) hs hw (by rw [ckT_plain ht]; rfl)) fun D σ H ⟨ρ, Z, F, R, h⟩ => ?_
  unfold execS at h
  refine ⟨ρ, Z, F, R, (OutS.expr h).imp fun v ρ1 h x H1 Z1 F1 R1 g1 v1 => ?_⟩
  obtain ⟨p, ρ2, Z2, F2, R2, g2, r2, h⟩ := OutS.take R1 g1 v1 h
  cases ea : assignT t p ρ2 with
  | none => rw [ea] at h; exact h.elim
  | some ρ3 =>
    rw [ea] at h
    refine ⟨ρ2, Z2, F2, p, ρ3, R2, r2, ea, fun σ' F' R' f' a' => h σ' _ _ F' R' (g2.gs.trans (Gr.shrink (io := []) f').gs) a'⟩
theorem VVs.more {K : PySem.W.Frag} {H0 H H' : Hp} {F0 F : Fp} {Z : Zs} (m : ∀ a u, H a = some u → H' a = some u) : ∀ {U : List Addr} {xs : List V} {vs : List Vl}, VVs K H0 F0 Z H F U xs vs → VVs K H0 F0 Z H' F U xs vs
  | _, _, _, .nil => .nil
  | _, _, _, .d h t => .d (h.mono (fun _ z => z) fun a u _ q => m a u q) (t.more m)
  | _, _, _, .fr h k n t => .fr (h.mono (fun _ z => z) (fun a u _ q => m a u q) fun a u _ q => m a u q) k n (t.more m)
theorem VVs.setF {K : PySem.W.Frag} {H0 H : Hp} {F0 F : Fp} {Z : Zs} {i : Nat} {L : List Addr} : ∀ {U : List Addr} {xs : List V} {vs : List Vl}, VVs K H0 F0 Z H F U xs vs → (∀ a ∈ L, a ∉ U) → VVs K H0 F0 Z H (fset F i L) U xs vs
  | _, _, _, .nil, _ => .nil
  | _, _, _, .d h t, n => .d h (t.setF n)
  | _, _, _, .fr h k nn t, n => .fr h (fun a ha => ⟨(k a ha).1, fun j m => (mem_fset m).elim (fun m => n a m.2 (List.mem_append_left _ ha)) fun m => (k a ha).2.1 j m.2, (k a ha).2.2⟩) nn (t.setF fun a ha m => n a ha (List.mem_append_right _ m))
theorem storeV_len : ∀ {is : List Nat} {vs : List Vl} {ρ : Ev} {S : Sg} {K : PySem.W.Frag} {W : WX} {l : List Nat} {σ : L2.St} {H : Hp} {Z : Zs} {F : Fp} {D : Ends}, OutS S K W l σ H Z F (storeV is vs ρ) D → vs.length = is.length
  | [], [], _, _, _, _, _, _, _, _, _, _, _ => rfl
  | [], v :: vs, _, _, _, _, _, _, _, _, _, _, h => by cases v <;> exact h.elim
  | i :: is, [], _, _, _, _, _, _, _, _, _, _, h => h.elim
  | i :: is, .d x :: vs, ρ, _, _, _, _, _, _, _, _, _, h => by
    unfold storeV at h
    rw [List.length_cons, List.length_cons, storeV_len h]
  | i :: is, .fr x :: vs, ρ, _, _, _, _, _, _, _, _, _, h => by
    unfold storeV at h
    rw [List.length_cons, List.length_cons, storeV_len h]
  | i :: is, .pk _ _ :: vs, ρ, _, _, _, _, _, _, _, _, _, h => h.elim
def setsW : List Nat → List V → L2.St → L2.St
  | i :: is, v :: vs, σ => setsW is vs (σ.set i (some v))
  | _, _, σ => σ
theorem storeV_ok {K : PySem.W.Frag} {σ0 : L2.St} {H0 H : Hp} {Z0 Z : Zs} {F0 : Fp} {l : List Nat} {D : Ends} : ∀ (is : List Nat) {vs : List Vl} {xs : List V} {U : List Addr} {ρ : Ev} {σ : L2.St} {F : Fp} {la : List Nat}, Rel K ρ σ H Z F → GS H0 Z0 F0 H Z F → Ag la σ0 σ → VVs K H0 F0 Z H F U xs vs → OutS S K W l σ0 H0 Z0 F0 (storeV is vs ρ) D → (∀ i ∈ la, i ∈ l) → (∀ i ∈ is, i ∈ l) → D.nx (setsW is xs σ) H
  | [], vs, xs, U, ρ, σ, F, la, R, g, a, r, h, k1, k2 => by
    cases r with
    | nil => exact h σ H Z F R g (a.weak k1)
    | d _ _ => exact h.elim
    | fr _ _ _ _ => exact h.elim
  | i :: is, vs, xs, U, ρ, σ, F, la, R, g, a, r, h, k1, k2 => by
    have kk : ∀ j ∈ la ++ [i], j ∈ l := fun j m => (List.mem_append.mp m).elim (k1 j) fun m => by rw [List.mem_singleton.mp m]; exact k2 i List.mem_cons_self
    cases r with
    | nil => exact h.elim
    | d hx t =>
      unfold storeV at h
      exact storeV_ok is (R.store (i := i) (L := []) (.dat hx) (fun _ h => nomatch h) fun _ h => nomatch h) (g.setF (i := i) (L := []) fun _ h => nomatch h) (a.trans (Ag.set (i := i))) (t.setF fun _ h => nomatch h) h kk fun j m => k2 j (List.mem_cons_of_mem _ m)
    | fr hx k n t =>
      unfold storeV at h
      exact storeV_ok is (R.store (i := i) hx (fun b hb j _ => (k b hb).2.1 j) fun b hb => (k b hb).1) (g.setF fun b hb => (k b hb).2.2) (a.trans (Ag.set (i := i))) (t.setF n) h kk fun j m => k2 j (List.mem_cons_of_mem _ m)
theorem sw_tup (ts es : List Expr) (k k2 : _) (p p2 : Pos) {l : Nat} {env : Env} : swapsWithSole [.Tuple ts k p] (.Tuple es k2 p2) l env = pure false := rfl
theorem s_par (g : Gd S X c W) {i j : Nat} {x y : Str} {px py pt : Pos} {kt : _} {k2 : _} {pt2 : Pos} (hi : c.N[i]? = some x) (hj : c.N[j]? = some y) (hij : i ≠ j) (hx : c.names.lookup x = some .local) (hy : c.names.lookup y = some .local)
    (ha : PE X l (tE S X.K W a)) (hb : PE X q (tE S X.K W b)) (pl : plainE l = true) (pq : plainE q = true) (hw : swappedStores [.Tuple [.Name x px, .Name y py] kt pt] (.Tuple [l, q] k2 pt2) X.env = pure (some [x, y])) :
    PS X (.Assign [.Tuple [.Name x px, .Name y py] kt pt] (.Tuple [l, q] k2 pt2) pos) (tS S X.K W (.par i j a b)) := by
  refine PS.imp (ps_par (i := i) (j := j) g.calm g.nd (by rw [g.N]; exact hi) (by rw [g.N]; exact hj) hij (by rw [g.names]; exact hx) (by rw [g.names]; exact hy) (v_cons ha (v_cons hb v_nil pq) pl) hw) fun D σ H ⟨ρ, Z, F, R, h⟩ => ?_
  unfold execS at h
  refine ⟨ρ, Z, F, R, (OutS.expr h).imp fun vs ρ1 h xs U H1 Z1 F1 R1 g1 r1 => ?_⟩
  have hl : vs.length = 2 := by
    match vs, h with
    | [], h => exact h.elim
    | [a], h => cases a <;> exact h.elim
    | [a, b], h => rfl
    | a :: b :: c :: r, h => cases a <;> cases b <;> exact h.elim
  obtain ⟨x1, x2, rfl⟩ : ∃ x1 x2, xs = [x1, x2] := by
    have q := r1.len
    rw [hl] at q
    match xs, q with
    | [a, b], _ => exact ⟨a, b, rfl⟩
  exact ⟨x1, x2, rfl, storeV_ok [i, j] R1 g1.gs (Ag.refl (l := [])) r1 h (fun _ m => nomatch m) fun _ m => m⟩
def tNs (is : List Nat) : TGs := fun vs σ H Q => vs.length = is.length ∧ Q (setsW is vs σ) H
theorem ns_ok (g : Gd S X c W) : ∀ {is : List Nat} {es : List Expr}, ckNs c is es = true → PGs X es (tNs is) ∧ ∀ env : Env, (assignEach es env).length = is.length ∧ (assignEach es env).findIdx? (·.1) = none
  | [], [], _ => ⟨PGs.imp pgs_nil fun vs σ H Q ⟨h1, h2⟩ => ⟨List.eq_nil_of_length_eq_zero h1, by
    cases vs with
    | nil => exact h2
    | cons _ _ => cases h1⟩, fun _ => ⟨rfl, rfl⟩⟩
  | i :: is, e :: es, h => by
    cases e with
    | Name x p =>
      unfold ckNs at h
      simp only [Bool.and_eq_true] at h
      obtain ⟨k1, k2⟩ := ns_ok g h.2
      obtain ⟨l1, l2⟩ := g.sto h.1.2
      refine ⟨PGs.imp (pgs_cons (pg_name (i := i) g.nd (by rw [g.N]; exact eq_of_beq h.1.1) l1 l2) k1 rfl) fun vs σ H Q ⟨h1, h2⟩ => ?_, fun env => ⟨by
        show (assignEach es env).length + 1 = _
        rw [(k2 env).1]; rfl, by
        show ((false, assign (.Name x p) env) :: assignEach es env).findIdx? _ = none
        rw [List.findIdx?_cons, (k2 env).2]; rfl⟩⟩
      cases vs with
      | nil => cases h1
      | cons v vs => exact ⟨v, vs, rfl, by simpa using h1, h2⟩
    | _ => unfold ckNs at h; cases h
  | [], _ :: _, h => by unfold ckNs at h; cases h
  | _ :: _, [], h => by unfold ckNs at h; cases h
theorem s_ptg (g : Gd S X c W) {T : Tb} {is : List Nat} {as : IA} {ts es : List Expr} {k k2 : _} {p p2 : Pos} (hn : ckNs c is ts = true) (ha : PA X es (tV S X.K W as)) (hl : es.length ≤ 10000) (hz : ∀ vs ρ ρ', evalV S.G S.C as ρ = .ok vs ρ' → vs.length = es.length) (hw : swappedStores [.Tuple ts k p] (.Tuple es k2 p2) X.env = pure none) :
    PS X (.Assign [.Tuple ts k p] (.Tuple es k2 p2) pos) (tS S X.K W (.ptg is as)) := by
  obtain ⟨n1, n2⟩ := ns_ok g hn
  refine PS.imp (ps_asg (pe_tup ha) (pg_tup g.calm n1 (n2 _).1 (n2 _).2) (sw_tup _ _ _ _ _ _) hw rfl) fun D σ H ⟨ρ, Z, F, R, h⟩ => ?_
  unfold execS at h
  refine ⟨ρ, Z, F, R, (OutS.expr h).imp2 fun vs ρ1 ev h xs U H1 Z1 F1 R1 g1 r1 => ⟨?_, fun ad hp => ?_⟩⟩
  · rw [r1.len, hz vs ρ ρ1 ev]
    exact Nat.le_trans hl (by decide)
  · have m := upd_more (o := .tup xs) hp
    have g2 : GS H1 Z1 F1 (upd H1 ad (.tup xs)) Z1 F1 := (Gr.more (io := []) m).gs
    have r2 : VVs X.K H F Z1 (upd H1 ad (.tup xs)) F1 U xs vs := r1.more m
    have hlen : vs.length = is.length := storeV_len h
    exact ⟨ad, xs, rfl, .inl (.inl upd_same), r1.len.trans hlen, r1.len.trans hlen, storeV_ok is (R1.more m) (g1.gs.trans g2) (Ag.refl (l := [])) r2 h (fun _ m => nomatch m) fun _ m => m⟩
theorem s_exp (he : PE X e (tE S X.K W a)) (hs : swapsWith e none pos.line X.env = pure false) : PS X (.Expr e pos) (tS S X.K W (.exp a)) := by
  refine PS.imp (ps_expr he hs) fun D σ H ⟨ρ, Z, F, R, h⟩ => ?_
  unfold execS at h
  exact ⟨ρ, Z, F, R, (OutS.expr h).imp fun v ρ1 h x H1 Z1 F1 R1 g1 v1 => h σ H1 Z1 F1 R1 g1.gs Ag.refl⟩
theorem s_app (g : Gd S X c W) {m : Str} {p p2 cp : Pos} (hc : ckName c i x = true) (hm : m = "append") (hl : (p2.endLine == cp.line) = true) (ha : PE X e (tE S X.K W a)) (hp : plainE e = true)
    (hf : ((backTo cp (starEach [e] X.env)).all (fun x => !x.1) && (backToKw cp (keywordEach [] X.env)).all (fun x => x.1.isSome) && decide ([e].length + ([] : List Keyword).length + (if ([] : List Keyword).isEmpty then 0 else 1) < 30)) = true) :
    PS X (.Expr (.Call (.Attribute (.Name x p) m p2) [e] [] cp) pos) (tS S X.K W (.app i a)) := by
  subst hm
  refine PS.imp (ps_expr (pe_bm PySem.F.plainAttrs_list PySem.F.slot_list_append PySem.F.type_list_append mt_append (n_var g hc) (pa_cons ha pa_nil (starE hp)) rfl hf hl (starE hp) rfl) rfl) fun D σ H ⟨ρ, Z, F, R, h⟩ => ?_
  unfold execS at h
  split at h
  · rename_i ds0 e0
    obtain ⟨ad, xs0, h1, h2, h3, _⟩ := R.own e0
    refine ⟨_, h1, .inl ⟨rfl, xs0, .inl (.inl h3)⟩, ρ, Z, F, R, (OutS.expr h).imp fun v ρ1 h x H1 Z1 F1 R1 g1 v1 => ?_⟩
    obtain ⟨p, ρ2, Z2, F2, R2, g2, r2, h⟩ := OutS.take R1 g1 v1 h
    split at h
    · rename_i ds e1
      split at h
      · rename_i hz
        obtain ⟨ad', xs, k1, k2, k3, k4⟩ := R2.own e1
        rw [h1] at k1
        cases k1
        have ai : ad ∈ F2 i := by rw [k2]; exact List.mem_singleton.mpr rfl
        have R3 := R2.setL e1 h1 k2 k3 (k4.append (.cons r2 .nil))
        have g3 : Gr [i] H1 Z2 F2 (upd H1 ad (.lst (xs ++ [x]))) Z2 F2 := Gr.setL (List.mem_singleton.mpr rfl) ai k3
        exact ⟨ad, xs, x, rfl, rfl, k3, by rw [k4.length]; exact hz, h σ _ _ _ R3 (g2.trans g3).gs Ag.refl⟩
      · exact h.elim
    · exact h.elim
  · exact h.elim
theorem s_sti (g : Gd S X c W) {p ps : Pos} (hc : ckName c i x = true) (hp : PE X e (tE S X.K W a)) (hq : PE X q (tE S X.K W b)) (hs : swapsWithSole [.Subscript (.Name x p) q ps] e pos.line X.env = pure false)
    (hi : ∀ v, assign (.Subscript (.Name x p) q ps) X.env v = (do
      let ov ← holding [v] (eval (.Name x p) X.env)
      let iv ← holding [v, ov] (eval q X.env)
      standAt ps
      holding [v, ov, iv] (setItem ov iv v)
      release [v, ov, iv] [])) : PS X (.Assign [.Subscript (.Name x p) q ps] e pos) (tS S X.K W (.sti i b a)) := by
  refine PS.imp (ps_asg hp (pg_sub (n_var g hc) hq set_list hi) hs rfl rfl) fun D σ H ⟨ρ, Z, F, R, h⟩ => ?_
  unfold execS at h
  refine ⟨ρ, Z, F, R, (OutS.expr h).imp fun v ρ1 h x H1 Z1 F1 R1 g1 v1 => ?_⟩
  obtain ⟨p, ρ2, Z2, F2, R2, g2, r2, h⟩ := OutS.take R1 g1 v1 h
  split at h
  · rename_i ds0 e0
    obtain ⟨ad, xs0, h1, _, _, _⟩ := R2.own e0
    refine ⟨_, h1, ρ2, Z2, F2, R2, (OutS.expr (h.on g2)).imp fun w ρ3 h y H3 Z3 F3 R3 g3 v3 => ?_⟩
    split at h
    · rename_i k ds ev e1
      split at h
      · rename_i j ej
        obtain ⟨ad', xs, k1, k2, k3, k4⟩ := R3.own e1
        rw [h1] at k1
        cases k1
        have ey := (v3.now ev).int
        subst ey
        have ai : ad ∈ F3 i := by rw [k2]; exact List.mem_singleton.mpr rfl
        have R4 := R3.setL e1 h1 k2 k3 (k4.set j (R2.rf g3 r2))
        have g4 : Gr [i] H3 Z3 F3 (upd H3 ad (.lst (xs.set j x))) Z3 F3 := Gr.setL (List.mem_singleton.mpr rfl) ai k3
        exact ⟨ad, xs, k, j, rfl, rfl, k3, by rw [k4.length]; exact ej, h σ _ _ _ R4 (g3.trans g4).gs Ag.refl⟩
      · exact h.elim
    · exact h.elim
  · exact h.elim
theorem s_aug (g : Gd S X c W) {o : BO} {p : Pos} (h1 : c.N[i]? = some x) (h2 : c.sto x = true) (he : PE X e (tE S X.K W a)) (ho : o = .add ∨ o = .sub) : PS X (.AugAssign (.Name x p) o.ast e pos) (tS S X.K W (.aug i o a)) := by
  obtain ⟨l1, l2⟩ := g.sto h2
  have N := g.N
  rcases ho with rfl | rfl
  · refine PS.imp (ps_aug (i := i) g.nd (by rw [N]; exact h1) l1 he ip_add l2) fun D σ H ⟨ρ, Z, F, R, h⟩ => ?_
    unfold execS at h
    split at h
    · rename_i y e0
      obtain ⟨v, hv, rv⟩ := R.rep i _ e0
      refine ⟨v, hv, ρ, Z, F, R, (OutS.expr h).imp fun w ρ1 h y' H1 Z1 F1 R1 g1 v1 => ?_⟩
      split at h
      · rename_i z ev
        have two : ∃ i' j, y = .int i' ∧ z = .int j := by
          cases y <;> cases z <;> first | exact ⟨_, _, rfl, rfl⟩ | exact h.elim
        obtain ⟨i', j, rfl, rfl⟩ := two
        have ev2 : v = .int i' := by
          generalize F i = L at rv
          cases rv with
          | dat rv => cases rv; rfl
        have ey := (v1.now ev).int
        subst ey ev2
        exact ⟨_, _, rfl, rfl, h _ _ _ _ (R1.store (L := []) (.dat (.int _)) (fun _ h => nomatch h) fun _ h => nomatch h) (g1.gs.setF (L := []) fun _ h => nomatch h) Ag.set⟩
      · exact h.elim
    · exact h.elim
  · refine PS.imp (ps_aug (i := i) g.nd (by rw [N]; exact h1) l1 he ip_sub l2) fun D σ H ⟨ρ, Z, F, R, h⟩ => ?_
    unfold execS at h
    split at h
    · rename_i y e0
      obtain ⟨v, hv, rv⟩ := R.rep i _ e0
      refine ⟨v, hv, ρ, Z, F, R, (OutS.expr h).imp fun w ρ1 h y' H1 Z1 F1 R1 g1 v1 => ?_⟩
      split at h
      · rename_i z ev
        have two : ∃ i' j, y = .int i' ∧ z = .int j := by
          cases y <;> cases z <;> first | exact ⟨_, _, rfl, rfl⟩ | exact h.elim
        obtain ⟨i', j, rfl, rfl⟩ := two
        have ev2 : v = .int i' := by
          generalize F i = L at rv
          cases rv with
          | dat rv => cases rv; rfl
        have ey := (v1.now ev).int
        subst ey ev2
        exact ⟨_, _, rfl, rfl, h _ _ _ _ (R1.store (L := []) (.dat (.int _)) (fun _ h => nomatch h) fun _ h => nomatch h) (g1.gs.setF (L := []) fun _ h => nomatch h) Ag.set⟩
      · exact h.elim
    · exact h.elim
theorem s_ret (he : PE X e (tE S X.K W a)) : PS X (.Return (some e) pos) (tS S X.K W (.ret a)) := by
  refine PS.imp (ps_ret he) fun D σ H ⟨ρ, Z, F, R, h⟩ => ?_
  unfold execS at h
  refine ⟨ρ, Z, F, R, (OutS.expr h).imp fun v ρ1 h x H1 Z1 F1 R1 g1 v1 => ?_⟩
  split at h
  · rename_i o i
    obtain ⟨L, h1, h2⟩ := v1
    have R2 := R1.drop (i := i)
    have g2 : Gr [] H1 Z1 F1 H1 Z1 (fset F1 i []) := Gr.shrink fun j a m => (mem_fset m).elim (fun m => nomatch m.2) fun m => m.2
    exact h σ _ _ _ R2 (g1.gs.trans g2.gs) Ag.refl x ⟨L, h1, fun ad ha => ⟨R1.nz i ad (h2 ad ha), fun j m => (mem_fset m).elim (fun m => nomatch m.2) fun m => m.1 (R1.dj j i ad m.2 (h2 ad ha)), g1.fn' (h2 ad ha)⟩⟩
  · rename_i hn
    refine h σ _ _ _ R1 g1.gs Ag.refl x ?_
    cases v with
    | d p => exact v1
    | pk o i => exact (hn _ _ rfl).elim
    | fr o => exact v1
theorem s_retn : PS X (.Return none pos) (tS S X.K W .retn) := PS.imp ps_retN fun D σ H ⟨ρ, Z, F, R, h⟩ => by
  unfold execS at h
  exact h σ H Z F R GS.refl Ag.refl _ .non
theorem s_brk : PS X (.Break pos) (tS S X.K W .brk) := PS.imp ps_break fun D σ H ⟨ρ, Z, F, R, h⟩ => by
  unfold execS at h
  exact h σ H Z F R GS.refl Ag.refl
theorem s_cnt : PS X (.Continue pos) (tS S X.K W .cnt) := PS.imp ps_continue fun D σ H ⟨ρ, Z, F, R, h⟩ => by
  unfold execS at h
  exact h σ H Z F R GS.refl Ag.refl
theorem s_pass : PS X (.Pass pos) (tS S X.K W .pass) := PS.imp ps_pass fun D σ H ⟨ρ, Z, F, R, h⟩ => by
  unfold execS at h
  exact h σ H Z F R GS.refl Ag.refl
theorem s_never {st : Stmt} : PS X st (tS S X.K W .never) := PS.imp ps_never fun D σ H ⟨ρ, Z, F, R, h⟩ => by
  unfold execS at h
  exact h
theorem ss_nil : PSs X [] (tS S X.K W .nil) := PSs.imp pss_nil fun D σ H ⟨ρ, Z, F, R, h⟩ => by
  unfold execS at h
  exact h σ H Z F R GS.refl Ag.refl
theorem ss_cons {st : Stmt} {rest : List Stmt} {s t : IS} (h1 : PS X st (tS S X.K W s)) (h2 : PSs X rest (tS S X.K W t)) : PSs X (st :: rest) (tS S X.K W (.seq s t)) := by
  refine PSs.imp (pss_cons h1 h2) fun D σ H ⟨ρ, Z, F, R, h⟩ => ⟨ρ, Z, F, R, ?_⟩
  unfold execS at h
  have kl : ∀ i ∈ asS s, i ∈ asS (.seq s t) := fun i m => List.mem_append_left _ m
  have kr : ∀ i ∈ asS t, i ∈ asS (.seq s t) := fun i m => List.mem_append_right _ m
  cases es : execS S.G S.C s ρ with
  | no => rw [es] at h; exact h.elim
  | ex e ρ1 =>
    rw [es] at h
    exact OutS.later (la := []) h GS.refl Ag.refl (fun _ m => nomatch m) kl
  | ok fl ρ1 =>
    rw [es] at h
    cases fl with
    | nx => exact fun σ1 H1 Z1 F1 R1 g1 a1 => ⟨ρ1, Z1, F1, R1, OutS.later h g1 a1 kl kr⟩
    | rt v => exact OutS.later (D := { D with nx := tS S X.K W t D }) (r := .ok (.rt v) ρ1) (la := []) h GS.refl Ag.refl (fun _ m => nomatch m) kl
    | bk => exact OutS.later (D := { D with nx := tS S X.K W t D }) (r := .ok .bk ρ1) (la := []) h GS.refl Ag.refl (fun _ m => nomatch m) kl
    | ct => exact OutS.later (D := { D with nx := tS S X.K W t D }) (r := .ok .ct ρ1) (la := []) h GS.refl Ag.refl (fun _ m => nomatch m) kl
theorem s_if {sa sb : List Stmt} {s t : IS} (hc : PT X e (tT S X.K W a)) (h1 : PSs X sa (tS S X.K W s)) (h2 : PSs X sb (tS S X.K W t)) : PS X (.If e sa sb pos) (tS S X.K W (.if_ a s t)) := by
  refine PS.imp (ps_if hc h1 h2) fun D σ H ⟨ρ, Z, F, R, h⟩ => ?_
  unfold execS at h
  have kl : ∀ i ∈ asS s, i ∈ asS (.if_ a s t) := fun i m => List.mem_append_left _ m
  have kr : ∀ i ∈ asS t, i ∈ asS (.if_ a s t) := fun i m => List.mem_append_right _ m
  refine ⟨ρ, Z, F, R, (OutS.expr h).imp fun v ρ1 h => ?_⟩
  unfold boolOf at h
  split at h
  · rename_i k ev
    refine ⟨k, ev, fun H1 Z1 F1 R1 g1 => ?_⟩
    have h : OutS S X.K W _ σ H Z F (if k = true then execS S.G S.C s ρ1 else execS S.G S.C t ρ1) D := h
    cases k with
    | true =>
      dsimp only
      rw [if_pos rfl] at h ⊢
      exact ⟨ρ1, Z1, F1, R1, (h.on g1).later (la := []) GS.refl Ag.refl (fun _ m => nomatch m) kl⟩
    | false =>
      dsimp only
      rw [if_neg Bool.false_ne_true] at h ⊢
      exact ⟨ρ1, Z1, F1, R1, (h.on g1).later (la := []) GS.refl Ag.refl (fun _ m => nomatch m) kr⟩
  · exact h.elim
end
end TL
set_option Elab.async false
set_option linter.all false
set_option maxRecDepth 100000
set_option maxHeartbeats 2000000
namespace TL
open PySem PySem.Spec L2

section
variable {S : Sg} {X : Cx} {c : Sc} {W : WX} {a b d : IE} {l q e : Expr} {es : List Expr} {pos p : Pos} {i : Nat} {x : Str}
theorem s_setLc (g : Gd S X c W) {p : Pos} {elt : IE} {it : II} {tg : IT} {cs : IA} {own : List Nat} {ow : List (Str × Nat)} {ex t iter : Expr} {fs : List Expr} {scope : Scope} {pos2 : Pos} (h1 : c.N[i]? = some x) (h2 : c.names.lookup x = some .local)
    (hsw : swapsWith (.ListComp ex [⟨t, iter, fs, 0⟩] scope pos2) (some (.Name x p)) pos.line X.env = pure true) (hi : PI X t iter (tI S X.K W it)) (ok : BlkOk X.N X.env.scope scope ow) (ho : ow.map (·.2) = own)
    (hag : ∀ i ∈ asT tg, i ∈ own) (hf : plainE iter = true)
    (hg : ∀ (s : Shared) (H : Hp) (C : Addr) (cl : List (Str × Addr)) (fp : List Addr), PG (X.blk s H scope (compEnvC scope cl C X.env) fp) t (tGt X.K tg))
    (ht : ∀ (s : Shared) (H : Hp) (C : Addr) (cl : List (Str × Addr)) (fp : List Addr), PTs (X.blk s H scope (compEnvC scope cl C X.env) fp) fs (tCs S X.K W0 cs))
    (he : ∀ (s : Shared) (H : Hp) (C : Addr) (cl : List (Str × Addr)) (fp : List Addr), PE (X.blk s H scope (compEnvC scope cl C X.env) fp) ex (tE S X.K W0 elt)) :
    PS X (.Assign [.Name x p] (.ListComp ex [⟨t, iter, fs, 0⟩] scope pos2) pos) (tS S X.K W (.set i (.lc elt tg it cs own))) := by
  have P := ps_setLc (i := i) g.calm g.nd (by rw [g.N]; exact h1) (by rw [g.names]; exact h2) hsw hi ok hg ht he (folded hf)
  rw [ho] at P
  exact PS.imp P fun D σ H h => lc_step hag σ H _ (set_step D σ H h)

theorem s_for (g : Gd S X c W) {t : IT} {it : II} {bd : IS} {tg iter : Expr} {body : List Stmt} (hi : PI X tg iter (tI S X.K W it)) (ht : ckT c t tg = true) (hf : plainE iter = true) (hb : PSs X body (tS S X.K W bd)) :
    PS X (.For tg iter body [] pos) (tS S X.K W (.for_ t it bd)) := by
  refine PS.imp (ps_for g.pass g.calm hi (g_ok g ht) hb (folded hf)) fun D σ H ⟨ρ, Z, F, R, h⟩ => ?_
  unfold execS at h
  refine ⟨ρ, Z, F, R, (OutS.expr h).imp fun p ρ1 h J H1 Z1 F1 R1 g1 wk => ?_⟩
  obtain ⟨ds, hid⟩ := p
  dsimp only at h wk
  split at h
  · exact h.elim
  rename_i hno
  have hno : ∀ q ∈ hid, q.1 ∉ asT t ++ asS bd := fun q hq m => hno (List.any_eq_true.mpr ⟨q, hq, by simpa using m⟩)
  obtain ⟨Pr, Hd, p0, wp⟩ := wk
  generalize hfd : (fun (x : Pd) (ρ : Ev) => (match assignT t x ρ with
      | some ρ => execS S.G S.C bd ρ
      | none => .no : Re Fl)) = f at h
  let ll := asT t ++ asS bd
  let Fin : Re Fl → Prop := fun r => OutS S X.K W ll σ H Z F (r.mapE (unhide hid)) D
  have h : Fin (forGo f ds ρ1) := h
  -- what a state of the loop's is known of
  let St : Ev → L2.St → Hp → Zs → Fp → Prop := fun ρc σc Hc Zc Fc => Rel X.K ρc σc Hc Zc Fc ∧ Pr Zc Fc Hc ∧ GS H1 Z1 F1 Hc Zc Fc ∧ Ag ll σ σc
  -- at an end
  have fin : ∀ {ρc σc Hc Zc Fc} {P : L2.St → Hp → Zs → Fp → Prop}, St ρc σc Hc Zc Fc → Post X.K ll σ H Z F (unhide hid ρc) P → ∃ F', P σc Hc Zc F' ∧ ∀ i a, a ∈ F' i → a ∈ Fc i ∨ Hd a := by
    intro ρc σc Hc Zc Fc P ⟨Rc, pc, gc, ac⟩ hp
    obtain ⟨F', R', f'⟩ := wp.back pc Rc fun q hq => ac.at_ _ (hno q hq)
    have gt := g1.gs.trans gc
    refine ⟨F', hp σc Hc Zc F' R' ⟨gt.keep, gt.am, gt.zm, gt.zn, fun i a m => ?_⟩ ac, fun i a m => (f' i a m).imp id fun m => m.1⟩
    rcases f' i a m with m | ⟨_, _, m | m | ⟨j, _, m⟩⟩
    · exact gt.fn i a m
    · exact .inr ⟨i, m⟩
    · exact .inl m
    · exact .inr ⟨j, m⟩
  let Wf : Nat → Nat → L2.St → Hp → Prop := fun i m σc Hc => ∃ ρc Zc Fc, m = ds.length - i ∧ i ≤ ds.length ∧ St ρc σc Hc Zc Fc ∧ Fin (forGo f (ds.drop i) ρc)
  refine ⟨Wf, ⟨ds.length, ρ1, Z1, F1, rfl, Nat.zero_le _, ⟨R1, p0, GS.refl, Ag.refl⟩, h⟩, ?_⟩
  rintro i m σc Hc ⟨ρc, Zc, Fc, em, hi, sc, hh⟩
  obtain ⟨Rc, pc, gc, ac⟩ := sc
  by_cases hlt : i < ds.length
  · have ed : ds[i]? = some ds[i] := List.getElem?_eq_getElem hlt
    have dr : ds.drop i = ds[i] :: ds.drop (i + 1) := List.drop_eq_getElem_cons hlt
    rw [dr] at hh
    generalize ds[i] = d at ed hh
    obtain ⟨go, yl⟩ := wp.go pc ed
    refine .inr ⟨go, fun σ' H' => Wf (i + 1) (ds.length - (i + 1)) σ' H', fun σ' H' w => ⟨_, by omega, w⟩, fun x H' y => ?_⟩
    obtain ⟨Z', rd, gy, tr⟩ := yl x H' y
    have Ry := tr Rc
    have py := wp.step pc Rc gy.gs.gw
    have gy2 := gc.trans gy.gs
    unfold forGo at hh
    cases ea : assignT t d ρc with
    | none =>
      have ef : f d ρc = .no := by rw [← hfd]; dsimp only; rw [ea]
      rw [ef] at hh
      exact hh.elim
    | some ρ2 =>
      have ef : f d ρc = execS S.G S.C bd ρ2 := by rw [← hfd]; dsimp only; rw [ea]
      rw [ef] at hh
      refine ⟨ρc, Z', Fc, d, ρ2, Ry, rd, ea, fun σ2 F2 R2 f2 a2 => ⟨ρ2, Z', F2, R2, ?_⟩⟩
      have gs2 : Gr [] H' Z' Fc H' Z' F2 := Gr.shrink f2
      have p2 := wp.step py Ry gs2.gs.gw
      have g2 := gy2.trans gs2.gs
      have a2' : Ag ll σ σ2 := (ac.trans a2).weak fun i m => (List.mem_append.mp m).elim id fun m => List.mem_append_left _ m
      have st7 : ∀ {ρ7 σ7 H7 Z7 F7}, Rel X.K ρ7 σ7 H7 Z7 F7 → GS H' Z' F2 H7 Z7 F7 → Ag (asS bd) σ2 σ7 → St ρ7 σ7 H7 Z7 F7 := fun R7 g7 a7 =>
        ⟨R7, wp.step p2 R2 g7.gw, g2.trans g7, (a2'.trans a7).weak fun i m => (List.mem_append.mp m).elim id fun m => List.mem_append_right _ m⟩
      cases eb : execS S.G S.C bd ρ2 with
      | no => rw [eb] at hh; exact hh.elim
      | ex e ρ7 =>
        rw [eb] at hh
        intro σ7 H7 Z7 F7 R7 g7 a7
        exact (fin (st7 R7 g7 a7) hh).elim fun _ h => h.1
      | ok fl ρ7 =>
        rw [eb] at hh
        cases fl with
        | nx => exact fun σ7 H7 Z7 F7 R7 g7 a7 => ⟨ρ7, Z7, F7, rfl, hlt, st7 R7 g7 a7, hh⟩
        | ct => exact fun σ7 H7 Z7 F7 R7 g7 a7 => ⟨ρ7, Z7, F7, rfl, hlt, st7 R7 g7 a7, hh⟩
        | bk => exact fun σ7 H7 Z7 F7 R7 g7 a7 => (fin (st7 R7 g7 a7) hh).elim fun _ h => h.1
        | rt v =>
          intro σ7 H7 Z7 F7 R7 g7 a7 y rr
          have s7 := st7 R7 g7 a7
          obtain ⟨F', hx, f'⟩ := fin s7 hh
          refine hx y ?_
          have gt := g1.gs.trans (g2.trans g7)
          cases v with
          | d p => exact rr
          | pk o i => exact rr
          | fr o =>
            obtain ⟨L, h1, h2⟩ := rr
            refine ⟨L, h1, fun ad ha => ⟨(h2 ad ha).1, fun j m => ?_, ?_⟩⟩
            · rcases f' j ad m with m | m
              · exact (h2 ad ha).2.1 j m
              · obtain ⟨⟨u, eu⟩, nf⟩ := wp.hd p2 m
                rcases (h2 ad ha).2.2 with n | ⟨k, n⟩
                · rw [n] at eu; cases eu
                · exact nf k n
            · have gt2 := g1.gs.trans g2
              rcases (h2 ad ha).2.2 with n | ⟨k, n⟩
              · exact .inl (gt2.am ad n)
              · exact gt2.fn k ad n
  · have ei : i = ds.length := by omega
    subst ei
    rw [List.drop_length] at hh
    exact .inl ⟨wp.stop pc, (fin ⟨Rc, pc, gc, ac⟩ hh).elim fun _ h => h.1⟩
theorem s_whl (g : Gd S X c W) {n : Nat} {bd : IS} {body : List Stmt} (hc : PT X e (tT S X.K W a)) (hb : PSs X body (tS S X.K W bd)) : PS X (.While e body [] pos) (tS S X.K W (.whl n a bd)) := by
  refine PS.imp (ps_while g.pass hc hb) fun D σ H ⟨ρ, Z, F, R, h⟩ => ?_
  unfold execS at h
  let Fin : Re Fl → Prop := fun r => OutS S X.K W (asS bd) σ H Z F r D
  let cf : Ev → Re Bool := fun ρ => (evalE S.G S.C a ρ).bind boolOf
  let f := execS S.G S.C bd
  let Wf : Nat → L2.St → Hp → Prop := fun m σc Hc => ∃ ρc Zc Fc, Rel X.K ρc σc Hc Zc Fc ∧ GS H Z F Hc Zc Fc ∧ Ag (asS bd) σ σc ∧ Fin (whlGo cf f m ρc)
  refine ⟨Wf, ⟨n, ρ, Z, F, R, GS.refl, Ag.refl, h⟩, ?_⟩
  rintro m σc Hc ⟨ρc, Zc, Fc, Rc, gc, ac, hh⟩
  cases m with
  | zero => unfold whlGo at hh; exact hh.elim
  | succ m =>
    refine ⟨ρc, Zc, Fc, Rc, ?_⟩
    unfold whlGo at hh
    cases ee : evalE S.G S.C a ρc with
    | no =>
      have ec : cf ρc = .no := by show (evalE S.G S.C a ρc).bind boolOf = _; rw [ee]; rfl
      rw [ec] at hh
      exact hh.elim
    | ex x ρ1 =>
      have ec : cf ρc = .ex x ρ1 := by show (evalE S.G S.C a ρc).bind boolOf = _; rw [ee]; rfl
      rw [ec] at hh
      exact fun cl d H' Z' F' R' g' hx => hh σc H' Z' F' R' (gc.trans g'.gs) ac cl d hx
    | ok v ρ1 =>
      cases ev : v.view with
      | none =>
        have ec : cf ρc = .no := by show (evalE S.G S.C a ρc).bind boolOf = _; rw [ee]; show boolOf v ρ1 = _; unfold boolOf; rw [ev]
        rw [ec] at hh
        exact hh.elim
      | some w =>
        by_cases hw : ∃ k, w = .bool k
        · obtain ⟨k, rfl⟩ := hw
          have ec : cf ρc = .ok k ρ1 := by show (evalE S.G S.C a ρc).bind boolOf = _; rw [ee]; show boolOf v ρ1 = _; unfold boolOf; rw [ev]
          rw [ec] at hh
          have hh : Fin (if k then (match f ρ1 with
            | .ok .nx ρ' => whlGo cf f m ρ'
            | .ok .ct ρ' => whlGo cf f m ρ'
            | .ok .bk ρ' => .ok .nx ρ'
            | r => r : Re Fl) else .ok .nx ρ1) := hh
          refine ⟨k, ev, fun H1 Z1 F1 R1 g1 => ?_⟩
          have gc1 := gc.trans g1.gs
          cases k with
          | false =>
            dsimp only
            rw [if_neg Bool.false_ne_true] at hh ⊢
            exact hh σc H1 Z1 F1 R1 gc1 ac
          | true =>
            dsimp only
            rw [if_pos rfl] at hh ⊢
            refine ⟨fun σ' H' => Wf m σ' H', fun σ' H' w => ⟨m, Nat.lt_succ_self m, w⟩, ρ1, Z1, F1, R1, ?_⟩
            have aa : ∀ {σ7}, Ag (asS bd) σc σ7 → Ag (asS bd) σ σ7 := fun a7 => (ac.trans a7).weak fun i m => (List.mem_append.mp m).elim id id
            cases eb : execS S.G S.C bd ρ1 with
            | no =>
              have ef : f ρ1 = .no := eb
              rw [ef] at hh
              exact hh.elim
            | ex e ρ7 =>
              have ef : f ρ1 = .ex e ρ7 := eb
              rw [ef] at hh
              exact fun σ7 H7 Z7 F7 R7 g7 a7 => hh σ7 H7 Z7 F7 R7 (gc1.trans g7) (aa a7)
            | ok fl ρ7 =>
              have ef : f ρ1 = .ok fl ρ7 := eb
              rw [ef] at hh
              cases fl with
              | nx => exact fun σ7 H7 Z7 F7 R7 g7 a7 => ⟨ρ7, Z7, F7, R7, gc1.trans g7, aa a7, hh⟩
              | ct => exact fun σ7 H7 Z7 F7 R7 g7 a7 => ⟨ρ7, Z7, F7, R7, gc1.trans g7, aa a7, hh⟩
              | bk => exact fun σ7 H7 Z7 F7 R7 g7 a7 => hh σ7 H7 Z7 F7 R7 (gc1.trans g7) (aa a7)
              | rt v => exact fun σ7 H7 Z7 F7 R7 g7 a7 y rr => hh σ7 H7 Z7 F7 R7 (gc1.trans g7) (aa a7) y (rr.back gc1)
        · have ec : cf ρc = .no := by
            show (evalE S.G S.C a ρc).bind boolOf = _
            rw [ee]
            show boolOf v ρ1 = _
            unfold boolOf
            rw [ev]
            cases w <;> first | rfl | exact (hw ⟨_, rfl⟩).elim
          rw [ec] at hh
          exact hh.elim
end
end TL
set_option Elab.async false
set_option linter.all false
set_option maxRecDepth 100000
set_option maxHeartbeats 2000000
namespace TL
open PySem PySem.Spec L2

section
variable {S : Sg} {X : Cx} {c : Sc} {W : WX} {a b d : IE} {as r : IA} {l q e : Expr} {es : List Expr} {pos p : Pos}
theorem e_slk {k j : Nat} {p1 p2 : Pos} (hk : 0 < k) (ha : PE X l (tE S X.K W a)) (hb : PE X q (tE S X.K W b)) : PE X (.Subscript l (.Slice (some q) none (some (.Constant (.int (k : Int)) j p1)) p2) pos) (tE S X.K W (.slk a b k)) := by
  refine PE.imp (pe_stepL (by omega) ha (po_some hb)) fun σ H Q ⟨ρ, Z, F, R, h⟩ => ?_
  unfold evalE at h
  refine ⟨ρ, Z, F, R, (Out.first (io' := ioE b) h).imp fun v ρ1 h x H1 Z1 F1 R1 g1 v1 => ?_⟩
  refine ⟨ρ1, Z1, F1, R1, (Out.one (Out.later g1 h)).imp fun w ρ2 h y H2 Z2 F2 R2 g2 v2 => ?_⟩
  split at h
  · rename_i ds i e1 e2
    rw [if_pos hk] at h
    have ey := (v2.now e2).int
    subst ey
    obtain ⟨ad, xs, rfl, h1, h2⟩ := (v1.later R1 g2 e1).list
    refine ⟨i, rfl, ad, xs, i, rfl, rfl, h1.sq, fun p hp => ?_⟩
    rw [h2.length]
    have m := upd_more (o := .lst (pickS (idxS i (k : Int) ds.length) xs)) hp
    have g3 : Gr [] H2 Z2 F2 (upd H2 p (.lst (pickS (idxS i (k : Int) ds.length) xs))) Z2 F2 := Gr.more m
    exact h _ _ _ _ (R2.more m) (((g1.trans g2).trans g3).weak fun i hi => (List.mem_append.mp hi).elim id fun h => nomatch h) (RV.newL R2 hp (g1.am p (g2.am p hp)) (h2.pick _))
  · exact h.elim
theorem e_srt (g : Gd S X c W) {x y : Str} {p2 pos2 : Pos} (hx : x = "sorted") (h2 : c.glo x = true) (h3 : x ∈ S.T.free) (hy : y = "set") (k2 : c.glo y = true) (k3 : y ∈ S.T.free) (ha : PE X l (tE S X.K W a)) (hp : plainE l = true) :
    PE X (.Call (.Name x p) [.Call (.Name y p2) [l] [] pos2] [] pos) (tE S X.K W (.srt a)) := by
  subst hx hy
  refine PE.imp (pe_callB (cr_sortedSet g.calm) (g.glo h2) (g.fx.free _ h3) rfl (pa_cons (pe_callTy (cr_setLI g.calm) (g.glo k2) (g.fx.free _ k3) rfl (pa_cons ha pa_nil (starE hp)) (by decide) (by decide) (starE hp) rfl) pa_nil rfl) (by decide) (by decide) rfl rfl) fun σ H Q ⟨ρ, Z, F, R, h⟩ => ?_
  unfold evalE at h
  refine ⟨ρ, Z, F, R, (Out.one h).imp fun v ρ1 h x H1 Z1 F1 R1 g1 v1 => ?_⟩
  split at h
  · rename_i ds e
    split at h
    · rename_i is ei
      split at h
      · rename_i hl
        obtain ⟨ad, xs, rfl, r1, r2⟩ := (v1.now e).list
        rw [intsOf_map ei] at r2
        have ev := r2.ints
        subst ev
        refine ⟨ad, is, rfl, r1.sq, hl, fun p1 n hp1 hn => ⟨p1, _, n, rfl, upd_same, by omega, fun ns q1 hs hm hlen hq => ?_⟩⟩
        have en : ns = srtI is := lt_same hs (lt_srtI is) fun k => by rw [hm k, decide_eq_true_eq, mem_srtI]
        subst en
        have m1 := upd_more (o := SetO X.w p1 (fun j => decide (j ∈ is)) n) hp1
        have m2 := upd_more (o := .lst ((srtI is).map V.int)) hq
        have g2 : Gr [] H1 Z1 F1 (upd H1 p1 (SetO X.w p1 (fun j => decide (j ∈ is)) n)) Z1 F1 := Gr.more m1
        have g3 : Gr [] (upd H1 p1 (SetO X.w p1 (fun j => decide (j ∈ is)) n)) Z1 F1 (upd (upd H1 p1 (SetO X.w p1 (fun j => decide (j ∈ is)) n)) q1 (.lst ((srtI is).map V.int))) Z1 F1 := Gr.more m2
        exact h _ _ _ _ ((R1.more m1).more m2) (((g1.trans g2).trans g3).weak fun i hi => (List.mem_append.mp hi).elim (fun hi => (List.mem_append.mp hi).elim id fun h => nomatch h) fun h => nomatch h) (RV.newL (R1.more m1) hq (g1.am q1 (g2.am q1 hq)) (RFs.of_ints _))
      · exact h.elim
    · exact h.elim
  · exact h.elim
end
end TL
set_option Elab.async false
set_option linter.all false
set_option maxRecDepth 100000
set_option maxHeartbeats 4000000
namespace TL
open PySem PySem.Spec L2

section
variable {T : Tb} {c : Sc}
theorem ck_call {e : Expr} (h : (match e with
    | .Call (.Name _ _) (_ :: _) [] _ => true
    | _ => false) = true) : ∃ x p e1 es pos, e = .Call (.Name x p) (e1 :: es) [] pos := by
  split at h
  · exact ⟨_, _, _, _, _, rfl⟩
  · cases h
theorem freeN_of {x : Str} (h : freeN T c x = true) : c.glo x = true ∧ x ∈ T.free ∧ odd x = false := by
  unfold freeN at h
  simp only [Bool.and_eq_true, Bool.not_eq_true'] at h
  exact ⟨h.1.1, by simpa using h.1.2, h.2⟩
end
theorem Gd.units {S : Sg} {X : Cx} {c : Sc} {W : WX} (g : Gd S X c W) : X.A.units + 70 < cLine := by
  have := g.room.un
  omega
theorem Gd.px {S : Sg} {X : Cx} {c : Sc} {W : WX} (g : Gd S X c W) : ∀ σ, PassesAt (L2.CX X.prog X.w) X σ (fun cl d H => W cl d σ H) := fun σ => passAt g.tk σ
theorem Gd.blk {S : Sg} {X : Cx} {c : Sc} {W : WX} (g : Gd S X c W) {scope : Scope} (hk : scope.kind = .function) (s : Shared) (H : Hp) (C : Addr) (cl : List (Str × Addr)) (fp : List Addr) :
    Gd S (X.blk s H scope (compEnvC scope cl C X.env) fp) (c.blk scope) W0 where
  fx := g.fx
  N := g.N
  nd := g.nd
  names := by
    have kf : X.env.scope.kind = .function := g.kind
    show (relabel scope X.env).names = (c.blk scope).names
    unfold relabel Sc.blk
    dsimp only
    refine List.map_congr_left fun q _ => ?_
    obtain ⟨n, k⟩ := q
    have e : X.env.kindOf n = c.names.lookup n := by
      unfold Env.kindOf
      rw [g.names]
    dsimp only
    rw [kf, e]
    simp
  fn := fun x => rfl
  kind := hk
  calm := g.calm
  room := g.room
  gds := g.gds
  tk := fun _ _ ⟨_, _, _, _, _, _, _, _, _, _, _, _, _, _, _, _, w⟩ => w.elim
  pass := PassesOwn.never
theorem ast_BO {o : BO} {op : Operator} (h : (o.ast == op) = true) : o.ast = op := eq_of_beq h
theorem ast_CO {o : CO} {op : CmpOp} (h : (o.ast == op) = true) : o.ast = op := eq_of_beq h
theorem ck_noSet {T : Tb} {c : Sc} {i : IE} {e : Expr} (h : ckE T c i e = true) (op : CmpOp) : behindInMarks op e = false := by
  cases e with
  | Set es k p =>
    exfalso
    cases i with
    | dct ks vs => (unfold ckE at h; split at h <;> first | cases ‹Expr.Set _ _ _ = _› | cases h)
    | _ => unfold ckE at h; cases h
  | _ => rfl

/-- what is known of a checked expression -/
structure EOk (S : Sg) (X : Cx) (W : WX) (i : IE) (e : Expr) : Prop where
  v : PE X e (tE S X.K W i)
  t : testOk i = true → PT X e (tT S X.K W i)
  w : testOk i = true → (∃ op vs p, e = .BoolOp op vs p) → PW X e (tT S X.K W i)
structure AOk (S : Sg) (X : Cx) (W : WX) (as : IA) (es : List Expr) : Prop where
  d : PA X es (tD S X.K W as)
  v : PA X es (tV S X.K W as)
  p : PA X es (tP S X.K W as)
  a : ∀ m, PA X es (tA S X.K W m as)
  c : testOks as = true → PTs X es (tCs S X.K W as)
theorem EOk.plain {S : Sg} {X : Cx} {W : WX} {i : IE} {e : Expr} (h : PE X e (tE S X.K W i)) (he : ∀ whole, isTrue e X.env whole = (do let v ← whole; standAt e.pos; holding [v] (truthy v))) (hb : ¬ ∃ op vs p, e = .BoolOp op vs p) : EOk S X W i e :=
  ⟨h, fun _ => t_val h he, fun _ z => (hb z).elim⟩
theorem pa_never {X : Cx} {es : List Expr} : PA X es (fun _ _ _ => False) := ⟨fun _ _ _ _ _ _ _ h => h.elim⟩
theorem pts_never {X : Cx} {es : List Expr} : PTs X es (fun _ _ _ => False) := ⟨fun _ _ _ _ _ _ h => h.elim⟩

theorem ck_tail {T : Tb} {c : Sc} {as : IA} {e : Expr} {es : List Expr} (h : ckA T c as (e :: es) = true) : plainE e = true ∧ ∃ r, ckA T c r es = true := by
  cases as with
  | nil => unfold ckA at h; cases h
  | cons a r =>
    unfold ckA at h
    simp only [Bool.and_eq_true] at h
    exact ⟨h.1.2, r, h.2⟩
  | io i r =>
    cases e with
    | Name x p =>
      unfold ckA at h
      simp only [Bool.and_eq_true] at h
      exact ⟨rfl, r, h.2⟩
    | _ => unfold ckA at h; cases h
theorem ck_star {T : Tb} {c : Sc} {X : Cx} {as : IA} {e : Expr} {es : List Expr} (h : ckA T c as (e :: es) = true) : starEach (e :: es) X.env = (false, eval e X.env) :: starEach es X.env := starE (ck_tail h).1
theorem blkOk_to {S : Sg} {X : Cx} {c : Sc} {W : WX} (g : Gd S X c W) {sc scope : Scope} {own : List (Str × Nat)} (k : BlkOk c.N { sc with names := c.names } scope own) : BlkOk X.N X.env.scope scope own :=
  ⟨k.kind, k.uniq, by rw [g.N]; exact k.ix, by rw [g.names]; exact k.free, by rw [g.N]; exact k.own⟩
mutual
theorem e_ok {S : Sg} : ∀ (i : IE) {X : Cx} {c : Sc} {W : WX} (g : Gd S X c W) {e : Expr}, ckE S.T c i e = true → EOk S X W i e
  | .var i, X, c, W, g, e, h => by
    cases e with
    | Name x p =>
      unfold ckE at h
      exact .plain (e_var g h) (fun _ => rfl) (fun ⟨_, _, _, z⟩ => nomatch z)
    | _ => unfold ckE at h; cases h
  | .cst d, X, c, W, g, e, h => by
    cases e with
    | Constant k j p =>
      unfold ckE at h
      split at h
      · rename_i q eq
        exact .plain (e_cst eq h) (fun _ => rfl) (fun ⟨_, _, _, z⟩ => nomatch z)
      · cases h
    | _ => unfold ckE at h; cases h
  | .glb k, X, c, W, g, e, h => by
    cases e with
    | Name x p =>
      unfold ckE at h
      simp only [Bool.and_eq_true, Bool.not_eq_true'] at h
      exact .plain (e_glb g (eq_of_beq h.1.1) h.1.2 h.2) (fun _ => rfl) (fun ⟨_, _, _, z⟩ => nomatch z)
    | _ => unfold ckE at h; cases h
  | .neg a, X, c, W, g, e, h => by
    cases e with
    | UnaryOp op e p =>
      cases op with
      | USub =>
        unfold ckE at h
        exact .plain (e_neg (e_ok a g h).v) (fun _ => rfl) (fun ⟨_, _, _, z⟩ => nomatch z)
      | _ => unfold ckE at h; cases h
    | _ => unfold ckE at h; cases h
  | .not_ a, X, c, W, g, e, h => by
    cases e with
    | UnaryOp op e p =>
      cases op with
      | Not =>
        unfold ckE at h
        have k := e_ok a g h
        exact ⟨e_not k.v, fun t => t_not (k.t t), fun _ ⟨_, _, _, z⟩ => nomatch z⟩
      | _ => unfold ckE at h; cases h
    | _ => unfold ckE at h; cases h
  | .bin o a b, X, c, W, g, e, h => by
    cases e with
    | BinOp l op r p =>
      unfold ckE at h
      simp only [Bool.and_eq_true] at h
      have eo := ast_BO h.1.1
      subst eo
      exact .plain (e_bin (e_ok a g h.1.2).v (e_ok b g h.2).v) (fun _ => rfl) (fun ⟨_, _, _, z⟩ => nomatch z)
    | _ => unfold ckE at h; cases h
  | .cmp o a b, X, c, W, g, e, h => by
    cases e with
    | Compare l ops rs p =>
      unfold ckE at h
      split at h <;> try (first | cases ‹IE.cmp _ _ _ = _› | cases h)
      all_goals try cases ‹Expr.Compare _ _ _ _ = _›
      simp only [Bool.and_eq_true] at h
      have eo := ast_CO h.1.1
      subst eo
      have ka := (e_ok a g h.1.2).v
      have kb := (e_ok b g h.2).v
      have m := ck_noSet h.2 o.ast
      have hu := g.units
      exact ⟨e_cmp (by omega) ka kb m, fun _ => t_cmp (by omega) ka kb m, fun _ ⟨_, _, _, z⟩ => nomatch z⟩
    | _ => unfold ckE at h; cases h
  | .chn o o' a b d, X, c, W, g, e, h => by
    cases e with
    | Compare l ops rs p =>
      unfold ckE at h
      split at h <;> try (first | cases ‹IE.chn _ _ _ _ _ = _› | cases h)
      all_goals try cases ‹Expr.Compare _ _ _ _ = _›
      simp only [Bool.and_eq_true] at h
      have eo := ast_CO h.1.1.1.1
      have eo2 := ast_CO h.1.1.1.2
      subst eo eo2
      have ka := (e_ok a g h.1.1.2).v
      have kb := (e_ok b g h.1.2).v
      have kd := (e_ok d g h.2).v
      have m := ck_noSet h.2 o'.ast
      have hu := g.units
      exact ⟨e_chn (by omega) ka kb kd m, fun _ => t_chn (by omega) ka kb kd m, fun _ ⟨_, _, _, z⟩ => nomatch z⟩
    | _ => unfold ckE at h; cases h
  | .and_ a b, X, c, W, g, e, h => by
    cases e with
    | BoolOp op vs p =>
      unfold ckE at h
      split at h <;> try (first | cases ‹IE.and_ _ _ = _› | cases h)
      all_goals try cases ‹Expr.BoolOp _ _ _ = _›
      rename_i x y r
      rw [Bool.and_eq_true] at h
      have ka := e_ok a g h.1
      cases r with
      | nil =>
        have kb := e_ok b g h.2
        refine ⟨e_and ka.v (pe_one kb.v), fun t => ?_, fun t _ => ?_⟩ <;>
        · have t : (testOk a && testOk b) = true := t
          rw [Bool.and_eq_true] at t
          first | exact (w_and (ka.t t.1) (pw_and1 (kb.t t.2))).pt | exact w_and (ka.t t.1) (pw_and1 (kb.t t.2))
      | cons z r =>
        have kb := e_ok b g h.2
        refine ⟨e_and ka.v kb.v, fun t => ?_, fun t _ => ?_⟩ <;>
        · have t : (testOk a && testOk b) = true := t
          rw [Bool.and_eq_true] at t
          first | exact (w_and (ka.t t.1) (kb.w t.2 ⟨_, _, _, rfl⟩)).pt | exact w_and (ka.t t.1) (kb.w t.2 ⟨_, _, _, rfl⟩)
    | _ => unfold ckE at h; cases h
  | .or_ a b, X, c, W, g, e, h => by
    cases e with
    | BoolOp op vs p =>
      unfold ckE at h
      split at h <;> try (first | cases ‹IE.or_ _ _ = _› | cases h)
      all_goals try cases ‹Expr.BoolOp _ _ _ = _›
      rename_i x y r
      rw [Bool.and_eq_true] at h
      have ka := e_ok a g h.1
      cases r with
      | nil =>
        have kb := e_ok b g h.2
        refine ⟨e_or ka.v (pe_one kb.v), fun t => ?_, fun t _ => ?_⟩ <;>
        · have t : (testOk a && testOk b) = true := t
          rw [Bool.and_eq_true] at t
          first | exact (w_or (ka.t t.1) (pw_or1 (kb.t t.2))).pt | exact w_or (ka.t t.1) (pw_or1 (kb.t t.2))
      | cons z r =>
        have kb := e_ok b g h.2
        refine ⟨e_or ka.v kb.v, fun t => ?_, fun t _ => ?_⟩ <;>
        · have t : (testOk a && testOk b) = true := t
          rw [Bool.and_eq_true] at t
          first | exact (w_or (ka.t t.1) (kb.w t.2 ⟨_, _, _, rfl⟩)).pt | exact w_or (ka.t t.1) (kb.w t.2 ⟨_, _, _, rfl⟩)
    | _ => unfold ckE at h; cases h
  | .ife t a b, X, c, W, g, e, h => by
    cases e with
    | IfExp u x y p =>
      unfold ckE at h
      simp only [Bool.and_eq_true] at h
      exact ⟨e_ife ((e_ok t g h.1.1.2).t h.1.1.1) (e_ok a g h.1.2).v (e_ok b g h.2).v, fun t => (nomatch t), fun t _ => nomatch t⟩
    | _ => unfold ckE at h; cases h
  | .lst as, X, c, W, g, e, h => by
    cases e with
    | List es p =>
      unfold ckE at h
      rw [Bool.and_eq_true, decide_eq_true_eq] at h
      exact .plain (e_lst (a_ok as g h.1).d h.1 h.2) (fun _ => rfl) (fun ⟨_, _, _, z⟩ => nomatch z)
    | _ => unfold ckE at h; cases h
  | .tup as, X, c, W, g, e, h => by
    cases e with
    | Tuple es k p =>
      unfold ckE at h
      rw [Bool.and_eq_true, decide_eq_true_eq] at h
      exact .plain (e_tup (a_ok as g h.1).d h.1 h.2) (fun _ => rfl) (fun ⟨_, _, _, z⟩ => nomatch z)
    | _ => unfold ckE at h; cases h
  | .dct ks vs, X, c, W, g, e, h => by
    unfold ckE at h
    split at h <;> try (first | cases ‹IE.dct _ _ = _› | cases h)
    all_goals try cases ‹IE.dct _ _ = _›
    · exact .plain e_dct (fun _ => rfl) (fun ⟨_, _, _, z⟩ => nomatch z)
    · simp only [Bool.and_eq_true] at h
      obtain ⟨h1, h2⟩ := h
      split at h1
      · rename_i q hq
        exact .plain (e_dct1 g hq h1 h2) (fun _ => rfl) (fun ⟨_, _, _, z⟩ => nomatch z)
      · cases h1
  | .idx a b, X, c, W, g, e, h => by
    cases e with
    | Subscript x y p =>
      unfold ckE at h
      simp only [Bool.and_eq_true] at h
      exact .plain (e_idx (plainIx h.2) (e_ok a g h.1.1).v (e_ok b g h.1.2).v) (fun _ => rfl) (fun ⟨_, _, _, z⟩ => nomatch z)
    | _ => unfold ckE at h; cases h
  | .slc a lo hi, X, c, W, g, e, h => by
    cases e with
    | Subscript x y p =>
      unfold ckE at h
      split at h <;> try (first | cases ‹IE.slc _ _ _ = _› | cases h)
      all_goals try cases ‹Expr.Subscript _ _ _ = _›
      rename_i l u p2
      simp only [Bool.and_eq_true] at h
      have part : ∀ (i : IE) (o : Option Expr), (match o with
        | none => i.left
        | some e => !i.left && ckE S.T c i e) = true → (∀ e, ckE S.T c i e = true → EOk S X W i e) → PO X o (tO S X.K W i) := fun i o k f => by
        cases o with
        | none =>
          exact o_none k
        | some e =>
          rw [Bool.and_eq_true, Bool.not_eq_true'] at k
          exact o_some k.1 (f e k.2).v
      exact .plain (e_slc (e_ok a g h.1.1).v (part lo _ h.1.2 fun e k => e_ok lo g k) (part hi _ h.2 fun e k => e_ok hi g k)) (fun _ => rfl) (fun ⟨_, _, _, z⟩ => nomatch z)
    | _ => unfold ckE at h; cases h
  | .rev a, X, c, W, g, e, h => by
    unfold ckE at h
    split at h <;> try (first | cases ‹IE.rev _ = _› | cases h)
    all_goals try cases ‹IE.rev _ = _›
    exact .plain (e_rev (e_ok a g h).v) (fun _ => rfl) (fun ⟨_, _, _, z⟩ => nomatch z)
  | .srt a, X, c, W, g, e, h => by
    unfold ckE at h
    split at h <;> try (first | cases ‹IE.srt _ = _› | cases h)
    all_goals try cases ‹IE.srt _ = _›
    simp only [Bool.and_eq_true] at h
    obtain ⟨⟨⟨⟨h1, h2⟩, h3, h4⟩, h5⟩, h6⟩ := h
    obtain ⟨f1, f2, _⟩ := freeN_of h2
    obtain ⟨f4, f5, _⟩ := freeN_of h4
    exact .plain (e_srt g (eq_of_beq h1) f1 f2 (eq_of_beq h3) f4 f5 (e_ok a g h5).v h6) (fun _ => rfl) (fun ⟨_, _, _, z⟩ => nomatch z)
  | .slk a lo k, X, c, W, g, e, h => by
    unfold ckE at h
    split at h <;> try (first | cases ‹IE.slk _ _ _ = _› | cases h)
    all_goals try cases ‹IE.slk _ _ _ = _›
    simp only [Bool.and_eq_true, decide_eq_true_eq] at h
    obtain ⟨⟨⟨h1, h2⟩, h3⟩, h4⟩ := h
    subst h3
    exact .plain (e_slk h4 (e_ok a g h1).v (e_ok lo g h2).v) (fun _ => rfl) (fun ⟨_, _, _, z⟩ => nomatch z)
  | .cal f as, X, c, W, g, e, h => by
    have h0 := h
    unfold ckE at h
    split at h <;> try (first | cases ‹IE.cal _ _ = _› | cases h)
    all_goals try cases ‹IE.cal _ _ = _›
    simp only [Bool.and_eq_true, Bool.not_eq_true'] at h
    have ka := a_ok as g h.2
    exact .plain (e_cal g (eq_of_beq h.1.1.1) h.1.1.2 h.1.2 h.2 g.px (ka.a _) (ck_star h.2) (ckA_star (ck_tail h.2).2.choose_spec)) (fun _ => rfl) (fun ⟨_, _, _, z⟩ => nomatch z)
  | .bi b as, X, c, W, g, e, h => by
    unfold ckE at h
    split at h <;> try (first | cases ‹IE.bi _ _ = _› | cases h)
    all_goals try cases ‹IE.bi _ _ = _›
    simp only [Bool.and_eq_true] at h
    obtain ⟨f1, f2, f3⟩ := freeN_of h.1.2
    exact .plain (e_bi g g.units (a_ok as g h.2).p (eq_of_beq h.1.1) f1 f2 f3 h.2 (ck_star h.2) (ckA_star (ck_tail h.2).2.choose_spec)) (fun _ => rfl) (fun ⟨_, _, _, z⟩ => nomatch z)
  | .repL as, X, c, W, g, e, h => by
    unfold ckE at h
    split at h <;> try (first | cases ‹IE.repL _ = _› | cases h)
    all_goals try cases ‹IE.repL _ = _›
    simp only [Bool.and_eq_true, decide_eq_true_eq] at h
    obtain ⟨⟨⟨h1, h2⟩, h3⟩, h4⟩ := h
    obtain ⟨f1, f2, f3⟩ := freeN_of h2
    exact .plain (e_repL g g.units (eq_of_beq h1) f1 f2 (a_ok as g h3).p h3 h4) (fun _ => rfl) (fun ⟨_, _, _, z⟩ => nomatch z)
  | .isi k a, X, c, W, g, e, h => by
    unfold ckE at h
    split at h <;> try (first | cases ‹IE.isi _ _ = _› | cases h)
    all_goals try cases ‹IE.isi _ _ = _›
    simp only [Bool.and_eq_true] at h
    obtain ⟨⟨⟨⟨⟨h1, h2⟩, h3⟩, h4⟩, h5⟩, h6⟩ := h
    obtain ⟨f1, f2, f3⟩ := freeN_of h2
    obtain ⟨k1, k2, k3⟩ := freeN_of h4
    exact .plain (e_isi g (eq_of_beq h1) f1 f2 (eq_of_beq h3) k1 k2 (e_ok a g h5).v h6) (fun _ => rfl) (fun ⟨_, _, _, z⟩ => nomatch z)
  | .mpop i, X, c, W, g, e, h => by
    unfold ckE at h
    split at h <;> try (first | cases ‹IE.mpop _ = _› | cases h)
    all_goals try cases ‹IE.mpop _ = _›
    simp only [Bool.and_eq_true] at h
    exact .plain (e_mpop g h.1.1 (eq_of_beq h.1.2) h.2 rfl) (fun _ => rfl) (fun ⟨_, _, _, z⟩ => nomatch z)
  | .mpopi i a, X, c, W, g, e, h => by
    unfold ckE at h
    cases h
  | .lc elt tg it cs own, X, c, W, g, e, h => by
    unfold ckE at h
    split at h <;> try (first | cases ‹IE.lc _ _ _ _ _ = _› | cases h)
    all_goals try cases ‹IE.lc _ _ _ _ _ = _›
    simp only [Bool.and_eq_true, List.all_eq_true, List.contains_eq_mem, decide_eq_true_eq] at h
    obtain ⟨⟨⟨⟨⟨⟨⟨⟨h1, h2⟩, h3⟩, h4⟩, h5⟩, h6⟩, h7⟩, h8⟩, h9⟩ := h
    have ok := blkOk_to (sc := ⟨.function, c.names, false, false, []⟩) g (blkOk_by h6)
    have gb := fun s H C cl fp => g.blk ok.kind s H C cl fp
    exact .plain (e_lc g (i_ok it g h1) ok (eq_of_beq h7) h8 h9 (fun s H C cl fp => g_ok (gb s H C cl fp) h2) (fun s H C cl fp => (a_ok cs (gb s H C cl fp) h4).c h5) (fun s H C cl fp => (e_ok elt (gb s H C cl fp) h3).v)) (fun _ => rfl) (fun ⟨_, _, _, z⟩ => nomatch z)
theorem a_ok {S : Sg} : ∀ (as : IA) {X : Cx} {c : Sc} {W : WX} (g : Gd S X c W) {es : List Expr}, ckA S.T c as es = true → AOk S X W as es
  | .nil, X, c, W, g, [], h => ⟨d_nil, v_nil, p_nil, fun _ => a_nil, fun _ => cs_nil⟩
  | .nil, X, c, W, g, _ :: _, h => by unfold ckA at h; cases h
  | .cons _ _, X, c, W, g, [], h => by unfold ckA at h; cases h
  | .cons a r, X, c, W, g, e :: es, h => by
    unfold ckA at h
    simp only [Bool.and_eq_true] at h
    have k := e_ok a g h.1.1
    have kr := a_ok r g h.2
    refine ⟨d_cons k.v kr.d h.1.2, v_cons k.v kr.v h.1.2, p_cons k.v kr.p h.1.2, fun m => a_cons k.v (kr.a m) h.1.2, fun t => ?_⟩
    cases r with
    | nil =>
      cases es with
      | nil => exact cs_one (k.t t)
      | cons _ _ =>
        have h2 := h.2
        unfold ckA at h2
        cases h2
    | cons _ _ => cases t
    | io _ _ => cases t
  | .io i r, X, c, W, g, es, h => by
    cases es with
    | nil => unfold ckA at h; cases h
    | cons e es =>
      cases e with
      | Name x p =>
        unfold ckA at h
        simp only [Bool.and_eq_true] at h
        have kr := a_ok r g h.2
        refine ⟨PA.imp pa_never fun σ H Q ⟨ρ, Z, F, R, h⟩ => ?_, PA.imp pa_never fun σ H Q ⟨ρ, Z, F, R, h⟩ => ?_, PA.imp pa_never fun σ H Q ⟨ρ, Z, F, R, h⟩ => ?_, fun m => a_io g h.1 (kr.a m), fun t => nomatch t⟩
        · unfold evalD at h
          exact h
        · unfold evalV at h
          exact h
        · unfold evalP at h
          exact h
      | _ => unfold ckA at h; cases h
theorem i_ok {S : Sg} : ∀ (it : II) {X : Cx} {c : Sc} {W : WX} (g : Gd S X c W) {e tg : Expr}, ckI S.T c it e tg = true → PI X tg e (tI S X.K W it)
  | .val a, X, c, W, g, e, tg, h => by
    unfold ckI at h
    simp only [Bool.and_eq_true] at h
    exact i_val (e_ok a g h.1).v
  | .rng1 a, X, c, W, g, e, tg, h => by
    unfold ckI at h
    split at h <;> try (first | cases ‹II.rng1 _ = _› | cases h)
    all_goals try cases ‹II.rng1 _ = _›
    simp only [Bool.and_eq_true] at h
    obtain ⟨f1, f2, f3⟩ := freeN_of h.1.1.2
    exact i_rng1 g (eq_of_beq h.1.1.1) f1 f2 (e_ok a g h.1.2).v h.2
  | .rng2 a b, X, c, W, g, e, tg, h => by
    unfold ckI at h
    split at h <;> try (first | cases ‹II.rng2 _ _ = _› | cases h)
    all_goals try cases ‹II.rng2 _ _ = _›
    simp only [Bool.and_eq_true] at h
    obtain ⟨f1, f2, f3⟩ := freeN_of h.1.1.1.1.2
    exact i_rng2 g (eq_of_beq h.1.1.1.1.1) f1 f2 (e_ok a g h.1.1.1.2).v (e_ok b g h.1.1.2).v h.1.2 h.2
  | .enm a st, X, c, W, g, e, tg, h => by
    unfold ckI at h
    split at h <;> try (first | cases ‹II.enm _ _ = _› | cases h)
    all_goals try cases ‹II.enm _ _ = _›
    · simp only [Bool.and_eq_true] at h
      obtain ⟨f1, f2, f3⟩ := freeN_of h.1.1.1.2
      have es : st = 0 := eq_of_beq h.1.1.2
      subst es
      exact i_enm g (eq_of_beq h.1.1.1.1) f1 f2 (e_ok a g h.1.2).v h.2
    · simp only [Bool.and_eq_true, decide_eq_true_eq] at h
      obtain ⟨⟨⟨⟨⟨⟨h1, h2⟩, h3⟩, h4⟩, h5⟩, h6⟩, h7⟩ := h
      obtain ⟨f1, f2, f3⟩ := freeN_of h2
      have es := eq_of_beq h3
      subst es
      exact i_enmS g (eq_of_beq h1) f1 f2 ⟨h4, h5⟩ (e_ok a g h6).v h7
  | .zip a b, X, c, W, g, e, tg, h => by
    unfold ckI at h
    split at h <;> try (first | cases ‹II.zip _ _ = _› | cases h)
    all_goals try cases ‹II.zip _ _ = _›
    simp only [Bool.and_eq_true] at h
    obtain ⟨f1, f2, f3⟩ := freeN_of h.1.1.1.1.2
    exact i_zip g (eq_of_beq h.1.1.1.1.1) f1 f2 (e_ok a g h.1.1.1.2).v (e_ok b g h.1.1.2).v h.1.2 h.2
  | .zipd a b, X, c, W, g, e, tg, h => by
    unfold ckI at h
    split at h <;> try (first | cases ‹II.zipd _ _ = _› | cases h)
    all_goals try cases ‹II.zipd _ _ = _›
    simp only [Bool.and_eq_true] at h
    obtain ⟨f1, f2, f3⟩ := freeN_of h.1.1.1.1.2
    exact i_zipd g (eq_of_beq h.1.1.1.1.1) f1 f2 (e_ok a g h.1.1.1.2).v (e_ok b g h.1.1.2).v h.1.2 h.2
end
end TL
set_option Elab.async false
set_option linter.all false
set_option maxRecDepth 100000
set_option maxHeartbeats 4000000
namespace TL
open PySem PySem.Spec L2

section
variable {S : Sg} {X : Cx} {c : Sc} {W : WX}
theorem sw_noComp {e : Expr} (h : noComp e = true) (t : Option Expr) (l : Nat) (env : Env) : swapsWith e t l env = pure false := by
  cases e <;> first | rfl | cases h
theorem sw_sole {e tg : Expr} (l : Nat) (env : Env) (h : noComp e = true ∨ ∃ es k p, tg = .Tuple es k p) : swapsWithSole [tg] e l env = pure false := by
  rcases h with h | ⟨es, k, p, rfl⟩
  · exact sw_noComp h _ _ _
  · cases e <;> rfl
theorem block_fn (g : Gd S X c W) : X.env.blockKind = .function := by
  unfold Env.blockKind
  rw [g.kind]
  rfl
theorem kind_of (g : Gd S X c W) (x : Str) : X.env.kindOf x = c.names.lookup x := by
  unfold Env.kindOf
  rw [g.names]
theorem sw_L (g : Gd S X c W) {x : Str} {px p2 : Pos} {ex : Expr} {gs : List Comprehension} {scope : Scope} (l : Nat) : swapsWith (.ListComp ex gs scope p2) (some (.Name x px)) l X.env = pure (swL c x px scope p2) := by
  unfold swapsWith swL
  simp only [block_fn g, kind_of g, Expr.pos]
  rfl
theorem sw_C (g : Gd S X c W) {ts vs : List Expr} {k k2 : _} {p p2 : Pos} {r : Option (List Str)} (h : swC c ts vs = some r) : swappedStores [.Tuple ts k p] (.Tuple vs k2 p2) X.env = pure r := by
  unfold swC at h
  unfold swappedStores
  have bf : (X.env.blockKind != ScopeKind.function) = false := by rw [block_fn g]; rfl
  have hn : (ts.filterMap fun (e : Expr) => match e with
      | Expr.Name id pos => if X.env.kindOf id == some NameKind.local && pos.line == (ts.head?.map (fun (e : Expr) => e.pos.line)).getD 0 then some id else none
      | _ => none) = swN c ts := by
    unfold swN
    congr 1
    funext e
    cases e <;> first | rfl | (dsimp only; rw [kind_of g])
  generalize swN c ts = nm at hn h
  show (if (!(ts.length == 2 || ts.length == 3) || vs.length != ts.length || X.env.blockKind != ScopeKind.function) = true then pure none else
    if (vs.any isStar) = true then pure none else
    if ((ts.filterMap fun (e : Expr) => match e with
      | Expr.Name id pos => if X.env.kindOf id == some NameKind.local && pos.line == (ts.head?.map (fun (e : Expr) => e.pos.line)).getD 0 then some id else none
      | _ => none).length != ts.length || (ts.filterMap fun (e : Expr) => match e with
      | Expr.Name id pos => if X.env.kindOf id == some NameKind.local && pos.line == (ts.head?.map (fun (e : Expr) => e.pos.line)).getD 0 then some id else none
      | _ => none).eraseDups.length != (ts.filterMap fun (e : Expr) => match e with
      | Expr.Name id pos => if X.env.kindOf id == some NameKind.local && pos.line == (ts.head?.map (fun (e : Expr) => e.pos.line)).getD 0 then some id else none
      | _ => none).length) = true then pure none else
    if vs.all (foldedForSure 8) = true then pure none else
    if vs.all (constantsAlone 8) = true then unsupported "assign.tuple-of-constant-expressions:order-of-the-stores" else
    pure (some (ts.filterMap fun (e : Expr) => match e with
      | Expr.Name id pos => if X.env.kindOf id == some NameKind.local && pos.line == (ts.head?.map (fun (e : Expr) => e.pos.line)).getD 0 then some id else none
      | _ => none)) : Sem (Option (List Str))) = _
  rw [bf, Bool.or_false, hn]
  split at h
  · rename_i c1
    rw [if_pos c1]
    cases h; rfl
  rename_i c1
  rw [if_neg c1]
  split at h
  · rename_i c2
    rw [if_pos c2]
    cases h; rfl
  rename_i c2
  rw [if_neg c2]
  split at h
  · rename_i c3
    rw [if_pos c3]
    cases h; rfl
  rename_i c3
  rw [if_neg c3]
  split at h
  · rename_i c4
    rw [if_pos c4]
    cases h; rfl
  rename_i c4
  rw [if_neg c4]
  split at h
  · cases h
  rename_i c5
  rw [if_neg c5]
  cases h; rfl
theorem sw_notTup {ts : List Expr} {k : _} {p : Pos} {e : Expr} {env : Env} (h : ∀ es k p, e = .Tuple es k p → False) : swappedStores [.Tuple ts k p] e env = pure none := by
  cases e <;> first | rfl | exact (h _ _ _ rfl).elim
mutual
theorem s_ok {S : Sg} {X : Cx} {c : Sc} {W : WX} (g : Gd S X c W) : ∀ (i : IS) {st : Stmt}, ckS S.T c i st = true → PS X st (tS S X.K W i)
  | .nil, st, h => by unfold ckS at h; cases h
  | .seq _ _, st, h => by unfold ckS at h; cases h
  | .set i e, st, h => by
    unfold ckS at h
    split at h <;> try (first | cases ‹IS.set _ _ = _› | cases h)
    all_goals try cases ‹IS.set _ _ = _›
    simp only [Bool.and_eq_true] at h
    obtain ⟨⟨⟨⟨h1, h2⟩, h3⟩, h4⟩, h5⟩ := h
    have n1 := eq_of_beq h1
    split at h5
    · rename_i ex gs scope p2
      cases hw : swL c _ _ scope p2 with
      | false => exact s_set g n1 h2 (e_ok e g h4).v (by rw [sw_L g, hw])
      | true =>
        rw [hw] at h5
        have hl : c.names.lookup _ = some NameKind.local := eq_of_beq h5
        cases e <;> try (unfold ckE at h4; cases h4; done)
        case dct ks vs => (unfold ckE at h4; split at h4 <;> first | (cases ‹IE.dct _ _ = _›; done) | (cases ‹Expr.ListComp _ _ _ _ = _›; done) | (cases h4; done) | (cases ‹IE.dct _ _ = _›; cases ‹Expr.ListComp _ _ _ _ = _›; done))
        case lc elt tg it cs own =>
          unfold ckE at h4
          split at h4 <;> try (first | cases ‹IE.lc _ _ _ _ _ = _› | cases h4)
          all_goals try cases ‹IE.lc _ _ _ _ _ = _›
          all_goals try cases ‹Expr.ListComp _ _ _ _ = _›
          simp only [Bool.and_eq_true, List.all_eq_true, List.contains_eq_mem, decide_eq_true_eq] at h4
          obtain ⟨⟨⟨⟨⟨⟨⟨⟨k1, k2⟩, k3⟩, k4⟩, k5⟩, k6⟩, k7⟩, k8⟩, k9⟩ := h4
          have ok := blkOk_to (sc := ⟨.function, c.names, false, false, []⟩) g (blkOk_by k6)
          have gb := fun s H C cl fp => g.blk ok.kind s H C cl fp
          exact s_setLc g n1 hl (by rw [sw_L g, hw]) (i_ok it g k1) ok (eq_of_beq k7) k8 k9 (fun s H C cl fp => g_ok (gb s H C cl fp) k2) (fun s H C cl fp => (a_ok cs (gb s H C cl fp) k4).c k5) (fun s H C cl fp => (e_ok elt (gb s H C cl fp) k3).v)
    · exact s_set g n1 h2 (e_ok e g h4).v (sw_noComp h5 _ _ _)
  | .tgt t e, st, h => by
    unfold ckS at h
    split at h <;> try (first | cases ‹IS.tgt _ _ = _› | cases h)
    all_goals try cases ‹IS.tgt _ _ = _›
    simp only [Bool.and_eq_true] at h
    obtain ⟨⟨h1, h2⟩, h3⟩ := h
    split at h3
    · refine s_tgt g h1 (e_ok e g h2).v (sw_sole _ _ (.inr ⟨_, _, _, rfl⟩)) ?_
      split at h3
      · exact sw_C g (eq_of_beq h3)
      · rename_i hv
        exact sw_notTup hv
    · cases h3
  | .ptg is as, st, h => by
    unfold ckS at h
    split at h <;> try (first | cases ‹IS.ptg _ _ = _› | cases h)
    all_goals try cases ‹IS.ptg _ _ = _›
    simp only [Bool.and_eq_true, decide_eq_true_eq] at h
    obtain ⟨⟨⟨h1, h2⟩, h3⟩, h4⟩ := h
    exact s_ptg g (T := S.T) h1 (a_ok as g h2).v h4 (fun vs ρ ρ' e => evalV_len e h2) (sw_C g (eq_of_beq h3))
  | .par i j a b, st, h => by
    unfold ckS at h
    split at h <;> try (first | cases ‹IS.par _ _ _ _ = _› | cases h)
    all_goals try cases ‹IS.par _ _ _ _ = _›
    simp only [Bool.and_eq_true, decide_eq_true_eq] at h
    obtain ⟨⟨⟨⟨⟨⟨⟨⟨⟨h1, h2⟩, h3⟩, h4⟩, h5⟩, h6⟩, h7⟩, h8⟩, h9⟩, h10⟩ := h
    exact s_par g (eq_of_beq h1) (eq_of_beq h2) h3 (eq_of_beq h4) (eq_of_beq h5) (e_ok a g h6).v (e_ok b g h7).v h8 h9 (sw_C g (eq_of_beq h10))
  | .exp a, st, h => by
    unfold ckS at h
    split at h <;> try (first | cases ‹IS.exp _ = _› | cases h)
    all_goals try cases ‹IS.exp _ = _›
    simp only [Bool.and_eq_true] at h
    exact s_exp (e_ok a g h.1).v (sw_noComp h.2 _ _ _)
  | .app i a, st, h => by
    unfold ckS at h
    split at h <;> try (first | cases ‹IS.app _ _ = _› | cases h)
    all_goals try cases ‹IS.app _ _ = _›
    simp only [Bool.and_eq_true] at h
    obtain ⟨⟨⟨⟨h1, h2⟩, h3⟩, h4⟩, h5⟩ := h
    exact s_app g h1 (eq_of_beq h2) h3 (e_ok a g h4).v h5 (by rw [starE h5]; rfl)
  | .sti i b a, st, h => by
    unfold ckS at h
    split at h <;> try (first | cases ‹IS.sti _ _ _ = _› | cases h)
    all_goals try cases ‹IS.sti _ _ _ = _›
    simp only [Bool.and_eq_true] at h
    obtain ⟨⟨⟨h1, h2⟩, h3⟩, h4⟩ := h
    rename_i x p q ps v pos
    refine s_sti g h1 (e_ok a g h2).v (e_ok b g h3).v ?_ fun _ => ?_
    · cases v <;> rfl
    · cases q <;> first | rfl | cases h4
  | .aug i o a, st, h => by
    unfold ckS at h
    split at h <;> try (first | cases ‹IS.aug _ _ _ = _› | cases h)
    all_goals try cases ‹IS.aug _ _ _ = _›
    simp only [Bool.and_eq_true, Bool.or_eq_true] at h
    obtain ⟨⟨⟨⟨h1, h2⟩, h3⟩, h4⟩, h5⟩ := h
    have eo := ast_BO h2
    subst eo
    exact s_aug g (eq_of_beq h3) h4 (e_ok a g h5).v (h1.imp eq_of_beq eq_of_beq)
  | .if_ a s t, st, h => by
    unfold ckS at h
    split at h <;> try (first | cases ‹IS.if_ _ _ _ = _› | cases h)
    all_goals try cases ‹IS.if_ _ _ _ = _›
    simp only [Bool.and_eq_true] at h
    obtain ⟨⟨⟨h1, h2⟩, h3⟩, h4⟩ := h
    exact s_if ((e_ok a g h2).t h1) (ss_ok g s h3) (ss_ok g t h4)
  | .whl n a s, st, h => by
    unfold ckS at h
    split at h <;> try (first | cases ‹IS.whl _ _ _ = _› | cases h)
    all_goals try cases ‹IS.whl _ _ _ = _›
    simp only [Bool.and_eq_true] at h
    exact s_whl g ((e_ok a g h.1.2).t h.1.1) (ss_ok g s h.2)
  | .for_ t it s, st, h => by
    unfold ckS at h
    split at h <;> try (first | cases ‹IS.for_ _ _ _ = _› | cases h)
    all_goals try cases ‹IS.for_ _ _ _ = _›
    simp only [Bool.and_eq_true] at h
    obtain ⟨⟨⟨h1, h2⟩, h3⟩, h4⟩ := h
    exact s_for g (i_ok it g h1) h2 h3 (ss_ok g s h4)
  | .ret a, st, h => by
    unfold ckS at h
    split at h <;> try (first | cases ‹IS.ret _ = _› | cases h)
    all_goals try cases ‹IS.ret _ = _›
    exact s_ret (e_ok a g h).v
  | .retn, st, h => by
    unfold ckS at h
    split at h <;> try (first | cases ‹IS.retn = _› | cases h)
    exact s_retn
  | .brk, st, h => by
    unfold ckS at h
    split at h <;> try (first | cases ‹IS.brk = _› | cases h)
    exact s_brk
  | .cnt, st, h => by
    unfold ckS at h
    split at h <;> try (first | cases ‹IS.cnt = _› | cases h)
    exact s_cnt
  | .pass, st, h => by
    unfold ckS at h
    split at h <;> try (first | cases ‹IS.pass = _› | cases h)
    exact s_pass
  | .rse _ _, st, h => by unfold ckS at h; cases h
  | .never, st, h => s_never
theorem ss_ok {S : Sg} {X : Cx} {c : Sc} {W : WX} (g : Gd S X c W) : ∀ (i : IS) {sts : List Stmt}, ckSs S.T c i sts = true → PSs X sts (tS S X.K W i)
  | .nil, [], h => ss_nil
  | .nil, _ :: _, h => by unfold ckSs at h; cases h
  | .seq _ _, [], h => by unfold ckSs at h; cases h
  | .seq s t, st :: rest, h => by
    unfold ckSs at h
    rw [Bool.and_eq_true] at h
    exact ss_cons (s_ok g s h.1) (ss_ok g t h.2)
  | .set _ _, sts, h => by unfold ckSs at h; cases h
  | .tgt _ _, sts, h => by unfold ckSs at h; cases h
  | .par _ _ _ _, sts, h => by unfold ckSs at h; cases h
  | .ptg _ _, sts, h => by unfold ckSs at h; cases h
  | .exp _, sts, h => by unfold ckSs at h; cases h
  | .app _ _, sts, h => by unfold ckSs at h; cases h
  | .sti _ _ _, sts, h => by unfold ckSs at h; cases h
  | .aug _ _ _, sts, h => by unfold ckSs at h; cases h
  | .if_ _ _ _, sts, h => by unfold ckSs at h; cases h
  | .whl _ _ _, sts, h => by unfold ckSs at h; cases h
  | .for_ _ _ _, sts, h => by unfold ckSs at h; cases h
  | .ret _, sts, h => by unfold ckSs at h; cases h
  | .retn, sts, h => by unfold ckSs at h; cases h
  | .brk, sts, h => by unfold ckSs at h; cases h
  | .cnt, sts, h => by unfold ckSs at h; cases h
  | .pass, sts, h => by unfold ckSs at h; cases h
  | .rse _ _, sts, h => by unfold ckSs at h; cases h
  | .never, sts, h => by unfold ckSs at h; cases h
end
end
end TL
set_option Elab.async false
set_option linter.all false
set_option maxRecDepth 100000
set_option maxHeartbeats 4000000
namespace TL
open PySem PySem.Spec L2

/-- one def of a text: its slots' names, its parameters, its term, where it stands -/
structure DfI where
  N : List Str
  ps : List Str
  fn : Fn
  d : He.DefD
structure DfOk (T : Tb) (D : DfI) : Prop where
  S : FnScope D.N D.ps D.d.scope
  ck : ckSs T ⟨D.N, D.d.scope.names, fun _ => true⟩ D.fn.body D.d.body = true
  np : D.fn.np = D.ps.length
  ns : D.fn.ns = D.N.length
  dfl : D.d.dfl = []
  bind : ∀ (kV doc pm : Value) (an : Option Addr) (cdv ct : Value) (us : List Value), us.length = D.ps.length → bindArgs (PySem.W.fnOf D.d.name D.d.qual D.d.params D.d.body D.d.scope .none kV doc pm an cdv ct) ⟨us, []⟩ = pure (D.ps.zip us)

section
variable {K : PySem.W.Frag} {H H' : Hp} {Z Z' : Zs} {F F' : Fp} {as : List Ob} {vs : List V} {ρ' : Ev} {σ' : L2.St} {l : List Nat}
def cutF (n : Nat) (F : Fp) : Fp := fun i => if i < n then F i else []
theorem mem_cutF {n i : Nat} {a : Addr} (h : a ∈ cutF n F i) : i < n ∧ a ∈ F i := by
  unfold cutF at h
  split at h
  · exact ⟨by assumption, h⟩
  · cases h
theorem Rel.begin {N : List Str} {m : Nat} (R : Rel K (as.map some) (vs.map some) H Z F) (hl : vs.length = as.length) (hn : as.length ≤ N.length) (hm : m = N.length - as.length) :
    Rel K (as.map some ++ List.replicate m none) (L2.start N vs) H Z (cutF as.length F) := by
  refine R.lessF (fun i a h => (mem_cutF h).2) (fun i o e => ?_) ?_
  · have lt : i < as.length := by
      apply Decidable.byContradiction
      intro n
      rw [List.getElem?_append_right (by rw [List.length_map]; omega)] at e
      rw [List.getElem?_replicate] at e
      split at e <;> cases e
    rw [List.getElem?_append_left (by rw [List.length_map]; exact lt)] at e
    obtain ⟨v, h1, h2⟩ := R.rep i o e
    refine ⟨v, ?_, ?_⟩
    · unfold L2.start
      rw [List.getElem?_append_left (by rw [List.length_map, hl]; exact lt)]
      exact h1
    · have z : cutF as.length F i = F i := if_pos lt
      rw [z]
      exact h2
  · unfold L2.start
    rw [List.length_append, List.length_append, List.length_map, List.length_map, List.length_replicate, List.length_replicate, hl, hm]
theorem Rel.close {N : List Str} (R : Rel K ρ' σ' H' Z' F') (a : Ag l (L2.start N vs) σ') : Rel K ((wipeE ρ' l).take vs.length) (vs.map some) H' Z' (cutF vs.length (noF l F')) := by
  refine R.lessF (fun i b h => (mem_noF (mem_cutF h).2).2) (fun i o e => ?_) ?_
  · rw [List.getElem?_take] at e
    split at e
    · rename_i lt
      obtain ⟨e1, e2⟩ := wipeE_at e
      obtain ⟨v, h1, h2⟩ := R.rep i o e1
      refine ⟨v, ?_, ?_⟩
      · rw [a.at_ i e2] at h1
        unfold L2.start at h1
        rw [List.getElem?_append_left (by rw [List.length_map]; exact lt)] at h1
        exact h1
      · have z : cutF vs.length (noF l F') i = F' i := by
          unfold cutF
          rw [if_pos lt, noF_out e2]
        rw [z]
        exact h2
    · cases e
  · rw [List.length_take, wipeE_len, R.len, a.len, List.length_map]
    unfold L2.start
    rw [List.length_append, List.length_map]
    omega
theorem GS.ends {n m : Nat} (g : GS H Z (cutF n F) H' Z' F') : GS H Z F H' Z' (cutF m (noF l F')) :=
  ⟨fun a o e h => g.keep a o e fun i m => h i (mem_cutF m).2, g.am, g.zm, fun a z => (g.zn a z).imp id (Or.imp id fun ⟨i, m⟩ => ⟨i, (mem_cutF m).2⟩), fun i a m => (g.fn i a (mem_noF (mem_cutF m).2).2).imp id fun ⟨j, m⟩ => ⟨j, (mem_cutF m).2⟩⟩
theorem RR.ends {n m : Nat} {x : V} {v : Vl} (h : RR K H (cutF n F) Z' H' F' x v) : RR K H F Z' H' (cutF m (noF l F')) x v := by
  cases v with
  | d p => exact h
  | pk o i => exact h
  | fr o =>
    obtain ⟨L, h1, h2⟩ := h
    exact ⟨L, h1, fun a ha => ⟨(h2 a ha).1, fun i m => (h2 a ha).2.1 i (mem_noF (mem_cutF m).2).2, (h2 a ha).2.2.imp id fun ⟨j, m⟩ => ⟨j, (mem_cutF m).2⟩⟩⟩
end

section
variable {P : Program} {w : World} {K : PySem.W.Frag} {mg : Str → Option Value} {base : Heap} {T : Tb} {G : List Pd} {Ds : List DfI} {rx : Ex → Value → Option Addr → Hp → Prop} {fd : Nat → FuncData}
/-- what is known of the text's names -/
structure TxOk (K : PySem.W.Frag) (mg : Str → Option Value) (T : Tb) (G : List Pd) (Ds : List DfI) (fd : Nat → FuncData) : Prop where
  free : ∀ x, x ∈ T.free → mg x = none
  gl : ∀ (k : Nat) (x : Str), T.gn[k]? = some x → ∃ (u : Value) (v : V) (d : Pd), mg x = some u ∧ RelV v u ∧ G[k]? = some d ∧ ∀ Z H, RF K Z H v d
  fns : T.fns = Ds.map fun D => D.d.name
  at_ : ∀ (j : Nat) (D : DfI), Ds[j]? = some D → mg D.d.name = some (.ref (He.fAd K D.d.at_)) ∧ FunD K D.d.name D.d.qual D.d.params D.d.body D.d.scope (D.d.dvs K) (D.d.kws K) (He.fAd K D.d.at_) (fd j)
  ok : ∀ (j : Nat) (D : DfI), Ds[j]? = some D → DfOk T D
theorem TxOk.binds (h : TxOk K mg T G Ds fd) {j : Nat} {D : DfI} (e : Ds[j]? = some D) : Binds K (fd j) D.ps [] := by
  have F := (h.at_ j D e).2
  have k := h.ok j D e
  have z : D.d.dvs K = [] := by
    unfold He.DefD.dvs
    rw [k.dfl]
    rfl
  rw [z] at F
  exact F.bindsN k.bind
theorem TxOk.all (h : TxOk K mg T G Ds fd) (smb : SmB base) : ∀ (n j : Nat) (D : DfI), Ds[j]? = some D → FnG P w K mg base n (He.fAd K D.d.at_) (fd j) D.ps (spC K rx (run G (Ds.map (·.fn)) n) j) := by
  have eT : ∀ {j : Nat} {D : DfI}, Ds[j]? = some D → (Ds.map (·.fn))[j]? = some D.fn := fun e => by rw [List.getElem?_map, e]; rfl
  have step : ∀ {n j : Nat} {D : DfI} {as : List Ob}, Ds[j]? = some D → run G (Ds.map (·.fn)) (n + 1) j as = if as.length = D.fn.np then runB G (run G (Ds.map (·.fn)) n) D.fn as else .no := fun e => by
    have q := eT e
    unfold run
    rw [q]
  have ln : ∀ {n j : Nat} {D : DfI} {vs : List V} {H : Hp} {Q : VK} {E : XK}, Ds[j]? = some D → spC K rx (run G (Ds.map (·.fn)) n) j vs H Q E → vs.length = D.ps.length := by
    intro n j D vs H Q E e ⟨as, Z, F, hl, R, hc⟩
    cases n with
    | zero => exact hc.elim
    | succ n =>
      rw [step e] at hc
      by_cases hnp : as.length = D.fn.np
      · rw [hl, ← (h.ok j D e).np]
        exact hnp
      · rw [if_neg hnp] at hc
        exact hc.elim
  intro n
  induction n with
  | zero =>
    intro j D e
    exact ⟨fun vs H Q E q => ln (n := 0) e q, fun B ab s0 H0 ar us xs Q0 E0 _ _ _ _ _ ⟨_, _, _, _, _, z⟩ => z.elim⟩
  | succ n ih =>
    intro j D e
    have k := h.ok j D e
    obtain ⟨m1, F⟩ := h.at_ j D e
    obtain ⟨oc, od, dV, kV, doc, pm, an, cdv, ct, osl, efd, lk, hcd, _, _⟩ := F.ex
    rw [efd] at lk ⊢
    refine fnG_of lk hcd k.S (fun vs H Q E q => ln e q) fun B above s0 H0 xs Q0 E0 room gds sp => ?_
    let S : Sg := ⟨T, G, run G (Ds.map (·.fn)) n, n, rx⟩
    let X := cxOf (L2.CX P w) P w K mg base D.N D.d.qual D.d.scope (He.fAd K D.d.at_) cdv B above s0 H0 E0
    let c : Sc := ⟨D.N, D.d.scope.names, fun _ => true⟩
    have gd : Gd S X c (fun cl d _ H => E0 cl d H) := {
      fx := ⟨smb, h.free, h.gl, fun f x ef => by
        have ef : T.fns[f]? = some x := ef
        rw [h.fns, List.getElem?_map] at ef
        obtain ⟨D', e', rfl⟩ := Option.map_eq_some_iff.mp ef
        obtain ⟨n1, F1⟩ := h.at_ f D' e'
        exact ⟨_, fd f, D'.ps, n1, F1.kp, h.binds e', ih f D' e'⟩⟩
      N := rfl
      nd := k.S.nd
      names := rfl
      fn := fun _ => rfl
      kind := k.S.kind
      calm := rfl
      room := room
      gds := gds
      tk := takes_of rfl rfl rfl rfl
      pass := passes_of rfl }
    refine ⟨_, ss_ok gd D.fn.body k.ck, ?_⟩
    obtain ⟨as, Z, F0, hl, R, hc⟩ := sp
    rw [step e] at hc
    by_cases hnp : as.length = D.fn.np
    · rw [if_pos hnp] at hc
      have hvn : xs.length = D.fn.np := hl.trans hnp
      have hle : as.length ≤ D.N.length := by
        have q := congrArg List.length k.S.pre
        rw [List.length_take] at q
        rw [hnp, k.np]
        omega
      refine ⟨_, _, _, R.begin (N := D.N) (m := D.fn.ns - D.fn.np) hl hle (by rw [k.ns, hnp]), ?_⟩
      unfold runB at hc
      have cl : ∀ {ρ'}, outs D.fn ρ' = (wipeE ρ' (asS D.fn.body)).take xs.length := fun {ρ'} => by
        unfold outs
        rw [hvn]
      show OutS S K _ _ _ _ _ _ (execS G (run G (Ds.map (·.fn)) n) D.fn.body (as.map some ++ List.replicate (D.fn.ns - D.fn.np) none)) _
      cases ex : execS G (run G (Ds.map (·.fn)) n) D.fn.body (as.map some ++ List.replicate (D.fn.ns - D.fn.np) none) with
      | no => rw [ex] at hc; exact hc.elim
      | ex e2 ρ' =>
        rw [ex] at hc
        intro σ' H' Z' F' R' g' a' c d hx
        dsimp only at hc
        rw [cl] at hc
        exact hc c d H' Z' _ (R'.close a') g'.ends hx
      | ok fl ρ' =>
        rw [ex] at hc
        cases fl with
        | nx =>
          intro σ' H' Z' F' R' g' a'
          dsimp only at hc
          rw [cl] at hc
          exact hc .non H' Z' _ (R'.close a') g'.ends .non
        | rt v =>
          intro σ' H' Z' F' R' g' a' x rr
          dsimp only at hc
          rw [cl] at hc
          exact hc x H' Z' _ (R'.close a') g'.ends rr.ends
        | bk => exact hc.elim
        | ct => exact hc.elim
    · rw [if_neg hnp] at hc
      exact hc.elim
end
end TL
set_option Elab.async false
set_option linter.all false
set_option maxRecDepth 100000
set_option maxHeartbeats 4000000
namespace TL
open PySem PySem.Spec L2

section
variable (Ds : List DfI) (free : List Str) (gints : List (Str × Int))
def tbOf : Tb := ⟨free, gints.map (·.1), Ds.map fun D => D.d.name⟩
def gOf : List Pd := gints.map fun q => .int q.2
def faOf : List He.Fa := (Ds.map fun D => He.Fa.glo D.d.name) ++ (free.map He.Fa.free ++ gints.map fun q => He.Fa.int q.1 q.2)
def fnOf : List He.DefD := Ds.map fun D => D.d
end
section
variable {Ds : List DfI} {free : List Str} {gints : List (Str × Int)} {K : PySem.W.Frag} {h : Heap} {mg : Str → Option Value}
theorem says_mem {fa : List He.Fa} {fn : List He.DefD} (c : He.SaysD fa fn K) {f : He.Fa} (hf : f ∈ fa) : f.ok K = true := by
  obtain ⟨i, hi⟩ := List.mem_iff_getElem?.mp hf
  exact c.fact i hi
theorem txOk (X : K.In h) (N : h.Ns mainGlobals mg) (c : He.SaysD (faOf Ds free gints) (fnOf Ds) K) (ok : ∀ (j : Nat) (D : DfI), Ds[j]? = some D → DfOk (tbOf Ds free gints) D ∧ D.d.at_ = (D.d.name, none)) :
    ∃ fd, TxOk K mg (tbOf Ds free gints) (gOf gints) Ds fd := by
  have each : ∀ (j : Nat) (D : DfI), Ds[j]? = some D → ∃ fd, FunD K D.d.name D.d.qual D.d.params D.d.body D.d.scope (D.d.dvs K) (D.d.kws K) (He.fAd K D.d.at_) fd := fun j D e =>
    c.def_ j (d := D.d) (by unfold fnOf; rw [List.getElem?_map, e]; rfl)
  have all : ∀ j : Nat, ∃ fd : FuncData, ∀ D : DfI, Ds[j]? = some D → FunD K D.d.name D.d.qual D.d.params D.d.body D.d.scope (D.d.dvs K) (D.d.kws K) (He.fAd K D.d.at_) fd := fun j => by
    cases e : Ds[j]? with
    | some D =>
      obtain ⟨fd, F⟩ := each j D e
      exact ⟨fd, fun D' e' => by cases e'; exact F⟩
    | none => exact ⟨⟨"", "", ⟨[], [], none, [], [], none, []⟩, .stmts [], ⟨.function, [], false, false, []⟩, 0, [], .none, .none, .none, .none, none, .none, .none, 0⟩, fun D e => nomatch e⟩
  have ex : ∃ fd : Nat → FuncData, ∀ (j : Nat) (D : DfI), Ds[j]? = some D → FunD K D.d.name D.d.qual D.d.params D.d.body D.d.scope (D.d.dvs K) (D.d.kws K) (He.fAd K D.d.at_) (fd j) := ⟨fun j => Classical.choose (all j), fun j => Classical.choose_spec (all j)⟩
  obtain ⟨fd, hfd⟩ := ex
  refine ⟨fd, ?_⟩
  refine ⟨fun x hx => ?_, fun k x e => ?_, rfl, fun j D e => ⟨?_, ?_⟩, fun j D e => (ok j D e).1⟩
  · exact He.free_ok X N (says_mem c (List.mem_append_right _ (List.mem_append_left _ (List.mem_map_of_mem hx))))
  · have e : (gints.map (·.1))[k]? = some x := e
    rw [List.getElem?_map] at e
    obtain ⟨q, e1, rfl⟩ := Option.map_eq_some_iff.mp e
    obtain ⟨t, ht⟩ := He.int_ok X N (says_mem c (f := .int q.1 q.2) (List.mem_append_right _ (List.mem_append_right _ (List.mem_map_of_mem (f := fun (q : Str × Int) => He.Fa.int q.1 q.2) (List.mem_of_getElem? e1)))))
    exact ⟨_, .int q.2, .int q.2, ht, ⟨t, rfl⟩, by unfold gOf; rw [List.getElem?_map, e1]; rfl, fun _ _ => .int _⟩
  · have q := He.glo_ok X N (says_mem c (f := .glo D.d.name) (List.mem_append_left _ (List.mem_map_of_mem (f := fun (D : DfI) => He.Fa.glo D.d.name) (List.mem_of_getElem? e))))
    rw [q, (ok j D e).2]
    rfl
  · exact hfd j D e
/-- what the law's call is to show, in plain words -/
theorem lawSp {a : Addr} {ns : List Int} {H : Hp} {C : Calls} {j : Nat} {rx : Ex → Value → Option Addr → Hp → Prop} (ho : Only H) (hq : LL K H a (ns.map V.int)) (hC : ∃ outs, C j [.dat (.list (ns.map .int))] = .ok (.d (.bool true)) outs) :
    spC K rx C j [.ref a] H (fun v _ => v = .bl true) fun _ _ _ => False := by
  obtain ⟨outs, hC⟩ := hC
  have rf : RF K (fun b => b = a ∧ ∃ u, H a = some u) H (.ref a) (.list (ns.map .int)) := by
    rcases hq with q | q
    · refine .lst ⟨rfl, ?_⟩ q (RFs.of_ints ns)
      rcases q with q | ⟨o, q⟩ <;> exact ⟨_, q⟩
    · exact .lstK q (RFs.of_ints ns)
  have R : Rel K ([Ob.dat (.list (ns.map .int))].map some) ([V.ref a].map some) H (fun b => b = a ∧ ∃ u, H a = some u) (fun _ => []) := by
    refine ⟨rfl, fun i o e => ?_, fun i j a h => (nomatch h), fun i a h => (nomatch h), fun i a h => (nomatch h), fun b ⟨e, u⟩ => e ▸ u⟩
    cases i with
    | zero =>
      cases e
      exact ⟨_, rfl, .dat rf⟩
    | succ i => simp at e
  refine ⟨[.dat (.list (ns.map .int))], _, _, rfl, R, ?_⟩
  rw [hC]
  intro x H' Z' F' R g rr
  have rr : RF K Z' H' x (.bool true) := rr
  cases rr
  rfl
end

theorem walkT {l : PySem.W.OpenLaw} {n lv j : Nat} {q : Program} {loose : List Str} {XP : (Str → Option Value) → Heap → Prop} {Ds : List DfI} {free : List Str} {gints : List (Str × Int)} {d : DefRec} {D : DfI} {x : Str} {hn' : Nat}
    (imp : PyProof.Rows.importsNone q = true) (hn : l.most = some n) (hn2 : n ≤ sizeLine) (hdf : d.params.defaults = []) (room : Room lv callerA) (ok : ∀ (j : Nat) (D : DfI), Ds[j]? = some D → DfOk (tbOf Ds free gints) D ∧ D.d.at_ = (D.d.name, none)) (hD : Ds[j]? = some D) (hps : D.ps = [x]) (hnm : d.name = D.d.name)
    (law : ∀ ns : List Int, ns.length ≤ n → ∃ outs, run (gOf gints) (Ds.map (·.fn)) lv j [.dat (.list (ns.map .int))] = .ok (.d (.bool true)) outs) :
    PySem.W.WalkO q loose XP (He.hookD hn' (faOf Ds free gints) (fnOf Ds)).says l.row.toRowW d [] (fun f vs => PySem.call f vs) := by
  refine walkG (k := lv) (x := x) imp hn hn2 hdf room fun w mg fa h Y N hmg => ?_
  obtain ⟨K, KX, c⟩ := Y
  obtain ⟨fd, tx⟩ := txOk KX N c ok
  obtain ⟨m1, F⟩ := tx.at_ j D hD
  have efa : fa = He.fAd K D.d.at_ := by
    rw [hnm, m1] at hmg
    cases hmg
    rfl
  subst efa
  have k := (ok j D hD).1
  have z : D.d.dvs K = [] := by
    unfold He.DefD.dvs
    rw [k.dfl]
    rfl
  rw [z] at F
  refine ⟨K, fd j, spC K (fun _ _ _ _ => False) (run (gOf gints) (Ds.map (·.fn)) lv) j, KX, fun s u => ?_, fun H a ns hl ho hq => lawSp ho hq (law ns hl), fun base kb nb sb => ?_⟩
  · have b := FunD.bindsA (ps := D.ps) F k.bind s [u] (by rw [hps]; rfl)
    rw [hps] at b
    exact b
  · have tx' : TxOk K mg (tbOf Ds free gints) (gOf gints) Ds fd := tx
    have A := TxOk.all (P := l.prog) (w := w) (base := base) (rx := fun _ _ _ _ => False) tx' sb lv j D hD
    rw [hps] at A
    exact A
end TL
set_option Elab.async false
set_option linter.all false
set_option maxRecDepth 100000
set_option maxHeartbeats 2000000
namespace TL
open PySem

section
variable {G : List Pd} {C : Calls} {ρ ρ1 ρ2 ρ3 : Ev} {a b c e : IE} {v w u : Vl} {x y z : Pd}
theorem ev_dat {i : Nat} (h : ρ[i]? = some (some (.dat x))) : evalE G C (.var i) ρ = .ok (.d x) ρ := by
  unfold evalE; rw [h]
theorem ev_ol {i : Nat} {ds : List Pd} (h : ρ[i]? = some (some (.ol ds))) : evalE G C (.var i) ρ = .ok (.pk (.ol ds) i) ρ := by
  unfold evalE; rw [h]
theorem ev_cst : evalE G C (.cst x) ρ = .ok (.d x) ρ := by unfold evalE; rfl
theorem ev_glb {k : Nat} (h : G[k]? = some x) : evalE G C (.glb k) ρ = .ok (.d x) ρ := by unfold evalE; rw [h]
theorem ev_neg {i : Int} (h : evalE G C a ρ = .ok v ρ1) (k : v.view = some (.int i)) : evalE G C (.neg a) ρ = .ok (.d (.int (-i))) ρ1 := by
  unfold evalE; rw [h]; show (match v.view with | some (.int i) => _ | _ => _) = _; rw [k]
theorem ev_not {i : Bool} (h : evalE G C a ρ = .ok v ρ1) (k : v.view = some (.bool i)) : evalE G C (.not_ a) ρ = .ok (.d (.bool (!i))) ρ1 := by
  unfold evalE; rw [h]; show (match v.view with | some (.bool i) => _ | _ => _) = _; rw [k]
theorem ev_bin {o : BO} (h1 : evalE G C a ρ = .ok v ρ1) (h2 : evalE G C b ρ1 = .ok w ρ2) (k1 : seen v (ioE b) = some x) (k2 : w.view = some y) (k : bop o x y = some u) : evalE G C (.bin o a b) ρ = .ok u ρ2 := by
  unfold evalE; rw [h1]; show (evalE G C b ρ1).bind _ = _; rw [h2]
  show (match seen v (ioE b), w.view with | some x, some y => _ | _, _ => _) = _
  rw [k1, k2]; show ofO (bop o x y) ρ2 = _; rw [k]; rfl
theorem ev_cmp {o : CO} {k : Bool} (h1 : evalE G C a ρ = .ok v ρ1) (h2 : evalE G C b ρ1 = .ok w ρ2) (k1 : seen v (ioE b) = some x) (k2 : w.view = some y) (hk : cop2 o x y = some k) : evalE G C (.cmp o a b) ρ = .ok (.d (.bool k)) ρ2 := by
  unfold evalE; rw [h1]; show (evalE G C b ρ1).bind _ = _; rw [h2]
  show (match seen v (ioE b), w.view with | some x, some y => _ | _, _ => _) = _
  rw [k1, k2]; show ofO ((cop2 o x y).map _) ρ2 = _; rw [hk]; rfl
theorem ev_chn {o p : CO} {k m : Bool} (h1 : evalE G C a ρ = .ok v ρ1) (h2 : evalE G C b ρ1 = .ok w ρ1) (h3 : evalE G C c ρ1 = .ok u ρ1) (k1 : seen v (ioE b) = some x) (k2 : w.view = some y) (k3 : seen w (ioE c) = some y) (k4 : u.view = some z) (hk : cop2 o x y = some k) (hm : cop2 p y z = some m) : evalE G C (.chn o p a b c) ρ = .ok (.d (.bool (k && m))) ρ1 := by
  unfold evalE; rw [h1]; show (evalE G C b ρ1).bind _ = _; rw [h2]
  show (match seen v (ioE b), w.view with | some x, some y => _ | _, _ => _) = _
  rw [k1, k2]
  show (match cop2 o x y with | some true => _ | some false => _ | none => _) = _
  rw [hk]
  cases k with
  | false => rfl
  | true =>
    show (evalE G C c ρ1).bind _ = _
    rw [h3]
    show (match seen w (ioE c), u.view with | some y, some z => _ | _, _ => _) = _
    rw [k3, k4]
    show ofO ((cop2 p y z).map _) ρ1 = _
    rw [hm]; rfl
theorem ev_and {k m : Bool} (h1 : evalE G C a ρ = .ok v ρ1) (k1 : v.view = some (.bool k)) (h2 : k = true → evalE G C b ρ1 = .ok (.d (.bool m)) ρ1) : evalE G C (.and_ a b) ρ = .ok (.d (.bool (k && m))) ρ1 := by
  unfold evalE; rw [h1]
  show (match v.view with | some (.bool true) => _ | some (.bool false) => _ | _ => _) = _
  rw [k1]
  cases k with
  | false => rfl
  | true => exact h2 rfl
theorem ev_or {k m : Bool} (h1 : evalE G C a ρ = .ok v ρ1) (k1 : v.view = some (.bool k)) (h2 : k = false → evalE G C b ρ1 = .ok (.d (.bool m)) ρ1) : evalE G C (.or_ a b) ρ = .ok (.d (.bool (k || m))) ρ1 := by
  unfold evalE; rw [h1]
  show (match v.view with | some (.bool true) => _ | some (.bool false) => _ | _ => _) = _
  rw [k1]
  cases k with
  | true => rfl
  | false => exact h2 rfl
theorem ev_if1 (h1 : evalE G C c ρ = .ok v ρ1) (k1 : v.view = some (.bool true)) : evalE G C (.ife c a b) ρ = evalE G C a ρ1 := by
  rw [evalE]; rw [h1]
  show (match v.view with | some (.bool true) => _ | some (.bool false) => _ | _ => _) = _
  rw [k1]
theorem ev_if0 (h1 : evalE G C c ρ = .ok v ρ1) (k1 : v.view = some (.bool false)) : evalE G C (.ife c a b) ρ = evalE G C b ρ1 := by
  rw [evalE]; rw [h1]
  show (match v.view with | some (.bool true) => _ | some (.bool false) => _ | _ => _) = _
  rw [k1]
theorem ev_idx (h1 : evalE G C a ρ = .ok v ρ1) (h2 : evalE G C b ρ1 = .ok w ρ2) (k1 : seen v (ioE b) = some x) (k2 : w.view = some y) (k : idxD x y = some z) : evalE G C (.idx a b) ρ = .ok (.d z) ρ2 := by
  unfold evalE; rw [h1]; show (evalE G C b ρ1).bind _ = _; rw [h2]
  show (match seen v (ioE b), w.view with | some x, some y => _ | _, _ => _) = _
  rw [k1, k2]; show ofO ((idxD x y).map _) ρ2 = _; rw [k]; rfl
theorem ev_lst {as : IA} {xs : List Pd} (h : evalD G C as ρ = .ok xs ρ1) : evalE G C (.lst as) ρ = .ok (.fr (.ol xs)) ρ1 := by
  unfold evalE; rw [h]; rfl
theorem ev_tup {as : IA} {xs : List Pd} (h : evalD G C as ρ = .ok xs ρ1) : evalE G C (.tup as) ρ = .ok (.d (.tuple xs)) ρ1 := by
  unfold evalE; rw [h]; rfl
theorem ed_nil : evalD G C .nil ρ = .ok [] ρ := by unfold evalD; rfl
theorem ed_cons {as : IA} {xs : List Pd} (h1 : evalE G C a ρ = .ok v ρ1) (h2 : take v ρ1 = .ok x ρ2) (h3 : evalD G C as ρ2 = .ok xs ρ3) : evalD G C (.cons a as) ρ = .ok (x :: xs) ρ3 := by
  unfold evalD; rw [h1]; show (take v ρ1).bind _ = _; rw [h2]; show (evalD G C as ρ2).bind _ = _; rw [h3]; rfl
theorem ep_nil : evalP G C .nil ρ = .ok [] ρ := by unfold evalP; rfl
theorem ep_cons {as : IA} {xs : List Pd} (h1 : evalE G C a ρ = .ok v ρ1) (h3 : evalP G C as ρ1 = .ok xs ρ2) (h2 : seen v (ioA as) = some x) : evalP G C (.cons a as) ρ = .ok (x :: xs) ρ2 := by
  unfold evalP; rw [h1]; show (evalP G C as ρ1).bind _ = _; rw [h3]
  show (match seen v (ioA as) with | some x => _ | none => _) = _
  rw [h2]
theorem ev_bi {f : BI} {as : IA} {xs : List Pd} (h : evalP G C as ρ = .ok xs ρ1) (k : bi f xs = some u) : evalE G C (.bi f as) ρ = .ok u ρ1 := by
  unfold evalE; rw [h]; show ofO (bi f xs) ρ1 = _; rw [k]; rfl
theorem ev_isi {k : CN} (h : evalE G C a ρ = .ok v ρ1) (h2 : v.view = some x) : evalE G C (.isi k a) ρ = .ok (.d (.bool (isiD k x))) ρ1 := by
  unfold evalE; rw [h]; show (match v.view with | some x => _ | none => _) = _; rw [h2]
theorem ev_cal {f : Nat} {as : IA} {p : List Ob × List Nat} {outs : List (Option Ob)} (h : evalA G C (ioT as).isEmpty as ρ = .ok p ρ1) (hC : C f p.1 = .ok v outs) (hc : (p.2.isEmpty || v.clean) = true) (hs : setIO as outs ρ1 = some ρ2) : evalE G C (.cal f as) ρ = .ok v ρ2 := by
  unfold evalE; rw [h]
  show (match C f p.1 with | .ok v outs => _ | .ex e outs => _ | .no => _) = _
  rw [hC]
  show (if (p.2.isEmpty || v.clean) = true then _ else _) = _
  rw [if_pos hc, hs]
theorem ea_nil {m : Bool} : evalA G C m .nil ρ = .ok ([], []) ρ := by unfold evalA; rfl
/-- an argument kept for good -/
theorem ea_d {m : Bool} {as : IA} {p : List Ob × List Nat} (h1 : evalE G C a ρ = .ok (.d x) ρ1) (h2 : evalA G C m as ρ1 = .ok p ρ2) : evalA G C m (.cons a as) ρ = .ok (.dat x :: p.1, p.2) ρ2 := by
  unfold evalA; rw [h1]; show (evalA G C m as ρ1).bind _ = _; rw [h2]; rfl
theorem ea_fr {m : Bool} {as : IA} {p : List Ob × List Nat} {o : Ob} (h1 : evalE G C a ρ = .ok (.fr o) ρ1) (ho : o.view = some x) (h2 : evalA G C m as ρ1 = .ok p ρ2) : evalA G C m (.cons a as) ρ = .ok (.dat x :: p.1, p.2) ρ2 := by
  unfold evalA; rw [h1]; show (take (.fr o) ρ1).bind _ = _
  have e : take (.fr o) ρ1 = .ok x ρ1 := by
    show ofO o.view ρ1 = _
    rw [ho]; rfl
  rw [e]; show (evalA G C m as ρ1).bind _ = _; rw [h2]; rfl
/-- a look -/
theorem ea_pk {as : IA} {p : List Ob × List Nat} {ds : List Pd} {i : Nat} (h1 : evalE G C a ρ = .ok (.pk (.ol ds) i) ρ1) (hi : (ioA as).contains i = false) (h2 : evalA G C true as ρ1 = .ok p ρ2) : evalA G C true (.cons a as) ρ = .ok (.dat (.list ds) :: p.1, i :: p.2) ρ2 := by
  unfold evalA; rw [h1]
  show (if (true && !(ioA as).contains i) = true then _ else _) = _
  rw [hi]
  show (evalA G C true as ρ1).bind _ = _; rw [h2]; rfl
theorem ea_io {m : Bool} {as : IA} {p : List Ob × List Nat} {i : Nat} {o o' : Ob} (h0 : ρ[i]? = some (some o')) (h1 : evalA G C m as ρ = .ok p ρ1) (h2 : ρ1[i]? = some (some o)) (h3 : (ioT as).contains i = false) : evalA G C m (.io i as) ρ = .ok (o :: p.1, p.2) ρ1 := by
  unfold evalA; rw [h0]
  show (evalA G C m as ρ).bind _ = _
  rw [h1]
  show (match ρ1[i]? with | some (some o) => _ | _ => _) = _
  rw [h2]
  show (if (ioT as).contains i = true then _ else _) = _
  rw [h3]; rfl

variable {s t : IS}
theorem ex_nil : execS G C .nil ρ = .ok .nx ρ := by unfold execS; rfl
theorem ex_seq (h : execS G C s ρ = .ok .nx ρ1) : execS G C (.seq s t) ρ = execS G C t ρ1 := by
  rw [execS]; rw [h]
theorem ex_stop {fl : Fl} (h : execS G C s ρ = .ok fl ρ1) (hf : fl ≠ .nx) : execS G C (.seq s t) ρ = .ok fl ρ1 := by
  rw [execS]; rw [h]
  cases fl <;> first | rfl | exact (hf rfl).elim
theorem ex_set_d {i : Nat} (h : evalE G C a ρ = .ok (.d x) ρ1) : execS G C (.set i a) ρ = .ok .nx (ρ1.set i (some (.dat x))) := by
  unfold execS; rw [h]; rfl
theorem ex_set_fr {i : Nat} {o : Ob} (h : evalE G C a ρ = .ok (.fr o) ρ1) : execS G C (.set i a) ρ = .ok .nx (ρ1.set i (some o)) := by
  unfold execS; rw [h]; rfl
theorem ex_tgt {t : IT} (h : evalE G C a ρ = .ok v ρ1) (h2 : take v ρ1 = .ok x ρ2) (h3 : assignT t x ρ2 = some ρ3) : execS G C (.tgt t a) ρ = .ok .nx ρ3 := by
  unfold execS; rw [h]; show (take v ρ1).bind _ = _; rw [h2]; show (match assignT t x ρ2 with | some ρ => _ | none => _) = _; rw [h3]
theorem ex_exp (h : evalE G C a ρ = .ok v ρ1) : execS G C (.exp a) ρ = .ok .nx ρ1 := by
  unfold execS; rw [h]; rfl
theorem ex_app {i : Nat} {d0 ds : List Pd} (h0 : ρ[i]? = some (some (.ol d0))) (h : evalE G C a ρ = .ok v ρ1) (h2 : take v ρ1 = .ok x ρ2) (h3 : ρ2[i]? = some (some (.ol ds))) (h4 : ds.length < szL) : execS G C (.app i a) ρ = .ok .nx (ρ2.set i (some (.ol (ds ++ [x])))) := by
  unfold execS; rw [h0]; show (evalE G C a ρ).bind _ = _; rw [h]; show (take v ρ1).bind _ = _; rw [h2]
  show (match ρ2[i]? with | some (some (.ol ds)) => _ | _ => _) = _
  rw [h3]
  show (if ds.length < szL then _ else _) = _
  rw [if_pos h4]
theorem ex_if {k : Bool} (h : evalE G C c ρ = .ok v ρ1) (h2 : v.view = some (.bool k)) : execS G C (.if_ c s t) ρ = if k then execS G C s ρ1 else execS G C t ρ1 := by
  rw [execS]; rw [h]; show (boolOf v ρ1).bind _ = _
  have e : boolOf v ρ1 = .ok k ρ1 := by unfold boolOf; rw [h2]
  rw [e]; rfl
theorem ex_ret_d (h : evalE G C a ρ = .ok (.d x) ρ1) : execS G C (.ret a) ρ = .ok (.rt (.d x)) ρ1 := by
  unfold execS; rw [h]; rfl
theorem ex_ret_fr {o : Ob} (h : evalE G C a ρ = .ok (.fr o) ρ1) : execS G C (.ret a) ρ = .ok (.rt (.fr o)) ρ1 := by
  unfold execS; rw [h]; rfl
theorem ex_ret_pk {o : Ob} {i : Nat} (h : evalE G C a ρ = .ok (.pk o i) ρ1) : execS G C (.ret a) ρ = .ok (.rt (.fr o)) (ρ1.set i none) := by
  unfold execS; rw [h]; rfl

theorem forGo_inv {f : Pd → Ev → Re Fl} {xs : List Pd} (I : Nat → Ev → Prop) (h0 : I 0 ρ) (hs : ∀ i x ρ, xs[i]? = some x → I i ρ → ∃ ρ', (f x ρ = .ok .nx ρ' ∨ f x ρ = .ok .ct ρ') ∧ I (i + 1) ρ') : ∃ ρ', forGo f xs ρ = .ok .nx ρ' ∧ I xs.length ρ' := by
  induction xs generalizing ρ I with
  | nil => exact ⟨ρ, rfl, h0⟩
  | cons x xs ih =>
    obtain ⟨ρ1, e, i1⟩ := hs 0 x ρ rfl h0
    obtain ⟨ρ2, e2, i2⟩ := ih (fun i ρ => I (i + 1) ρ) i1 fun i y ρ hy hi => hs (i + 1) y ρ (by simpa using hy) hi
    refine ⟨ρ2, ?_, i2⟩
    unfold forGo
    rcases e with e | e <;> (rw [e]; exact e2)
theorem lcGo_inv {f : Pd → Ev → Re (Option Pd)} {xs acc : List Pd} (I : Nat → List Pd → Ev → Prop) (h0 : I 0 acc ρ) (hs : ∀ i x acc ρ, xs[i]? = some x → I i acc ρ → (∃ y ρ', f x ρ = .ok (some y) ρ' ∧ acc.length < szL ∧ I (i + 1) (acc ++ [y]) ρ') ∨ (∃ ρ', f x ρ = .ok none ρ' ∧ I (i + 1) acc ρ')) :
    ∃ acc' ρ', lcGo f xs ρ acc = .ok acc' ρ' ∧ I xs.length acc' ρ' := by
  induction xs generalizing ρ acc I with
  | nil => exact ⟨acc, ρ, rfl, h0⟩
  | cons x xs ih =>
    rcases hs 0 x acc ρ rfl h0 with ⟨y, ρ1, e, hl, i1⟩ | ⟨ρ1, e, i1⟩
    · obtain ⟨acc2, ρ2, e2, i2⟩ := ih (fun i a ρ => I (i + 1) a ρ) i1 fun i y a ρ hy hi => hs (i + 1) y a ρ (by simpa using hy) hi
      refine ⟨acc2, ρ2, ?_, i2⟩
      unfold lcGo
      rw [e]
      show (if acc.length < szL then _ else _) = _
      rw [if_pos hl]
      exact e2
    · obtain ⟨acc2, ρ2, e2, i2⟩ := ih (fun i a ρ => I (i + 1) a ρ) i1 fun i y a ρ hy hi => hs (i + 1) y a ρ (by simpa using hy) hi
      refine ⟨acc2, ρ2, ?_, i2⟩
      unfold lcGo
      rw [e]
      exact e2
theorem wipeE_wipeE {l : List Nat} {ρ : Ev} : wipeE (wipeE ρ l) l = wipeE ρ l := by
  refine List.ext_getElem? fun i => ?_
  have key : ∀ (l : List Nat) (ρ : Ev) (i : Nat), (wipeE ρ l)[i]? = if i ∈ l ∧ i < ρ.length then some none else ρ[i]? := by
    intro l
    induction l with
    | nil => intro ρ i; simp [wipeE]
    | cons k l ih =>
      intro ρ i
      have hl : ∀ l : List Nat, (wipeE ρ l).length = ρ.length := fun l => by
        induction l with
        | nil => rfl
        | cons k l ih => unfold wipeE; rw [List.length_set, ih]
      unfold wipeE
      rw [List.getElem?_set, hl, ih]
      by_cases e : k = i
      · subst e
        by_cases hk : k < ρ.length
        · simp [hk]
        · simp [hk]
      · simp [e, Ne.symm e]
  have hl : (wipeE ρ l).length = ρ.length := by
    clear key
    induction l with
    | nil => rfl
    | cons k l ih => unfold wipeE; rw [List.length_set, ih]
  rw [key, key, hl]
  split <;> rfl
/-- a comprehension whose parts change nothing -/
theorem ev_lc {elt : IE} {tg : IT} {it : II} {cs : IA} {own : List Nat} {xs : List Pd} {hid : List (Nat × Ob)} (P : Pd → Bool) (g : Pd → Pd) (hI : evalI G C it ρ = .ok (xs, hid) ρ1) (hh : (hid.any fun q => own.contains q.1) = false) (hl : xs.length ≤ szL)
    (h : ∀ x ∈ xs, ∃ ρ2, assignT tg x (wipeE ρ1 own) = some ρ2 ∧ wipeE ρ2 own = wipeE ρ1 own ∧ evalC G C cs ρ2 = .ok (P x) ρ2 ∧ (P x = true → ∃ v, evalE G C elt ρ2 = .ok v ρ2 ∧ take v ρ2 = .ok (g x) ρ2)) :
    ∃ ρ2, wipeE ρ2 own = wipeE ρ1 own ∧ evalE G C (.lc elt tg it cs own) ρ = .ok (.fr (.ol ((xs.filter P).map g))) (unhide hid (unwipe ρ1 ρ2 own)) := by
  unfold evalE
  rw [hI]
  show ∃ ρ2, _ ∧ (if (hid.any fun q => own.contains q.1) = true then _ else _) = _
  rw [hh]
  show ∃ ρ2, _ ∧ (lcGo _ xs (wipeE ρ1 own) []).bind _ = _
  generalize hf : (fun (x : Pd) (ρ : Ev) => (match assignT tg x (wipeE ρ own) with
      | some ρ => (evalC G C cs ρ).bind fun b ρ => if b then (evalE G C elt ρ).bind fun v ρ => (take v ρ).bind fun y ρ => .ok (some y) ρ else .ok none ρ
      | none => .no : Re (Option Pd))) = f
  obtain ⟨acc, ρ3, e, hi⟩ := lcGo_inv (f := f) (xs := xs) (acc := []) (ρ := wipeE ρ1 own) (fun i acc ρ => acc = ((xs.take i).filter P).map g ∧ wipeE ρ own = wipeE ρ1 own) ⟨by simp, wipeE_wipeE⟩ (fun i x acc ρ hx ⟨ha, hw⟩ => by
    obtain ⟨ρ2, h1, h2, h3, h4⟩ := h x (List.mem_of_getElem? hx)
    have tk : xs.take (i + 1) = xs.take i ++ [x] := by rw [List.take_succ, hx]; rfl
    have e0 : f x ρ = (evalC G C cs ρ2).bind fun b ρ => if b then (evalE G C elt ρ).bind fun v ρ => (take v ρ).bind fun y ρ => .ok (some y) ρ else .ok none ρ := by
      rw [← hf]; dsimp only; rw [hw, h1]
    cases hp : P x with
    | true =>
      obtain ⟨v, h5, h6⟩ := h4 hp
      refine .inl ⟨g x, ρ2, ?_, ?_, ?_, h2⟩
      · rw [e0, h3, hp]
        show (evalE G C elt ρ2).bind _ = _
        rw [h5]
        show (take v ρ2).bind _ = _
        rw [h6]
        rfl
      · rw [ha, List.length_map]
        have q1 := List.length_filter_le P (xs.take i)
        have q2 := (List.getElem?_eq_some_iff.mp hx).1
        rw [List.length_take] at q1
        omega
      · rw [ha, tk, List.filter_append, List.map_append]
        simp [hp]
    | false =>
      refine .inr ⟨ρ2, ?_, ?_, h2⟩
      · rw [e0, h3, hp]; rfl
      · rw [ha, tk, List.filter_append, List.map_append]
        simp [hp])
  refine ⟨ρ3, hi.2, ?_⟩
  rw [e]
  show Re.ok _ _ = _
  rw [hi.1, List.take_length]
theorem unwipe_key {ρ0 : Ev} : ∀ (l : List Nat) (ρ ρ' : Ev), ρ.length = ρ'.length → (∀ i, i ∉ l → ρ[i]? = ρ'[i]?) → unwipe ρ0 ρ l = unwipe ρ0 ρ' l
  | [], ρ, ρ', hl, h => List.ext_getElem? fun i => h i (fun m => nomatch m)
  | k :: l, ρ, ρ', hl, h => by
    have len : ∀ (l : List Nat) (ρ : Ev), (unwipe ρ0 ρ l).length = ρ.length := fun l ρ => by
      induction l with
      | nil => rfl
      | cons k l ih => unfold unwipe; rw [List.length_set, ih]
    have at_ : ∀ (l : List Nat) (ρ : Ev) (i : Nat), i ∉ l → (unwipe ρ0 ρ l)[i]? = ρ[i]? := fun l ρ i hi => by
      induction l with
      | nil => rfl
      | cons k l ih =>
        unfold unwipe
        rw [List.getElem?_set_ne fun e => hi (by rw [e]; exact List.mem_cons_self)]
        exact ih fun m => hi (List.mem_cons_of_mem _ m)
    have in_ : ∀ (l : List Nat) (ρ ρ' : Ev) (i : Nat), ρ.length = ρ'.length → i ∈ l → (unwipe ρ0 ρ l)[i]? = (unwipe ρ0 ρ' l)[i]? := fun l ρ ρ' i hl hi => by
      induction l with
      | nil => cases hi
      | cons k l ih =>
        unfold unwipe
        rw [List.getElem?_set, List.getElem?_set, len, len, hl]
        by_cases e : k = i
        · rw [if_pos e, if_pos e]
        · rw [if_neg e, if_neg e]
          exact ih ((List.mem_cons.mp hi).resolve_left fun z => e z.symm)
    refine List.ext_getElem? fun i => ?_
    by_cases m : i ∈ k :: l
    · exact in_ _ _ _ _ hl m
    · rw [at_ _ _ _ m, at_ _ _ _ m]
      exact h i m
theorem wipeE_same {l : List Nat} {ρ ρ' : Ev} (h : wipeE ρ l = wipeE ρ' l) : ρ.length = ρ'.length ∧ ∀ i, i ∉ l → ρ[i]? = ρ'[i]? := by
  have len : ∀ (l : List Nat) (ρ : Ev), (wipeE ρ l).length = ρ.length := fun l ρ => by
    induction l with
    | nil => rfl
    | cons k l ih => unfold wipeE; rw [List.length_set, ih]
  have at_ : ∀ (l : List Nat) (ρ : Ev) (i : Nat), i ∉ l → (wipeE ρ l)[i]? = ρ[i]? := fun l ρ i hi => by
    induction l with
    | nil => rfl
    | cons k l ih =>
      unfold wipeE
      rw [List.getElem?_set_ne fun e => hi (by rw [e]; exact List.mem_cons_self)]
      exact ih fun m => hi (List.mem_cons_of_mem _ m)
  refine ⟨by rw [← len l ρ, h, len], fun i hi => ?_⟩
  rw [← at_ l ρ i hi, h, at_ l ρ' i hi]
/-- .. told with the slots behind it -/
theorem ev_lc2 {elt : IE} {tg : IT} {it : II} {cs : IA} {own : List Nat} {xs : List Pd} {hid : List (Nat × Ob)} (P : Pd → Bool) (g : Pd → Pd) (hI : evalI G C it ρ = .ok (xs, hid) ρ1) (hh : (hid.any fun q => own.contains q.1) = false) (hl : xs.length ≤ szL)
    (h : ∀ x ∈ xs, ∃ ρ2, assignT tg x (wipeE ρ1 own) = some ρ2 ∧ wipeE ρ2 own = wipeE ρ1 own ∧ evalC G C cs ρ2 = .ok (P x) ρ2 ∧ (P x = true → ∃ v, evalE G C elt ρ2 = .ok v ρ2 ∧ take v ρ2 = .ok (g x) ρ2)) :
    evalE G C (.lc elt tg it cs own) ρ = .ok (.fr (.ol ((xs.filter P).map g))) (unhide hid (unwipe ρ1 ρ1 own)) := by
  obtain ⟨ρ2, h1, h2⟩ := ev_lc P g hI hh hl h
  rw [h2]
  obtain ⟨k1, k2⟩ := wipeE_same h1
  rw [unwipe_key own ρ2 ρ1 k1 k2]
/-- one test -/
theorem ec_one {k : Bool} (h : evalE G C a ρ = .ok v ρ) (hv : v.view = some (.bool k)) : evalC G C (.cons a .nil) ρ = .ok k ρ := by
  unfold evalC
  rw [h]
  show (match v.view with | some (.bool true) => _ | some (.bool false) => _ | _ => _) = _
  rw [hv]
  cases k with
  | true =>
    show evalC G C .nil ρ = _
    unfold evalC
    rfl
  | false => rfl
theorem ec_nil : evalC G C .nil ρ = .ok true ρ := by unfold evalC; rfl
theorem idx_last {xs : List Pd} {d : Pd} : idxD (.list (xs ++ [d])) (.int (-1)) = some d := by
  show (L2.ixN (xs ++ [d]).length (-1)).bind (fun j => (xs ++ [d])[j]?) = _
  have e : L2.ixN (xs ++ [d]).length (-1) = some xs.length := by
    unfold L2.ixN
    rw [List.length_append, if_neg (by decide), if_pos (by simp only [List.length_singleton]; omega)]
    congr 1
    simp only [List.length_singleton]
    omega
  rw [e]
  show (xs ++ [d])[xs.length]? = _
  simp
end
/-- a list against [] -/
theorem ne_nil {xs : List Pd} : cop2 .ne (.list xs) (.list []) = some (!xs.isEmpty) := by
  cases xs <;> rfl
theorem eq_nil {xs : List Pd} : cop2 .eq (.list xs) (.list []) = some xs.isEmpty := by
  cases xs <;> rfl
end TL
set_option Elab.async false
set_option linter.all false
set_option maxRecDepth 100000
set_option maxHeartbeats 2000000
namespace TL
open PySem
mutual
/-- numbers, None and truth values in lists and tuples, at most n deep -/
def numE : Nat → Pd → Bool
  | _, .int i => decide (i.natAbs.log2 < 200)
  | _, .none => true
  | _, .bool _ => true
  | n + 1, .list xs => numEs n xs
  | n + 1, .tuple xs => numEs n xs
  | n, .str x => decide ((PyData.shown (.str x)).length ≤ 100)
  | n + 1, .dict [] => true
  | _, _ => false
def numEs : Nat → List Pd → Bool
  | _, [] => true
  | n, x :: xs => numE n x && numEs n xs
end
mutual
def szD : Pd → Nat
  | .list xs => 1 + szDs xs
  | .tuple xs => 1 + szDs xs
  | _ => 1
def szDs : List Pd → Nat
  | [] => 0
  | x :: xs => szD x + szDs xs
end
theorem textFrom_most : ∀ (ts : List Str) (k : Nat) (acc : Str), (textFrom k acc ts).length ≤ acc.length + piled ts
  | [], k, acc => by show acc.length ≤ _; omega
  | t :: r, k, acc => by
    have ih := textFrom_most r (k + 1) (acc ++ (if k > 0 then ", " else "" : String) ++ t)
    have e : (acc ++ (if k > 0 then ", " else "" : String) ++ t).length = acc.length + (if k > 0 then 2 else 0) + t.length := by
      rw [strLen_append, strLen_append]
      split <;> rfl
    have d : (if k > 0 then 2 else 0 : Nat) ≤ 2 := by split <;> omega
    rw [piled_cons]
    show (textFrom (k + 1) _ r).length ≤ _
    omega
theorem listText_most (ts : List Str) : (listText ts).length ≤ 2 + piled ts := by
  have h := textFrom_most ts 0 "["
  unfold listText
  rw [strLen_append]
  have e1 : (("[" : String) : Str).length = 1 := rfl
  have e2 : (("]" : String) : Str).length = 1 := rfl
  omega
theorem tupleText_most (ts : List Str) : (tupleText ts).length ≤ 3 + piled ts := by
  unfold tupleText
  rw [strLen_append, strLen_append]
  have e1 : ((("(" : String) : Str)).length = 1 := rfl
  have e3 : (((if ts.length == 1 then ",)" else ")" : String) : Str)).length ≤ 2 := by split <;> decide
  by_cases h : ts = []
  · subst h
    have e4 : (Str.join ", " []).length = 0 := rfl
    omega
  · have := join_length_add ts h
    omega
theorem int_most {i : Int} (h : i.natAbs.log2 < 200) : (PyData.shown (.int i)).length ≤ 201 := by
  show (Str.ofString (toString i)).length ≤ 201
  rw [ofString_length]
  exact int_text_length_le (k := 200) (by decide) h
mutual
theorem shown_most : ∀ (n : Nat) (d : Pd), numE n d = true → d.shown.length + 2 ≤ 240 * szD d
  | n, .int i, h => by
    have h' : i.natAbs.log2 < 200 := of_decide_eq_true (by cases n <;> exact h)
    have := int_most h'
    show _ + 2 ≤ 240 * 1
    omega
  | _, .none, _ => by decide
  | _, .bool true, _ => by decide
  | _, .bool false, _ => by decide
  | 0, .list _, h => by cases h
  | 0, .tuple _, h => by cases h
  | n + 1, .list xs, h => by
    have ih := shown_mosts n xs h
    have q := listText_most (PyData.shownAll xs)
    show (listText (PyData.shownAll xs)).length + 2 ≤ 240 * (1 + szDs xs)
    omega
  | n + 1, .tuple xs, h => by
    have ih := shown_mosts n xs h
    have q := tupleText_most (PyData.shownAll xs)
    show (tupleText (PyData.shownAll xs)).length + 2 ≤ 240 * (1 + szDs xs)
    omega
  | n, .str x, h => by
    have h' : (PyData.shown (.str x)).length ≤ 100 := of_decide_eq_true (by cases n <;> exact h)
    show _ + 2 ≤ 240 * 1
    omega
  | _ + 1, .dict [], h => by decide
  | 0, .dict [], h => by cases h
  | 0, .dict (_ :: _), h => by cases h
  | _ + 1, .dict (_ :: _), h => by cases h
theorem shown_mosts : ∀ (n : Nat) (xs : List Pd), numEs n xs = true → piled (PyData.shownAll xs) ≤ 240 * szDs xs
  | _, [], _ => Nat.le_refl _
  | n, x :: xs, h => by
    have h' : (numE n x && numEs n xs) = true := by cases n <;> exact h
    rw [Bool.and_eq_true] at h'
    have h1 := shown_most n x h'.1
    have h2 := shown_mosts n xs h'.2
    show piled (x.shown :: PyData.shownAll xs) ≤ 240 * (szD x + szDs xs)
    rw [piled_cons]
    omega
end
mutual
theorem num_facts : ∀ (n : Nat) (d : Pd), numE n d = true → d.showable = true ∧ d.depth ≤ n
  | n, .int i, h => by
    have h' : i.natAbs.log2 < 200 := of_decide_eq_true (by cases n <;> exact h)
    refine ⟨?_, Nat.zero_le _⟩
    show decide (i.natAbs.log2 < 1920) = true
    rw [decide_eq_true_eq]
    omega
  | n, .none, _ => ⟨rfl, Nat.zero_le _⟩
  | n, .bool _, _ => ⟨rfl, Nat.zero_le _⟩
  | n, .str _, _ => ⟨rfl, Nat.zero_le _⟩
  | 0, .list _, h => by cases h
  | 0, .tuple _, h => by cases h
  | n + 1, .list xs, h => by
    obtain ⟨h1, h3⟩ := num_factss n xs h
    exact ⟨h1, Nat.succ_le_succ h3⟩
  | n + 1, .tuple xs, h => by
    obtain ⟨h1, h3⟩ := num_factss n xs h
    exact ⟨h1, Nat.succ_le_succ h3⟩
  | n + 1, .dict [], h => ⟨rfl, Nat.succ_le_succ (Nat.zero_le _)⟩
  | 0, .dict [], h => by cases h
  | 0, .dict (_ :: _), h => by cases h
  | _ + 1, .dict (_ :: _), h => by cases h
theorem num_factss : ∀ (n : Nat) (xs : List Pd), numEs n xs = true → PyData.showableAll xs = true ∧ PyData.depthAll xs ≤ n
  | n, [], _ => ⟨rfl, Nat.zero_le _⟩
  | n, x :: xs, h => by
    have h' : (numE n x && numEs n xs) = true := by cases n <;> exact h
    rw [Bool.and_eq_true] at h'
    obtain ⟨a1, a3⟩ := num_facts n x h'.1
    obtain ⟨b1, b3⟩ := num_factss n xs h'.2
    refine ⟨?_, ?_⟩
    · show (x.showable && PyData.showableAll xs) = true
      rw [a1, b1]; rfl
    · show max x.depth (PyData.depthAll xs) ≤ n
      omega
end
theorem repr_num {d : Pd} (h : numE 60 d = true) (hs : szD d ≤ 60000) : bi .repr1 [d] = some (.d (.str d.shown)) := by
  obtain ⟨h1, h3⟩ := num_facts 60 d h
  have h5 := shown_most 60 d h
  show (if (d.showable && decide (d.depth ≤ 60) && decide (d.shown.length ≤ szL)) = true then _ else _) = _
  rw [h1, decide_eq_true h3, decide_eq_true (show d.shown.length ≤ szL from by show _ ≤ 16777216; omega)]
  rfl
theorem numEs_map {α : Type} (k : α → Pd) (n : Nat) : ∀ xs : List α, (∀ x ∈ xs, numE n (k x) = true) → numEs n (xs.map k) = true
  | [], _ => by cases n <;> rfl
  | x :: xs, h => by
    have e : numEs n ((x :: xs).map k) = (numE n (k x) && numEs n (xs.map k)) := by cases n <;> rfl
    rw [e, h x List.mem_cons_self, numEs_map k n xs fun y hy => h y (List.mem_cons_of_mem _ hy)]
    rfl
theorem szDs_map {α : Type} (k : α → Pd) (c : Nat) : ∀ xs : List α, (∀ x ∈ xs, szD (k x) ≤ c) → szDs (xs.map k) ≤ c * xs.length
  | [], _ => Nat.zero_le _
  | x :: xs, h => by
    have h1 := h x List.mem_cons_self
    have h2 := szDs_map k c xs fun y hy => h y (List.mem_cons_of_mem _ hy)
    show szD (k x) + szDs (xs.map k) ≤ c * (xs.length + 1)
    rw [Nat.mul_add]
    omega
end TL
set_option Elab.async false
set_option linter.all false
set_option maxRecDepth 100000
set_option maxHeartbeats 0
namespace Lw
open PySem PySem.Spec L2 TL

def top (i : Nat) : Stmt := PySem.Challenge.pw_touchcontest_k03_whole_paths_moved_and_c.main.body.getD i (.Pass ⟨0, 0, 0, 0⟩)
abbrev fuel : Nat := 1000000000
def b_is_integer : IS := (.seq (.if_ (.or_ (.not_ (.isi .int (.var 0))) (.isi .bool (.var 0))) (.seq (.ret (.cst (.bool false))) .nil) .nil) (.seq (.ret (.and_ (.or_ (.cmp .isN (.var 1) (.cst .none)) (.cmp .ge (.var 0) (.var 1))) (.or_ (.cmp .isN (.var 2) (.cst .none)) (.cmp .le (.var 0) (.var 2))))) .nil))
def D_is_integer : DfI := ⟨["value", "first", "last"], ["value", "first", "last"], ⟨3, 3, b_is_integer⟩, ⟨("is_integer", none), "is_integer", "is_integer", L2.defArgs (top 6), L2.defBody (top 6), L2.defScope (top 6), [], []⟩⟩
def b_is_place : IS := (.seq (.ret (.and_ (.isi .tuple (.var 0)) (.and_ (.cmp .eq (.bi .len (.cons (.var 0) .nil)) (.cst (.int 2))) (.bi .all1 (.cons (.lc (.cal 0 (.cons (.var 1) (.cons (.cst .none) (.cons (.cst .none) .nil)))) (.nm 1) (.val (.var 0)) .nil [1]) .nil))))) .nil)
def D_is_place : DfI := ⟨["value", "part"], ["value"], ⟨1, 2, b_is_place⟩, ⟨("is_place", none), "is_place", "is_place", L2.defArgs (top 7), L2.defBody (top 7), L2.defScope (top 7), [], []⟩⟩
def b_is_list : IS := (.seq (.ret (.and_ (.isi .list (.var 0)) (.cmp .le (.bi .len (.cons (.var 0) .nil)) (.var 1)))) .nil)
def D_is_list : DfI := ⟨["value", "most"], ["value", "most"], ⟨2, 2, b_is_list⟩, ⟨("is_list", none), "is_list", "is_list", L2.defArgs (top 8), L2.defBody (top 8), L2.defScope (top 8), [], []⟩⟩
def b_is_view : IS := (.seq (.if_ (.or_ (.not_ (.isi .tuple (.var 0))) (.or_ (.cmp .ne (.bi .len (.cons (.var 0) .nil)) (.cst (.int 5))) (.not_ (.bi .all1 (.cons (.lc (.cal 0 (.cons (.var 7) (.cons (.cst .none) (.cons (.cst .none) .nil)))) (.nm 7) (.val (.var 0)) .nil [7]) .nil))))) (.seq (.ret (.cst (.bool false))) .nil) .nil) (.seq (.tgt (.tp (.cons (.nm 2) (.cons (.nm 3) (.cons (.nm 4) (.cons (.nm 5) (.cons (.nm 6) .nil)))))) (.var 0)) (.seq (.ret (.and_ (.chn .le .lt (.cst (.int 0)) (.var 2) (.var 1)) (.and_ (.cmp .lt (.var 3) (.var 5)) (.cmp .lt (.var 4) (.var 6))))) .nil)))
def D_is_view : DfI := ⟨["value", "number", "parent", "left", "top", "right", "bottom", "part"], ["value", "number"], ⟨2, 8, b_is_view⟩, ⟨("is_view", none), "is_view", "is_view", L2.defArgs (top 9), L2.defBody (top 9), L2.defScope (top 9), [], []⟩⟩
def b_wrong_view : IS := (.seq (.for_ (.tp (.cons (.nm 1) (.cons (.nm 2) .nil))) (.enm (.var 0) 0) (.seq (.if_ (.not_ (.cal 3 (.cons (.var 2) (.cons (.bin .add (.var 1) (.cst (.int 1))) .nil)))) (.seq (.ret (.var 1)) .nil) .nil) .nil)) (.seq (.ret (.cst .none)) .nil))
def D_wrong_view : DfI := ⟨["views", "index", "view"], ["views"], ⟨1, 3, b_wrong_view⟩, ⟨("wrong_view", none), "wrong_view", "wrong_view", L2.defArgs (top 10), L2.defBody (top 10), L2.defScope (top 10), [], []⟩⟩
def b_require_views : IS := (.seq (.if_ (.not_ (.cal 2 (.cons (.var 0) (.cons (.glb 0) .nil)))) (.seq .never .nil) .nil) (.seq (.set 1 (.cal 4 (.cons (.var 0) .nil))) (.seq (.if_ (.cmp .notN (.var 1) (.cst .none)) (.seq .never .nil) .nil) .nil)))
def D_require_views : DfI := ⟨["views", "wrong"], ["views"], ⟨1, 2, b_require_views⟩, ⟨("require_views", none), "require_views", "require_views", L2.defArgs (top 11), L2.defBody (top 11), L2.defScope (top 11), [], []⟩⟩
def b_require_place : IS := (.seq (.if_ (.not_ (.cal 1 (.cons (.var 0) .nil))) (.seq .never .nil) .nil) .nil)
def D_require_place : DfI := ⟨["place"], ["place"], ⟨1, 1, b_require_place⟩, ⟨("require_place", none), "require_place", "require_place", L2.defArgs (top 12), L2.defBody (top 12), L2.defScope (top 12), [], []⟩⟩
def b_has : IS := (.seq (.tgt (.tp (.cons (.nm 2) (.cons (.nm 3) (.cons (.nm 4) (.cons (.nm 5) (.cons (.nm 6) .nil)))))) (.var 0)) (.seq (.ret (.and_ (.chn .le .lt (.var 3) (.idx (.var 1) (.cst (.int 0))) (.var 5)) (.chn .le .lt (.var 4) (.idx (.var 1) (.cst (.int 1))) (.var 6)))) .nil))
def D_has : DfI := ⟨["view", "place", "parent", "left", "top", "right", "bottom"], ["view", "place"], ⟨2, 7, b_has⟩, ⟨("has", none), "has", "has", L2.defArgs (top 14), L2.defBody (top 14), L2.defScope (top 14), [], []⟩⟩
def b_path_of : IS := (.seq (.set 2 (.lst (.cons (.cst (.int 0)) .nil))) (.seq (.whl fuel (.cst (.bool true)) (.seq (.set 3 (.lc (.var 4) (.tp (.cons (.nm 4) (.cons (.nm 5) .nil))) (.enm (.var 0) 1) (.cons (.and_ (.cmp .eq (.idx (.var 5) (.cst (.int 0))) (.idx (.var 2) (.neg (.cst (.int 1))))) (.cal 7 (.cons (.var 5) (.cons (.var 1) .nil)))) .nil) [4, 5])) (.seq (.if_ (.cmp .eq (.var 3) (.lst .nil)) (.seq (.ret (.var 2)) .nil) .nil) (.seq (.app 2 (.idx (.var 3) (.neg (.cst (.int 1))))) .nil)))) .nil))
def D_path_of : DfI := ⟨["views", "place", "found", "here", "number", "view"], ["views", "place"], ⟨2, 6, b_path_of⟩, ⟨("path_of", none), "path_of", "path_of", L2.defArgs (top 15), L2.defBody (top 15), L2.defScope (top 15), [], []⟩⟩
def b_path : IS := (.seq (.exp (.cal 5 (.cons (.var 0) .nil))) (.seq (.exp (.cal 6 (.cons (.var 1) .nil))) (.seq (.ret (.cal 8 (.cons (.var 0) (.cons (.var 1) .nil)))) .nil)))
def D_path : DfI := ⟨["views", "place"], ["views", "place"], ⟨2, 2, b_path⟩, ⟨("path", none), "path", "path", L2.defArgs (top 16), L2.defBody (top 16), L2.defScope (top 16), [], []⟩⟩
def b_deepest : IS := (.seq (.exp (.cal 5 (.cons (.var 0) .nil))) (.seq (.exp (.cal 6 (.cons (.var 1) .nil))) (.seq (.ret (.idx (.cal 8 (.cons (.var 0) (.cons (.var 1) .nil))) (.neg (.cst (.int 1))))) .nil)))
def D_deepest : DfI := ⟨["views", "place"], ["views", "place"], ⟨2, 2, b_deepest⟩, ⟨("deepest", none), "deepest", "deepest", L2.defArgs (top 17), L2.defBody (top 17), L2.defScope (top 17), [], []⟩⟩
def b__law_fount : IS := (.seq (.set 2 (.ife (.cmp .lt (.var 1) (.bi .len (.cons (.var 0) .nil))) (.idx (.var 0) (.var 1)) (.cst (.int 0)))) (.seq (.ret (.lst (.cons (.bi .max2 (.cons (.cst (.int 0)) (.cons (.bin .sub (.var 2) (.bin .pow (.cst (.int 10)) (.cst (.int 18)))) .nil))) (.cons (.bin .add (.bin .mul (.bin .add (.bin .mod (.bi .int1 (.cons (.var 2) .nil)) (.bin .add (.bin .pow (.cst (.int 10)) (.cst (.int 39))) (.cst (.int 23)))) (.cst (.int 11))) (.cst (.int 64))) (.var 1)) (.cons (.cst (.int 0)) .nil))))) .nil))
def D__law_fount : DfI := ⟨["_law_script", "_law_k", "_law_cell"], ["_law_script", "_law_k"], ⟨2, 3, b__law_fount⟩, ⟨("_law_fount", none), "_law_fount", "_law_fount", L2.defArgs (top 19), L2.defBody (top 19), L2.defScope (top 19), [], []⟩⟩
def b__law_dip : IS := (.seq (.if_ (.cmp .gt (.idx (.var 0) (.cst (.int 0))) (.cst (.int 0))) (.seq (.set 3 (.bin .mod (.bi .int1 (.cons (.idx (.var 0) (.cst (.int 0))) .nil)) (.var 1))) (.seq (.sti 0 (.cst (.int 0)) (.bin .fdiv (.idx (.var 0) (.cst (.int 0))) (.var 1))) (.seq (.ret (.var 3)) .nil))) .nil) (.seq (.sti 0 (.cst (.int 2)) (.bin .add (.idx (.var 0) (.cst (.int 2))) (.cst (.int 1)))) (.seq (.set 2 (.bin .mod (.bi .int1 (.cons (.bin .pow (.bin .add (.idx (.var 0) (.cst (.int 1))) (.bin .mul (.cst (.int 86028121)) (.idx (.var 0) (.cst (.int 2))))) (.cst (.int 3))) .nil)) (.bin .add (.bin .pow (.cst (.int 10)) (.cst (.int 41))) (.cst (.int 9))))) (.seq (.set 2 (.bin .mod (.bi .int1 (.cons (.bin .pow (.bin .add (.var 2) (.bin .mul (.cst (.int 41161739)) (.idx (.var 0) (.cst (.int 2))))) (.cst (.int 2))) .nil)) (.bin .add (.bin .pow (.cst (.int 10)) (.cst (.int 38))) (.cst (.int 67))))) (.seq (.ret (.bin .mod (.bi .int1 (.cons (.bin .fdiv (.var 2) (.bin .pow (.cst (.int 10)) (.cst (.int 7)))) .nil)) (.var 1))) .nil)))))
def D__law_dip : DfI := ⟨["_law_fount_here", "_law_many", "_law_mixed", "_law_digit"], ["_law_fount_here", "_law_many"], ⟨2, 4, b__law_dip⟩, ⟨("_law_dip", none), "_law_dip", "_law_dip", L2.defArgs (top 20), L2.defBody (top 20), L2.defScope (top 20), [], []⟩⟩
def b__law_views : IS := (.seq (.set 3 (.lst .nil)) (.seq (.for_ (.nm 4) (.rng1 (.var 1)) (.seq (.set 5 (.cal 12 (.io 0 (.cons (.bin .add (.var 4) (.cst (.int 1))) .nil)))) (.seq (.par 9 10 (.bin .sub (.cst (.int 0)) (.var 2)) (.bin .sub (.cst (.int 0)) (.var 2))) (.seq (.par 11 12 (.var 2) (.var 2)) (.seq (.if_ (.and_ (.cmp .gt (.var 5) (.cst (.int 0))) (.cmp .gt (.cal 12 (.io 0 (.cons (.cst (.int 5)) .nil))) (.cst (.int 0)))) (.seq (.tgt (.tp (.cons (.nm 9) (.cons (.nm 10) (.cons (.nm 11) (.cons (.nm 12) .nil))))) (.slc (.idx (.var 3) (.bin .sub (.var 5) (.cst (.int 1)))) (.cst (.int 1)) (.cst .none))) .nil) .nil) (.seq (.set 6 (.bin .sub (.bin .add (.var 9) (.cal 12 (.io 0 (.cons (.bin .add (.bin .sub (.var 11) (.var 9)) (.cst (.int 2))) .nil)))) (.cst (.int 1)))) (.seq (.set 7 (.bin .sub (.bin .add (.var 10) (.cal 12 (.io 0 (.cons (.bin .add (.bin .sub (.var 12) (.var 10)) (.cst (.int 2))) .nil)))) (.cst (.int 1)))) (.seq (.set 8 (.lst (.cons (.tup (.cons (.bin .sub (.var 11) (.var 9)) (.cons (.bin .sub (.var 12) (.var 10)) .nil))) (.cons (.tup (.cons (.var 2) (.cons (.var 2) .nil))) (.cons (.tup (.cons (.cst (.int 2)) (.cons (.cst (.int 3)) .nil))) (.cons (.tup (.cons (.var 2) (.cons (.cst (.int 3)) .nil))) (.cons (.tup (.cons (.cst (.int 3)) (.cons (.var 2) .nil))) .nil))))))) (.seq (.tgt (.tp (.cons (.nm 13) (.cons (.nm 14) .nil))) (.idx (.var 8) (.cal 12 (.io 0 (.cons (.cst (.int 5)) .nil))))) (.seq (.app 3 (.tup (.cons (.var 5) (.cons (.var 6) (.cons (.var 7) (.cons (.bin .add (.bin .add (.var 6) (.cst (.int 1))) (.cal 12 (.io 0 (.cons (.var 13) .nil)))) (.cons (.bin .add (.bin .add (.var 7) (.cst (.int 1))) (.cal 12 (.io 0 (.cons (.var 14) .nil)))) .nil))))))) .nil)))))))))) (.seq (.ret (.var 3)) .nil)))
def D__law_views : DfI := ⟨["_law_fount_here", "_law_many", "_law_far", "_law_found", "_law_number", "_law_parent", "_law_x", "_law_y", "_law_sides", "_law_left", "_law_top", "_law_right", "_law_bottom", "_law_wide", "_law_high"], ["_law_fount_here", "_law_many", "_law_far"], ⟨3, 15, b__law_views⟩, ⟨("_law_views", none), "_law_views", "_law_views", L2.defArgs (top 21), L2.defBody (top 21), L2.defScope (top 21), [], []⟩⟩
def b__law_has : IS := (.seq (.ret (.and_ (.chn .le .lt (.idx (.var 0) (.cst (.int 1))) (.idx (.var 1) (.cst (.int 0))) (.idx (.var 0) (.cst (.int 3)))) (.chn .le .lt (.idx (.var 0) (.cst (.int 2))) (.idx (.var 1) (.cst (.int 1))) (.idx (.var 0) (.cst (.int 4)))))) .nil)
def D__law_has : DfI := ⟨["_law_view", "_law_place"], ["_law_view", "_law_place"], ⟨2, 2, b__law_has⟩, ⟨("_law_has", none), "_law_has", "_law_has", L2.defArgs (top 22), L2.defBody (top 22), L2.defScope (top 22), [], []⟩⟩
def b__law_places : IS := (.seq (.ptg [1, 2] (.cons (.lst (.cons (.cst (.int 0)) .nil)) (.cons (.lst (.cons (.cst (.int 0)) .nil)) .nil))) (.seq (.for_ (.tp (.cons (.nm 3) (.cons (.nm 4) (.cons (.nm 5) (.cons (.nm 6) (.cons (.nm 7) .nil)))))) (.val (.var 0)) (.seq (.set 1 (.bin .add (.var 1) (.lst (.cons (.bin .sub (.var 4) (.cst (.int 1))) (.cons (.var 4) (.cons (.bin .sub (.var 6) (.cst (.int 1))) (.cons (.var 6) .nil))))))) (.seq (.set 2 (.bin .add (.var 2) (.lst (.cons (.bin .sub (.var 5) (.cst (.int 1))) (.cons (.var 5) (.cons (.bin .sub (.var 7) (.cst (.int 1))) (.cons (.var 7) .nil))))))) .nil))) (.seq (.ret (.bin .add (.lc (.tup (.cons (.var 9) (.cons (.idx (.var 2) (.var 8)) .nil))) (.tp (.cons (.nm 8) (.cons (.nm 9) .nil))) (.enm (.var 1) 0) .nil [8, 9]) (.lc (.tup (.cons (.var 9) (.cons (.idx (.var 2) (.bin .sub (.cst (.int 0)) (.var 8))) .nil))) (.tp (.cons (.nm 8) (.cons (.nm 9) .nil))) (.enm (.var 1) 0) .nil [8, 9]))) .nil)))
def D__law_places : DfI := ⟨["_law_views_here", "_law_xs", "_law_ys", "_law_parent", "_law_left", "_law_top", "_law_right", "_law_bottom", "_law_at", "_law_x"], ["_law_views_here"], ⟨1, 10, b__law_places⟩, ⟨("_law_places", none), "_law_places", "_law_places", L2.defArgs (top 23), L2.defBody (top 23), L2.defScope (top 23), [], []⟩⟩
def b__law_path_right : IS := (.seq (.set 2 (.cal 9 (.cons (.var 0) (.cons (.var 1) .nil)))) (.seq (.if_ (.or_ (.cmp .ne (.idx (.var 2) (.cst (.int 0))) (.cst (.int 0))) (.or_ (.cmp .ne (.idx (.var 2) (.neg (.cst (.int 1)))) (.cal 10 (.cons (.var 0) (.cons (.var 1) .nil)))) (.cmp .ne (.var 2) (.srt (.var 2))))) (.seq (.ret (.cst (.bool false))) .nil) .nil) (.seq (.for_ (.tp (.cons (.nm 3) (.cons (.nm 4) .nil))) (.zipd (.var 2) (.slc (.var 2) (.cst (.int 1)) (.cst .none))) (.seq (.if_ (.or_ (.cmp .ne (.idx (.idx (.var 0) (.bin .sub (.var 4) (.cst (.int 1)))) (.cst (.int 0))) (.var 3)) (.not_ (.cal 14 (.cons (.idx (.var 0) (.bin .sub (.var 4) (.cst (.int 1)))) (.cons (.var 1) .nil))))) (.seq (.ret (.cst (.bool false))) .nil) .nil) .nil)) (.seq (.for_ (.tp (.cons (.nm 5) (.cons (.nm 6) .nil))) (.enm (.var 0) 0) (.seq (.if_ (.and_ (.cmp .inn (.idx (.var 6) (.cst (.int 0))) (.var 2)) (.and_ (.cmp .nin (.bin .add (.var 5) (.cst (.int 1))) (.var 2)) (.cal 14 (.cons (.var 6) (.cons (.var 1) .nil))))) (.seq (.if_ (.cmp .eq (.lc (.var 4) (.nm 4) (.val (.var 2)) (.cons (.and_ (.cmp .gt (.var 4) (.bin .add (.var 5) (.cst (.int 1)))) (.cmp .eq (.idx (.idx (.var 0) (.bin .sub (.var 4) (.cst (.int 1)))) (.cst (.int 0))) (.idx (.var 6) (.cst (.int 0))))) .nil) [4]) (.lst .nil)) (.seq (.ret (.cst (.bool false))) .nil) .nil) .nil) .nil) .nil)) (.seq (.ret (.cst (.bool true))) .nil)))))
def D__law_path_right : DfI := ⟨["_law_views_here", "_law_place", "_law_row", "_law_parent", "_law_number", "_law_at", "_law_view"], ["_law_views_here", "_law_place"], ⟨2, 7, b__law_path_right⟩, ⟨("_law_path_right", none), "_law_path_right", "_law_path_right", L2.defArgs (top 24), L2.defBody (top 24), L2.defScope (top 24), [], []⟩⟩
def b__law_other : IS := (.seq (.tgt (.tp (.cons (.nm 4) (.cons (.nm 5) .nil))) (.var 2)) (.seq (.if_ (.cmp .eq (.var 0) (.cst (.int 0))) (.seq (.ret (.tup (.cons (.lc (.tup (.cons (.var 8) (.cons (.bin .add (.var 9) (.var 3)) (.cons (.bin .sub (.var 10) (.var 3)) (.cons (.bin .add (.var 11) (.var 3)) (.cons (.bin .sub (.var 12) (.var 3)) .nil)))))) (.tp (.cons (.nm 8) (.cons (.nm 9) (.cons (.nm 10) (.cons (.nm 11) (.cons (.nm 12) .nil)))))) (.val (.var 1)) .nil [8, 9, 10, 11, 12]) (.cons (.tup (.cons (.bin .add (.var 4) (.var 3)) (.cons (.bin .sub (.var 5) (.var 3)) .nil))) .nil)))) .nil) .nil) (.seq (.if_ (.cmp .eq (.var 0) (.cst (.int 1))) (.seq (.set 6 (.bin .add (.cst (.int 1)) (.bi .abs (.cons (.var 3) .nil)))) (.seq (.set 7 (.lc (.tup (.cons (.var 8) (.cons (.bin .mul (.var 9) (.var 6)) (.cons (.bin .mul (.var 10) (.var 6)) (.cons (.bin .mul (.var 11) (.var 6)) (.cons (.bin .mul (.var 12) (.var 6)) .nil)))))) (.tp (.cons (.nm 8) (.cons (.nm 9) (.cons (.nm 10) (.cons (.nm 11) (.cons (.nm 12) .nil)))))) (.val (.var 1)) .nil [8, 9, 10, 11, 12])) (.seq (.ret (.tup (.cons (.var 7) (.cons (.tup (.cons (.bin .add (.bin .mul (.var 4) (.var 6)) (.bi .abs (.cons (.var 3) .nil))) (.cons (.bin .mul (.var 5) (.var 6)) .nil))) .nil)))) .nil))) .nil) (.seq (.if_ (.cmp .eq (.var 0) (.cst (.int 2))) (.seq (.ret (.tup (.cons (.lc (.tup (.cons (.var 8) (.cons (.bin .sub (.cst (.int 1)) (.var 11)) (.cons (.var 10) (.cons (.bin .sub (.cst (.int 1)) (.var 9)) (.cons (.var 12) .nil)))))) (.tp (.cons (.nm 8) (.cons (.nm 9) (.cons (.nm 10) (.cons (.nm 11) (.cons (.nm 12) .nil)))))) (.val (.var 1)) .nil [8, 9, 10, 11, 12]) (.cons (.tup (.cons (.bin .sub (.cst (.int 0)) (.var 4)) (.cons (.var 5) .nil))) .nil)))) .nil) .nil) (.seq (.ret (.tup (.cons (.lc (.tup (.cons (.var 8) (.cons (.var 10) (.cons (.var 9) (.cons (.var 12) (.cons (.var 11) .nil)))))) (.tp (.cons (.nm 8) (.cons (.nm 9) (.cons (.nm 10) (.cons (.nm 11) (.cons (.nm 12) .nil)))))) (.val (.var 1)) .nil [8, 9, 10, 11, 12]) (.cons (.tup (.cons (.var 5) (.cons (.var 4) .nil))) .nil)))) .nil)))))
def D__law_other : DfI := ⟨["_law_way", "_law_views_here", "_law_place", "_law_by", "_law_x", "_law_y", "_law_times", "_law_some", "_law_parent", "_law_a", "_law_b", "_law_c", "_law_d"], ["_law_way", "_law_views_here", "_law_place", "_law_by"], ⟨4, 13, b__law_other⟩, ⟨("_law_other", none), "_law_other", "_law_other", L2.defArgs (top 25), L2.defBody (top 25), L2.defScope (top 25), [], []⟩⟩
def b__law_ways_right : IS := (.seq (.set 3 (.cal 9 (.cons (.var 0) (.cons (.var 1) .nil)))) (.seq (.for_ (.nm 4) (.rng1 (.cst (.int 4))) (.seq (.tgt (.tp (.cons (.nm 5) (.cons (.nm 6) .nil))) (.cal 17 (.cons (.var 4) (.cons (.var 0) (.cons (.var 1) (.cons (.var 2) .nil)))))) (.seq (.if_ (.cmp .ne (.cal 9 (.cons (.var 5) (.cons (.var 6) .nil))) (.var 3)) (.seq (.ret (.cst (.bool false))) .nil) .nil) .nil))) (.seq (.ret (.cst (.bool true))) .nil)))
def D__law_ways_right : DfI := ⟨["_law_views_here", "_law_place", "_law_by", "_law_due", "_law_way", "_law_some", "_law_there"], ["_law_views_here", "_law_place", "_law_by"], ⟨3, 7, b__law_ways_right⟩, ⟨("_law_ways_right", none), "_law_ways_right", "_law_ways_right", L2.defArgs (top 26), L2.defBody (top 26), L2.defScope (top 26), [], []⟩⟩
def b__law_last_right : IS := (.seq (.par 3 4 (.cal 9 (.cons (.var 0) (.cons (.var 1) .nil))) (.bi .len (.cons (.var 0) .nil))) (.seq (.if_ (.cmp .gt (.var 4) (.cst (.int 0))) (.seq (.set 5 (.cal 9 (.cons (.slc (.var 0) (.cst .none) (.neg (.cst (.int 1)))) (.cons (.var 1) .nil)))) (.seq (.if_ (.or_ (.and_ (.cmp .ne (.var 3) (.var 5)) (.cmp .nin (.var 4) (.var 3))) (.and_ (.cmp .inn (.var 4) (.var 3)) (.cmp .ne (.slc (.var 3) (.cst .none) (.neg (.cst (.int 1)))) (.slc (.var 5) (.cst .none) (.bin .sub (.bi .len (.cons (.var 3) .nil)) (.cst (.int 1))))))) (.seq (.ret (.cst (.bool false))) .nil) .nil) .nil)) .nil) (.seq (.if_ (.cmp .lt (.var 4) (.cst (.int 12))) (.seq (.set 6 (.bin .add (.var 0) (.lst (.cons (.tup (.cons (.cst (.int 0)) (.cons (.bin .sub (.cst (.int 0)) (.bin .mul (.cst (.int 50)) (.var 2))) (.cons (.bin .sub (.cst (.int 0)) (.bin .mul (.cst (.int 50)) (.var 2))) (.cons (.bin .mul (.cst (.int 50)) (.var 2)) (.cons (.bin .mul (.cst (.int 50)) (.var 2)) .nil)))))) .nil)))) (.seq (.set 7 (.bin .add (.var 0) (.lst (.cons (.tup (.cons (.cst (.int 0)) (.cons (.bin .mul (.cst (.int 60)) (.var 2)) (.cons (.cst (.int 0)) (.cons (.bin .mul (.cst (.int 61)) (.var 2)) (.cons (.cst (.int 5)) .nil)))))) .nil)))) (.seq (.if_ (.or_ (.cmp .ne (.cal 9 (.cons (.var 6) (.cons (.var 1) .nil))) (.lst (.cons (.cst (.int 0)) (.cons (.bin .add (.var 4) (.cst (.int 1))) .nil)))) (.cmp .ne (.cal 9 (.cons (.var 7) (.cons (.var 1) .nil))) (.var 3))) (.seq (.ret (.cst (.bool false))) .nil) .nil) .nil))) .nil) (.seq (.ret (.cst (.bool true))) .nil))))
def D__law_last_right : DfI := ⟨["_law_views_here", "_law_place", "_law_far", "_law_due", "_law_many", "_law_before", "_law_cut", "_law_aside"], ["_law_views_here", "_law_place", "_law_far"], ⟨3, 8, b__law_last_right⟩, ⟨("_law_last_right", none), "_law_last_right", "_law_last_right", L2.defArgs (top 27), L2.defBody (top 27), L2.defScope (top 27), [], []⟩⟩
def b_law : IS := (.seq (.for_ (.nm 1) (.rng1 (.bi .max2 (.cons (.cst (.int 1)) (.cons (.bi .min2 (.cons (.cst (.int 3)) (.cons (.bi .len (.cons (.var 0) .nil)) .nil))) .nil)))) (.seq (.set 2 (.cal 11 (.cons (.var 0) (.cons (.var 1) .nil)))) (.seq (.for_ (.nm 3) (.rng1 (.idx (.lst (.cons (.cst (.int 1)) (.cons (.cst (.int 2)) .nil))) (.bi .int1 (.cons (.cmp .eq (.var 1) (.cst (.int 0))) .nil)))) (.seq (.set 4 (.idx (.lst (.cons (.cst (.int 5)) (.cons (.cst (.int 50)) (.cons (.bin .pow (.cst (.int 10)) (.cst (.int 6))) .nil)))) (.cal 12 (.io 2 (.cons (.cst (.int 3)) .nil))))) (.seq (.set 5 (.cal 13 (.io 2 (.cons (.ife (.cmp .eq (.var 3) (.cst (.int 0))) (.cst (.int 12)) (.cal 12 (.io 2 (.cons (.cst (.int 13)) .nil)))) (.cons (.var 4) .nil))))) (.seq (.set 6 (.bin .fdiv (.bin .pow (.cst (.int 10)) (.cst (.int 9))) (.bin .mul (.cst (.int 60)) (.var 4)))) (.seq (.set 7 (.idx (.lst (.cons (.bin .sub (.cal 12 (.io 2 (.cons (.cst (.int 9)) .nil))) (.cst (.int 4))) (.cons (.bin .sub (.cal 12 (.io 2 (.cons (.bin .mul (.cst (.int 2)) (.var 6)) .nil))) (.var 6)) .nil))) (.cal 12 (.io 2 (.cons (.cst (.int 2)) .nil))))) (.seq (.for_ (.nm 8) (.val (.slk (.cal 15 (.cons (.var 5) .nil)) (.cal 12 (.io 2 (.cons (.cst (.int 3)) .nil))) 3)) (.seq (.if_ (.or_ (.not_ (.cal 16 (.cons (.var 5) (.cons (.var 8) .nil)))) (.not_ (.cal 18 (.cons (.var 5) (.cons (.var 8) (.cons (.var 7) .nil)))))) (.seq (.ret (.cst (.bool false))) .nil) .nil) (.seq (.if_ (.not_ (.cal 19 (.cons (.var 5) (.cons (.var 8) (.cons (.var 4) .nil))))) (.seq (.ret (.cst (.bool false))) .nil) .nil) .nil))) .nil)))))) .nil))) (.seq (.ret (.cst (.bool true))) .nil))
def D_law : DfI := ⟨["_law_script", "_law_k", "_law_fount_here", "_law_turn", "_law_far", "_law_views_here", "_law_most", "_law_by", "_law_place"], ["_law_script"], ⟨1, 9, b_law⟩, ⟨("law", none), "law", "law", L2.defArgs (top 28), L2.defBody (top 28), L2.defScope (top 28), [], []⟩⟩
def Ds : List DfI := [D_is_integer, D_is_place, D_is_list, D_is_view, D_wrong_view, D_require_views, D_require_place, D_has, D_path_of, D_path, D_deepest, D__law_fount, D__law_dip, D__law_views, D__law_has, D__law_places, D__law_path_right, D__law_other, D__law_ways_right, D__law_last_right, D_law]
def free : List Str := ["isinstance", "int", "bool", "tuple", "len", "all", "list", "enumerate", "max", "range", "sorted", "set", "zip", "abs", "min"]
def gints : List (Str × Int) := [("MOST_VIEWS", 12)]
theorem ok_is_integer : DfOk (tbOf Ds free gints) D_is_integer := ⟨⟨rfl, rfl, rfl, by decide +kernel, rfl, by decide +kernel, by decide +kernel⟩, by kernel_rfl, rfl, rfl, rfl, fun _ _ _ _ _ _ us hl => match us, hl with | [_, _, _], _ => rfl⟩
theorem ok_is_place : DfOk (tbOf Ds free gints) D_is_place := ⟨⟨rfl, rfl, rfl, by decide +kernel, rfl, by decide +kernel, by decide +kernel⟩, by kernel_rfl, rfl, rfl, rfl, fun _ _ _ _ _ _ us hl => match us, hl with | [_], _ => rfl⟩
theorem ok_is_list : DfOk (tbOf Ds free gints) D_is_list := ⟨⟨rfl, rfl, rfl, by decide +kernel, rfl, by decide +kernel, by decide +kernel⟩, by kernel_rfl, rfl, rfl, rfl, fun _ _ _ _ _ _ us hl => match us, hl with | [_, _], _ => rfl⟩
theorem ok_is_view : DfOk (tbOf Ds free gints) D_is_view := ⟨⟨rfl, rfl, rfl, by decide +kernel, rfl, by decide +kernel, by decide +kernel⟩, by kernel_rfl, rfl, rfl, rfl, fun _ _ _ _ _ _ us hl => match us, hl with | [_, _], _ => rfl⟩
theorem ok_wrong_view : DfOk (tbOf Ds free gints) D_wrong_view := ⟨⟨rfl, rfl, rfl, by decide +kernel, rfl, by decide +kernel, by decide +kernel⟩, by kernel_rfl, rfl, rfl, rfl, fun _ _ _ _ _ _ us hl => match us, hl with | [_], _ => rfl⟩
theorem ok_require_views : DfOk (tbOf Ds free gints) D_require_views := ⟨⟨rfl, rfl, rfl, by decide +kernel, rfl, by decide +kernel, by decide +kernel⟩, by kernel_rfl, rfl, rfl, rfl, fun _ _ _ _ _ _ us hl => match us, hl with | [_], _ => rfl⟩
theorem ok_require_place : DfOk (tbOf Ds free gints) D_require_place := ⟨⟨rfl, rfl, rfl, by decide +kernel, rfl, by decide +kernel, by decide +kernel⟩, by kernel_rfl, rfl, rfl, rfl, fun _ _ _ _ _ _ us hl => match us, hl with | [_], _ => rfl⟩
theorem ok_has : DfOk (tbOf Ds free gints) D_has := ⟨⟨rfl, rfl, rfl, by decide +kernel, rfl, by decide +kernel, by decide +kernel⟩, by kernel_rfl, rfl, rfl, rfl, fun _ _ _ _ _ _ us hl => match us, hl with | [_, _], _ => rfl⟩
theorem ok_path_of : DfOk (tbOf Ds free gints) D_path_of := ⟨⟨rfl, rfl, rfl, by decide +kernel, rfl, by decide +kernel, by decide +kernel⟩, by kernel_rfl, rfl, rfl, rfl, fun _ _ _ _ _ _ us hl => match us, hl with | [_, _], _ => rfl⟩
theorem ok_path : DfOk (tbOf Ds free gints) D_path := ⟨⟨rfl, rfl, rfl, by decide +kernel, rfl, by decide +kernel, by decide +kernel⟩, by kernel_rfl, rfl, rfl, rfl, fun _ _ _ _ _ _ us hl => match us, hl with | [_, _], _ => rfl⟩
theorem ok_deepest : DfOk (tbOf Ds free gints) D_deepest := ⟨⟨rfl, rfl, rfl, by decide +kernel, rfl, by decide +kernel, by decide +kernel⟩, by kernel_rfl, rfl, rfl, rfl, fun _ _ _ _ _ _ us hl => match us, hl with | [_, _], _ => rfl⟩
theorem ok__law_fount : DfOk (tbOf Ds free gints) D__law_fount := ⟨⟨rfl, rfl, rfl, by decide +kernel, rfl, by decide +kernel, by decide +kernel⟩, by kernel_rfl, rfl, rfl, rfl, fun _ _ _ _ _ _ us hl => match us, hl with | [_, _], _ => rfl⟩
theorem ok__law_dip : DfOk (tbOf Ds free gints) D__law_dip := ⟨⟨rfl, rfl, rfl, by decide +kernel, rfl, by decide +kernel, by decide +kernel⟩, by kernel_rfl, rfl, rfl, rfl, fun _ _ _ _ _ _ us hl => match us, hl with | [_, _], _ => rfl⟩
theorem ok__law_views : DfOk (tbOf Ds free gints) D__law_views := ⟨⟨rfl, rfl, rfl, by decide +kernel, rfl, by decide +kernel, by decide +kernel⟩, by kernel_rfl, rfl, rfl, rfl, fun _ _ _ _ _ _ us hl => match us, hl with | [_, _, _], _ => rfl⟩
theorem ok__law_has : DfOk (tbOf Ds free gints) D__law_has := ⟨⟨rfl, rfl, rfl, by decide +kernel, rfl, by decide +kernel, by decide +kernel⟩, by kernel_rfl, rfl, rfl, rfl, fun _ _ _ _ _ _ us hl => match us, hl with | [_, _], _ => rfl⟩
theorem ok__law_places : DfOk (tbOf Ds free gints) D__law_places := ⟨⟨rfl, rfl, rfl, by decide +kernel, rfl, by decide +kernel, by decide +kernel⟩, by kernel_rfl, rfl, rfl, rfl, fun _ _ _ _ _ _ us hl => match us, hl with | [_], _ => rfl⟩
theorem ok__law_path_right : DfOk (tbOf Ds free gints) D__law_path_right := ⟨⟨rfl, rfl, rfl, by decide +kernel, rfl, by decide +kernel, by decide +kernel⟩, by kernel_rfl, rfl, rfl, rfl, fun _ _ _ _ _ _ us hl => match us, hl with | [_, _], _ => rfl⟩
theorem ok__law_other : DfOk (tbOf Ds free gints) D__law_other := ⟨⟨rfl, rfl, rfl, by decide +kernel, rfl, by decide +kernel, by decide +kernel⟩, by kernel_rfl, rfl, rfl, rfl, fun _ _ _ _ _ _ us hl => match us, hl with | [_, _, _, _], _ => rfl⟩
theorem ok__law_ways_right : DfOk (tbOf Ds free gints) D__law_ways_right := ⟨⟨rfl, rfl, rfl, by decide +kernel, rfl, by decide +kernel, by decide +kernel⟩, by kernel_rfl, rfl, rfl, rfl, fun _ _ _ _ _ _ us hl => match us, hl with | [_, _, _], _ => rfl⟩
theorem ok__law_last_right : DfOk (tbOf Ds free gints) D__law_last_right := ⟨⟨rfl, rfl, rfl, by decide +kernel, rfl, by decide +kernel, by decide +kernel⟩, by kernel_rfl, rfl, rfl, rfl, fun _ _ _ _ _ _ us hl => match us, hl with | [_, _, _], _ => rfl⟩
theorem ok_law : DfOk (tbOf Ds free gints) D_law := ⟨⟨rfl, rfl, rfl, by decide +kernel, rfl, by decide +kernel, by decide +kernel⟩, by kernel_rfl, rfl, rfl, rfl, fun _ _ _ _ _ _ us hl => match us, hl with | [_], _ => rfl⟩
theorem oks : ∀ (j : Nat) (D : DfI), Ds[j]? = some D → DfOk (tbOf Ds free gints) D ∧ D.d.at_ = (D.d.name, none) := fun j D h => by
  have m := List.mem_of_getElem? h
  unfold Ds at m
  simp only [List.mem_cons, List.not_mem_nil, or_false] at m
  rcases m with rfl | rfl | rfl | rfl | rfl | rfl | rfl | rfl | rfl | rfl | rfl | rfl | rfl | rfl | rfl | rfl | rfl | rfl | rfl | rfl | rfl
  · exact ⟨ok_is_integer, rfl⟩
  · exact ⟨ok_is_place, rfl⟩
  · exact ⟨ok_is_list, rfl⟩
  · exact ⟨ok_is_view, rfl⟩
  · exact ⟨ok_wrong_view, rfl⟩
  · exact ⟨ok_require_views, rfl⟩
  · exact ⟨ok_require_place, rfl⟩
  · exact ⟨ok_has, rfl⟩
  · exact ⟨ok_path_of, rfl⟩
  · exact ⟨ok_path, rfl⟩
  · exact ⟨ok_deepest, rfl⟩
  · exact ⟨ok__law_fount, rfl⟩
  · exact ⟨ok__law_dip, rfl⟩
  · exact ⟨ok__law_views, rfl⟩
  · exact ⟨ok__law_has, rfl⟩
  · exact ⟨ok__law_places, rfl⟩
  · exact ⟨ok__law_path_right, rfl⟩
  · exact ⟨ok__law_other, rfl⟩
  · exact ⟨ok__law_ways_right, rfl⟩
  · exact ⟨ok__law_last_right, rfl⟩
  · exact ⟨ok_law, rfl⟩
abbrev R : PySem.W.OpenRow := PySem.W.OpenLaw.row PySem.Challenge.rw_touchcontest_k03_whole_paths_moved_and_c
abbrev hk : PySem.W.Hook := He.hookD 4 (faOf Ds free gints) (TL.fnOf Ds)
def ob (s : PySem.W.SharedT) : He.AlD := He.obsDG 4 (faOf Ds free gints) (TL.fnOf Ds) (HandSHeadRun.getT s)
theorem ob_eq (s : PySem.W.SharedT) : ob s = hk.obs s.abs := He.obsDG_eq (HandSHeadRun.getT_eq s)
def loose : List PySem.Str := (["TouchError", "InvalidPlace", "InvalidViews", "MOST_VIEWS", "is_integer", "is_place", "is_list", "is_view", "wrong_view", "require_views", "require_place", "has", "path_of", "path", "deepest", "_law_fount", "_law_dip", "_law_views", "_law_has", "_law_places", "_law_path_right", "_law_other", "_law_ways_right", "_law_last_right"] : List PySem.Str)
theorem runs (w : World) : HandSHeadRun.RunEq R (PySem.W.view R.prog [28]) hk ob 4000 loose w := by
  intro os
  kernel_rfl
abbrev lv : Nat := 12
abbrev jl : Nat := 20
abbrev prog : Calls := run (gOf gints) (Ds.map (·.fn)) lv
abbrev Plain : Prop := ∀ ns : List Int, ns.length ≤ 63 → ∃ outs, prog jl [.dat (.list (ns.map .int))] = .ok (.d (.bool true)) outs
theorem walked (plain : Plain) : PySem.Challenge.rw_touchcontest_k03_whole_paths_moved_and_c.Holds := by
  w_on; o_law
  refine HandSHeadRun.head_any (r := PySem.W.OpenLaw.row PySem.Challenge.rw_touchcontest_k03_whole_paths_moved_and_c) (q := PySem.W.view (PySem.W.OpenLaw.row PySem.Challenge.rw_touchcontest_k03_whole_paths_moved_and_c).prog [28]) (H := hk) (ob := ob) (M := 4000) (loose := loose) (d := HandSHeadRun.topDef (PySem.W.OpenLaw.row PySem.Challenge.rw_touchcontest_k03_whole_paths_moved_and_c).prog 28) (kwd := []) ob_eq
    (by kernel_rfl) (fun s => by kernel_rfl) runs (by kernel_rfl) (by kernel_rfl) (by kernel_rfl) (by rfl) (by first | assumption | decide +kernel) (by decide +kernel) ⟨rfl, rfl, rfl, rfl, rfl, by decide +kernel⟩ ?hw ?hc
  case hw => w_witness2
  case hc =>
    exact walkT (l := PySem.Challenge.rw_touchcontest_k03_whole_paths_moved_and_c) (n := 63) (lv := lv) (j := jl) (D := D_law) (x := "_law_script") (by decide +kernel) rfl (by decide) (by kernel_rfl) ⟨rfl, by decide, by decide⟩ oks rfl rfl (by kernel_rfl) plain
end Lw
set_option Elab.async false
set_option linter.all false
set_option maxRecDepth 100000
set_option maxHeartbeats 4000000
namespace Lw
open PySem TL
def dipB : IS := (.seq (.if_ (.cmp .gt (.idx (.var 0) (.cst (.int 0))) (.cst (.int 0))) (.seq (.set 3 (.bin .mod (.bi .int1 (.cons (.idx (.var 0) (.cst (.int 0))) .nil)) (.var 1))) (.seq (.sti 0 (.cst (.int 0)) (.bin .fdiv (.idx (.var 0) (.cst (.int 0))) (.var 1))) (.seq (.ret (.var 3)) .nil))) .nil) (.seq (.sti 0 (.cst (.int 2)) (.bin .add (.idx (.var 0) (.cst (.int 2))) (.cst (.int 1)))) (.seq (.set 2 (.bin .mod (.bi .int1 (.cons (.bin .pow (.bin .add (.idx (.var 0) (.cst (.int 1))) (.bin .mul (.cst (.int 86028121)) (.idx (.var 0) (.cst (.int 2))))) (.cst (.int 3))) .nil)) (.bin .add (.bin .pow (.cst (.int 10)) (.cst (.int 41))) (.cst (.int 9))))) (.seq (.set 2 (.bin .mod (.bi .int1 (.cons (.bin .pow (.bin .add (.var 2) (.bin .mul (.cst (.int 41161739)) (.idx (.var 0) (.cst (.int 2))))) (.cst (.int 2))) .nil)) (.bin .add (.bin .pow (.cst (.int 10)) (.cst (.int 38))) (.cst (.int 67))))) (.seq (.ret (.bin .mod (.bi .int1 (.cons (.bin .fdiv (.var 2) (.bin .pow (.cst (.int 10)) (.cst (.int 7)))) .nil)) (.var 1))) .nil)))))
abbrev di (i : Int) : Ob := .dat (.int i)
theorem mod_ok {i j : Int} (h : 0 < j) : bop .mod (.int i) (.int j) = some (.d (.int (i % j))) := by
  show (if 0 < j then _ else _) = _
  rw [if_pos h]
theorem fdiv_ok {i j : Int} (h : 0 < j) (h2 : j.natAbs.log2 < 9000) : bop .fdiv (.int i) (.int j) = some (.d (.int (i / j))) := by
  show (if 0 < j ∧ j.natAbs.log2 < 9000 then _ else _) = _
  rw [if_pos ⟨h, h2⟩]
theorem mul_ok {i j : Int} (h : i.natAbs.log2 + j.natAbs.log2 < 1000000) : bop .mul (.int i) (.int j) = some (.d (.int (i * j))) := by
  show (if _ then _ else _) = _
  rw [if_pos h]
theorem pow_ok {i j : Int} (h : 0 ≤ j ∧ (i.natAbs.log2 + 1) * j.toNat ≤ 134217728) : bop .pow (.int i) (.int j) = some (.d (.int (i ^ j.toNat))) := by
  show (if _ then _ else _) = _
  rw [if_pos h]
theorem log2_le {i : Int} {n : Nat} (h : i.natAbs < 2 ^ (n + 1)) : i.natAbs.log2 ≤ n := by
  by_cases z : i.natAbs = 0
  · rw [z]; simp
  · exact Nat.le_of_lt_succ ((Nat.log2_lt z).mpr h)
theorem bop_add {i j : Int} : bop .add (.int i) (.int j) = some (.d (.int (i + j))) := rfl
theorem bop_sub {i j : Int} : bop .sub (.int i) (.int j) = some (.d (.int (i - j))) := rfl
theorem idx_l {xs : List Pd} {i : Int} : idxD (.list xs) (.int i) = (ixD xs.length i).bind fun j => xs[j]? := rfl
local macro_rules | `(tactic| boot_fact) => `(tactic| simp [execS, evalE, evalP, evalD, evalA, evalV, take, seen, TL.fresh, ioE, ioA, ioT, Vl.view, Ob.view, cop2, cop, TL.idxD, L2.ixN, bi, boolOf, TL.store, setIO, bop_add, bop_sub, runB, outs, asS, wipeE, *])
theorem dn_m1 {c : Int} (hc : 0 ≤ c ∧ c ≤ 10 ^ 9) : bop .mul (.int 86028121) (.int (c + 1)) = some (.d (.int (86028121 * (c + 1)))) := mul_ok (by
  have q1 := log2_le (i := 86028121) (n := 30) (by decide)
  have q2 := log2_le (i := c + 1) (n := 40) (by omega)
  omega)
theorem dn_m2 {c : Int} (hc : 0 ≤ c ∧ c ≤ 10 ^ 9) : bop .mul (.int 41161739) (.int (c + 1)) = some (.d (.int (41161739 * (c + 1)))) := mul_ok (by
  have q1 := log2_le (i := 41161739) (n := 30) (by decide)
  have q2 := log2_le (i := c + 1) (n := 40) (by omega)
  omega)
theorem dn_p1 {b c : Int} (hc : 0 ≤ c ∧ c ≤ 10 ^ 9) (hb : 0 ≤ b ∧ b ≤ 10 ^ 42) : bop .pow (.int (b + 86028121 * (c + 1))) (.int 3) = some (.d (.int ((b + 86028121 * (c + 1)) ^ 3))) := pow_ok (by
  have q := log2_le (i := b + 86028121 * (c + 1)) (n := 200) (by omega)
  show 0 ≤ (3 : Int) ∧ (_ + 1) * 3 ≤ 134217728
  omega)
theorem dn_p2 {x c : Int} (hc : 0 ≤ c ∧ c ≤ 10 ^ 9) (hb : 0 ≤ x ∧ x < 10 ^ 42) : bop .pow (.int (x + 41161739 * (c + 1))) (.int 2) = some (.d (.int ((x + 41161739 * (c + 1)) ^ 2))) := pow_ok (by
  have q := log2_le (i := x + 41161739 * (c + 1)) (n := 200) (by omega)
  show 0 ≤ (2 : Int) ∧ (_ + 1) * 2 ≤ 134217728
  omega)
theorem dn_k : bop .pow (.int 10) (.int 41) = some (.d (.int 100000000000000000000000000000000000000000)) ∧ bop .pow (.int 10) (.int 38) = some (.d (.int 100000000000000000000000000000000000000)) ∧ bop .pow (.int 10) (.int 7) = some (.d (.int 10000000)) := ⟨by kernel_rfl, by kernel_rfl, by kernel_rfl⟩
theorem dn_r3 {y : Int} : bop .fdiv (.int y) (.int 10000000) = some (.d (.int (y / 10000000))) := fdiv_ok (by decide) (by decide +kernel)
theorem dn_r {y : Int} : bop .mod (.int y) (.int 100000000000000000000000000000000000000009) = some (.d (.int (y % 100000000000000000000000000000000000000009))) ∧ bop .mod (.int y) (.int 100000000000000000000000000000000000067) = some (.d (.int (y % 100000000000000000000000000000000000067))) := ⟨mod_ok (by decide), mod_ok (by decide)⟩
theorem dn_x {y : Int} : 0 ≤ y % 100000000000000000000000000000000000000009 ∧ y % 100000000000000000000000000000000000000009 < 10 ^ 42 := by omega

theorem dip_b (G : List Pd) (C : Calls) (a b c m : Int) (h : ¬ 0 < a) (hm : 0 < m) (hb : 0 ≤ b ∧ b ≤ 10 ^ 42) (hc : 0 ≤ c ∧ c ≤ 10 ^ 9) :
    ∃ y : Int, runB G C ⟨2, 4, dipB⟩ [.ol [.int a, .int b, .int c], di m] = .ok (.d (.int (y % m))) [some (.ol [.int a, .int b, .int (c + 1)]), some (di m)] := by
  obtain ⟨A, eA, A0, A1⟩ : ∃ A : Int, (∀ ρ, evalE G C (.bin .add (.bin .pow (.cst (.int 10)) (.cst (.int 41))) (.cst (.int 9))) ρ = .ok (.d (.int A)) ρ) ∧ 0 < A ∧ A ≤ 10 ^ 42 := ⟨100000000000000000000000000000000000000009, fun ρ => by kernel_rfl, by decide, by decide⟩
  obtain ⟨B, eB, B0⟩ : ∃ A : Int, (∀ ρ, evalE G C (.bin .add (.bin .pow (.cst (.int 10)) (.cst (.int 38))) (.cst (.int 67))) ρ = .ok (.d (.int A)) ρ) ∧ 0 < A := ⟨100000000000000000000000000000000000067, fun ρ => by kernel_rfl, by decide⟩
  obtain ⟨D, eD, D0, D1⟩ : ∃ A : Int, (∀ ρ, evalE G C (.bin .pow (.cst (.int 10)) (.cst (.int 7))) ρ = .ok (.d (.int A)) ρ) ∧ 0 < A ∧ A.natAbs.log2 < 9000 := ⟨10000000, fun ρ => by kernel_rfl, by decide, by decide +kernel⟩
  have m1 := dn_m1 hc
  have m2 := dn_m2 hc
  have p1 := dn_p1 hc hb
  have r1 := mod_ok (i := (b + 86028121 * (c + 1)) ^ 3) A0
  have x0 := Int.emod_nonneg ((b + 86028121 * (c + 1)) ^ 3) (Int.ne_of_gt A0)
  have x1 := Int.emod_lt_of_pos ((b + 86028121 * (c + 1)) ^ 3) A0
  generalize (b + 86028121 * (c + 1)) ^ 3 % A = x at *
  have p2 := dn_p2 (x := x) hc ⟨x0, by omega⟩
  have r2 := mod_ok (i := (x + 41161739 * (c + 1)) ^ 2) B0
  generalize (x + 41161739 * (c + 1)) ^ 2 % B = y at *
  have r3 := fdiv_ok (i := y) D0 D1
  have h1 := mod_ok (i := y / D) hm
  refine ⟨y / D, ?_⟩
  generalize (b + 86028121 * (c + 1)) ^ 3 = z at *
  generalize (x + 41161739 * (c + 1)) ^ 2 = u at *
  clear x0 x1 hb hc A0 A1 B0 D0 D1
  unfold dipB
  simp [↓eA, ↓eB, ↓eD, execS, evalE, evalP, take, seen, TL.fresh, ioE, ioA, Vl.view, Ob.view, cop2, cop, TL.idxD, L2.ixN, bi, boolOf, TL.store, bop_add, runB, outs, asS, wipeE, h, m1, m2, p1, p2, r1, r2, r3, h1]
theorem dip_ok (G : List Pd) (C : Calls) (a b c m : Int) (hm : 0 < m) (hm2 : m.natAbs.log2 < 9000) (hb : 0 ≤ b ∧ b ≤ 10 ^ 42) (hc : 0 ≤ c ∧ c ≤ 10 ^ 9) :
    ∃ d a' c', runB G C ⟨2, 4, dipB⟩ [.ol [.int a, .int b, .int c], di m] = .ok (.d (.int d)) [some (.ol [.int a', .int b, .int c']), some (di m)] ∧ 0 ≤ d ∧ d < m ∧ (0 ≤ c' ∧ c ≤ c' ∧ c' ≤ c + 1) := by
  by_cases h : 0 < a
  · refine ⟨a % m, a / m, c, ?_, Int.emod_nonneg _ (by omega), Int.emod_lt_of_pos _ hm, hc.1, by omega, by omega⟩
    have h1 := fun i => mod_ok (i := i) hm
    have h2 := fun i => fdiv_ok (i := i) hm hm2
    clear hb hc
    unfold dipB
    boot_fact
  · obtain ⟨y, e⟩ := dip_b G C a b c m h hm hb hc
    exact ⟨_, _, _, e, Int.emod_nonneg _ (by omega), Int.emod_lt_of_pos _ hm, by omega, by omega, by omega⟩
end Lw
set_option Elab.async false
set_option linter.all false
set_option maxRecDepth 100000
set_option maxHeartbeats 4000000
namespace Lw
open PySem TL
local macro_rules | `(tactic| boot_fact) => `(tactic| simp [execS, evalE, evalP, evalD, evalA, evalV, take, seen, TL.fresh, ioE, ioA, ioT, Vl.view, Ob.view, cop2, cop, bi, boolOf, TL.store, setIO, bop_add, bop_sub, runB, outs, asS, wipeE, *])
def fountB : IS := (.seq (.set 2 (.ife (.cmp .lt (.var 1) (.bi .len (.cons (.var 0) .nil))) (.idx (.var 0) (.var 1)) (.cst (.int 0)))) (.seq (.ret (.lst (.cons (.bi .max2 (.cons (.cst (.int 0)) (.cons (.bin .sub (.var 2) (.bin .pow (.cst (.int 10)) (.cst (.int 18)))) .nil))) (.cons (.bin .add (.bin .mul (.bin .add (.bin .mod (.bi .int1 (.cons (.var 2) .nil)) (.bin .add (.bin .pow (.cst (.int 10)) (.cst (.int 39))) (.cst (.int 23)))) (.cst (.int 11))) (.cst (.int 64))) (.var 1)) (.cons (.cst (.int 0)) .nil))))) .nil))
theorem idx_ok {xs : List Pd} {i : Nat} {x : Pd} (h : xs[i]? = some x) : idxD (.list xs) (.int (i : Int)) = some x := by
  have lt := (List.getElem?_eq_some_iff.mp h).1
  show (L2.ixN xs.length (i : Int)).bind (fun j => xs[j]?) = _
  unfold L2.ixN
  rw [if_pos (by omega), if_pos (by omega)]
  show xs[(i : Int).toNat]? = _
  rw [Int.toNat_natCast]
  exact h
theorem len_ok {xs : List Pd} : bi .len [.list xs] = some (.d (.int (xs.length : Int))) := rfl
theorem runB_ret {G : List Pd} {C : Calls} {f : Fn} {as : List Ob} {v : Vl} {ρ : Ev} (h : execS G C f.body (as.map some ++ List.replicate (f.ns - f.np) none) = .ok (.rt v) ρ) : runB G C f as = .ok v (outs f ρ) := by
  unfold runB
  rw [h]
theorem fount_ok (G : List Pd) (C : Calls) (ns : List Int) (k : Nat) (hk : k < 64) : ∃ a b : Int, runB G C ⟨2, 3, fountB⟩ [.dat (.list (ns.map .int)), di (k : Int)] = .ok (.fr (.ol [.int a, .int b, .int 0])) [some (.dat (.list (ns.map .int))), some (di (k : Int))] ∧ 0 ≤ b ∧ b ≤ 10 ^ 42 := by
  obtain ⟨A, eA, A0, A1⟩ : ∃ A : Int, (∀ ρ, evalE G C (.bin .add (.bin .pow (.cst (.int 10)) (.cst (.int 39))) (.cst (.int 23))) ρ = .ok (.d (.int A)) ρ) ∧ 0 < A ∧ A ≤ 10 ^ 40 := ⟨1000000000000000000000000000000000000023, fun ρ => by kernel_rfl, by decide, by decide⟩
  obtain ⟨D, eD⟩ : ∃ A : Int, (∀ ρ, evalE G C (.bin .pow (.cst (.int 10)) (.cst (.int 18))) ρ = .ok (.d (.int A)) ρ) := ⟨1000000000000000000, fun ρ => by kernel_rfl⟩
  have go : ∀ c : Int, (evalE G C (.ife (.cmp .lt (.var 1) (.bi .len (.cons (.var 0) .nil))) (.idx (.var 0) (.var 1)) (.cst (.int 0))) [some (.dat (.list (ns.map .int))), some (di (k : Int)), none] = .ok (.d (.int c)) [some (.dat (.list (ns.map .int))), some (di (k : Int)), none]) →
      ∃ a b : Int, runB G C ⟨2, 3, fountB⟩ [.dat (.list (ns.map .int)), di (k : Int)] = .ok (.fr (.ol [.int a, .int b, .int 0])) [some (.dat (.list (ns.map .int))), some (di (k : Int))] ∧ 0 ≤ b ∧ b ≤ 10 ^ 42 := by
    intro c ec
    have r1 := mod_ok (i := c) A0
    have x0 := Int.emod_nonneg c (Int.ne_of_gt A0)
    have x1 := Int.emod_lt_of_pos c A0
    generalize c % A = x at *
    have m1 : bop .mul (.int (x + 11)) (.int 64) = some (.d (.int ((x + 11) * 64))) := mul_ok (by
      have q1 := log2_le (i := x + 11) (n := 200) (by omega)
      have q2 := log2_le (i := 64) (n := 6) (by decide)
      omega)
    refine ⟨if c - D > 0 then c - D else 0, (x + 11) * 64 + (k : Int), ?_, by omega, by omega⟩
    clear x0 x1 A0 A1 hk
    have e : execS G C fountB [some (.dat (.list (ns.map .int))), some (di (k : Int)), none] = .ok (.rt (.fr (.ol [.int (if c - D > 0 then c - D else 0), .int ((x + 11) * 64 + (k : Int)), .int 0]))) [some (.dat (.list (ns.map .int))), some (di (k : Int)), some (di c)] := by
      unfold fountB
      rw [ex_seq (ex_set_d ec)]
      simp [↓eA, ↓eD, execS, evalE, evalP, evalD, take, seen, TL.fresh, ioE, ioA, Vl.view, Ob.view, bi, TL.store, bop_add, bop_sub, r1, m1]
    exact runB_ret (f := ⟨2, 3, fountB⟩) (as := [.dat (.list (ns.map .int)), di (k : Int)]) e
  by_cases h : k < ns.length
  · have e1 := idx_ok (xs := ns.map .int) (i := k) (x := .int ns[k]) (by rw [List.getElem?_map, List.getElem?_eq_getElem h]; rfl)
    refine go ns[k] ?_
    simp [evalE, evalP, seen, TL.fresh, ioE, ioA, Vl.view, cop2, cop, len_ok, h, e1]
  · refine go 0 ?_
    simp [evalE, evalP, seen, TL.fresh, ioE, ioA, Vl.view, cop2, cop, len_ok, h]
end Lw
set_option Elab.async false
set_option linter.all false
set_option maxRecDepth 100000
set_option maxHeartbeats 4000000
namespace Lw
open PySem TL
structure V5 where
  p : Int
  l : Int
  t : Int
  r : Int
  b : Int
def V5.pd (v : V5) : Pd := .tuple [.int v.p, .int v.l, .int v.t, .int v.r, .int v.b]
def ptD (x y : Int) : Pd := .tuple [.int x, .int y]
def V5.ok (v : V5) (n : Int) : Bool := (decide (0 ≤ v.p) && decide (v.p < n)) && (decide (v.l < v.r) && decide (v.t < v.b))
def V5.has (v : V5) (x y : Int) : Bool := (decide (v.l ≤ x) && decide (x < v.r)) && (decide (v.t ≤ y) && decide (y < v.b))
abbrev pr (n : Nat) : Calls := TL.run (gOf gints) (Ds.map (·.fn)) n
theorem pr_at {n j : Nat} {f : Fn} {as : List Ob} (h : (Ds.map (·.fn))[j]? = some f) (hl : as.length = f.np) : pr (n + 1) j as = runB (gOf gints) (pr n) f as := by
  show (match (Ds.map (·.fn))[j]? with
    | some f => if as.length = f.np then runB (gOf gints) (pr n) f as else .no
    | none => .no) = _
  rw [h]
  show (if as.length = f.np then _ else _) = _
  rw [if_pos hl]
theorem r_int (n : Nat) (v : Int) : pr (n + 1) 0 [di v, .dat .none, .dat .none] = .ok (.d (.bool true)) [some (di v), some (.dat .none), some (.dat .none)] := by
  kernel_rfl
theorem r_place (n : Nat) (x y : Int) : pr (n + 2) 1 [.dat (ptD x y)] = .ok (.d (.bool true)) [some (.dat (ptD x y))] := by
  kernel_rfl
theorem r_has (n : Nat) (v : V5) (x y : Int) : pr (n + 1) 7 [.dat v.pd, .dat (ptD x y)] = .ok (.d (.bool (v.has x y))) [some (.dat v.pd), some (.dat (ptD x y))] := by
  rw [pr_at (f := ⟨2, 7, b_has⟩) rfl rfl]
  refine runB_ret (f := ⟨2, 7, b_has⟩) (as := [.dat v.pd, .dat (ptD x y)]) (ρ := [some (.dat v.pd), some (.dat (ptD x y)), some (di v.p), some (di v.l), some (di v.t), some (di v.r), some (di v.b)]) ?_
  unfold b_has
  rw [ex_seq (ρ1 := [some (.dat v.pd), some (.dat (ptD x y)), some (di v.p), some (di v.l), some (di v.t), some (di v.r), some (di v.b)]) (by kernel_rfl)]
  refine ex_stop (ex_ret_d (ev_and (v := .d (.bool (decide (v.l ≤ x) && decide (x < v.r)))) (ev_chn (v := .d (.int v.l)) (w := .d (.int x)) (u := .d (.int v.r)) (by kernel_rfl) (by kernel_rfl) (by kernel_rfl) rfl rfl rfl rfl rfl rfl) rfl fun _ => (ev_chn (v := .d (.int v.t)) (w := .d (.int y)) (u := .d (.int v.b)) (by kernel_rfl) (by kernel_rfl) (by kernel_rfl) rfl rfl rfl rfl rfl rfl))) (fun z => nomatch z)
theorem r_lhas (n : Nat) (v : V5) (x y : Int) : pr (n + 1) 14 [.dat v.pd, .dat (ptD x y)] = .ok (.d (.bool (v.has x y))) [some (.dat v.pd), some (.dat (ptD x y))] := by
  rw [pr_at (f := ⟨2, 2, b__law_has⟩) rfl rfl]
  refine runB_ret (f := ⟨2, 2, b__law_has⟩) (as := [.dat v.pd, .dat (ptD x y)]) (ρ := [some (.dat v.pd), some (.dat (ptD x y))]) ?_
  unfold b__law_has
  refine ex_stop (ex_ret_d (ev_and (v := .d (.bool (decide (v.l ≤ x) && decide (x < v.r)))) (ev_chn (v := .d (.int v.l)) (w := .d (.int x)) (u := .d (.int v.r)) (by kernel_rfl) (by kernel_rfl) (by kernel_rfl) rfl rfl rfl rfl rfl rfl) rfl fun _ => (ev_chn (v := .d (.int v.t)) (w := .d (.int y)) (u := .d (.int v.b)) (by kernel_rfl) (by kernel_rfl) (by kernel_rfl) rfl rfl rfl rfl rfl rfl))) (fun z => nomatch z)
theorem r_view (n : Nat) (v : V5) (k : Int) (h : v.ok k = true) : pr (n + 2) 3 [.dat v.pd, di k] = .ok (.d (.bool true)) [some (.dat v.pd), some (di k)] := by
  rw [pr_at (f := ⟨2, 8, b_is_view⟩) rfl rfl]
  have e : execS (gOf gints) (pr (n + 1)) b_is_view [some (.dat v.pd), some (di k), none, none, none, none, none, none] = .ok (.rt (.d (.bool (v.ok k)))) [some (.dat v.pd), some (di k), some (di v.p), some (di v.l), some (di v.t), some (di v.r), some (di v.b), none] := by
    unfold b_is_view
    rw [ex_seq (ρ1 := [some (.dat v.pd), some (di k), none, none, none, none, none, none]) (by kernel_rfl)]
    rw [ex_seq (ρ1 := [some (.dat v.pd), some (di k), some (di v.p), some (di v.l), some (di v.t), some (di v.r), some (di v.b), none]) (by kernel_rfl)]
    refine ex_stop (ex_ret_d (ev_and (v := .d (.bool (decide (0 ≤ v.p) && decide (v.p < k)))) (ev_chn (v := .d (.int 0)) (w := .d (.int v.p)) (u := .d (.int k)) (by kernel_rfl) (by kernel_rfl) (by kernel_rfl) rfl rfl rfl rfl rfl rfl) rfl fun _ => ev_and (v := .d (.bool (decide (v.l < v.r)))) (by kernel_rfl) rfl fun _ => (by kernel_rfl))) (fun z => nomatch z)
  have q := runB_ret (f := ⟨2, 8, b_is_view⟩) (as := [.dat v.pd, di k]) e
  rw [q, h]
  rfl
end Lw
set_option Elab.async false
set_option linter.all false
set_option maxRecDepth 100000
set_option maxHeartbeats 4000000
namespace Lw
open PySem TL
def vsD (vs : List V5) : Pd := .list (vs.map V5.pd)
/-- views that stand well -/
def VOk (vs : List V5) : Prop := ∀ (i : Nat) (v : V5), vs[i]? = some v → v.ok ((i : Int) + 1) = true
def forF (G : List Pd) (C : Calls) (t : IT) (b : IS) (x : Pd) (ρ : Ev) : Re Fl := match assignT t x ρ with
  | some ρ => execS G C b ρ
  | none => .no
theorem forF_ok {G : List Pd} {C : Calls} {t : IT} {b : IS} {x : Pd} {ρ ρ1 : Ev} {fl : Fl} {ρ2 : Ev} (h : assignT t x ρ = some ρ1) (h2 : execS G C b ρ1 = .ok fl ρ2) : forF G C t b x ρ = .ok fl ρ2 := by
  unfold forF
  rw [h]
  exact h2
theorem ex_for {G : List Pd} {C : Calls} {t : IT} {it : II} {b : IS} {ρ ρ1 ρ2 : Ev} {xs : List Pd} (h : evalI G C it ρ = .ok (xs, []) ρ1) (h2 : forGo (forF G C t b) xs ρ1 = .ok .nx ρ2) : execS G C (.for_ t it b) ρ = .ok .nx ρ2 := by
  rw [execS]
  rw [h]
  show (forGo (forF G C t b) xs ρ1).mapE (unhide []) = _
  rw [h2]
  rfl
theorem r_wrong (n : Nat) (vs : List V5) (h : VOk vs) : pr (n + 3) 4 [.dat (vsD vs)] = .ok (.d .none) [some (.dat (vsD vs))] := by
  rw [pr_at (f := ⟨1, 3, b_wrong_view⟩) rfl rfl]
  obtain ⟨ρ2, e2, a, b, e3⟩ := forGo_inv (f := forF (gOf gints) (pr (n + 2)) (.tp (.cons (.nm 1) (.cons (.nm 2) .nil))) (.seq (.if_ (.not_ (.cal 3 (.cons (.var 2) (.cons (.bin .add (.var 1) (.cst (.int 1))) .nil)))) (.seq (.ret (.var 1)) .nil) .nil) .nil)) (xs := enumD 0 (vs.map V5.pd)) (ρ := [some (.dat (vsD vs)), none, none]) (fun _ ρ => ∃ a b, ρ = [some (.dat (vsD vs)), a, b]) ⟨_, _, rfl⟩ (by
    rintro i x _ hx ⟨a, b, rfl⟩
    obtain ⟨p, h1, rfl⟩ := enumD_at hx
    rw [List.getElem?_map] at h1
    obtain ⟨v, hv, rfl⟩ := Option.map_eq_some_iff.mp h1
    refine ⟨[some (.dat (vsD vs)), some (di (0 + (i : Int))), some (.dat v.pd)], .inl (forF_ok (ρ1 := [some (.dat (vsD vs)), some (di (0 + (i : Int))), some (.dat v.pd)]) (by kernel_rfl) ?_), _, _, rfl⟩
    have c : evalE (gOf gints) (pr (n + 2)) (.cal 3 (.cons (.var 2) (.cons (.bin .add (.var 1) (.cst (.int 1))) .nil))) [some (.dat (vsD vs)), some (di (0 + (i : Int))), some (.dat v.pd)] = .ok (.d (.bool true)) [some (.dat (vsD vs)), some (di (0 + (i : Int))), some (.dat v.pd)] :=
      ev_cal (p := ([.dat v.pd, di (0 + (i : Int) + 1)], [])) (by kernel_rfl) (r_view n v _ (by rw [Int.zero_add]; exact h i v hv)) rfl rfl
    rw [ex_seq (ρ1 := [some (.dat (vsD vs)), some (di (0 + (i : Int))), some (.dat v.pd)])]
    · show execS (gOf gints) (pr (n + 2)) .nil _ = _
      exact ex_nil
    · rw [ex_if (ev_not c rfl) rfl]
      show execS (gOf gints) (pr (n + 2)) .nil _ = _
      exact ex_nil)
  subst e3
  refine runB_ret (f := ⟨1, 3, b_wrong_view⟩) (as := [.dat (vsD vs)]) (ρ := [some (.dat (vsD vs)), a, b]) ?_
  unfold b_wrong_view
  rw [ex_seq (ex_for (xs := enumD 0 (vs.map V5.pd)) (ρ1 := [some (.dat (vsD vs)), none, none]) (by kernel_rfl) e2)]
  exact ex_stop (ex_ret_d ev_cst) fun z => nomatch z
/-- the list of views is let -/
theorem r_req (n : Nat) (vs : List V5) (h : VOk vs) (hl : vs.length ≤ 12) : pr (n + 4) 5 [.dat (vsD vs)] = .ok (.d .none) [some (.dat (vsD vs))] := by
  rw [pr_at (f := ⟨1, 2, b_require_views⟩) rfl rfl]
  have l : pr (n + 3) 2 [.dat (vsD vs), di 12] = .ok (.d (.bool true)) [some (.dat (vsD vs)), some (di 12)] := by
    rw [pr_at (f := ⟨2, 2, b_is_list⟩) rfl rfl]
    refine runB_ret (f := ⟨2, 2, b_is_list⟩) (as := [.dat (vsD vs), di 12]) (ρ := [some (.dat (vsD vs)), some (di 12)]) ?_
    unfold b_is_list
    have e : execS (gOf gints) (pr (n + 2)) (.ret (.and_ (.isi .list (.var 0)) (.cmp .le (.bi .len (.cons (.var 0) .nil)) (.var 1)))) [some (.dat (vsD vs)), some (di 12)] = .ok (.rt (.d (.bool (true && decide (((vs.map V5.pd).length : Int) ≤ 12))))) [some (.dat (vsD vs)), some (di 12)] :=
      ex_ret_d (ev_and (v := .d (.bool true)) (by kernel_rfl) rfl fun _ => (by kernel_rfl))
    have q : (true && decide (((vs.map V5.pd).length : Int) ≤ 12)) = true := by
      rw [List.length_map, Bool.true_and, decide_eq_true_eq]
      omega
    rw [q] at e
    exact ex_stop e fun z => nomatch z
  have w := r_wrong n vs h
  have e : execS (gOf gints) (pr (n + 3)) b_require_views [some (.dat (vsD vs)), none] = .ok .nx [some (.dat (vsD vs)), some (.dat .none)] := by
    unfold b_require_views
    rw [ex_seq (ρ1 := [some (.dat (vsD vs)), none])]
    · rw [ex_seq (ex_set_d (ev_cal (ρ2 := [some (.dat (vsD vs)), none]) (p := ([.dat (vsD vs)], [])) (by kernel_rfl) w rfl rfl))]
      rw [ex_seq (ρ1 := [some (.dat (vsD vs)), some (.dat .none)]) (by kernel_rfl)]
      show execS (gOf gints) (pr (n + 3)) .nil _ = _
      exact ex_nil
    · rw [ex_if (ev_not (ev_cal (ρ2 := [some (.dat (vsD vs)), none]) (p := ([.dat (vsD vs), di 12], [])) (by kernel_rfl) l rfl rfl) rfl) rfl]
      show execS (gOf gints) (pr (n + 3)) .nil _ = _
      exact ex_nil
  show runB _ _ _ _ = _
  unfold runB
  have e' : execS (gOf gints) (pr (n + 3)) b_require_views ([.dat (vsD vs)].map some ++ List.replicate (2 - 1) none) = .ok .nx [some (.dat (vsD vs)), some (.dat .none)] := e
  rw [e']
  rfl
end Lw
set_option Elab.async false
set_option linter.all false
set_option maxRecDepth 100000
set_option maxHeartbeats 4000000
namespace Lw
open PySem TL
/-- the members of cur that a place lies in, by number from s -/
def hereI : Int → List V5 → Int → Int → Int → List Int
  | _, [], _, _, _ => []
  | s, v :: vs, cur, x, y => if (PyData.eqv (.int v.p) (.int cur) && v.has x y) = true then s :: hereI (s + 1) vs cur x y else hereI (s + 1) vs cur x y
def hitP (cur x y : Int) : Pd → Bool
  | .tuple [.int _, .tuple [.int p, .int l, .int t, .int r, .int b]] => PyData.eqv (.int p) (.int cur) && V5.has ⟨p, l, t, r, b⟩ x y
  | _ => false
def numG (o : Int) : Pd → Pd
  | .tuple [.int k, _] => .int (k + o)
  | _ => .none
theorem here_list (o cur x y : Int) : ∀ (vs : List V5) (s : Int), ((enumD s (vs.map V5.pd)).filter (hitP cur x y)).map (numG o) = (hereI (s + o) vs cur x y).map .int
  | [], _ => rfl
  | v :: vs, s => by
    have ih := here_list o cur x y vs (s + 1)
    have e : hitP cur x y (.tuple [.int s, v.pd]) = (PyData.eqv (.int v.p) (.int cur) && v.has x y) := rfl
    have es : s + 1 + o = s + o + 1 := by omega
    rw [es] at ih
    show ((.tuple [.int s, v.pd] :: enumD (s + 1) (vs.map V5.pd)).filter (hitP cur x y)).map (numG o) = _
    unfold hereI
    rw [List.filter_cons, e]
    cases h : (PyData.eqv (.int v.p) (.int cur) && v.has x y) with
    | true =>
      rw [if_pos rfl, if_pos rfl, List.map_cons, List.map_cons, ih]
      rfl
    | false =>
      rw [if_neg Bool.false_ne_true, if_neg Bool.false_ne_true]
      exact ih
theorem here_len (cur x y : Int) : ∀ (vs : List V5) (s : Int), (hereI s vs cur x y).length ≤ vs.length
  | [], _ => Nat.le_refl _
  | v :: vs, s => by
    have ih := here_len cur x y vs (s + 1)
    unfold hereI
    split
    · rw [List.length_cons, List.length_cons]; omega
    · rw [List.length_cons]; omega
/-- a member stands behind its parent -/
theorem here_gt {cur x y : Int} : ∀ {vs : List V5} {s : Int}, (∀ (i : Nat) (v : V5), vs[i]? = some v → v.ok (s + (i : Int)) = true) → ∀ k ∈ hereI s vs cur x y, cur < k ∧ k < s + vs.length
  | [], _, _, _, h => nomatch h
  | v :: vs, s, ok, k, h => by
    have ih := @here_gt cur x y vs (s + 1) fun i w hw => by
      have := ok (i + 1) w (by simpa using hw)
      have e : s + 1 + (i : Int) = s + ((i + 1 : Nat) : Int) := by omega
      rw [e]
      exact this
    have lift : k ∈ hereI (s + 1) vs cur x y → cur < k ∧ k < s + ((v :: vs).length : Nat) := fun m => by
      obtain ⟨h1, h2⟩ := ih k m
      exact ⟨h1, by rw [List.length_cons]; omega⟩
    unfold hereI at h
    split at h
    · rename_i hc
      rcases List.mem_cons.mp h with h | h
      · subst h
        have o0 := ok 0 v rfl
        rw [Bool.and_eq_true] at hc
        have ep : v.p = cur := by
          have q := hc.1
          have q : decide (v.p = cur) = true ∨ (v.p == cur) = true := by first | exact .inl q | exact .inr q
          rcases q with q | q
          · exact of_decide_eq_true q
          · exact eq_of_beq q
        unfold V5.ok at o0
        simp only [Bool.and_eq_true, decide_eq_true_eq] at o0
        refine ⟨by have := o0.1.2; omega, by rw [List.length_cons]; omega⟩
      · exact lift h
    · exact lift h
end Lw
set_option Elab.async false
set_option linter.all false
set_option maxRecDepth 100000
set_option maxHeartbeats 4000000
namespace Lw
open PySem TL
def pathI : Nat → List V5 → Int → Int → Int → List Int
  | 0, _, cur, _, _ => [cur]
  | n + 1, vs, cur, x, y => match (hereI 1 vs cur x y).getLast? with
    | none => [cur]
    | some k => cur :: pathI n vs k x y
theorem flat_ints : ∀ is : List Int, flatEs 59 (is.map .int) = true
  | [] => rfl
  | i :: is => by
    show (flatE 59 (.int i) && flatEs 59 (is.map .int)) = true
    rw [flat_ints is]
    rfl
abbrev L0 (vs : List V5) (x y : Int) (f : List Int) (a : Option Ob) : Ev := [some (.dat (vsD vs)), some (.dat (ptD x y)), some (.ol (f.map .int)), a, none, none]
abbrev E1 (vs : List V5) (x y : Int) (f : List Int) (a : Option Ob) (i : Nat) (v : V5) : Ev := [some (.dat (vsD vs)), some (.dat (ptD x y)), some (.ol (f.map .int)), a, some (di (1 + (i : Int))), some (.dat v.pd)]
theorem lc_path (n : Nat) (vs : List V5) (x y cur : Int) (pre : List Int) (a : Option Ob) (hl : vs.length ≤ 12) :
    evalE (gOf gints) (pr (n + 1)) (.lc (.var 4) (.tp (.cons (.nm 4) (.cons (.nm 5) .nil))) (.enm (.var 0) 1) (.cons (.and_ (.cmp .eq (.idx (.var 5) (.cst (.int 0))) (.idx (.var 2) (.neg (.cst (.int 1))))) (.cal 7 (.cons (.var 5) (.cons (.var 1) .nil)))) .nil) [4, 5]) (L0 vs x y (pre ++ [cur]) a) = .ok (.fr (.ol ((hereI 1 vs cur x y).map .int))) (L0 vs x y (pre ++ [cur]) a) := by
  have e := ev_lc2 (G := gOf gints) (C := pr (n + 1)) (elt := .var 4) (tg := .tp (.cons (.nm 4) (.cons (.nm 5) .nil))) (it := .enm (.var 0) 1) (cs := .cons (.and_ (.cmp .eq (.idx (.var 5) (.cst (.int 0))) (.idx (.var 2) (.neg (.cst (.int 1))))) (.cal 7 (.cons (.var 5) (.cons (.var 1) .nil)))) .nil) (own := [4, 5])
    (ρ := L0 vs x y (pre ++ [cur]) a) (ρ1 := L0 vs x y (pre ++ [cur]) a) (xs := enumD 1 (vs.map V5.pd)) (hid := []) (hitP cur x y) (numG 0) (by kernel_rfl) rfl (by rw [enumD_len, List.length_map]; exact Nat.le_trans hl (by decide)) (fun d hd => by
      obtain ⟨i, hi⟩ := List.mem_iff_getElem?.mp hd
      obtain ⟨p, h1, rfl⟩ := enumD_at hi
      rw [List.getElem?_map] at h1
      obtain ⟨v, hv, rfl⟩ := Option.map_eq_some_iff.mp h1
      refine ⟨(E1 vs x y (pre ++ [cur]) a i v), (by kernel_rfl), (by kernel_rfl), ?_, fun _ => ⟨.d (.int (1 + (i : Int))), (by kernel_rfl), ?_⟩⟩
      · have c : evalE (gOf gints) (pr (n + 1)) (.cal 7 (.cons (.var 5) (.cons (.var 1) .nil))) (E1 vs x y (pre ++ [cur]) a i v) = .ok (.d (.bool (v.has x y))) (E1 vs x y (pre ++ [cur]) a i v) :=
          ev_cal (p := ([.dat v.pd, .dat (ptD x y)], [])) (by kernel_rfl) (r_has n v x y) rfl rfl
        have l : idxD (.list ((pre ++ [cur]).map .int)) (.int (-1)) = some (.int cur) := by
          rw [List.map_append]
          exact idx_last
        exact ec_one (ev_and (v := .d (.bool (PyData.eqv (.int v.p) (.int cur)))) (ev_cmp (ρ1 := E1 vs x y (pre ++ [cur]) a i v) (x := .int v.p) (y := .int cur) (v := .d (.int v.p)) (w := .d (.int cur)) (by kernel_rfl) (ev_idx (ρ := E1 vs x y (pre ++ [cur]) a i v) (ρ1 := E1 vs x y (pre ++ [cur]) a i v) (x := .list ((pre ++ [cur]).map .int)) (y := .int (-1)) (v := .pk (.ol ((pre ++ [cur]).map .int)) 2) (w := .d (.int (-1))) (by kernel_rfl) (by kernel_rfl) rfl rfl l) rfl rfl rfl) rfl fun _ => c) rfl
      · show Re.ok (PyData.int (1 + (i : Int))) _ = Re.ok (PyData.int (1 + (i : Int) + 0)) _
        rw [Int.add_zero])
  rw [e, here_list]
  rfl
end Lw
set_option Elab.async false
set_option linter.all false
set_option maxRecDepth 100000
set_option maxHeartbeats 4000000
namespace Lw
open PySem TL
theorem getLast_split {α : Type} {xs : List α} {k : α} (h : xs.getLast? = some k) : ∃ ys, xs = ys ++ [k] := by
  obtain ⟨ys, e⟩ := List.getLast?_eq_some_iff.mp h
  exact ⟨ys, e⟩
def bodyP : IS := (.seq (.set 3 (.lc (.var 4) (.tp (.cons (.nm 4) (.cons (.nm 5) .nil))) (.enm (.var 0) 1) (.cons (.and_ (.cmp .eq (.idx (.var 5) (.cst (.int 0))) (.idx (.var 2) (.neg (.cst (.int 1))))) (.cal 7 (.cons (.var 5) (.cons (.var 1) .nil)))) .nil) [4, 5])) (.seq (.if_ (.cmp .eq (.var 3) (.lst .nil)) (.seq (.ret (.var 2)) .nil) .nil) (.seq (.app 2 (.idx (.var 3) (.neg (.cst (.int 1))))) .nil)))
/-- the last turn -/
theorem turn_end (n : Nat) (vs : List V5) (x y cur : Int) (pre : List Int) (a : Option Ob) (hl : vs.length ≤ 12) (h : (hereI 1 vs cur x y).getLast? = none) :
    ∃ ρ, execS (gOf gints) (pr (n + 1)) bodyP (L0 vs x y (pre ++ [cur]) a) = .ok (.rt (.fr (.ol ((pre ++ [cur]).map .int)))) ρ ∧ outs ⟨2, 6, b_path_of⟩ ρ = [some (.dat (vsD vs)), some (.dat (ptD x y))] := by
  have e0 : hereI 1 vs cur x y = [] := List.getLast?_eq_none_iff.mp h
  have l := lc_path n vs x y cur pre a hl
  rw [e0] at l
  refine ⟨[some (.dat (vsD vs)), some (.dat (ptD x y)), none, some (.ol []), none, none], ?_, rfl⟩
  unfold bodyP
  rw [ex_seq (ex_set_fr l)]
  exact ex_stop (ρ1 := [some (.dat (vsD vs)), some (.dat (ptD x y)), none, some (.ol []), none, none]) (by kernel_rfl) fun z => nomatch z
theorem turn_on (n : Nat) (vs : List V5) (x y cur k : Int) (pre : List Int) (a : Option Ob) (hl : vs.length ≤ 12) (hp : (pre ++ [cur]).length < 1000) (h : (hereI 1 vs cur x y).getLast? = some k) :
    ∃ a', execS (gOf gints) (pr (n + 1)) bodyP (L0 vs x y (pre ++ [cur]) a) = .ok .nx (L0 vs x y ((pre ++ [cur]) ++ [k]) a') := by
  obtain ⟨ys, e0⟩ := getLast_split h
  have l := lc_path n vs x y cur pre a hl
  rw [e0] at l
  have fl := flat_ints (ys ++ [k])
  generalize pre ++ [cur] = f at *
  refine ⟨some (.ol ((ys ++ [k]).map .int)), ?_⟩
  unfold bodyP
  rw [ex_seq (ex_set_fr l)]
  show execS _ _ _ (L0 vs x y f (some (.ol ((ys ++ [k]).map .int)))) = _
  have c : cop2 .eq (.list ((ys ++ [k]).map .int)) (.list []) = some false := by
    rw [eq_nil]
    cases ys <;> rfl
  rw [ex_seq (ρ1 := L0 vs x y f (some (.ol ((ys ++ [k]).map .int))))]
  · have li : idxD (.list ((ys ++ [k]).map .int)) (.int (-1)) = some (.int k) := by
      rw [List.map_append]
      exact idx_last
    have q := ex_app (G := gOf gints) (C := pr (n + 1)) (i := 2) (a := .idx (.var 3) (.neg (.cst (.int 1)))) (ρ := L0 vs x y f (some (.ol ((ys ++ [k]).map .int)))) (ρ1 := L0 vs x y f (some (.ol ((ys ++ [k]).map .int)))) (ρ2 := L0 vs x y f (some (.ol ((ys ++ [k]).map .int)))) (v := .d (.int k)) (x := .int k) (d0 := f.map .int) (ds := f.map .int) rfl
      (ev_idx (ρ1 := L0 vs x y f (some (.ol ((ys ++ [k]).map .int)))) (x := .list ((ys ++ [k]).map .int)) (y := .int (-1)) (v := .pk (.ol ((ys ++ [k]).map .int)) 3) (w := .d (.int (-1))) (by kernel_rfl) (by kernel_rfl) rfl rfl li) rfl rfl (by rw [List.length_map]; exact Nat.lt_trans hp (by decide))
    rw [ex_seq q]
    have em : f.map PyData.int ++ [PyData.int k] = (f ++ [k]).map PyData.int := by rw [List.map_append]; rfl
    rw [em]
    show execS (gOf gints) (pr (n + 1)) .nil (L0 vs x y (f ++ [k]) (some (.ol ((ys ++ [k]).map .int)))) = _
    exact ex_nil
  · rw [ex_if (k := false) (ev_cmp (ρ1 := L0 vs x y f (some (.ol ((ys ++ [k]).map .int)))) (ρ2 := L0 vs x y f (some (.ol ((ys ++ [k]).map .int)))) (v := .pk (.ol ((ys ++ [k]).map .int)) 3) (w := .fr (.ol [])) (x := .list ((ys ++ [k]).map .int)) (y := .list []) (by kernel_rfl) (by kernel_rfl) rfl rfl c) rfl]
    show execS (gOf gints) (pr (n + 1)) .nil _ = _
    exact ex_nil
end Lw
set_option Elab.async false
set_option linter.all false
set_option maxRecDepth 100000
set_option maxHeartbeats 4000000
namespace Lw
open PySem TL
theorem next_gt {vs : List V5} {cur k x y : Int} (ok : VOk vs) (h : (hereI 1 vs cur x y).getLast? = some k) : cur < k ∧ k < 1 + vs.length :=
  here_gt (s := 1) (fun i v hv => by rw [Int.add_comm]; exact ok i v hv) k (List.mem_of_getLast? h)
theorem whl_path (n : Nat) (vs : List V5) (x y : Int) (ok : VOk vs) (hl : vs.length ≤ 12) : ∀ (k m : Nat) (cur : Int) (pre : List Int) (a : Option Ob), ((vs.length : Int) - cur).toNat ≤ k → k < m → pre.length + k < 900 →
    ∃ ρ, whlGo (fun ρ => (evalE (gOf gints) (pr (n + 1)) (.cst (.bool true)) ρ).bind boolOf) (execS (gOf gints) (pr (n + 1)) bodyP) m (L0 vs x y (pre ++ [cur]) a) = .ok (.rt (.fr (.ol ((pre ++ pathI k vs cur x y).map .int)))) ρ ∧ outs ⟨2, 6, b_path_of⟩ ρ = [some (.dat (vsD vs)), some (.dat (ptD x y))] := by
  intro k
  induction k with
  | zero =>
    intro m cur pre a hk hm hp
    obtain ⟨m, rfl⟩ : ∃ m', m = m' + 1 := ⟨m - 1, by omega⟩
    have e : (hereI 1 vs cur x y).getLast? = none := by
      cases q : (hereI 1 vs cur x y).getLast? with
      | none => rfl
      | some j =>
        have := next_gt ok q
        omega
    obtain ⟨ρ, h1, h2⟩ := turn_end n vs x y cur pre a hl e
    refine ⟨ρ, ?_, h2⟩
    unfold whlGo
    show (match execS (gOf gints) (pr (n + 1)) bodyP (L0 vs x y (pre ++ [cur]) a) with
      | .ok .nx ρ' => _
      | .ok .ct ρ' => _
      | .ok .bk ρ' => _
      | r => r) = _
    rw [h1]
    rfl
  | succ k ih =>
    intro m cur pre a hk hm hp
    obtain ⟨m, rfl⟩ : ∃ m', m = m' + 1 := ⟨m - 1, by omega⟩
    cases q : (hereI 1 vs cur x y).getLast? with
    | none =>
      obtain ⟨ρ, h1, h2⟩ := turn_end n vs x y cur pre a hl q
      refine ⟨ρ, ?_, h2⟩
      have ep : pathI (k + 1) vs cur x y = [cur] := by unfold pathI; rw [q]
      rw [ep]
      unfold whlGo
      show (match execS (gOf gints) (pr (n + 1)) bodyP (L0 vs x y (pre ++ [cur]) a) with
        | .ok .nx ρ' => _
        | .ok .ct ρ' => _
        | .ok .bk ρ' => _
        | r => r) = _
      rw [h1]
    | some j =>
      obtain ⟨g1, g2⟩ := next_gt ok q
      obtain ⟨a', h1⟩ := turn_on n vs x y cur j pre a hl (by rw [List.length_append, List.length_singleton]; omega) q
      obtain ⟨ρ, h2, h3⟩ := ih m j (pre ++ [cur]) a' (by omega) (by omega) (by rw [List.length_append, List.length_singleton]; omega)
      refine ⟨ρ, ?_, h3⟩
      have ep : pathI (k + 1) vs cur x y = cur :: pathI k vs j x y := by
        conv => lhs; unfold pathI
        rw [q]
      rw [ep]
      unfold whlGo
      show (match execS (gOf gints) (pr (n + 1)) bodyP (L0 vs x y (pre ++ [cur]) a) with
        | .ok .nx ρ' => _
        | .ok .ct ρ' => _
        | .ok .bk ρ' => _
        | r => r) = _
      rw [h1]
      show whlGo _ _ m _ = _
      rw [h2, List.append_assoc]
      rfl
end Lw
set_option Elab.async false
set_option linter.all false
set_option maxRecDepth 100000
set_option maxHeartbeats 4000000
namespace Lw
open PySem TL
theorem r_pathof (n : Nat) (vs : List V5) (x y : Int) (ok : VOk vs) (hl : vs.length ≤ 12) : pr (n + 2) 8 [.dat (vsD vs), .dat (ptD x y)] = .ok (.fr (.ol ((pathI 12 vs 0 x y).map .int))) [some (.dat (vsD vs)), some (.dat (ptD x y))] := by
  rw [pr_at (f := ⟨2, 6, b_path_of⟩) rfl rfl]
  obtain ⟨ρ, h1, h2⟩ := whl_path n vs x y ok hl 12 fuel 0 [] none (by omega) (by decide) (by decide)
  rw [← h2]
  refine runB_ret (f := ⟨2, 6, b_path_of⟩) (as := [.dat (vsD vs), .dat (ptD x y)]) (ρ := ρ) ?_
  show execS (gOf gints) (pr (n + 1)) b_path_of [some (.dat (vsD vs)), some (.dat (ptD x y)), none, none, none, none] = _
  unfold b_path_of
  rw [ex_seq (ρ1 := L0 vs x y ([] ++ [0]) none) (by kernel_rfl)]
  refine ex_stop ?_ fun z => nomatch z
  rw [execS]
  exact h1
theorem r_path (n : Nat) (vs : List V5) (x y : Int) (ok : VOk vs) (hl : vs.length ≤ 12) : pr (n + 5) 9 [.dat (vsD vs), .dat (ptD x y)] = .ok (.fr (.ol ((pathI 12 vs 0 x y).map .int))) [some (.dat (vsD vs)), some (.dat (ptD x y))] := by
  rw [pr_at (f := ⟨2, 2, b_path⟩) rfl rfl]
  refine runB_ret (f := ⟨2, 2, b_path⟩) (as := [.dat (vsD vs), .dat (ptD x y)]) (ρ := [some (.dat (vsD vs)), some (.dat (ptD x y))]) ?_
  unfold b_path
  have rp : pr (n + 4) 6 [.dat (ptD x y)] = .ok (.d .none) [some (.dat (ptD x y))] := by kernel_rfl
  rw [ex_seq (ρ1 := [some (.dat (vsD vs)), some (.dat (ptD x y))]) (ex_exp (ev_cal (p := ([.dat (vsD vs)], [])) (by kernel_rfl) (r_req n vs ok hl) rfl rfl))]
  rw [ex_seq (ρ1 := [some (.dat (vsD vs)), some (.dat (ptD x y))]) (ex_exp (ev_cal (p := ([.dat (ptD x y)], [])) (by kernel_rfl) rp rfl rfl))]
  exact ex_stop (ex_ret_fr (ev_cal (p := ([.dat (vsD vs), .dat (ptD x y)], [])) (by kernel_rfl) (r_pathof (n + 2) vs x y ok hl) rfl rfl)) fun z => nomatch z
end Lw
set_option Elab.async false
set_option linter.all false
set_option maxRecDepth 100000
set_option maxHeartbeats 4000000
namespace Lw
open PySem TL
theorem path_last : ∀ (k : Nat) (vs : List V5) (cur x y : Int), ∃ ys z, pathI k vs cur x y = ys ++ [z]
  | 0, _, cur, _, _ => ⟨[], cur, rfl⟩
  | k + 1, vs, cur, x, y => by
    unfold pathI
    split
    · exact ⟨[], cur, rfl⟩
    · rename_i j _
      obtain ⟨ys, z, e⟩ := path_last k vs j x y
      exact ⟨cur :: ys, z, by rw [e]; rfl⟩
theorem r_deep (n : Nat) (vs : List V5) (x y : Int) (ok : VOk vs) (hl : vs.length ≤ 12) : ∃ z, (pathI 12 vs 0 x y).getLast? = some z ∧ pr (n + 5) 10 [.dat (vsD vs), .dat (ptD x y)] = .ok (.d (.int z)) [some (.dat (vsD vs)), some (.dat (ptD x y))] := by
  obtain ⟨ys, z, e⟩ := path_last 12 vs 0 x y
  refine ⟨z, by rw [e]; simp, ?_⟩
  rw [pr_at (f := ⟨2, 2, b_deepest⟩) rfl rfl]
  refine runB_ret (f := ⟨2, 2, b_deepest⟩) (as := [.dat (vsD vs), .dat (ptD x y)]) (ρ := [some (.dat (vsD vs)), some (.dat (ptD x y))]) ?_
  unfold b_deepest
  have rp : pr (n + 4) 6 [.dat (ptD x y)] = .ok (.d .none) [some (.dat (ptD x y))] := by kernel_rfl
  rw [ex_seq (ρ1 := [some (.dat (vsD vs)), some (.dat (ptD x y))]) (ex_exp (ev_cal (p := ([.dat (vsD vs)], [])) (by kernel_rfl) (r_req n vs ok hl) rfl rfl))]
  rw [ex_seq (ρ1 := [some (.dat (vsD vs)), some (.dat (ptD x y))]) (ex_exp (ev_cal (p := ([.dat (ptD x y)], [])) (by kernel_rfl) rp rfl rfl))]
  have q := r_pathof (n + 2) vs x y ok hl
  rw [e] at q
  have li : idxD (.list ((ys ++ [z]).map .int)) (.int (-1)) = some (.int z) := by
    rw [List.map_append]
    exact idx_last
  exact ex_stop (ex_ret_d (ev_idx (ρ1 := [some (.dat (vsD vs)), some (.dat (ptD x y))]) (x := .list ((ys ++ [z]).map .int)) (y := .int (-1)) (v := .fr (.ol ((ys ++ [z]).map .int))) (w := .d (.int (-1))) (ev_cal (p := ([.dat (vsD vs), .dat (ptD x y)], [])) (by kernel_rfl) q rfl rfl) (by kernel_rfl) rfl rfl li)) fun z => nomatch z
end Lw
set_option Elab.async false
set_option linter.all false
set_option maxRecDepth 100000
set_option maxHeartbeats 4000000
namespace Lw
open PySem TL
theorem hereI_cons (s : Int) (v : V5) (vs : List V5) (cur x y : Int) : hereI s (v :: vs) cur x y = if (PyData.eqv (.int v.p) (.int cur) && v.has x y) = true then s :: hereI (s + 1) vs cur x y else hereI (s + 1) vs cur x y := rfl
theorem mem_here {cur x y k : Int} : ∀ {vs : List V5} {s : Int}, k ∈ hereI s vs cur x y ↔ ∃ (i : Nat) (v : V5), vs[i]? = some v ∧ k = s + (i : Int) ∧ v.p = cur ∧ v.has x y = true
  | [], s => by
    refine ⟨fun h => (nomatch h), fun ⟨i, v, h, _⟩ => ?_⟩
    simp at h
  | v :: vs, s => by
    have ih := @mem_here cur x y k vs (s + 1)
    rw [hereI_cons]
    have e : (PyData.eqv (.int v.p) (.int cur) && v.has x y) = true ↔ v.p = cur ∧ v.has x y = true := by
      rw [Bool.and_eq_true]
      show (v.p == cur) = true ∧ _ ↔ _
      rw [beq_iff_eq]
    have tail : (∃ (i : Nat) (w : V5), vs[i]? = some w ∧ k = s + 1 + (i : Int) ∧ w.p = cur ∧ w.has x y = true) ↔ ∃ (i : Nat) (w : V5), 0 < i ∧ (v :: vs)[i]? = some w ∧ k = s + (i : Int) ∧ w.p = cur ∧ w.has x y = true := by
      constructor
      · rintro ⟨i, w, h1, h2, h3⟩
        exact ⟨i + 1, w, by omega, by simpa using h1, by omega, h3⟩
      · rintro ⟨i, w, h0, h1, h2, h3⟩
        obtain ⟨j, rfl⟩ : ∃ j, i = j + 1 := ⟨i - 1, by omega⟩
        exact ⟨j, w, by simpa using h1, by omega, h3⟩
    by_cases c : v.p = cur ∧ v.has x y = true
    · rw [if_pos (e.mpr c), List.mem_cons, ih, tail]
      constructor
      · rintro (rfl | ⟨i, w, _, h⟩)
        · exact ⟨0, v, rfl, by omega, c⟩
        · exact ⟨i, w, h⟩
      · rintro ⟨i, w, h1, h2, h3⟩
        by_cases i0 : i = 0
        · subst i0
          exact .inl (by omega)
        · exact .inr ⟨i, w, by omega, h1, h2, h3⟩
    · rw [if_neg fun z => c (e.mp z), ih, tail]
      constructor
      · rintro ⟨i, w, _, h⟩
        exact ⟨i, w, h⟩
      · rintro ⟨i, w, h1, h2, h3⟩
        by_cases i0 : i = 0
        · subst i0
          simp only [List.getElem?_cons_zero, Option.some.injEq] at h1
          subst h1
          exact (c h3).elim
        · exact ⟨i, w, by omega, h1, h2, h3⟩
theorem here_lt {cur x y : Int} : ∀ {vs : List V5} {s : Int}, (hereI s vs cur x y).Pairwise (· < ·) ∧ ∀ k ∈ hereI s vs cur x y, s ≤ k
  | [], s => ⟨List.Pairwise.nil, fun k h => (nomatch h)⟩
  | v :: vs, s => by
    obtain ⟨h1, h2⟩ := @here_lt cur x y vs (s + 1)
    rw [hereI_cons]
    split
    · refine ⟨List.pairwise_cons.mpr ⟨fun k hk => by have := h2 k hk; omega, h1⟩, fun k hk => ?_⟩
      rcases List.mem_cons.mp hk with rfl | hk
      · exact Int.le_refl _
      · have := h2 k hk; omega
    · exact ⟨h1, fun k hk => by have := h2 k hk; omega⟩
theorem last_max {xs : List Int} {j : Int} (h : xs.Pairwise (· < ·)) (e : xs.getLast? = some j) : ∀ k ∈ xs, k ≤ j := by
  obtain ⟨ys, rfl⟩ := getLast_split e
  intro k hk
  rcases List.mem_append.mp hk with m | m
  · exact Int.le_of_lt ((List.pairwise_append.mp h).2.2 k m j (List.mem_singleton.mpr rfl))
  · rw [List.mem_singleton.mp m]
    exact Int.le_refl _
theorem path_some {k : Nat} {vs : List V5} {cur x y j : Int} (q : (hereI 1 vs cur x y).getLast? = some j) : pathI (k + 1) vs cur x y = cur :: pathI k vs j x y := by
  conv => lhs; unfold pathI
  rw [q]
theorem path_none {k : Nat} {vs : List V5} {cur x y : Int} (q : (hereI 1 vs cur x y).getLast? = none) : pathI (k + 1) vs cur x y = [cur] := by
  unfold pathI
  rw [q]
theorem path_head : ∀ (k : Nat) (vs : List V5) (cur x y : Int), ∃ t, pathI k vs cur x y = cur :: t
  | 0, _, cur, _, _ => ⟨[], rfl⟩
  | k + 1, vs, cur, x, y => by
    cases q : (hereI 1 vs cur x y).getLast? with
    | none => exact ⟨[], path_none q⟩
    | some j => exact ⟨_, path_some q⟩
theorem path_up : ∀ (k : Nat) (vs : List V5) (cur x y : Int), VOk vs → (pathI k vs cur x y).Pairwise (· < ·) ∧ ∀ e ∈ pathI k vs cur x y, cur ≤ e ∧ (e = cur ∨ e < 1 + vs.length)
  | 0, _, cur, _, _, _ => ⟨List.pairwise_singleton _ _, fun e h => by rw [List.mem_singleton.mp h]; exact ⟨Int.le_refl _, .inl rfl⟩⟩
  | k + 1, vs, cur, x, y, ok => by
    cases q : (hereI 1 vs cur x y).getLast? with
    | none =>
      rw [path_none q]
      exact ⟨List.pairwise_singleton _ _, fun e h => by rw [List.mem_singleton.mp h]; exact ⟨Int.le_refl _, .inl rfl⟩⟩
    | some j =>
      obtain ⟨g1, g2⟩ := next_gt ok q
      obtain ⟨h1, h2⟩ := path_up k vs j x y ok
      rw [path_some q]
      refine ⟨List.pairwise_cons.mpr ⟨fun e he => by have := (h2 e he).1; omega, h1⟩, fun e he => ?_⟩
      rcases List.mem_cons.mp he with rfl | he
      · exact ⟨Int.le_refl _, .inl rfl⟩
      · obtain ⟨a1, a2⟩ := h2 e he
        exact ⟨by omega, .inr (by omega)⟩
/-- each next one is a child that has the place -/
theorem path_step : ∀ (k : Nat) (vs : List V5) (cur x y : Int) (i : Nat) (a b : Int), (pathI k vs cur x y)[i]? = some a → (pathI k vs cur x y)[i + 1]? = some b → (hereI 1 vs a x y).getLast? = some b
  | 0, _, cur, _, _, i, a, b, _, h2 => by
    unfold pathI at h2
    simp at h2
  | k + 1, vs, cur, x, y, i, a, b, h1, h2 => by
    cases q : (hereI 1 vs cur x y).getLast? with
    | none =>
      rw [path_none q] at h2
      simp at h2
    | some j =>
      rw [path_some q] at h1 h2
      cases i with
      | zero =>
        obtain ⟨t, e⟩ := path_head k vs j x y
        rw [e] at h2
        simp only [List.getElem?_cons_zero, Option.some.injEq, List.getElem?_cons_succ] at h1 h2
        rw [← h1, ← h2]
        exact q
      | succ i =>
        simp only [List.getElem?_cons_succ] at h1 h2
        exact path_step k vs j x y i a b h1 h2
/-- what lies below one of the path's has a way on -/
theorem path_on : ∀ (k : Nat) (vs : List V5) (cur x y : Int), VOk vs → ((vs.length : Int) - cur).toNat ≤ k → ∀ a ∈ pathI k vs cur x y, ∀ j, (hereI 1 vs a x y).getLast? = some j → j ∈ pathI k vs cur x y
  | 0, vs, cur, x, y, ok, hk, a, ha, j, q => by
    have e : a = cur := List.mem_singleton.mp ha
    subst e
    have := next_gt ok q
    omega
  | k + 1, vs, cur, x, y, ok, hk, a, ha, j, q => by
    cases q2 : (hereI 1 vs cur x y).getLast? with
    | none =>
      rw [path_none q2] at ha ⊢
      have e : a = cur := List.mem_singleton.mp ha
      rw [e, q2] at q
      cases q
    | some i =>
      obtain ⟨g1, g2⟩ := next_gt ok q2
      rw [path_some q2] at ha ⊢
      rcases List.mem_cons.mp ha with e | ha
      · rw [e, q2] at q
        cases q
        obtain ⟨t, e⟩ := path_head k vs j x y
        rw [e]
        exact List.mem_cons_of_mem _ List.mem_cons_self
      · exact List.mem_cons_of_mem _ (path_on k vs i x y ok (by omega) a ha j q)
/-- the later child -/
theorem later {vs : List V5} {x y : Int} {at_ : Nat} {v : V5} {P : List Int} (ok : VOk vs) (hl : vs.length ≤ 12) (hP : P = pathI 12 vs 0 x y) (hv : vs[at_]? = some v) (h1 : v.p ∈ P) (h2 : ((at_ : Int) + 1) ∉ P) (h3 : v.has x y = true) :
    ∃ n ∈ P, (at_ : Int) + 1 < n ∧ ∃ w, vs[(n - 1).toNat]? = some w ∧ w.p = v.p ∧ 1 ≤ n := by
  subst hP
  have m : ((at_ : Int) + 1) ∈ hereI 1 vs v.p x y := mem_here.mpr ⟨at_, v, hv, by omega, rfl, h3⟩
  cases q : (hereI 1 vs v.p x y).getLast? with
  | none =>
    rw [List.getLast?_eq_none_iff.mp q] at m
    cases m
  | some j =>
    have le := last_max here_lt.1 q _ m
    have mj := path_on 12 vs 0 x y ok (by omega) v.p h1 j q
    obtain ⟨i, w, h4, h5, h6, _⟩ := mem_here.mp (List.mem_of_getLast? q)
    refine ⟨j, mj, ?_, w, ?_, h6, by omega⟩
    · have : (at_ : Int) + 1 ≠ j := fun e => h2 (e ▸ mj)
      omega
    · have e : (j - 1).toNat = i := by omega
      rw [e]
      exact h4
theorem path_lenI : ∀ (k : Nat) (vs : List V5) (cur x y : Int), (pathI k vs cur x y).length ≤ k + 1
  | 0, _, _, _, _ => Nat.le_refl _
  | k + 1, vs, cur, x, y => by
    cases q : (hereI 1 vs cur x y).getLast? with
    | none => rw [path_none q]; show 1 ≤ _; omega
    | some j =>
      have := path_lenI k vs j x y
      rw [path_some q, List.length_cons]
      omega
theorem here_same {x y x' y' cur : Int} : ∀ {vs ws : List V5} {s : Int}, vs.length = ws.length → (∀ (i : Nat) (v w : V5), vs[i]? = some v → ws[i]? = some w → v.p = w.p ∧ v.has x y = w.has x' y') → hereI s vs cur x y = hereI s ws cur x' y'
  | [], [], _, _, _ => rfl
  | v :: vs, w :: ws, s, hl, h => by
    obtain ⟨e1, e2⟩ := h 0 v w rfl rfl
    have ih := @here_same x y x' y' cur vs ws (s + 1) (by simpa using hl) fun i a b ha hb => h (i + 1) a b (by simpa using ha) (by simpa using hb)
    rw [hereI_cons, hereI_cons, e1, e2, ih]
  | [], _ :: _, _, hl, _ => nomatch hl
  | _ :: _, [], _, hl, _ => nomatch hl
theorem path_same {x y x' y' : Int} {vs ws : List V5} (hl : vs.length = ws.length) (h : ∀ (i : Nat) (v w : V5), vs[i]? = some v → ws[i]? = some w → v.p = w.p ∧ v.has x y = w.has x' y') : ∀ (k : Nat) (cur : Int), pathI k vs cur x y = pathI k ws cur x' y'
  | 0, _ => rfl
  | k + 1, cur => by
    have e := @here_same x y x' y' cur vs ws 1 hl h
    unfold pathI
    rw [e]
    split
    · rfl
    · rw [path_same hl h k]
theorem here_snoc {cur x y : Int} {w : V5} : ∀ {us : List V5} {s : Int}, hereI s (us ++ [w]) cur x y = hereI s us cur x y ++ if (PyData.eqv (.int w.p) (.int cur) && w.has x y) = true then [s + (us.length : Int)] else []
  | [], s => by
    show (if _ then s :: [] else []) = [] ++ _
    have e : s + (([] : List V5).length : Int) = s := by simp
    rw [e, List.nil_append]
  | u :: us, s => by
    have ih := @here_snoc cur x y w us (s + 1)
    have e : s + 1 + (us.length : Int) = s + ((u :: us).length : Int) := by rw [List.length_cons]; omega
    rw [List.cons_append, hereI_cons, hereI_cons, ih, e]
    split <;> rfl
theorem hit_iff {w : V5} {cur x y : Int} : (PyData.eqv (.int w.p) (.int cur) && w.has x y) = true ↔ w.p = cur ∧ w.has x y = true := by
  rw [Bool.and_eq_true]
  show (w.p == cur) = true ∧ _ ↔ _
  rw [beq_iff_eq]
theorem path_top {us : List V5} {w : V5} {x y : Int} (ok : VOk (us ++ [w])) : ∀ k, pathI k (us ++ [w]) ((us.length : Int) + 1) x y = [(us.length : Int) + 1]
  | 0 => rfl
  | k + 1 => by
    refine path_none ?_
    cases q : (hereI 1 (us ++ [w]) ((us.length : Int) + 1) x y).getLast? with
    | none => rfl
    | some j =>
      have := next_gt ok q
      rw [List.length_append, List.length_singleton] at this
      omega
theorem path_snoc {us : List V5} {w : V5} {x y : Int} (ok : VOk (us ++ [w])) (oku : VOk us) : ∀ (k : Nat) (cur : Int), cur ≤ us.length → (pathI k (us ++ [w]) cur x y = pathI k us cur x y ∧ ((us.length : Int) + 1) ∉ pathI k (us ++ [w]) cur x y) ∨ (∃ pre, pathI k (us ++ [w]) cur x y = pre ++ [(us.length : Int) + 1] ∧ (pathI k us cur x y).take pre.length = pre)
  | 0, cur, h => .inl ⟨rfl, fun m => by have := List.mem_singleton.mp m; omega⟩
  | k + 1, cur, h => by
    by_cases c : w.p = cur ∧ w.has x y = true
    · have q : (hereI 1 (us ++ [w]) cur x y).getLast? = some ((us.length : Int) + 1) := by
        rw [here_snoc, if_pos (hit_iff.mpr c), List.getLast?_append]
        have e : (1 : Int) + (us.length : Int) = (us.length : Int) + 1 := by omega
        rw [e]
        rfl
      refine .inr ⟨[cur], by rw [path_some q, path_top ok k]; rfl, ?_⟩
      obtain ⟨t, e⟩ := path_head (k + 1) us cur x y
      rw [e]
      rfl
    · have e : hereI 1 (us ++ [w]) cur x y = hereI 1 us cur x y := by
        rw [here_snoc, if_neg fun z => c (hit_iff.mp z), List.append_nil]
      cases q : (hereI 1 us cur x y).getLast? with
      | none =>
        rw [path_none q, path_none (by rw [e]; exact q)]
        exact .inl ⟨rfl, fun m => by have := List.mem_singleton.mp m; omega⟩
      | some j =>
        obtain ⟨g1, g2⟩ := next_gt oku q
        rw [path_some q, path_some (k := k) (by rw [e]; exact q)]
        rcases path_snoc ok oku k j (by omega) with ⟨h1, h2⟩ | ⟨pre, h1, h2⟩
        · rw [h1] at h2 ⊢
          exact .inl ⟨rfl, fun m => (List.mem_cons.mp m).elim (fun z => by omega) h2⟩
        · exact .inr ⟨cur :: pre, by rw [h1]; rfl, by rw [List.length_cons, List.take_succ_cons, h2]⟩
theorem path_cut {us : List V5} {w : V5} {x y : Int} (ok : VOk (us ++ [w])) (h : w.p = 0 ∧ w.has x y = true) (k : Nat) : pathI (k + 1) (us ++ [w]) 0 x y = [0, (us.length : Int) + 1] := by
  have q : (hereI 1 (us ++ [w]) 0 x y).getLast? = some ((us.length : Int) + 1) := by
    rw [here_snoc, if_pos (hit_iff.mpr h), List.getLast?_append]
    have e : (1 : Int) + (us.length : Int) = (us.length : Int) + 1 := by omega
    rw [e]
    rfl
  rw [path_some q, path_top ok k]
theorem path_aside {us : List V5} {w : V5} {x y : Int} (h : w.has x y = false) : ∀ (k : Nat) (cur : Int), pathI k (us ++ [w]) cur x y = pathI k us cur x y
  | 0, _ => rfl
  | k + 1, cur => by
    have e : hereI 1 (us ++ [w]) cur x y = hereI 1 us cur x y := by
      rw [here_snoc, if_neg (fun z => by
        rw [(hit_iff.mp z).2] at h
        cases h), List.append_nil]
    unfold pathI
    rw [e]
    split
    · rfl
    · rw [path_aside h k]
end Lw
set_option Elab.async false
set_option linter.all false
set_option maxRecDepth 100000
set_option maxHeartbeats 4000000
namespace Lw
open PySem TL
abbrev foD (a b c : Int) : Ob := .ol [.int a, .int b, .int c]
theorem r_dip (n : Nat) (a b c m : Int) (hm : 0 < m) (hm2 : m ≤ 10 ^ 60) (hb : 0 ≤ b ∧ b ≤ 10 ^ 42) (hc : 0 ≤ c ∧ c ≤ 10 ^ 9) :
    ∃ d a' c', pr (n + 1) 12 [foD a b c, di m] = .ok (.d (.int d)) [some (foD a' b c'), some (di m)] ∧ 0 ≤ d ∧ d < m ∧ (0 ≤ c' ∧ c ≤ c' ∧ c' ≤ c + 1) := by
  rw [pr_at (f := ⟨2, 4, b__law_dip⟩) rfl rfl]
  exact dip_ok (gOf gints) (pr n) a b c m hm (Nat.lt_of_le_of_lt (log2_le (n := 200) (by omega)) (by decide)) hb hc
theorem dipC (n i : Nat) (ρ : Ev) (e : IE) (a b c m : Int) (h0 : ρ[i]? = some (some (foD a b c))) (he : evalE (gOf gints) (pr (n + 1)) e ρ = .ok (.d (.int m)) ρ) (hm : 0 < m) (hm2 : m ≤ 10 ^ 60) (hb : 0 ≤ b ∧ b ≤ 10 ^ 42) (hc : 0 ≤ c ∧ c ≤ 10 ^ 9) :
    ∃ d a' c', evalE (gOf gints) (pr (n + 1)) (.cal 12 (.io i (.cons e .nil))) ρ = .ok (.d (.int d)) (ρ.set i (some (foD a' b c'))) ∧ 0 ≤ d ∧ d < m ∧ (0 ≤ c' ∧ c ≤ c' ∧ c' ≤ c + 1) := by
  obtain ⟨d, a', c', e1, h⟩ := r_dip n a b c m hm hm2 hb hc
  exact ⟨d, a', c', ev_cal (ea_io h0 (ea_d he ea_nil) h0 rfl) e1 rfl rfl, h⟩
section
variable {G : List Pd} {C : Calls} {ρ ρ1 ρ2 ρ3 : Ev} {a b c e : IE} {v w u : Vl} {x y z : Pd}
theorem ev_and1 (h1 : evalE G C a ρ = .ok v ρ1) (k1 : v.view = some (.bool true)) : evalE G C (.and_ a b) ρ = evalE G C b ρ1 := by
  rw [evalE]; rw [h1]
  show (match v.view with | some (.bool true) => _ | some (.bool false) => _ | _ => _) = _
  rw [k1]
theorem ev_and0 (h1 : evalE G C a ρ = .ok v ρ1) (k1 : v.view = some (.bool false)) : evalE G C (.and_ a b) ρ = .ok (.d (.bool false)) ρ1 := by
  rw [evalE]; rw [h1]
  show (match v.view with | some (.bool true) => _ | some (.bool false) => _ | _ => _) = _
  rw [k1]
end
def V5.in_ (v : V5) (B : Int) : Prop := (-B ≤ v.l ∧ v.l ≤ B) ∧ (-B ≤ v.t ∧ v.t ≤ B) ∧ (-B ≤ v.r ∧ v.r ≤ B) ∧ (-B ≤ v.b ∧ v.b ≤ B)
def vifB : IS := (.if_ (.and_ (.cmp .gt (.var 5) (.cst (.int 0))) (.cmp .gt (.cal 12 (.io 0 (.cons (.cst (.int 5)) .nil))) (.cst (.int 0)))) (.seq (.tgt (.tp (.cons (.nm 9) (.cons (.nm 10) (.cons (.nm 11) (.cons (.nm 12) .nil))))) (.slc (.idx (.var 3) (.bin .sub (.var 5) (.cst (.int 1)))) (.cst (.int 1)) (.cst .none))) .nil) .nil)
abbrev VE (o : Ob) (m F : Int) (vs : List V5) (x4 x5 x6 x7 x8 x9 x10 x11 x12 x13 x14 : Option Ob) : Ev := [some o, some (di m), some (di F), some (.ol (vs.map V5.pd)), x4, x5, x6, x7, x8, x9, x10, x11, x12, x13, x14]
def Rg (lo hi F l t r b : Int) : Prop := (lo ≤ l ∧ r ≤ hi ∧ l < r ∧ r - l ≤ 2 * F) ∧ (lo ≤ t ∧ b ≤ hi ∧ t < b ∧ b - t ≤ 2 * F)
theorem vif_ok (n : Nat) (a b c m F p lo hi : Int) (vs : List V5) (x4 x6 x7 x8 x13 x14 : Option Ob) (hb : 0 ≤ b ∧ b ≤ 10 ^ 42) (hc : 0 ≤ c ∧ c ≤ 10 ^ 9) (hF : 0 < F) (hB : lo ≤ 0 - F ∧ F ≤ hi) (hv : ∀ (i : Nat) (v : V5), vs[i]? = some v → Rg lo hi F v.l v.t v.r v.b) (hp : 0 ≤ p ∧ p ≤ vs.length) :
    ∃ a' c' l t r bt, execS (gOf gints) (pr (n + 1)) vifB (VE (foD a b c) m F vs x4 (some (di p)) x6 x7 x8 (some (di (0 - F))) (some (di (0 - F))) (some (di F)) (some (di F)) x13 x14) =
      .ok .nx (VE (foD a' b c') m F vs x4 (some (di p)) x6 x7 x8 (some (di l)) (some (di t)) (some (di r)) (some (di bt)) x13 x14) ∧ Rg lo hi F l t r bt ∧ (0 ≤ c' ∧ c ≤ c' ∧ c' ≤ c + 1) := by
  unfold vifB
  have c1 : evalE (gOf gints) (pr (n + 1)) (.cmp .gt (.var 5) (.cst (.int 0))) (VE (foD a b c) m F vs x4 (some (di p)) x6 x7 x8 (some (di (0 - F))) (some (di (0 - F))) (some (di F)) (some (di F)) x13 x14) = .ok (.d (.bool (decide (0 < p)))) (VE (foD a b c) m F vs x4 (some (di p)) x6 x7 x8 (some (di (0 - F))) (some (di (0 - F))) (some (di F)) (some (di F)) x13 x14) := by kernel_rfl
  by_cases h : 0 < p
  · obtain ⟨d, a', c', e1, d0, d5, hc'⟩ := dipC n 0 (VE (foD a b c) m F vs x4 (some (di p)) x6 x7 x8 (some (di (0 - F))) (some (di (0 - F))) (some (di F)) (some (di F)) x13 x14) (.cst (.int 5)) a b c 5 rfl ev_cst (by decide) (by decide) hb hc
    rw [decide_eq_true h] at c1
    have e2 : evalE (gOf gints) (pr (n + 1)) (.cmp .gt (.cal 12 (.io 0 (.cons (.cst (.int 5)) .nil))) (.cst (.int 0))) (VE (foD a b c) m F vs x4 (some (di p)) x6 x7 x8 (some (di (0 - F))) (some (di (0 - F))) (some (di F)) (some (di F)) x13 x14) = .ok (.d (.bool (decide (0 < d)))) (VE (foD a' b c') m F vs x4 (some (di p)) x6 x7 x8 (some (di (0 - F))) (some (di (0 - F))) (some (di F)) (some (di F)) x13 x14) :=
      ev_cmp (x := .int d) (y := .int 0) e1 ev_cst rfl rfl rfl
    rw [← ev_and1 c1 rfl] at e2
    by_cases hd : 0 < d
    · rw [decide_eq_true hd] at e2
      obtain ⟨q, rfl⟩ : ∃ q : Nat, p = (q : Int) + 1 := ⟨(p - 1).toNat, by omega⟩
      have lt : q < vs.length := by omega
      have hw := List.getElem?_eq_getElem lt
      generalize vs[q] = w at hw
      have w1 := hv q w hw
      refine ⟨a', c', w.l, w.t, w.r, w.b, ?_, w1, hc'⟩
      rw [ex_if e2 rfl]
      have e3 : evalE (gOf gints) (pr (n + 1)) (.idx (.var 3) (.bin .sub (.var 5) (.cst (.int 1)))) (VE (foD a' b c') m F vs x4 (some (di ((q : Int) + 1))) x6 x7 x8 (some (di (0 - F))) (some (di (0 - F))) (some (di F)) (some (di F)) x13 x14) = .ok (.d w.pd) (VE (foD a' b c') m F vs x4 (some (di ((q : Int) + 1))) x6 x7 x8 (some (di (0 - F))) (some (di (0 - F))) (some (di F)) (some (di F)) x13 x14) :=
        ev_idx (x := .list (vs.map V5.pd)) (y := .int ((q : Int) + 1 - 1)) (v := .pk (.ol (vs.map V5.pd)) 3) (w := .d (.int ((q : Int) + 1 - 1))) (ev_ol rfl) (by kernel_rfl) rfl rfl (by
          rw [Int.add_sub_cancel]
          exact idx_ok (by rw [List.getElem?_map, hw]; rfl))
      have e4 : evalE (gOf gints) (pr (n + 1)) (.slc (.idx (.var 3) (.bin .sub (.var 5) (.cst (.int 1)))) (.cst (.int 1)) (.cst .none)) (VE (foD a' b c') m F vs x4 (some (di ((q : Int) + 1))) x6 x7 x8 (some (di (0 - F))) (some (di (0 - F))) (some (di F)) (some (di F)) x13 x14) = .ok (.d (.tuple [.int w.l, .int w.t, .int w.r, .int w.b])) (VE (foD a' b c') m F vs x4 (some (di ((q : Int) + 1))) x6 x7 x8 (some (di (0 - F))) (some (di (0 - F))) (some (di F)) (some (di F)) x13 x14) := by
        rw [evalE, e3]
        kernel_rfl
      show execS (gOf gints) (pr (n + 1)) (.seq _ .nil) _ = _
      rw [ex_seq (ex_tgt e4 (by rfl) (by rfl))]
      exact ex_nil
    · rw [decide_eq_false hd] at e2
      refine ⟨a', c', 0 - F, 0 - F, F, F, ?_, ⟨⟨hB.1, hB.2, by omega, by omega⟩, ⟨hB.1, hB.2, by omega, by omega⟩⟩, hc'⟩
      rw [ex_if e2 rfl]
      show execS (gOf gints) (pr (n + 1)) .nil _ = _
      exact ex_nil
  · rw [decide_eq_false h] at c1
    refine ⟨a, c, 0 - F, 0 - F, F, F, ?_, ⟨⟨hB.1, hB.2, by omega, by omega⟩, ⟨hB.1, hB.2, by omega, by omega⟩⟩, by omega⟩
    rw [ex_if (ev_and0 c1 rfl) rfl]
    show execS (gOf gints) (pr (n + 1)) .nil _ = _
    exact ex_nil
end Lw
set_option Elab.async false
set_option linter.all false
set_option maxRecDepth 100000
set_option maxHeartbeats 4000000
namespace Lw
open PySem TL
def sidB : IE := (.lst (.cons (.tup (.cons (.bin .sub (.var 11) (.var 9)) (.cons (.bin .sub (.var 12) (.var 10)) .nil))) (.cons (.tup (.cons (.var 2) (.cons (.var 2) .nil))) (.cons (.tup (.cons (.cst (.int 2)) (.cons (.cst (.int 3)) .nil))) (.cons (.tup (.cons (.var 2) (.cons (.cst (.int 3)) .nil))) (.cons (.tup (.cons (.cst (.int 3)) (.cons (.var 2) .nil))) .nil))))))
def tupB : IE := (.tup (.cons (.var 5) (.cons (.var 6) (.cons (.var 7) (.cons (.bin .add (.bin .add (.var 6) (.cst (.int 1))) (.cal 12 (.io 0 (.cons (.var 13) .nil)))) (.cons (.bin .add (.bin .add (.var 7) (.cst (.int 1))) (.cal 12 (.io 0 (.cons (.var 14) .nil)))) .nil))))))
def vbody : IS := (.seq (.set 5 (.cal 12 (.io 0 (.cons (.bin .add (.var 4) (.cst (.int 1))) .nil)))) (.seq (.par 9 10 (.bin .sub (.cst (.int 0)) (.var 2)) (.bin .sub (.cst (.int 0)) (.var 2))) (.seq (.par 11 12 (.var 2) (.var 2)) (.seq vifB (.seq (.set 6 (.bin .sub (.bin .add (.var 9) (.cal 12 (.io 0 (.cons (.bin .add (.bin .sub (.var 11) (.var 9)) (.cst (.int 2))) .nil)))) (.cst (.int 1)))) (.seq (.set 7 (.bin .sub (.bin .add (.var 10) (.cal 12 (.io 0 (.cons (.bin .add (.bin .sub (.var 12) (.var 10)) (.cst (.int 2))) .nil)))) (.cst (.int 1)))) (.seq (.set 8 sidB) (.seq (.tgt (.tp (.cons (.nm 13) (.cons (.nm 14) .nil))) (.idx (.var 8) (.cal 12 (.io 0 (.cons (.cst (.int 5)) .nil))))) (.seq (.app 3 tupB) .nil)))))))))
def sids (F w h : Int) : List Pd := [ptD w h, ptD F F, ptD 2 3, ptD F 3, ptD 3 F]
theorem sid_at (F w h d B : Int) (h0 : 0 ≤ d ∧ d < 5) (hF : 0 < F ∧ F ≤ B) (hB : 3 ≤ B) (hw : 0 < w ∧ w ≤ B) (hh : 0 < h ∧ h ≤ B) : ∃ p q, idxD (.list (sids F w h)) (.int d) = some (ptD p q) ∧ (0 < p ∧ p ≤ B) ∧ (0 < q ∧ q ≤ B) := by
  have : d = 0 ∨ d = 1 ∨ d = 2 ∨ d = 3 ∨ d = 4 := by omega
  rcases this with rfl | rfl | rfl | rfl | rfl
  · exact ⟨w, h, rfl, hw, hh⟩
  · exact ⟨F, F, rfl, hF, hF⟩
  · exact ⟨2, 3, rfl, by omega, by omega⟩
  · exact ⟨F, 3, rfl, hF, by omega⟩
  · exact ⟨3, F, rfl, by omega, hF⟩
theorem vbody_ok (n : Nat) (a b c m F k lo hi : Int) (vs : List V5) (x5 x6 x7 x8 x9 x10 x11 x12 x13 x14 : Option Ob) (hb : 0 ≤ b ∧ b ≤ 10 ^ 42) (hc : 0 ≤ c ∧ c ≤ 10 ^ 8) (hF : 4 < F ∧ F ≤ 10 ^ 8) (hB : lo ≤ 0 - F ∧ F ≤ hi) (hv : ∀ (i : Nat) (v : V5), vs[i]? = some v → Rg lo hi F v.l v.t v.r v.b) (hk : k = vs.length) (hl : vs.length < 100) :
    ∃ a' c' v y5 y6 y7 y8 y9 y10 y11 y12 y13 y14, execS (gOf gints) (pr (n + 1)) vbody (VE (foD a b c) m F vs (some (di k)) x5 x6 x7 x8 x9 x10 x11 x12 x13 x14) =
      .ok .nx (VE (foD a' b c') m F (vs ++ [v]) (some (di k)) y5 y6 y7 y8 y9 y10 y11 y12 y13 y14) ∧ v.ok (k + 1) = true ∧ Rg (lo - 1) (hi + 2 * F) F v.l v.t v.r v.b ∧ (0 ≤ c' ∧ c ≤ c' ∧ c' ≤ c + 10) := by
  unfold vbody
  obtain ⟨p, a1, c1, e1, p0, p1, hc1⟩ := dipC n 0 (VE (foD a b c) m F vs (some (di k)) x5 x6 x7 x8 x9 x10 x11 x12 x13 x14) (.bin .add (.var 4) (.cst (.int 1))) a b c (k + 1) rfl (by kernel_rfl) (by omega) (by omega) hb (by omega)
  obtain ⟨a2, c2, l, t, r, bt, e2, i2, hc2⟩ := vif_ok n a1 b c1 m F p lo hi vs (some (di k)) x6 x7 x8 x13 x14 hb (by omega) (by omega) hB hv (by omega)
  obtain ⟨⟨l0, r1, lr, lw⟩, ⟨t0, b1, tb, tw⟩⟩ := i2
  obtain ⟨d3, a3, c3, e3, d30, d31, hc3⟩ := dipC n 0 (VE (foD a2 b c2) m F vs (some (di k)) (some (di p)) x6 x7 x8 (some (di l)) (some (di t)) (some (di r)) (some (di bt)) x13 x14) (.bin .add (.bin .sub (.var 11) (.var 9)) (.cst (.int 2))) a2 b c2 (r - l + 2) rfl (by kernel_rfl) (by omega) (by omega) hb (by omega)
  obtain ⟨d4, a4, c4, e4, d40, d41, hc4⟩ := dipC n 0 (VE (foD a3 b c3) m F vs (some (di k)) (some (di p)) (some (di (l + d3 - 1))) x7 x8 (some (di l)) (some (di t)) (some (di r)) (some (di bt)) x13 x14) (.bin .add (.bin .sub (.var 12) (.var 10)) (.cst (.int 2))) a3 b c3 (bt - t + 2) rfl (by kernel_rfl) (by omega) (by omega) hb (by omega)
  obtain ⟨d5, a5, c5, e5, d50, d51, hc5⟩ := dipC n 0 (VE (foD a4 b c4) m F vs (some (di k)) (some (di p)) (some (di (l + d3 - 1))) (some (di (t + d4 - 1))) (some (.ol (sids F (r - l) (bt - t)))) (some (di l)) (some (di t)) (some (di r)) (some (di bt)) x13 x14) (.cst (.int 5)) a4 b c4 5 rfl (by kernel_rfl) (by omega) (by omega) hb (by omega)
  obtain ⟨w, h, e6, hw, hh⟩ := sid_at F (r - l) (bt - t) d5 (2 * F) ⟨d50, d51⟩ (by omega) (by omega) (by omega) (by omega)
  obtain ⟨d7, a7, c7, e7, d70, d71, hc7⟩ := dipC n 0 (VE (foD a5 b c5) m F vs (some (di k)) (some (di p)) (some (di (l + d3 - 1))) (some (di (t + d4 - 1))) (some (.ol (sids F (r - l) (bt - t)))) (some (di l)) (some (di t)) (some (di r)) (some (di bt)) (some (di w)) (some (di h))) (.var 13) a5 b c5 w rfl (by kernel_rfl) (by omega) (by omega) hb (by omega)
  obtain ⟨d8, a8, c8, e8, d80, d81, hc8⟩ := dipC n 0 (VE (foD a7 b c7) m F vs (some (di k)) (some (di p)) (some (di (l + d3 - 1))) (some (di (t + d4 - 1))) (some (.ol (sids F (r - l) (bt - t)))) (some (di l)) (some (di t)) (some (di r)) (some (di bt)) (some (di w)) (some (di h))) (.var 14) a7 b c7 h rfl (by kernel_rfl) (by omega) (by omega) hb (by omega)
  refine ⟨a8, c8, ⟨p, l + d3 - 1, t + d4 - 1, l + d3 - 1 + 1 + d7, t + d4 - 1 + 1 + d8⟩, some (di p), some (di (l + d3 - 1)), some (di (t + d4 - 1)), some (.ol (sids F (r - l) (bt - t))), some (di l), some (di t), some (di r), some (di bt), some (di w), some (di h), ?_, ?_, ?_, ?_⟩
  · rw [ex_seq (ρ1 := VE (foD a1 b c1) m F vs (some (di k)) (some (di p)) x6 x7 x8 x9 x10 x11 x12 x13 x14) (ex_set_d e1)]
    rw [ex_seq (ρ1 := VE (foD a1 b c1) m F vs (some (di k)) (some (di p)) x6 x7 x8 (some (di (0 - F))) (some (di (0 - F))) x11 x12 x13 x14) (by kernel_rfl)]
    rw [ex_seq (ρ1 := VE (foD a1 b c1) m F vs (some (di k)) (some (di p)) x6 x7 x8 (some (di (0 - F))) (some (di (0 - F))) (some (di F)) (some (di F)) x13 x14) (by kernel_rfl)]
    rw [ex_seq e2]
    rw [ex_seq (ρ1 := VE (foD a3 b c3) m F vs (some (di k)) (some (di p)) (some (di (l + d3 - 1))) x7 x8 (some (di l)) (some (di t)) (some (di r)) (some (di bt)) x13 x14) (ex_set_d (x := .int (l + d3 - 1)) (ev_bin (o := .sub) (x := .int (l + d3)) (y := .int 1) (ev_bin (o := .add) (x := .int l) (y := .int d3) (u := .d (.int (l + d3))) (ev_dat rfl) e3 rfl rfl rfl) ev_cst rfl rfl rfl))]
    rw [ex_seq (ρ1 := VE (foD a4 b c4) m F vs (some (di k)) (some (di p)) (some (di (l + d3 - 1))) (some (di (t + d4 - 1))) x8 (some (di l)) (some (di t)) (some (di r)) (some (di bt)) x13 x14) (ex_set_d (x := .int (t + d4 - 1)) (ev_bin (o := .sub) (x := .int (t + d4)) (y := .int 1) (ev_bin (o := .add) (x := .int t) (y := .int d4) (u := .d (.int (t + d4))) (ev_dat rfl) e4 rfl rfl rfl) ev_cst rfl rfl rfl))]
    rw [ex_seq (ρ1 := VE (foD a4 b c4) m F vs (some (di k)) (some (di p)) (some (di (l + d3 - 1))) (some (di (t + d4 - 1))) (some (.ol (sids F (r - l) (bt - t)))) (some (di l)) (some (di t)) (some (di r)) (some (di bt)) x13 x14) (by kernel_rfl)]
    rw [ex_seq (ex_tgt (ρ3 := VE (foD a5 b c5) m F vs (some (di k)) (some (di p)) (some (di (l + d3 - 1))) (some (di (t + d4 - 1))) (some (.ol (sids F (r - l) (bt - t)))) (some (di l)) (some (di t)) (some (di r)) (some (di bt)) (some (di w)) (some (di h))) (ev_idx (v := .pk (.ol (sids F (r - l) (bt - t))) 8) (ev_ol rfl) e5 rfl rfl e6) rfl rfl)]
    have e9 : evalE (gOf gints) (pr (n + 1)) tupB (VE (foD a5 b c5) m F vs (some (di k)) (some (di p)) (some (di (l + d3 - 1))) (some (di (t + d4 - 1))) (some (.ol (sids F (r - l) (bt - t)))) (some (di l)) (some (di t)) (some (di r)) (some (di bt)) (some (di w)) (some (di h))) = .ok (.d (V5.pd ⟨p, l + d3 - 1, t + d4 - 1, l + d3 - 1 + 1 + d7, t + d4 - 1 + 1 + d8⟩)) (VE (foD a8 b c8) m F vs (some (di k)) (some (di p)) (some (di (l + d3 - 1))) (some (di (t + d4 - 1))) (some (.ol (sids F (r - l) (bt - t)))) (some (di l)) (some (di t)) (some (di r)) (some (di bt)) (some (di w)) (some (di h))) :=
      ev_tup (ed_cons (ev_dat rfl) rfl (ed_cons (ev_dat rfl) rfl (ed_cons (ev_dat rfl) rfl (ed_cons (ev_bin (o := .add) (x := .int (l + d3 - 1 + 1)) (y := .int d7) (u := .d (.int (l + d3 - 1 + 1 + d7))) (ev_bin (o := .add) (x := .int (l + d3 - 1)) (y := .int 1) (u := .d (.int (l + d3 - 1 + 1))) (ev_dat rfl) ev_cst rfl rfl rfl) e7 rfl rfl rfl) rfl (ed_cons (ev_bin (o := .add) (x := .int (t + d4 - 1 + 1)) (y := .int d8) (u := .d (.int (t + d4 - 1 + 1 + d8))) (ev_bin (o := .add) (x := .int (t + d4 - 1)) (y := .int 1) (u := .d (.int (t + d4 - 1 + 1))) (ev_dat rfl) ev_cst rfl rfl rfl) e8 rfl rfl rfl) rfl ed_nil)))))
    rw [ex_seq (ex_app (d0 := vs.map V5.pd) (ds := vs.map V5.pd) rfl e9 rfl rfl (by rw [List.length_map]; exact Nat.lt_trans hl (by decide)))]
    have em : ∀ v : V5, vs.map V5.pd ++ [v.pd] = (vs ++ [v]).map V5.pd := fun v => by rw [List.map_append]; rfl
    rw [em]
    exact ex_nil
  · unfold V5.ok
    simp only [Bool.and_eq_true, decide_eq_true_eq]
    omega
  · unfold Rg
    dsimp only
    omega
  · omega
end Lw
set_option Elab.async false
set_option linter.all false
set_option maxRecDepth 100000
set_option maxHeartbeats 4000000
namespace Lw
open PySem TL
theorem rng_at {lo hi : Int} {i : Nat} {x : Pd} (h : (rngD lo hi)[i]? = some x) : x = .int (lo + (i : Int)) ∧ i < (hi - lo).toNat := by
  unfold rngD at h
  rw [List.getElem?_map] at h
  obtain ⟨k, hk, rfl⟩ := Option.map_eq_some_iff.mp h
  obtain ⟨h1, h2⟩ := List.getElem?_eq_some_iff.mp hk
  rw [List.length_range] at h1
  rw [List.getElem_range] at h2
  subst h2
  exact ⟨rfl, h1⟩
theorem rng_len {lo hi : Int} : (rngD lo hi).length = (hi - lo).toNat := by
  unfold rngD
  rw [List.length_map, List.length_range]
theorem ei_rng1 {G : List Pd} {C : Calls} {ρ ρ1 : Ev} {a : IE} {v : Vl} {i : Int} (h : evalE G C a ρ = .ok v ρ1) (k : v.view = some (.int i)) (s : smallI i = true) : evalI G C (.rng1 a) ρ = .ok (rngD 0 i, []) ρ1 := by
  unfold evalI; rw [h]; show (match v.view with | some (.int i) => if smallI i then _ else _ | _ => _) = _; rw [k]; simp only [s, if_true]
def VR (vs : List V5) (lo hi F : Int) : Prop := ∀ (i : Nat) (v : V5), vs[i]? = some v → Rg lo hi F v.l v.t v.r v.b
theorem r_views (n : Nat) (a b c F : Int) (m : Nat) (hb : 0 ≤ b ∧ b ≤ 10 ^ 42) (hc : 0 ≤ c ∧ c ≤ 10 ^ 7) (hF : 4 < F ∧ F ≤ 10 ^ 8) (hm : m ≤ 12) :
    ∃ a' c' vs, pr (n + 2) 13 [foD a b c, di (m : Int), di F] = .ok (.fr (.ol (vs.map V5.pd))) [some (foD a' b c'), some (di (m : Int)), some (di F)] ∧ VOk vs ∧ vs.length = m ∧ VR vs (0 - F - 12) (25 * F) F ∧ (0 ≤ c' ∧ c ≤ c' ∧ c' ≤ c + 200) := by
  rw [pr_at (f := ⟨3, 15, b__law_views⟩) rfl rfl]
  obtain ⟨ρ2, e2, a', c', vs, x4, x5, x6, x7, x8, x9, x10, x11, x12, x13, x14, rfl, vok, vl, vin, hc'⟩ := forGo_inv (f := forF (gOf gints) (pr (n + 1)) (.nm 4) vbody) (xs := rngD 0 (m : Int)) (ρ := VE (foD a b c) m F [] none none none none none none none none none none none)
    (fun i ρ => ∃ a' c' vs x4 x5 x6 x7 x8 x9 x10 x11 x12 x13 x14, ρ = VE (foD a' b c') m F vs x4 x5 x6 x7 x8 x9 x10 x11 x12 x13 x14 ∧ VOk vs ∧ vs.length = i ∧ VR vs (0 - F - (i : Int)) (F + 2 * (F * (i : Int))) F ∧ (0 ≤ c' ∧ c ≤ c' ∧ c' ≤ c + 10 * (i : Int)))
    ⟨a, c, [], none, none, none, none, none, none, none, none, none, none, none, rfl, (fun i v h => by simp at h), rfl, (fun i v h => by simp at h), by omega⟩ (by
    rintro i x _ hx ⟨a1, c1, vs, x4, x5, x6, x7, x8, x9, x10, x11, x12, x13, x14, rfl, vok, vl, vin, hc'⟩
    obtain ⟨rfl, hi⟩ := rng_at hx
    have fi : 0 ≤ F * (i : Int) := Int.mul_nonneg (by omega) (by omega)
    have fs : F * ((i + 1 : Nat) : Int) = F * (i : Int) + F := by
      have : ((i + 1 : Nat) : Int) = (i : Int) + 1 := rfl
      rw [this, Int.mul_add, Int.mul_one]
    obtain ⟨a2, c2, v, y5, y6, y7, y8, y9, y10, y11, y12, y13, y14, e, ok, vi, hc2⟩ := vbody_ok n a1 b c1 m F (0 + (i : Int)) (0 - F - (i : Int)) (F + 2 * (F * (i : Int))) vs x5 x6 x7 x8 x9 x10 x11 x12 x13 x14 hb (by omega) hF (by omega) vin (by rw [vl]; omega) (by omega)
    refine ⟨_, .inl (forF_ok (ρ1 := VE (foD a1 b c1) m F vs (some (di (0 + (i : Int)))) x5 x6 x7 x8 x9 x10 x11 x12 x13 x14) rfl e), a2, c2, vs ++ [v], _, _, _, _, _, _, _, _, _, _, _, rfl, ?_, ?_, ?_, by omega⟩
    · intro j w hw
      by_cases hj : j < vs.length
      · rw [List.getElem?_append_left hj] at hw
        exact vok j w hw
      · rw [List.getElem?_append_right (by omega)] at hw
        have : j - vs.length = 0 := by
          cases q : j - vs.length with
          | zero => rfl
          | succ q' => rw [q] at hw; simp at hw
        rw [this] at hw
        simp only [List.getElem?_cons_zero, Option.some.injEq] at hw
        subst hw
        have ej : (j : Int) = 0 + (i : Int) := by omega
        rw [ej]
        exact ok
    · rw [List.length_append, vl]; rfl
    · intro j w hw
      rw [fs]
      by_cases hj : j < vs.length
      · rw [List.getElem?_append_left hj] at hw
        obtain ⟨⟨k1, k2, k3, k4⟩, k5, k6, k7, k8⟩ := vin j w hw
        exact ⟨⟨by omega, by omega, k3, k4⟩, by omega, by omega, k7, k8⟩
      · rw [List.getElem?_append_right (by omega)] at hw
        have : j - vs.length = 0 := by
          cases q : j - vs.length with
          | zero => rfl
          | succ q' => rw [q] at hw; simp at hw
        rw [this] at hw
        simp only [List.getElem?_cons_zero, Option.some.injEq] at hw
        subst hw
        obtain ⟨⟨k1, k2, k3, k4⟩, k5, k6, k7, k8⟩ := vi
        exact ⟨⟨by omega, by omega, k3, k4⟩, by omega, by omega, k7, k8⟩)
  rw [rng_len] at vl vin hc'
  have em : ((m : Int) - 0).toNat = m := by omega
  rw [em] at vl vin hc'
  refine ⟨a', c', vs, ?_, vok, vl, ?_, by omega⟩
  · refine runB_ret (f := ⟨3, 15, b__law_views⟩) (as := [foD a b c, di (m : Int), di F]) (ρ := [some (foD a' b c'), some (di m), some (di F), none, x4, x5, x6, x7, x8, x9, x10, x11, x12, x13, x14]) ?_
    show execS (gOf gints) (pr (n + 1)) (.seq (.set 3 (.lst .nil)) (.seq (.for_ (.nm 4) (.rng1 (.var 1)) vbody) (.seq (.ret (.var 3)) .nil))) [some (foD a b c), some (di m), some (di F), none, none, none, none, none, none, none, none, none, none, none, none] = _
    rw [ex_seq (ρ1 := VE (foD a b c) m F [] none none none none none none none none none none none) (by kernel_rfl)]
    have sm : smallI (m : Int) = true := by
      unfold smallI
      simp only [Bool.and_eq_true, decide_eq_true_eq]
      omega
    have ei : evalI (gOf gints) (pr (n + 1)) (.rng1 (.var 1)) (VE (foD a b c) m F [] none none none none none none none none none none none) = .ok (rngD 0 (m : Int), []) (VE (foD a b c) m F [] none none none none none none none none none none none) := ei_rng1 (ev_dat rfl) rfl sm
    rw [ex_seq (ex_for ei e2)]
    exact ex_stop (ex_ret_pk (ev_ol rfl)) fun z => nomatch z
  · have b1 : F * (m : Int) ≤ F * 12 := Int.mul_le_mul_of_nonneg_left (by omega) (by omega)
    generalize F * (m : Int) = P at *
    intro j w hw
    obtain ⟨⟨k1, k2, k3, k4⟩, k5, k6, k7, k8⟩ := vin j w hw
    exact ⟨⟨by omega, by omega, k3, k4⟩, by omega, by omega, k7, k8⟩
section
variable {G : List Pd} {C : Calls} {ρ ρ1 ρ2 ρ3 : Ev} {a b c e : IE} {v w u : Vl} {x y z : Pd}
theorem ex_sti {i : Nat} {d0 ds : List Pd} {k : Int} {j : Nat} (h1 : evalE G C e ρ = .ok v ρ1) (h2 : take v ρ1 = .ok x ρ2) (h3 : ρ2[i]? = some (some (.ol d0))) (h4 : evalE G C a ρ2 = .ok w ρ3) (h5 : w.view = some (.int k)) (h6 : ρ3[i]? = some (some (.ol ds))) (h7 : ixD ds.length k = some j) : execS G C (.sti i a e) ρ = .ok .nx (ρ3.set i (some (.ol (ds.set j x)))) := by
  unfold execS; rw [h1]; show (take v ρ1).bind _ = _; rw [h2]
  show (match ρ2[i]? with | some (some (.ol _)) => _ | _ => _) = _
  rw [h3]; show (evalE G C a ρ2).bind _ = _; rw [h4]
  show (match w.view, ρ3[i]? with | some (.int k), some (some (.ol ds)) => _ | _, _ => _) = _
  rw [h5, h6]
  show (match ixD ds.length k with | some j => _ | none => _) = _
  rw [h7]
end
theorem r_fount (n : Nat) (ns : List Int) (k : Nat) (hk : k < 64) : ∃ a b : Int, pr (n + 1) 11 [.dat (.list (ns.map .int)), di (k : Int)] = .ok (.fr (.ol [.int a, .int b, .int 0])) [some (.dat (.list (ns.map .int))), some (di (k : Int))] ∧ 0 ≤ b ∧ b ≤ 10 ^ 42 := by
  rw [pr_at (f := ⟨2, 3, b__law_fount⟩) rfl rfl]
  exact fount_ok (gOf gints) (pr n) ns k hk
theorem viewsC (n q : Nat) (ρ ρ1 : Ev) (e1 e2 : IE) (a b c a1 c1 F : Int) (m : Nat) (h0 : ρ[q]? = some (some (foD a b c))) (h1 : evalE (gOf gints) (pr (n + 2)) e1 ρ = .ok (.d (.int (m : Int))) ρ1) (h2 : ρ1[q]? = some (some (foD a1 b c1))) (h3 : evalE (gOf gints) (pr (n + 2)) e2 ρ1 = .ok (.d (.int F)) ρ1) (hb : 0 ≤ b ∧ b ≤ 10 ^ 42) (hc : 0 ≤ c1 ∧ c1 ≤ 10 ^ 7) (hF : 4 < F ∧ F ≤ 10 ^ 8) (hm : m ≤ 12) :
    ∃ a' c' vs, evalE (gOf gints) (pr (n + 2)) (.cal 13 (.io q (.cons e1 (.cons e2 .nil)))) ρ = .ok (.fr (.ol (vs.map V5.pd))) (ρ1.set q (some (foD a' b c'))) ∧ VOk vs ∧ vs.length = m ∧ VR vs (0 - F - 12) (25 * F) F ∧ (0 ≤ c' ∧ c1 ≤ c' ∧ c' ≤ c1 + 200) := by
  obtain ⟨a', c', vs, e, h⟩ := r_views n a1 b c1 F m hb hc hF hm
  exact ⟨a', c', vs, ev_cal (ea_io h0 (ea_d h1 (ea_d h3 ea_nil)) h2 rfl) e rfl rfl, h⟩
theorem idx_any {ys : List Int} {j : Int} (h1 : -(ys.length : Int) ≤ j) (h2 : j < ys.length) : ∃ y ∈ ys, idxD (.list (ys.map .int)) (.int j) = some (.int y) := by
  have go : ∀ k : Nat, k < ys.length → L2.ixN (ys.map PyData.int).length j = some k → ∃ y ∈ ys, idxD (.list (ys.map .int)) (.int j) = some (.int y) := by
    intro k hk e
    refine ⟨ys[k], List.getElem_mem hk, ?_⟩
    show (L2.ixN (ys.map PyData.int).length j).bind (fun k => (ys.map PyData.int)[k]?) = _
    rw [e]
    show (ys.map PyData.int)[k]? = _
    rw [List.getElem?_map, List.getElem?_eq_getElem hk]
    rfl
  by_cases h0 : 0 ≤ j
  · refine go j.toNat (by omega) ?_
    unfold L2.ixN
    rw [List.length_map, if_pos h0, if_pos h2]
  · refine go (j + ys.length).toNat (by omega) ?_
    unfold L2.ixN
    rw [List.length_map, if_neg h0, if_pos h1]
def ptP (p : Int × Int) : Pd := ptD p.1 p.2
theorem map_ex {α : Type} (Q : α → Prop) (k : α → Pd) (g : Pd → Pd) : ∀ L : List Pd, (∀ d ∈ L, ∃ p, g d = k p ∧ Q p) → ∃ ps : List α, L.map g = ps.map k ∧ ps.length = L.length ∧ ∀ p ∈ ps, Q p
  | [], _ => ⟨[], rfl, rfl, fun _ h => nomatch h⟩
  | d :: L, h => by
    obtain ⟨p, e, q⟩ := h d List.mem_cons_self
    obtain ⟨ps, e2, l, q2⟩ := map_ex Q k g L fun d hd => h d (List.mem_cons_of_mem _ hd)
    refine ⟨p :: ps, by rw [List.map_cons, List.map_cons, e, e2], by rw [List.length_cons, List.length_cons, l], fun x hx => ?_⟩
    rcases List.mem_cons.mp hx with rfl | hx
    · exact q
    · exact q2 x hx
def In (B x : Int) : Prop := -B ≤ x ∧ x ≤ B
def PIn (B : Int) (p : Int × Int) : Prop := In B p.1 ∧ In B p.2
abbrev PE (vs : List V5) (x1 x2 x3 x4 x5 x6 x7 x8 x9 : Option Ob) : Ev := [some (.dat (vsD vs)), x1, x2, x3, x4, x5, x6, x7, x8, x9]
abbrev olI (xs : List Int) : Option Ob := some (.ol (xs.map .int))
def gP (ys : List Int) (s : Bool) : Pd → Pd
  | .tuple [.int i, .int x] => .tuple [.int x, (idxD (.list (ys.map .int)) (.int (if s then 0 - i else i))).getD .none]
  | _ => .none
theorem lc_pl (n : Nat) (vs : List V5) (xs ys : List Int) (x3 x4 x5 x6 x7 : Option Ob) (s : Bool) (e : IE) (he : e = if s then (.bin .sub (.cst (.int 0)) (.var 8)) else (.var 8)) (B : Int) (hl : xs.length = ys.length) (h2 : xs.length ≤ 1000) (hx : ∀ x ∈ xs, In B x) (hy : ∀ x ∈ ys, In B x) :
    ∃ ps : List (Int × Int), evalE (gOf gints) (pr n) (.lc (.tup (.cons (.var 9) (.cons (.idx (.var 2) e) .nil))) (.tp (.cons (.nm 8) (.cons (.nm 9) .nil))) (.enm (.var 1) 0) .nil [8, 9]) (PE vs (olI xs) (olI ys) x3 x4 x5 x6 x7 none none) = .ok (.fr (.ol (ps.map ptP))) (PE vs (olI xs) (olI ys) x3 x4 x5 x6 x7 none none) ∧ ps.length = xs.length ∧ ∀ p ∈ ps, PIn B p := by
  have key : ∀ d ∈ enumD 0 (xs.map PyData.int), ∃ (i : Nat) (x y : Int), i < xs.length ∧ d = .tuple [.int (0 + (i : Int)), .int x] ∧ x ∈ xs ∧ y ∈ ys ∧ idxD (.list (ys.map .int)) (.int (if s then 0 - (0 + (i : Int)) else (0 + (i : Int)))) = some (.int y) := by
    intro d hd
    obtain ⟨i, hi⟩ := List.mem_iff_getElem?.mp hd
    obtain ⟨p, h1, rfl⟩ := enumD_at hi
    rw [List.getElem?_map] at h1
    obtain ⟨v, hv, rfl⟩ := Option.map_eq_some_iff.mp h1
    have lt := (List.getElem?_eq_some_iff.mp hv).1
    obtain ⟨y, my, ey⟩ := idx_any (ys := ys) (j := if s then 0 - (0 + (i : Int)) else (0 + (i : Int))) (by cases s <;> simp <;> omega) (by cases s <;> simp <;> omega)
    exact ⟨i, v, y, lt, rfl, List.mem_of_getElem? hv, my, ey⟩
  have E := ev_lc2 (G := gOf gints) (C := pr n) (elt := (.tup (.cons (.var 9) (.cons (.idx (.var 2) e) .nil)))) (tg := (.tp (.cons (.nm 8) (.cons (.nm 9) .nil)))) (it := (.enm (.var 1) 0)) (cs := .nil) (own := [8, 9])
    (ρ := PE vs (olI xs) (olI ys) x3 x4 x5 x6 x7 none none) (ρ1 := PE vs none (olI ys) x3 x4 x5 x6 x7 none none) (xs := enumD 0 (xs.map PyData.int)) (hid := [(1, .ol (xs.map .int))]) (fun _ => true) (gP ys s) (by kernel_rfl) rfl (by rw [enumD_len, List.length_map]; exact Nat.le_trans h2 (by decide)) (fun d hd => by
      obtain ⟨i, x, y, lt, rfl, mx, my, ey⟩ := key d hd
      refine ⟨PE vs none (olI ys) x3 x4 x5 x6 x7 (some (di (0 + (i : Int)))) (some (di x)), by kernel_rfl, by kernel_rfl, ec_nil, fun _ => ⟨.d (gP ys s (.tuple [.int (0 + (i : Int)), .int x])), ?_, rfl⟩⟩
      have eg : gP ys s (.tuple [.int (0 + (i : Int)), .int x]) = .tuple [.int x, .int y] := by
        show PyData.tuple [.int x, (idxD (.list (ys.map .int)) (.int (if s then 0 - (0 + (i : Int)) else (0 + (i : Int))))).getD .none] = _
        rw [ey]
        rfl
      rw [eg]
      refine ev_tup (ed_cons (ev_dat rfl) rfl (ed_cons (ev_idx (v := .pk (.ol (ys.map .int)) 2) (w := .d (.int (if s then 0 - (0 + (i : Int)) else (0 + (i : Int))))) (ρ2 := PE vs none (olI ys) x3 x4 x5 x6 x7 (some (di (0 + (i : Int)))) (some (di x))) (ev_ol rfl) ?_ ?_ rfl ey) rfl ed_nil))
      · subst he
        cases s <;> kernel_rfl
      · subst he
        cases s <;> rfl)
  obtain ⟨ps, e1, e2, e3⟩ := map_ex (PIn B) ptP (gP ys s) ((enumD 0 (xs.map PyData.int)).filter fun _ => true) (fun d hd => by
    obtain ⟨i, x, y, lt, rfl, mx, my, ey⟩ := key d (List.mem_filter.mp hd).1
    refine ⟨(x, y), ?_, hx x mx, hy y my⟩
    show PyData.tuple [.int x, (idxD (.list (ys.map .int)) (.int (if s then 0 - (0 + (i : Int)) else (0 + (i : Int))))).getD .none] = _
    rw [ey]
    rfl)
  refine ⟨ps, ?_, ?_, e3⟩
  · rw [E, e1]
    rfl
  · rw [e2, List.filter_eq_self.mpr (fun _ _ => rfl), enumD_len, List.length_map]
theorem flat_pts : ∀ ps : List (Int × Int), flatPs (ps.map ptP) = true
  | [] => rfl
  | p :: ps => by
    show (flatP (ptP p) && flatPs (ps.map ptP)) = true
    rw [flat_pts ps]
    rfl
end Lw
set_option Elab.async false
set_option linter.all false
set_option maxRecDepth 100000
set_option maxHeartbeats 4000000
namespace Lw
open PySem TL
def plB : IS := (.seq (.set 1 (.bin .add (.var 1) (.lst (.cons (.bin .sub (.var 4) (.cst (.int 1))) (.cons (.var 4) (.cons (.bin .sub (.var 6) (.cst (.int 1))) (.cons (.var 6) .nil))))))) (.seq (.set 2 (.bin .add (.var 2) (.lst (.cons (.bin .sub (.var 5) (.cst (.int 1))) (.cons (.var 5) (.cons (.bin .sub (.var 7) (.cst (.int 1))) (.cons (.var 7) .nil))))))) .nil))
theorem add_ol {xs ys : List Pd} (h : xs.length + ys.length ≤ szL) : bop .add (.list xs) (.list ys) = some (.fr (.ol (xs ++ ys))) := by
  show (if xs.length + ys.length ≤ szL then _ else _) = _
  rw [if_pos h]
theorem r_places (n : Nat) (vs : List V5) (hl : vs.length ≤ 12) (F : Int) (hF : 4 < F) (hv : VR vs (0 - F - 12) (25 * F) F) :
    ∃ ps : List (Int × Int), pr (n + 1) 15 [.dat (vsD vs)] = .ok (.fr (.ol (ps.map ptP))) [some (.dat (vsD vs))] ∧ ps ≠ [] ∧ ps.length ≤ 200 ∧ ∀ p ∈ ps, PIn (26 * F) p := by
  rw [pr_at (f := ⟨1, 10, b__law_places⟩) rfl rfl]
  obtain ⟨ρ2, e2, xs, ys, x3, x4, x5, x6, x7, rfl, lx, ly, ix, iy⟩ := forGo_inv (f := forF (gOf gints) (pr n) (.tp (.cons (.nm 3) (.cons (.nm 4) (.cons (.nm 5) (.cons (.nm 6) (.cons (.nm 7) .nil)))))) plB) (xs := vs.map V5.pd) (ρ := PE vs (olI [0]) (olI [0]) none none none none none none none)
    (fun i ρ => ∃ (xs ys : List Int) (x3 x4 x5 x6 x7 : Option Ob), ρ = PE vs (olI xs) (olI ys) x3 x4 x5 x6 x7 none none ∧ xs.length = 1 + 4 * i ∧ ys.length = 1 + 4 * i ∧ (∀ x ∈ xs, In (26 * F) x) ∧ (∀ x ∈ ys, In (26 * F) x))
    ⟨[0], [0], _, _, _, _, _, rfl, rfl, rfl, (fun x h => by
      rcases List.mem_singleton.mp h with rfl
      exact ⟨by omega, by omega⟩), (fun x h => by
      rcases List.mem_singleton.mp h with rfl
      exact ⟨by omega, by omega⟩)⟩ (by
    rintro i x _ hx ⟨xs, ys, x3, x4, x5, x6, x7, rfl, lx, ly, ix, iy⟩
    rw [List.getElem?_map] at hx
    obtain ⟨v, hw, rfl⟩ := Option.map_eq_some_iff.mp hx
    have lt := (List.getElem?_eq_some_iff.mp hw).1
    obtain ⟨⟨k1, k2, k3, k4⟩, k5, k6, k7, k8⟩ := hv i v hw
    have b1 : bop .add (.list (xs.map .int)) (.list [.int (v.l - 1), .int v.l, .int (v.r - 1), .int v.r]) = some (.fr (.ol ((xs ++ [v.l - 1, v.l, v.r - 1, v.r]).map .int))) := by
      rw [List.map_append]
      exact add_ol (by rw [List.length_map]; show xs.length + 4 ≤ 16777216; omega)
    have b2 : bop .add (.list (ys.map .int)) (.list [.int (v.t - 1), .int v.t, .int (v.b - 1), .int v.b]) = some (.fr (.ol ((ys ++ [v.t - 1, v.t, v.b - 1, v.b]).map .int))) := by
      rw [List.map_append]
      exact add_ol (by rw [List.length_map]; show ys.length + 4 ≤ 16777216; omega)
    refine ⟨_, .inl (forF_ok (ρ1 := PE vs (olI xs) (olI ys) (some (di v.p)) (some (di v.l)) (some (di v.t)) (some (di v.r)) (some (di v.b)) none none) rfl (ρ2 := PE vs (olI (xs ++ [v.l - 1, v.l, v.r - 1, v.r])) (olI (ys ++ [v.t - 1, v.t, v.b - 1, v.b])) (some (di v.p)) (some (di v.l)) (some (di v.t)) (some (di v.r)) (some (di v.b)) none none) ?_), _, _, _, _, _, _, _, rfl, ?_, ?_, ?_, ?_⟩
    · unfold plB
      rw [ex_seq (ex_set_fr (ev_bin (ρ1 := PE vs (olI xs) (olI ys) (some (di v.p)) (some (di v.l)) (some (di v.t)) (some (di v.r)) (some (di v.b)) none none) (x := .list (xs.map .int)) (y := .list [.int (v.l - 1), .int v.l, .int (v.r - 1), .int v.r]) (v := .pk (.ol (xs.map .int)) 1) (w := .fr (.ol [.int (v.l - 1), .int v.l, .int (v.r - 1), .int v.r])) (ρ2 := PE vs (olI xs) (olI ys) (some (di v.p)) (some (di v.l)) (some (di v.t)) (some (di v.r)) (some (di v.b)) none none) (ev_ol rfl) (by kernel_rfl) rfl rfl b1))]
      show execS _ _ _ (PE vs (olI (xs ++ [v.l - 1, v.l, v.r - 1, v.r])) (olI ys) (some (di v.p)) (some (di v.l)) (some (di v.t)) (some (di v.r)) (some (di v.b)) none none) = _
      generalize xs ++ [v.l - 1, v.l, v.r - 1, v.r] = us at *
      rw [ex_seq (ex_set_fr (ev_bin (ρ1 := PE vs (olI us) (olI ys) (some (di v.p)) (some (di v.l)) (some (di v.t)) (some (di v.r)) (some (di v.b)) none none) (x := .list (ys.map .int)) (y := .list [.int (v.t - 1), .int v.t, .int (v.b - 1), .int v.b]) (v := .pk (.ol (ys.map .int)) 2) (w := .fr (.ol [.int (v.t - 1), .int v.t, .int (v.b - 1), .int v.b])) (ρ2 := PE vs (olI us) (olI ys) (some (di v.p)) (some (di v.l)) (some (di v.t)) (some (di v.r)) (some (di v.b)) none none) (ev_ol rfl) (by kernel_rfl) rfl rfl b2))]
      exact ex_nil
    · rw [List.length_append, lx]; show _ + 4 = _; omega
    · rw [List.length_append, ly]; show _ + 4 = _; omega
    · intro x hx
      rcases List.mem_append.mp hx with hx | hx
      · exact ix x hx
      · simp only [List.mem_cons, List.not_mem_nil, or_false] at hx
        unfold In
        rcases hx with rfl | rfl | rfl | rfl <;> omega
    · intro x hx
      rcases List.mem_append.mp hx with hx | hx
      · exact iy x hx
      · simp only [List.mem_cons, List.not_mem_nil, or_false] at hx
        unfold In
        rcases hx with rfl | rfl | rfl | rfl <;> omega)
  rw [List.length_map] at lx ly
  obtain ⟨p1, f1, l1, q1⟩ := lc_pl n vs xs ys x3 x4 x5 x6 x7 false (.var 8) rfl (26 * F) (by omega) (by omega) ix iy
  obtain ⟨p2, f2, l2, q2⟩ := lc_pl n vs xs ys x3 x4 x5 x6 x7 true (.bin .sub (.cst (.int 0)) (.var 8)) rfl (26 * F) (by omega) (by omega) ix iy
  refine ⟨p1 ++ p2, ?_, ?_, by rw [List.length_append]; omega, fun p hp => ?_⟩
  · refine runB_ret (f := ⟨1, 10, b__law_places⟩) (as := [.dat (vsD vs)]) (ρ := PE vs (olI xs) (olI ys) x3 x4 x5 x6 x7 none none) ?_
    show execS (gOf gints) (pr n) b__law_places [some (.dat (vsD vs)), none, none, none, none, none, none, none, none, none] = _
    unfold b__law_places
    rw [ex_seq (ρ1 := PE vs (olI [0]) (olI [0]) none none none none none none none) (by kernel_rfl)]
    have ei : evalI (gOf gints) (pr n) (.val (.var 0)) (PE vs (olI [0]) (olI [0]) none none none none none none none) = .ok (vs.map V5.pd, []) (PE vs (olI [0]) (olI [0]) none none none none none none none) := by kernel_rfl
    refine (ex_seq (ex_for ei e2)).trans ?_
    rw [List.map_append]
    exact ex_stop (ex_ret_fr (ev_bin (x := .list (p1.map ptP)) (y := .list (p2.map ptP)) f1 f2 rfl rfl (add_ol (by rw [List.length_map, List.length_map]; show _ ≤ 16777216; omega)))) fun z => nomatch z
  · intro e
    have : (p1 ++ p2).length = 0 := by rw [e]; rfl
    rw [List.length_append] at this
    omega
  · rcases List.mem_append.mp hp with h | h
    · exact q1 p h
    · exact q2 p h
end Lw
set_option Elab.async false
set_option linter.all false
set_option maxRecDepth 100000
set_option maxHeartbeats 4000000
namespace Lw
open PySem TL
section
variable {G : List Pd} {C : Calls} {ρ ρ1 : Ev} {c a : IE} {v : Vl} {s t : IS}
theorem ex_ifT (h : evalE G C c ρ = .ok v ρ1) (h2 : v.view = some (.bool true)) : execS G C (.if_ c s t) ρ = execS G C s ρ1 := ex_if h h2
theorem ex_ifF (h : evalE G C c ρ = .ok v ρ1) (h2 : v.view = some (.bool false)) : execS G C (.if_ c s t) ρ = execS G C t ρ1 := ex_if h h2
theorem intsOf_ints : ∀ xs : List Int, intsOf (xs.map .int) = some xs
  | [] => rfl
  | x :: xs => by
    show (intsOf (xs.map .int)).map (x :: ·) = _
    rw [intsOf_ints xs]
    rfl
theorem srt_self {xs : List Int} (h : xs.Pairwise (· < ·)) : srtI xs = xs := lt_same (lt_srtI xs) h fun k => mem_srtI
theorem ev_srt {xs : List Int} (h : evalE G C a ρ = .ok v ρ1) (k : v.view = some (.list (xs.map .int))) (hl : xs.length < 60) (hs : xs.Pairwise (· < ·)) : evalE G C (.srt a) ρ = .ok (.fr (.ol (xs.map .int))) ρ1 := by
  unfold evalE
  rw [h]
  show (match v.view with | some (.list xs) => _ | _ => _) = _
  rw [k]
  show (match intsOf (xs.map .int) with | some is => if is.length < 60 then _ else _ | none => _) = _
  rw [intsOf_ints]
  show (if xs.length < 60 then Re.ok (Vl.fr (.ol ((srtI xs).map .int))) ρ1 else _) = _
  rw [if_pos hl, srt_self hs]
end
theorem eqv_ints : ∀ xs ys : List Int, PyData.eqvAll (xs.map .int) (ys.map .int) = decide (xs = ys)
  | [], [] => rfl
  | [], _ :: _ => rfl
  | _ :: _, [] => rfl
  | x :: xs, y :: ys => by
    show ((x == y) && PyData.eqvAll (xs.map .int) (ys.map .int)) = _
    rw [eqv_ints xs ys, Bool.eq_iff_iff, Bool.and_eq_true, beq_iff_eq, decide_eq_true_eq, decide_eq_true_eq, List.cons.injEq]
theorem flat60 (xs : List Int) : flatE 60 (.list (xs.map .int)) = true := flat_ints xs
theorem ne_ints (xs ys : List Int) : cop2 .ne (.list (xs.map .int)) (.list (ys.map .int)) = some (!decide (xs = ys)) := by
  show (if (scalP (.list (xs.map .int)) (.list (ys.map .int)) || (flatE 60 (.list (xs.map .int)) && flatE 60 (.list (ys.map .int)))) = true then some (!PyData.eqvAll (xs.map .int) (ys.map .int)) else none) = _
  rw [flat60, flat60, eqv_ints, if_pos (by rw [Bool.and_self, Bool.or_true])]
theorem ne_int (x y : Int) : cop2 .ne (.int x) (.int y) = some (!(x == y)) := rfl
theorem eq_int (x y : Int) : cop2 .eq (.int x) (.int y) = some (x == y) := rfl
theorem any_ints (x : Int) : ∀ xs : List Int, ((xs.map PyData.int).any fun z => PyData.eqv z (.int x)) = decide (x ∈ xs)
  | [] => rfl
  | y :: ys => by
    rw [List.map_cons, List.any_cons, any_ints x ys]
    show ((y == x) || _) = _
    rw [Bool.eq_iff_iff, Bool.or_eq_true, beq_iff_eq, decide_eq_true_eq, decide_eq_true_eq, List.mem_cons]
    exact ⟨Or.imp_left Eq.symm, Or.imp_left Eq.symm⟩
theorem in_ints (x : Int) (xs : List Int) : cop2 .inn (.int x) (.list (xs.map .int)) = some (decide (x ∈ xs)) := by
  show (if (flatE 60 (.int x) && flatE 60 (.list (xs.map .int))) = true then some ((xs.map PyData.int).any fun z => PyData.eqv z (.int x)) else none) = _
  rw [flat60, any_ints]
  rfl
theorem nin_ints (x : Int) (xs : List Int) : cop2 .nin (.int x) (.list (xs.map .int)) = some (!decide (x ∈ xs)) := by
  show (cop2 .inn (.int x) (.list (xs.map .int))).map (!·) = _
  rw [in_ints]
  rfl
theorem cut_one {L : List Pd} (h : L ≠ []) : cut L (some 1) none = L.drop 1 := by
  have hp : 0 < L.length := List.length_pos_iff.mpr h
  have h1 : HT.sIx L.length 0 (some 1) = 1 := by
    show (if (1 : Int) < 0 then ((1 : Int) + L.length).toNat else min (1 : Int).toNat L.length) = 1
    rw [if_neg (by omega)]
    show min 1 L.length = 1
    omega
  have h2 : HT.sIx L.length L.length none = L.length := rfl
  unfold cut
  rw [h1, h2, List.take_of_length_le (by rw [List.length_drop]; omega)]
theorem zip_at {xs : List Int} {i : Nat} {d : Pd} (h : (List.zipWith (fun x y => PyData.tuple [x, y]) (xs.map .int) ((xs.map .int).drop 1))[i]? = some d) : ∃ a b, d = .tuple [.int a, .int b] ∧ xs[i]? = some a ∧ xs[i + 1]? = some b := by
  rw [List.getElem?_zipWith, List.getElem?_drop, List.getElem?_map, List.getElem?_map, Nat.add_comm 1 i] at h
  cases e1 : xs[i]? with
  | none => rw [e1] at h; cases h
  | some a =>
    cases e2 : xs[i + 1]? with
    | none => rw [e1, e2] at h; cases h
    | some b =>
      rw [e1, e2] at h
      cases h
      exact ⟨a, b, rfl, rfl, rfl⟩
abbrev QE (vs : List V5) (x y : Int) (x2 x3 x4 x5 x6 : Option Ob) : Ev := [some (.dat (vsD vs)), some (.dat (ptD x y)), x2, x3, x4, x5, x6]
abbrev dL (P : List Int) : Option Ob := some (.dat (.list (P.map .int)))
def l1B : IS := (.seq (.if_ (.or_ (.cmp .ne (.idx (.idx (.var 0) (.bin .sub (.var 4) (.cst (.int 1)))) (.cst (.int 0))) (.var 3)) (.not_ (.cal 14 (.cons (.idx (.var 0) (.bin .sub (.var 4) (.cst (.int 1)))) (.cons (.var 1) .nil))))) (.seq (.ret (.cst (.bool false))) .nil) .nil) .nil)
theorem idx_v {G : List Pd} {C : Calls} {ρ : Ev} {vs : List V5} {e : IE} {k : Int} {i : Nat} {w : V5} (h0 : ρ[0]? = some (some (.dat (vsD vs)))) (he : evalE G C e ρ = .ok (.d (.int k)) ρ) (hk : k = (i : Int)) (hw : vs[i]? = some w) : evalE G C (.idx (.var 0) e) ρ = .ok (.d w.pd) ρ := by
  subst hk
  exact ev_idx (x := vsD vs) (y := .int (i : Int)) (ev_dat h0) he rfl rfl (idx_ok (by rw [List.getElem?_map, hw]; rfl))
theorem l1_ok (n : Nat) (vs : List V5) (x y a b : Int) (x2 x5 x6 : Option Ob) (h : (hereI 1 vs a x y).getLast? = some b) : execS (gOf gints) (pr (n + 1)) l1B (QE vs x y x2 (some (di a)) (some (di b)) x5 x6) = .ok .nx (QE vs x y x2 (some (di a)) (some (di b)) x5 x6) := by
  obtain ⟨i, v, h1, h2, h3, h4⟩ := mem_here.mp (List.mem_of_getLast? h)
  have e1 : evalE (gOf gints) (pr (n + 1)) (.idx (.var 0) (.bin .sub (.var 4) (.cst (.int 1)))) (QE vs x y x2 (some (di a)) (some (di b)) x5 x6) = .ok (.d v.pd) (QE vs x y x2 (some (di a)) (some (di b)) x5 x6) :=
    idx_v rfl (k := b - 1) (by kernel_rfl) (by omega) h1
  have e2 : evalE (gOf gints) (pr (n + 1)) (.cmp .ne (.idx (.idx (.var 0) (.bin .sub (.var 4) (.cst (.int 1)))) (.cst (.int 0))) (.var 3)) (QE vs x y x2 (some (di a)) (some (di b)) x5 x6) = .ok (.d (.bool (!(v.p == a)))) (QE vs x y x2 (some (di a)) (some (di b)) x5 x6) :=
    ev_cmp (ev_idx (x := v.pd) (y := .int 0) e1 ev_cst rfl rfl rfl) (ev_dat rfl) rfl rfl (ne_int _ _)
  have z : (!(v.p == a)) = false := by rw [h3]; simp
  rw [z] at e2
  have e3 : evalE (gOf gints) (pr (n + 1)) (.cal 14 (.cons (.idx (.var 0) (.bin .sub (.var 4) (.cst (.int 1)))) (.cons (.var 1) .nil))) (QE vs x y x2 (some (di a)) (some (di b)) x5 x6) = .ok (.d (.bool (v.has x y))) (QE vs x y x2 (some (di a)) (some (di b)) x5 x6) :=
    ev_cal (p := ([.dat v.pd, .dat (ptD x y)], [])) (ea_d e1 (ea_d (ev_dat rfl) ea_nil)) (r_lhas n v x y) rfl rfl
  rw [h4] at e3
  exact (ex_seq ((ex_ifF (ev_or (k := false) (m := false) e2 rfl fun _ => ev_not e3 rfl) rfl).trans ex_nil)).trans ex_nil
def lcE : IE := .lc (.var 4) (.nm 4) (.val (.var 2)) (.cons (.and_ (.cmp .gt (.var 4) (.bin .add (.var 5) (.cst (.int 1)))) (.cmp .eq (.idx (.idx (.var 0) (.bin .sub (.var 4) (.cst (.int 1)))) (.cst (.int 0))) (.idx (.var 6) (.cst (.int 0))))) .nil) [4]
def l2B : IS := (.seq (.if_ (.and_ (.cmp .inn (.idx (.var 6) (.cst (.int 0))) (.var 2)) (.and_ (.cmp .nin (.bin .add (.var 5) (.cst (.int 1))) (.var 2)) (.cal 14 (.cons (.var 6) (.cons (.var 1) .nil))))) (.seq (.if_ (.cmp .eq lcE (.lst .nil)) (.seq (.ret (.cst (.bool false))) .nil) .nil) .nil) .nil) .nil)
def tst (vs : List V5) (v : V5) (i : Int) : Pd → Bool
  | .int n => decide (i + 1 < n) && (match vs[(n - 1).toNat]? with
    | some w => w.p == v.p
    | none => false)
  | _ => false
theorem lc2_ok (n : Nat) (vs : List V5) (v : V5) (P : List Int) (x y i : Int) (x3 x4 : Option Ob) (hi : 0 ≤ i) (hP : ∀ e ∈ P, e = 0 ∨ e < 1 + vs.length) (hl : P.length ≤ 100) (h4 : x4 = none ∨ ∃ d, x4 = some (.dat d)) :
    evalE (gOf gints) (pr (n + 1)) lcE (QE vs x y (dL P) x3 x4 (some (di i)) (some (.dat v.pd))) = .ok (.fr (.ol ((P.map .int).filter (tst vs v i)))) (QE vs x y (dL P) x3 x4 (some (di i)) (some (.dat v.pd))) := by
  have e := ev_lc2 (G := gOf gints) (C := pr (n + 1)) (elt := .var 4) (tg := .nm 4) (it := .val (.var 2)) (cs := .cons (.and_ (.cmp .gt (.var 4) (.bin .add (.var 5) (.cst (.int 1)))) (.cmp .eq (.idx (.idx (.var 0) (.bin .sub (.var 4) (.cst (.int 1)))) (.cst (.int 0))) (.idx (.var 6) (.cst (.int 0))))) .nil) (own := [4]) (ρ := QE vs x y (dL P) x3 x4 (some (di i)) (some (.dat v.pd))) (ρ1 := QE vs x y (dL P) x3 x4 (some (di i)) (some (.dat v.pd))) (xs := P.map .int) (hid := []) (tst vs v i) (fun d => d) (by kernel_rfl) rfl (by rw [List.length_map]; exact Nat.le_trans hl (by decide)) (fun d hd => by
    obtain ⟨m, hm, rfl⟩ := List.mem_map.mp hd
    refine ⟨QE vs x y (dL P) x3 (some (di m)) (some (di i)) (some (.dat v.pd)), by kernel_rfl, by kernel_rfl, ec_one (v := .d (.bool (tst vs v i (.int m)))) ?_ rfl, fun _ => ⟨.d (.int m), by kernel_rfl, rfl⟩⟩
    refine ev_and (v := .d (.bool (decide (i + 1 < m)))) (by kernel_rfl) rfl fun hlt => ?_
    have hlt := of_decide_eq_true hlt
    have hm2 : m < 1 + vs.length := (hP m hm).elim (fun e => by omega) id
    have lt : (m - 1).toNat < vs.length := by omega
    have hw := List.getElem?_eq_getElem lt
    rw [hw]
    exact ev_cmp (x := .int (vs[(m - 1).toNat]).p) (y := .int v.p) (ev_idx (x := (vs[(m - 1).toNat]).pd) (y := .int 0) (idx_v rfl (k := m - 1) (by kernel_rfl) (by omega) hw) ev_cst rfl rfl rfl) (ev_idx (x := v.pd) (y := .int 0) (ev_dat rfl) ev_cst rfl rfl rfl) rfl rfl (eq_int _ _))
  rw [List.map_id'] at e
  refine (show evalE (gOf gints) (pr (n + 1)) lcE (QE vs x y (dL P) x3 x4 (some (di i)) (some (.dat v.pd))) = _ from e).trans ?_
  rcases h4 with rfl | ⟨d, rfl⟩ <;> rfl
theorem l2_ok (n : Nat) (vs : List V5) (P : List Int) (x y : Int) (i : Nat) (v : V5) (x3 x4 : Option Ob) (ok : VOk vs) (hl : vs.length ≤ 12) (hP : P = pathI 12 vs 0 x y) (hv : vs[i]? = some v) (h4 : x4 = none ∨ ∃ d, x4 = some (.dat d)) :
    execS (gOf gints) (pr (n + 1)) l2B (QE vs x y (dL P) x3 x4 (some (di (i : Int))) (some (.dat v.pd))) = .ok .nx (QE vs x y (dL P) x3 x4 (some (di (i : Int))) (some (.dat v.pd))) := by
  have e1 : evalE (gOf gints) (pr (n + 1)) (.cmp .inn (.idx (.var 6) (.cst (.int 0))) (.var 2)) (QE vs x y (dL P) x3 x4 (some (di (i : Int))) (some (.dat v.pd))) = .ok (.d (.bool (decide (v.p ∈ P)))) (QE vs x y (dL P) x3 x4 (some (di (i : Int))) (some (.dat v.pd))) :=
    ev_cmp (ev_idx (x := v.pd) (y := .int 0) (ev_dat rfl) ev_cst rfl rfl rfl) (ev_dat rfl) rfl rfl (in_ints _ _)
  have e2 : evalE (gOf gints) (pr (n + 1)) (.cmp .nin (.bin .add (.var 5) (.cst (.int 1))) (.var 2)) (QE vs x y (dL P) x3 x4 (some (di (i : Int))) (some (.dat v.pd))) = .ok (.d (.bool (!decide (((i : Int) + 1) ∈ P)))) (QE vs x y (dL P) x3 x4 (some (di (i : Int))) (some (.dat v.pd))) :=
    ev_cmp (x := .int ((i : Int) + 1)) (v := .d (.int ((i : Int) + 1))) (ρ1 := QE vs x y (dL P) x3 x4 (some (di (i : Int))) (some (.dat v.pd))) (by kernel_rfl) (ev_dat rfl) rfl rfl (nin_ints _ _)
  have e3 : evalE (gOf gints) (pr (n + 1)) (.cal 14 (.cons (.var 6) (.cons (.var 1) .nil))) (QE vs x y (dL P) x3 x4 (some (di (i : Int))) (some (.dat v.pd))) = .ok (.d (.bool (v.has x y))) (QE vs x y (dL P) x3 x4 (some (di (i : Int))) (some (.dat v.pd))) :=
    ev_cal (p := ([.dat v.pd, .dat (ptD x y)], [])) (ea_d (ev_dat rfl) (ea_d (ev_dat rfl) ea_nil)) (r_lhas n v x y) rfl rfl
  have ec := ev_and (k := decide (v.p ∈ P)) (m := !decide (((i : Int) + 1) ∈ P) && v.has x y) e1 rfl fun _ => ev_and (k := !decide (((i : Int) + 1) ∈ P)) (m := v.has x y) e2 rfl fun _ => e3
  cases hc : (decide (v.p ∈ P) && (!decide (((i : Int) + 1) ∈ P) && v.has x y)) with
  | false =>
    rw [hc] at ec
    exact (ex_seq ((ex_ifF ec rfl).trans ex_nil)).trans ex_nil
  | true =>
    rw [hc] at ec
    simp only [Bool.and_eq_true, decide_eq_true_eq, Bool.not_eq_true', decide_eq_false_iff_not] at hc
    obtain ⟨c1, c2, c3⟩ := hc
    obtain ⟨m, mP, lt, w, hw, wp, m1⟩ := later ok hl hP hv c1 c2 c3
    have up := path_up 12 vs 0 x y ok
    rw [← hP] at up
    have ll : P.length ≤ 100 := by
      have := path_lenI 12 vs 0 x y
      rw [← hP] at this
      omega
    have lc := lc2_ok n vs v P x y (i : Int) x3 x4 (by omega) (fun e he => (up.2 e he).2) ll h4
    have hm : PyData.int m ∈ (P.map PyData.int).filter (tst vs v (i : Int)) := by
      refine List.mem_filter.mpr ⟨List.mem_map_of_mem mP, ?_⟩
      show (decide ((i : Int) + 1 < m) && (match vs[(m - 1).toNat]? with | some w => w.p == v.p | none => false)) = true
      rw [hw, decide_eq_true lt, Bool.true_and]
      exact beq_iff_eq.mpr wp
    have ne : ((P.map PyData.int).filter (tst vs v (i : Int))).isEmpty = false := by
      cases e : (P.map PyData.int).filter (tst vs v (i : Int)) with
      | nil => rw [e] at hm; cases hm
      | cons _ _ => rfl
    have e5 := ev_cmp lc (ev_lst ed_nil) rfl rfl eq_nil
    rw [ne] at e5
    exact (ex_seq ((ex_ifT ec rfl).trans ((ex_seq ((ex_ifF e5 rfl).trans ex_nil)).trans ex_nil))).trans ex_nil
end Lw
set_option Elab.async false
set_option linter.all false
set_option maxRecDepth 100000
set_option maxHeartbeats 4000000
namespace Lw
open PySem TL
theorem self_ne (z : Int) : (!(z == z)) = false := by rw [beq_self_eq_true]; rfl
theorem r_pright (n : Nat) (vs : List V5) (x y : Int) (ok : VOk vs) (hl : vs.length ≤ 12) : pr (n + 6) 16 [.dat (vsD vs), .dat (ptD x y)] = .ok (.d (.bool true)) [some (.dat (vsD vs)), some (.dat (ptD x y))] := by
  rw [pr_at (f := ⟨2, 7, b__law_path_right⟩) rfl rfl]
  obtain ⟨z, hz, ez⟩ := r_deep n vs x y ok hl
  have ep := r_path n vs x y ok hl
  obtain ⟨P, hP⟩ : ∃ P, P = pathI 12 vs 0 x y := ⟨_, rfl⟩
  have up := path_up 12 vs 0 x y ok
  have ll := path_lenI 12 vs 0 x y
  obtain ⟨t, hd⟩ := path_head 12 vs 0 x y
  have stp := path_step 12 vs 0 x y
  rw [← hP] at hz ep up ll hd stp
  obtain ⟨ys, eys⟩ := getLast_split hz
  have li : idxD (.list (P.map .int)) (.int (-1)) = some (.int z) := by
    rw [eys, List.map_append]
    exact idx_last
  have l0 : idxD (.list (P.map .int)) (.int 0) = some (.int 0) := by
    rw [hd]
    exact idx_ok (i := 0) rfl
  have ne : P.map PyData.int ≠ [] := by rw [hd]; exact List.cons_ne_nil _ _
  have ea : ∀ x2 : Option Ob, evalA (gOf gints) (pr (n + 5)) true (.cons (.var 0) (.cons (.var 1) .nil)) (QE vs x y x2 none none none none) = .ok ([.dat (vsD vs), .dat (ptD x y)], []) (QE vs x y x2 none none none none) := fun x2 => by kernel_rfl
  have c1 : evalE (gOf gints) (pr (n + 5)) (.cmp .ne (.idx (.var 2) (.cst (.int 0))) (.cst (.int 0))) (QE vs x y (some (.ol (P.map .int))) none none none none) = .ok (.d (.bool false)) (QE vs x y (some (.ol (P.map .int))) none none none none) :=
    ev_cmp (ev_idx (v := .pk (.ol (P.map .int)) 2) (x := .list (P.map .int)) (y := .int 0) (ev_ol rfl) ev_cst rfl rfl l0) ev_cst rfl rfl rfl
  have c2 : evalE (gOf gints) (pr (n + 5)) (.cmp .ne (.idx (.var 2) (.neg (.cst (.int 1)))) (.cal 10 (.cons (.var 0) (.cons (.var 1) .nil)))) (QE vs x y (some (.ol (P.map .int))) none none none none) = .ok (.d (.bool (!(z == z)))) (QE vs x y (some (.ol (P.map .int))) none none none none) :=
    ev_cmp (x := .int z) (y := .int z) (ev_idx (v := .pk (.ol (P.map .int)) 2) (x := .list (P.map .int)) (y := .int (-1)) (ev_ol rfl) (ev_neg ev_cst rfl) rfl rfl li) (ev_cal (ea _) ez rfl rfl) rfl rfl (ne_int z z)
  rw [self_ne] at c2
  have c3 : evalE (gOf gints) (pr (n + 5)) (.cmp .ne (.var 2) (.srt (.var 2))) (QE vs x y (some (.ol (P.map .int))) none none none none) = .ok (.d (.bool (!decide (P = P)))) (QE vs x y (some (.ol (P.map .int))) none none none none) :=
    ev_cmp (ev_ol rfl) (ev_srt (ev_ol rfl) rfl (by omega) up.1) rfl rfl (ne_ints P P)
  rw [decide_eq_true (rfl : P = P)] at c3
  have ei : evalI (gOf gints) (pr (n + 5)) (.zipd (.var 2) (.slc (.var 2) (.cst (.int 1)) (.cst .none))) (QE vs x y (some (.ol (P.map .int))) none none none none) = .ok (List.zipWith (fun x y => PyData.tuple [x, y]) (P.map .int) (cut (P.map .int) (some 1) none), []) (QE vs x y (dL P) none none none none) := by kernel_rfl
  rw [cut_one ne] at ei
  obtain ⟨ρ2, e2, x3, x4, rfl, h4⟩ := forGo_inv (f := forF (gOf gints) (pr (n + 5)) (.tp (.cons (.nm 3) (.cons (.nm 4) .nil))) l1B) (xs := List.zipWith (fun x y => PyData.tuple [x, y]) (P.map .int) ((P.map .int).drop 1)) (ρ := QE vs x y (dL P) none none none none)
    (fun _ ρ => ∃ x3 x4, ρ = QE vs x y (dL P) x3 x4 none none ∧ (x4 = none ∨ ∃ d, x4 = some (.dat d))) ⟨none, none, rfl, .inl rfl⟩ (by
    rintro i d _ hx ⟨x3, x4, rfl, _⟩
    obtain ⟨a, b, rfl, h1, h2⟩ := zip_at hx
    exact ⟨_, .inl (forF_ok (ρ1 := QE vs x y (dL P) (some (di a)) (some (di b)) none none) (by kernel_rfl) (l1_ok (n + 4) vs x y a b (dL P) none none (stp i a b h1 h2))), _, _, rfl, .inr ⟨_, rfl⟩⟩)
  obtain ⟨ρ3, e3, y3, y4, y5, y6, rfl, _⟩ := forGo_inv (f := forF (gOf gints) (pr (n + 5)) (.tp (.cons (.nm 5) (.cons (.nm 6) .nil))) l2B) (xs := enumD 0 (vs.map V5.pd)) (ρ := QE vs x y (dL P) x3 x4 none none)
    (fun _ ρ => ∃ y3 y4 y5 y6, ρ = QE vs x y (dL P) y3 y4 y5 y6 ∧ (y4 = none ∨ ∃ d, y4 = some (.dat d))) ⟨x3, x4, none, none, rfl, h4⟩ (by
    rintro i d _ hx ⟨y3, y4, y5, y6, rfl, h4⟩
    obtain ⟨p, h1, rfl⟩ := enumD_at hx
    rw [List.getElem?_map] at h1
    obtain ⟨v, hv, rfl⟩ := Option.map_eq_some_iff.mp h1
    exact ⟨_, .inl (forF_ok (ρ1 := QE vs x y (dL P) y3 y4 (some (di (i : Int))) (some (.dat v.pd))) (by rw [Int.zero_add]; rfl) (l2_ok (n + 4) vs P x y i v y3 y4 ok hl hP hv h4)), y3, y4, _, _, rfl, h4⟩)
  refine runB_ret (f := ⟨2, 7, b__law_path_right⟩) (as := [.dat (vsD vs), .dat (ptD x y)]) (ρ := QE vs x y (dL P) y3 y4 y5 y6) ?_
  refine (ex_seq (ρ1 := QE vs x y (some (.ol (P.map .int))) none none none none) (ex_set_fr (ev_cal (ρ2 := QE vs x y none none none none none) (ea none) ep rfl rfl))).trans ?_
  refine (ex_seq (ρ1 := QE vs x y (some (.ol (P.map .int))) none none none none) ((ex_ifF (ev_or (k := false) (m := false) c1 rfl fun _ => ev_or (k := false) (m := false) c2 rfl fun _ => c3) rfl).trans ex_nil)).trans ?_
  refine (ex_seq (ex_for ei e2)).trans ?_
  refine (ex_seq (ex_for (xs := enumD 0 (vs.map V5.pd)) (ρ1 := QE vs x y (dL P) x3 x4 none none) (by kernel_rfl) e3)).trans ?_
  exact ex_stop (ex_ret_d ev_cst) fun z => nomatch z
end Lw
set_option Elab.async false
set_option linter.all false
set_option maxRecDepth 100000
set_option maxHeartbeats 4000000
namespace Lw
open PySem TL
def ab (i : Int) : Int := if i < 0 then -i else i
theorem ab_ge (i : Int) : 0 ≤ ab i := by unfold ab; split <;> omega
def oV (w : Nat) (e : Int) (v : V5) : V5 := match w with
  | 0 => ⟨v.p, v.l + e, v.t - e, v.r + e, v.b - e⟩
  | 1 => ⟨v.p, v.l * (1 + ab e), v.t * (1 + ab e), v.r * (1 + ab e), v.b * (1 + ab e)⟩
  | 2 => ⟨v.p, 1 - v.r, v.t, 1 - v.l, v.b⟩
  | _ => ⟨v.p, v.t, v.l, v.b, v.r⟩
def oX (w : Nat) (e x y : Int) : Int := match w with
  | 0 => x + e
  | 1 => x * (1 + ab e) + ab e
  | 2 => 0 - x
  | _ => y
def oY (w : Nat) (e x y : Int) : Int := match w with
  | 0 => y - e
  | 1 => y * (1 + ab e)
  | 2 => y
  | _ => x
theorem mul_le {k a b d : Int} (hk : 0 < k) (hd : 0 ≤ d ∧ d < k) : a * k ≤ b * k + d ↔ a ≤ b := by
  constructor
  · intro h
    apply Decidable.byContradiction
    intro n
    have h1 : (b + 1) * k ≤ a * k := Int.mul_le_mul_of_nonneg_right (by omega) (by omega)
    rw [Int.add_mul, Int.one_mul] at h1
    omega
  · intro h
    have h1 : a * k ≤ b * k := Int.mul_le_mul_of_nonneg_right h (by omega)
    omega
theorem mul_lt {k a b d : Int} (hk : 0 < k) (hd : 0 ≤ d ∧ d < k) : b * k + d < a * k ↔ b < a := by
  have := mul_le (a := a) (b := b) hk hd
  omega
theorem oV_has (w : Nat) (e x y : Int) (v : V5) : (oV w e v).has (oX w e x y) (oY w e x y) = v.has x y := by
  have h0 := ab_ge e
  unfold V5.has oV oX oY
  split
  · dsimp only
    rw [Bool.eq_iff_iff]
    simp only [Bool.and_eq_true, decide_eq_true_eq]
    omega
  · dsimp only
    have a1 := mul_le (k := 1 + ab e) (a := v.l) (b := x) (d := ab e) (by omega) (by omega)
    have a2 := mul_lt (k := 1 + ab e) (a := v.r) (b := x) (d := ab e) (by omega) (by omega)
    have a3 := mul_le (k := 1 + ab e) (a := v.t) (b := y) (d := 0) (by omega) (by omega)
    have a4 := mul_lt (k := 1 + ab e) (a := v.b) (b := y) (d := 0) (by omega) (by omega)
    rw [Int.add_zero] at a3 a4
    rw [Bool.eq_iff_iff]
    simp only [Bool.and_eq_true, decide_eq_true_eq]
    rw [a1, a2, a3, a4]
  · dsimp only
    rw [Bool.eq_iff_iff]
    simp only [Bool.and_eq_true, decide_eq_true_eq]
    omega
  · dsimp only
    rw [Bool.eq_iff_iff]
    simp only [Bool.and_eq_true, decide_eq_true_eq]
    omega
theorem oV_ok (w : Nat) (e k : Int) (v : V5) (h : v.ok k = true) : (oV w e v).ok k = true := by
  have h0 := ab_ge e
  unfold V5.ok at h ⊢
  simp only [Bool.and_eq_true, decide_eq_true_eq] at h ⊢
  unfold oV
  split <;> dsimp only
  · omega
  · have a2 := mul_lt (k := 1 + ab e) (a := v.r) (b := v.l) (d := 0) (by omega) (by omega)
    have a4 := mul_lt (k := 1 + ab e) (a := v.b) (b := v.t) (d := 0) (by omega) (by omega)
    rw [Int.add_zero] at a2 a4
    rw [a2, a4]
    exact h
  · omega
  · omega
theorem oV_vok {w : Nat} {e : Int} {vs : List V5} (h : VOk vs) : VOk (vs.map (oV w e)) := by
  intro i v hv
  rw [List.getElem?_map] at hv
  obtain ⟨u, hu, rfl⟩ := Option.map_eq_some_iff.mp hv
  exact oV_ok w e _ u (h i u hu)
theorem oV_path (w : Nat) (e x y : Int) (vs : List V5) : pathI 12 (vs.map (oV w e)) 0 (oX w e x y) (oY w e x y) = pathI 12 vs 0 x y := by
  refine (path_same (by rw [List.length_map]) (fun i v u hv hu => ?_) 12 0).symm
  rw [List.getElem?_map, hv] at hu
  cases hu
  exact ⟨by unfold oV; split <;> rfl, (oV_has w e x y v).symm⟩
def gO (w : Nat) (e : Int) : Pd → Pd
  | .tuple [.int p, .int l, .int t, .int r, .int b] => (oV w e ⟨p, l, t, r, b⟩).pd
  | _ => .none
abbrev OE (w : Int) (vs : List V5) (x y e : Int) (x4 x5 x6 x7 x8 x9 x10 x11 x12 : Option Ob) : Ev := [some (di w), some (.dat (vsD vs)), some (.dat (ptD x y)), some (di e), x4, x5, x6, x7, x8, x9, x10, x11, x12]
abbrev t5 : IT := .tp (.cons (.nm 8) (.cons (.nm 9) (.cons (.nm 10) (.cons (.nm 11) (.cons (.nm 12) .nil)))))
theorem gO_map (w : Nat) (e : Int) (vs : List V5) : (((vs.map V5.pd).filter fun _ => true).map (gO w e)) = (vs.map (oV w e)).map V5.pd := by
  rw [List.filter_eq_self.mpr (fun _ _ => rfl), List.map_map, List.map_map]
  rfl
/-- a comprehension over the views -/
theorem lc_o (n : Nat) (wi : Int) (w : Nat) (vs : List V5) (x y e : Int) (x6 : Option Ob) (elt : IE) (hl : vs.length ≤ 12)
    (h : ∀ v ∈ vs, evalE (gOf gints) (pr n) elt (OE wi vs x y e (some (di x)) (some (di y)) x6 none (some (di v.p)) (some (di v.l)) (some (di v.t)) (some (di v.r)) (some (di v.b))) = .ok (.d (oV w e v).pd) (OE wi vs x y e (some (di x)) (some (di y)) x6 none (some (di v.p)) (some (di v.l)) (some (di v.t)) (some (di v.r)) (some (di v.b)))) :
    evalE (gOf gints) (pr n) (.lc elt t5 (.val (.var 1)) .nil [8, 9, 10, 11, 12]) (OE wi vs x y e (some (di x)) (some (di y)) x6 none none none none none none) = .ok (.fr (.ol ((vs.map (oV w e)).map V5.pd))) (OE wi vs x y e (some (di x)) (some (di y)) x6 none none none none none none) := by
  have E := ev_lc2 (G := gOf gints) (C := pr n) (elt := elt) (tg := t5) (it := .val (.var 1)) (cs := .nil) (own := [8, 9, 10, 11, 12]) (ρ := OE wi vs x y e (some (di x)) (some (di y)) x6 none none none none none none) (ρ1 := OE wi vs x y e (some (di x)) (some (di y)) x6 none none none none none none) (xs := vs.map V5.pd) (hid := []) (fun _ => true) (gO w e) (by kernel_rfl) rfl (by rw [List.length_map]; exact Nat.le_trans hl (by decide)) (fun d hd => by
    obtain ⟨v, hv, rfl⟩ := List.mem_map.mp hd
    exact ⟨OE wi vs x y e (some (di x)) (some (di y)) x6 none (some (di v.p)) (some (di v.l)) (some (di v.t)) (some (di v.r)) (some (di v.b)), by kernel_rfl, by kernel_rfl, ec_nil, fun _ => ⟨.d (oV w e v).pd, h v hv, rfl⟩⟩)
  rw [gO_map] at E
  exact E
theorem mulE {n : Nat} {ρ : Ev} {i j : Nat} {a b : Int} (h1 : ρ[i]? = some (some (di a))) (h2 : ρ[j]? = some (some (di b))) (ha : -(10 ^ 20) ≤ a ∧ a ≤ 10 ^ 20) (hb : -(10 ^ 20) ≤ b ∧ b ≤ 10 ^ 20) : evalE (gOf gints) (pr n) (.bin .mul (.var i) (.var j)) ρ = .ok (.d (.int (a * b))) ρ :=
  ev_bin (ev_dat h1) (ev_dat h2) rfl rfl (mul_ok (by
    have q1 := log2_le (i := a) (n := 100) (by omega)
    have q2 := log2_le (i := b) (n := 100) (by omega)
    omega))
theorem r_other (n w : Nat) (vs : List V5) (x y e : Int) (hw : w < 4) (hl : vs.length ≤ 12) (hx : -(10 ^ 20) ≤ x ∧ x ≤ 10 ^ 20) (hy : -(10 ^ 20) ≤ y ∧ y ≤ 10 ^ 20) (he : -(10 ^ 19) ≤ e ∧ e ≤ 10 ^ 19) (hv : ∀ v ∈ vs, v.in_ (10 ^ 20)) :
    pr (n + 1) 17 [di (w : Int), .dat (vsD vs), .dat (ptD x y), di e] = .ok (.d (.tuple [vsD (vs.map (oV w e)), ptD (oX w e x y) (oY w e x y)])) [some (di (w : Int)), some (.dat (vsD vs)), some (.dat (ptD x y)), some (di e)] := by
  rw [pr_at (f := ⟨4, 13, b__law_other⟩) rfl rfl]
  have a0 := ab_ge e
  have a1 : ab e ≤ 10 ^ 19 := by unfold ab; split <;> omega
  have pre : execS (gOf gints) (pr n) (.tgt (.tp (.cons (.nm 4) (.cons (.nm 5) .nil))) (.var 2)) (OE (w : Int) vs x y e none none none none none none none none none) = .ok .nx (OE (w : Int) vs x y e (some (di x)) (some (di y)) none none none none none none none) := by kernel_rfl
  have hc : w = 0 ∨ w = 1 ∨ w = 2 ∨ w = 3 := by omega
  rcases hc with rfl | rfl | rfl | rfl
  · refine runB_ret (f := ⟨4, 13, b__law_other⟩) (as := [di ((0 : Nat) : Int), .dat (vsD vs), .dat (ptD x y), di e]) (ρ := OE ((0 : Nat) : Int) vs x y e (some (di x)) (some (di y)) none none none none none none none) ?_
    refine (ex_seq pre).trans ?_
    refine ex_stop ((ex_ifT (v := .d (.bool true)) (ρ1 := OE ((0 : Nat) : Int) vs x y e (some (di x)) (some (di y)) none none none none none none none) (by kernel_rfl) rfl).trans ?_) fun z => nomatch z
    exact ex_stop (ex_ret_d (ev_tup (ed_cons (lc_o n _ 0 vs x y e none _ hl fun v _ => by kernel_rfl) rfl (ed_cons (v := .d (ptD (x + e) (y - e))) (x := ptD (x + e) (y - e)) (ρ1 := OE ((0 : Nat) : Int) vs x y e (some (di x)) (some (di y)) none none none none none none none) (by kernel_rfl) rfl ed_nil)))) fun z => nomatch z
  · refine runB_ret (f := ⟨4, 13, b__law_other⟩) (as := [di ((1 : Nat) : Int), .dat (vsD vs), .dat (ptD x y), di e]) (ρ := OE ((1 : Nat) : Int) vs x y e (some (di x)) (some (di y)) (some (di (1 + ab e))) (some (.dat (vsD (vs.map (oV 1 e))))) none none none none none) ?_
    refine (ex_seq pre).trans ?_
    refine (ex_seq ((ex_ifF (v := .d (.bool false)) (ρ1 := OE ((1 : Nat) : Int) vs x y e (some (di x)) (some (di y)) none none none none none none none) (by kernel_rfl) rfl).trans ex_nil)).trans ?_
    refine ex_stop ((ex_ifT (v := .d (.bool true)) (ρ1 := OE ((1 : Nat) : Int) vs x y e (some (di x)) (some (di y)) none none none none none none none) (by kernel_rfl) rfl).trans ?_) fun z => nomatch z
    refine (ex_seq (ρ1 := OE ((1 : Nat) : Int) vs x y e (some (di x)) (some (di y)) (some (di (1 + ab e))) none none none none none none) (by kernel_rfl)).trans ?_
    have ml : ∀ v ∈ vs, evalE (gOf gints) (pr n) (.tup (.cons (.var 8) (.cons (.bin .mul (.var 9) (.var 6)) (.cons (.bin .mul (.var 10) (.var 6)) (.cons (.bin .mul (.var 11) (.var 6)) (.cons (.bin .mul (.var 12) (.var 6)) .nil)))))) (OE ((1 : Nat) : Int) vs x y e (some (di x)) (some (di y)) (some (di (1 + ab e))) none (some (di v.p)) (some (di v.l)) (some (di v.t)) (some (di v.r)) (some (di v.b))) = .ok (.d (oV 1 e v).pd) (OE ((1 : Nat) : Int) vs x y e (some (di x)) (some (di y)) (some (di (1 + ab e))) none (some (di v.p)) (some (di v.l)) (some (di v.t)) (some (di v.r)) (some (di v.b))) := fun v hm => by
      obtain ⟨k1, k2, k3, k4⟩ := hv v hm
      exact ev_tup (ed_cons (ev_dat rfl) rfl (ed_cons (mulE rfl rfl k1 (by omega)) rfl (ed_cons (mulE rfl rfl k2 (by omega)) rfl (ed_cons (mulE rfl rfl k3 (by omega)) rfl (ed_cons (mulE rfl rfl k4 (by omega)) rfl ed_nil)))))
    refine (ex_seq (ρ1 := OE ((1 : Nat) : Int) vs x y e (some (di x)) (some (di y)) (some (di (1 + ab e))) (some (.ol ((vs.map (oV 1 e)).map V5.pd))) none none none none none) (ex_set_fr (lc_o n _ 1 vs x y e (some (di (1 + ab e))) _ hl ml))).trans ?_
    have eb : ∀ ρ : Ev, ρ[3]? = some (some (di e)) → evalE (gOf gints) (pr n) (.bi .abs (.cons (.var 3) .nil)) ρ = .ok (.d (.int (ab e))) ρ := fun ρ h => ev_bi (ep_cons (ev_dat h) ep_nil rfl) rfl
    refine ex_stop (ex_ret_d (ev_tup (ed_cons (v := .pk (.ol ((vs.map (oV 1 e)).map V5.pd)) 7) (ρ2 := OE ((1 : Nat) : Int) vs x y e (some (di x)) (some (di y)) (some (di (1 + ab e))) (some (.dat (vsD (vs.map (oV 1 e))))) none none none none none) (ev_ol rfl) rfl (ed_cons (ev_tup (ed_cons (ev_bin (o := .add) (x := .int (x * (1 + ab e))) (y := .int (ab e)) (u := .d (.int (x * (1 + ab e) + ab e))) (mulE rfl rfl hx (by omega)) (eb _ rfl) rfl rfl rfl) rfl (ed_cons (mulE rfl rfl hy (by omega)) rfl ed_nil))) rfl ed_nil)))) fun z => nomatch z
  · refine runB_ret (f := ⟨4, 13, b__law_other⟩) (as := [di ((2 : Nat) : Int), .dat (vsD vs), .dat (ptD x y), di e]) (ρ := OE ((2 : Nat) : Int) vs x y e (some (di x)) (some (di y)) none none none none none none none) ?_
    refine (ex_seq pre).trans ?_
    refine (ex_seq ((ex_ifF (v := .d (.bool false)) (ρ1 := OE ((2 : Nat) : Int) vs x y e (some (di x)) (some (di y)) none none none none none none none) (by kernel_rfl) rfl).trans ex_nil)).trans ?_
    refine (ex_seq ((ex_ifF (v := .d (.bool false)) (ρ1 := OE ((2 : Nat) : Int) vs x y e (some (di x)) (some (di y)) none none none none none none none) (by kernel_rfl) rfl).trans ex_nil)).trans ?_
    refine ex_stop ((ex_ifT (v := .d (.bool true)) (ρ1 := OE ((2 : Nat) : Int) vs x y e (some (di x)) (some (di y)) none none none none none none none) (by kernel_rfl) rfl).trans ?_) fun z => nomatch z
    exact ex_stop (ex_ret_d (ev_tup (ed_cons (lc_o n _ 2 vs x y e none _ hl fun v _ => by kernel_rfl) rfl (ed_cons (v := .d (ptD (0 - x) y)) (x := ptD (0 - x) y) (ρ1 := OE ((2 : Nat) : Int) vs x y e (some (di x)) (some (di y)) none none none none none none none) (by kernel_rfl) rfl ed_nil)))) fun z => nomatch z
  · refine runB_ret (f := ⟨4, 13, b__law_other⟩) (as := [di ((3 : Nat) : Int), .dat (vsD vs), .dat (ptD x y), di e]) (ρ := OE ((3 : Nat) : Int) vs x y e (some (di x)) (some (di y)) none none none none none none none) ?_
    refine (ex_seq pre).trans ?_
    refine (ex_seq ((ex_ifF (v := .d (.bool false)) (ρ1 := OE ((3 : Nat) : Int) vs x y e (some (di x)) (some (di y)) none none none none none none none) (by kernel_rfl) rfl).trans ex_nil)).trans ?_
    refine (ex_seq ((ex_ifF (v := .d (.bool false)) (ρ1 := OE ((3 : Nat) : Int) vs x y e (some (di x)) (some (di y)) none none none none none none none) (by kernel_rfl) rfl).trans ex_nil)).trans ?_
    refine (ex_seq ((ex_ifF (v := .d (.bool false)) (ρ1 := OE ((3 : Nat) : Int) vs x y e (some (di x)) (some (di y)) none none none none none none none) (by kernel_rfl) rfl).trans ex_nil)).trans ?_
    exact ex_stop (ex_ret_d (ev_tup (ed_cons (lc_o n _ 3 vs x y e none _ hl fun v _ => by kernel_rfl) rfl (ed_cons (v := .d (ptD y x)) (x := ptD y x) (ρ1 := OE ((3 : Nat) : Int) vs x y e (some (di x)) (some (di y)) none none none none none none none) (by kernel_rfl) rfl ed_nil)))) fun z => nomatch z
abbrev YE (vs : List V5) (x y e : Int) (P : List Int) (x4 x5 x6 : Option Ob) : Ev := [some (.dat (vsD vs)), some (.dat (ptD x y)), some (di e), some (.ol (P.map .int)), x4, x5, x6]
def wyB : IS := (.seq (.tgt (.tp (.cons (.nm 5) (.cons (.nm 6) .nil))) (.cal 17 (.cons (.var 4) (.cons (.var 0) (.cons (.var 1) (.cons (.var 2) .nil)))))) (.seq (.if_ (.cmp .ne (.cal 9 (.cons (.var 5) (.cons (.var 6) .nil))) (.var 3)) (.seq (.ret (.cst (.bool false))) .nil) .nil) .nil))
theorem r_ways (n : Nat) (vs : List V5) (x y e : Int) (ok : VOk vs) (hl : vs.length ≤ 12) (hx : -(10 ^ 20) ≤ x ∧ x ≤ 10 ^ 20) (hy : -(10 ^ 20) ≤ y ∧ y ≤ 10 ^ 20) (he : -(10 ^ 19) ≤ e ∧ e ≤ 10 ^ 19) (hv : ∀ v ∈ vs, v.in_ (10 ^ 20)) :
    pr (n + 6) 18 [.dat (vsD vs), .dat (ptD x y), di e] = .ok (.d (.bool true)) [some (.dat (vsD vs)), some (.dat (ptD x y)), some (di e)] := by
  rw [pr_at (f := ⟨3, 7, b__law_ways_right⟩) rfl rfl]
  have ep := r_path n vs x y ok hl
  obtain ⟨P, hP⟩ : ∃ P, P = pathI 12 vs 0 x y := ⟨_, rfl⟩
  rw [← hP] at ep
  obtain ⟨ρ2, e2, x4, x5, x6, rfl⟩ := forGo_inv (f := forF (gOf gints) (pr (n + 5)) (.nm 4) wyB) (xs := rngD 0 4) (ρ := YE vs x y e P none none none) (fun _ ρ => ∃ x4 x5 x6, ρ = YE vs x y e P x4 x5 x6) ⟨none, none, none, rfl⟩ (by
    rintro w d _ hx' ⟨x4, x5, x6, rfl⟩
    obtain ⟨rfl, lt⟩ := rng_at hx'
    have lt : w < 4 := lt
    have eo := r_other (n + 4) w vs x y e lt hl hx hy he hv
    have ep2 := r_path n (vs.map (oV w e)) (oX w e x y) (oY w e x y) (oV_vok ok) (by rw [List.length_map]; exact hl)
    rw [oV_path, ← hP] at ep2
    refine ⟨YE vs x y e P (some (di (w : Int))) (some (.dat (vsD (vs.map (oV w e))))) (some (.dat (ptD (oX w e x y) (oY w e x y)))), .inl (forF_ok (ρ1 := YE vs x y e P (some (di (w : Int))) x5 x6) (by rw [Int.zero_add]; rfl) ?_), _, _, _, rfl⟩
    refine (ex_seq (ρ1 := YE vs x y e P (some (di (w : Int))) (some (.dat (vsD (vs.map (oV w e))))) (some (.dat (ptD (oX w e x y) (oY w e x y))))) (ex_tgt (ev_cal (p := ([di (w : Int), .dat (vsD vs), .dat (ptD x y), di e], [])) (ρ2 := YE vs x y e P (some (di (w : Int))) x5 x6) (by kernel_rfl) eo rfl rfl) rfl rfl)).trans ?_
    have c : evalE (gOf gints) (pr (n + 5)) (.cmp .ne (.cal 9 (.cons (.var 5) (.cons (.var 6) .nil))) (.var 3)) (YE vs x y e P (some (di (w : Int))) (some (.dat (vsD (vs.map (oV w e))))) (some (.dat (ptD (oX w e x y) (oY w e x y))))) = .ok (.d (.bool (!decide (P = P)))) (YE vs x y e P (some (di (w : Int))) (some (.dat (vsD (vs.map (oV w e))))) (some (.dat (ptD (oX w e x y) (oY w e x y))))) :=
      ev_cmp (ev_cal (p := ([.dat (vsD (vs.map (oV w e))), .dat (ptD (oX w e x y) (oY w e x y))], [])) (by kernel_rfl) ep2 rfl rfl) (ev_ol rfl) rfl rfl (ne_ints P P)
    rw [decide_eq_true (rfl : P = P)] at c
    exact (ex_seq ((ex_ifF c rfl).trans ex_nil)).trans ex_nil)
  refine runB_ret (f := ⟨3, 7, b__law_ways_right⟩) (as := [.dat (vsD vs), .dat (ptD x y), di e]) (ρ := YE vs x y e P x4 x5 x6) ?_
  refine (ex_seq (ρ1 := YE vs x y e P none none none) (ex_set_fr (ev_cal (p := ([.dat (vsD vs), .dat (ptD x y)], [])) (ρ2 := [some (.dat (vsD vs)), some (.dat (ptD x y)), some (di e), none, none, none, none]) (by kernel_rfl) ep rfl rfl))).trans ?_
  refine (ex_seq (ex_for (xs := rngD 0 4) (ρ1 := YE vs x y e P none none none) (by kernel_rfl) e2)).trans ?_
  exact ex_stop (ex_ret_d ev_cst) fun z => nomatch z
end Lw
set_option Elab.async false
set_option linter.all false
set_option maxRecDepth 100000
set_option maxHeartbeats 4000000
namespace Lw
open PySem TL
section
variable {G : List Pd} {C : Calls} {ρ ρ1 ρ2 ρ3 : Ev} {a b c e lo hi : IE} {v w u l h : Vl} {x y z : Pd}
theorem ex_par_fd {i j : Nat} {o : Ob} (h1 : evalE G C a ρ = .ok (.fr o) ρ1) (h2 : evalE G C b ρ1 = .ok (.d y) ρ2) : execS G C (.par i j a b) ρ = .ok .nx ((ρ2.set i (some o)).set j (some (.dat y))) := by
  unfold execS
  have e : evalV G C (.cons a (.cons b .nil)) ρ = .ok [.fr o, .d y] ρ2 := by
    unfold evalV
    rw [h1]
    show (evalV G C (.cons b .nil) ρ1).bind _ = _
    unfold evalV
    rw [h2]
    dsimp only [Re.bind, TL.take]
    have e0 : evalV G C .nil ρ2 = .ok [] ρ2 := by unfold evalV; rfl
    rw [e0]
  rw [e]
  rfl
theorem ev_slc {l' h' : Option Int} (h1 : evalE G C a ρ = .ok v ρ) (h2 : evalE G C lo ρ = .ok l ρ) (k2 : l.view.bind (partE lo) = some l') (h3 : evalE G C hi ρ = .ok h ρ) (k1 : seen v (ioE lo ++ ioE hi) = some x) (k3 : h.view.bind (partE hi) = some h') (k : slcD x l' h' = some u) : evalE G C (.slc a lo hi) ρ = .ok u ρ := by
  unfold evalE
  rw [h1]
  show (evalE G C lo ρ).bind _ = _
  rw [h2]
  show (match l.view.bind (partE lo) with | some l => _ | none => _) = _
  rw [k2]
  show (evalE G C hi ρ).bind _ = _
  rw [h3]
  show (match seen v (ioE lo ++ ioE hi), h.view.bind (partE hi) with | some x, some h => _ | _, _ => _) = _
  rw [k1, k3]
  show ofO (slcD x l' h') ρ = _
  rw [k]
  rfl
end
theorem cut_last (xs : List Pd) (d : Pd) : cut (xs ++ [d]) none (some (-1)) = xs := by
  have h1 : HT.sIx (xs ++ [d]).length 0 none = 0 := rfl
  have h2 : HT.sIx (xs ++ [d]).length (xs ++ [d]).length (some (-1)) = xs.length := by
    show (if (-1 : Int) < 0 then ((-1 : Int) + (xs ++ [d]).length).toNat else min (-1 : Int).toNat (xs ++ [d]).length) = _
    rw [if_pos (by decide), List.length_append, List.length_singleton]
    omega
  unfold cut
  rw [h1, h2, List.drop_zero, Nat.sub_zero, List.take_left]
theorem cut_to (xs : List Pd) (k : Nat) : cut xs none (some (k : Int)) = xs.take k := by
  have h1 : HT.sIx xs.length 0 none = 0 := rfl
  have h2 : HT.sIx xs.length xs.length (some (k : Int)) = min k xs.length := by
    show (if (k : Int) < 0 then ((k : Int) + xs.length).toNat else min (k : Int).toNat xs.length) = _
    rw [if_neg (by omega), Int.toNat_natCast]
  unfold cut
  rw [h1, h2, List.drop_zero, Nat.sub_zero]
  by_cases hk : k ≤ xs.length
  · rw [Nat.min_eq_left hk]
  · rw [Nat.min_eq_right (by omega), List.take_length, List.take_of_length_le (by omega)]
theorem flat_is : ∀ is : List Int, flatPs (is.map .int) = true
  | [] => rfl
  | i :: is => by
    show (flatP (.int i) && flatPs (is.map .int)) = true
    rw [flat_is is]
    rfl
theorem vok_init {us : List V5} {w : V5} (h : VOk (us ++ [w])) : VOk us := fun i v hv => h i v (by rw [List.getElem?_append_left (List.getElem?_eq_some_iff.mp hv).1]; exact hv)
theorem vok_snoc {us : List V5} {w : V5} (h : VOk us) (hw : w.ok ((us.length : Int) + 1) = true) : VOk (us ++ [w]) := by
  intro i v hv
  by_cases hi : i < us.length
  · rw [List.getElem?_append_left hi] at hv
    exact h i v hv
  · rw [List.getElem?_append_right (by omega)] at hv
    have e : i - us.length = 0 := by
      cases q : i - us.length with
      | zero => rfl
      | succ q' => rw [q] at hv; simp at hv
    rw [e] at hv
    simp only [List.getElem?_cons_zero, Option.some.injEq] at hv
    subst hv
    have ei : i = us.length := by omega
    rw [ei]
    exact hw
abbrev ZE (vs : List V5) (x y F : Int) (P : List Int) (m : Int) (x5 x6 x7 : Option Ob) : Ev := [some (.dat (vsD vs)), some (.dat (ptD x y)), some (di F), some (.ol (P.map .int)), some (di m), x5, x6, x7]
def k2E : IE := .or_ (.and_ (.cmp .ne (.var 3) (.var 5)) (.cmp .nin (.var 4) (.var 3))) (.and_ (.cmp .inn (.var 4) (.var 3)) (.cmp .ne (.slc (.var 3) (.cst .none) (.neg (.cst (.int 1)))) (.slc (.var 5) (.cst .none) (.bin .sub (.bi .len (.cons (.var 3) .nil)) (.cst (.int 1))))))
theorem k2_ok (n : Nat) (vs : List V5) (x y F m : Int) (P B : List Int) (x6 x7 : Option Ob) (h : (P = B ∧ m ∉ P) ∨ ∃ pre, P = pre ++ [m] ∧ B.take pre.length = pre) : evalE (gOf gints) (pr n) k2E (ZE vs x y F P m (some (.ol (B.map .int))) x6 x7) = .ok (.d (.bool false)) (ZE vs x y F P m (some (.ol (B.map .int))) x6 x7) := by
  have e1 : evalE (gOf gints) (pr n) (.cmp .ne (.var 3) (.var 5)) (ZE vs x y F P m (some (.ol (B.map .int))) x6 x7) = .ok (.d (.bool (!decide (P = B)))) (ZE vs x y F P m (some (.ol (B.map .int))) x6 x7) := ev_cmp (ev_ol rfl) (ev_ol rfl) rfl rfl (ne_ints P B)
  have e2 : evalE (gOf gints) (pr n) (.cmp .nin (.var 4) (.var 3)) (ZE vs x y F P m (some (.ol (B.map .int))) x6 x7) = .ok (.d (.bool (!decide (m ∈ P)))) (ZE vs x y F P m (some (.ol (B.map .int))) x6 x7) := ev_cmp (ev_dat rfl) (ev_ol rfl) rfl rfl (nin_ints m P)
  have e3 : evalE (gOf gints) (pr n) (.cmp .inn (.var 4) (.var 3)) (ZE vs x y F P m (some (.ol (B.map .int))) x6 x7) = .ok (.d (.bool (decide (m ∈ P)))) (ZE vs x y F P m (some (.ol (B.map .int))) x6 x7) := ev_cmp (ev_dat rfl) (ev_ol rfl) rfl rfl (in_ints m P)
  rcases h with ⟨rfl, hm⟩ | ⟨pre, rfl, hB⟩
  · rw [decide_eq_true rfl] at e1
    rw [decide_eq_false hm] at e3
    exact ev_or (k := false) (m := false) (ev_and0 e1 rfl) rfl fun _ => ev_and0 e3 rfl
  · have mem : m ∈ pre ++ [m] := List.mem_append_right _ (List.mem_singleton.mpr rfl)
    rw [decide_eq_true mem] at e2 e3
    have s1 : evalE (gOf gints) (pr n) (.slc (.var 3) (.cst .none) (.neg (.cst (.int 1)))) (ZE vs x y F (pre ++ [m]) m (some (.ol (B.map .int))) x6 x7) = .ok (.fr (.ol (pre.map .int))) (ZE vs x y F (pre ++ [m]) m (some (.ol (B.map .int))) x6 x7) :=
      ev_slc (l' := none) (h' := some (-1)) (x := .list ((pre ++ [m]).map .int)) (ev_ol rfl) ev_cst rfl (ev_neg ev_cst rfl) rfl rfl (by
        show some (Vl.fr (.ol (cut ((pre ++ [m]).map PyData.int) none (some (-1))))) = _
        rw [List.map_append]
        show some (Vl.fr (.ol (cut (pre.map PyData.int ++ [PyData.int m]) none (some (-1))))) = _
        rw [cut_last])
    have el : evalE (gOf gints) (pr n) (.bin .sub (.bi .len (.cons (.var 3) .nil)) (.cst (.int 1))) (ZE vs x y F (pre ++ [m]) m (some (.ol (B.map .int))) x6 x7) = .ok (.d (.int (pre.length : Int))) (ZE vs x y F (pre ++ [m]) m (some (.ol (B.map .int))) x6 x7) := by
      have e : (((pre ++ [m]).map PyData.int).length : Int) - 1 = (pre.length : Int) := by
        rw [List.length_map, List.length_append, List.length_singleton]
        omega
      rw [← e]
      exact ev_bin (o := .sub) (x := .int (((pre ++ [m]).map PyData.int).length : Int)) (y := .int 1) (ev_bi (ep_cons (ev_ol rfl) ep_nil rfl) len_ok) ev_cst rfl rfl rfl
    have s2 : evalE (gOf gints) (pr n) (.slc (.var 5) (.cst .none) (.bin .sub (.bi .len (.cons (.var 3) .nil)) (.cst (.int 1)))) (ZE vs x y F (pre ++ [m]) m (some (.ol (B.map .int))) x6 x7) = .ok (.fr (.ol (pre.map .int))) (ZE vs x y F (pre ++ [m]) m (some (.ol (B.map .int))) x6 x7) :=
      ev_slc (l' := none) (h' := some (pre.length : Int)) (x := .list (B.map .int)) (ev_ol rfl) ev_cst rfl el rfl rfl (by
        show some (Vl.fr (.ol (cut (B.map PyData.int) none (some (pre.length : Int))))) = _
        rw [cut_to, ← List.map_take, hB])
    have e4 := ev_cmp s1 s2 rfl rfl (ne_ints pre pre)
    rw [decide_eq_true (rfl : pre = pre)] at e4
    have f1 : evalE (gOf gints) (pr n) (.and_ (.cmp .ne (.var 3) (.var 5)) (.cmp .nin (.var 4) (.var 3))) (ZE vs x y F (pre ++ [m]) m (some (.ol (B.map .int))) x6 x7) = .ok (.d (.bool false)) (ZE vs x y F (pre ++ [m]) m (some (.ol (B.map .int))) x6 x7) := by
      have := ev_and e1 rfl fun _ => e2
      rw [Bool.not_true, Bool.and_false] at this
      exact this
    exact ev_or (k := false) (m := false) f1 rfl fun _ => (ev_and1 e3 rfl).trans e4
def lastB : IS := (.if_ (.cmp .gt (.var 4) (.cst (.int 0))) (.seq (.set 5 (.cal 9 (.cons (.slc (.var 0) (.cst .none) (.neg (.cst (.int 1)))) (.cons (.var 1) .nil)))) (.seq (.if_ k2E (.seq (.ret (.cst (.bool false))) .nil) .nil) .nil)) .nil)
theorem last_ok (n : Nat) (vs : List V5) (x y F : Int) (ok : VOk vs) (hl : vs.length ≤ 12) : ∃ x5, execS (gOf gints) (pr (n + 5)) lastB (ZE vs x y F (pathI 12 vs 0 x y) (vs.length : Int) none none none) = .ok .nx (ZE vs x y F (pathI 12 vs 0 x y) (vs.length : Int) x5 none none) := by
  have c : evalE (gOf gints) (pr (n + 5)) (.cmp .gt (.var 4) (.cst (.int 0))) (ZE vs x y F (pathI 12 vs 0 x y) (vs.length : Int) none none none) = .ok (.d (.bool (decide (0 < (vs.length : Int))))) (ZE vs x y F (pathI 12 vs 0 x y) (vs.length : Int) none none none) := by kernel_rfl
  by_cases he : vs = []
  · subst he
    exact ⟨none, (ex_ifF c rfl).trans ex_nil⟩
  · obtain ⟨us, w, rfl⟩ : ∃ us w, vs = us ++ [w] := ⟨vs.dropLast, vs.getLast he, (List.dropLast_concat_getLast he).symm⟩
    have hl2 : us.length + 1 ≤ 12 := by rw [List.length_append, List.length_singleton] at hl; exact hl
    have em : ((us ++ [w]).length : Int) = (us.length : Int) + 1 := by rw [List.length_append, List.length_singleton]; omega
    rw [em] at c ⊢
    rw [decide_eq_true (by omega)] at c
    have ok2 := vok_init ok
    have ep := r_path n us x y ok2 (by omega)
    have hk := path_snoc (x := x) (y := y) ok ok2 12 0 (by omega)
    generalize pathI 12 (us ++ [w]) 0 x y = P at *
    generalize pathI 12 us 0 x y = B at *
    refine ⟨some (.ol (B.map .int)), (ex_ifT c rfl).trans ?_⟩
    have s1 : evalE (gOf gints) (pr (n + 5)) (.slc (.var 0) (.cst .none) (.neg (.cst (.int 1)))) (ZE (us ++ [w]) x y F P ((us.length : Int) + 1) none none none) = .ok (.fr (.ol (us.map V5.pd))) (ZE (us ++ [w]) x y F P ((us.length : Int) + 1) none none none) :=
      ev_slc (l' := none) (h' := some (-1)) (x := vsD (us ++ [w])) (ev_dat rfl) ev_cst rfl (ev_neg ev_cst rfl) rfl rfl (by
        show some (Vl.fr (.ol (cut ((us ++ [w]).map V5.pd) none (some (-1))))) = _
        rw [List.map_append]
        show some (Vl.fr (.ol (cut (us.map V5.pd ++ [w.pd]) none (some (-1))))) = _
        rw [cut_last])
    refine (ex_seq (ρ1 := ZE (us ++ [w]) x y F P ((us.length : Int) + 1) (some (.ol (B.map .int))) none none) (ex_set_fr (ev_cal (p := ([.dat (vsD us), .dat (ptD x y)], [])) (ea_fr s1 rfl (ea_d (ev_dat rfl) ea_nil)) ep rfl rfl))).trans ?_
    exact (ex_seq ((ex_ifF (k2_ok (n + 5) (us ++ [w]) x y F ((us.length : Int) + 1) P B none none hk) rfl).trans ex_nil)).trans ex_nil
abbrev cutV (F : Int) : V5 := ⟨0, 0 - 50 * F, 0 - 50 * F, 50 * F, 50 * F⟩
abbrev asdV (F : Int) : V5 := ⟨0, 60 * F, 0, 61 * F, 5⟩
def cutE : IE := .tup (.cons (.cst (.int 0)) (.cons (.bin .sub (.cst (.int 0)) (.bin .mul (.cst (.int 50)) (.var 2))) (.cons (.bin .sub (.cst (.int 0)) (.bin .mul (.cst (.int 50)) (.var 2))) (.cons (.bin .mul (.cst (.int 50)) (.var 2)) (.cons (.bin .mul (.cst (.int 50)) (.var 2)) .nil)))))
def asdE : IE := .tup (.cons (.cst (.int 0)) (.cons (.bin .mul (.cst (.int 60)) (.var 2)) (.cons (.cst (.int 0)) (.cons (.bin .mul (.cst (.int 61)) (.var 2)) (.cons (.cst (.int 5)) .nil)))))
def moreB : IS := (.if_ (.cmp .lt (.var 4) (.cst (.int 12))) (.seq (.set 6 (.bin .add (.var 0) (.lst (.cons cutE .nil)))) (.seq (.set 7 (.bin .add (.var 0) (.lst (.cons asdE .nil)))) (.seq (.if_ (.or_ (.cmp .ne (.cal 9 (.cons (.var 6) (.cons (.var 1) .nil))) (.lst (.cons (.cst (.int 0)) (.cons (.bin .add (.var 4) (.cst (.int 1))) .nil)))) (.cmp .ne (.cal 9 (.cons (.var 7) (.cons (.var 1) .nil))) (.var 3))) (.seq (.ret (.cst (.bool false))) .nil) .nil) .nil))) .nil)
theorem mulC {n : Nat} {ρ : Ev} {k F : Int} (h2 : ρ[2]? = some (some (di F))) (hk : -(10 ^ 20) ≤ k ∧ k ≤ 10 ^ 20) (hF : -(10 ^ 20) ≤ F ∧ F ≤ 10 ^ 20) : evalE (gOf gints) (pr n) (.bin .mul (.cst (.int k)) (.var 2)) ρ = .ok (.d (.int (k * F))) ρ :=
  ev_bin ev_cst (ev_dat h2) rfl rfl (mul_ok (by
    have q1 := log2_le (i := k) (n := 100) (by omega)
    have q2 := log2_le (i := F) (n := 100) (by omega)
    omega))
theorem add_v {n : Nat} {ρ : Ev} {vs : List V5} {c : V5} {e : IE} (h0 : ρ[0]? = some (some (.dat (vsD vs)))) (he : evalE (gOf gints) (pr n) e ρ = .ok (.d c.pd) ρ) (hl : vs.length ≤ 12) : evalE (gOf gints) (pr n) (.bin .add (.var 0) (.lst (.cons e .nil))) ρ = .ok (.fr (.ol ((vs ++ [c]).map V5.pd))) ρ := by
  have em : (vs ++ [c]).map V5.pd = vs.map V5.pd ++ [c.pd] := by rw [List.map_append]; rfl
  rw [em]
  exact ev_bin (x := vsD vs) (y := .list [c.pd]) (ev_dat h0) (ev_lst (ed_cons he rfl ed_nil)) rfl rfl (add_ol (by rw [List.length_map]; show vs.length + 1 ≤ 16777216; omega))
theorem more_ok (n : Nat) (vs : List V5) (x y F : Int) (x5 : Option Ob) (ok : VOk vs) (hl : vs.length ≤ 12) (hF : 4 < F ∧ F ≤ 10 ^ 8) (hx : -(26 * F) ≤ x ∧ x ≤ 26 * F) (hy : -(26 * F) ≤ y ∧ y ≤ 26 * F) :
    ∃ x6 x7, execS (gOf gints) (pr (n + 5)) moreB (ZE vs x y F (pathI 12 vs 0 x y) (vs.length : Int) x5 none none) = .ok .nx (ZE vs x y F (pathI 12 vs 0 x y) (vs.length : Int) x5 x6 x7) := by
  have c : evalE (gOf gints) (pr (n + 5)) (.cmp .lt (.var 4) (.cst (.int 12))) (ZE vs x y F (pathI 12 vs 0 x y) (vs.length : Int) x5 none none) = .ok (.d (.bool (decide ((vs.length : Int) < 12)))) (ZE vs x y F (pathI 12 vs 0 x y) (vs.length : Int) x5 none none) := by kernel_rfl
  by_cases h12 : (vs.length : Int) < 12
  · rw [decide_eq_true h12] at c
    have ok1 : VOk (vs ++ [cutV F]) := vok_snoc ok (by unfold V5.ok; simp only [Bool.and_eq_true, decide_eq_true_eq]; omega)
    have ok2 : VOk (vs ++ [asdV F]) := vok_snoc ok (by unfold V5.ok; simp only [Bool.and_eq_true, decide_eq_true_eq]; omega)
    have p1 := r_path n (vs ++ [cutV F]) x y ok1 (by rw [List.length_append, List.length_singleton]; omega)
    have p2 := r_path n (vs ++ [asdV F]) x y ok2 (by rw [List.length_append, List.length_singleton]; omega)
    rw [path_cut ok1 ⟨rfl, by unfold V5.has; simp only [Bool.and_eq_true, decide_eq_true_eq]; omega⟩ 11] at p1
    rw [path_aside (by
      unfold V5.has
      have : decide (60 * F ≤ x) = false := decide_eq_false (by omega)
      rw [this]
      rfl) 12 0] at p2
    generalize pathI 12 vs 0 x y = P at *
    refine ⟨some (.ol ((vs ++ [cutV F]).map V5.pd)), some (.ol ((vs ++ [asdV F]).map V5.pd)), (ex_ifT c rfl).trans ?_⟩
    have m : ∀ (k : Int) (x6 : Option Ob), -(10 ^ 20) ≤ k ∧ k ≤ 10 ^ 20 → evalE (gOf gints) (pr (n + 5)) (.bin .mul (.cst (.int k)) (.var 2)) (ZE vs x y F P (vs.length : Int) x5 x6 none) = .ok (.d (.int (k * F))) (ZE vs x y F P (vs.length : Int) x5 x6 none) := fun k x6 hk => mulC rfl hk (by omega)
    have m50 := m 50 none (by omega)
    have s50 : evalE (gOf gints) (pr (n + 5)) (.bin .sub (.cst (.int 0)) (.bin .mul (.cst (.int 50)) (.var 2))) (ZE vs x y F P (vs.length : Int) x5 none none) = .ok (.d (.int (0 - 50 * F))) (ZE vs x y F P (vs.length : Int) x5 none none) := ev_bin ev_cst m50 rfl rfl rfl
    have e1 : evalE (gOf gints) (pr (n + 5)) cutE (ZE vs x y F P (vs.length : Int) x5 none none) = .ok (.d (cutV F).pd) (ZE vs x y F P (vs.length : Int) x5 none none) := ev_tup (ed_cons ev_cst rfl (ed_cons s50 rfl (ed_cons s50 rfl (ed_cons m50 rfl (ed_cons m50 rfl ed_nil)))))
    refine (ex_seq (ρ1 := ZE vs x y F P (vs.length : Int) x5 (some (.ol ((vs ++ [cutV F]).map V5.pd))) none) (ex_set_fr (add_v rfl e1 hl))).trans ?_
    have e2 : evalE (gOf gints) (pr (n + 5)) asdE (ZE vs x y F P (vs.length : Int) x5 (some (.ol ((vs ++ [cutV F]).map V5.pd))) none) = .ok (.d (asdV F).pd) (ZE vs x y F P (vs.length : Int) x5 (some (.ol ((vs ++ [cutV F]).map V5.pd))) none) := ev_tup (ed_cons ev_cst rfl (ed_cons (m 60 _ (by omega)) rfl (ed_cons ev_cst rfl (ed_cons (m 61 _ (by omega)) rfl (ed_cons ev_cst rfl ed_nil)))))
    refine (ex_seq (ρ1 := ZE vs x y F P (vs.length : Int) x5 (some (.ol ((vs ++ [cutV F]).map V5.pd))) (some (.ol ((vs ++ [asdV F]).map V5.pd)))) (ex_set_fr (add_v rfl e2 hl))).trans ?_
    have c1 : evalE (gOf gints) (pr (n + 5)) (.cmp .ne (.cal 9 (.cons (.var 6) (.cons (.var 1) .nil))) (.lst (.cons (.cst (.int 0)) (.cons (.bin .add (.var 4) (.cst (.int 1))) .nil)))) (ZE vs x y F P (vs.length : Int) x5 (some (.ol ((vs ++ [cutV F]).map V5.pd))) (some (.ol ((vs ++ [asdV F]).map V5.pd)))) = .ok (.d (.bool (!decide (([0, (vs.length : Int) + 1] : List Int) = [0, (vs.length : Int) + 1])))) (ZE vs x y F P (vs.length : Int) x5 (some (.ol ((vs ++ [cutV F]).map V5.pd))) (some (.ol ((vs ++ [asdV F]).map V5.pd)))) :=
      ev_cmp (ev_cal (p := ([.dat (vsD (vs ++ [cutV F])), .dat (ptD x y)], [6])) (ea_pk (ev_ol rfl) rfl (ea_d (ev_dat rfl) ea_nil)) p1 (by show (false || flatPs (([0, (vs.length : Int) + 1] : List Int).map .int)) = true; rw [flat_is]; rfl) rfl) (w := .fr (.ol (([0, (vs.length : Int) + 1] : List Int).map .int))) (by kernel_rfl) rfl rfl (ne_ints _ _)
    rw [decide_eq_true rfl] at c1
    have c2 : evalE (gOf gints) (pr (n + 5)) (.cmp .ne (.cal 9 (.cons (.var 7) (.cons (.var 1) .nil))) (.var 3)) (ZE vs x y F P (vs.length : Int) x5 (some (.ol ((vs ++ [cutV F]).map V5.pd))) (some (.ol ((vs ++ [asdV F]).map V5.pd)))) = .ok (.d (.bool (!decide (P = P)))) (ZE vs x y F P (vs.length : Int) x5 (some (.ol ((vs ++ [cutV F]).map V5.pd))) (some (.ol ((vs ++ [asdV F]).map V5.pd)))) :=
      ev_cmp (ev_cal (p := ([.dat (vsD (vs ++ [asdV F])), .dat (ptD x y)], [7])) (ea_pk (ev_ol rfl) rfl (ea_d (ev_dat rfl) ea_nil)) p2 (by show (false || flatPs (P.map .int)) = true; rw [flat_is]; rfl) rfl) (ev_ol rfl) rfl rfl (ne_ints _ _)
    rw [decide_eq_true rfl] at c2
    exact (ex_seq ((ex_ifF (ev_or (k := false) (m := false) c1 rfl fun _ => c2) rfl).trans ex_nil)).trans ex_nil
  · rw [decide_eq_false h12] at c
    exact ⟨none, none, (ex_ifF c rfl).trans ex_nil⟩
theorem r_last (n : Nat) (vs : List V5) (x y F : Int) (ok : VOk vs) (hl : vs.length ≤ 12) (hF : 4 < F ∧ F ≤ 10 ^ 8) (hx : -(26 * F) ≤ x ∧ x ≤ 26 * F) (hy : -(26 * F) ≤ y ∧ y ≤ 26 * F) :
    pr (n + 6) 19 [.dat (vsD vs), .dat (ptD x y), di F] = .ok (.d (.bool true)) [some (.dat (vsD vs)), some (.dat (ptD x y)), some (di F)] := by
  rw [pr_at (f := ⟨3, 8, b__law_last_right⟩) rfl rfl]
  obtain ⟨x5, e1⟩ := last_ok n vs x y F ok hl
  obtain ⟨x6, x7, e2⟩ := more_ok n vs x y F x5 ok hl hF hx hy
  have ep := r_path n vs x y ok hl
  generalize pathI 12 vs 0 x y = P at *
  refine runB_ret (f := ⟨3, 8, b__law_last_right⟩) (as := [.dat (vsD vs), .dat (ptD x y), di F]) (ρ := ZE vs x y F P (vs.length : Int) x5 x6 x7) ?_
  have em : ((vs.map V5.pd).length : Int) = (vs.length : Int) := by rw [List.length_map]
  refine (ex_seq (ρ1 := ZE vs x y F P (vs.length : Int) none none none) (ex_par_fd (ρ1 := [some (.dat (vsD vs)), some (.dat (ptD x y)), some (di F), none, none, none, none, none]) (ρ2 := [some (.dat (vsD vs)), some (.dat (ptD x y)), some (di F), none, none, none, none, none]) (ev_cal (p := ([.dat (vsD vs), .dat (ptD x y)], [])) (by kernel_rfl) ep rfl rfl) (by rw [← em]; exact ev_bi (ep_cons (ev_dat rfl) ep_nil rfl) len_ok))).trans ?_
  refine (ex_seq e1).trans ?_
  refine (ex_seq e2).trans ?_
  exact ex_stop (ex_ret_d ev_cst) fun z => nomatch z
end Lw
set_option Elab.async false
set_option linter.all false
set_option maxRecDepth 100000
set_option maxHeartbeats 4000000
namespace Lw
open PySem TL
theorem many_ok (n : Nat) (ρ : Ev) (t a b c : Int) (h2 : ρ[2]? = some (some (foD a b c))) (h3 : ρ[3]? = some (some (di t))) (hb : 0 ≤ b ∧ b ≤ 10 ^ 42) (hc : 0 ≤ c ∧ c ≤ 10 ^ 6) :
    ∃ (m : Nat) (a1 c1 : Int), evalE (gOf gints) (pr (n + 1)) (.ife (.cmp .eq (.var 3) (.cst (.int 0))) (.cst (.int 12)) (.cal 12 (.io 2 (.cons (.cst (.int 13)) .nil)))) ρ = .ok (.d (.int (m : Int))) (ρ.set 2 (some (foD a1 b c1))) ∧ m ≤ 12 ∧ (0 ≤ c1 ∧ c ≤ c1 ∧ c1 ≤ c + 1) := by
  have e0 : evalE (gOf gints) (pr (n + 1)) (.cmp .eq (.var 3) (.cst (.int 0))) ρ = .ok (.d (.bool (PyData.eqv (.int t) (.int 0)))) ρ := ev_cmp (ev_dat h3) ev_cst rfl rfl rfl
  cases h : PyData.eqv (.int t) (.int 0) with
  | true =>
    rw [h] at e0
    refine ⟨12, a, c, ?_, by decide, by omega⟩
    rw [ev_if1 e0 rfl]
    have same : ρ.set 2 (some (foD a b c)) = ρ := by
      refine List.ext_getElem? fun i => ?_
      rw [List.getElem?_set]
      have lt := (List.getElem?_eq_some_iff.mp h2).1
      by_cases e : 2 = i
      · subst e
        rw [if_pos rfl, if_pos lt, h2]
      · rw [if_neg e]
    rw [same]
    exact ev_cst
  | false =>
    rw [h] at e0
    obtain ⟨d, a1, c1, e1, d0, d1, hc1⟩ := dipC n 2 ρ (.cst (.int 13)) a b c 13 h2 ev_cst (by decide) (by decide) hb (by omega)
    refine ⟨d.toNat, a1, c1, ?_, by omega, by omega⟩
    rw [ev_if0 e0 rfl, Int.toNat_of_nonneg d0]
    exact e1
def fars : List Int := [5, 50, 10 ^ 6]
theorem far_in {F : Int} (h : F ∈ fars) : (4 < F ∧ F ≤ 10 ^ 6) ∧ 16 ≤ (10 ^ 9) / (60 * F) ∧ (10 ^ 9) / (60 * F) ≤ 10 ^ 8 := by
  unfold fars at h
  simp only [List.mem_cons, List.not_mem_nil, or_false] at h
  rcases h with rfl | rfl | rfl <;> decide
theorem ev_slk {G : List Pd} {C : Calls} {ρ ρ1 ρ2 : Ev} {a lo : IE} {v w : Vl} {xs : List Pd} {i : Int} {k : Nat} (h1 : evalE G C a ρ = .ok v ρ1) (h2 : evalE G C lo ρ1 = .ok w ρ2) (k1 : seen v (ioE lo) = some (.list xs)) (k2 : w.view = some (.int i)) (hk : 0 < k) : evalE G C (.slk a lo k) ρ = .ok (.fr (.ol (pickS (idxS i (k : Int) xs.length) xs))) ρ2 := by
  unfold evalE
  rw [h1]
  show (evalE G C lo ρ1).bind _ = _
  rw [h2]
  show (match seen v (ioE lo), w.view with | some (.list xs), some (.int i) => if 0 < k then _ else _ | _, _ => _) = _
  rw [k1, k2]
  show (if 0 < k then _ else _) = _
  rw [if_pos hk]
theorem pick_mem {α : Type} {x : α} {is : List Nat} {xs : List α} (h : x ∈ pickS is xs) : x ∈ xs := by
  unfold pickS at h
  obtain ⟨i, _, e⟩ := List.mem_filterMap.mp h
  exact List.mem_of_getElem? e
abbrev TE (ns : List Int) (k : Int) (fo : Ob) (t : Int) (x4 x5 x6 x7 x8 : Option Ob) : Ev := [some (.dat (.list (ns.map .int))), some (di k), some fo, some (di t), x4, x5, x6, x7, x8]
def plB3 : IS := (.seq (.if_ (.or_ (.not_ (.cal 16 (.cons (.var 5) (.cons (.var 8) .nil)))) (.not_ (.cal 18 (.cons (.var 5) (.cons (.var 8) (.cons (.var 7) .nil)))))) (.seq (.ret (.cst (.bool false))) .nil) .nil) (.seq (.if_ (.not_ (.cal 19 (.cons (.var 5) (.cons (.var 8) (.cons (.var 4) .nil))))) (.seq (.ret (.cst (.bool false))) .nil) .nil) .nil))
theorem vr_in {vs : List V5} {F : Int} (h : VR vs (0 - F - 12) (25 * F) F) (hF : 4 < F ∧ F ≤ 10 ^ 6) : ∀ v ∈ vs, v.in_ (10 ^ 20) := fun v hv => by
  obtain ⟨i, hi⟩ := List.mem_iff_getElem?.mp hv
  obtain ⟨⟨k1, k2, k3, k4⟩, k5, k6, k7, k8⟩ := h i v hi
  exact ⟨by omega, by omega, by omega, by omega⟩
theorem pl3_ok (n : Nat) (ns : List Int) (k t F M e x y : Int) (fo : Ob) (vs : List V5) (ok : VOk vs) (hl : vs.length ≤ 12) (hF : 4 < F ∧ F ≤ 10 ^ 6) (hv : VR vs (0 - F - 12) (25 * F) F) (hp : PIn (26 * F) (x, y)) (he : -(10 ^ 19) ≤ e ∧ e ≤ 10 ^ 19) :
    execS (gOf gints) (pr (n + 6)) plB3 (TE ns k fo t (some (di F)) (some (.ol (vs.map V5.pd))) (some (di M)) (some (di e)) (some (.dat (ptD x y)))) = .ok .nx (TE ns k fo t (some (di F)) (some (.ol (vs.map V5.pd))) (some (di M)) (some (di e)) (some (.dat (ptD x y)))) := by
  obtain ⟨⟨p1, p2⟩, p3, p4⟩ := hp
  dsimp only at p1 p2 p3 p4
  have c1 : evalE (gOf gints) (pr (n + 6)) (.not_ (.cal 16 (.cons (.var 5) (.cons (.var 8) .nil)))) (TE ns k fo t (some (di F)) (some (.ol (vs.map V5.pd))) (some (di M)) (some (di e)) (some (.dat (ptD x y)))) = .ok (.d (.bool false)) (TE ns k fo t (some (di F)) (some (.ol (vs.map V5.pd))) (some (di M)) (some (di e)) (some (.dat (ptD x y)))) :=
    ev_not (i := true) (ev_cal (p := ([.dat (vsD vs), .dat (ptD x y)], [5])) (ea_pk (ev_ol rfl) rfl (ea_d (ev_dat rfl) ea_nil)) (r_pright n vs x y ok hl) rfl rfl) rfl
  have c2 : evalE (gOf gints) (pr (n + 6)) (.not_ (.cal 18 (.cons (.var 5) (.cons (.var 8) (.cons (.var 7) .nil))))) (TE ns k fo t (some (di F)) (some (.ol (vs.map V5.pd))) (some (di M)) (some (di e)) (some (.dat (ptD x y)))) = .ok (.d (.bool false)) (TE ns k fo t (some (di F)) (some (.ol (vs.map V5.pd))) (some (di M)) (some (di e)) (some (.dat (ptD x y)))) :=
    ev_not (i := true) (ev_cal (p := ([.dat (vsD vs), .dat (ptD x y), di e], [5])) (ea_pk (ev_ol rfl) rfl (ea_d (ev_dat rfl) (ea_d (ev_dat rfl) ea_nil))) (r_ways n vs x y e ok hl (by omega) (by omega) he (vr_in hv hF)) rfl rfl) rfl
  have c3 : evalE (gOf gints) (pr (n + 6)) (.not_ (.cal 19 (.cons (.var 5) (.cons (.var 8) (.cons (.var 4) .nil))))) (TE ns k fo t (some (di F)) (some (.ol (vs.map V5.pd))) (some (di M)) (some (di e)) (some (.dat (ptD x y)))) = .ok (.d (.bool false)) (TE ns k fo t (some (di F)) (some (.ol (vs.map V5.pd))) (some (di M)) (some (di e)) (some (.dat (ptD x y)))) :=
    ev_not (i := true) (ev_cal (p := ([.dat (vsD vs), .dat (ptD x y), di F], [5])) (ea_pk (ev_ol rfl) rfl (ea_d (ev_dat rfl) (ea_d (ev_dat rfl) ea_nil))) (r_last n vs x y F ok hl (by omega) (by omega) (by omega)) rfl rfl) rfl
  refine (ex_seq ((ex_ifF (ev_or (k := false) (m := false) c1 rfl fun _ => c2) rfl).trans ex_nil)).trans ?_
  exact (ex_seq ((ex_ifF c3 rfl).trans ex_nil)).trans ex_nil
def turnB : IS := (.seq (.set 4 (.idx (.lst (.cons (.cst (.int 5)) (.cons (.cst (.int 50)) (.cons (.bin .pow (.cst (.int 10)) (.cst (.int 6))) .nil)))) (.cal 12 (.io 2 (.cons (.cst (.int 3)) .nil))))) (.seq (.set 5 (.cal 13 (.io 2 (.cons (.ife (.cmp .eq (.var 3) (.cst (.int 0))) (.cst (.int 12)) (.cal 12 (.io 2 (.cons (.cst (.int 13)) .nil)))) (.cons (.var 4) .nil))))) (.seq (.set 6 (.bin .fdiv (.bin .pow (.cst (.int 10)) (.cst (.int 9))) (.bin .mul (.cst (.int 60)) (.var 4)))) (.seq (.set 7 (.idx (.lst (.cons (.bin .sub (.cal 12 (.io 2 (.cons (.cst (.int 9)) .nil))) (.cst (.int 4))) (.cons (.bin .sub (.cal 12 (.io 2 (.cons (.bin .mul (.cst (.int 2)) (.var 6)) .nil))) (.var 6)) .nil))) (.cal 12 (.io 2 (.cons (.cst (.int 2)) .nil))))) (.seq (.for_ (.nm 8) (.val (.slk (.cal 15 (.cons (.var 5) .nil)) (.cal 12 (.io 2 (.cons (.cst (.int 3)) .nil))) 3)) plB3) .nil)))))
theorem turn_ok (n : Nat) (ns : List Int) (k t a b c : Int) (x4 x5 x6 x7 x8 : Option Ob) (hb : 0 ≤ b ∧ b ≤ 10 ^ 42) (hc : 0 ≤ c ∧ c ≤ 10 ^ 5) :
    ∃ (a' c' : Int) (y4 y5 y6 y7 y8 : Option Ob), execS (gOf gints) (pr (n + 6)) turnB (TE ns k (foD a b c) t x4 x5 x6 x7 x8) = .ok .nx (TE ns k (foD a' b c') t y4 y5 y6 y7 y8) ∧ (0 ≤ c' ∧ c ≤ c' ∧ c' ≤ c + 300) := by
  obtain ⟨d, a1, c1, e1, d0, d1, hc1⟩ := dipC (n + 5) 2 (TE ns k (foD a b c) t x4 x5 x6 x7 x8) (.cst (.int 3)) a b c 3 rfl ev_cst (by decide) (by decide) hb (by omega)
  obtain ⟨F, mF, eF⟩ := idx_any (ys := fars) (j := d) (by show -3 ≤ d; omega) (by show d < 3; omega)
  obtain ⟨hF, hM0, hM1⟩ := far_in mF
  obtain ⟨m, a2, c2, e2, hm, hc2⟩ := many_ok (n + 5) (TE ns k (foD a1 b c1) t (some (di F)) x5 x6 x7 x8) t a1 b c1 rfl rfl hb (by omega)
  obtain ⟨a3, c3, vs, e3, vok, vl, vin, hc3⟩ := viewsC (n + 4) 2 (TE ns k (foD a1 b c1) t (some (di F)) x5 x6 x7 x8) (TE ns k (foD a2 b c2) t (some (di F)) x5 x6 x7 x8) _ (.var 4) a1 b c1 a2 c2 F m rfl e2 rfl (ev_dat rfl) hb (by omega) (by omega) hm
  have e6 : evalE (gOf gints) (pr (n + 6)) (.bin .fdiv (.bin .pow (.cst (.int 10)) (.cst (.int 9))) (.bin .mul (.cst (.int 60)) (.var 4))) (TE ns k (foD a3 b c3) t (some (di F)) (some (.ol (vs.map V5.pd))) x6 x7 x8) = .ok (.d (.int ((10 ^ 9) / (60 * F)))) (TE ns k (foD a3 b c3) t (some (di F)) (some (.ol (vs.map V5.pd))) x6 x7 x8) :=
    ev_bin (o := .fdiv) (x := .int (10 ^ 9)) (y := .int (60 * F)) (v := .d (.int (10 ^ 9))) (ρ1 := TE ns k (foD a3 b c3) t (some (di F)) (some (.ol (vs.map V5.pd))) x6 x7 x8) (by kernel_rfl) (ev_bin ev_cst (ev_dat rfl) rfl rfl (mul_ok (by
      have q1 := log2_le (i := 60) (n := 10) (by decide)
      have q2 := log2_le (i := F) (n := 100) (by omega)
      omega))) rfl rfl (fdiv_ok (by omega) (Nat.lt_of_le_of_lt (log2_le (n := 100) (by omega)) (by decide)))
  generalize (10 ^ 9 : Int) / (60 * F) = M at *
  obtain ⟨d4, a4, c4, e4, d40, d41, hc4⟩ := dipC (n + 5) 2 (TE ns k (foD a3 b c3) t (some (di F)) (some (.ol (vs.map V5.pd))) (some (di M)) x7 x8) (.cst (.int 9)) a3 b c3 9 rfl ev_cst (by decide) (by decide) hb (by omega)
  have eM : ∀ a c : Int, evalE (gOf gints) (pr (n + 6)) (.bin .mul (.cst (.int 2)) (.var 6)) (TE ns k (foD a b c) t (some (di F)) (some (.ol (vs.map V5.pd))) (some (di M)) x7 x8) = .ok (.d (.int (2 * M))) (TE ns k (foD a b c) t (some (di F)) (some (.ol (vs.map V5.pd))) (some (di M)) x7 x8) := fun a c => ev_bin ev_cst (ev_dat rfl) rfl rfl (mul_ok (by
    have q1 := log2_le (i := 2) (n := 10) (by decide)
    have q2 := log2_le (i := M) (n := 100) (by omega)
    omega))
  obtain ⟨d5, a5, c5, e5, d50, d51, hc5⟩ := dipC (n + 5) 2 (TE ns k (foD a4 b c4) t (some (di F)) (some (.ol (vs.map V5.pd))) (some (di M)) x7 x8) (.bin .mul (.cst (.int 2)) (.var 6)) a4 b c4 (2 * M) rfl (eM a4 c4) (by omega) (by omega) hb (by omega)
  obtain ⟨d6, a6, c6, e7, d60, d61, hc6⟩ := dipC (n + 5) 2 (TE ns k (foD a5 b c5) t (some (di F)) (some (.ol (vs.map V5.pd))) (some (di M)) x7 x8) (.cst (.int 2)) a5 b c5 2 rfl ev_cst (by decide) (by decide) hb (by omega)
  obtain ⟨e, me, ee⟩ := idx_any (ys := [d4 - 4, d5 - M]) (j := d6) (by show -2 ≤ d6; omega) (by show d6 < 2; omega)
  have he : -(10 ^ 19) ≤ e ∧ e ≤ 10 ^ 19 := by
    simp only [List.mem_cons, List.not_mem_nil, or_false] at me
    rcases me with rfl | rfl <;> omega
  obtain ⟨ps, p1, _, pl, pin⟩ := r_places (n + 5) vs (by omega) F hF.1 vin
  obtain ⟨d7, a7, c7, e8, d70, d71, hc7⟩ := dipC (n + 5) 2 (TE ns k (foD a6 b c6) t (some (di F)) (some (.ol (vs.map V5.pd))) (some (di M)) (some (di e)) x8) (.cst (.int 3)) a6 b c6 3 rfl ev_cst (by decide) (by decide) hb (by omega)
  obtain ⟨ρ2, e9, y8, rfl⟩ := forGo_inv (f := forF (gOf gints) (pr (n + 6)) (.nm 8) plB3) (xs := pickS (idxS d7 (3 : Nat) (ps.map ptP).length) (ps.map ptP)) (ρ := TE ns k (foD a7 b c7) t (some (di F)) (some (.ol (vs.map V5.pd))) (some (di M)) (some (di e)) x8)
    (fun _ ρ => ∃ y8, ρ = TE ns k (foD a7 b c7) t (some (di F)) (some (.ol (vs.map V5.pd))) (some (di M)) (some (di e)) y8) ⟨x8, rfl⟩ (by
    rintro i x _ hx ⟨y8, rfl⟩
    obtain ⟨⟨x, y⟩, hp, rfl⟩ := List.mem_map.mp (pick_mem (List.mem_of_getElem? hx))
    exact ⟨_, .inl (forF_ok (ρ1 := TE ns k (foD a7 b c7) t (some (di F)) (some (.ol (vs.map V5.pd))) (some (di M)) (some (di e)) (some (.dat (ptD x y)))) rfl (pl3_ok n ns k t F M e x y _ vs vok (by omega) hF vin (pin _ hp) he)), _, rfl⟩)
  refine ⟨a7, c7, some (di F), some (.ol (vs.map V5.pd)), some (di M), some (di e), y8, ?_, by omega⟩
  refine (ex_seq (ρ1 := TE ns k (foD a1 b c1) t (some (di F)) x5 x6 x7 x8) (ex_set_d (ev_idx (x := .list (fars.map .int)) (y := .int d) (v := .fr (.ol (fars.map .int))) (ρ1 := TE ns k (foD a b c) t x4 x5 x6 x7 x8) (by kernel_rfl) e1 rfl rfl eF))).trans ?_
  refine (ex_seq (ρ1 := TE ns k (foD a3 b c3) t (some (di F)) (some (.ol (vs.map V5.pd))) x6 x7 x8) (ex_set_fr e3)).trans ?_
  refine (ex_seq (ρ1 := TE ns k (foD a3 b c3) t (some (di F)) (some (.ol (vs.map V5.pd))) (some (di M)) x7 x8) (ex_set_d e6)).trans ?_
  refine (ex_seq (ρ1 := TE ns k (foD a6 b c6) t (some (di F)) (some (.ol (vs.map V5.pd))) (some (di M)) (some (di e)) x8) (ex_set_d (ev_idx (x := .list (([d4 - 4, d5 - M] : List Int).map .int)) (y := .int d6) (v := .fr (.ol (([d4 - 4, d5 - M] : List Int).map .int))) (ev_lst (ed_cons (ev_bin (o := .sub) (x := .int d4) (y := .int 4) (u := .d (.int (d4 - 4))) e4 ev_cst rfl rfl rfl) rfl (ed_cons (ev_bin (o := .sub) (x := .int d5) (y := .int M) (u := .d (.int (d5 - M))) e5 (ev_dat rfl) rfl rfl rfl) rfl ed_nil))) e7 rfl rfl ee))).trans ?_
  have ei : evalI (gOf gints) (pr (n + 6)) (.val (.slk (.cal 15 (.cons (.var 5) .nil)) (.cal 12 (.io 2 (.cons (.cst (.int 3)) .nil))) 3)) (TE ns k (foD a6 b c6) t (some (di F)) (some (.ol (vs.map V5.pd))) (some (di M)) (some (di e)) x8) = .ok (pickS (idxS d7 (3 : Nat) (ps.map ptP).length) (ps.map ptP), []) (TE ns k (foD a7 b c7) t (some (di F)) (some (.ol (vs.map V5.pd))) (some (di M)) (some (di e)) x8) := by
    unfold evalI
    rw [ev_slk (ev_cal (p := ([.dat (vsD vs)], [5])) (ea_pk (ev_ol rfl) rfl ea_nil) p1 (by show (false || flatPs (ps.map ptP)) = true; rw [flat_pts]; rfl) rfl) e8 rfl rfl (by decide)]
    rfl
  exact (ex_seq (ex_for ei e9)).trans ex_nil
def it3 : II := .rng1 (.idx (.lst (.cons (.cst (.int 1)) (.cons (.cst (.int 2)) .nil))) (.bi .int1 (.cons (.cmp .eq (.var 1) (.cst (.int 0))) .nil)))
def outB : IS := (.seq (.set 2 (.cal 11 (.cons (.var 0) (.cons (.var 1) .nil)))) (.seq (.for_ (.nm 3) it3 turnB) .nil))
abbrev UE (ns : List Int) (k : Int) (x2 x3 x4 x5 x6 x7 x8 : Option Ob) : Ev := [some (.dat (.list (ns.map .int))), some (di k), x2, x3, x4, x5, x6, x7, x8]
theorem it3_ok (n : Nat) (ns : List Int) (k : Nat) (hk : k < 3) (x2 x3 x4 x5 x6 x7 x8 : Option Ob) : ∃ r : Int, evalI (gOf gints) (pr n) it3 (UE ns (k : Int) x2 x3 x4 x5 x6 x7 x8) = .ok (rngD 0 r, []) (UE ns (k : Int) x2 x3 x4 x5 x6 x7 x8) ∧ r ≤ 2 := by
  have : k = 0 ∨ k = 1 ∨ k = 2 := by omega
  unfold it3
  rcases this with rfl | rfl | rfl
  · exact ⟨2, by kernel_rfl, by decide⟩
  · exact ⟨1, by kernel_rfl, by decide⟩
  · exact ⟨1, by kernel_rfl, by decide⟩
theorem out_ok (n : Nat) (ns : List Int) (k : Nat) (hk : k < 3) (x2 x3 x4 x5 x6 x7 x8 : Option Ob) :
    ∃ (y2 y3 y4 y5 y6 y7 y8 : Option Ob), execS (gOf gints) (pr (n + 6)) outB (UE ns (k : Int) x2 x3 x4 x5 x6 x7 x8) = .ok .nx (UE ns (k : Int) y2 y3 y4 y5 y6 y7 y8) := by
  obtain ⟨a, b, e1, hb⟩ := r_fount (n + 5) ns k (by omega)
  obtain ⟨r, ei, hr⟩ := it3_ok (n + 6) ns k hk (some (foD a b 0)) x3 x4 x5 x6 x7 x8
  obtain ⟨ρ2, e2, a', c', y3, y4, y5, y6, y7, y8, rfl, _⟩ := forGo_inv (f := forF (gOf gints) (pr (n + 6)) (.nm 3) turnB) (xs := rngD 0 r) (ρ := UE ns (k : Int) (some (foD a b 0)) x3 x4 x5 x6 x7 x8)
    (fun i ρ => ∃ (a' c' : Int) (y3 y4 y5 y6 y7 y8 : Option Ob), ρ = UE ns (k : Int) (some (foD a' b c')) y3 y4 y5 y6 y7 y8 ∧ (0 ≤ c' ∧ c' ≤ 300 * (i : Int)))
    ⟨a, 0, x3, x4, x5, x6, x7, x8, rfl, by omega⟩ (by
    rintro i x _ hx ⟨a1, c1, y3, y4, y5, y6, y7, y8, rfl, hc1⟩
    obtain ⟨rfl, hi⟩ := rng_at hx
    obtain ⟨a2, c2, z4, z5, z6, z7, z8, e, hc2⟩ := turn_ok n ns (k : Int) (0 + (i : Int)) a1 b c1 y4 y5 y6 y7 y8 hb (by omega)
    exact ⟨_, .inl (forF_ok (ρ1 := TE ns (k : Int) (foD a1 b c1) (0 + (i : Int)) y4 y5 y6 y7 y8) rfl e), a2, c2, _, _, _, _, _, _, rfl, by omega⟩)
  refine ⟨some (foD a' b c'), y3, y4, y5, y6, y7, y8, ?_⟩
  refine (ex_seq (ρ1 := UE ns (k : Int) (some (foD a b 0)) x3 x4 x5 x6 x7 x8) (ex_set_fr (ev_cal (p := ([.dat (.list (ns.map .int)), di (k : Int)], [])) (ρ2 := UE ns (k : Int) x2 x3 x4 x5 x6 x7 x8) (by kernel_rfl) e1 rfl rfl))).trans ?_
  exact (ex_seq (ex_for ei e2)).trans ex_nil
def it1 : II := .rng1 (.bi .max2 (.cons (.cst (.int 1)) (.cons (.bi .min2 (.cons (.cst (.int 3)) (.cons (.bi .len (.cons (.var 0) .nil)) .nil))) .nil)))
theorem it1_ok (ns : List Int) (hns : ns.length ≤ 63) : ∃ r : Int, evalI (gOf gints) (pr 11) it1 [some (.dat (.list (ns.map .int))), none, none, none, none, none, none, none, none] = .ok (rngD 0 r, []) [some (.dat (.list (ns.map .int))), none, none, none, none, none, none, none, none] ∧ r ≤ 3 := by
  have q : ∀ L : Nat, L ≤ 63 → ∃ r : Int, (if (if (L : Int) < 3 then (L : Int) else 3) > 1 then (if (L : Int) < 3 then (L : Int) else 3) else 1) = r ∧ smallI r = true ∧ r ≤ 3 := by
    intro L hL
    refine ⟨_, rfl, ?_, by split <;> split <;> omega⟩
    unfold smallI
    simp only [Bool.and_eq_true, decide_eq_true_eq]
    split <;> split <;> omega
  obtain ⟨r, e1, e2, e3⟩ := q ns.length hns
  refine ⟨r, ei_rng1 (v := .d (.int r)) ?_ rfl e2, e3⟩
  have el : evalE (gOf gints) (pr 11) (.bi .len (.cons (.var 0) .nil)) [some (.dat (.list (ns.map .int))), none, none, none, none, none, none, none, none] = .ok (.d (.int (ns.length : Int))) [some (.dat (.list (ns.map .int))), none, none, none, none, none, none, none, none] := by
    have := ev_bi (G := gOf gints) (C := pr 11) (f := .len) (ep_cons (ev_dat (i := 0) (x := .list (ns.map .int)) (ρ := [some (.dat (.list (ns.map .int))), none, none, none, none, none, none, none, none]) rfl) ep_nil rfl) len_ok
    rw [List.length_map] at this
    exact this
  refine ev_bi (xs := [.int 1, .int (if (ns.length : Int) < 3 then (ns.length : Int) else 3)]) (ep_cons ev_cst (ep_cons (ev_bi (xs := [.int 3, .int (ns.length : Int)]) (ep_cons ev_cst (ep_cons el ep_nil rfl) rfl) rfl) ep_nil rfl) rfl) ?_
  rw [← e1]
  rfl
theorem plain : Plain := by
  intro ns hns
  obtain ⟨r, ei, hr⟩ := it1_ok ns hns
  obtain ⟨ρ2, e2, x1, x2, x3, x4, x5, x6, x7, x8, rfl⟩ := forGo_inv (f := forF (gOf gints) (pr 11) (.nm 1) outB) (xs := rngD 0 r) (ρ := [some (.dat (.list (ns.map .int))), none, none, none, none, none, none, none, none])
    (fun i ρ => ∃ (x1 x2 x3 x4 x5 x6 x7 x8 : Option Ob), ρ = [some (.dat (.list (ns.map .int))), x1, x2, x3, x4, x5, x6, x7, x8])
    ⟨none, none, none, none, none, none, none, none, rfl⟩ (by
    rintro i x _ hx ⟨x1, x2, x3, x4, x5, x6, x7, x8, rfl⟩
    obtain ⟨rfl, hi⟩ := rng_at hx
    obtain ⟨y2, y3, y4, y5, y6, y7, y8, e⟩ := out_ok 5 ns i (by omega) x2 x3 x4 x5 x6 x7 x8
    exact ⟨_, .inl (forF_ok (ρ1 := UE ns (i : Int) x2 x3 x4 x5 x6 x7 x8) (by rw [Int.zero_add]; rfl) e), _, _, _, _, _, _, _, _, rfl⟩)
  refine ⟨outs ⟨1, 9, b_law⟩ [some (.dat (.list (ns.map .int))), x1, x2, x3, x4, x5, x6, x7, x8], ?_⟩
  show pr (11 + 1) 20 [.dat (.list (ns.map .int))] = _
  rw [pr_at (f := ⟨1, 9, b_law⟩) rfl rfl]
  refine runB_ret (f := ⟨1, 9, b_law⟩) (as := [.dat (.list (ns.map .int))]) (ρ := [some (.dat (.list (ns.map .int))), x1, x2, x3, x4, x5, x6, x7, x8]) ?_
  show execS (gOf gints) (pr 11) (.seq (.for_ (.nm 1) it1 outB) (.seq (.ret (.cst (.bool true))) .nil)) [some (.dat (.list (ns.map .int))), none, none, none, none, none, none, none, none] = _
  exact (ex_seq (ex_for ei e2)).trans (ex_stop (ex_ret_d ev_cst) fun z => nomatch z)
theorem holds : PySem.Challenge.rw_touchcontest_k03_whole_paths_moved_and_c.Holds := walked plain
end Lw
theorem PySem.Challenge.cw_touchcontest_k03_whole_paths_moved_and_c_holds : PySem.Challenge.rw_touchcontest_k03_whole_paths_moved_and_c.Holds :=
  Lw.holds
