import PyProof.Rows.All
import Wide.All
import OpenK.AllK
import Wide.FinOn
import KE.DataMinKey
import HandS.ForMost
import HandS.ForExc
import HandS.Walk
import HandS.Text
import HandS.Codes
import HandS.IsInst
import HandS.Wide
import HandS.TupAny
import HandS.TupMul
import HandS.Style
import HandS.Deep
import HandS.Zip
import PyProof.Rows.IntBool
import KE.SortData
import KE.SortKeyHeap
import HandS.SortKw
import HandS.Conv
import HandS.Lambda
import HandS.ExcIs
import HandS.HotCalls
import KE.KStateDown
import HandS.Ends
import HandS.Head0
import HandS.Head1
import HandS.Head2
import HandS.HeadEnd
import HandS.HeadHook1
import HandS.EndTab
import HandS.HeadHook4
import HandS.HeadWalk
import HandS.NestedK
import PySem.Challenge.RW_badbytes_k72_formats
set_option Elab.async false
set_option linter.all false
set_option maxRecDepth 100000
/-! ## the pure layer 1: a small language of its own and its evaluator over plain data -/
namespace BB
open PySem

inductive Out (α : Type) where
  | ok (a : α)
  | exc (c : Str)
  | bad
def Out.bind {α β : Type} (x : Out α) (f : α → Out β) : Out β := match x with
  | .ok a => f a
  | .exc c => .exc c
  | .bad => .bad
def Out.noexc {α : Type} (x : Out α) : Out α := match x with
  | .ok a => .ok a
  | _ => .bad
@[simp] theorem Out.bind_ok {α β : Type} (a : α) (f : α → Out β) : (Out.ok a).bind f = f a := id rfl
@[simp] theorem Out.bind_exc {α β : Type} (c : Str) (f : α → Out β) : (Out.exc c : Out α).bind f = .exc c := id rfl
@[simp] theorem Out.bind_bad {α β : Type} (f : α → Out β) : (Out.bad : Out α).bind f = .bad := id rfl
@[simp] theorem Out.noexc_ok {α : Type} (a : α) : (Out.ok a).noexc = .ok a := id rfl

abbrev D := PyData
abbrev LIM : Nat := 1000000

inductive Bop where
  | add | sub | mul | fdiv | mod | pow
  deriving DecidableEq
inductive Cop where
  | eq | ne | lt | le | gt | ge | isin | notin | is | isnot
  deriving DecidableEq
inductive Blt where
  | len | all | any | max | min | sum | list | tuple | sorted
  deriving DecidableEq

/-! ### operations on data -/
def small (i : Int) : Bool := decide (-(2 ^ 64) < i) && decide (i < 2 ^ 64)
def addD : D → D → Out D
  | .int i, .int j => .ok (.int (i + j))
  | .tuple xs, .tuple ys => if xs.length + ys.length ≤ LIM then .ok (.tuple (xs ++ ys)) else .bad
  | .list xs, .list ys => if xs.length + ys.length ≤ LIM then .ok (.list (xs ++ ys)) else .bad
  | .str x, .str y => if x.length + y.length ≤ LIM then .ok (.str (x ++ y)) else .bad
  | _, _ => .bad
def subD : D → D → Out D
  | .int i, .int j => .ok (.int (i - j))
  | _, _ => .bad
/-- a text so many times -/
def repS (x : Str) (n : Nat) : Str := ⟨(List.replicate n x.cps).foldl (· ++ ·) #[]⟩
def mulD : D → D → Out D
  | .int i, .int j => if small i || small j then .ok (.int (i * j)) else .bad
  | .int i, .bool b => .ok (.int (if b then i else 0))
  | .tuple xs, .int k => if 0 ≤ k ∧ k ≤ 1000 ∧ xs.isEmpty = false ∧ xs.length ≤ 1000 then .ok (.tuple (List.replicate k.toNat xs).flatten) else .bad
  | .list xs, .int k => if 0 ≤ k ∧ k ≤ 1000 ∧ xs.length ≤ 1000 then .ok (.list (List.replicate k.toNat xs).flatten) else .bad
  | .str x, .int k => if 2 ≤ k ∧ k ≤ 1000 ∧ 0 < x.length ∧ x.length ≤ 1000 then .ok (.str (repS x k.toNat)) else .bad
  | _, _ => .bad
def fdivD : D → D → Out D
  | .int i, .int j => if 0 < j ∧ j < 2 ^ 64 then .ok (.int (i / j)) else .bad
  | _, _ => .bad
def modD : D → D → Out D
  | .int i, .int j => if 0 < j then .ok (.int (i % j)) else .bad
  | _, _ => .bad
def powD : D → D → Out D
  | .int i, .int j => if 0 ≤ j ∧ j ≤ 1000 ∧ small i = true then .ok (.int (i ^ j.toNat)) else .bad
  | _, _ => .bad
def binD : Bop → D → D → Out D
  | .add => addD | .sub => subD | .mul => mulD | .fdiv => fdivD | .mod => modD | .pow => powD

def asInts : List D → Option (List Int)
  | [] => some []
  | .int i :: r => (asInts r).map (i :: ·)
  | _ :: _ => none
def asBools : List D → Option (List Bool)
  | [] => some []
  | .bool b :: r => (asBools r).map (b :: ·)
  | _ :: _ => none
def scalar : D → Bool
  | .none => true
  | .bool _ => true
  | .int _ => true
  | .str _ => true
  | _ => false
def cmpb : D → D → Bool
  | .str _, .str _ => true
  | d, e => SeqAt.shaped d && SeqAt.shaped e
def eqD (d e : D) : Out D := if cmpb d e then .ok (.bool (PyData.eqv d e)) else .bad
def neD (d e : D) : Out D := if cmpb d e then .ok (.bool (!PyData.eqv d e)) else .bad
def cmpI (p : Int → Int → Bool) : D → D → Out D
  | .int i, .int j => .ok (.bool (p i j))
  | _, _ => .bad
def ltD : D → D → Out D
  | .int i, .int j => .ok (.bool (decide (i < j)))
  | .tuple xs, .tuple ys => match asInts xs, asInts ys with
    | some ns, some ms => .ok (.bool (HT.lexLt ns ms))
    | _, _ => .bad
  | _, _ => .bad
def inb (x : D) (ys : List D) : Bool := scalar x && ys.all scalar
def inD (neg : Bool) : D → D → Out D
  | x, .list ys => if inb x ys || (SeqAt.shaped x && SeqAt.shaped (.list ys)) then .ok (.bool ((ys.any fun y => PyData.eqv y x) != neg)) else .bad
  | x, .tuple ys => if inb x ys then .ok (.bool ((ys.any fun y => PyData.eqv y x) != neg)) else .bad
  | .str a, .str b => .ok (.bool ((!(Builtin.Str.occurrences b a 0 b.length 1).isEmpty) != neg))
  | _, _ => .bad
/-- is: a constant None, True or False on the right -/
def isC : D → D → Out Bool
  | .none, .none => .ok true
  | _, .none => .ok false
  | .bool a, .bool b => .ok (decide (a = b))
  | _, _ => .bad
def isD (neg : Bool) (x y : D) : Out D := (isC x y).bind fun b => .ok (.bool (b != neg))
def cmpD : Cop → D → D → Out D
  | .eq => eqD | .ne => neD
  | .lt => ltD
  | .le => cmpI fun i j => decide (i ≤ j)
  | .gt => cmpI fun i j => decide (j < i)
  | .ge => cmpI fun i j => decide (j ≤ i)
  | .isin => inD false | .notin => inD true
  | .is => isD false | .isnot => isD true

def ixD : D → D → Out D
  | .list xs, .int i => match L2.atI xs i with
    | some d => .ok d
    | none => .bad
  | .tuple xs, .int i => match L2.atI xs i with
    | some d => .ok d
    | none => .bad
  | .str z, .int i => if z.length ≤ LIM then (match L2.atI z.cps.toList i with
    | some c => .ok (.str ⟨#[c]⟩)
    | none => .bad) else .bad
  | _, _ => .bad
def cutD (xs : List D) (lo hi : Option Int) : List D := (xs.drop (HT.sIx xs.length 0 lo)).take (HT.sIx xs.length xs.length hi - HT.sIx xs.length 0 lo)
def slD (lo hi : Option Int) : D → Out D
  | .list xs => .ok (.list (cutD xs lo hi))
  | .tuple xs => .ok (.tuple (cutD xs lo hi))
  | .str z => if z.length ≤ LIM then .ok (.str (L2.cutS z lo hi)) else .bad
  | _ => .bad
def revD : D → Out D
  | .list xs => .ok (.list xs.reverse)
  | _ => .bad
def partI : D → Out (Option Int)
  | .int i => .ok (some i)
  | _ => .bad
def negD : D → Out D
  | .int i => .ok (.int (-i))
  | _ => .bad
def asB : D → Out Bool
  | .bool b => .ok b
  | _ => .bad
def maxI : List Int → Option Int
  | [] => none
  | x :: r => match maxI r with
    | none => some x
    | some m => some (if x ≥ m then x else m)
def minI : List Int → Option Int
  | [] => none
  | x :: r => match minI r with
    | none => some x
    | some m => some (if x ≤ m then x else m)
/-- rows of ints, none empty -/
def rowsOf : List D → Option (List (List Int))
  | [] => some []
  | .tuple xs :: r => match asInts xs with
    | some (n :: ns) => (rowsOf r).map ((n :: ns) :: ·)
    | _ => none
  | _ :: _ => none
def leRow (p q : List Int) : Bool := decide (p ≤ q)
/-- by key=len -/
def lenT : D → Nat
  | .tuple xs => xs.length
  | _ => 0
def isTup : D → Bool
  | .tuple _ => true
  | _ => false
def leLen (a b : D) : Bool := decide (lenT a ≤ lenT b)
def srtLD : D → Out D
  | .list ds => if ds.all isTup = true ∧ ds.length ≤ LIM then .ok (.list (ds.mergeSort leLen)) else .bad
  | _ => .bad
def minLD : D → Out D
  | .list ds => if ds.all isTup = true then (match ds[argBest (fun i j => decide (lenT (ds.getD i .none) < lenT (ds.getD j .none))) (ds.length - 1)]? with
    | some d => .ok d
    | none => .bad) else .bad
  | _ => .bad
def bltD : Blt → List D → Out D
  | .len, [.list xs] => .ok (.int xs.length)
  | .len, [.tuple xs] => .ok (.int xs.length)
  | .len, [.str z] => if z.length ≤ LIM then .ok (.int z.length) else .bad
  | .all, [.list xs] => match asBools xs with
    | some bs => .ok (.bool (bs.all id))
    | none => .bad
  | .any, [.list xs] => match asBools xs with
    | some bs => .ok (.bool (bs.any id))
    | none => .bad
  | .max, [.list xs] => match (asInts xs).bind maxI with
    | some m => .ok (.int m)
    | none => .bad
  | .min, [.list xs] => match (asInts xs).bind minI with
    | some m => .ok (.int m)
    | none => .bad
  | .max, [.int i, .int j] => .ok (.int (if j > i then j else i))
  | .min, [.int i, .int j] => .ok (.int (if j < i then j else i))
  | .sum, [.list xs] => match asInts xs with
    | some ns => .ok (.int ns.sum)
    | none => .bad
  | .list, [.list xs] => .ok (.list xs)
  | .list, [.tuple xs] => .ok (.list xs)
  | .sorted, [.list xs] => match rowsOf xs with
    | some rs => .ok (.list ((rs.mergeSort leRow).map fun r => .tuple (r.map .int)))
    | none => .bad
  | .tuple, [.list xs] => .ok (.tuple xs)
  | .tuple, [.tuple xs] => .ok (.tuple xs)
  | _, _ => .bad
/-- isinstance of plain data, by the class's name -/
def isiD (T : String) : D → Bool
  | .none => false
  | .bool _ => T == "bool" || T == "int"
  | .int _ => T == "int"
  | .str _ => T == "str"
  | .list _ => T == "list"
  | .tuple _ => T == "tuple"
  | .dict _ => false
def noDict : D → Bool
  | .dict _ => false
  | _ => true

def lsD : D → Out (List D)
  | .list ds => .ok ds
  | _ => .bad
/-- methods of texts -/
inductive Mth where
  | join | split | index
def strOf : D → Out Str
  | .str s => .ok s
  | _ => .bad
def asStrs : List D → Option (List Str)
  | [] => some []
  | .str i :: r => (asStrs r).map (i :: ·)
  | _ :: _ => none
def mthD : Mth → Str → D → Out D
  | .join, a, .list ds => match asStrs ds with
    | some ys => if (ys.map (·.length)).sum + ys.length * a.length ≤ LIM then .ok (.str (Txt.join a ys)) else .bad
    | none => .bad
  | .split, a, .str b => if b.length ≠ 0 ∧ a.length ≤ LIM then .ok (.list ((Txt.split a b).map .str)) else .bad
  | .index, a, .str b => match Builtin.Str.occurrences a b 0 a.length 1 with
    | i :: _ => .ok (.int (i : Nat))
    | [] => .bad
  | _, _, _ => .bad
/-- l.index(y) -/
def idxD (ds : List D) (y : D) : Out D := if SeqAt.shaped (.list ds) && SeqAt.shaped y then (match ds.findIdx? fun z => PyData.eqv z y with
    | some j => .ok (.int (j : Nat))
    | none => .bad) else .bad
/-! ### the terms -/
inductive Tg where
  | one (i : Nat)
  | many (is : List Nat)
  deriving DecidableEq
mutual
inductive E where
  | var (i : Nat)
  | fld (i : Nat) (f : Str)
  | glob (j : Nat)
  | int (i : Int)
  | str (s : Str)
  | bl (b : Bool)
  | non
  | tup (es : Es)
  | lst (es : Es)
  | bin (op : Bop) (a b : E)
  | neg (a : E)
  | not (a : E)
  | bop (isAnd : Bool) (e : E) (es : Es)
  | cmp (op : Cop) (a b : E)
  | chn (op op' : Cop) (a b c : E)
  | ite (t a b : E)
  | ix (a b : E)
  | sl (a : E) (lo hi : Eo)
  | rev (a : E)
  | call (j : Nat) (es : Es)
  | blt (f : Blt) (es : Es)
  | isi (a : E) (T : String)
  | idx (a b : E)
  | mth (m : Mth) (a b : E)
  | lrg (a b : E)
  | srtL (a : E)
  | minL (a : E)
  | pick (js : List Nat) (a : E) (es : Es)
  | comp (elt : E) (tg : Tg) (it : It) (cnd : Eo) (own : List Nat)
  | comp2 (elt : E) (tg : Tg) (it : It) (cnd : Eo) (tg2 : Tg) (it2 : It) (cnd2 : Eo) (own own2 : List Nat)
inductive Es where
  | nil
  | cons (e : E) (es : Es)
inductive Eo where
  | none
  | some (e : E)
inductive It where
  | seq (e : E)
  | rng1 (a : E)
  | rng2 (a b : E)
  | zip (a b : E)
  | enum (a : E)
end

/-! ### what a frame's slots hold -/
inductive Slot where
  | non
  | val (d : D)
  | own (ds : List D)
  | obj (fs : List (Str × D))
  | thks (ps : List E)
abbrev Env := List Slot
def Slot.get : Slot → Out D
  | .non => .bad
  | .val d => .ok d
  | .own ds => .ok (.list ds)
  | .obj _ => .bad
  | .thks _ => .bad
def rd (r : Env) (i : Nat) : Out D := (r.getD i .non).get
def Slot.hide : Slot → Slot
  | .own _ => .non
  | .obj _ => .non
  | .thks _ => .non
  | s => s
def hide (r : Env) : Env := r.map Slot.hide

/-- a field of an object -/
def Slot.fld (f : Str) : Slot → Out D
  | .obj fs => match fs.lookup f with
    | some d => .ok d
    | none => .bad
  | _ => .bad
/-! ### the evaluator of expressions -/
structure Sg where
  fn : Nat → List D → Out D
  gl : Nat → D
  lam : List Str

def setMany : List Nat → List D → Env → Option Env
  | [], [], r => some r
  | i :: is, d :: ds, r => setMany is ds (r.set i (.val d))
  | _, _, _ => none
def setTg : Tg → D → Env → Option Env
  | .one i, d, r => some (r.set i (.val d))
  | .many is, .tuple ds, r => setMany is ds r
  | .many _, _, _ => none
def wipeE (r : Env) : List Nat → Env
  | [] => r
  | v :: vs => (wipeE r vs).set v .non
def compL (step : D → Out (List D)) : List D → Out (List D)
  | [] => .ok []
  | x :: xs => (step x).bind fun ys => (compL step xs).bind fun zs => .ok (ys ++ zs)
def rangeD (lo : Int) : Nat → List D
  | 0 => []
  | n + 1 => .int lo :: rangeD (lo + 1) n
def zipD : List D → List D → List D
  | x :: xs, y :: ys => .tuple [x, y] :: zipD xs ys
  | _, _ => []
def enumD (i : Int) : List D → List D
  | [] => []
  | x :: xs => .tuple [.int i, x] :: enumD (i + 1) xs
def rngOf (a b : Int) : Out (List D) := if b - a ≤ LIM ∧ -(2 ^ 60) ≤ a ∧ a ≤ 2 ^ 60 ∧ -(2 ^ 60) ≤ b ∧ b ≤ 2 ^ 60 then .ok (rangeD a (b - a).toNat) else .bad
def seqOf : D → Out (List D)
  | .list xs => .ok xs
  | .tuple xs => .ok xs
  | .str z => if z.length ≤ LIM then .ok (z.cps.toList.map fun c => .str ⟨#[c]⟩) else .bad
  | _ => .bad
def intOf : D → Out Int
  | .int i => .ok i
  | _ => .bad
/-- which of some functions -/
def pickD (js : List Nat) : D → Out Nat
  | .int i => match L2.atI js i with
    | some j => .ok j
    | none => .bad
  | _ => .bad
def zipOf : D → D → Out (List D)
  | .list xs, .list ys => if xs.length ≤ LIM then .ok (zipD xs ys) else .bad
  | .tuple xs, .tuple ys => if xs.length ≤ LIM then .ok (zipD xs ys) else .bad
  | _, _ => .bad
def enumOf : D → Out (List D)
  | .list xs => if xs.length ≤ LIM then .ok (enumD 0 xs) else .bad
  | _ => .bad

mutual
def evE (g : Sg) : E → Env → Out D
  | .var i, r => rd r i
  | .fld i f, r => (r.getD i .non).fld f
  | .glob j, _ => .ok (g.gl j)
  | .int i, _ => .ok (.int i)
  | .str s, _ => .ok (.str s)
  | .bl b, _ => .ok (.bool b)
  | .non, _ => .ok .none
  | .tup es, r => (evEs g es r).bind fun ds => .ok (.tuple ds)
  | .lst es, r => (evEs g es r).bind fun ds => .ok (.list ds)
  | .bin op a b, r => (evE g a r).bind fun x => (evE g b r).bind fun y => binD op x y
  | .neg a, r => (evE g a r).bind negD
  | .not a, r => (evE g a r).bind fun x => (asB x).bind fun b => .ok (.bool (!b))
  | .bop isAnd e es, r => (evE g e r).bind fun x => evB g isAnd es r x
  | .cmp op a b, r => (evE g a r).bind fun x => (evE g b r).bind fun y => cmpD op x y
  | .chn op op' a b c, r => (evE g a r).bind fun x => (evE g b r).bind fun y => (cmpD op x y).bind fun k => (asB k).bind fun k =>
      if k = true then (evE g c r).bind fun z => cmpD op' y z else .ok (.bool false)
  | .ite t a b, r => (evE g t r).bind fun x => (asB x).bind fun k => if k = true then evE g a r else evE g b r
  | .ix a b, r => (evE g a r).bind fun x => (evE g b r).bind fun y => ixD x y
  | .sl a lo hi, r => (evE g a r).bind fun x => (evO g lo r).bind fun l => (evO g hi r).bind fun h => slD l h x
  | .rev a, r => (evE g a r).bind revD
  | .call j es, r => (evEs g es r).bind (g.fn j)
  | .blt f es, r => (evEs g es r).bind (bltD f)
  | .isi a T, r => (evE g a r).bind fun x => if noDict x then .ok (.bool (isiD T x)) else .bad
  | .lrg a b, r => (evE g a r).bind fun x => (evE g b r).bind fun y => (intOf x).bind fun i => (intOf y).bind fun j => (rngOf i j).bind fun ds => .ok (.list ds)
  | .srtL a, r => (evE g a r).bind srtLD
  | .minL a, r => (evE g a r).bind minLD
  | .pick js a es, r => (evE g a r).bind fun x => (pickD js x).bind fun j => (evEs g es r).bind (g.fn j)
  | .mth m a b, r => (evE g a r).bind fun x => (strOf x).bind fun s => (evE g b r).bind fun y => mthD m s y
  | .idx a b, r => (evE g a r).bind fun x => (lsD x).bind fun ds => (evE g b r).bind fun y => idxD ds y
  | .comp elt tg it cnd own, r => (evI g it r).bind fun xs => (compL (fun x => match setTg tg x (wipeE r own) with
      | some r1 => (evC g cnd r1).bind fun k => if k = true then (evE g elt r1).bind fun y => .ok [y] else .ok []
      | none => .bad) xs).noexc.bind fun ys => .ok (.list ys)
  | .comp2 elt tg it cnd tg2 it2 cnd2 own own2, r => (evI g it r).bind fun xs => (compL (fun x => match setTg tg x (wipeE r own) with
      | some r1 => (evC g cnd r1).bind fun k => if k = true then (evI g it2 r1).bind fun zs => compL (fun z => match setTg tg2 z (wipeE r1 own2) with
          | some r2 => (evC g cnd2 r2).bind fun k2 => if k2 = true then (evE g elt r2).bind fun y => .ok [y] else .ok []
          | none => .bad) zs
        else .ok []
      | none => .bad) xs).noexc.bind fun ys => if ys.length ≤ LIM then .ok (.list ys) else .bad
def evEs (g : Sg) : Es → Env → Out (List D)
  | .nil, _ => .ok []
  | .cons e es, r => (evE g e r).bind fun d => (evEs g es r).bind fun ds => .ok (d :: ds)
/-- and, or: x the value so far -/
def evB (g : Sg) (isAnd : Bool) : Es → Env → D → Out D
  | .nil, _, x => .ok x
  | .cons e es, r, x => (asB x).bind fun b => if b = isAnd then (evE g e r).bind fun y => evB g isAnd es r y else .ok (.bool b)
def evO (g : Sg) : Eo → Env → Out (Option Int)
  | .none, _ => .ok none
  | .some e, r => (evE g e r).bind partI
def evC (g : Sg) : Eo → Env → Out Bool
  | .none, _ => .ok true
  | .some e, r => (evE g e r).bind asB
def evI (g : Sg) : It → Env → Out (List D)
  | .seq e, r => (evE g e r).bind seqOf
  | .rng1 a, r => (evE g a r).bind fun x => (intOf x).bind fun i => rngOf 0 i
  | .rng2 a b, r => (evE g a r).bind fun x => (evE g b r).bind fun y => (intOf x).bind fun i => (intOf y).bind fun j => rngOf i j
  | .zip a b, r => (evE g a r).bind fun x => (evE g b r).bind fun y => zipOf x y
  | .enum a, r => (evE g a r).bind enumOf
end

/-! ### statements -/
/-- what an except clause returns: the place of the exception's class among some, or that it is one -/
inductive Hd where
  | idx (i : Nat) (ns : List Str)
  | isa (i : Nat) (n : Str)
  | idx3 (i j : Nat) (n1 n2 n3 : List Str)
/-- calls without arguments: those of a slot, one lambda -/
inductive Ta where
  | v (i : Nat)
  | l (p : E)
inductive Fl where
  | next (r : Env)
  | ret (d : D)
  | brk (r : Env)
  | exc (c : Str)
  | bad
mutual
inductive S where
  | asg (i : Nat) (e : E)
  | asgS (i : Nat) (e : E)
  | own (i : Nat) (es : Es)
  | mov (i j : Nat)
  | unp (is : List Nat) (e : E)
  | par (own : Bool) (is : List Nat) (es : Es)
  | parL (own : Bool) (is : List Nat) (es : Es)
  | retN
  | pass
  | app (i : Nat) (e : E)
  | appS (i : Nat) (e : E)
  | ext (i : Nat) (e : E)
  | cat (i : Nat) (e : E)
  | ownT (i : Nat) (e : E) (n : Nat)
  | parO (i : Nat) (is : List Nat) (es0 es : Es)
  | ife (t : E) (a b : Ss)
  | forS (tg : Tg) (it : It) (b : Ss)
  | whl (t : E) (b : Ss)
  | ret (e : E)
  | exc (c : Str)
  | brk
  | exp (e : E)
  | tryx (b : Ss) (h : Hd)
  | allA (ts : List (Ta × Str))
  | retA (t : Ta) (n : Str)
  | asgR (i : Nat) (p : E)
inductive Ss where
  | nil
  | cons (s : S) (ss : Ss)
  | frz (i : Nat) (ss : Ss)
  | thk (i : Nat) (ps : List E) (ss : Ss)
end
def Out.fl (x : Out D) (f : D → Fl) : Fl := match x with
  | .ok d => f d
  | .exc c => .exc c
  | .bad => .bad
@[simp] theorem Out.fl_ok (d : D) (f : D → Fl) : (Out.ok d).fl f = f d := id rfl
@[simp] theorem Out.fl_exc (c : Str) (f : D → Fl) : (Out.exc c : Out D).fl f = .exc c := id rfl
def forL (step : D → Env → Fl) : List D → Env → Fl
  | [], r => .next r
  | x :: xs, r => match step x r with
    | .next r' => forL step xs r'
    | .brk r' => .next r'
    | f => f
def whileL (test : Env → Out D) (body : Env → Fl) : Nat → Env → Fl
  | 0, _ => .bad
  | n + 1, r => match test r with
    | .ok (.bool true) => (match body r with
      | .next r' => whileL test body n r'
      | .brk r' => .next r'
      | f => f)
    | .ok (.bool false) => .next r
    | .exc c => .exc c
    | _ => .bad
def FUEL : Nat := 100000
def hdEv : Hd → Str → Fl
  | .idx _ ns, c => match ns.findIdx? (fun n => decide (c = n)) with
    | some j => .ret (.int (j : Nat))
    | none => .bad
  | .isa _ n, c => if c = n then .ret (.bool true) else .bad
  | .idx3 _ _ n1 n2 n3, c => match (n1 ++ n2 ++ n3).findIdx? (fun n => decide (c = n)) with
    | some j => .ret (.int (j : Nat))
    | none => .bad
def tryF (h : Hd) : Fl → Fl
  | .exc c => hdEv h c
  | f => f
def parR (own : Bool) (is : List Nat) (ds : List D) (r : Env) : Option Env := match own, is with
  | false, is => setMany is ds r
  | true, i :: is => setMany is ds (r.set i (.own []))
  | true, [] => none
/-- the last target gets a new list -/
def parRL (own : Bool) (is : List Nat) (ds : List D) (r : Env) : Option Env := match is.getLast? with
  | none => none
  | some j => (parR own is.dropLast ds r).map fun r' => r'.set j (.own [])
/-- the result of a call, or its exception's name -/
def resT (ns : List Str) : Out D → Out D
  | .ok d => .ok d
  | .exc c => if c ∈ ns then .ok (.tuple [.str "error", .str c]) else .bad
  | .bad => .bad
def taE (r : Env) : Ta → List E
  | .v i => match r.getD i .non with
    | .thks ps => ps
    | _ => []
  | .l p => [p]
def isX (n : Str) : Out D → Bool
  | .exc c => decide (c = n)
  | _ => false
/-- all calls raise n -/
def allT (g : Sg) (r : Env) (t : Ta × Str) : Bool := g.lam.contains t.2 && !(taE r t.1).isEmpty && (taE r t.1).all fun p => isX t.2 (evE g p (hide r))
mutual
def evS (g : Sg) : S → Env → Fl
  | .asg i e, r => (evE g e (hide r)).fl fun d => .next (r.set i (.val d))
  | .asgS i e, r => (evE g e r).fl fun d => if scalar d then .next (r.set i (.val d)) else .bad
  | .own i es, r => match evEs g es (hide r) with
    | .ok ds => .next (r.set i (.own ds))
    | .exc c => .exc c
    | .bad => .bad
  | .mov i j, r => match r.getD j .non with
    | .own ds => .next ((r.set j (.val (.list ds))).set i (.val (.list ds)))
    | _ => .bad
  | .unp is e, r => (evE g e (hide r)).fl fun d => match setTg (.many is) d r with
    | some r' => .next r'
    | none => .bad
  | .par own is es, r => match evEs g es (hide r) with
    | .ok ds => (match parR own is ds r with
      | some r' => .next r'
      | none => .bad)
    | .exc c => .exc c
    | .bad => .bad
  | .parL own is es, r => match evEs g es (hide r) with
    | .ok ds => (match parRL own is ds r with
      | some r' => .next r'
      | none => .bad)
    | .exc c => .exc c
    | .bad => .bad
  | .retN, _ => .ret .none
  | .pass, r => .next r
  | .app i e, r => match r.getD i .non with
    | .own ds => (evE g e (hide r)).fl fun d => if ds.length < LIM then .next (r.set i (.own (ds ++ [d]))) else .bad
    | _ => .bad
  | .appS i e, r => match r.getD i .non with
    | .own ds => (evE g e r).fl fun d => if scalar d && decide (ds.length < LIM) then .next (r.set i (.own (ds ++ [d]))) else .bad
    | _ => .bad
  | .ext i e, r => match r.getD i .non with
    | .own ds => (evE g e (hide r)).fl fun d => (match d with
      | .list xs => if ds.length + xs.length ≤ LIM then .next (r.set i (.own (ds ++ xs))) else .bad
      | _ => .bad)
    | _ => .bad
  | .cat i e, r => match r.getD i .non with
    | .own ds => (evE g e (hide r)).fl fun d => (match d with
      | .list xs => if ds.length + xs.length ≤ LIM then .next (r.set i (.own (ds ++ xs))) else .bad
      | _ => .bad)
    | _ => .bad
  | .ownT i e n, r => (evE g e (hide r)).fl fun d => (match d with
    | .list xs => .next (r.set i (.own (xs.take n)))
    | _ => .bad)
  | .parO i is es0 es, r => match evEs g es0 (hide r) with
    | .ok ds0 => (match evEs g es (hide r) with
      | .ok ds => (match setMany is ds (r.set i (.own ds0)) with
        | some r' => .next r'
        | none => .bad)
      | .exc c => .exc c
      | .bad => .bad)
    | .exc c => .exc c
    | .bad => .bad
  | .ife t a b, r => (evE g t r).fl fun d => (match d with
    | .bool true => evSs g a r
    | .bool false => evSs g b r
    | _ => .bad)
  | .forS tg it b, r => match evI g it (hide r) with
    | .ok xs => forL (fun x r => match setTg tg x r with
      | some r' => evSs g b r'
      | none => .bad) xs r
    | .exc c => .exc c
    | .bad => .bad
  | .whl t b, r => whileL (evE g t) (evSs g b) FUEL r
  | .ret e, r => (evE g e r).fl .ret
  | .exc c, _ => .exc c
  | .brk, r => .brk r
  | .exp e, r => (evE g e r).fl fun _ => .next r
  | .tryx b h, r => tryF h (evSs g b r)
  | .allA ts, r => if !ts.isEmpty && ts.all (allT g r) then .next r else .bad
  | .retA t n, r => if allT g r (t, n) then .ret (.bool true) else .bad
  | .asgR i p, r => if g.lam.isEmpty then .bad else (resT g.lam (evE g p (hide r))).fl fun d => .next (r.set i (.val d))
def evSs (g : Sg) : Ss → Env → Fl
  | .nil, r => .next r
  | .cons s ss, r => match evS g s r with
    | .next r' => evSs g ss r'
    | f => f
  | .frz i ss, r => match r.getD i .non with
    | .own ds => evSs g ss (r.set i (.val (.list ds)))
    | _ => .bad
  | .thk i ps ss, r => if g.lam.isEmpty || ps.isEmpty || decide (LIM < ps.length) then .bad else evSs g ss (r.set i (.thks ps))
end
def runD (g : Sg) (n : Nat) (body : Ss) (args : List D) : Out D := match evSs g body (args.map .val ++ List.replicate (n - args.length) .non) with
  | .ret d => .ok d
  | .next _ => .ok .none
  | .exc c => .exc c
  | _ => .bad
end BB

/-! ## the pure layer 2: what data a value bears; operations by values -/
namespace BB
open PySem PySem.Spec PyProof.Rows L2
abbrev Frag := PySem.W.Frag

mutual
inductive Dq (K : Frag) (H : Hp) : V → D → Prop
  | non : Dq K H .non .none
  | bl (b : Bool) : Dq K H (.bl b) (.bool b)
  | int (i : Int) : Dq K H (.int i) (.int i)
  | str (x : Str) : Dq K H (.str x) (.str x)
  | lst {a : Addr} {xs : List V} {ds : List D} : Rd H a (.lst xs) → DqAll K H xs ds → Dq K H (.ref a) (.list ds)
  | tup {a : Addr} {xs : List V} {ds : List D} : SqT K H a xs → DqAll K H xs ds → Dq K H (.ref a) (.tuple ds)
inductive DqAll (K : Frag) (H : Hp) : List V → List D → Prop
  | nil : DqAll K H [] []
  | cons {v : V} {vs : List V} {d : D} {ds : List D} : Dq K H v d → DqAll K H vs ds → DqAll K H (v :: vs) (d :: ds)
end
section
variable {K : Frag} {F F' H H' H1 H2 : Hp}
theorem rd_mono {a : Addr} {o : HO} (e : Same H H') (h : Rd H a o) : Rd H' a o := by
  rcases h with h | ⟨u, h⟩
  · exact .inl (e _ _ h)
  · exact .inr ⟨u, e _ _ h⟩
theorem sqT_mono {a : Addr} {xs : List V} (e : Same H H') (h : SqT K H a xs) : SqT K H' a xs := by
  rcases h with h | h
  · exact .inl (rd_mono e h)
  · exact .inr h
mutual
theorem Dq.mono (e : Same H H') : ∀ (d : D) (v : V), Dq K H v d → Dq K H' v d
  | .none, _, h => by cases h; exact .non
  | .bool _, _, h => by cases h; exact .bl _
  | .int _, _, h => by cases h; exact .int _
  | .str _, _, h => by cases h; exact .str _
  | .list ds, _, h => by cases h with | lst h1 h2 => exact .lst (rd_mono e h1) (DqAll.mono e ds _ h2)
  | .tuple ds, _, h => by cases h with | tup h1 h2 => exact .tup (sqT_mono e h1) (DqAll.mono e ds _ h2)
  | .dict _, _, h => by cases h
theorem DqAll.mono (e : Same H H') : ∀ (ds : List D) (vs : List V), DqAll K H vs ds → DqAll K H' vs ds
  | [], _, h => by cases h; exact .nil
  | d :: ds, _, h => by cases h with | cons h1 h2 => exact .cons (Dq.mono e d _ h1) (DqAll.mono e ds _ h2)
end
mutual
theorem Dq.dp : ∀ (d : D) (v : V), Dq K H v d → Dp K H v d
  | .none, _, h => by cases h; exact .non
  | .bool _, _, h => by cases h; exact .bl _
  | .int _, _, h => by cases h; exact .int _
  | .str _, _, h => by cases h; exact .str _
  | .list ds, _, h => by cases h with | lst h1 h2 => exact .lst (.inl h1) (DqAll.dp ds _ h2)
  | .tuple ds, _, h => by cases h with | tup h1 h2 => exact .tup h1 (DqAll.dp ds _ h2)
  | .dict _, _, h => by cases h
theorem DqAll.dp : ∀ (ds : List D) (vs : List V), DqAll K H vs ds → DpAll K H vs ds
  | [], _, h => by cases h; exact .nil
  | d :: ds, _, h => by cases h with | cons h1 h2 => exact .cons (Dq.dp d _ h1) (DqAll.dp ds _ h2)
end
theorem sqL_mono {a : Addr} {xs : List V} (e : Same H H') (h : SqL K H a xs) : SqL K H' a xs := e.seq h
mutual
theorem dp_mono (e : Same H H') : ∀ (d : D) (v : V), Dp K H v d → Dp K H' v d
  | .none, _, h => by cases h; exact .non
  | .bool _, _, h => by cases h; exact .bl _
  | .int _, _, h => by cases h; exact .int _
  | .str _, _, h => by cases h; exact .str _
  | .list ds, _, h => by cases h with | lst h1 h2 => exact .lst (sqL_mono e h1) (dpAll_mono e ds _ h2)
  | .tuple ds, _, h => by cases h with | tup h1 h2 => exact .tup (sqT_mono e h1) (dpAll_mono e ds _ h2)
  | .dict _, _, h => by cases h
theorem dpAll_mono (e : Same H H') : ∀ (ds : List D) (vs : List V), DpAll K H vs ds → DpAll K H' vs ds
  | [], _, h => by cases h; exact .nil
  | d :: ds, _, h => by cases h with | cons h1 h2 => exact .cons (dp_mono e d _ h1) (dpAll_mono e ds _ h2)
end
theorem DqAll.length : ∀ {vs : List V} {ds : List D}, DqAll K H vs ds → vs.length = ds.length
  | _, _, .nil => rfl
  | _, _, .cons _ t => by rw [List.length_cons, List.length_cons, DqAll.length t]
theorem DqAll.get : ∀ {vs : List V} {ds : List D} {i : Nat} {d : D}, DqAll K H vs ds → ds[i]? = some d → ∃ v, vs[i]? = some v ∧ Dq K H v d
  | _, _, _, _, .nil, e => by simp at e
  | _, _, 0, _, .cons h _, e => by simp at e; subst e; exact ⟨_, rfl, h⟩
  | _, _, i + 1, d, .cons _ t, e => by
    obtain ⟨v, h1, h2⟩ := DqAll.get (i := i) (d := d) t (by simpa using e)
    exact ⟨v, by simpa using h1, h2⟩
theorem DqAll.get' : ∀ {vs : List V} {ds : List D} {i : Nat} {v : V}, DqAll K H vs ds → vs[i]? = some v → ∃ d, ds[i]? = some d ∧ Dq K H v d
  | _, _, _, _, .nil, e => by simp at e
  | _, _, 0, _, .cons h _, e => by simp at e; subst e; exact ⟨_, rfl, h⟩
  | _, _, i + 1, v, .cons _ t, e => by
    obtain ⟨d, h1, h2⟩ := DqAll.get' (i := i) (v := v) t (by simpa using e)
    exact ⟨d, by simpa using h1, h2⟩
theorem DqAll.append : ∀ {vs ws : List V} {ds es : List D}, DqAll K H vs ds → DqAll K H ws es → DqAll K H (vs ++ ws) (ds ++ es)
  | _, _, _, _, .nil, s => s
  | _, _, _, _, .cons h t, s => .cons h (DqAll.append t s)
theorem DqAll.take : ∀ {vs : List V} {ds : List D} (n : Nat), DqAll K H vs ds → DqAll K H (vs.take n) (ds.take n)
  | _, _, 0, _ => .nil
  | _, _, _ + 1, .nil => .nil
  | _, _, n + 1, .cons h t => .cons h (DqAll.take n t)
theorem DqAll.drop : ∀ {vs : List V} {ds : List D} (n : Nat), DqAll K H vs ds → DqAll K H (vs.drop n) (ds.drop n)
  | _, _, 0, h => h
  | _, _, _ + 1, .nil => .nil
  | _, _, n + 1, .cons _ t => DqAll.drop n t
theorem DqAll.reverse : ∀ {vs : List V} {ds : List D}, DqAll K H vs ds → DqAll K H vs.reverse ds.reverse
  | _, _, .nil => .nil
  | _, _, .cons h t => by rw [List.reverse_cons, List.reverse_cons]; exact (DqAll.reverse t).append (.cons h .nil)
theorem DqAll.rep {vs : List V} {ds : List D} (h : DqAll K H vs ds) : ∀ k : Nat, DqAll K H (List.replicate k vs).flatten (List.replicate k ds).flatten
  | 0 => .nil
  | k + 1 => by rw [List.replicate_succ, List.replicate_succ, List.flatten_cons, List.flatten_cons]; exact h.append (DqAll.rep h k)
theorem DqAll.ints : ∀ {vs : List V} {ds : List D} {ns : List Int}, DqAll K H vs ds → asInts ds = some ns → vs = ns.map V.int
  | _, [], ns, .nil, e => by cases e; rfl
  | _, .int i :: r, ns, .cons h t, e => by
    cases h
    have e' : (asInts r).map (i :: ·) = some ns := e
    cases q : asInts r with
    | none => rw [q] at e'; cases e'
    | some ms =>
      rw [q] at e'
      have e2 : i :: ms = ns := Option.some.inj e'
      subst e2
      rw [DqAll.ints t q]
      rfl
  | _, .none :: _, _, _, e => by cases e
  | _, .bool _ :: _, _, _, e => by cases e
  | _, .str _ :: _, _, _, e => by cases e
  | _, .list _ :: _, _, _, e => by cases e
  | _, .tuple _ :: _, _, _, e => by cases e
  | _, .dict _ :: _, _, _, e => by cases e
theorem DqAll.bools : ∀ {vs : List V} {ds : List D} {ns : List Bool}, DqAll K H vs ds → asBools ds = some ns → vs = ns.map V.bl
  | _, [], ns, .nil, e => by cases e; rfl
  | _, .bool i :: r, ns, .cons h t, e => by
    cases h
    have e' : (asBools r).map (i :: ·) = some ns := e
    cases q : asBools r with
    | none => rw [q] at e'; cases e'
    | some ms =>
      rw [q] at e'
      have e2 : i :: ms = ns := Option.some.inj e'
      subst e2
      rw [DqAll.bools t q]
      rfl
  | _, .none :: _, _, _, e => by cases e
  | _, .int _ :: _, _, _, e => by cases e
  | _, .str _ :: _, _, _, e => by cases e
  | _, .list _ :: _, _, _, e => by cases e
  | _, .tuple _ :: _, _, _, e => by cases e
  | _, .dict _ :: _, _, _, e => by cases e
theorem same_upd {H : Hp} {p : Addr} {o : HO} (h : H p = none) : Same H (upd H p o) := fun b x e => by
  rw [upd_ne (ne_of_none e h)]
  exact e
/-! ### the part of the heap that is not owned -/
def grow (F H H' : Hp) : Hp := fun a => match H a with
  | none => H' a
  | some _ => F a
theorem grow_none {a : Addr} (h : H a = none) : grow F H H' a = H' a := by unfold grow; rw [h]
theorem grow_some {a : Addr} {o : HO} (h : H a = some o) : grow F H H' a = F a := by unfold grow; rw [h]
theorem grow_same1 (e : Same F H) : Same F (grow F H H') := fun a o h => by rw [grow_some (e a o h)]; exact h
theorem grow_same2 (e : Same F H) (e' : Same H H') : Same (grow F H H') H' := fun a o h => by
  cases q : H a with
  | none => rw [grow_none q] at h; exact h
  | some u => rw [grow_some q] at h; exact e' a o (e a o h)
theorem grow_grow (e : Same H H1) (e' : Same H1 H2) : grow (grow F H H1) H1 H2 = grow F H H2 := by
  funext a
  cases q : H1 a with
  | none => rw [grow_none q, grow_none (e.free q)]
  | some u =>
    rw [grow_some q]
    cases q2 : H a with
    | none => rw [grow_none q2, grow_none q2, q, e' a u q]
    | some w => rw [grow_some q2, grow_some q2]
theorem grow_self (e : Same H H') : grow H H H' = H' := by
  funext a
  cases q : H a with
  | none => rw [grow_none q]
  | some u => rw [grow_some q, q, e a u q]
theorem grow_refl (e : Same F H) : grow F H H = F := by
  funext a
  cases q : H a with
  | none =>
    rw [grow_none q, q]
    cases r : F a with
    | none => rfl
    | some u => rw [e a u r] at q; cases q
  | some u => rw [grow_some q]
theorem grow_upd {p : Addr} {o : HO} (h : H p = none) : grow F H (upd H p o) p = some o := by rw [grow_none h, upd_same]
end

/-! ### what is asked of a result -/
section
variable {α β γ δ : Type} (mg : Str → Option Value) (E : XK)
def Res (F H : Hp) (rel : Hp → β → α → Prop) (o : Out α) (Q : β → Hp → Prop) : Prop := match o with
  | .ok a => ∀ b H', Same H H' → rel (grow F H H') b a → Q b H'
  | .exc c => ∀ C H', mg c = some (.ref C) → Same H H' → E (.ref C) none H'
  | .bad => False
end
section
variable {α β γ δ : Type} {mg : Str → Option Value} {E : XK} {F H H1 : Hp} {rel : Hp → β → α → Prop} {rel2 : Hp → δ → γ → Prop} {o : Out α} {f : α → Out γ} {Q : δ → Hp → Prop} {P : β → Hp → Prop}
theorem Res.to {Q : β → Hp → Prop} (e : Same F H) (e1 : Same H H1) (h : Res mg E F H rel o Q) : Res mg E (grow F H H1) H1 rel o Q := by
  cases o with
  | ok a =>
    intro b H' e2 r
    rw [grow_grow e1 e2] at r
    exact h b H' (e1.trans e2) r
  | exc c => exact fun C H' m e2 => h C H' m (e1.trans e2)
  | bad => exact h
theorem Res.bind (e : Same F H) (h : Res mg E F H rel2 (o.bind f) Q) (k : ∀ a b H1, o = .ok a → Same H H1 → rel (grow F H H1) b a → Same F (grow F H H1) → Same (grow F H H1) H1 → Res mg E (grow F H H1) H1 rel2 (f a) Q → P b H1) : Res mg E F H rel o P := by
  cases o with
  | ok a => exact fun b H' e1 r => k a b H' rfl e1 r (grow_same1 e) (grow_same2 e e1) (Res.to e e1 h)
  | exc c => exact h
  | bad => exact h
/-- an answer that stands already -/
theorem Res.here {a : α} {b : β} {Q : β → Hp → Prop} (e : Same F H) (h : Res mg E F H rel (.ok a) Q) (r : rel F b a) : Q b H := h b H (Same.refl H) (by rw [grow_refl e]; exact r)
end
section
variable {K : Frag} {mg : Str → Option Value} {E : XK} {F H : Hp}
abbrev ResV (K : Frag) (mg : Str → Option Value) (E : XK) (F H : Hp) (o : Out D) (Q : VK) : Prop := Res mg E F H (Dq K) o Q
/-- a new tuple, a new list -/
theorem Res.tup {vs : List V} {ds : List D} {Q : VK} (e : Same F H) (h : ResV K mg E F H (.ok (.tuple ds)) Q) (r : DqAll K F vs ds) (p : Addr) (hp : H p = none) : Q (.ref p) (upd H p (.tup vs)) :=
  h _ _ (same_upd hp) (.tup (.inl (.inl (grow_upd hp))) (DqAll.mono (grow_same1 e) _ _ r))
theorem Res.lst {vs : List V} {ds : List D} {Q : VK} (e : Same F H) (h : ResV K mg E F H (.ok (.list ds)) Q) (r : DqAll K F vs ds) (p : Addr) (hp : H p = none) : Q (.ref p) (upd H p (.lst vs)) :=
  h _ _ (same_upd hp) (.lst (.inl (grow_upd hp)) (DqAll.mono (grow_same1 e) _ _ r))
theorem lim_size {n : Nat} (h : n ≤ LIM) : n ≤ sizeLine := by rw [sizeLine_eq]; exact Nat.le_trans h (by decide)
theorem lim_lt {n : Nat} (h : n < LIM) : n < sizeLine := by rw [sizeLine_eq]; exact Nat.lt_of_lt_of_le h (by decide)

/-- an operation by values against one on data -/
def OpV (K : Frag) (mg : Str → Option Value) (E : XK) (rr : R2) (f : D → D → Out D) : Prop :=
  ∀ (F H : Hp) (x y : V) (a b : D) (Q : VK), Same F H → Dq K F x a → Dq K F y b → ResV K mg E F H (f a b) Q → rr x y H Q
end

/-! ### the rules of lists that are read -/
section
variable {X : Cx}
def rCatL : R2 := fun x y H Q => ∃ l b xs zs, x = .ref l ∧ y = .ref b ∧ Rd H l (.lst xs) ∧ Rd H b (.lst zs) ∧ xs.length + zs.length ≤ sizeLine ∧ ∀ p, H p = none → Q (.ref p) (upd H p (.lst (xs ++ zs)))
theorem rdL {pins : List (Addr × Obj)} {σ : L2.St} {H : Hp} {s : Shared} {l : Addr} {xs : List V} (I : Inv X pins σ H s) (h : Rd H l (.lst xs)) : xs.length ≤ sizeLine ∧ ∃ (its : List Value) (n : Nat), Vals xs its ∧ xs.length = its.length ∧ s.heap.get? l = some { cls := .type "list", data := .seq its.toArray n } := by
  obtain ⟨z, its, n, r, e⟩ := h.ok I.hok
  exact ⟨z, its, n, r, r.length, e⟩
theorem op_catL : OpR X (binaryOp .Add) rCatL := by
  intro pins s σ H x y v u Q I rx ry h
  obtain ⟨l, b, xs, zs, rfl, rfl, hH, hB, hz, q⟩ := h
  cases rx
  cases ry
  obtain ⟨z, its, n, r, hl, e⟩ := rdL I hH
  obtain ⟨z2, its2, n2, r2, hl2, e2⟩ := rdL I hB
  refine PySem.P.add_list e e2 ?_ (by rw [List.size_toArray, List.size_toArray]; omega)
  have ea : its.toArray ++ its2.toArray = (its ++ its2).toArray := by simp
  rw [ea]
  exact ⟨.ref _, _, I.lnew (t' := s.toks) (r.append r2) (by rw [List.length_append]; omega), rfl, q _ I.fresh⟩
def rExtL : V → List V → Hp → VK → Prop := fun x vs H Q => ∃ l b xs zs, x = .ref l ∧ vs = [.ref b] ∧ H l = some (.lst xs) ∧ Rd H b (.lst zs) ∧ xs.length + zs.length ≤ sizeLine ∧ Q .non (upd H l (.lst (xs ++ zs)))
theorem mt_extL : MtM X "list.extend" rExtL := by
  intro pins s σ H x vs v us Q I rx rv h
  obtain ⟨l, b, xs, zs, rfl, rfl, hH, hB, hz, q⟩ := h
  cases rx
  obtain ⟨u, rfl, ru⟩ := rv.one
  cases ru
  obtain ⟨z, its, n, r, hl, e⟩ := I.lstM hH
  obtain ⟨z2, its2, n2, r2, hl2, e2⟩ := rdL I hB
  have hsz : its.toArray.size + its2.toArray.size ≤ sizeLine := by rw [List.size_toArray, List.size_toArray]; omega
  have hlong : ¬ (!its.toArray.isEmpty && Builtin.List.listTooLong (its.toArray.size + its2.toArray.size)) = true := by
    rw [notLongL hsz, Bool.and_false]
    exact Bool.false_ne_true
  refine call_meets F.slot_list_extend ⟨_, e, rfl⟩ F.entry_list_extend (F.args_list_extend_2 _ _)
    (AutoSeq1.list_extend_list_list_0 l its.toArray n b its2.toArray n2 hlong (by rw [List.size_toArray]; omega) (by omega)) ⟨e, e2, ?_⟩
  refine ⟨.non, _, I.lset (its' := its ++ its2) hH e (by simp) (r.append r2) ?_, rfl, q⟩
  rw [List.length_append]
  omega
/-- an int times a bool -/
theorem op_mul_ib : OpR X (binaryOp .Mult) (fun x y H Q => ∃ i k, x = .int i ∧ y = .bl k ∧ Q (.int (if k then i else 0)) H) := by
  intro pins s σ H x y v u Q I rx ry h
  obtain ⟨i, k, rfl, rfl, q⟩ := h
  obtain ⟨t, rfl⟩ := rx
  cases ry
  refine PySem.IntBool.mul_int_bool ?_
  refine ⟨.int (if k then i else 0), H, I.tok _, ⟨s.toks, ?_⟩, q⟩
  cases k <;> simp
end
set_option maxHeartbeats 4000000 in
theorem tuple_mul1 (l : Addr) (items : Array Value) (n : Nat) (dd : Option Addr) (sl : Array (Option Value)) (u : Tok) :
    Meets (Builtin.«tuple.__mul__» ⟨[.ref l, .int 1 u], []⟩) (fun _ R s => s.heap.get? l = some { cls := .type "tuple", dict := dd, data := .seq items n, slots := sl } ∧
      R (.ok (.ret (Value.ref l))) s) :=
  .of_wp fun prog w A R s h => by
    obtain ⟨hp, g, d, tk, os⟩ := s
    obtain ⟨hl, h⟩ := h
    have f1 := AutoSeq1.idx_int
    have c1 : (items.isEmpty || (1 : Int) == 1) = true := by simp
    wp_walk using wpAny_loadPart' hl
    exact ⟨_, rfl, h⟩
set_option maxHeartbeats 4000000 in
theorem tuple_mul0 (l : Addr) (items : Array Value) (n : Nat) (dd : Option Addr) (sl : Array (Option Value)) (u : Tok) (hi : items.isEmpty = false) :
    Meets (Builtin.«tuple.__mul__» ⟨[.ref l, .int 0 u], []⟩) (fun _ R s => s.heap.get? l = some { cls := .type "tuple", dict := dd, data := .seq items n, slots := sl } ∧
      R (.ok (.ret (Value.ref s.heap.objs.size))) { s with heap := s.heap.push { cls := Value.type "tuple", data := Data.seq #[] }, toks := s.toks }) :=
  .of_wp fun prog w A R s h => by
    obtain ⟨hp, g, d, tk, os⟩ := s
    obtain ⟨hl, h⟩ := h
    have f1 := AutoSeq1.idx_int
    have c1 : (items.isEmpty || (0 : Int) == 1) = false := by simp [hi]
    wp_walk using wpAny_loadPart' hl
    exact ⟨_, rfl, h⟩
section
variable {X : Cx}
def rRep1 (K : Frag) : R2 := fun x y H Q => ∃ l xs, x = .ref l ∧ y = .int 1 ∧ SqT K H l xs ∧ Q (.ref l) H
def rRep0 (K : Frag) : R2 := fun x y H Q => ∃ l xs, x = .ref l ∧ y = .int 0 ∧ SqT K H l xs ∧ xs ≠ [] ∧ ∀ p, H p = none → Q (.ref p) (upd H p (.tup []))
theorem op_rep1 : OpR X (binaryOp .Mult) (rRep1 X.K) := by
  intro pins s σ H x y v u Q I rx ry h
  obtain ⟨l, xs, rfl, rfl, hT, q⟩ := h
  cases rx
  obtain ⟨t, rfl⟩ := ry
  obtain ⟨its, r, ⟨⟨cls, dd, data, sl⟩, ho, hc, n, hd⟩, hs⟩ := I.tuple hT
  simp only at hc hd
  subst hc hd
  refine wpAny_binaryOp_repeat_ref (T := "tuple") (U := "int") (by decide) ⟨_, ho, rfl⟩ (fun s' => typeIs_int s' 1 t) noFill_tuple_mul F.fills_int_mul F.slot_int_rmul repeat_tuple F.slot_int_index.lookup
    (call_meets F.slot_int_rmul (typeIs_int s 1 t) F.entry_int_rmul (F.args_int_rmul_2 _ _) (int_rmul_tuple 1 t l its.toArray n dd sl)
      ⟨ho, rfl, ⟨_, ho, rfl⟩, call_meets F.slot_tuple_mul ⟨_, ho, rfl⟩ F.entry_tuple_mul (F.args_tuple_mul_2 _ _) (tuple_mul1 l its.toArray n dd sl t) ⟨ho, ?_⟩⟩)
  exact ⟨.ref l, H, I, rfl, q⟩
theorem op_rep0 : OpR X (binaryOp .Mult) (rRep0 X.K) := by
  intro pins s σ H x y v u Q I rx ry h
  obtain ⟨l, xs, rfl, rfl, hT, hne, q⟩ := h
  cases rx
  obtain ⟨t, rfl⟩ := ry
  obtain ⟨its, r, ⟨⟨cls, dd, data, sl⟩, ho, hc, n, hd⟩, hs⟩ := I.tuple hT
  simp only at hc hd
  subst hc hd
  have hi : its.toArray.isEmpty = false := by
    cases r with
    | nil => exact absurd rfl hne
    | cons a b => rfl
  refine wpAny_binaryOp_repeat_ref (T := "tuple") (U := "int") (by decide) ⟨_, ho, rfl⟩ (fun s' => typeIs_int s' 0 t) noFill_tuple_mul F.fills_int_mul F.slot_int_rmul repeat_tuple F.slot_int_index.lookup
    (call_meets F.slot_int_rmul (typeIs_int s 0 t) F.entry_int_rmul (F.args_int_rmul_2 _ _) (int_rmul_tuple 0 t l its.toArray n dd sl)
      ⟨ho, rfl, ⟨_, ho, rfl⟩, call_meets F.slot_tuple_mul ⟨_, ho, rfl⟩ F.entry_tuple_mul (F.args_tuple_mul_2 _ _) (tuple_mul0 l its.toArray n dd sl t hi) ⟨ho, ?_⟩⟩)
  refine ⟨.ref s.heap.objs.size, _, I.laid (t' := s.toks) (o := .tup []) (fun b ob q => Heap.get?_push_of_some _ q) (Nat.le_refl _) ?_, rfl, q _ (I.hok.fresh (Nat.le_refl _))⟩
  exact ⟨Nat.zero_le _, [], .nil, IsTup.new _ _⟩
end

section
variable {X : Cx}
def rRepL : R2 := fun x y H Q => ∃ l k xs, x = .ref l ∧ y = .int k ∧ Rd H l (.lst xs) ∧ -(2 ^ 63) ≤ k ∧ k < 2 ^ 63 ∧ xs.length * k.toNat ≤ sizeLine ∧
  ∀ p, H p = none → Q (.ref p) (upd H p (.lst (List.replicate k.toNat xs).flatten))
theorem op_repL : OpR X (binaryOp .Mult) rRepL := by
  intro pins s σ H x y v u Q I rx ry h
  obtain ⟨l, k, xs, rfl, rfl, hH, h1, h2, hz, q⟩ := h
  cases rx
  obtain ⟨t, rfl⟩ := ry
  obtain ⟨z, its, n, r, hl, e⟩ := rdL I hH
  have hlen : its.toArray.size * k.toNat ≤ sizeLine := by rw [List.size_toArray, ← hl]; exact hz
  have hcap : ¬ its.toArray.size * k.toNat > (2 ^ 63 - 1) / 8 := by
    have : (sizeLine : Nat) ≤ (2 ^ 63 - 1) / 8 := by decide
    omega
  have hfit : ¬ (!Builtin.List.listFitsIndex k) = true := by
    rw [fitsIndex_both h1 h2]
    exact Bool.false_ne_true
  have hlong : ¬ Builtin.List.listTooLong (its.toArray.size * k.toNat) = true := by
    rw [notLongL hlen]
    exact Bool.false_ne_true
  have hnew : List.foldl (fun x1 x2 => x1 ++ x2) #[] (List.replicate (if its.toArray.isEmpty = true then 0 else k.toNat) its.toArray) = (List.replicate k.toNat its).flatten.toArray := by
    have f0 : ∀ m : Nat, List.foldl (fun x1 x2 => x1 ++ x2) #[] (List.replicate m its.toArray) = (List.replicate m its).flatten.toArray := fun m => by
      have := foldl_rep its m []
      rw [List.nil_append] at this
      exact this
    rw [f0]
    cases its with
    | nil => simp
    | cons a r' => rw [if_neg (by simp)]
  refine wpAny_binaryOp_repeat_ref (T := "list") (U := "int") (by decide) ⟨_, e, rfl⟩ (fun s' => typeIs_int s' k t) noFill_list_mul F.fills_int_mul F.slot_int_rmul repeat_list F.slot_int_index.lookup
    (call_meets F.slot_int_rmul (typeIs_int s k t) F.entry_int_rmul (F.args_int_rmul_2 _ _) (int___rmul___int_list k t l its.toArray n)
      ⟨e, rfl, ⟨_, e, rfl⟩, call_meets F.slot_list_mul ⟨_, e, rfl⟩ F.entry_list_mul (F.args_list_mul_2 _ _) (AutoListH.list___mul___list_int_3 l its.toArray n k t hfit hcap hlong) ⟨e, ?_⟩⟩)
  rw [hnew]
  exact ⟨.ref _, _, I.lnew (t' := s.toks) (r.rep k.toNat) (by rw [PyProof.Rows.lm_len_rep_flat, Nat.mul_comm]; exact hz), rfl, q _ I.fresh⟩
end
end BB

/-! ## the pure layer 3: each operation's rule by values serves the one on data -/
namespace BB
open PySem PySem.Spec PyProof.Rows L2
section
variable {X : Cx} {K : Frag} {mg : Str → Option Value} {E : XK}
theorem dqNil {H : Hp} {vs : List V} (h : DqAll K H vs []) : vs = [] := by cases h; rfl
theorem dqNil' {H : Hp} {ds : List D} (h : DqAll K H [] ds) : ds = [] := by cases h; rfl

/-! ### + -/
def rAddG (K : Frag) : R2 := fun x y H Q => rI0 (fun i j => .int (i + j)) x y H Q ∨ rCatA K x y H Q ∨ rCatL x y H Q ∨ (∃ i j, x = .str i ∧ y = .str j ∧ i.length + j.length ≤ sizeLine ∧ Q (.str (i ++ j)) H)
theorem op_addG : OpR X (binaryOp .Add) (rAddG X.K) := op_add.or (op_catA.or (op_catL.or op_add_str))
theorem addV : OpV K mg E (rAddG K) addD := by
  intro F H x y a b Q e hx hy h
  cases hx with
  | int i => cases hy with
    | int j => exact .inl ⟨i, j, rfl, rfl, h.here e (.int _)⟩
    | _ => exact False.elim h
  | str x => cases hy with
    | str y =>
      have h : ResV K mg E F H (if x.length + y.length ≤ LIM then .ok (.str (x ++ y)) else .bad) Q := h
      by_cases c : x.length + y.length ≤ LIM
      · rw [if_pos c] at h
        exact .inr (.inr (.inr ⟨x, y, rfl, rfl, lim_size c, h.here e (.str _)⟩))
      · rw [if_neg c] at h; exact False.elim h
    | _ => exact False.elim h
  | tup sx ax => cases hy with
    | tup sy ay =>
      rename_i l xs ds b ys es
      have h : ResV K mg E F H (if ds.length + es.length ≤ LIM then .ok (.tuple (ds ++ es)) else .bad) Q := h
      by_cases c : ds.length + es.length ≤ LIM
      · rw [if_pos c] at h
        refine .inr (.inl ⟨l, b, xs, ys, rfl, rfl, sqT_mono e sx, sqT_mono e sy, lim_size (by rw [ax.length, ay.length]; exact c), fun z => ?_, fun _ z => ?_, fun _ _ p hp => ?_⟩)
        · subst z
          have := dqNil' ax
          subst this
          exact h.here e (.tup sy ay)
        · subst z
          have := dqNil' ay
          subst this
          rw [List.append_nil] at h
          exact h.here e (.tup sx ax)
        · exact h.tup e (ax.append ay) p hp
      · rw [if_neg c] at h; exact False.elim h
    | _ => exact False.elim h
  | lst sx ax => cases hy with
    | lst sy ay =>
      rename_i l xs ds b ys es
      have h : ResV K mg E F H (if ds.length + es.length ≤ LIM then .ok (.list (ds ++ es)) else .bad) Q := h
      by_cases c : ds.length + es.length ≤ LIM
      · rw [if_pos c] at h
        exact .inr (.inr (.inl ⟨l, b, xs, ys, rfl, rfl, rd_mono e sx, rd_mono e sy, lim_size (by rw [ax.length, ay.length]; exact c), fun p hp => h.lst e (ax.append ay) p hp⟩))
      · rw [if_neg c] at h; exact False.elim h
    | _ => exact False.elim h
  | _ => cases hy <;> exact False.elim h

/-! ### -, *, //, %, ** -/
theorem subV : OpV K mg E (rI0 fun i j => .int (i - j)) subD := by
  intro F H x y a b Q e hx hy h
  cases hx with
  | int i => cases hy with
    | int j => exact ⟨i, j, rfl, rfl, h.here e (.int _)⟩
    | _ => exact False.elim h
  | _ => cases hy <;> exact False.elim h
def rRepS : R2 := fun x y H Q => ∃ a k, x = .str a ∧ y = .int k ∧ 2 ≤ k ∧ k ≤ 1000 ∧ 0 < a.length ∧ a.length ≤ 1000 ∧ Q (.str (repS a k.toNat)) H
theorem repS_len (a : Str) : ∀ n : Nat, (repS a n).length = n * a.length := by
  have key : ∀ (n : Nat) (acc : Array Nat), ((List.replicate n a.cps).foldl (· ++ ·) acc).size = acc.size + n * a.cps.size := by
    intro n
    induction n with
    | zero => intro acc; simp
    | succ n ih => intro acc; rw [List.replicate_succ, List.foldl_cons, ih, Array.size_append, Nat.succ_mul]; omega
  intro n
  have := key n #[]
  simpa [repS, Str.length] using this
theorem op_repS : OpR X (binaryOp .Mult) rRepS := by
  intro pins s σ H x y v u Q I rx ry h
  obtain ⟨a, k, rfl, rfl, k1, k2, a1, a2, q⟩ := h
  obtain ⟨t, rfl⟩ := rx
  obtain ⟨t', rfl⟩ := ry
  have hm : a.length * k.toNat ≤ 1000000 := Nat.le_trans (Nat.mul_le_mul a2 (show k.toNat ≤ 1000 by omega)) (by decide)
  have e1 : (k == 1 || a.length == 0) = false := by
    simp only [Bool.or_eq_false_iff, beq_eq_false_iff_ne]
    omega
  refine PySem.P.mul_str (by simp; omega) (fun _ _ => ?_) (fun _ _ => ?_) ?_
  · have : (2 ^ 63 - 1) / k ≥ (2 ^ 63 - 1) / 1000 := by
      rw [ge_iff_le, Int.le_ediv_iff_mul_le (by omega)]
      have : ((2 : Int) ^ 63 - 1) / 1000 = 9223372036854775 := by decide
      rw [this]
      omega
    have e : ((2 : Int) ^ 63 - 1) / 1000 = 9223372036854775 := by decide
    omega
  · unfold Builtin.Str.tooLong
    have hz := sizeLine_eq
    simp
    omega
  · rw [if_neg (by omega), if_neg (by rw [e1]; decide)]
    refine ⟨?_, ?_⟩
    · have := repS_len a k.toNat
      unfold repS at this
      rw [this, sizeLine_eq]
      have : k.toNat * a.length ≤ 1000000 := by rw [Nat.mul_comm]; exact hm
      omega
    · exact ⟨.str _, H, I.tok _, ⟨_, rfl⟩, q⟩
def rMulG (K : Frag) : R2 := fun x y H Q => rI CMul (fun i j => .int (i * j)) x y H Q ∨ (∃ i k, x = .int i ∧ y = .bl k ∧ Q (.int (if k then i else 0)) H) ∨ rRepT K x y H Q ∨ rRep1 K x y H Q ∨ rRep0 K x y H Q ∨ rRepL x y H Q ∨ rRepS x y H Q
theorem op_mulG : OpR X (binaryOp .Mult) (rMulG X.K) := op_mul.or (op_mul_ib.or (op_repT.or (op_rep1.or (op_rep0.or (op_repL.or op_repS)))))
theorem small_iff {i : Int} : small i = true ↔ (-(2 ^ 64) < i ∧ i < 2 ^ 64) := by
  unfold small
  rw [Bool.and_eq_true, decide_eq_true_eq, decide_eq_true_eq]
theorem fdivV : OpV K mg E (rI CDivW fun i j => .int (i / j)) fdivD := by
  intro F H x y a b Q e hx hy h
  cases hx with
  | int i => cases hy with
    | int j =>
      have h : ResV K mg E F H (if 0 < j ∧ j < 2 ^ 64 then .ok (.int (i / j)) else .bad) Q := h
      by_cases c : 0 < j ∧ j < 2 ^ 64
      · rw [if_pos c] at h
        exact ⟨i, j, rfl, rfl, wide_div (b := 64) c.1 (by omega) (by decide) (by decide), h.here e (.int _)⟩
      · rw [if_neg c] at h; exact False.elim h
    | _ => exact False.elim h
  | _ => cases hy <;> exact False.elim h
theorem modV : OpV K mg E (rI (fun _ j => 0 < j) fun i j => .int (i % j)) modD := by
  intro F H x y a b Q e hx hy h
  cases hx with
  | int i => cases hy with
    | int j =>
      have h : ResV K mg E F H (if 0 < j then .ok (.int (i % j)) else .bad) Q := h
      by_cases c : 0 < j
      · rw [if_pos c] at h
        exact ⟨i, j, rfl, rfl, c, h.here e (.int _)⟩
      · rw [if_neg c] at h; exact False.elim h
    | _ => exact False.elim h
  | _ => cases hy <;> exact False.elim h
theorem powV : OpV K mg E (rI CPow fun i j => .int (i ^ j.toNat)) powD := by
  intro F H x y a b Q e hx hy h
  cases hx with
  | int i => cases hy with
    | int j =>
      have h : ResV K mg E F H (if 0 ≤ j ∧ j ≤ 1000 ∧ small i = true then .ok (.int (i ^ j.toNat)) else .bad) Q := h
      by_cases c : 0 ≤ j ∧ j ≤ 1000 ∧ small i = true
      · rw [if_pos c] at h
        have s := small_iff.mp c.2.2
        exact ⟨i, j, rfl, rfl, ⟨c.1, by omega, by omega⟩, h.here e (.int _)⟩
      · rw [if_neg c] at h; exact False.elim h
    | _ => exact False.elim h
  | _ => cases hy <;> exact False.elim h
theorem mulV : OpV K mg E (rMulG K) mulD := by
  intro F H x y a b Q e hx hy h
  cases hx with
  | int i => cases hy with
    | int j =>
      have h : ResV K mg E F H (if (small i || small j) = true then .ok (.int (i * j)) else .bad) Q := h
      by_cases c : (small i || small j) = true
      · rw [if_pos c] at h
        refine .inl ⟨i, j, rfl, rfl, ?_, h.here e (.int _)⟩
        rw [Bool.or_eq_true, small_iff, small_iff] at c
        exact c
      · rw [if_neg c] at h; exact False.elim h
    | bl k => exact .inr (.inl ⟨i, k, rfl, rfl, h.here e (.int _)⟩)
    | _ => exact False.elim h
  | tup sx ax => cases hy with
    | int k =>
      rename_i l xs ds
      have h : ResV K mg E F H (if 0 ≤ k ∧ k ≤ 1000 ∧ ds.isEmpty = false ∧ ds.length ≤ 1000 then .ok (.tuple (List.replicate k.toNat ds).flatten) else .bad) Q := h
      by_cases c : 0 ≤ k ∧ k ≤ 1000 ∧ ds.isEmpty = false ∧ ds.length ≤ 1000
      · rw [if_pos c] at h
        have hne : xs ≠ [] := fun z => by
          subst z
          have := dqNil' ax
          subst this
          exact Bool.noConfusion c.2.2.1
        by_cases k0 : k = 0
        · subst k0
          exact .inr (.inr (.inr (.inr (.inl ⟨l, xs, rfl, rfl, sqT_mono e sx, hne, fun p hp => h.tup e .nil p hp⟩))))
        · by_cases k1 : k = 1
          · subst k1
            have e1 : (List.replicate (1 : Int).toNat ds).flatten = ds := by simp
            rw [e1] at h
            exact .inr (.inr (.inr (.inl ⟨l, xs, rfl, rfl, sqT_mono e sx, h.here e (.tup sx ax)⟩)))
          · exact .inr (.inr (.inl ⟨l, k, xs, rfl, rfl, sqT_mono e sx, hne, by omega, c.2.1, by rw [ax.length]; exact c.2.2.2, fun p hp => h.tup e (ax.rep _) p hp⟩))
      · rw [if_neg c] at h; exact False.elim h
    | _ => exact False.elim h
  | lst sx ax => cases hy with
    | int k =>
      rename_i l xs ds
      have h : ResV K mg E F H (if 0 ≤ k ∧ k ≤ 1000 ∧ ds.length ≤ 1000 then .ok (.list (List.replicate k.toNat ds).flatten) else .bad) Q := h
      by_cases c : 0 ≤ k ∧ k ≤ 1000 ∧ ds.length ≤ 1000
      · rw [if_pos c] at h
        refine .inr (.inr (.inr (.inr (.inr (.inl ⟨l, k, xs, rfl, rfl, rd_mono e sx, by omega, by omega, ?_, fun p hp => h.lst e (ax.rep _) p hp⟩)))))
        rw [ax.length, sizeLine_eq]
        exact Nat.le_trans (Nat.mul_le_mul c.2.2 (show k.toNat ≤ 1000 by omega)) (by decide)
      · rw [if_neg c] at h; exact False.elim h
    | _ => exact False.elim h
  | str z => cases hy with
    | int k =>
      have h : ResV K mg E F H (if 2 ≤ k ∧ k ≤ 1000 ∧ 0 < z.length ∧ z.length ≤ 1000 then .ok (.str (repS z k.toNat)) else .bad) Q := h
      by_cases c : 2 ≤ k ∧ k ≤ 1000 ∧ 0 < z.length ∧ z.length ≤ 1000
      · rw [if_pos c] at h
        exact .inr (.inr (.inr (.inr (.inr (.inr ⟨z, k, rfl, rfl, c.1, c.2.1, c.2.2.1, c.2.2.2, h.here e (.str _)⟩)))))
      · rw [if_neg c] at h; exact False.elim h
    | _ => exact False.elim h
  | _ => cases hy <;> exact False.elim h

/-! ### comparisons -/
def rEqG (K : Frag) : R2 := fun x y H Q => rEqD K x y H Q ∨ rEq x y H Q
def rNeG (K : Frag) : R2 := fun x y H Q => rNeD K x y H Q ∨ rNe x y H Q
theorem op_eqG (hu : X.A.units + 64 < cLine) : OpR X (compareOp .Eq) (rEqG X.K) := (op_eqD hu).or op_eq
theorem op_neG (hu : X.A.units + 64 < cLine) : OpR X (compareOp .NotEq) (rNeG X.K) := (op_neD hu).or op_ne
theorem cmpb_or {a b : D} (h : cmpb a b = true) : (SeqAt.shaped a = true ∧ SeqAt.shaped b = true) ∨ ∃ x y, a = .str x ∧ b = .str y := by
  by_cases c : ∃ x y, a = .str x ∧ b = .str y
  · exact .inr c
  · refine .inl ?_
    have e : cmpb a b = (SeqAt.shaped a && SeqAt.shaped b) := by
      unfold cmpb
      split
      · rename_i x y
        exact absurd ⟨x, y, rfl, rfl⟩ c
      · rfl
    rw [e, Bool.and_eq_true] at h
    exact h
theorem eqV' : OpV K mg E (rEqG K) eqD := by
  intro F H x y a b Q e hx hy h
  unfold eqD at h
  by_cases c : cmpb a b = true
  · rw [if_pos c] at h
    rcases cmpb_or c with ⟨c1, c2⟩ | ⟨i, j, rfl, rfl⟩
    · exact .inl ⟨a, b, dp_mono e _ _ (Dq.dp _ _ hx), dp_mono e _ _ (Dq.dp _ _ hy), c1, c2, h.here e (.bl _)⟩
    · cases hx
      cases hy
      refine .inr ⟨rfl, ?_⟩
      rw [dec_str]
      exact h.here e (.bl _)
  · rw [if_neg c] at h; exact False.elim h
theorem neV' : OpV K mg E (rNeG K) neD := by
  intro F H x y a b Q e hx hy h
  unfold neD at h
  by_cases c : cmpb a b = true
  · rw [if_pos c] at h
    rcases cmpb_or c with ⟨c1, c2⟩ | ⟨i, j, rfl, rfl⟩
    · exact .inl ⟨a, b, dp_mono e _ _ (Dq.dp _ _ hx), dp_mono e _ _ (Dq.dp _ _ hy), c1, c2, h.here e (.bl _)⟩
    · cases hx
      cases hy
      refine .inr ⟨rfl, ?_⟩
      rw [dec_str]
      exact h.here e (.bl _)
  · rw [if_neg c] at h; exact False.elim h
theorem cmpIV {p : Int → Int → Bool} : OpV K mg E (rI0 fun i j => .bl (p i j)) (cmpI p) := by
  intro F H x y a b Q e hx hy h
  cases hx with
  | int i => cases hy with
    | int j => exact ⟨i, j, rfl, rfl, h.here e (.bl _)⟩
    | _ => exact False.elim h
  | _ => cases hy <;> exact False.elim h
def rLtG (K : Frag) : R2 := fun x y H Q => rI0 (fun i j => .bl (decide (i < j))) x y H Q ∨ rLtT K x y H Q
theorem op_ltG (hu : X.A.units < cLine) : OpR X (compareOp .Lt) (rLtG X.K) := op_lt.or (op_ltT hu)
theorem ltV : OpV K mg E (rLtG K) ltD := by
  intro F H x y a b Q e hx hy h
  cases hx with
  | int i => cases hy with
    | int j => exact .inl ⟨i, j, rfl, rfl, h.here e (.bl _)⟩
    | _ => exact False.elim h
  | tup sx ax => cases hy with
    | tup sy ay =>
      rename_i l xs ds b ys es
      have h : ResV K mg E F H (match asInts ds, asInts es with
        | some ns, some ms => .ok (.bool (HT.lexLt ns ms))
        | _, _ => .bad) Q := h
      cases q1 : asInts ds with
      | none => rw [q1] at h; exact False.elim h
      | some ns =>
        cases q2 : asInts es with
        | none => rw [q1, q2] at h; exact False.elim h
        | some ms =>
          rw [q1, q2] at h
          have e1 := ax.ints q1
          have e2 := ay.ints q2
          subst e1 e2
          exact .inr ⟨l, b, ns, ms, rfl, rfl, sqT_mono e sx, sqT_mono e sy, h.here e (.bl _)⟩
    | _ => exact False.elim h
  | _ => cases hy <;> exact False.elim h
end
end BB

/-! ## the pure layer 4: in, is, places, slices, built-ins -/
namespace BB
open PySem PySem.Spec PyProof.Rows L2
section
variable {X : Cx} {K : Frag} {mg : Str → Option Value} {E : XK}
theorem scalar_flat {H : Hp} {v : V} {d : D} (h : Dq K H v d) (s : scalar d = true) : flatV v = true := by
  cases h <;> first | rfl | cases s
theorem scalar_flats : ∀ {H : Hp} {vs : List V} {ds : List D}, DqAll K H vs ds → ds.all scalar = true → vs.all flatV = true
  | _, _, _, .nil, _ => rfl
  | _, _, _, .cons h t, s => by
    rw [List.all_cons, Bool.and_eq_true] at s ⊢
    exact ⟨scalar_flat h s.1, scalar_flats t s.2⟩
theorem eqV_eqv {H : Hp} {v w : V} {d e : D} (h : Dq K H v d) (h' : Dq K H w e) (s : scalar d = true) (s' : scalar e = true) : eqV v w = PyData.eqv d e := by
  cases h <;> cases h' <;> first | rfl | cases s | cases s'
theorem inV_any {H : Hp} {x : V} {d : D} (h : Dq K H x d) (s : scalar d = true) : ∀ {vs : List V} {ds : List D}, DqAll K H vs ds → ds.all scalar = true → inV x vs = ds.any fun y => PyData.eqv y d
  | _, _, .nil, _ => rfl
  | _, _, .cons h1 t, s1 => by
    rw [List.all_cons, Bool.and_eq_true] at s1
    unfold inV
    rw [List.any_cons, List.any_cons, eqV_eqv h1 h s1.1 s]
    have := inV_any h s t s1.2
    unfold inV at this
    rw [this]
def rInG (K : Frag) (neg : Bool) : R2 := fun x y H Q => (rIn K neg x y H Q ∨ (if neg then rNotInD K x y H Q else rInD K x y H Q)) ∨ (if neg then (∃ i j, x = .str i ∧ y = .str j ∧ Q (.bl (!(!(Builtin.Str.occurrences j i 0 j.length 1).isEmpty))) H) else (∃ i j, x = .str i ∧ y = .str j ∧ Q (.bl (!(Builtin.Str.occurrences j i 0 j.length 1).isEmpty)) H))
theorem op_inG (hu : X.A.units + 65 < cLine) : OpR X (compareOp .In) (rInG X.K false) := (op_in_seq.or (op_inD hu)).or op_in_str
theorem op_notInG (hu : X.A.units + 65 < cLine) : OpR X (compareOp .NotIn) (rInG X.K true) := (op_notIn_seq.or (op_notInD hu)).or op_notin_str
theorem inGV (neg : Bool) : OpV K mg E (rInG K neg) (inD neg) := by
  intro F H x y a b Q e hx hy h
  have key : ∀ (p : Addr) (vs : List V) (ds : List D), (SqL K H p vs ∨ SqT K H p vs) → DqAll K F vs ds → inb a ds = true → ResV K mg E F H (.ok (.bool ((ds.any fun y => PyData.eqv y a) != neg))) Q → rIn K neg x (.ref p) H Q := by
    intro p vs ds hs hv c h
    unfold inb at c
    rw [Bool.and_eq_true] at c
    refine ⟨p, vs, rfl, hs, scalar_flat hx c.1, scalar_flats hv c.2, ?_⟩
    rw [inV_any hx c.1 hv c.2]
    have := h.here e (.bl _)
    cases neg <;> simpa using this
  cases hy with
  | lst sy ay =>
    rename_i p vs ds
    have h : ResV K mg E F H (if (inb a ds || (SeqAt.shaped a && SeqAt.shaped (.list ds))) = true then .ok (.bool ((ds.any fun y => PyData.eqv y a) != neg)) else .bad) Q := by
      cases a <;> exact h
    by_cases c : (inb a ds || (SeqAt.shaped a && SeqAt.shaped (.list ds))) = true
    · rw [if_pos c] at h
      rw [Bool.or_eq_true, Bool.and_eq_true] at c
      rcases c with c | c
      · exact .inl (.inl (key p vs ds (.inl (.inl (rd_mono e sy))) ay c h))
      · refine .inl (.inr ?_)
        have := h.here e (.bl _)
        cases neg with
        | true => exact ⟨a, ds, dp_mono e _ _ (Dq.dp _ _ hx), .lst (.inl (rd_mono e sy)) (dpAll_mono e _ _ (DqAll.dp _ _ ay)), c.1, c.2, by simpa using this⟩
        | false => exact ⟨a, ds, dp_mono e _ _ (Dq.dp _ _ hx), .lst (.inl (rd_mono e sy)) (dpAll_mono e _ _ (DqAll.dp _ _ ay)), c.1, c.2, by simpa using this⟩
    · rw [if_neg c] at h; exact False.elim h
  | tup sy ay =>
    rename_i p vs ds
    have h : ResV K mg E F H (if inb a ds = true then .ok (.bool ((ds.any fun y => PyData.eqv y a) != neg)) else .bad) Q := by
      cases a <;> exact h
    by_cases c : inb a ds = true
    · rw [if_pos c] at h
      exact .inl (.inl (key p vs ds (.inr (sqT_mono e sy)) ay c h))
    · rw [if_neg c] at h; exact False.elim h
  | str j => cases hx with
    | str i =>
      have h : ResV K mg E F H (.ok (.bool ((!(Builtin.Str.occurrences j i 0 j.length 1).isEmpty) != neg))) Q := h
      have := h.here e (.bl _)
      cases neg with
      | true => exact .inr ⟨i, j, rfl, rfl, by simpa using this⟩
      | false => exact .inr ⟨i, j, rfl, rfl, by simpa using this⟩
    | _ => exact False.elim h
  | _ => cases hx <;> exact False.elim h
/-! ### is -/
def rIsG (neg : Bool) : R2 := fun x y H Q => (if neg then (y = .non ∧ Q (.bl (!decide (x = .non))) H) else (y = .non ∧ Q (.bl (decide (x = .non))) H)) ∨ (if neg then rNotB x y H Q else rIsB x y H Q)
theorem op_isG : OpR X (compareOp .Is) (rIsG false) := op_isN.or op_isBl
theorem op_isnotG : OpR X (compareOp .IsNot) (rIsG true) := op_notN.or op_notBl
theorem isGV (neg : Bool) : OpV K mg E (rIsG neg) (isD neg) := by
  intro F H x y a b Q e hx hy h
  cases hy with
  | non =>
    have q : ResV K mg E F H (.ok (.bool (decide (x = .non) != neg))) Q := by
      cases hx <;> exact h
    have := q.here e (.bl _)
    refine .inl ?_
    cases neg with
    | true => exact ⟨rfl, by simpa using this⟩
    | false => exact ⟨rfl, by simpa using this⟩
  | bl k => cases hx with
    | bl i =>
      have h : ResV K mg E F H (.ok (.bool (decide (i = k) != neg))) Q := h
      have := h.here e (.bl _)
      refine .inr ?_
      cases neg with
      | true => exact ⟨i, k, rfl, rfl, by simpa using this⟩
      | false => exact ⟨i, k, rfl, rfl, by simpa using this⟩
    | _ => exact False.elim h
  | _ => cases hx <;> exact False.elim h
/-! ### places -/
theorem atI_all {H : Hp} {vs : List V} {ds : List D} {i : Int} {d : D} (h : DqAll K H vs ds) (e : atI ds i = some d) : ∃ v, atI vs i = some v ∧ Dq K H v d := by
  unfold atI at e ⊢
  rw [h.length]
  cases q : ixN ds.length i with
  | none => rw [q] at e; cases e
  | some j =>
    rw [q] at e
    exact h.get e
theorem ixV : OpV K mg E (rIx K) ixD := by
  intro F H x y a b Q e hx hy h
  cases hx with
  | lst sx ax => cases hy with
    | int i =>
      rename_i l xs ds
      have h : ResV K mg E F H (match atI ds i with
        | some d => .ok d
        | none => .bad) Q := h
      cases q : atI ds i with
      | none => rw [q] at h; exact False.elim h
      | some d =>
        rw [q] at h
        obtain ⟨v, hv, dv⟩ := atI_all ax q
        exact .inl ⟨l, xs, i, v, rfl, rfl, .inl (rd_mono e sx), hv, h.here e dv⟩
    | _ => exact False.elim h
  | tup sx ax => cases hy with
    | int i =>
      rename_i l xs ds
      have h : ResV K mg E F H (match atI ds i with
        | some d => .ok d
        | none => .bad) Q := h
      cases q : atI ds i with
      | none => rw [q] at h; exact False.elim h
      | some d =>
        rw [q] at h
        obtain ⟨v, hv, dv⟩ := atI_all ax q
        exact .inr (.inl ⟨l, xs, i, v, rfl, rfl, sqT_mono e sx, hv, h.here e dv⟩)
    | _ => exact False.elim h
  | str z => cases hy with
    | int i =>
      have h : ResV K mg E F H (if z.length ≤ LIM then (match atI z.cps.toList i with
        | some c => .ok (.str ⟨#[c]⟩)
        | none => .bad) else .bad) Q := h
      by_cases c : z.length ≤ LIM
      · rw [if_pos c] at h
        cases q : atI z.cps.toList i with
        | none => rw [q] at h; exact False.elim h
        | some u =>
          rw [q] at h
          exact .inr (.inr ⟨z, i, u, rfl, rfl, lim_size c, q, h.here e (.str _)⟩)
      · rw [if_neg c] at h; exact False.elim h
    | _ => exact False.elim h
  | _ => cases hy <;> exact False.elim h
/-! ### slices -/
def rSlG (K : Frag) : V → Option Int → Option Int → Hp → VK → Prop := fun x lo hi H Q => (rSlL K x lo hi H Q ∨ rSlA K x lo hi H Q) ∨ rSlS x lo hi H Q
theorem sl_G : SlR X (rSlG X.K) := (sl_list.or sl_tupA).or sl_str
theorem cut_all {H : Hp} {vs : List V} {ds : List D} {lo hi : Option Int} (h : DqAll K H vs ds) : DqAll K H (cutV vs lo hi) (cutD ds lo hi) := by
  unfold cutV cutD
  rw [h.length]
  exact (h.drop _).take _
theorem slV {F H : Hp} {x : V} {a : D} {lo hi : Option Int} {Q : VK} (e : Same F H) (hx : Dq K F x a) (h : ResV K mg E F H (slD lo hi a) Q) : rSlG K x lo hi H Q := by
  cases hx with
  | lst sx ax => exact .inl (.inl ⟨_, _, rfl, .inl (rd_mono e sx), fun p hp => Res.lst e h (cut_all ax) p hp⟩)
  | tup sx ax =>
    rename_i l xs ds
    refine .inl <| .inr ⟨l, xs, rfl, sqT_mono e sx, fun w => ?_, fun _ p hp => Res.tup e h (cut_all ax) p hp⟩
    have c : cutD ds lo hi = ds := by
      unfold cutD
      have e1 := ax.length
      rw [e1] at w
      rw [w.1, w.2]
      simp
    have h : ResV K mg E F H (.ok (.tuple (cutD ds lo hi))) Q := h
    rw [c] at h
    exact h.here e (.tup sx ax)
  | str z =>
    have h : ResV K mg E F H (if z.length ≤ LIM then .ok (.str (L2.cutS z lo hi)) else .bad) Q := h
    by_cases c : z.length ≤ LIM
    · rw [if_pos c] at h
      exact .inr ⟨z, rfl, lim_size c, h.here e (.str _)⟩
    · rw [if_neg c] at h; exact False.elim h
  | _ => exact False.elim h
theorem revV {F H : Hp} {x : V} {a : D} {Q : VK} (e : Same F H) (hx : Dq K F x a) (h : ResV K mg E F H (revD a) Q) : ∃ p xs, x = .ref p ∧ SqL K H p xs ∧ ∀ q, H q = none → Q (.ref q) (upd H q (.lst xs.reverse)) := by
  cases hx with
  | lst sx ax => exact ⟨_, _, rfl, .inl (rd_mono e sx), fun p hp => Res.lst e h ax.reverse p hp⟩
  | _ => exact False.elim h
theorem negV {F H : Hp} {x : V} {a : D} {Q : VK} (e : Same F H) (hx : Dq K F x a) (h : ResV K mg E F H (negD a) Q) : rU (fun i => .int (-i)) x H Q := by
  cases hx with
  | int i => exact ⟨i, rfl, Res.here e h (.int _)⟩
  | _ => exact False.elim h
theorem asB_ok {a : D} {b : Bool} (h : asB a = .ok b) : a = .bool b := by
  cases a <;> first | (cases h; rfl) | cases h
theorem dq_bool {H : Hp} {v : V} {b : Bool} (h : Dq K H v (.bool b)) : v = .bl b := by cases h; rfl
/-! ### built-ins -/
theorem maxI_spec : ∀ {ns : List Int} {m : Int}, maxI ns = some m → m ∈ ns ∧ ∀ y ∈ ns, y ≤ m
  | [], _, h => by cases h
  | x :: r, m, h => by
    have h : (match maxI r with
      | none => some x
      | some m => some (if x ≥ m then x else m)) = some m := h
    cases q : maxI r with
    | none =>
      rw [q] at h
      have e : x = m := Option.some.inj h
      subst e
      cases r with
      | nil => exact ⟨List.mem_cons_self, fun y hy => by
          rcases List.mem_cons.mp hy with rfl | hy
          · omega
          · cases hy⟩
      | cons z t =>
        exfalso
        have q : (match maxI t with
          | none => some z
          | some m => some (if z ≥ m then z else m)) = none := q
        cases p : maxI t <;> (rw [p] at q; cases q)
    | some k =>
      rw [q] at h
      obtain ⟨h1, h2⟩ := maxI_spec q
      have e : (if x ≥ k then x else k) = m := Option.some.inj h
      by_cases c : x ≥ k
      · rw [if_pos c] at e
        subst e
        refine ⟨List.mem_cons_self, fun y hy => ?_⟩
        rcases List.mem_cons.mp hy with rfl | hy
        · omega
        · have := h2 y hy; omega
      · rw [if_neg c] at e
        subst e
        refine ⟨List.mem_cons_of_mem _ h1, fun y hy => ?_⟩
        rcases List.mem_cons.mp hy with rfl | hy
        · omega
        · exact h2 y hy
theorem minI_spec : ∀ {ns : List Int} {m : Int}, minI ns = some m → m ∈ ns ∧ ∀ y ∈ ns, m ≤ y
  | [], _, h => by cases h
  | x :: r, m, h => by
    have h : (match minI r with
      | none => some x
      | some m => some (if x ≤ m then x else m)) = some m := h
    cases q : minI r with
    | none =>
      rw [q] at h
      have e : x = m := Option.some.inj h
      subst e
      cases r with
      | nil => exact ⟨List.mem_cons_self, fun y hy => by
          rcases List.mem_cons.mp hy with rfl | hy
          · omega
          · cases hy⟩
      | cons z t =>
        exfalso
        have q : (match minI t with
          | none => some z
          | some m => some (if z ≤ m then z else m)) = none := q
        cases p : minI t <;> (rw [p] at q; cases q)
    | some k =>
      rw [q] at h
      obtain ⟨h1, h2⟩ := minI_spec q
      have e : (if x ≤ k then x else k) = m := Option.some.inj h
      by_cases c : x ≤ k
      · rw [if_pos c] at e
        subst e
        refine ⟨List.mem_cons_self, fun y hy => ?_⟩
        rcases List.mem_cons.mp hy with rfl | hy
        · omega
        · have := h2 y hy; omega
      · rw [if_neg c] at e
        subst e
        refine ⟨List.mem_cons_of_mem _ h1, fun y hy => ?_⟩
        rcases List.mem_cons.mp hy with rfl | hy
        · omega
        · exact h2 y hy
/-- a built-in by values against one on data -/
def CaV (K : Frag) (mg : Str → Option Value) (E : XK) (rr : List V → Hp → VK → Prop) (f : List D → Out D) : Prop :=
  ∀ (F H : Hp) (vs : List V) (ds : List D) (Q : VK), Same F H → DqAll K F vs ds → ResV K mg E F H (f ds) Q → rr vs H Q
def rLenG (K : Frag) : List V → Hp → VK → Prop := fun xs H Q => ∃ x n, xs = [x] ∧ LenV K x H n ∧ Q (.int n) H
theorem lenV : CaV K mg E (rLenG K) (bltD .len) := by
  intro F H vs ds Q e hv h
  cases hv with
  | nil => exact False.elim h
  | cons h1 t => cases t with
    | nil => cases h1 with
      | lst sx ax =>
        have h : ResV K mg E F H (.ok (.int _)) Q := h
        exact ⟨_, _, rfl, .inl ⟨_, .inl (rd_mono e sx), rfl⟩, by rw [ax.length]; exact h.here e (.int _)⟩
      | tup sx ax =>
        have h : ResV K mg E F H (.ok (.int _)) Q := h
        exact ⟨_, _, rfl, .inr ⟨_, sqT_mono e sx, rfl⟩, by rw [ax.length]; exact h.here e (.int _)⟩
      | str z =>
        have h : ResV K mg E F H (if z.length ≤ LIM then .ok (.int z.length) else .bad) Q := h
        by_cases c : z.length ≤ LIM
        · rw [if_pos c] at h
          exact ⟨_, _, rfl, ⟨lim_size c, rfl⟩, h.here e (.int _)⟩
        · rw [if_neg c] at h; exact False.elim h
      | _ => exact False.elim h
    | cons h2 t2 => cases h1 <;> exact False.elim h
theorem allV : CaV K mg E (rAll K) (bltD .all) := by
  intro F H vs ds Q e hv h
  cases hv with
  | nil => exact False.elim h
  | cons h1 t => cases t with
    | nil => cases h1 with
      | lst sx ax =>
        rename_i l xs ds
        have h : ResV K mg E F H (match asBools ds with
          | some bs => .ok (.bool (bs.all id))
          | none => .bad) Q := h
        cases q : asBools ds with
        | none => rw [q] at h; exact False.elim h
        | some bs =>
          rw [q] at h
          have e1 := ax.bools q
          subst e1
          exact ⟨l, bs, rfl, .inl (rd_mono e sx), h.here e (.bl _)⟩
      | _ => exact False.elim h
    | cons h2 t2 => cases h1 <;> exact False.elim h
theorem anyV : CaV K mg E (rAny K) (bltD .any) := by
  intro F H vs ds Q e hv h
  cases hv with
  | nil => exact False.elim h
  | cons h1 t => cases t with
    | nil => cases h1 with
      | lst sx ax =>
        rename_i l xs ds
        have h : ResV K mg E F H (match asBools ds with
          | some bs => .ok (.bool (bs.any id))
          | none => .bad) Q := h
        cases q : asBools ds with
        | none => rw [q] at h; exact False.elim h
        | some bs =>
          rw [q] at h
          have e1 := ax.bools q
          subst e1
          exact ⟨l, bs, rfl, .inl (rd_mono e sx), h.here e (.bl _)⟩
      | _ => exact False.elim h
    | cons h2 t2 => cases h1 <;> exact False.elim h
theorem sumV : CaV K mg E (rSum K) (bltD .sum) := by
  intro F H vs ds Q e hv h
  cases hv with
  | nil => exact False.elim h
  | cons h1 t => cases t with
    | nil => cases h1 with
      | lst sx ax =>
        rename_i l xs ds
        have h : ResV K mg E F H (match asInts ds with
          | some ns => .ok (.int ns.sum)
          | none => .bad) Q := h
        cases q : asInts ds with
        | none => rw [q] at h; exact False.elim h
        | some bs =>
          rw [q] at h
          have e1 := ax.ints q
          subst e1
          exact ⟨l, bs, rfl, .inl (rd_mono e sx), h.here e (.int _)⟩
      | _ => exact False.elim h
    | cons h2 t2 => cases h1 <;> exact False.elim h
def rMaxG (K : Frag) : List V → Hp → VK → Prop := fun xs H Q => rMax K xs H Q ∨ ∃ i j, xs = [.int i, .int j] ∧ Q (.int (if j > i then j else i)) H
def rMinG (K : Frag) : List V → Hp → VK → Prop := fun xs H Q => rMin K xs H Q ∨ ∃ i j, xs = [.int i, .int j] ∧ Q (.int (if j < i then j else i)) H
theorem cr_maxG (hc : X.calm = true) : CallR X (.builtin "max") (rMaxG X.K) := (cr_max hc).or (call_max2 hc)
theorem cr_minG (hc : X.calm = true) : CallR X (.builtin "min") (rMinG X.K) := (cr_min hc).or (call_min2 hc)
theorem maxV : CaV K mg E (rMaxG K) (bltD .max) := by
  intro F H vs ds Q e hv h
  cases hv with
  | nil => exact False.elim h
  | cons h1 t => cases t with
    | nil => cases h1 with
      | lst sx ax =>
        rename_i l xs ds
        have h : ResV K mg E F H (match (asInts ds).bind maxI with
          | some m => .ok (.int m)
          | none => .bad) Q := h
        cases q : asInts ds with
        | none => rw [q] at h; exact False.elim h
        | some ns =>
          rw [q] at h
          have h : ResV K mg E F H (match maxI ns with
            | some m => .ok (.int m)
            | none => .bad) Q := h
          cases q2 : maxI ns with
          | none => rw [q2] at h; exact False.elim h
          | some m =>
            rw [q2] at h
            have e1 := ax.ints q
            subst e1
            obtain ⟨s1, s2⟩ := maxI_spec q2
            refine .inl ⟨l, ns, rfl, .inl (rd_mono e sx), List.length_pos_of_mem s1, fun k k1 k2 => ?_⟩
            have : k = m := Int.le_antisymm (s2 k k1) (k2 m s1)
            subst this
            exact h.here e (.int _)
      | _ => exact False.elim h
    | cons h2 t2 => cases h1 with
      | int i => cases h2 with
        | int j => cases t2 with
          | nil => exact .inr ⟨i, j, rfl, Res.here e h (.int _)⟩
          | cons _ _ => exact False.elim h
        | _ => exact False.elim h
      | _ => exact False.elim h
theorem minV : CaV K mg E (rMinG K) (bltD .min) := by
  intro F H vs ds Q e hv h
  cases hv with
  | nil => exact False.elim h
  | cons h1 t => cases t with
    | nil => cases h1 with
      | lst sx ax =>
        rename_i l xs ds
        have h : ResV K mg E F H (match (asInts ds).bind minI with
          | some m => .ok (.int m)
          | none => .bad) Q := h
        cases q : asInts ds with
        | none => rw [q] at h; exact False.elim h
        | some ns =>
          rw [q] at h
          have h : ResV K mg E F H (match minI ns with
            | some m => .ok (.int m)
            | none => .bad) Q := h
          cases q2 : minI ns with
          | none => rw [q2] at h; exact False.elim h
          | some m =>
            rw [q2] at h
            have e1 := ax.ints q
            subst e1
            obtain ⟨s1, s2⟩ := minI_spec q2
            refine .inl ⟨l, ns, rfl, .inl (rd_mono e sx), List.length_pos_of_mem s1, fun k k1 k2 => ?_⟩
            have : k = m := Int.le_antisymm (k2 m s1) (s2 k k1)
            subst this
            exact h.here e (.int _)
      | _ => exact False.elim h
    | cons h2 t2 => cases h1 with
      | int i => cases h2 with
        | int j => cases t2 with
          | nil => exact .inr ⟨i, j, rfl, Res.here e h (.int _)⟩
          | cons _ _ => exact False.elim h
        | _ => exact False.elim h
      | _ => exact False.elim h
def rListG (K : Frag) : List V → Hp → VK → Prop := fun xs H Q => ∃ p ys, xs = [.ref p] ∧ (SqL K H p ys ∨ SqT K H p ys) ∧ ∀ l, H l = none → Q (.ref l) (upd H l (.lst ys))
theorem listV : CaV K mg E (rListG K) (bltD .list) := by
  intro F H vs ds Q e hv h
  cases hv with
  | nil => exact False.elim h
  | cons h1 t => cases t with
    | nil => cases h1 with
      | lst sx ax => exact ⟨_, _, rfl, .inl (.inl (rd_mono e sx)), fun p hp => Res.lst e h ax p hp⟩
      | tup sx ax => exact ⟨_, _, rfl, .inr (sqT_mono e sx), fun p hp => Res.lst e h ax p hp⟩
      | _ => exact False.elim h
    | cons h2 t2 => cases h1 <;> exact False.elim h
def rTupG (K : Frag) : List V → Hp → VK → Prop := fun xs H Q => ∃ p ys, xs = [.ref p] ∧ ((SqL K H p ys ∧ ∀ l, H l = none → Q (.ref l) (upd H l (.tup ys))) ∨ (SqT K H p ys ∧ Q (.ref p) H))
theorem tupV : CaV K mg E (rTupG K) (bltD .tuple) := by
  intro F H vs ds Q e hv h
  cases hv with
  | nil => exact False.elim h
  | cons h1 t => cases t with
    | nil => cases h1 with
      | lst sx ax => exact ⟨_, _, rfl, .inl ⟨.inl (rd_mono e sx), fun p hp => Res.tup e h ax p hp⟩⟩
      | tup sx ax => exact ⟨_, _, rfl, .inr ⟨sqT_mono e sx, Res.here e h (.tup sx ax)⟩⟩
      | _ => exact False.elim h
    | cons h2 t2 => cases h1 <;> exact False.elim h
/-! ### isinstance -/
def tyD : D → String
  | .none => "NoneType"
  | .bool _ => "bool"
  | .int _ => "int"
  | .str _ => "str"
  | .list _ => "list"
  | .tuple _ => "tuple"
  | .dict _ => "dict"
theorem dq_ty {H : Hp} {v : V} {d : D} (h : Dq K H v d) : TyX K H v (.type (tyD d)) := by
  cases h with
  | non => exact .base .non
  | bl b => exact .base (.bl b)
  | int i => exact .base (.int i)
  | str x => exact .base (.str x)
  | lst s _ =>
    rcases s with s | ⟨o, s⟩
    · exact .base (.lst s)
    · exact .base (.frz s)
  | tup s _ =>
    rcases s with (s | ⟨o, s⟩) | ⟨o, its, n, hk, hc, _⟩
    · exact .base (.tup s)
    · exact .fTuple s
    · exact .kTuple hk hc
/-- the classes that are asked -/
def isiT (T : String) : Bool := T == "int" || T == "bool" || T == "str" || T == "list" || T == "tuple"
theorem isi_kit {T : String} (hT : isiT T = true) (d : D) (hd : noDict d = true) : kitB (tyD d) T = some (isiD T d) := by
  unfold isiT at hT
  simp only [Bool.or_eq_true, beq_iff_eq] at hT
  rcases hT with (((rfl | rfl) | rfl) | rfl) | rfl <;> cases d <;> first | (cases hd; done) | (with_unfolding_all rfl) | decide +kernel
end
end BB

/-! ## the pure layer 5: readings of expressions by plain data -/
namespace BB
open PySem PySem.Spec PyProof.Rows L2
abbrev SL := L2.St
/-- the fields of an object, as they are read -/
structure FldE (K : Frag) (F : Hp) (C : Addr) (us : List (Str × V)) (fs : List (Str × D)) : Prop where
  cls : Cls K C
  get : ∀ f d, fs.lookup f = some d → NoAttr K C f ∧ ∃ v, us.lookup f = some v ∧ Dq K F v d
theorem FldE.mono {K : Frag} {F F' : Hp} {C : Addr} {us : List (Str × V)} {fs : List (Str × D)} (h : FldE K F C us fs) (e : Same F F') : FldE K F' C us fs :=
  ⟨h.cls, fun f d q => let ⟨n, v, h1, h2⟩ := h.get f d q; ⟨n, v, h1, Dq.mono e _ _ h2⟩⟩
structure DenE (K : Frag) (F : Hp) (σ : SL) (r : Env) : Prop where
  len : r.length = σ.length
  get : ∀ i d, (r.getD i .non).get = .ok d → ∃ v, σ[i]? = some (some v) ∧ Dq K F v d
  obj : ∀ i fs, r.getD i .non = .obj fs → ∃ a C dx us, σ[i]? = some (some (.ref a)) ∧ F a = some (.ins C dx us) ∧ FldE K F C us fs
theorem DenE.mono {K : Frag} {F F' : Hp} {σ : SL} {r : Env} (h : DenE K F σ r) (e : Same F F') : DenE K F' σ r :=
  ⟨h.len, fun i d q => let ⟨v, h1, h2⟩ := h.get i d q; ⟨v, h1, Dq.mono e _ _ h2⟩, fun i fs q => let ⟨a, C, dx, us, h1, h2, h3⟩ := h.obj i fs q; ⟨a, C, dx, us, h1, e _ _ h2, h3.mono e⟩⟩
section
variable (K : Frag) (mg : Str → Option Value) (E : XK)
def tG {α β : Type} (rel : Hp → β → α → Prop) (f : Env → Out α) : SL → Hp → (β → Hp → Prop) → Prop := fun σ H Q => ∃ (r : Env) (F : Hp), Same F H ∧ DenE K F σ r ∧ Res mg E F H rel (f r) Q
def tP (f : Env → Out D) : TE := tG K mg E (Dq K) f
def eqR {α : Type} : Hp → α → α → Prop := fun _ a b => a = b
def tPT (f : Env → Out D) : TT := tG K mg E eqR fun r => (f r).bind asB
def tPA (f : Env → Out (List D)) : TA := tG K mg E (DqAll K) f
def tPO (f : Env → Out (Option Int)) : TO := tG K mg E eqR f
end
section
variable {X : Cx} {E : XK} {e : Expr} {pos : Pos}
theorem PE.imp {t t' : TE} (h : PE X e t) (k : ∀ σ H Q, t' σ H Q → t σ H Q) : PE X e t' := ⟨fun pins s σ H Q I hw => h.run pins s σ H Q I (k σ H Q hw)⟩
theorem PT.imp {t t' : TT} (h : PT X e t) (k : ∀ σ H Q, t' σ H Q → t σ H Q) : PT X e t' := ⟨fun pins s σ H Q I hw => h.run pins s σ H Q I (k σ H Q hw)⟩
theorem PW.imp {t t' : TT} (h : PW X e t) (k : ∀ σ H Q, t' σ H Q → t σ H Q) : PW X e t' := ⟨fun wh pins s σ H Q I hw => h.run wh pins s σ H Q I (k σ H Q hw)⟩
theorem PA.imp {es : List Expr} {t t' : TA} (h : PA X es t) (k : ∀ σ H Q, t' σ H Q → t σ H Q) : PA X es t' := ⟨fun ps pins s σ H Q I hw => h.run ps pins s σ H Q I (k σ H Q hw)⟩
theorem PO.imp {o : Option Expr} {t t' : TO} (h : PO X o t) (k : ∀ σ H Q, t' σ H Q → t σ H Q) : PO X o t' := ⟨fun pins s σ H Q I hw => h.run pins s σ H Q I (k σ H Q hw)⟩

/-! ### constants, names -/
theorem peVar {i : Nat} {x : Str} (hN : X.N[i]? = some x) (hv : Vis X.env.scope x) (hd : (x == ("__debug__" : Str)) = false) (hcd : (x == ("__classdict__" : Str)) = false) : PE X (.Name x pos) (tP X.K X.mg E fun r => rd r i) :=
  PE.imp (pe_var hN hv hd hcd) fun σ H Q ⟨r, F, e, d, h⟩ => by
    have h : ResV X.K X.mg E F H ((r.getD i .non).get) Q := h
    cases q : (r.getD i .non).get with
    | ok a =>
      rw [q] at h
      obtain ⟨v, h1, h2⟩ := d.get i a q
      exact ⟨v, h1, h.here e h2⟩
    | exc c =>
      exfalso
      cases s : r.getD i .non <;> (rw [s] at q; cases q)
    | bad => rw [q] at h; exact False.elim h
/-- x.f, an object's field -/
theorem peFld {i : Nat} {x f : Str} {p : Pos} (hN : X.N[i]? = some x) (hv : Vis X.env.scope x) (hd : (x == ("__debug__" : Str)) = false) (hcd : (x == ("__classdict__" : Str)) = false) (hb : attributeBase (.Name x p) f X.env (eval (.Name x p) X.env) = eval (.Name x p) X.env) :
    PE X (.Attribute (.Name x p) f pos) (tP X.K X.mg E fun r => (r.getD i .non).fld f) :=
  PE.imp (pe_fld (pe_var hN hv hd hcd) hb) fun σ H Q ⟨r, F, e, d, h⟩ => by
    cases s : r.getD i .non with
    | obj fs =>
      dsimp only at h
      rw [s] at h
      have h : ResV X.K X.mg E F H (match fs.lookup f with
        | some d => .ok d
        | none => .bad) Q := h
      obtain ⟨a, C, dx, us, h1, h2, h3⟩ := d.obj i fs s
      cases q : fs.lookup f with
      | none => rw [q] at h; exact False.elim h
      | some y =>
        rw [q] at h
        obtain ⟨n, v, k1, k2⟩ := h3.get f y q
        exact ⟨.ref a, h1, a, C, dx, us, v, rfl, e _ _ h2, h3.cls, n, k1, h.here e k2⟩
    | _ => dsimp only at h; rw [s] at h; exact False.elim h
theorem peGlob {x : Str} {v : V} {u : Value} {d : D} (hg : Gl X x) (hm : X.mg x = some u) (rv : RelV v u) (hd : (x == ("__debug__" : Str)) = false) (dv : ∀ H, Dq X.K H v d) : PE X (.Name x pos) (tP X.K X.mg E fun _ => .ok d) :=
  PE.imp (pe_glob hg hm rv hd) fun σ H Q ⟨r, F, e, _, h⟩ => h.here e (dv F)
theorem peInt {i : Int} {j : Nat} : PE X (.Constant (.int i) j pos) (tP X.K X.mg E fun _ => .ok (.int i)) := PE.imp pe_int fun _ _ _ ⟨_, _, e, _, h⟩ => h.here e (.int _)
theorem peStr {s : Str} {j : Nat} : PE X (.Constant (.str s) j pos) (tP X.K X.mg E fun _ => .ok (.str s)) := PE.imp pe_str fun _ _ _ ⟨_, _, e, _, h⟩ => h.here e (.str _)
theorem peBl {b : Bool} {j : Nat} : PE X (.Constant (.bool b) j pos) (tP X.K X.mg E fun _ => .ok (.bool b)) := PE.imp pe_bl fun _ _ _ ⟨_, _, e, _, h⟩ => h.here e (.bl _)
theorem peNon {j : Nat} : PE X (.Constant .none j pos) (tP X.K X.mg E fun _ => .ok .none) := PE.imp pe_non fun _ _ _ ⟨_, _, e, _, h⟩ => h.here e .non
/-- a value as a test -/
theorem ptVal {f : Env → Out D} (h : PE X e (tP X.K X.mg E f)) (he : ∀ whole, isTrue e X.env whole = (do let v ← whole; standAt e.pos; holding [v] (truthy v))) : PT X e (tPT X.K X.mg E f) :=
  PT.imp (pt_val h he) fun σ H Q ⟨r, F, e, d, h⟩ => ⟨r, F, e, d, h.bind e fun a x H1 _ _ dx g1 g2 h1 => by
    cases q : asB a with
    | ok b =>
      rw [q] at h1
      have := asB_ok q
      subst this
      exact ⟨b, dq_bool dx, h1.here g2 rfl⟩
    | exc c => cases a <;> cases q
    | bad => rw [q] at h1; exact False.elim h1⟩

/-! ### operators -/
variable {l r : Expr} {fa fb fc : Env → Out D}
theorem binStep {rr : R2} {f : D → D → Out D} (hv : OpV X.K X.mg E rr f) {σ : SL} {H : Hp} {Q : VK} (h : tP X.K X.mg E (fun r => (fa r).bind fun x => (fb r).bind fun y => f x y) σ H Q) : tOp rr (tP X.K X.mg E fa) (tP X.K X.mg E fb) σ H Q := by
  obtain ⟨r, F, e, d, h⟩ := h
  refine ⟨r, F, e, d, h.bind e fun a x H1 _ s1 dx g1 g2 h1 => ?_⟩
  exact ⟨r, _, g2, d.mono g1, h1.bind g2 fun b y H2 _ s2 dy g3 g4 h2 => hv _ _ _ _ _ _ _ g4 (Dq.mono g3 _ _ dx) dy h2⟩
theorem peBin {op : Operator} {rr : R2} {f : D → D → Out D} (ho : OpR X (binaryOp op) rr) (hv : OpV X.K X.mg E rr f) (ha : PE X l (tP X.K X.mg E fa)) (hb : PE X r (tP X.K X.mg E fb)) :
    PE X (.BinOp l op r pos) (tP X.K X.mg E fun r => (fa r).bind fun x => (fb r).bind fun y => f x y) := PE.imp (pe_op ho ha hb) fun _ _ _ h => binStep hv h
theorem peCmp {op : CmpOp} {rr : R2} {f : D → D → Out D} (ho : OpR X (compareOp op) rr) (hv : OpV X.K X.mg E rr f) (ha : PE X l (tP X.K X.mg E fa)) (hb : PE X r (tP X.K X.mg E fb)) (hm : behindInMarks op r = false) :
    PE X (.Compare l [op] [r] pos) (tP X.K X.mg E fun r => (fa r).bind fun x => (fb r).bind fun y => f x y) := PE.imp (pe_cmpR ho ha hb hm) fun _ _ _ h => binStep hv h
/-- from a value's reading to the test's -/
theorem testOf {f : Env → Out D} {t : TE} {σ : SL} {H : Hp} {Q : Bool → Hp → Prop} (k : ∀ Q : VK, tP X.K X.mg E f σ H Q → t σ H Q) (h : tPT X.K X.mg E f σ H Q) : tTest t σ H Q := by
  refine k _ ?_
  obtain ⟨r, F, e, d, h⟩ := h
  refine ⟨r, F, e, d, h.bind e fun a x H1 _ _ dx g1 g2 h1 => ?_⟩
  cases q : asB a with
  | ok b =>
    rw [q] at h1
    have := asB_ok q
    subst this
    exact ⟨b, dq_bool dx, h1.here g2 rfl⟩
  | exc c => cases a <;> cases q
  | bad => rw [q] at h1; exact False.elim h1
theorem ptCmp {op : CmpOp} {rr : R2} {f : D → D → Out D} (ho : OpR X (compareOp op) rr) (hv : OpV X.K X.mg E rr f) (ha : PE X l (tP X.K X.mg E fa)) (hb : PE X r (tP X.K X.mg E fb)) (hm : behindInMarks op r = false) :
    PT X (.Compare l [op] [r] pos) (tPT X.K X.mg E fun r => (fa r).bind fun x => (fb r).bind fun y => f x y) := PT.imp (pt_cmpR ho ha hb hm) fun _ _ _ h => testOf (fun _ => binStep hv) h
theorem peIx {rr : R2} {f : D → D → Out D} (ho : IxR X rr) (hv : OpV X.K X.mg E rr f) (ha : PE X l (tP X.K X.mg E fa)) (hb : PE X r (tP X.K X.mg E fb)) (hs : PlainIx r) :
    PE X (.Subscript l r pos) (tP X.K X.mg E fun r => (fa r).bind fun x => (fb r).bind fun y => f x y) := PE.imp (pe_ix ho ha hb hs) fun _ _ _ h => binStep hv h
theorem peNeg (ha : PE X l (tP X.K X.mg E fa)) : PE X (.UnaryOp .USub l pos) (tP X.K X.mg E fun r => (fa r).bind negD) :=
  PE.imp (pe_un un_neg ha) fun σ H Q ⟨r, F, e, d, h⟩ => ⟨r, F, e, d, h.bind e fun a x H1 _ _ dx g1 g2 h1 => negV g2 dx h1⟩
theorem asBStep {α : Type} {β : Type} {a : D} {F H : Hp} {x : V} {rel : Hp → β → α → Prop} {f : Bool → Out α} {Q : β → Hp → Prop} (dx : Dq X.K F x a) (h : Res X.mg E F H rel ((asB a).bind f) Q) : ∃ b, x = .bl b ∧ a = .bool b ∧ Res X.mg E F H rel (f b) Q := by
  cases q : asB a with
  | ok b =>
    rw [q] at h
    have := asB_ok q
    subst this
    exact ⟨b, dq_bool dx, rfl, h⟩
  | exc c => cases a <;> cases q
  | bad => rw [q] at h; exact False.elim h
theorem peNot (ha : PE X l (tP X.K X.mg E fa)) : PE X (.UnaryOp .Not l pos) (tP X.K X.mg E fun r => (fa r).bind fun x => (asB x).bind fun b => .ok (.bool (!b))) :=
  PE.imp (pe_not ha) fun σ H Q ⟨r, F, e, d, h⟩ => ⟨r, F, e, d, h.bind e fun a x H1 _ _ dx g1 g2 h1 => by
    obtain ⟨b, e1, _, h2⟩ := asBStep dx h1
    exact ⟨b, e1, h2.here g2 (.bl _)⟩⟩
theorem Out.bind_assoc {α β γ : Type} (x : Out α) (f : α → Out β) (g : β → Out γ) : (x.bind f).bind g = x.bind fun a => (f a).bind g := by cases x <;> rfl
/-- a test's wish from that of a longer run -/
theorem tstBind {α β : Type} {f : Env → Out D} {k : Env → Bool → Out α} {rel : Hp → β → α → Prop} {σ : SL} {H : Hp} {Q : β → Hp → Prop} {P : Bool → Hp → Prop} {r : Env} {F : Hp} (e : Same F H) (d : DenE X.K F σ r) (h : Res X.mg E F H rel ((f r).bind fun x => (asB x).bind (k r)) Q)
    (go : ∀ b H1, Same F (grow F H H1) → Same (grow F H H1) H1 → Res X.mg E (grow F H H1) H1 rel (k r b) Q → P b H1) : tPT X.K X.mg E f σ H P := by
  refine ⟨r, F, e, d, ?_⟩
  rw [← Out.bind_assoc] at h
  exact h.bind e fun b b' H1 _ _ eb g1 g2 h1 => by
    cases (show b' = b from eb)
    exact go b H1 g1 g2 h1
theorem ptNot (ha : PT X l (tPT X.K X.mg E fa)) : PT X (.UnaryOp .Not l pos) (tPT X.K X.mg E fun r => (fa r).bind fun x => (asB x).bind fun b => .ok (.bool (!b))) :=
  PT.imp (pt_not ha) fun σ H Q ⟨r, F, e, d, h⟩ => by
    have h : Res X.mg E F H eqR ((fa r).bind fun x => (asB x).bind fun b => .ok (!b)) Q := by
      have q : (((fa r).bind fun x => (asB x).bind fun b => Out.ok (PyData.bool (!b))).bind asB) = (fa r).bind fun x => (asB x).bind fun b => .ok (!b) := by
        rw [Out.bind_assoc]
        congr 1
        funext x
        rw [Out.bind_assoc]
        rfl
      rw [← q]
      exact h
    exact tstBind (k := fun _ b => .ok (!b)) e d h fun b H1 g1 g2 h1 => h1.here g2 rfl
theorem peIte {t : Expr} {ft : Env → Out D} (ht : PT X t (tPT X.K X.mg E ft)) (ha : PE X l (tP X.K X.mg E fa)) (hb : PE X r (tP X.K X.mg E fb)) :
    PE X (.IfExp t l r pos) (tP X.K X.mg E fun r => (ft r).bind fun x => (asB x).bind fun k => if k = true then fa r else fb r) :=
  PE.imp (pe_ifExp ht ha hb) fun σ H Q ⟨r, F, e, d, h⟩ => by
    refine tstBind (k := fun r k => if k = true then fa r else fb r) e d h fun b H1 g1 g2 h1 => ?_
    cases b with
    | true => exact ⟨r, _, g2, d.mono g1, h1⟩
    | false => exact ⟨r, _, g2, d.mono g1, h1⟩
theorem pt_ifExp {c a b : Expr} {tc ta tb : TT} (hc : PT X c tc) (ha : PT X a ta) (hb : PT X b tb) : PT X (.IfExp c a b pos) (fun σ H Q => tc σ H fun k H1 => if k = true then ta σ H1 Q else tb σ H1 Q) := by
  refine ⟨fun pins s σ H Q I h => ?_⟩
  have q : ∀ w, isTrue (.IfExp c a b pos) X.env w = (do if ← isTrue c X.env (eval c X.env) then isTrue a X.env (eval a X.env) else isTrue b X.env (eval b X.env)) := fun w => by first | rfl | (rw [isTrue])
  rw [q]
  refine wpAny_bind (thn (hc.run pins s σ H _ I h) fun k s1 ⟨H1, I1, q1⟩ => ?_)
  cases k with
  | true => exact ha.run pins s1 σ H1 Q I1 q1
  | false => exact hb.run pins s1 σ H1 Q I1 q1
theorem ptIte {t : Expr} {ft : Env → Out D} (ht : PT X t (tPT X.K X.mg E ft)) (ha : PT X l (tPT X.K X.mg E fa)) (hb : PT X r (tPT X.K X.mg E fb)) :
    PT X (.IfExp t l r pos) (tPT X.K X.mg E fun r => (ft r).bind fun x => (asB x).bind fun k => if k = true then fa r else fb r) :=
  PT.imp (pt_ifExp ht ha hb) fun σ H Q ⟨r, F, e, d, h⟩ => by
    have h : Res X.mg E F H eqR ((ft r).bind fun x => (asB x).bind fun k => if k = true then (fa r).bind asB else (fb r).bind asB) Q := by
      have q : (((ft r).bind fun x => (asB x).bind fun k => if k = true then fa r else fb r).bind asB) = (ft r).bind fun x => (asB x).bind fun k => if k = true then (fa r).bind asB else (fb r).bind asB := by
        rw [Out.bind_assoc]
        congr 1
        funext x
        rw [Out.bind_assoc]
        congr 1
        funext k
        cases k <;> rfl
      rw [← q]
      exact h
    refine tstBind (k := fun r k => if k = true then (fa r).bind asB else (fb r).bind asB) e d h fun b H1 g1 g2 h1 => ?_
    cases b with
    | true => exact ⟨r, _, g2, d.mono g1, h1⟩
    | false => exact ⟨r, _, g2, d.mono g1, h1⟩
/-! ### a < b < c -/
variable {t : Expr}
def chnF (f f' : D → D → Out D) (fa fb fc : Env → Out D) : Env → Out D := fun r => (fa r).bind fun x => (fb r).bind fun y => (f x y).bind fun k => (asB k).bind fun k => if k = true then (fc r).bind fun z => f' y z else .ok (.bool false)
/-- the first of two comparisons: its answer is a bool -/
theorem chnStep {rr rr' : R2} {f f' : D → D → Out D} (hv : OpV X.K X.mg E rr f) (hv' : OpV X.K X.mg E rr' f') {σ : SL} {H : Hp} {Q : VK} (h : tP X.K X.mg E (chnF f f' fa fb fc) σ H Q) : tChain rr rr' (tP X.K X.mg E fa) (tP X.K X.mg E fb) (tP X.K X.mg E fc) σ H Q := by
  obtain ⟨r, F, e, d, h⟩ := h
  refine ⟨r, F, e, d, h.bind e fun a x H1 _ s1 dx g1 g2 h1 => ?_⟩
  refine ⟨r, _, g2, d.mono g1, h1.bind g2 fun b y H2 _ s2 dy g3 g4 h2 => ?_⟩
  refine hv _ _ _ _ _ _ _ g4 (Dq.mono g3 _ _ dx) dy ?_
  refine h2.bind g4 fun k z H3 _ s3 dz g5 g6 h3 => ?_
  obtain ⟨b, e1, _, h4⟩ := asBStep dz h3
  refine ⟨b, e1, ?_⟩
  cases b with
  | false => exact h4.here g6 (.bl _)
  | true =>
    exact ⟨r, _, g6, d.mono (g1.trans (g3.trans g5)), Res.bind g6 h4 fun w u H4 _ s4 du g7 g8 h5 => hv' _ _ _ _ _ _ _ g8 (Dq.mono (g5.trans g7) _ _ dy) du h5⟩
theorem peChn {op op' : CmpOp} {rr rr' : R2} {f f' : D → D → Out D} (ho : OpR X (compareOp op) rr) (ho' : OpR X (compareOp op') rr') (hv : OpV X.K X.mg E rr f) (hv' : OpV X.K X.mg E rr' f') (ha : PE X l (tP X.K X.mg E fa)) (hb : PE X r (tP X.K X.mg E fb)) (hc : PE X t (tP X.K X.mg E fc))
    (hm : lastMarks [op, op'] [r, t] = false) : PE X (.Compare l [op, op'] [r, t] pos) (tP X.K X.mg E (chnF f f' fa fb fc)) := PE.imp (pe_chain ho ho' ha hb hc hm) fun _ _ _ h => chnStep hv hv' h
theorem ptChn {op op' : CmpOp} {rr rr' : R2} {f f' : D → D → Out D} (ho : OpR X (compareOp op) rr) (ho' : OpR X (compareOp op') rr') (hv : OpV X.K X.mg E rr f) (hv' : OpV X.K X.mg E rr' f') (ha : PE X l (tP X.K X.mg E fa)) (hb : PE X r (tP X.K X.mg E fb)) (hc : PE X t (tP X.K X.mg E fc))
    (hm : lastMarks [op, op'] [r, t] = false) : PT X (.Compare l [op, op'] [r, t] pos) (tPT X.K X.mg E (chnF f f' fa fb fc)) := PT.imp (pt_chain ho ho' ha hb hc hm) fun _ _ _ h => testOf (fun _ => chnStep hv hv') h
/-! ### slices -/
theorem poNone : PO X none (tPO X.K X.mg E fun _ => .ok none) := PO.imp po_none fun σ H Q ⟨r, F, e, d, h⟩ => h.here e rfl
theorem poSome (ha : PE X l (tP X.K X.mg E fa)) : PO X (some l) (tPO X.K X.mg E fun r => (fa r).bind partI) := PO.imp (po_some ha) fun σ H Q ⟨r, F, e, d, h⟩ => ⟨r, F, e, d, h.bind e fun a x H1 _ _ dx g1 g2 h1 => by
  cases dx with
  | int i => exact ⟨i, rfl, Res.here g2 h1 rfl⟩
  | _ => exact False.elim h1⟩
theorem peSl {lo hi : Option Expr} {fl fh : Env → Out (Option Int)} {p2 : Pos} (ha : PE X l (tP X.K X.mg E fa)) (hl : PO X lo (tPO X.K X.mg E fl)) (hh : PO X hi (tPO X.K X.mg E fh)) :
    PE X (.Subscript l (.Slice lo hi none p2) pos) (tP X.K X.mg E fun r => (fa r).bind fun x => (fl r).bind fun i => (fh r).bind fun j => slD i j x) :=
  PE.imp (pe_slice sl_G ha hl hh) fun σ H Q ⟨r, F, e, d, h⟩ => ⟨r, F, e, d, h.bind e fun a x H1 _ _ dx g1 g2 h1 =>
    ⟨r, _, g2, d.mono g1, h1.bind g2 fun i i' H2 _ _ ei g3 g4 h2 => ⟨r, _, g4, d.mono (g1.trans g3), h2.bind g4 fun j j' H3 _ _ ej g5 g6 h3 => by
      cases (show i' = i from ei)
      cases (show j' = j from ej)
      exact slV g6 (Dq.mono (g3.trans g5) _ _ dx) h3⟩⟩⟩
theorem peRev {k : Nat} {p1 p2 p3 : Pos} (ha : PE X l (tP X.K X.mg E fa)) : PE X (.Subscript l (.Slice none none (some (.UnaryOp .USub (.Constant (.int 1) k p1) p2)) p3) pos) (tP X.K X.mg E fun r => (fa r).bind revD) :=
  PE.imp (pe_revL ha) fun σ H Q ⟨r, F, e, d, h⟩ => ⟨r, F, e, d, h.bind e fun a x H1 _ _ dx g1 g2 h1 => revV g2 dx h1⟩
/-! ### argument lists, displays -/
theorem paNil : PA X [] (tPA X.K X.mg E fun _ => .ok []) := PA.imp pa_nil fun σ H Q ⟨r, F, e, d, h⟩ => h.here e .nil
theorem paCons {es : List Expr} {fs : Env → Out (List D)} (ha : PE X l (tP X.K X.mg E fa)) (hs : PA X es (tPA X.K X.mg E fs)) (hst : starEach (l :: es) X.env = (false, eval l X.env) :: starEach es X.env) :
    PA X (l :: es) (tPA X.K X.mg E fun r => (fa r).bind fun d => (fs r).bind fun ds => .ok (d :: ds)) :=
  PA.imp (pa_cons ha hs hst) fun σ H Q ⟨r, F, e, d, h⟩ => ⟨r, F, e, d, h.bind e fun a x H1 _ _ dx g1 g2 h1 =>
    ⟨r, _, g2, d.mono g1, h1.bind g2 fun b xs H2 _ _ dxs g3 g4 h2 => h2.here g4 (.cons (Dq.mono g3 _ _ dx) dxs)⟩⟩
variable {es : List Expr} {fs : Env → Out (List D)}
theorem peTup {k : Nat} {n : Nat} (hs : PA X es (tPA X.K X.mg E fs)) (hn : ∀ r ds, fs r = .ok ds → ds.length ≤ LIM) : PE X (.Tuple es k pos) (tP X.K X.mg E fun r => (fs r).bind fun ds => .ok (.tuple ds)) :=
  PE.imp (pe_tup hs) fun σ H Q ⟨r, F, e, d, h⟩ => ⟨r, F, e, d, h.bind e fun a xs H1 ea _ dx g1 g2 h1 => ⟨lim_size (by rw [dx.length]; exact hn r a ea), fun p hp => h1.tup g2 dx p hp⟩⟩
theorem peLst {n : Nat} (hs : PA X es (tPA X.K X.mg E fs)) (hn : ∀ r ds, fs r = .ok ds → ds.length ≤ LIM) : PE X (.List es pos) (tP X.K X.mg E fun r => (fs r).bind fun ds => .ok (.list ds)) :=
  PE.imp (pe_lst hs) fun σ H Q ⟨r, F, e, d, h⟩ => ⟨r, F, e, d, h.bind e fun a xs H1 ea _ dx g1 g2 h1 => ⟨lim_size (by rw [dx.length]; exact hn r a ea), fun p hp => h1.lst g2 dx p hp⟩⟩
/-! ### calls -/
/-- the promise of a def by a function on data -/
def spD (K : Frag) (mg : Str → Option Value) (n : Nat) (m : List D → Out D) : Sp := fun vs H Q E => vs.length = n ∧ ∃ (F : Hp) (ds : List D), Same F H ∧ DqAll K F vs ds ∧ ResV K mg E F H (m ds) Q
def plainE : Expr → Bool
  | .Starred _ _ => false
  | .Set _ _ _ => false
  | .Slice _ _ _ _ => false
  | _ => true
theorem star_plain {e : Expr} {es : List Expr} {env : PySem.Env} (h : plainE e = true) : starEach (e :: es) env = (false, eval e env) :: starEach es env := by
  cases e <;> first | rfl | cases h
theorem marks_plain {e : Expr} {op : CmpOp} (h : plainE e = true) : behindInMarks op e = false := by
  cases e <;> first | rfl | cases h
theorem ix_plain {e : Expr} (h : plainE e = true) : PlainIx e := by
  intro o i
  cases e <;> first | rfl | cases h
theorem set_plainE {e : Expr} {env : PySem.Env} (h : plainE e = true) (x : Value) : foldedSetIterable e env x = pure x := by
  cases e <;> first | rfl | cases h
def plainEs : List Expr → Bool
  | [] => true
  | e :: es => plainE e && plainEs es
theorem stars_plain {env : PySem.Env} {pos : Pos} : ∀ {es : List Expr}, plainEs es = true → (backTo pos (starEach es env)).any (·.1) = false
  | [], _ => rfl
  | e :: es, h => by
    unfold plainEs at h
    rw [Bool.and_eq_true] at h
    rw [star_plain h.1]
    have := stars_plain (env := env) (pos := pos) h.2
    unfold backTo at this ⊢
    rw [List.map_cons, List.any_cons, this]
    rfl
theorem peCall {k n : Nat} {f : Addr} {fd : FuncData} {ps : List Str} {m : List D → Out D} {x : Str} {p : Pos} (G : FnOk X.prog X.w X.K X.mg X.base (L2.CX X.prog X.w) k f fd ps (spD X.K X.mg n m)) (hr : Room k X.A) (hg : Gl X x) (hm : X.mg x = some (.ref f)) (hk : PySem.W.keepIn X.K (.ref f) = true)
    (hb : Binds X.K fd ps []) (tk : Takes X (fun cls d _ H => E cls d H)) (hs : PA X (l :: es) (tPA X.K X.mg E fs)) (hn : ∀ r ds, fs r = .ok ds → ds.length = n) (hdb : (x == ("__debug__" : Str)) = false) (hp : plainEs (l :: es) = true) :
    PE X (.Call (.Name x p) (l :: es) [] pos) (tP X.K X.mg E fun r => (fs r).bind m) := by
  have px : Passes (L2.CX X.prog X.w) X E := passes_call tk fun _ _ _ _ h => h
  unfold plainEs at hp
  rw [Bool.and_eq_true] at hp
  refine PE.imp (pe_call G hr hg hm hk hb .nil px hs hdb (star_plain hp.1) (stars_plain hp.2)) fun σ H Q ⟨r, F, e, d, h⟩ => ⟨r, F, e, d, h.bind e fun ds vs H1 ea _ dv g1 g2 h1 => ?_⟩
  rw [List.append_nil]
  exact ⟨by rw [dv.length]; exact hn r ds ea, _, ds, g2, dv, h1⟩
theorem peCall0 {k : Nat} {f : Addr} {fd : FuncData} {ps : List Str} {m : List D → Out D} {x : Str} {p : Pos} (G : FnOk X.prog X.w X.K X.mg X.base (L2.CX X.prog X.w) k f fd ps (spD X.K X.mg 0 m)) (hr : Room k X.A) (hg : Gl X x) (hm : X.mg x = some (.ref f)) (hk : PySem.W.keepIn X.K (.ref f) = true)
    (hb : Binds X.K fd ps []) (tk : Takes X (fun cls d _ H => E cls d H)) (hdb : (x == ("__debug__" : Str)) = false) : PE X (.Call (.Name x p) [] [] pos) (tP X.K X.mg E fun _ => m []) := by
  have px : Passes (L2.CX X.prog X.w) X E := passes_call tk fun _ _ _ _ h => h
  refine PE.imp (pe_call0 G hr hg hm hk hb .nil px hdb) fun σ H Q ⟨r, F, e, d, h⟩ => ?_
  exact ⟨rfl, F, [], e, .nil, h⟩
/-- a built-in function, a built-in class -/
theorem peBlt {x : Str} {p : Pos} {id : String} {rr : List V → Hp → VK → Prop} {m : List D → Out D} (hc : CallR X (.builtin id) rr) (hv : CaV X.K X.mg E rr m) (hg : Gl X x) (hm : X.mg x = none) (hv2 : bootBuiltins x = some (.builtin id)) (hn : x ≠ "__name__") (hdb : (x == ("__debug__" : Str)) = false)
    (hs : PA X (l :: es) (tPA X.K X.mg E fs)) (hp : plainEs (l :: es) = true) : PE X (.Call (.Name x p) (l :: es) [] pos) (tP X.K X.mg E fun r => (fs r).bind m) := by
  unfold plainEs at hp
  rw [Bool.and_eq_true] at hp
  exact PE.imp (pe_callB hc hg hm hv2 hs hn hdb (star_plain hp.1) (stars_plain hp.2)) fun σ H Q ⟨r, F, e, d, h⟩ => ⟨r, F, e, d, h.bind e fun ds vs H1 ea _ dv g1 g2 h1 => hv _ _ _ _ _ g2 dv h1⟩
theorem peBty {x : Str} {p : Pos} {T : String} {rr : List V → Hp → VK → Prop} {m : List D → Out D} (hc : CallR X (.type T) rr) (hv : CaV X.K X.mg E rr m) (hg : Gl X x) (hm : X.mg x = none) (hv2 : bootBuiltins x = some (.type T)) (hn : x ≠ "__name__") (hdb : (x == ("__debug__" : Str)) = false)
    (hs : PA X (l :: es) (tPA X.K X.mg E fs)) (hp : plainEs (l :: es) = true) : PE X (.Call (.Name x p) (l :: es) [] pos) (tP X.K X.mg E fun r => (fs r).bind m) := by
  unfold plainEs at hp
  rw [Bool.and_eq_true] at hp
  exact PE.imp (pe_callTy hc hg hm hv2 hs hn hdb (star_plain hp.1) (stars_plain hp.2)) fun σ H Q ⟨r, F, e, d, h⟩ => ⟨r, F, e, d, h.bind e fun ds vs H1 ea _ dv g1 g2 h1 => hv _ _ _ _ _ g2 dv h1⟩
theorem boot_T {T : String} (h : isiT T = true) : bootBuiltins (Str.ofString T) = some (.type T) := by
  unfold isiT at h
  simp only [Bool.or_eq_true, beq_iff_eq] at h
  rcases h with (((rfl | rfl) | rfl) | rfl) | rfl <;> decide +kernel
theorem peIsi {p p2 : Pos} {T : String} (ha : PE X l (tP X.K X.mg E fa)) (hT : isiT T = true) (hp : plainE l = true) (hg : Gl X "isinstance") (hm : X.mg "isinstance" = none) (hg2 : Gl X (Str.ofString T)) (hm2 : X.mg (Str.ofString T) = none)
    (hn : Str.ofString T ≠ "__name__") (hdb : (Str.ofString T == ("__debug__" : Str)) = false) :
    PE X (.Call (.Name "isinstance" p) [l, .Name (Str.ofString T) p2] [] pos) (tP X.K X.mg E fun r => (fa r).bind fun x => if noDict x then .ok (.bool (isiD T x)) else .bad) := by
  refine PE.imp (pe_callB call_isi hg hm (by decide +kernel) (pa_cons ha (pa_cons (pe_bltn (v := .ty T) hg2 hm2 (boot_T hT) rfl hn hdb) pa_nil) (star_plain hp)) (by decide) (by decide) (star_plain hp) rfl) fun σ H Q ⟨r, F, e, d, h⟩ => ⟨r, F, e, d, h.bind e fun a x H1 ea _ dx g1 g2 h1 => ?_⟩
  by_cases c : noDict a = true
  · have h1 : Res X.mg E (grow F H H1) H1 (Dq X.K) (.ok (.bool (isiD T a))) Q := by rw [if_pos c] at h1; exact h1
    exact ⟨x, .ty T, _, _, _, rfl, .ty T, dq_ty (Dq.mono g2 _ _ dx), kit_ty (isi_kit hT a c), h1.here g2 (.bl _)⟩
  · rw [if_neg c] at h1; exact False.elim h1
/-! ### and, or -/
variable {rest : List Expr}
def bopF (g : Sg) (isAnd : Bool) (f : Env → Out D) (es : Es) : Env → Out D := fun r => (f r).bind fun x => evB g isAnd es r x
theorem bop_nil {g : Sg} {isAnd : Bool} {f : Env → Out D} : bopF g isAnd f .nil = f := by
  funext r
  unfold bopF
  cases f r <;> rfl
theorem peAnd {g : Sg} {e2 : BB.E} {es2 : Es} (ha : PE X l (tP X.K X.mg E fa)) (hb : PE X (.BoolOp .And (r :: rest) pos) (tP X.K X.mg E (bopF g true (evE g e2) es2))) : PE X (.BoolOp .And (l :: r :: rest) pos) (tP X.K X.mg E (bopF g true fa (.cons e2 es2))) :=
  PE.imp (pe_and ha hb) fun σ H Q ⟨r, F, e, d, h⟩ => ⟨r, F, e, d, Res.bind e h fun a x H1 ea _ dx g1 g2 h1 => by
    obtain ⟨b, e1, e2, h2⟩ := asBStep (f := fun b => if b = true then (evE g e2 r).bind fun y => evB g true es2 r y else .ok (.bool b)) dx h1
    refine ⟨b, e1, ?_⟩
    cases b with
    | true => exact ⟨r, _, g2, d.mono g1, h2⟩
    | false => exact Res.here g2 h2 (.bl _)⟩
theorem peOr {g : Sg} {e2 : BB.E} {es2 : Es} (ha : PE X l (tP X.K X.mg E fa)) (hb : PE X (.BoolOp .Or (r :: rest) pos) (tP X.K X.mg E (bopF g false (evE g e2) es2))) : PE X (.BoolOp .Or (l :: r :: rest) pos) (tP X.K X.mg E (bopF g false fa (.cons e2 es2))) :=
  PE.imp (pe_or ha hb) fun σ H Q ⟨r, F, e, d, h⟩ => ⟨r, F, e, d, Res.bind e h fun a x H1 ea _ dx g1 g2 h1 => by
    obtain ⟨b, e1, e2, h2⟩ := asBStep (f := fun b => if b = false then (evE g e2 r).bind fun y => evB g false es2 r y else .ok (.bool b)) dx h1
    refine ⟨b, e1, ?_⟩
    cases b with
    | false => exact ⟨r, _, g2, d.mono g1, h2⟩
    | true => exact Res.here g2 h2 (.bl _)⟩
theorem bop_test {g : Sg} {isAnd : Bool} {e2 : BB.E} {es2 : Es} {r : Env} : ((bopF g isAnd fa (.cons e2 es2) r).bind asB) = (fa r).bind fun x => (asB x).bind fun b => if b = isAnd then (bopF g isAnd (evE g e2) es2 r).bind asB else .ok b := by
  unfold bopF
  rw [Out.bind_assoc]
  congr 1
  funext x
  show ((asB x).bind fun b => if b = isAnd then (evE g e2 r).bind fun y => evB g isAnd es2 r y else .ok (.bool b)).bind asB = _
  rw [Out.bind_assoc]
  congr 1
  funext b
  by_cases c : b = isAnd
  · rw [if_pos c, if_pos c]
  · rw [if_neg c, if_neg c]; rfl
theorem pwAnd {g : Sg} {e2 : BB.E} {es2 : Es} (ha : PT X l (tPT X.K X.mg E fa)) (hb : PW X (.BoolOp .And (r :: rest) pos) (tPT X.K X.mg E (bopF g true (evE g e2) es2))) : PW X (.BoolOp .And (l :: r :: rest) pos) (tPT X.K X.mg E (bopF g true fa (.cons e2 es2))) :=
  PW.imp (pw_and ha hb) fun σ H Q ⟨r, F, e, d, h⟩ => by
    dsimp only at h
    rw [bop_test] at h
    refine tstBind (k := fun r b => if b = true then (bopF g true (evE g e2) es2 r).bind asB else .ok b) e d h fun b H1 g1 g2 h1 => ?_
    cases b with
    | true => exact ⟨r, _, g2, d.mono g1, h1⟩
    | false => exact h1.here g2 rfl
theorem pwOr {g : Sg} {e2 : BB.E} {es2 : Es} (ha : PT X l (tPT X.K X.mg E fa)) (hb : PW X (.BoolOp .Or (r :: rest) pos) (tPT X.K X.mg E (bopF g false (evE g e2) es2))) : PW X (.BoolOp .Or (l :: r :: rest) pos) (tPT X.K X.mg E (bopF g false fa (.cons e2 es2))) :=
  PW.imp (pw_or ha hb) fun σ H Q ⟨r, F, e, d, h⟩ => by
    dsimp only at h
    rw [bop_test] at h
    refine tstBind (k := fun r b => if b = false then (bopF g false (evE g e2) es2 r).bind asB else .ok b) e d h fun b H1 g1 g2 h1 => ?_
    cases b with
    | false => exact ⟨r, _, g2, d.mono g1, h1⟩
    | true => exact h1.here g2 rfl
end
end BB

/-! ## the pure layer 6: what is walked, targets, comprehensions -/
namespace BB
open PySem PySem.Spec PyProof.Rows L2
structure WalkD (K : Frag) (F : Hp) (J : L2.It) (items : List D) : Prop where
  ex : ∃ (G : Hp → Prop) (Y : Nat → Hp → V → Hp → Prop), Walk J items.length G Y ∧ (∀ H, Same F H → G H) ∧ ∀ i H x H', i < items.length → Same F H → Y i H x H' → Same H H' ∧ ∃ d, items[i]? = some d ∧ Dq K (grow F H H') x d
  le : items.length ≤ sizeLine
section
variable {K : Frag} {F H : Hp}
theorem walkD_list {a : Addr} {xs : List V} {ds : List D} (s : Rd F a (.lst xs)) (h : DqAll K F xs ds) (z : xs.length ≤ sizeLine) : WalkD K F (Itl K a) ds := by
  refine ⟨⟨fun H => SqL K H a xs, YAt xs, by rw [← h.length]; exact walk_list (xs := xs), fun H e => .inl (rd_mono e s), fun i H x H' hi e y => ?_⟩, by rw [← h.length]; exact z⟩
  obtain ⟨rfl, y⟩ := y
  obtain ⟨d, h1, h2⟩ := h.get' y
  exact ⟨Same.refl _, d, h1, by rw [grow_refl e]; exact h2⟩
theorem walkD_tup {a : Addr} {xs : List V} {ds : List D} (s : SqT K F a xs) (h : DqAll K F xs ds) (z : xs.length ≤ sizeLine) : WalkD K F (Itt K a) ds := by
  refine ⟨⟨fun H => SqT K H a xs, YAt xs, by rw [← h.length]; exact walk_tup (xs := xs), fun H e => sqT_mono e s, fun i H x H' hi e y => ?_⟩, by rw [← h.length]; exact z⟩
  obtain ⟨rfl, y⟩ := y
  obtain ⟨d, h1, h2⟩ := h.get' y
  exact ⟨Same.refl _, d, h1, by rw [grow_refl e]; exact h2⟩
theorem walkD_str {z : Str} (h : z.length ≤ LIM) : WalkD K F (Its z) (z.cps.toList.map fun c => .str ⟨#[c]⟩) := by
  refine ⟨⟨fun _ => True, _, by rw [List.length_map, Array.length_toList]; exact walk_str, fun H e => True.intro, fun i H x H' hi e y => ?_⟩, by rw [List.length_map, Array.length_toList]; exact lim_size h⟩
  obtain ⟨rfl, c, y1, rfl⟩ := y
  exact ⟨Same.refl _, .str ⟨#[c]⟩, by rw [List.getElem?_map, Array.getElem?_toList, y1]; rfl, .str _⟩
theorem rangeD_length : ∀ (n : Nat) (lo : Int), (rangeD lo n).length = n
  | 0, _ => rfl
  | n + 1, lo => by show (rangeD (lo + 1) n).length + 1 = n + 1; rw [rangeD_length n]
theorem rangeD_get : ∀ (n : Nat) (lo : Int) (i : Nat), i < n → (rangeD lo n)[i]? = some (.int (lo + i))
  | 0, _, _, h => by omega
  | n + 1, lo, 0, _ => by
    show some (PyData.int lo) = _
    rw [show lo + ((0 : Nat) : Int) = lo by omega]
  | n + 1, lo, i + 1, h => by
    show (rangeD (lo + 1) n)[i]? = _
    rw [rangeD_get n (lo + 1) i (by omega)]
    rw [show lo + 1 + (i : Int) = lo + ((i + 1 : Nat) : Int) by omega]
theorem walkD_range {lo : Int} {n : Nat} (z : n ≤ LIM) : WalkD K F (Itr lo n) (rangeD lo n) := by
  refine ⟨⟨fun _ => True, YFn fun i => .int (lo + i), by rw [rangeD_length]; exact walk_range, fun H e => True.intro, fun i H x H' hi e y => ?_⟩, by rw [rangeD_length]; exact lim_size z⟩
  rw [rangeD_length] at hi
  obtain ⟨rfl, rfl⟩ := y
  exact ⟨Same.refl _, _, rangeD_get n lo i hi, .int _⟩
theorem zipD_length : ∀ (xs ys : List D), (zipD xs ys).length = min xs.length ys.length
  | [], _ => by simp [zipD]
  | _ :: _, [] => by simp [zipD]
  | x :: xs, y :: ys => by
    show (zipD xs ys).length + 1 = _
    rw [zipD_length xs ys, List.length_cons, List.length_cons]
    omega
theorem zipD_get : ∀ (xs ys : List D) (i : Nat) (x y : D), xs[i]? = some x → ys[i]? = some y → (zipD xs ys)[i]? = some (.tuple [x, y])
  | [], _, _, _, _, h, _ => by simp at h
  | _ :: _, [], _, _, _, _, h => by simp at h
  | a :: xs, b :: ys, 0, x, y, h, h2 => by
    have e1 : a = x := Option.some.inj h
    have e2 : b = y := Option.some.inj h2
    rw [e1, e2]; rfl
  | a :: xs, b :: ys, i + 1, x, y, h, h2 => zipD_get xs ys i x y h h2
/-- pairs newly made at each turn -/
theorem pair_ok {i : Nat} {H : Hp} {v : V} {H' : Hp} {fx fy : Nat → Option V} {dx dy d : D} (e : Same F H) (y : YPair fx fy i H v H') (h1 : ∀ x, fx i = some x → Dq K F x dx) (h2 : ∀ x, fy i = some x → Dq K F x dy) : Same H H' ∧ Dq K (grow F H H') v (.tuple [dx, dy]) := by
  obtain ⟨T, x, z, rfl, nT, rfl, q1, q2⟩ := y
  refine ⟨same_upd nT, .tup (.inl (.inl (grow_upd nT))) (.cons (Dq.mono (grow_same1 e) _ _ (h1 x q1)) (.cons (Dq.mono (grow_same1 e) _ _ (h2 z q2)) .nil))⟩
theorem walkD_zip {a b : Addr} {xs ys : List V} {ds es : List D} (s : Rd F a (.lst xs)) (s2 : Rd F b (.lst ys)) (h : DqAll K F xs ds) (h2 : DqAll K F ys es) (z : ds.length ≤ LIM) : WalkD K F (Itz K a b) (zipD ds es) := by
  have hl := zipD_length ds es
  refine ⟨⟨fun H => SqL K H a xs ∧ SqL K H b ys, YPair (fun i => xs[i]?) (fun i => ys[i]?), by rw [hl]; exact walk_zip (xs := xs) (ys := ys) (by rw [h.length, h2.length]), fun H e => ⟨.inl (rd_mono e s), .inl (rd_mono e s2)⟩, fun i H x H' hi e y => ?_⟩, ?_⟩
  · rw [hl] at hi
    have i1 : i < ds.length := by omega
    have i2 : i < es.length := by omega
    have g1 : ds[i]? = some ds[i] := List.getElem?_eq_getElem i1
    have g2 : es[i]? = some es[i] := List.getElem?_eq_getElem i2
    obtain ⟨p1, p2⟩ := pair_ok (K := K) (dx := ds[i]) (dy := es[i]) (d := .none) e y (fun x q => by
      obtain ⟨d, k1, k2⟩ := h.get' q
      rw [g1] at k1; cases k1; exact k2) (fun x q => by
      obtain ⟨d, k1, k2⟩ := h2.get' q
      rw [g2] at k1; cases k1; exact k2)
    exact ⟨p1, _, zipD_get ds es i _ _ g1 g2, p2⟩
  · rw [hl]; exact lim_size (Nat.le_trans (Nat.min_le_left _ _) z)
theorem walk_zipT' {a b : Addr} {xs ys : List V} {n : Nat} (hn : n = min xs.length ys.length) : Walk (RZ.ItzT K a b) n (fun H => SqT K H a xs ∧ SqT K H b ys) (YPair (fun i => xs[i]?) (fun i => ys[i]?)) := by
  subst hn
  refine ⟨fun i _ hi q => ?_, fun _ q => ⟨xs, ys, q.1, q.2, by omega⟩, fun i H v H' _ q y => ?_⟩
  · have h1 : i < xs.length := by omega
    have h2 : i < ys.length := by omega
    exact ⟨xs, ys, xs[i], ys[i], q.1, q.2, by simp [h1], by simp [h2]⟩
  · obtain ⟨T, x, z, h1, h2, h3, h4, h5⟩ := y
    exact ⟨T, x, z, h1, h2, h3, h4 xs q.1, h5 ys q.2⟩
theorem walkD_zipT {a b : Addr} {xs ys : List V} {ds es : List D} (s : SqT K F a xs) (s2 : SqT K F b ys) (h : DqAll K F xs ds) (h2 : DqAll K F ys es) (z : ds.length ≤ LIM) : WalkD K F (RZ.ItzT K a b) (zipD ds es) := by
  have hl := zipD_length ds es
  refine ⟨⟨fun H => SqT K H a xs ∧ SqT K H b ys, YPair (fun i => xs[i]?) (fun i => ys[i]?), by rw [hl]; exact walk_zipT' (xs := xs) (ys := ys) (by rw [h.length, h2.length]), fun H e => ⟨sqT_mono e s, sqT_mono e s2⟩, fun i H x H' hi e y => ?_⟩, ?_⟩
  · rw [hl] at hi
    have i1 : i < ds.length := by omega
    have i2 : i < es.length := by omega
    have g1 : ds[i]? = some ds[i] := List.getElem?_eq_getElem i1
    have g2 : es[i]? = some es[i] := List.getElem?_eq_getElem i2
    obtain ⟨p1, p2⟩ := pair_ok (K := K) (dx := ds[i]) (dy := es[i]) (d := .none) e y (fun x q => by
      obtain ⟨d, k1, k2⟩ := h.get' q
      rw [g1] at k1; cases k1; exact k2) (fun x q => by
      obtain ⟨d, k1, k2⟩ := h2.get' q
      rw [g2] at k1; cases k1; exact k2)
    exact ⟨p1, _, zipD_get ds es i _ _ g1 g2, p2⟩
  · rw [hl]; exact lim_size (Nat.le_trans (Nat.min_le_left _ _) z)
theorem enumD_length : ∀ (xs : List D) (k : Int), (enumD k xs).length = xs.length
  | [], _ => rfl
  | x :: xs, k => by show (enumD (k + 1) xs).length + 1 = xs.length + 1; rw [enumD_length xs]
theorem enumD_get : ∀ (xs : List D) (k : Int) (i : Nat) (x : D), xs[i]? = some x → (enumD k xs)[i]? = some (.tuple [.int (k + i), x])
  | [], _, _, _, h => by simp at h
  | a :: xs, k, 0, x, h => by
    have e1 : a = x := Option.some.inj h
    rw [e1, show k + ((0 : Nat) : Int) = k by omega]; rfl
  | a :: xs, k, i + 1, x, h => by
    show (enumD (k + 1) xs)[i]? = _
    rw [enumD_get xs (k + 1) i x h, show k + 1 + (i : Int) = k + ((i + 1 : Nat) : Int) by omega]
theorem walkD_enum {a : Addr} {xs : List V} {ds : List D} (s : Rd F a (.lst xs)) (h : DqAll K F xs ds) (z : ds.length ≤ LIM) : WalkD K F (Ite K a) (enumD 0 ds) := by
  have hl := enumD_length ds 0
  refine ⟨⟨fun H => SqL K H a xs, YPair (fun i => some (.int (i : Nat))) (fun i => xs[i]?), by rw [hl, ← h.length]; exact walk_enum (xs := xs), fun H e => .inl (rd_mono e s), fun i H x H' hi e y => ?_⟩, by rw [hl]; exact lim_size z⟩
  rw [hl] at hi
  have g1 : ds[i]? = some ds[i] := List.getElem?_eq_getElem hi
  obtain ⟨p1, p2⟩ := pair_ok (K := K) (dx := .int (0 + (i : Int))) (dy := ds[i]) (d := .none) e y (fun x q => by
    have e1 : V.int (i : Nat) = x := Option.some.inj q
    rw [← e1, show (0 : Int) + (i : Int) = (i : Nat) by omega]
    exact .int _) (fun x q => by
    obtain ⟨d, k1, k2⟩ := h.get' q
    rw [g1] at k1; cases k1; exact k2)
  exact ⟨p1, _, enumD_get ds 0 i _ g1, p2⟩
end
section
variable {X : Cx} {E : XK} {l r tg : Expr} {pos : Pos} {fa fb : Env → Out D}
def tPI (K : Frag) (mg : Str → Option Value) (E : XK) (f : Env → Out (List D)) : TI := tG K mg E (WalkD K) f
theorem PI.imp {t t' : TI} (h : PI X tg l t) (k : ∀ σ H R, t' σ H R → t σ H R) : PI X tg l t' := ⟨fun pins s σ H Q I hw => h.run pins s σ H Q I (k σ H Q hw)⟩
theorem piSeq (ha : PE X l (tP X.K X.mg E fa)) : PI X tg l (tPI X.K X.mg E fun r => (fa r).bind seqOf) := by
  refine ⟨fun pins s σ H R I h => ?_⟩
  obtain ⟨r, F, e, d, h⟩ := h
  refine thn (ha.run pins s σ H (fun x H1 => ∃ a F1, Same F1 H1 ∧ Dq X.K F1 x a ∧ Res X.mg E F1 H1 (WalkD X.K) (seqOf a) R) I ⟨r, F, e, d, h.bind e fun a x H1 _ _ dx g1 g2 h1 => ⟨a, _, g2, dx, h1⟩⟩) fun v s1 ⟨x, H1, I1, r1, a, F1, g2, dx, h1⟩ => ?_
  cases dx with
  | lst sx ax =>
    rename_i p xs ds
    cases r1
    obtain ⟨its, rv, pl, hz⟩ := I1.list (.inl (rd_mono g2 sx))
    refine wpAny_pyIter_list pl.isList ?_
    refine ⟨s1.heap.objs.size, [s1.heap.objs.size], _, _, H1, rfl, I1.kept (t' := s1.toks) fun b o e => Heap.get?_push_of_some _ e, turn_list p _, ⟨_, Heap.get?_push_size _ rfl, rfl, rfl⟩, fun b hb => ?_, Res.here g2 h1 (walkD_list sx ax hz)⟩
    have e : b = s1.heap.objs.size := by simpa using hb
    subst e
    exact I1.fpOk (Nat.le_refl _) (I1.hok.fresh (Nat.le_refl _))
  | tup sx ax =>
    rename_i p xs ds
    cases r1
    obtain ⟨its, rv, pl, hz⟩ := I1.tuple (sqT_mono g2 sx)
    refine wpAny_pyIter_tuple (show s1.heap.IsTuple p its.toArray from pl) ?_
    refine ⟨s1.heap.objs.size, [s1.heap.objs.size], _, _, H1, rfl, I1.kept (t' := s1.toks) fun b o e => Heap.get?_push_of_some _ e, turn_tuple p _, ⟨_, Heap.get?_push_size _ rfl, rfl, rfl⟩, fun b hb => ?_, Res.here g2 h1 (walkD_tup sx ax hz)⟩
    have e : b = s1.heap.objs.size := by simpa using hb
    subst e
    exact I1.fpOk (Nat.le_refl _) (I1.hok.fresh (Nat.le_refl _))
  | str z =>
    obtain ⟨t, rfl⟩ := r1
    have h1 : Res X.mg E F1 H1 (WalkD X.K) (if z.length ≤ LIM then .ok (z.cps.toList.map fun c => .str ⟨#[c]⟩) else .bad) R := h1
    by_cases c : z.length ≤ LIM
    · rw [if_pos c] at h1
      have q := Res.here g2 h1 (walkD_str c)
      cases ha : z.cps.all (· < 128)
      · exact wpAny_pyIter_wide ha (pi_one (tk := s1.toks) I1 _ (turn_str _ z t "str_iterator" (.inr rfl)) ⟨_, Heap.get?_push_size _ rfl, rfl, rfl⟩ q)
      · exact wpAny_pyIter_ascii ha (pi_one (tk := s1.toks) I1 _ (turn_str _ z t "str_ascii_iterator" (.inl rfl)) ⟨_, Heap.get?_push_size _ rfl, rfl, rfl⟩ q)
    · rw [if_neg c] at h1; exact False.elim h1
  | _ => exact False.elim h1
theorem intOfStep {α β : Type} {a : D} {F H : Hp} {x : V} {rel : Hp → β → α → Prop} {f : Int → Out α} {Q : β → Hp → Prop} (dx : Dq X.K F x a) (h : Res X.mg E F H rel ((intOf a).bind f) Q) : ∃ i, x = .int i ∧ Res X.mg E F H rel (f i) Q := by
  cases dx with
  | int i => exact ⟨i, rfl, h⟩
  | _ => exact False.elim h
theorem rngStep {F H : Hp} {a b : Int} {R : L2.It → Hp → Prop} (e : Same F H) (h : Res X.mg E F H (WalkD X.K) (rngOf a b) R) : (-(2 ^ 62) ≤ a ∧ a < 2 ^ 62 ∧ -(2 ^ 62) ≤ b ∧ b < 2 ^ 62) ∧ R (Itr a (b - a).toNat) H := by
  unfold rngOf at h
  by_cases c : b - a ≤ LIM ∧ -(2 ^ 60) ≤ a ∧ a ≤ 2 ^ 60 ∧ -(2 ^ 60) ≤ b ∧ b ≤ 2 ^ 60
  · rw [if_pos c] at h
    exact ⟨⟨by omega, by omega, by omega, by omega⟩, h.here e (walkD_range (by omega))⟩
  · rw [if_neg c] at h; exact False.elim h
theorem piRng1 {p : Pos} (hg : Gl X "range") (hm : X.mg "range" = none) (ha : PE X l (tP X.K X.mg E fa)) (hp : plainE l = true) : PI X tg (.Call (.Name "range" p) [l] [] pos) (tPI X.K X.mg E fun r => (fa r).bind fun x => (intOf x).bind fun i => rngOf 0 i) :=
  PI.imp (pi_range1 hg hm (pa_cons ha pa_nil (star_plain hp)) (star_plain hp)) fun σ H R ⟨r, F, e, d, h⟩ => ⟨r, F, e, d, h.bind e fun a x H1 _ _ dx g1 g2 h1 => by
    obtain ⟨i, rfl, h2⟩ := intOfStep dx h1
    obtain ⟨c, q⟩ := rngStep g2 h2
    exact ⟨i, rfl, c.2.2.1, c.2.2.2, by simpa using q⟩⟩
theorem piRng2 {p : Pos} (hg : Gl X "range") (hm : X.mg "range" = none) (ha : PE X l (tP X.K X.mg E fa)) (hb : PE X r (tP X.K X.mg E fb)) (hp : plainE l = true) (hp2 : plainE r = true) :
    PI X tg (.Call (.Name "range" p) [l, r] [] pos) (tPI X.K X.mg E fun r => (fa r).bind fun x => (fb r).bind fun y => (intOf x).bind fun i => (intOf y).bind fun j => rngOf i j) :=
  PI.imp (pi_range2 hg hm (pa_cons ha (pa_cons hb pa_nil (star_plain hp2)) (star_plain hp)) (by rw [star_plain hp, star_plain hp2]; rfl) (star_plain hp2)) fun σ H R ⟨r, F, e, d, h⟩ => ⟨r, F, e, d, h.bind e fun a x H1 _ _ dx g1 g2 h1 =>
    ⟨r, _, g2, d.mono g1, h1.bind g2 fun b y H2 _ _ dy g3 g4 h2 => by
      obtain ⟨i, rfl, h3⟩ := intOfStep (Dq.mono g3 _ _ dx) h2
      obtain ⟨j, rfl, h4⟩ := intOfStep dy h3
      obtain ⟨c, q⟩ := rngStep g4 h4
      exact ⟨i, j, rfl, c, q⟩⟩⟩
theorem piZip {p tpos : Pos} {elts : List Expr} {kk : Nat} (hg : Gl X "zip") (hm : X.mg "zip" = none) (ha : PE X l (tP X.K X.mg E fa)) (hb : PE X r (tP X.K X.mg E fb)) (hp : plainE l = true) (hp2 : plainE r = true) :
    PI X (.Tuple elts kk tpos) (.Call (.Name "zip" p) [l, r] [] pos) (tPI X.K X.mg E fun r => (fa r).bind fun x => (fb r).bind fun y => zipOf x y) :=
  PI.imp (RZ.pi_zipA hg hm (pa_cons ha (pa_cons hb pa_nil (star_plain hp2)) (star_plain hp)) (star_plain hp) (stars_plain (by unfold plainEs; rw [hp2]; rfl))) fun σ H R ⟨r, F, e, d, h⟩ => ⟨r, F, e, d, h.bind e fun a x H1 _ _ dx g1 g2 h1 =>
    ⟨r, _, g2, d.mono g1, h1.bind g2 fun b y H2 _ _ dy g3 g4 h2 => by
      cases dx with
      | @lst pa xs ds sx ax => cases dy with
        | @lst pb ys es sy ay =>
          have h2 : Res X.mg E (grow (grow F H H1) H1 H2) H2 (WalkD X.K) (if ds.length ≤ LIM then .ok (zipD ds es) else .bad) R := h2
          by_cases c : ds.length ≤ LIM
          · rw [if_pos c] at h2
            exact ⟨pa, pb, xs, ys, rfl, .inl ⟨.inl (rd_mono (g3.trans g4) sx), .inl (rd_mono g4 sy), h2.here g4 (walkD_zip (rd_mono g3 sx) sy (DqAll.mono g3 _ _ ax) ay c)⟩⟩
          · rw [if_neg c] at h2; exact False.elim h2
        | _ => exact False.elim h2
      | @tup pa xs ds sx ax => cases dy with
        | @tup pb ys es sy ay =>
          have h2 : Res X.mg E (grow (grow F H H1) H1 H2) H2 (WalkD X.K) (if ds.length ≤ LIM then .ok (zipD ds es) else .bad) R := h2
          by_cases c : ds.length ≤ LIM
          · rw [if_pos c] at h2
            exact ⟨pa, pb, xs, ys, rfl, .inr ⟨sqT_mono (g3.trans g4) sx, sqT_mono g4 sy, h2.here g4 (walkD_zipT (sqT_mono g3 sx) sy (DqAll.mono g3 _ _ ax) ay c)⟩⟩
          · rw [if_neg c] at h2; exact False.elim h2
        | _ => exact False.elim h2
      | _ => cases dy <;> exact False.elim h2⟩⟩
theorem piEnum {p tpos : Pos} {elts : List Expr} {kk : Nat} (hg : Gl X "enumerate") (hm : X.mg "enumerate" = none) (ha : PE X l (tP X.K X.mg E fa)) (hp : plainE l = true) :
    PI X (.Tuple elts kk tpos) (.Call (.Name "enumerate" p) [l] [] pos) (tPI X.K X.mg E fun r => (fa r).bind enumOf) :=
  PI.imp (pi_enum hg hm (pa_cons ha pa_nil (star_plain hp)) (star_plain hp)) fun σ H R ⟨r, F, e, d, h⟩ => ⟨r, F, e, d, h.bind e fun a x H1 _ _ dx g1 g2 h1 => by
    cases dx with
    | @lst pa xs ds sx ax =>
      have h1 : Res X.mg E (grow F H H1) H1 (WalkD X.K) (if ds.length ≤ LIM then .ok (enumD 0 ds) else .bad) R := h1
      by_cases c : ds.length ≤ LIM
      · rw [if_pos c] at h1
        exact ⟨pa, xs, rfl, .inl (rd_mono g2 sx), h1.here g2 (walkD_enum sx ax c)⟩
      · rw [if_neg c] at h1; exact False.elim h1
    | _ => exact False.elim h1⟩
end
end BB

/-! ## the pure layer 7: targets, comprehensions -/
namespace BB
open PySem PySem.Spec PyProof.Rows L2
/-! ### targets -/
def gsOf : List Nat → TGs
  | [] => gNil
  | i :: is => gCons (gName i) (gsOf is)
def tgOf (K : Frag) : Tg → TG
  | .one i => gName i
  | .many is => gTup K is.length (gsOf is)
def setSt : List Nat → List V → SL → SL
  | i :: is, v :: vs, σ => setSt is vs (σ.set i (some v))
  | _, _, σ => σ
theorem gs_ok {H : Hp} {Q : SL → Hp → Prop} : ∀ {is : List Nat} {xs : List V} {σ : SL}, xs.length = is.length → Q (setSt is xs σ) H → gsOf is xs σ H Q
  | [], [], _, _, h => ⟨rfl, h⟩
  | i :: is, v :: vs, σ, hl, h => ⟨v, vs, rfl, gs_ok (is := is) (xs := vs) (by simpa using hl) h⟩
  | [], _ :: _, _, hl, _ => by simp at hl
  | _ :: _, [], _, hl, _ => by simp at hl
/-- what a target's store gives: which slots -/
def tgIs : Tg → List Nat
  | .one i => [i]
  | .many is => is
section
variable {K : Frag} {F H : Hp}
theorem getD_set_self {r : Env} {i : Nat} {s : Slot} (h : i < r.length) : (r.set i s).getD i .non = s := by
  rw [List.getD_eq_getElem?_getD, List.getElem?_set_self h]; rfl
theorem getD_set_ne {r : Env} {i j : Nat} {s : Slot} (h : i ≠ j) : (r.set i s).getD j .non = r.getD j .non := by
  rw [List.getD_eq_getElem?_getD, List.getElem?_set_ne h, List.getD_eq_getElem?_getD]
theorem getD_ge {r : Env} {i : Nat} (h : r.length ≤ i) : r.getD i .non = .non := by
  rw [List.getD_eq_getElem?_getD, List.getElem?_eq_none h]; rfl
theorem set_ge {α : Type} {r : List α} {i : Nat} {s : α} (h : r.length ≤ i) : r.set i s = r := List.set_eq_of_length_le h
theorem DenE.set {σ : SL} {r : Env} {i : Nat} {v : V} {d : D} (h : DenE K F σ r) (dv : Dq K F v d) : DenE K F (σ.set i (some v)) (r.set i (.val d)) := by
  refine ⟨by rw [List.length_set, List.length_set]; exact h.len, fun j d' q => ?_, ?_⟩
  · by_cases c : i = j
    · subst c
      by_cases l : i < r.length
      · rw [getD_set_self l] at q
        cases q
        exact ⟨v, List.getElem?_set_self (by rw [← h.len]; exact l), dv⟩
      · rw [set_ge (by omega), getD_ge (by omega)] at q
        cases q
    · rw [getD_set_ne c] at q
      obtain ⟨w, h1, h2⟩ := h.get j d' q
      exact ⟨w, by rw [List.getElem?_set_ne c]; exact h1, h2⟩
  · intro j fs q
    by_cases c : i = j
    · subst c
      by_cases l : i < r.length
      · rw [getD_set_self l] at q
        cases q
      · rw [set_ge (by omega), getD_ge (by omega)] at q
        cases q
    · rw [getD_set_ne c] at q
      obtain ⟨a, C, dx, us, h1, h2⟩ := h.obj j fs q
      exact ⟨a, C, dx, us, by rw [List.getElem?_set_ne c]; exact h1, h2⟩
theorem DenE.non {σ : SL} {r : Env} {i : Nat} {x : Option V} (h : DenE K F σ r) : DenE K F (σ.set i x) (r.set i .non) := by
  refine ⟨by rw [List.length_set, List.length_set]; exact h.len, fun j d' q => ?_, ?_⟩
  · by_cases c : i = j
    · subst c
      by_cases l : i < r.length
      · rw [getD_set_self l] at q
        cases q
      · rw [set_ge (by omega), getD_ge (by omega)] at q
        cases q
    · rw [getD_set_ne c] at q
      obtain ⟨w, h1, h2⟩ := h.get j d' q
      exact ⟨w, by rw [List.getElem?_set_ne c]; exact h1, h2⟩
  · intro j fs q
    by_cases c : i = j
    · subst c
      by_cases l : i < r.length
      · rw [getD_set_self l] at q
        cases q
      · rw [set_ge (by omega), getD_ge (by omega)] at q
        cases q
    · rw [getD_set_ne c] at q
      obtain ⟨a, C, dx, us, h1, h2⟩ := h.obj j fs q
      exact ⟨a, C, dx, us, by rw [List.getElem?_set_ne c]; exact h1, h2⟩
theorem DenE.wipe {σ : SL} {r : Env} (h : DenE K F σ r) : ∀ vs : List Nat, DenE K F (L2.wipe σ vs) (wipeE r vs)
  | [] => h
  | v :: vs => (DenE.wipe h vs).non
theorem DenE.many : ∀ {is : List Nat} {xs : List V} {ds : List D} {σ : SL} {r r' : Env}, DenE K F σ r → DqAll K F xs ds → setMany is ds r = some r' → DenE K F (setSt is xs σ) r' ∧ xs.length = is.length
  | [], _, [], _, r, r', h, .nil, e => by
    have e : some r = some r' := e
    cases e
    exact ⟨h, rfl⟩
  | i :: is, _, d :: ds, _, r, r', h, .cons dv t, e => by
    obtain ⟨h1, h2⟩ := DenE.many (is := is) (h.set (i := i) dv) t (show setMany is ds (r.set i (.val d)) = some r' from e)
    exact ⟨h1, by rw [List.length_cons, List.length_cons, h2]⟩
  | [], _, _ :: _, _, _, _, _, _, e => by cases e
  | _ :: _, _, [], _, _, _, _, _, e => by cases e
theorem setSt_out : ∀ {is : List Nat} {xs : List V} {σ : SL} {j : Nat}, j ∉ is → (setSt is xs σ)[j]? = σ[j]?
  | [], _, _, _, _ => rfl
  | _ :: _, [], _, _, _ => rfl
  | i :: is, v :: vs, σ, j, h => by
    show (setSt is vs (σ.set i (some v)))[j]? = _
    rw [setSt_out (fun q => h (List.mem_cons_of_mem _ q)), List.getElem?_set_ne (fun q => h (by rw [q]; exact List.mem_cons_self))]
theorem setSt_length : ∀ {is : List Nat} {xs : List V} {σ : SL}, (setSt is xs σ).length = σ.length
  | [], _, _ => rfl
  | _ :: _, [], _ => rfl
  | i :: is, v :: vs, σ => by
    show (setSt is vs (σ.set i (some v))).length = _
    rw [setSt_length, List.length_set]
/-- a target's store, the whole -/
theorem tg_ok {tg : Tg} {v : V} {d : D} {σ : SL} {r r' : Env} {Q : SL → Hp → Prop} (e : Same F H) (h : DenE K F σ r) (dv : Dq K F v d) (q : setTg tg d r = some r')
    (k : ∀ σ', DenE K F σ' r' → σ'.length = σ.length → (∀ j, j ∉ tgIs tg → σ'[j]? = σ[j]?) → Q σ' H) : tgOf K tg v σ H Q := by
  cases tg with
  | one i =>
    have q : some (r.set i (.val d)) = some r' := q
    cases q
    exact k _ (h.set dv) (List.length_set ..) fun j hj => List.getElem?_set_ne (fun z => hj (by rw [z]; exact List.mem_cons_self))
  | many is =>
    cases dv with
    | tup s a =>
      obtain ⟨h1, h2⟩ := DenE.many h a q
      exact ⟨_, _, rfl, sqT_mono e s, h2, gs_ok h2 (k _ h1 setSt_length fun j hj => setSt_out hj)⟩
    | _ => cases q
theorem wipe_get {σ : SL} {j : Nat} : ∀ {vs : List Nat}, j ∈ vs → (L2.wipe σ vs)[j]? = if j < σ.length then some none else none
  | [], h => by cases h
  | v :: vs, h => by
    show ((L2.wipe σ vs).set v none)[j]? = _
    by_cases c : v = j
    · subst c
      by_cases l : v < σ.length
      · rw [List.getElem?_set_self (by rw [wipe_length]; exact l), if_pos l]
      · rw [if_neg l, List.getElem?_eq_none (by rw [List.length_set, wipe_length]; omega)]
    · rw [List.getElem?_set_ne c]
      rcases List.mem_cons.mp h with z | z
      · exact absurd z.symm c
      · exact wipe_get z
theorem wipe_agree {σ σ2 : SL} {vs : List Nat} (hl : σ2.length = σ.length) (h : ∀ j, j ∉ vs → σ2[j]? = σ[j]?) : L2.wipe σ2 vs = L2.wipe σ vs := by
  apply List.ext_getElem?
  intro j
  by_cases c : j ∈ vs
  · rw [wipe_get c, wipe_get c, hl]
  · rw [wipe_out c, wipe_out c, h j c]
end
section
variable {X : Cx} {pos : Pos}
/-- names as targets -/
def locB (sc : Scope) (x : Str) : Bool := match sc.names.lookup x with
  | some .local => true
  | some .cell => true
  | _ => false
theorem loc_of {sc : Scope} {x : Str} (h : locB sc x = true) : Loc sc x := by
  unfold locB at h
  split at h
  · exact .inl (by assumption)
  · exact .inr (by assumption)
  · cases h
theorem vis_loc {sc : Scope} {x : Str} (h : Loc sc x) : Vis sc x := by
  rcases h with h | h
  · exact .inl h
  · exact .inr (.inl h)
/-- the names of a target, by slots -/
def mNames (N : List Str) (ok : Str → Bool) : List Nat → List Expr → Bool
  | [], [] => true
  | i :: is, .Name x _ :: es => decide (N[i]? = some x) && ok x && mNames N ok is es
  | _, _ => false
def mTg (N : List Str) (ok : Str → Bool) : Tg → Expr → Bool
  | .one i, .Name x _ => decide (N[i]? = some x) && ok x
  | .many is, .Tuple es _ _ => mNames N ok is es
  | _, _ => false
theorem pgsOf {ok : Str → Bool} (hN : X.N.Nodup) (hok : ∀ x, ok x = true → Loc X.env.scope x ∧ (X.fn x = true ∨ X.env.scope.names.lookup x = some .local)) : ∀ {is : List Nat} {es : List Expr}, mNames X.N ok is es = true → PGs X es (gsOf is) ∧ (assignEach es X.env).length = is.length ∧ (assignEach es X.env).findIdx? (·.1) = none
  | [], [], _ => ⟨pgs_nil, rfl, rfl⟩
  | i :: is, .Name x p :: es, h => by
    unfold mNames at h
    rw [Bool.and_eq_true, Bool.and_eq_true, decide_eq_true_eq] at h
    obtain ⟨a, b, c⟩ := pgsOf hN hok h.2
    obtain ⟨l, f⟩ := hok x h.1.2
    refine ⟨pgs_cons (pg_name hN h.1.1 l f) a rfl, ?_, ?_⟩
    · show (assignEach es X.env).length + 1 = is.length + 1
      rw [b]
    · show ((false, assign (.Name x p) X.env) :: assignEach es X.env).findIdx? (·.1) = none
      rw [List.findIdx?_cons]
      simp only [Bool.false_eq_true, if_false, c, Option.map_none]
  | [], e :: es, h => by cases e <;> cases h
  | i :: is, [], h => by cases h
theorem pgTg {ok : Str → Bool} (hN : X.N.Nodup) (hc : X.calm = true) (hok : ∀ x, ok x = true → Loc X.env.scope x ∧ (X.fn x = true ∨ X.env.scope.names.lookup x = some .local)) {tg : Tg} {e : Expr} (h : mTg X.N ok tg e = true) : PG X e (tgOf X.K tg) := by
  cases tg with
  | one i =>
    cases e with
    | Name x p =>
      unfold mTg at h
      rw [Bool.and_eq_true, decide_eq_true_eq] at h
      obtain ⟨l, f⟩ := hok x h.2
      exact pg_name hN h.1 l f
    | _ => cases h
  | many is =>
    cases e with
    | Tuple es k p =>
      obtain ⟨a, b, c⟩ := pgsOf hN hok (show mNames X.N ok is es = true from h)
      exact pg_tup hc a b c
    | _ => cases h
end

/-! ### the heap without the list that is made -/
section
variable {F1 H1 H H' : Hp} {Da : Addr}
def gD (F1 H1 : Hp) (Da : Addr) (H : Hp) : Hp := fun a => if a = Da then none else grow F1 H1 H a
theorem gD_at : gD F1 H1 Da H Da = none := if_pos rfl
theorem gD_ne {a : Addr} (h : a ≠ Da) : gD F1 H1 Da H a = grow F1 H1 H a := if_neg h
theorem gD_grow (e1 : Same H1 H) (e : Same H H') {o : HO} (hD : H Da = some o) : grow (gD F1 H1 Da H) H H' = gD F1 H1 Da H' := by
  funext a
  by_cases c : a = Da
  · subst c
    rw [grow_some hD, gD_at, gD_at]
  · rw [gD_ne c]
    cases q : H a with
    | none => rw [grow_none q, grow_none (e1.free q)]
    | some u =>
      rw [grow_some q, gD_ne c]
      cases q2 : H1 a with
      | none => rw [grow_none q2, grow_none q2, q, e a u q]
      | some w => rw [grow_some q2, grow_some q2]
theorem gD_upd {o : HO} : gD F1 H1 Da (upd H Da o) = gD F1 H1 Da H := by
  funext a
  by_cases c : a = Da
  · subst c; rw [gD_at, gD_at]
  · rw [gD_ne c, gD_ne c]
    cases q : H1 a with
    | none => rw [grow_none q, grow_none q, upd_ne c]
    | some w => rw [grow_some q, grow_some q]
theorem gD_sub (e0 : Same F1 H1) (e1 : Same H1 H) : Same (gD F1 H1 Da H) H := fun a o h => by
  by_cases c : a = Da
  · subst c; rw [gD_at] at h; cases h
  · rw [gD_ne c] at h
    exact grow_same2 e0 e1 a o h
theorem gD_base (e0 : Same F1 H1) (hD : H1 Da = none) : Same F1 (gD F1 H1 Da H) := fun a o h => by
  have q := e0 a o h
  have c : a ≠ Da := ne_of_none q hD
  rw [gD_ne c, grow_some q]
  exact h
theorem gD_yield (e0 : Same F1 H1) (e1 : Same H1 H) (hD1 : H1 Da = none) {o : HO} (hD : H Da = some o) : Same (grow F1 H H') (gD F1 H1 Da H') := fun a u h => by
  cases q : H a with
  | none =>
    rw [grow_none q] at h
    have c : a ≠ Da := fun z => by rw [z, hD] at q; cases q
    rw [gD_ne c, grow_none (e1.free q)]
    exact h
  | some w =>
    rw [grow_some q] at h
    have p := e0 a u h
    have c : a ≠ Da := ne_of_none p hD1
    rw [gD_ne c, grow_some p]
    exact h
end
end BB

/-! ## the pure layer 8: comprehensions -/
namespace BB
open PySem PySem.Spec PyProof.Rows L2
def stepF (own : List Nat) (tg : Tg) (fC : Env → Out Bool) (fE : Env → Out (List D)) (r : Env) (x : D) : Out (List D) := match setTg tg x (wipeE r own) with
  | some r1 => (fC r1).bind fun k => if k = true then fE r1 else .ok []
  | none => .bad
def one (fE : Env → Out D) : Env → Out (List D) := fun r => (fE r).bind fun y => .ok [y]
def compF (own : List Nat) (tg : Tg) (fI : Env → Out (List D)) (fC : Env → Out Bool) (fE : Env → Out D) : Env → Out D := fun r => (fI r).bind fun xs => (compL (stepF own tg fC (one fE) r) xs).noexc.bind fun ys => .ok (.list ys)
theorem bind_ok' {α β : Type} {x : Out α} {f : α → Out β} {b : β} (h : x.bind f = .ok b) : ∃ a, x = .ok a ∧ f a = .ok b := by
  cases x with
  | ok a => exact ⟨a, rfl, h⟩
  | exc c => cases h
  | bad => cases h
theorem noexc_ok' {α β : Type} {x : Out α} {f : α → Out β} {mg : Str → Option Value} {E : XK} {F H : Hp} {γ : Type} {rel : Hp → γ → β → Prop} {Q : γ → Hp → Prop} (h : Res mg E F H rel (x.noexc.bind f) Q) : ∃ a, x = .ok a ∧ Res mg E F H rel (f a) Q := by
  cases x with
  | ok a => exact ⟨a, rfl, h⟩
  | exc c => exact False.elim h
  | bad => exact False.elim h
theorem compL_cons {step : D → Out (List D)} {xs : List D} {i : Nat} {d : D} {ys : List D} (hd : xs[i]? = some d) (h : compL step (xs.drop i) = .ok ys) : ∃ ya yb, step d = .ok ya ∧ compL step (xs.drop (i + 1)) = .ok yb ∧ ys = ya ++ yb := by
  obtain ⟨hi, he⟩ := List.getElem?_eq_some_iff.mp hd
  rw [List.drop_eq_getElem_cons hi, he] at h
  obtain ⟨ya, h1, h2⟩ := bind_ok' h
  obtain ⟨yb, h3, h4⟩ := bind_ok' h2
  cases h4
  exact ⟨ya, yb, h1, h3, rfl⟩
theorem stepF_ok {own : List Nat} {tg : Tg} {fC : Env → Out Bool} {fE : Env → Out (List D)} {r : Env} {x : D} {ys : List D} (h : stepF own tg fC fE r x = .ok ys) : ∃ r1 k, setTg tg x (wipeE r own) = some r1 ∧ fC r1 = .ok k ∧ (if k = true then fE r1 else .ok []) = .ok ys := by
  unfold stepF at h
  cases q : setTg tg x (wipeE r own) with
  | none => rw [q] at h; cases h
  | some r1 =>
    rw [q] at h
    obtain ⟨k, h1, h2⟩ := bind_ok' h
    exact ⟨r1, k, rfl, h1, h2⟩
section
variable {K : Frag} {mg : Str → Option Value} {E : XK}
/-- the made list so far, at turn i -/
structure Made (K : Frag) (F1 H1 : Hp) (Da : Addr) (ys : List D) (ys2 : List D) (H : Hp) : Prop where
  same : Same H1 H
  ex : ∃ acc ys1, H Da = some (.lst acc) ∧ DqAll K (gD F1 H1 Da H) acc ys1 ∧ ys1 ++ ys2 = ys
theorem Made.to {F1 H1 H H' : Hp} {Da : Addr} {ys ys2 : List D} (m : Made K F1 H1 Da ys ys2 H) (s : Same H H') : Made K F1 H1 Da ys ys2 H' := by
  obtain ⟨s1, acc, ys1, h1, h2, h3⟩ := m
  refine ⟨s1.trans s, acc, ys1, s _ _ h1, ?_, h3⟩
  rw [← gD_grow s1 s h1]
  exact DqAll.mono (fun a o h => by
    cases q : H a with
    | none => rw [grow_none q]
              by_cases c : a = Da
              · subst c; rw [gD_at] at h; cases h
              · rw [gD_ne c, grow_none (s1.free q), q] at h; cases h
    | some u => rw [grow_some q]; exact h) _ _ h2
theorem Made.push {F1 H1 H : Hp} {Da : Addr} {ys ys2 : List D} {v : V} {y : D} (hDa : H1 Da = none) (m : Made K F1 H1 Da ys (y :: ys2) H) (dv : Dq K (gD F1 H1 Da H) v y) {acc : List V} (ha : H Da = some (.lst acc)) : Made K F1 H1 Da ys ys2 (upd H Da (.lst (acc ++ [v]))) := by
  obtain ⟨s1, acc', ys1, h1, h2, h3⟩ := m
  rw [h1] at ha
  cases ha
  refine ⟨fun a o h => ?_, acc ++ [v], ys1 ++ [y], upd_same, ?_, by rw [List.append_assoc]; exact h3⟩
  · rw [upd_ne (ne_of_none h hDa)]; exact s1 a o h
  · rw [gD_upd]
    exact h2.append (.cons dv .nil)
theorem lcStep {own : List Nat} {tg : Tg} {fI : Env → Out (List D)} {fC : Env → Out Bool} {fE : Env → Out D} {σ : SL} {H : Hp} {Q : VK} (hsub : ∀ j, j ∈ tgIs tg → j ∈ own) (h : tP K mg E (compF own tg fI fC fE) σ H Q) :
    tLc (tPI K mg E fI) (tgOf K tg) (tG K mg E0 eqR fC) (tP K mg E0 fE) own σ H Q := by
  obtain ⟨r, F, e, d, h⟩ := h
  refine ⟨r, F, e, d, Res.bind e h fun xs J H1 _ s1 wd g1 g2 h1 => fun Da hDa => ?_⟩
  obtain ⟨ys, hys, h1⟩ := noexc_ok' h1
  obtain ⟨G, Y, wk, hG, hY⟩ := wd.ex
  refine lc_it wk (fun i H' => (∃ acc, H' Da = some (.lst acc) ∧ acc.length ≤ i) ∧ ∃ ys2, compL (stepF own tg fC (one fE) r) (xs.drop i) = .ok ys2 ∧ Made K (grow F H H1) H1 Da ys ys2 H') ?_ ?_ ?_ ?_
  · exact ⟨⟨[], upd_same, Nat.le_refl _⟩, ys, hys, same_upd hDa, [], [], upd_same, .nil, rfl⟩
  · exact fun i H' _ p => hG H' (g2.trans (let ⟨_, _, _, m⟩ := p; m.same))
  · intro i x Ha Hb hi p y
    obtain ⟨⟨acc, hacc, hlen⟩, ys2, hc, m⟩ := p
    have s2 := m.same
    obtain ⟨s3, dd, hdd, dx⟩ := hY i Ha x Hb hi (g2.trans s2) y
    obtain ⟨ya, yb, hst, hcb, rfl⟩ := compL_cons hdd hc
    obtain ⟨r1, k, hset, hk, hfe⟩ := stepF_ok hst
    have sb : Same H1 Hb := s2.trans s3
    have hDb : Hb Da = some (.lst acc) := s3 _ _ hacc
    have dG : Dq K (gD (grow F H H1) H1 Da Hb) x dd := Dq.mono (gD_yield g2 s2 hDa hacc) _ _ dx
    have den : DenE K (gD (grow F H H1) H1 Da Hb) (L2.wipe σ own) (wipeE r own) := (d.mono (g1.trans (gD_base g2 hDa))).wipe own
    refine tg_ok (gD_sub g2 sb) den dG hset fun σ2 d2 l2 a2 => ⟨?_, r1, _, gD_sub g2 sb, d2, ?_⟩
    · refine wipe_agree (l2.trans (wipe_length ..)) fun j hj => ?_
      rw [a2 j (fun z => hj (hsub j z)), wipe_out hj]
    · rw [hk]
      intro b Hc s4 eb
      cases (show b = k from eb)
      have eg : grow (gD (grow F H H1) H1 Da Hb) Hb Hc = gD (grow F H H1) H1 Da Hc := gD_grow sb s4 hDb
      have hDc : Hc Da = some (.lst acc) := s4 _ _ hDb
      cases k with
      | false =>
        have hfe : Out.ok [] = Out.ok ya := hfe
        cases hfe
        exact ⟨⟨acc, hDc, by omega⟩, yb, hcb, m.to (s3.trans s4)⟩
      | true =>
        obtain ⟨yy, hy1, hy2⟩ := bind_ok' (show (fE r1).bind (fun y => .ok [y]) = .ok ya from hfe)
        cases hy2
        refine ⟨r1, _, gD_sub g2 (sb.trans s4), (d2.mono (by rw [← eg]; exact grow_same1 (gD_sub g2 sb))), ?_⟩
        rw [hy1]
        intro v Hd s5 dv
        have hDd : Hd Da = some (.lst acc) := s5 _ _ hDc
        rw [gD_grow (sb.trans s4) s5 hDc] at dv
        refine ⟨acc, hDd, Nat.lt_of_le_of_lt hlen (Nat.lt_of_lt_of_le hi wd.le), ⟨acc ++ [v], upd_same, by rw [List.length_append]; exact Nat.succ_le_succ hlen⟩, yb, hcb, ?_⟩
        exact (m.to ((s3.trans s4).trans s5)).push hDa dv hDd
  · intro H' p
    obtain ⟨_, ys2, hc, m⟩ := p
    rw [List.drop_length] at hc
    cases hc
    obtain ⟨s2, acc, ys1, ha, hd, hy⟩ := m
    rw [List.append_nil] at hy
    subst hy
    refine h1 (.ref Da) H' s2 (.lst (.inl (by rw [grow_none hDa]; exact ha)) (DqAll.mono (fun a o h => ?_) _ _ hd))
    by_cases c : a = Da
    · subst c; rw [gD_at] at h; cases h
    · rw [gD_ne c] at h; exact h
end
end BB

/-! ## the pure layer 9: comprehensions of two clauses -/
namespace BB
open PySem PySem.Spec PyProof.Rows L2
def inF (own2 : List Nat) (tg2 : Tg) (fI2 : Env → Out (List D)) (fC2 : Env → Out Bool) (fE : Env → Out D) : Env → Out (List D) := fun r1 => (fI2 r1).bind fun zs => compL (stepF own2 tg2 fC2 (one fE) r1) zs
def compF2 (own : List Nat) (tg : Tg) (fI : Env → Out (List D)) (fC : Env → Out Bool) (own2 : List Nat) (tg2 : Tg) (fI2 : Env → Out (List D)) (fC2 : Env → Out Bool) (fE : Env → Out D) : Env → Out D := fun r => (fI r).bind fun xs =>
  (compL (stepF own tg fC (inF own2 tg2 fI2 fC2 fE) r) xs).noexc.bind fun ys => if ys.length ≤ LIM then .ok (.list ys) else .bad
section
variable {K : Frag} {mg : Str → Option Value} {E : XK}
theorem gD_of {F1 H1 Hx Hy : Hp} {Da : Addr} (h : Same (gD F1 H1 Da Hx) Hy) : Same (gD F1 H1 Da Hx) (gD F1 H1 Da Hy) := fun a o e => by
  have c : a ≠ Da := fun z => by subst z; rw [gD_at] at e; cases e
  have q := h a o e
  rw [gD_ne c] at e ⊢
  cases p : H1 a with
  | none => rw [grow_none p]; exact q
  | some u => rw [grow_some p] at e ⊢; exact e
theorem gD_yield2 {F1 H1 H4 H H' : Hp} {Da : Addr} (s1 : Same H1 H) (h4 : Same (gD F1 H1 Da H4) H) (s : Same H H') {o : HO} (hD : H Da = some o) : Same (grow (gD F1 H1 Da H4) H H') (gD F1 H1 Da H') := fun a u h => by
  cases q : H a with
  | none =>
    rw [grow_none q] at h
    have c : a ≠ Da := fun z => by rw [z, hD] at q; cases q
    rw [gD_ne c, grow_none (s1.free q)]
    exact h
  | some w =>
    rw [grow_some q] at h
    exact gD_of (fun b x e => s b x (h4 b x e)) a u h
theorem made_len {F1 H1 H : Hp} {Da : Addr} {ys ys2 : List D} (m : Made K F1 H1 Da ys ys2 H) (hl : ys.length ≤ LIM) {acc : List V} (ha : H Da = some (.lst acc)) : acc.length < sizeLine := by
  obtain ⟨_, acc', ys1, h1, h2, h3⟩ := m
  rw [h1] at ha
  cases ha
  rw [h2.length]
  have : ys1.length ≤ ys.length := by rw [← h3, List.length_append]; omega
  rw [sizeLine_eq]
  exact Nat.lt_of_le_of_lt (Nat.le_trans this hl) (by decide)
theorem lcStep2 {own own2 : List Nat} {tg tg2 : Tg} {fI fI2 : Env → Out (List D)} {fC fC2 : Env → Out Bool} {fE : Env → Out D} {σ : SL} {H : Hp} {Q : VK} (hsub : ∀ j, j ∈ tgIs tg → j ∈ own) (hsub2 : ∀ j, j ∈ tgIs tg2 → j ∈ own2) (h : tP K mg E (compF2 own tg fI fC own2 tg2 fI2 fC2 fE) σ H Q) :
    tLc2 (tPI K mg E fI) (tgOf K tg) (tG K mg E0 eqR fC) (tPI K mg E0 fI2) (tgOf K tg2) (tG K mg E0 eqR fC2) (tP K mg E0 fE) own own2 σ H Q := by
  obtain ⟨r, F, e, d, h⟩ := h
  refine ⟨r, F, e, d, Res.bind e h fun xs J H1 _ s1 wd g1 g2 h1 => fun Da hDa => ?_⟩
  obtain ⟨ys, hys, h1⟩ := noexc_ok' h1
  have hlim : ys.length ≤ LIM := by
    by_cases c : ys.length ≤ LIM
    · exact c
    · rw [if_neg c] at h1; exact False.elim h1
  rw [if_pos hlim] at h1
  obtain ⟨G, Y, wk, hG, hY⟩ := wd.ex
  generalize hF1 : grow F H H1 = F1 at *
  refine ⟨fun i m H' => m = xs.length - i ∧ i ≤ xs.length ∧ ∃ ys2, compL (stepF own tg fC (inF own2 tg2 fI2 fC2 fE) r) (xs.drop i) = .ok ys2 ∧ Made K F1 H1 Da ys ys2 H',
    ⟨xs.length, by simp, Nat.zero_le _, ys, hys, same_upd hDa, [], [], upd_same, .nil, rfl⟩, ?_⟩
  rintro i mm Ha ⟨rfl, hi, ys2, hc, m⟩
  have s2 := m.same
  have gg := hG Ha (g2.trans s2)
  by_cases hlt : i < xs.length
  · refine .inr ⟨wk.goes i Ha hlt gg, fun H' => ∃ ys2, compL (stepF own tg fC (inF own2 tg2 fI2 fC2 fE) r) (xs.drop (i + 1)) = .ok ys2 ∧ Made K F1 H1 Da ys ys2 H', fun H' p => ⟨xs.length - (i + 1), by omega, rfl, hlt, p⟩, fun x Hb y => ?_⟩
    have y := wk.yields i Ha x Hb hlt gg y
    obtain ⟨s3, dd, hdd, dx⟩ := hY i Ha x Hb hlt (g2.trans s2) y
    obtain ⟨ya, yb, hst, hcb, rfl⟩ := compL_cons hdd hc
    obtain ⟨r1, k, hset, hk, hfe⟩ := stepF_ok hst
    obtain ⟨acc, hacc⟩ : ∃ acc, Ha Da = some (.lst acc) := let ⟨_, acc, _, h, _⟩ := m; ⟨acc, h⟩
    have sb : Same H1 Hb := s2.trans s3
    have hDb : Hb Da = some (.lst acc) := s3 _ _ hacc
    have dG : Dq K (gD F1 H1 Da Hb) x dd := Dq.mono (gD_yield g2 s2 hDa hacc) _ _ dx
    have den : DenE K (gD F1 H1 Da Hb) (L2.wipe σ own) (wipeE r own) := (d.mono (g1.trans (gD_base g2 hDa))).wipe own
    refine tg_ok (gD_sub g2 sb) den dG hset fun σ2 d2 l2 a2 => ⟨?_, r1, _, gD_sub g2 sb, d2, ?_⟩
    · refine wipe_agree (l2.trans (wipe_length ..)) fun j hj => ?_
      rw [a2 j (fun z => hj (hsub j z)), wipe_out hj]
    · rw [hk]
      intro b Hc s4 eb
      cases (show b = k from eb)
      have eg : grow (gD F1 H1 Da Hb) Hb Hc = gD F1 H1 Da Hc := gD_grow sb s4 hDb
      have hDc : Hc Da = some (.lst acc) := s4 _ _ hDb
      cases k with
      | false =>
        have hfe : Out.ok [] = Out.ok ya := hfe
        cases hfe
        exact ⟨yb, hcb, m.to (s3.trans s4)⟩
      | true =>
        obtain ⟨zs, hz1, hz2⟩ := bind_ok' (show (fI2 r1).bind (fun zs => compL (stepF own2 tg2 fC2 (one fE) r1) zs) = .ok ya from hfe)
        have dc : DenE K (gD F1 H1 Da Hc) σ2 r1 := d2.mono (by rw [← eg]; exact grow_same1 (gD_sub g2 sb))
        refine ⟨r1, _, gD_sub g2 (sb.trans s4), dc, ?_⟩
        rw [hz1]
        intro J1 H4 s5 wd1
        rw [gD_grow (sb.trans s4) s5 hDc] at wd1
        obtain ⟨G1, Y1, wk1, hG1, hY1⟩ := wd1.ex
        have s14 : Same H1 H4 := (sb.trans s4).trans s5
        have m4 := m.to ((s3.trans s4).trans s5)
        refine ⟨fun j k H' => k = zs.length - j ∧ j ≤ zs.length ∧ ∃ yc, compL (stepF own2 tg2 fC2 (one fE) r1) (zs.drop j) = .ok yc ∧ Made K F1 H1 Da ys (yc ++ yb) H' ∧ Same (gD F1 H1 Da H4) H', ⟨zs.length, by simp, Nat.zero_le _, ya, hz2, m4, gD_sub g2 s14⟩, ?_⟩
        rintro j kk He ⟨rfl, hj, yc, hcc, me, f4⟩
        have gg1 := hG1 He f4
        by_cases hlt1 : j < zs.length
        · refine .inr ⟨wk1.goes j He hlt1 gg1, fun H' => ∃ yc, compL (stepF own2 tg2 fC2 (one fE) r1) (zs.drop (j + 1)) = .ok yc ∧ Made K F1 H1 Da ys (yc ++ yb) H' ∧ Same (gD F1 H1 Da H4) H', fun H' p => ⟨zs.length - (j + 1), by omega, rfl, hlt1, p⟩, fun x1 Hf y1 => ?_⟩
          have y1 := wk1.yields j He x1 Hf hlt1 gg1 y1
          obtain ⟨s6, d1, hd1, dx1⟩ := hY1 j He x1 Hf hlt1 f4 y1
          obtain ⟨yd, ye, hst1, hce, rfl⟩ := compL_cons hd1 hcc
          obtain ⟨r2, k2, hset2, hk2, hfe2⟩ := stepF_ok hst1
          obtain ⟨acc2, hacc2⟩ : ∃ acc, He Da = some (.lst acc) := let ⟨_, acc, _, h, _⟩ := me; ⟨acc, h⟩
          have s1e := me.same
          have s1f : Same H1 Hf := s1e.trans s6
          have hDf : Hf Da = some (.lst acc2) := s6 _ _ hacc2
          have f4f : Same (gD F1 H1 Da H4) Hf := fun b x q => s6 b x (f4 b x q)
          have dG1 : Dq K (gD F1 H1 Da Hf) x1 d1 := Dq.mono (gD_yield2 s1e f4 s6 hacc2) _ _ dx1
          have c4 : Same (gD F1 H1 Da Hc) (gD F1 H1 Da H4) := gD_of fun b x q => s5 b x (gD_sub g2 (sb.trans s4) b x q)
          have den1 : DenE K (gD F1 H1 Da Hf) (L2.wipe σ2 own2) (wipeE r1 own2) := (dc.mono (c4.trans (gD_of f4f))).wipe own2
          refine tg_ok (gD_sub g2 s1f) den1 dG1 hset2 fun σ3 d3 l3 a3 => ⟨?_, r2, _, gD_sub g2 s1f, d3, ?_⟩
          · refine wipe_agree (l3.trans (wipe_length ..)) fun j hj => ?_
            rw [a3 j (fun z => hj (hsub2 j z)), wipe_out hj]
          · rw [hk2]
            intro b Hg s7 eb
            cases (show b = k2 from eb)
            have eg2 : grow (gD F1 H1 Da Hf) Hf Hg = gD F1 H1 Da Hg := gD_grow s1f s7 hDf
            have hDg : Hg Da = some (.lst acc2) := s7 _ _ hDf
            have f4g : Same (gD F1 H1 Da H4) Hg := fun b x q => s7 b x (f4f b x q)
            cases k2 with
            | false =>
              have hfe2 : Out.ok [] = Out.ok yd := hfe2
              cases hfe2
              exact ⟨ye, hce, me.to (s6.trans s7), f4g⟩
            | true =>
              obtain ⟨yy, hy1, hy2⟩ := bind_ok' (show (fE r2).bind (fun y => .ok [y]) = .ok yd from hfe2)
              cases hy2
              refine ⟨r2, _, gD_sub g2 (s1f.trans s7), (d3.mono (by rw [← eg2]; exact grow_same1 (gD_sub g2 s1f))), ?_⟩
              rw [hy1]
              intro v Hh s8 dv
              have hDh : Hh Da = some (.lst acc2) := s8 _ _ hDg
              rw [gD_grow (s1f.trans s7) s8 hDg] at dv
              have mh := me.to ((s6.trans s7).trans s8)
              refine ⟨acc2, hDh, made_len mh hlim hDh, ye, hce, mh.push hDa dv hDh, fun b x q => ?_⟩
              have c : b ≠ Da := fun z => by subst z; rw [gD_at] at q; cases q
              rw [upd_ne c]
              exact s8 b x (f4g b x q)
        · have ej : j = zs.length := by omega
          subst ej
          rw [List.drop_length] at hcc
          cases hcc
          exact .inl ⟨wk1.stops He gg1, yb, hcb, me⟩
  · have ei : i = xs.length := by omega
    subst ei
    rw [List.drop_length] at hc
    cases hc
    refine .inl ⟨wk.stops Ha gg, ?_⟩
    obtain ⟨s2, acc, ys1, ha, hd, hy⟩ := m
    rw [List.append_nil] at hy
    subst hy
    refine h1 (.ref Da) Ha s2 (.lst (.inl (by rw [grow_none hDa]; exact ha)) (DqAll.mono (fun a o h => ?_) _ _ hd))
    by_cases c : a = Da
    · subst c; rw [gD_at] at h; cases h
    · rw [gD_ne c] at h; exact h
end
end BB

/-! ## the pure layer 10: which text is which term -/
namespace BB
open PySem PySem.Spec PyProof.Rows L2
structure Ctx where
  N : List Str
  sc : Scope
  fns : List (Str × Nat)
  gls : List Str
def visB (sc : Scope) (x : Str) : Bool := match sc.names.lookup x with
  | some .local => true
  | some .cell => true
  | some .free => true
  | _ => false
def glB (sc : Scope) (x : Str) : Bool := match sc.names.lookup x with
  | some .globalImplicit => true
  | _ => false
theorem vis_of {sc : Scope} {x : Str} (h : visB sc x = true) : Vis sc x := by
  unfold visB at h
  split at h
  · exact .inl (by assumption)
  · exact .inr (.inl (by assumption))
  · exact .inr (.inr (by assumption))
  · cases h
theorem gl_of {sc : Scope} {x : Str} (h : glB sc x = true) : sc.names.lookup x = some .globalImplicit := by
  unfold glB at h
  split at h
  · assumption
  · cases h
def nmB (x : Str) : Bool := !(x == ("__debug__" : Str)) && !(x == ("__classdict__" : Str)) && !(x == ("__name__" : Str))
theorem nm_of {x : Str} (h : nmB x = true) : (x == ("__debug__" : Str)) = false ∧ (x == ("__classdict__" : Str)) = false ∧ x ≠ "__name__" := by
  unfold nmB at h
  simp only [Bool.and_eq_true, Bool.not_eq_true'] at h
  exact ⟨h.1.1, h.1.2, fun e => by rw [e] at h; simp at h⟩
def mBop : Bop → Operator → Bool
  | .add, .Add => true
  | .sub, .Sub => true
  | .mul, .Mult => true
  | .fdiv, .FloorDiv => true
  | .mod, .Mod => true
  | .pow, .Pow => true
  | _, _ => false
def mCop : Cop → CmpOp → Bool
  | .eq, .Eq => true
  | .ne, .NotEq => true
  | .lt, .Lt => true
  | .le, .LtE => true
  | .gt, .Gt => true
  | .ge, .GtE => true
  | .isin, .In => true
  | .notin, .NotIn => true
  | .is, .Is => true
  | .isnot, .IsNot => true
  | _, _ => false
def mAnd : Bool → BoolOp → Bool
  | true, .And => true
  | false, .Or => true
  | _, _ => false
def bltS : Blt → String
  | .len => "len" | .all => "all" | .any => "any" | .max => "max" | .min => "min" | .sum => "sum" | .list => "list" | .tuple => "tuple" | .sorted => "sorted"
def mthS : Mth → String
  | .join => "join" | .split => "split" | .index => "index"
def ownP (N : List Str) (own : List Nat) : List (Str × Nat) := own.map fun i => (N.getD i "", i)
theorem ownP_snd {N : List Str} : ∀ own : List Nat, (ownP N own).map (·.2) = own
  | [] => rfl
  | i :: r => by
    show i :: (ownP N r).map (·.2) = i :: r
    rw [ownP_snd r]
def okB (scope sc : Scope) (x : Str) : Bool := match sc.names.lookup x with
  | some .local => true
  | some .cell => (scope.names.lookup x == some .cell)
  | _ => false
def baseE : Expr → Bool
  | .Call _ _ _ _ => false
  | _ => true
theorem base_of {l : Expr} {nm : Str} {env : PySem.Env} {w : Sem Value} (h : baseE l = true) : attributeBase l nm env w = w := by
  cases l <;> first | rfl | cases h
/-- names of functions -/
def mFns (c : Ctx) : List Nat → List Expr → Nat → Bool
  | [], [], _ => true
  | j :: js, .Name x _ :: fs, n => decide (c.fns[j]? = some (x, n)) && glB c.sc x && nmB x && mFns c js fs n
  | _, _, _ => false
mutual
def mE : BB.E → Ctx → Expr → Bool
  | .var i => fun c e => match e with
    | .Name x _ => decide (c.N[i]? = some x) && visB c.sc x && nmB x
    | _ => false
  | .fld i f => fun c e => match e with
    | .Attribute (.Name x _) nm _ => decide (c.N[i]? = some x) && visB c.sc x && nmB x && decide (nm = f)
    | _ => false
  | .glob j => fun c e => match e with
    | .Name x _ => decide (c.gls[j]? = some x) && glB c.sc x && nmB x
    | _ => false
  | .int i => fun c e => match e with
    | .Constant (.int k) _ _ => decide (i = k)
    | _ => false
  | .str s => fun c e => match e with
    | .Constant (.str k) _ _ => decide (s = k)
    | _ => false
  | .bl b => fun c e => match e with
    | .Constant (.bool k) _ _ => decide (b = k)
    | _ => false
  | .non => fun c e => match e with
    | .Constant .none _ _ => true
    | _ => false
  | .tup es => fun c e => match e with
    | .Tuple ls _ _ => mEs es c ls && decide (ls.length ≤ LIM)
    | _ => false
  | .lst es => fun c e => match e with
    | .List ls _ => mEs es c ls && decide (ls.length ≤ LIM)
    | _ => false
  | .bin op a b => fun c e => match e with
    | .BinOp l o r _ => mBop op o && mE a c l && mE b c r
    | _ => false
  | .neg a => fun c e => match e with
    | .UnaryOp .USub l _ => mE a c l
    | _ => false
  | .not a => fun c e => match e with
    | .UnaryOp .Not l _ => mE a c l
    | _ => false
  | .bop isAnd a es => fun c e => match e with
    | .BoolOp o (l :: ls) _ => mAnd isAnd o && mE a c l && mEs es c ls
    | _ => false
  | .cmp op a b => fun c e => match e with
    | .Compare l [o] [r] _ => mCop op o && mE a c l && mE b c r && plainE r
    | _ => false
  | .chn op op' a b d => fun c e => match e with
    | .Compare l [o, o'] [r, t] _ => mCop op o && mCop op' o' && mE a c l && mE b c r && mE d c t && plainE t
    | _ => false
  | .ite t a b => fun c e => match e with
    | .IfExp u l r _ => mE t c u && mE a c l && mE b c r
    | _ => false
  | .ix a b => fun c e => match e with
    | .Subscript l r _ => mE a c l && mE b c r && plainE r
    | _ => false
  | .sl a lo hi => fun c e => match e with
    | .Subscript l (.Slice x y none _) _ => mE a c l && mEo lo c x && mEo hi c y
    | _ => false
  | .rev a => fun c e => match e with
    | .Subscript l (.Slice none none (some (.UnaryOp .USub (.Constant (.int k) _ _) _)) _) _ => mE a c l && decide (k = 1)
    | _ => false
  | .call j es => fun c e => match e with
    | .Call (.Name x _) ls [] _ => decide (c.fns[j]? = some (x, ls.length)) && glB c.sc x && nmB x && mEs es c ls
    | _ => false
  | .blt f es => fun c e => match e with
    | .Call (.Name x _) (l :: ls) [] _ => decide (x = Str.ofString (bltS f)) && glB c.sc x && mEs es c (l :: ls)
    | _ => false
  | .isi a T => fun c e => match e with
    | .Call (.Name x _) [l, .Name y _] [] _ => decide (x = Str.ofString "isinstance") && decide (y = Str.ofString T) && isiT T && glB c.sc x && glB c.sc y && mE a c l && plainE l
    | _ => false
  | .lrg a b => fun c e => match e with
    | .Call (.Name y _) [.Call (.Name x _) [l, r] [] _] [] _ => decide (y = Str.ofString "list") && glB c.sc y && decide (x = Str.ofString "range") && glB c.sc x && mE a c l && mE b c r && plainE l && plainE r
    | _ => false
  | .srtL a => fun c e => match e with
    | .Call (.Name x _) [l] [⟨some kn, .Name y _, _⟩] _ => decide (x = Str.ofString "sorted") && glB c.sc x && decide (kn = Str.ofString "key") && decide (y = Str.ofString "len") && glB c.sc y && mE a c l && plainE l
    | _ => false
  | .minL a => fun c e => match e with
    | .Call (.Name x _) [l] [⟨some kn, .Name y _, _⟩] _ => decide (x = Str.ofString "min") && glB c.sc x && decide (kn = Str.ofString "key") && decide (y = Str.ofString "len") && glB c.sc y && mE a c l && plainE l
    | _ => false
  | .pick js a es => fun c e => match e with
    | .Call (.Subscript (.List fs _) i _) (l :: ls) [] _ => mFns c js fs (l :: ls).length && mE a c i && plainE i && decide (fs.length ≤ 1000) && mEs es c (l :: ls)
    | _ => false
  | .idx a b => fun c e => match e with
    | .Call (.Attribute l nm ap) [r] [] cp => decide (nm = Str.ofString "index") && baseE l && mE a c l && mE b c r && plainE r && (ap.endLine == cp.line)
    | _ => false
  | .mth m a b => fun c e => match e with
    | .Call (.Attribute l nm ap) [r] [] cp => decide (nm = Str.ofString (mthS m)) && baseE l && mE a c l && mE b c r && plainE r && (ap.endLine == cp.line)
    | _ => false
  | .comp elt tg it cnd own => fun c e => match e with
    | .ListComp le [⟨lt, li, ifs, a⟩] scope _ => decide (a = 0) && plainE li && mI it c li lt && blkC c.N c.sc scope (ownP c.N own) && mTg c.N (okB scope (relS scope c.sc)) tg lt &&
        mIf cnd { c with sc := relS scope c.sc } ifs && mE elt { c with sc := relS scope c.sc } le && (tgIs tg).all (own.contains ·)
    | _ => false
  | .comp2 elt tg it cnd tg2 it2 cnd2 own own2 => fun c e => match e with
    | .ListComp le [⟨lt, li, ifs, a⟩, ⟨lt2, li2, ifs2, a2⟩] scope _ => decide (a = 0) && decide (a2 = 0) && plainE li && plainE li2 && mI it c li lt && blkC c.N c.sc scope (ownP c.N own) && mTg c.N (okB scope (relS scope c.sc)) tg lt &&
        mIf cnd { c with sc := relS scope c.sc } ifs && mI it2 { c with sc := relS scope c.sc } li2 lt2 && mTg c.N (okB scope (relS scope c.sc)) tg2 lt2 && mIf cnd2 { c with sc := relS scope c.sc } ifs2 && mE elt { c with sc := relS scope c.sc } le &&
        (tgIs tg).all (own.contains ·) && (tgIs tg2).all (own2.contains ·) && own2.all (own.contains ·)
    | _ => false
def mEs : Es → Ctx → List Expr → Bool
  | .nil => fun c ls => match ls with
    | [] => true
    | _ => false
  | .cons e es => fun c ls => match ls with
    | l :: ls => plainE l && mE e c l && mEs es c ls
    | _ => false
def mEo : Eo → Ctx → Option Expr → Bool
  | .none => fun c o => match o with
    | none => true
    | _ => false
  | .some e => fun c o => match o with
    | some l => mE e c l
    | _ => false
def mIf : Eo → Ctx → List Expr → Bool
  | .none => fun c o => match o with
    | [] => true
    | _ => false
  | .some e => fun c o => match o with
    | [l] => mE e c l
    | _ => false
def mI : BB.It → Ctx → Expr → Expr → Bool
  | .seq e => fun c l _ => mE e c l
  | .rng1 a => fun c e _ => match e with
    | .Call (.Name x _) [l] [] _ => decide (x = Str.ofString "range") && glB c.sc x && mE a c l && plainE l
    | _ => false
  | .rng2 a b => fun c e _ => match e with
    | .Call (.Name x _) [l, r] [] _ => decide (x = Str.ofString "range") && glB c.sc x && mE a c l && plainE l && mE b c r && plainE r
    | _ => false
  | .zip a b => fun c e t => match t, e with
    | .Tuple _ _ _, .Call (.Name x _) [l, r] [] _ => decide (x = Str.ofString "zip") && glB c.sc x && mE a c l && plainE l && mE b c r && plainE r
    | _, _ => false
  | .enum a => fun c e t => match t, e with
    | .Tuple _ _ _, .Call (.Name x _) [l] [] _ => decide (x = Str.ofString "enumerate") && glB c.sc x && mE a c l && plainE l
    | _, _ => false
end
def esLen : Es → Nat
  | .nil => 0
  | .cons _ es => esLen es + 1
theorem evEs_len {g : Sg} : ∀ {es : Es} {r : Env} {ds : List D}, evEs g es r = .ok ds → ds.length = esLen es
  | .nil, r, ds, h => by
    have h : Out.ok [] = Out.ok ds := h
    cases h
    rfl
  | .cons e es, r, ds, h => by
    have h : ((evE g e r).bind fun d => (evEs g es r).bind fun ds => .ok (d :: ds)) = .ok ds := h
    obtain ⟨d, h1, h2⟩ := bind_ok' h
    obtain ⟨ds', h3, h4⟩ := bind_ok' h2
    cases h4
    show ds'.length + 1 = esLen es + 1
    rw [evEs_len h3]
theorem mEs_len {c : Ctx} : ∀ {es : Es} {ls : List Expr}, mEs es c ls = true → esLen es = ls.length ∧ plainEs ls = true
  | .nil, [], _ => ⟨rfl, rfl⟩
  | .nil, _ :: _, h => by cases h
  | .cons _ _, [], h => by cases h
  | .cons e es, l :: ls, h => by
    have h : (plainE l && mE e c l && mEs es c ls) = true := h
    rw [Bool.and_eq_true, Bool.and_eq_true] at h
    obtain ⟨h1, h2⟩ := mEs_len h.2
    refine ⟨by show esLen es + 1 = ls.length + 1; rw [h1], ?_⟩
    show (plainE l && plainEs ls) = true
    rw [h.1.1, h2]; rfl
end BB

/-! ## the pure layer: sorted of rows of ints, sorted and min by key=len -/
namespace BB
open PySem PySem.Spec PyProof.Rows L2
section
variable {X : Cx} {K : Frag}
theorem each_of {H : Hp} : ∀ {xs : List V} {ds : List D} {us : List Value}, DqAll K H xs ds → Vals xs us → PySem.W.EachIs (fun u (b : V × D) => RelV b.1 u ∧ Dq K H b.1 b.2) us (xs.zip ds)
  | _, _, _, .nil, .nil => .nil
  | _, _, _, .cons h t, .cons r rs => .cons ⟨r, h⟩ (each_of t rs)
theorem each_back {H : Hp} : ∀ {us : List Value} {bs : List (V × D)}, PySem.W.EachIs (fun u (b : V × D) => RelV b.1 u ∧ Dq K H b.1 b.2) us bs → Vals (bs.map (·.1)) us ∧ DqAll K H (bs.map (·.1)) (bs.map (·.2))
  | _, _, .nil => ⟨.nil, .nil⟩
  | _, _, .cons h t => ⟨.cons h.1 (each_back t).1, .cons h.2 (each_back t).2⟩
theorem zip_fst {H : Hp} : ∀ {xs : List V} {ds : List D}, DqAll K H xs ds → (xs.zip ds).map (·.2) = ds ∧ (xs.zip ds).length = xs.length
  | _, _, .nil => ⟨rfl, rfl⟩
  | _, _, .cons _ t => by
    obtain ⟨h1, h2⟩ := zip_fst t
    simp [h1, h2]
theorem zip_dq {F : Hp} : ∀ {xs : List V} {ds : List D}, DqAll K F xs ds → ∀ b ∈ xs.zip ds, Dq K F b.1 b.2
  | _, _, .nil, b, h => by cases h
  | _, _, .cons h t, b, hb => by
    rcases List.mem_cons.mp hb with rfl | hb
    · exact h
    · exact zip_dq t b hb
theorem dq_mem {F : Hp} : ∀ {bs : List (V × D)}, (∀ b ∈ bs, Dq K F b.1 b.2) → DqAll K F (bs.map (·.1)) (bs.map (·.2))
  | [], _ => .nil
  | b :: bs, h => .cons (h b (by simp)) (dq_mem fun c hc => h c (by simp [hc]))
theorem asInts_eq : ∀ {xs : List D} {ns : List Int}, asInts xs = some ns → xs = ns.map .int
  | [], ns, h => by cases h; rfl
  | d :: r, ns, h => by
    cases d with
    | int i =>
      have h : (asInts r).map (i :: ·) = some ns := h
      cases q : asInts r with
      | none => rw [q] at h; cases h
      | some ms => rw [q] at h; cases h; rw [asInts_eq q]; rfl
    | _ => cases h
/-- the list that sorting leaves, as values -/
def rSrt (K : Frag) : List V → Hp → VK → Prop := fun vs H Q => ∃ (a : Addr) (xs : List V) (ds : List D), vs = [.ref a] ∧ SqL K H a xs ∧ DqAll K H xs ds ∧ PySem.W.AllAlike ds ∧ PySem.W.Sortable ds ∧ (∀ d ∈ ds, d.depth ≤ 60) ∧
  ∀ p, H p = none → Q (.ref p) (upd H p (.lst (((xs.zip ds).mergeSort (PySem.W.dataLe false (·.2))).map (·.1))))
theorem cr_srt (hu : X.A.units + 64 < cLine) : CallR X (.builtin "sorted") (rSrt X.K) := by
  intro pins s σ H vs us Q I r h
  obtain ⟨a, xs, ds, rfl, hs, hq, hal, hk, hdep, q⟩ := h
  obtain ⟨its, rv, hl, hz⟩ := I.list hs
  rw [Vals.ref1 r]
  have e := each_of hq rv
  obtain ⟨z1, z2⟩ := zip_fst hq
  refine PySem.W.sorted_data (enc := fun b : V × D => b.2) hl.isList e (e.mono fun u b ⟨r1, r2⟩ => Dp.reads I _ _ _ (Dq.dp _ _ r2) r1) (by rw [z1]; exact hal) (by rw [z1]; exact hk) (by rw [z2]; exact hz) (fun b hb => ?_) fun out hlen hout => ?_
  · have : b.2 ∈ ds := by rw [← z1]; exact List.mem_map.mpr ⟨b, hb, rfl⟩
    have := hdep _ this
    omega
  · obtain ⟨ep, he'⟩ := PyProof.Rows.sortedAll_at s.heap its out.toArray
    obtain ⟨b1, b2⟩ := each_back hout
    exact ⟨.ref _, upd H (s.heap.objs.size + 1) (.lst _), I.laid (t' := s.toks) (fun _ _ => PyProof.Rows.sortedAll_old) (Nat.le_succ _) ⟨by rw [b1.length, hlen, z2]; exact hz, out, ep, b1, he'⟩, rfl, q _ (I.hok.fresh (Nat.le_succ _))⟩
/-! ### rows of ints -/
def rowT (r : List Int) : D := .tuple (r.map .int)
theorem rowsOf_eq : ∀ {ds : List D} {rs : List (List Int)}, rowsOf ds = some rs → ds = rs.map rowT ∧ ∀ r ∈ rs, r ≠ []
  | [], rs, h => by cases h; simp
  | d :: ds, rs, h => by
    cases d with
    | tuple xs =>
      have h : (match asInts xs with
        | some (n :: ns) => (rowsOf ds).map ((n :: ns) :: ·)
        | _ => none) = some rs := h
      cases e1 : asInts xs with
      | none => rw [e1] at h; cases h
      | some ms =>
        rw [e1] at h
        cases ms with
        | nil => cases h
        | cons n ns =>
          cases e2 : rowsOf ds with
          | none => rw [e2] at h; cases h
          | some rs' =>
            rw [e2] at h
            cases h
            obtain ⟨h1, h2⟩ := rowsOf_eq e2
            have hx : xs = (n :: ns).map .int := asInts_eq e1
            refine ⟨by rw [h1, hx]; rfl, fun r hr => ?_⟩
            rcases List.mem_cons.mp hr with rfl | hr
            · simp
            · exact h2 r hr
    | _ => cases h
theorem alike_rowT (a b : List Int) : PySem.W.alike (rowT a) (rowT b) = true := by
  show PySem.W.alike (.tuple _) (.tuple _) = true
  have := PySem.W.alike_ints a b
  simpa [PySem.W.alike] using this
theorem depth_rowT (a : List Int) : (rowT a).depth ≤ 60 := by
  have := PySem.W.depth_ints a
  show PyData.depth (.tuple _) ≤ 60
  rw [PyData.depth, this]
  omega
theorem dataLe_rowT : PySem.W.dataLe false rowT = fun p q => decide (p ≤ q) := by
  have h := PySem.W.dataLe_rows (β := List Int) id
  have : PySem.W.dataLe false rowT = PySem.W.dataLe false (fun b : List Int => PyData.list ((id b).map .int)) := by
    funext a b
    rw [PySem.W.dataLe_eq, PySem.W.dataLe_eq]
    show (!PySem.W.dataLt (.tuple _) (.tuple _)) = (!PySem.W.dataLt (.list _) (.list _))
    rw [PySem.W.dataLt_tuple, PySem.W.dataLt_list]
    rfl
  rw [this, h]
  rfl
theorem srtV {mg : Str → Option Value} {E : XK} : CaV K mg E (rSrt K) (bltD .sorted) := by
  intro F H vs ds Q e hv h
  cases hv with
  | nil => exact False.elim h
  | cons h1 t => cases t with
    | nil => cases h1 with
      | lst sx ax =>
        rename_i l xs ds
        have h : ResV K mg E F H (match rowsOf ds with
          | some rs => .ok (.list ((rs.mergeSort leRow).map fun r => .tuple (r.map .int)))
          | none => .bad) Q := h
        cases q : rowsOf ds with
        | none => rw [q] at h; exact False.elim h
        | some rs =>
          rw [q] at h
          obtain ⟨e1, hne⟩ := rowsOf_eq q
          have hm : ds.mergeSort (PySem.W.dataLe false id) = (rs.mergeSort leRow).map fun r => PyData.tuple (r.map .int) := by
            rw [e1]
            have := List.map_mergeSort (r := leRow) (s := PySem.W.dataLe false id) (f := rowT) (l := rs) (fun a _ b _ => by
              have := congrFun (congrFun dataLe_rowT a) b
              exact this.symm)
            exact this.symm
          refine ⟨l, xs, ds, rfl, .inl (rd_mono e sx), DqAll.mono e _ _ ax, ?_, ?_, ?_, fun p hp => ?_⟩
          · intro d hd d' hd'
            rw [e1] at hd hd'
            obtain ⟨r, _, rfl⟩ := List.mem_map.mp hd
            obtain ⟨r', _, rfl⟩ := List.mem_map.mp hd'
            exact alike_rowT r r'
          · refine .inl fun d hd => ?_
            rw [e1] at hd
            obtain ⟨r, hr, rfl⟩ := List.mem_map.mp hd
            cases r with
            | nil => exact absurd rfl (hne _ hr)
            | cons n ns => exact ⟨_, _, rfl⟩
          · intro d hd
            rw [e1] at hd
            obtain ⟨r, _, rfl⟩ := List.mem_map.mp hd
            exact depth_rowT r
          · obtain ⟨z1, z2⟩ := zip_fst ax
            have hz : ((xs.zip ds).mergeSort (PySem.W.dataLe false (·.2))).map (·.2) = ds.mergeSort (PySem.W.dataLe false id) := by
              have := List.map_mergeSort (r := PySem.W.dataLe false fun b : V × D => b.2) (s := PySem.W.dataLe false id) (f := fun b : V × D => b.2) (l := xs.zip ds) (fun a _ b _ => rfl)
              exact this.trans (by rw [z1])
            have hy := dq_mem (K := K) (F := F) (bs := (xs.zip ds).mergeSort (PySem.W.dataLe false (·.2))) fun b hb => zip_dq ax b ((List.mergeSort_perm _ _).mem_iff.mp hb)
            rw [hz, hm] at hy
            exact Res.lst e h hy p hp
      | _ => exact False.elim h
    | cons h2 t2 => cases h1 <;> exact False.elim h
/-! ### by key=len -/
theorem isTup_of {d : D} (h : isTup d = true) : ∃ xs, d = .tuple xs := by
  cases d with
  | tuple xs => exact ⟨xs, rfl⟩
  | _ => cases h
theorem vals_get : ∀ {xs : List V} {us : List Value} {i : Nat} {u : Value}, Vals xs us → us[i]? = some u → ∃ x, xs[i]? = some x ∧ RelV x u
  | _, _, _, _, .nil, e => by simp at e
  | _, _, 0, _, .cons h _, e => by simp at e; subst e; exact ⟨_, rfl, h⟩
  | _, _, i + 1, u, .cons _ t, e => by
    obtain ⟨x, h1, h2⟩ := vals_get (i := i) (u := u) t (by simpa using e)
    exact ⟨x, by simpa using h1, h2⟩
/-- len of a tuple, wherever all of a state's objects stand -/
theorem len_there {pins : List (Addr × Obj)} {s : Shared} {σ : L2.St} {H : Hp} {v : V} {u : Value} {d : D} (I : Inv X pins σ H s) (hv : Dq X.K H v d) (hd : isTup d = true) (r : RelV v u) :
    ∀ (A : Around) (s' : Shared) (Q : Value → Shared → Prop) (E : Value → Shared → Prop), (∀ b o, s.heap.get? b = some o → s'.heap.get? b = some o) → Q (.int (lenT d) (s'.toks + 1)) { s' with toks := s'.toks + 1 + 1 } → wpAny (model X.prog X.w) A (call (.builtin "len") [u]) Q E s' := by
  intro A s' Q E hk hq
  obtain ⟨ds, rfl⟩ := isTup_of hd
  cases hv with
  | tup sx ax =>
    cases r
    obtain ⟨its, rv, hl, hz⟩ := I.tuple sx
    have hlen := rv.length
    have hlen2 := ax.length
    have hn := line63
    have hs : sizeLine = 16777216 := sizeLine_eq
    refine len_tuple (hl.keeps hk) (by simp only [List.size_toArray]; omega) ?_
    have e : (its.toArray.size : Int) = ((lenT (.tuple ds) : Nat) : Int) := by
      rw [List.size_toArray]
      show ((its.length : Nat) : Int) = ((ds.length : Nat) : Int)
      omega
    rw [e]
    exact hq
/-- f(l, key=len) by what f does with a list -/
theorem peKeyLen {l : Expr} {x : Str} {id : String} {p p2 pos kpos : Pos} {E : XK} {fa : Env → Out D} {m : D → Out D} (hg : Gl X x) (hm : X.mg x = none) (hx : bootBuiltins x = some (.builtin id)) (hn : x ≠ "__name__") (hdb : (x == ("__debug__" : Str)) = false) (hg2 : Gl X "len") (hm2 : X.mg "len" = none) (ha : PE X l (tP X.K X.mg E fa)) (hp : plainE l = true)
    (hr : ∀ (pins : List (Addr × Obj)) (s : Shared) (σ : L2.St) (F H : Hp) (v : V) (u : Value) (d : D) (Q : VK), Inv X pins σ H s → Same F H → Dq X.K F v d → RelV v u → ResV X.K X.mg E F H (m d) Q → wpAny (model X.prog X.w) X.A (call (.builtin id) [u] [(Str.ofString "key", .builtin "len")]) (EP X pins σ Q) X.xe s) :
    PE X (.Call (.Name x p) [l] [⟨some (Str.ofString "key"), .Name "len" p2, kpos⟩] pos) (tP X.K X.mg E fun r => (fa r).bind m) := by
  refine ⟨fun pins s σ H Q I h => ?_⟩
  obtain ⟨r, F, e, d, h⟩ := h
  refine wpAny_Call_Name_kw (ld_blt I hg hm hx ?_ hn hdb)
  have hpa : PA X [l] (tCons (tP X.K X.mg E fa) tNil) := pa_cons ha pa_nil (star_plain hp)
  refine PyProof.Rows.callWith_kw (thn (hpa.run pos pins s σ H (fun vs H1 => ∃ v d F1, vs = [v] ∧ Same F1 H1 ∧ Dq X.K F1 v d ∧ ResV X.K X.mg E F1 H1 (m d) Q) I ?_) fun us s1 ⟨vs, H1, I1, r1, q1⟩ => ?_) ?_ ?_
  · refine ⟨r, F, e, d, h.bind e fun a y H1 ea s1 dx g1 g2 h1 => ?_⟩
    exact ⟨y, a, grow F H H1, rfl, g2, dx, h1⟩
  · obtain ⟨v, d, F1, rfl, s2, dq, h2⟩ := q1
    obtain ⟨u, rfl, ru⟩ := vals1 r1
    show wpAny _ _ (evalAll [(do let v ← eval (.Name "len" p2) X.env; standAt pos; pure v)]) _ _ s1
    refine wpAny_evalAll_cons (wpAny_bind (ld_blt I1 hg2 hm2 (u := .builtin "len") (by decide +kernel) (wpAny_bind (wpAny_standAt (wpAny_pure ?_))) (by decide) (by decide)))
    refine wpAny_evalAll_nil ?_
    exact hr pins s1 σ F1 H1 v u d Q I1 s2 dq ru h2
  · rw [star_plain hp]; rfl
  · rw [star_plain hp]; rfl
theorem srtL_run (hu : X.A.units + 64 < cLine) {E : XK} (pins : List (Addr × Obj)) (s : Shared) (σ : L2.St) (F H : Hp) (v : V) (u : Value) (d : D) (Q : VK) (I : Inv X pins σ H s) (e : Same F H) (hv : Dq X.K F v d) (r : RelV v u) (h : ResV X.K X.mg E F H (srtLD d) Q) :
    wpAny (model X.prog X.w) X.A (call (.builtin "sorted") [u] [(Str.ofString "key", .builtin "len")]) (EP X pins σ Q) X.xe s := by
  cases hv with
  | lst sx ax =>
    rename_i a xs ds
    have h : ResV X.K X.mg E F H (if ds.all isTup = true ∧ ds.length ≤ LIM then .ok (.list (ds.mergeSort leLen)) else .bad) Q := h
    by_cases c : ds.all isTup = true ∧ ds.length ≤ LIM
    · rw [if_pos c] at h
      cases r
      obtain ⟨its, rv, hl, hz⟩ := I.list (.inl (rd_mono e sx) : SqL X.K H a xs)
      have eo := each_of (DqAll.mono e _ _ ax) rv
      obtain ⟨z1, z2⟩ := zip_fst ax
      have ht : ∀ b ∈ xs.zip ds, isTup b.2 = true := fun b hb => List.all_eq_true.mp c.1 _ (by rw [← z1]; exact List.mem_map.mpr ⟨b, hb, rfl⟩)
      have hle : PySem.W.dataLe false (fun b : V × D => PyData.int (lenT b.2)) = fun a b => decide ((lenT a.2 : Int) ≤ lenT b.2) := PySem.W.dataLe_int _
      have hms : ((xs.zip ds).mergeSort (PySem.W.dataLe false fun b : V × D => PyData.int (lenT b.2))).map (·.2) = ds.mergeSort leLen := by
        have := List.map_mergeSort (r := PySem.W.dataLe false fun b : V × D => PyData.int (lenT b.2)) (s := leLen) (f := fun b : V × D => b.2) (l := xs.zip ds) (fun a _ b _ => by
          rw [hle]
          show decide ((lenT a.2 : Int) ≤ lenT b.2) = decide (lenT a.2 ≤ lenT b.2)
          exact decide_eq_decide.mpr (by omega))
        exact this.trans (by rw [z1])
      refine PySem.W.sorted_key_data (f := .builtin "len") (b := false) (fun b : V × D => PyData.int (lenT b.2)) hl.isList eo ?_ ?_ (by rw [z2]; exact hz) ?_ (PyProof.Rows.ksk_s1 _ _) (fun _ => PyProof.Rows.ksk_l1 _ _) (fun x => PyProof.Rows.ksk_t4 "len" x) ?_ ?_
      · exact PySem.W.AllAlike.of fun _ _ => by simp [PySem.W.alike]
      · exact PySem.W.Sortable.others fun _ => ⟨(by intro h; cases h), (by intro xs h; cases h)⟩
      · intro b hb
        have : (PyData.int (lenT b.2)).depth = 0 := by rw [PyData.depth]
        rw [this]; omega
      · intro w b hR hb hh tk hk
        exact len_there I hR.2 (ht b hb) hR.1 _ _ _ _ hk ⟨hh, tk + 1 + 1, rfl, fun _ _ q => q, .int _ _⟩
      · intro out cc h' tk hk hfr hat hlen hout
        obtain ⟨b1, _⟩ := each_back hout
        have hy := dq_mem (K := X.K) (F := F) (bs := (xs.zip ds).mergeSort (PySem.W.dataLe false fun b : V × D => PyData.int (lenT b.2))) fun b hb => zip_dq ax b ((List.mergeSort_perm _ _).mem_iff.mp hb)
        rw [hms] at hy
        exact ⟨.ref _, upd H (s.heap.objs.size + 1) (.lst _), I.laid (t' := tk) hk (Nat.le_succ _) ⟨by rw [b1.length, hlen, z2]; exact hz, out, cc, b1, hat⟩, rfl, Res.lst e h hy _ (I.hok.fresh (Nat.le_succ _))⟩
    · rw [if_neg c] at h; exact False.elim h
  | _ => exact False.elim h
theorem minL_run (hc : X.calm = true) {E : XK} (pins : List (Addr × Obj)) (s : Shared) (σ : L2.St) (F H : Hp) (v : V) (u : Value) (d : D) (Q : VK) (I : Inv X pins σ H s) (e : Same F H) (hv : Dq X.K F v d) (r : RelV v u) (h : ResV X.K X.mg E F H (minLD d) Q) :
    wpAny (model X.prog X.w) X.A (call (.builtin "min") [u] [(Str.ofString "key", .builtin "len")]) (EP X pins σ Q) X.xe s := by
  cases hv with
  | lst sx ax =>
    rename_i a xs ds
    have h : ResV X.K X.mg E F H (if ds.all isTup = true then (match ds[argBest (fun i j => decide (lenT (ds.getD i .none) < lenT (ds.getD j .none))) (ds.length - 1)]? with
      | some d => .ok d
      | none => .bad) else .bad) Q := h
    by_cases c : ds.all isTup = true
    · rw [if_pos c] at h
      cases hb : ds[argBest (fun i j => decide (lenT (ds.getD i .none) < lenT (ds.getD j .none))) (ds.length - 1)]? with
      | none => rw [hb] at h; exact False.elim h
      | some d =>
        rw [hb] at h
        cases r
        obtain ⟨its, rv, hl, hz⟩ := I.list (.inl (rd_mono e sx) : SqL X.K H a xs)
        have hlen := rv.length
        have hlen2 := ax.length
        have hpos : 0 < ds.length := by
          have := (List.getElem?_eq_some_iff.mp hb).1
          omega
        have hget : ∀ (i : Nat) (v : Value), its.toArray[i]? = some v → ∃ (x : V) (d : D), xs[i]? = some x ∧ ds[i]? = some d ∧ RelV x v ∧ Dq X.K F x d := by
          intro i v hv
          have hv : its[i]? = some v := by simpa using hv
          obtain ⟨x, h1, h2⟩ := vals_get rv hv
          obtain ⟨d, h3, h4⟩ := DqAll.get' ax h1
          exact ⟨x, d, h1, h3, h2, h4⟩
        have old : ∀ (s' : Shared) (w : List Addr), (∀ b ∈ w, s.heap.objs.size ≤ b) → ∀ s0 : Shared, (∀ b o, s.heap.get? b = some o → s0.heap.get? b = some o) → (∀ b o, b ∉ w → s0.heap.get? b = some o → s'.heap.get? b = some o) → ∀ b o, s.heap.get? b = some o → s'.heap.get? b = some o := by
          intro s' w hw s0 h0 h1 b o q
          exact h1 b o (fun hm => absurd (Heap.lt_size q) (Nat.not_lt.mpr (hw b hm))) (h0 b o q)
        refine call_min_walkKB (PySem.W.iter_listW (A := X.A.in1) (I.ok.hd hc) hl.isList fun s₂ es W st hfp hw hk => ?_)
        subst es
        refine ⟨_, _, _, _, _, _, _, fun s' => ∃ h' tk, s' = { s with heap := h', toks := tk } ∧ ∀ b o, s.heap.get? b = some o → h'.get? b = some o, fun i k _ => ∃ t, k = .int (lenT (ds.getD i .none)) t, fun i j => decide (lenT (ds.getD i .none) < lenT (ds.getD j .none)), rfl, W, st, hfp, by rw [List.size_toArray]; omega, ⟨?_, ?_, ?_, ?_⟩, ⟨_, _, rfl, hk⟩, ?_⟩
        · rintro s1 s2 ⟨h', tk, rfl, hk'⟩ mv
          obtain ⟨hp, g, dd, tk2, os⟩ := s2
          have q1 : g = s.gens := mv.gens
          have q2 : dd = s.drawn := mv.drawn
          have q3 : os = s.os := mv.os
          subst q1 q2 q3
          refine ⟨hp, tk2, rfl, fun b o q => mv.heap b o (fun hm => ?_) (hk' b o q)⟩
          have hlt := Heap.lt_size q
          rcases List.mem_cons.mp hm with rfl | hm
          · exact absurd hlt (by rw [Heap.size_push]; exact Nat.not_lt.mpr (Nat.le_succ _))
          · rw [List.mem_singleton.mp hm] at hlt; exact absurd hlt (Nat.lt_irrefl _)
        · rintro i k s1 s2 hh _
          exact hh
        · rintro i v s1 o Q' E' hi hP ⟨h', tk, rfl, hk'⟩ hst hS hQ
          obtain ⟨x, d', h1, h2, h3, h4⟩ := hget i v hP
          have hd' : ds.getD i .none = d' := by rw [List.getD_eq_getElem?_getD, h2]; rfl
          have ht : isTup d' = true := List.all_eq_true.mp c _ (List.mem_of_getElem? h2)
          refine len_there I (Dq.mono e _ _ h4) ht h3 _ _ _ _ hk' ?_
          refine hQ _ _ ⟨h', _, rfl, hk'⟩ ?_ hS ⟨tk + 1, by rw [hd']⟩ fun j k' q => q
          exact W.frame (i + 1) { s with heap := h', toks := tk } h' (tk + 1 + 1) hst (by show tk ≤ tk + 1 + 1; omega) fun b _ o q => q
        · rintro i j ki kj s1 Q' E' ⟨h', tk, rfl, hk'⟩ ⟨t1, rfl⟩ ⟨t2, rfl⟩ hQ
          have e2 : decide (lenT (ds.getD i .none) < lenT (ds.getD j .none)) = decide ((lenT (ds.getD i .none) : Int) < lenT (ds.getD j .none)) := decide_eq_decide.mpr (by omega)
          rw [e2] at hQ
          exact PyProof.Rows.lt_int hQ
        · rintro v s' hP ⟨h', tk, rfl, hk'⟩
          rw [List.size_toArray] at hP
          obtain ⟨x, d', h1, h2, h3, h4⟩ := hget _ v hP
          rw [show its.length - 1 = ds.length - 1 by omega] at h2
          rw [hb] at h2
          cases h2
          exact ⟨x, H, I.kept hk', h3, Res.here e h h4⟩
    · rw [if_neg c] at h; exact False.elim h
  | _ => exact False.elim h
end
end BB

/-! ## the pure layer 11: expressions are sound -/
namespace BB
open PySem PySem.Spec PyProof.Rows L2
def blts : List Str := ["len", "all", "any", "max", "min", "sum", "list", "tuple", "sorted", "range", "zip", "enumerate", "isinstance", "int", "bool", "str"]
structure Glob (P : Program) (w : World) (K : Frag) (mg : Str → Option Value) (base : Heap) (fns : List (Str × Nat)) (gls : List Str) (g : Sg) (k : Nat) : Prop where
  fn : ∀ j x n, fns[j]? = some (x, n) → ∃ f fd ps, FnOk P w K mg base (L2.CX P w) k f fd ps (spD K mg n (g.fn j)) ∧ mg x = some (.ref f) ∧ PySem.W.keepIn K (.ref f) = true ∧ Binds K fd ps []
  gl : ∀ j x, gls[j]? = some x → ∃ u v, mg x = some u ∧ RelV v u ∧ ∀ H, Dq K H v (g.gl j)
  bl : ∀ x, x ∈ blts → mg x = none
structure CxOk (c : Ctx) (g : Sg) (k : Nat) (E : XK) (X : Cx) : Prop where
  N : X.N = c.N
  nd : c.N.Nodup
  sc : X.env.scope = c.sc
  calm : X.calm = true
  room : Room k X.A
  tk : Takes X (fun cls d _ H => E cls d H)
  glob : Glob X.prog X.w X.K X.mg X.base c.fns c.gls g k
section
variable {c : Ctx} {g : Sg} {k : Nat} {E : XK} {X : Cx}
theorem CxOk.gl (ok : CxOk c g k E X) {x : Str} (h : glB c.sc x = true) : Gl X x := by
  show X.env.scope.names.lookup x = _
  rw [ok.sc]
  exact gl_of h
theorem CxOk.blk (ok : CxOk c g k E X) {s : Shared} {H : Hp} {scope : Scope} {C : Addr} {cl : List (Str × Addr)} {fp : List Addr} : CxOk { c with sc := relS scope c.sc } g k E0 (X.blk s H scope (compEnvC scope cl C X.env) fp) :=
  ⟨ok.N, ok.nd, by show relS scope X.env.scope = _; rw [ok.sc], ok.calm, ok.room, takes0, ok.glob⟩
theorem okB_of {scope : Scope} (ok : CxOk c g k E X) {s : Shared} {H : Hp} {C : Addr} {cl : List (Str × Addr)} {fp : List Addr} (x : Str) (h : okB scope (relS scope c.sc) x = true) :
    Loc (X.blk s H scope (compEnvC scope cl C X.env) fp).env.scope x ∧ ((X.blk s H scope (compEnvC scope cl C X.env) fp).fn x = true ∨ (X.blk s H scope (compEnvC scope cl C X.env) fp).env.scope.names.lookup x = some .local) := by
  have e : (X.blk s H scope (compEnvC scope cl C X.env) fp).env.scope = relS scope c.sc := by show relS scope X.env.scope = _; rw [ok.sc]
  rw [e]
  unfold okB at h
  split at h
  · exact ⟨.inl (by assumption), .inr (by assumption)⟩
  · exact ⟨.inr (by assumption), .inl h⟩
  · cases h
theorem and3 {a b c : Bool} (h : (a && b && c) = true) : a = true ∧ b = true ∧ c = true := by
  rw [Bool.and_eq_true, Bool.and_eq_true] at h
  exact ⟨h.1.1, h.1.2, h.2⟩
theorem and2 {a b : Bool} (h : (a && b) = true) : a = true ∧ b = true := by
  rw [Bool.and_eq_true] at h
  exact h
theorem all_sub {is own : List Nat} (h : is.all (own.contains ·) = true) : ∀ j, j ∈ is → j ∈ own := fun j hj => by
  have := List.all_eq_true.mp h j hj
  simpa using this
/-- an expression's two readings -/
def Ok2 (X : Cx) (E : XK) (e : Expr) (f : Env → Out D) : Prop := PE X e (tP X.K X.mg E f) ∧ PT X e (tPT X.K X.mg E f)
theorem Ok2.val {e : Expr} {f : Env → Out D} (h : PE X e (tP X.K X.mg E f)) (he : ∀ whole, isTrue e X.env whole = (do let v ← whole; standAt e.pos; holding [v] (truthy v))) : Ok2 X E e f := ⟨h, ptVal h he⟩
theorem Ok2.bin {op : Bop} {o : Operator} {l r : Expr} {pos : Pos} {fa fb : Env → Out D} (h : mBop op o = true) (ha : PE X l (tP X.K X.mg E fa)) (hb : PE X r (tP X.K X.mg E fb)) : Ok2 X E (.BinOp l o r pos) (fun r => (fa r).bind fun x => (fb r).bind fun y => binD op x y) := by
  refine Ok2.val ?_ fun _ => rfl
  cases op <;> cases o <;> first | (cases h; done) | skip
  · exact peBin op_addG addV ha hb
  · exact peBin op_sub subV ha hb
  · exact peBin op_mulG mulV ha hb
  · exact peBin op_fdivW fdivV ha hb
  · exact peBin op_mod modV ha hb
  · exact peBin op_pow powV ha hb
/-- each comparison: its rule and its data's -/
theorem cmp_ok {op : Cop} {o : CmpOp} (hr : Room k X.A) (h : mCop op o = true) : ∃ rr, OpR X (compareOp o) rr ∧ OpV X.K X.mg E rr (cmpD op) := by
  have hu := hr.units
  have hu0 := hr.units0
  have hu1 : X.A.units + 65 < cLine := by
    have := hr.un
    omega
  cases op <;> cases o <;> first | (cases h; done) | skip
  · exact ⟨_, op_eqG hu, eqV'⟩
  · exact ⟨_, op_neG hu, neV'⟩
  · exact ⟨_, op_ltG hu0, ltV⟩
  · exact ⟨_, op_le, cmpIV⟩
  · exact ⟨_, op_gt, cmpIV⟩
  · exact ⟨_, op_ge, cmpIV⟩
  · exact ⟨_, op_inG hu1, inGV false⟩
  · exact ⟨_, op_notInG hu1, inGV true⟩
  · exact ⟨_, op_isG, isGV false⟩
  · exact ⟨_, op_isnotG, isGV true⟩
theorem blt_ok {f : Blt} {l : Expr} {ls : List Expr} {p pos : Pos} {fs : Env → Out (List D)} (ok : CxOk c g k E X) (hg : glB c.sc (Str.ofString (bltS f)) = true) (hs : PA X (l :: ls) (tPA X.K X.mg E fs)) (hp : plainEs (l :: ls) = true) :
    PE X (.Call (.Name (Str.ofString (bltS f)) p) (l :: ls) [] pos) (tP X.K X.mg E fun r => (fs r).bind (bltD f)) := by
  have hgl := ok.gl hg
  cases f with
  | len => exact peBlt call_len lenV hgl (ok.glob.bl _ (by decide)) (by decide +kernel) (by decide) (by decide) hs hp
  | all => exact peBlt (cr_all ok.calm) allV hgl (ok.glob.bl _ (by decide)) (by decide +kernel) (by decide) (by decide) hs hp
  | any => exact peBlt (cr_any ok.calm) anyV hgl (ok.glob.bl _ (by decide)) (by decide +kernel) (by decide) (by decide) hs hp
  | max => exact peBlt (cr_maxG ok.calm) maxV hgl (ok.glob.bl _ (by decide)) (by decide +kernel) (by decide) (by decide) hs hp
  | min => exact peBlt (cr_minG ok.calm) minV hgl (ok.glob.bl _ (by decide)) (by decide +kernel) (by decide) (by decide) hs hp
  | sum => exact peBlt (cr_sum ok.calm) sumV hgl (ok.glob.bl _ (by decide)) (by decide +kernel) (by decide) (by decide) hs hp
  | list => exact peBty call_list_of listV hgl (ok.glob.bl _ (by decide)) (by decide +kernel) (by decide) (by decide) hs hp
  | sorted => exact peBlt (cr_srt ok.room.units) srtV hgl (ok.glob.bl _ (by decide)) (by decide +kernel) (by decide) (by decide) hs hp
  | tuple => exact peBty call_tuple_of tupV hgl (ok.glob.bl _ (by decide)) (by decide +kernel) (by decide) (by decide) hs hp

theorem comp_ok {elt : Expr} {own : List Nat} {tg : Tg} {lt li : Expr} {ifs : List Expr} {scope : Scope} {pos : Pos} {fI : Env → Out (List D)} {fC : Env → Out Bool} {fE : Env → Out D} (ok : CxOk c g k E X) (hi : PI X lt li (tPI X.K X.mg E fI)) (hp : plainE li = true)
    (hb : blkC c.N c.sc scope (ownP c.N own) = true) (ht : mTg c.N (okB scope (relS scope c.sc)) tg lt = true) (hsub : (tgIs tg).all (own.contains ·) = true)
    (hc : ∀ (s : Shared) (H : Hp) (C : Addr) (cl : List (Str × Addr)) (fp : List Addr), PTs (X.blk s H scope (compEnvC scope cl C X.env) fp) ifs (tG X.K X.mg E0 eqR fC))
    (he : ∀ (s : Shared) (H : Hp) (C : Addr) (cl : List (Str × Addr)) (fp : List Addr), PE (X.blk s H scope (compEnvC scope cl C X.env) fp) elt (tP X.K X.mg E0 fE)) :
    PE X (.ListComp elt [⟨lt, li, ifs, 0⟩] scope pos) (tP X.K X.mg E (compF own tg fI fC fE)) := by
  have hN : X.N.Nodup := by rw [ok.N]; exact ok.nd
  have bo : BlkOk X.N X.env.scope scope (ownP c.N own) := by rw [ok.N, ok.sc]; exact blkOk_by hb
  have h := pe_lc (own := ownP c.N own) (g := tgOf X.K tg) (pos := pos) ok.calm hN hi bo (fun s H C cl fp => pgTg (X := X.blk s H scope (compEnvC scope cl C X.env) fp) (ok := okB scope (relS scope c.sc)) hN ok.calm (fun x q => okB_of ok x q) (by show mTg X.N _ tg lt = true; rw [ok.N]; exact ht)) hc he (set_plainE hp)
  rw [ownP_snd] at h
  exact PE.imp h fun σ H Q q => lcStep (all_sub hsub) q
theorem comp2_ok {elt : Expr} {own own2 : List Nat} {tg tg2 : Tg} {lt li lt2 li2 : Expr} {ifs ifs2 : List Expr} {scope : Scope} {pos : Pos} {fI fI2 : Env → Out (List D)} {fC fC2 : Env → Out Bool} {fE : Env → Out D} (ok : CxOk c g k E X) (hi : PI X lt li (tPI X.K X.mg E fI)) (hp : plainE li = true) (hp2 : plainE li2 = true)
    (hb : blkC c.N c.sc scope (ownP c.N own) = true) (ht : mTg c.N (okB scope (relS scope c.sc)) tg lt = true) (hsub : (tgIs tg).all (own.contains ·) = true) (ht2 : mTg c.N (okB scope (relS scope c.sc)) tg2 lt2 = true) (hsub2 : (tgIs tg2).all (own2.contains ·) = true) (hsub3 : own2.all (own.contains ·) = true)
    (hc : ∀ (s : Shared) (H : Hp) (C : Addr) (cl : List (Str × Addr)) (fp : List Addr), PTs (X.blk s H scope (compEnvC scope cl C X.env) fp) ifs (tG X.K X.mg E0 eqR fC))
    (hi2 : ∀ (s : Shared) (H : Hp) (C : Addr) (cl : List (Str × Addr)) (fp : List Addr), PI (X.blk s H scope (compEnvC scope cl C X.env) fp) lt2 li2 (tPI X.K X.mg E0 fI2))
    (hc2 : ∀ (s : Shared) (H : Hp) (C : Addr) (cl : List (Str × Addr)) (fp : List Addr), PTs (X.blk s H scope (compEnvC scope cl C X.env) fp) ifs2 (tG X.K X.mg E0 eqR fC2))
    (he : ∀ (s : Shared) (H : Hp) (C : Addr) (cl : List (Str × Addr)) (fp : List Addr), PE (X.blk s H scope (compEnvC scope cl C X.env) fp) elt (tP X.K X.mg E0 fE)) :
    PE X (.ListComp elt [⟨lt, li, ifs, 0⟩, ⟨lt2, li2, ifs2, 0⟩] scope pos) (tP X.K X.mg E (compF2 own tg fI fC own2 tg2 fI2 fC2 fE)) := by
  have hN : X.N.Nodup := by rw [ok.N]; exact ok.nd
  have bo : BlkOk X.N X.env.scope scope (ownP c.N own) := by rw [ok.N, ok.sc]; exact blkOk_by hb
  have h := pe_lc2 (own := ownP c.N own) (vs1 := own2) (g := tgOf X.K tg) (g1 := tgOf X.K tg2) (pos := pos) ok.calm hN hi bo (by rw [ownP_snd]; exact all_sub hsub3) (fun s H C cl fp => pgTg (X := X.blk s H scope (compEnvC scope cl C X.env) fp) (ok := okB scope (relS scope c.sc)) hN ok.calm (fun x q => okB_of ok x q) (by show mTg X.N _ tg lt = true; rw [ok.N]; exact ht)) hc hi2
    (fun s H C cl fp => pgTg (X := X.blk s H scope (compEnvC scope cl C X.env) fp) (ok := okB scope (relS scope c.sc)) hN ok.calm (fun x q => okB_of ok x q) (by show mTg X.N _ tg2 lt2 = true; rw [ok.N]; exact ht2)) hc2 he (set_plainE hp) (fun env x => set_plainE hp2 x)
  rw [ownP_snd] at h
  exact PE.imp h fun σ H Q q => lcStep2 (all_sub hsub) (all_sub hsub2) q
/-- l.index(y) -/
theorem findIdx_first {α : Type} {p : α → Bool} : ∀ {l : List α} {j : Nat}, l.findIdx? p = some j → ∃ z, l[j]? = some z ∧ p z = true ∧ ∀ (m : Nat) (z' : α), m < j → l[m]? = some z' → p z' = false
  | [], j, h => by simp at h
  | x :: l, j, h => by
    rw [List.findIdx?_cons] at h
    by_cases c : p x = true
    · rw [if_pos c] at h
      cases h
      exact ⟨x, rfl, c, fun m z' hm => by omega⟩
    · rw [if_neg c] at h
      cases q : l.findIdx? p with
      | none => rw [q] at h; cases h
      | some i =>
        rw [q] at h
        have e : i + 1 = j := by simpa using h
        subst e
        obtain ⟨z, h1, h2, h3⟩ := findIdx_first q
        refine ⟨z, by simpa using h1, h2, fun m z' hm hz => ?_⟩
        cases m with
        | zero =>
          simp at hz
          subst hz
          simpa using c
        | succ m => exact h3 m z' (by omega) (by simpa using hz)
theorem few_pl {l : Expr} {cp : Pos} {env : PySem.Env} (h : plainE l = true) : ((backTo cp (starEach [l] env)).all (fun x => !x.1) && (backToKw cp (keywordEach [] env)).all (fun x => x.1.isSome)
      && decide ([l].length + ([] : List Keyword).length + (if ([] : List Keyword).isEmpty then 0 else 1) < 30)) = true := by
  rw [star_plain h]
  rfl
theorem peIdx {l r : Expr} {ap cp : Pos} {fa fb : Env → Out D} (hr : Room k X.A) (ha : PE X l (tP X.K X.mg E fa)) (hb : PE X r (tP X.K X.mg E fb)) (hbase : baseE l = true) (hp : plainE r = true) (hl : (ap.endLine == cp.line) = true) :
    PE X (.Call (.Attribute l (Str.ofString "index") ap) [r] [] cp) (tP X.K X.mg E fun rr => (fa rr).bind fun x => (lsD x).bind fun ds => (fb rr).bind fun y => idxD ds y) := by
  have hu1 : X.A.units + 65 < cLine := by
    have := hr.un
    omega
  refine PE.imp (pe_bm PySem.F.plainAttrs_list PySem.F.slot_list_index PySem.F.type_list_index (mt_indexD hu1) ha (pa_cons hb pa_nil (star_plain hp)) (base_of hbase) (few_pl hp) hl (star_plain hp) rfl) fun σ H Q ⟨r, F, e, d, h⟩ => ?_
  refine ⟨r, F, e, d, h.bind e fun a x H1 ea s1 dx g1 g2 h1 => ?_⟩
  cases a with
  | list ds =>
    have h1 : Res X.mg E (grow F H H1) H1 (Dq X.K) ((fb r).bind fun y => idxD ds y) Q := h1
    cases dx with
    | lst hrd hall =>
      refine ⟨.inl ⟨rfl, _, .inl (rd_mono g2 hrd)⟩, ?_⟩
      refine ⟨r, grow F H H1, g2, d.mono g1, h1.bind g2 fun b y H2 eb s2 dy g3 g4 h2 => ?_⟩
      unfold idxD at h2
      by_cases c : (SeqAt.shaped (.list ds) && SeqAt.shaped b) = true
      · rw [if_pos c] at h2
        rw [Bool.and_eq_true] at c
        cases q : ds.findIdx? (fun z => PyData.eqv z b) with
        | none => rw [q] at h2; exact False.elim h2
        | some j =>
          rw [q] at h2
          obtain ⟨z, hz1, hz2, hz3⟩ := findIdx_first q
          exact ⟨_, y, b, ds, j, z, rfl, rfl, dp_mono g4 _ _ (Dq.dp _ _ (.lst (rd_mono g3 hrd) (DqAll.mono g3 _ _ hall))), dp_mono g4 _ _ (Dq.dp _ _ dy), c.1, c.2, hz1, hz2, hz3, h2.here g4 (.int _)⟩
      · rw [if_neg c] at h2; exact False.elim h2
  | _ => exact False.elim h1
/-! ### methods of texts -/
theorem mt_index1 : MtR X "str.index" (fun x xs H Q => ∃ (a b : Str) (i : Nat) (rest : List Nat), x = .str a ∧ xs = [.str b] ∧ Builtin.Str.occurrences a b 0 a.length 1 = i :: rest ∧ Q (.int (i : Nat)) H) := by
  intro pins s σ H x xs v us Q I rx rs h
  obtain ⟨a, b, i, rest, rfl, rfl, hk, q⟩ := h
  obtain ⟨t, rfl⟩ := rx
  cases rs with
  | cons r1 rs =>
    cases rs
    obtain ⟨u, rfl⟩ := r1
    exact call_gives PySem.F.slot_str_index (typeIs_str _ _ _) PySem.F.entry_str_index (PySem.F.args_str_index_2 _ _) (gives_str_index a b t u i rest hk) ⟨.int (i : Nat), H, I.tok _, ⟨_, rfl⟩, q⟩
theorem DqAll.strs {K : Frag} {H : Hp} : ∀ {vs : List V} {ds : List D} {ns : List Str}, DqAll K H vs ds → asStrs ds = some ns → vs = ns.map V.str
  | _, [], ns, .nil, h => by cases h; rfl
  | _, .str i :: r, ns, .cons hd tl, h => by
    have h : (asStrs r).map (i :: ·) = some ns := h
    cases q : asStrs r with
    | none => rw [q] at h; cases h
    | some ms =>
      rw [q] at h
      cases h
      cases hd
      rw [DqAll.strs tl q]
      rfl
  | _, .none :: _, _, _, h => by cases h
  | _, .bool _ :: _, _, _, h => by cases h
  | _, .int _ :: _, _, _, h => by cases h
  | _, .list _ :: _, _, _, h => by cases h
  | _, .tuple _ :: _, _, _, h => by cases h
  | _, .dict _ :: _, _, _, h => by cases h
theorem dq_strs {K : Frag} {H : Hp} : ∀ l : List Str, DqAll K H (l.map V.str) (l.map PyData.str)
  | [] => .nil
  | i :: l => .cons (.str _) (dq_strs l)
theorem strOfStep {α β : Type} {a : D} {F H : Hp} {x : V} {rel : Hp → β → α → Prop} {f : Str → Out α} {Q : β → Hp → Prop} (dx : Dq X.K F x a) (h : Res X.mg E F H rel ((strOf a).bind f) Q) : ∃ z, x = .str z ∧ Res X.mg E F H rel (f z) Q := by
  cases dx with
  | str z => exact ⟨z, rfl, h⟩
  | _ => exact False.elim h
theorem peMth {m : Mth} {l r : Expr} {ap cp : Pos} {fa fb : Env → Out D} (ha : PE X l (tP X.K X.mg E fa)) (hb : PE X r (tP X.K X.mg E fb)) (hbase : baseE l = true) (hp : plainE r = true) (hl : (ap.endLine == cp.line) = true) :
    PE X (.Call (.Attribute l (Str.ofString (mthS m)) ap) [r] [] cp) (tP X.K X.mg E fun rr => (fa rr).bind fun x => (strOf x).bind fun s => (fb rr).bind fun y => mthD m s y) := by
  cases m with
  | join =>
    refine PE.imp (pe_join ha hb (star_plain hp) (base_of hbase) hl) fun σ H Q ⟨r, F, e, d, h⟩ => ?_
    refine ⟨r, F, e, d, h.bind e fun a x H1 _ s1 dx g1 g2 h1 => ?_⟩
    obtain ⟨z, rfl, h1⟩ := strOfStep dx h1
    refine ⟨⟨z, rfl⟩, r, _, g2, d.mono g1, h1.bind g2 fun b y H2 _ s2 dy g3 g4 h2 => ?_⟩
    cases dy with
    | @lst p xs ds sy ay =>
      have h2 : Res X.mg E (grow (grow F H H1) H1 H2) H2 (Dq X.K) (match asStrs ds with
        | some ys => if (ys.map (·.length)).sum + ys.length * z.length ≤ LIM then .ok (.str (Txt.join z ys)) else .bad
        | none => .bad) Q := h2
      cases q : asStrs ds with
      | none => rw [q] at h2; exact False.elim h2
      | some ys =>
        rw [q] at h2
        simp only at h2
        by_cases c : (ys.map (·.length)).sum + ys.length * z.length ≤ LIM
        · rw [if_pos c] at h2
          have e1 := DqAll.strs ay q
          subst e1
          exact ⟨z, p, ys, rfl, rfl, .inl (.inl (rd_mono g4 sy)), Nat.le_trans c (by decide), h2.here g4 (.str _)⟩
        · rw [if_neg c] at h2; exact False.elim h2
    | _ => exact False.elim h2
  | split =>
    refine PE.imp (pe_split ha hb (star_plain hp) (base_of hbase) hl) fun σ H Q ⟨r, F, e, d, h⟩ => ?_
    refine ⟨r, F, e, d, h.bind e fun a x H1 _ s1 dx g1 g2 h1 => ?_⟩
    obtain ⟨z, rfl, h1⟩ := strOfStep dx h1
    refine ⟨⟨z, rfl⟩, r, _, g2, d.mono g1, h1.bind g2 fun b y H2 _ s2 dy g3 g4 h2 => ?_⟩
    cases dy with
    | str b =>
      have h2 : Res X.mg E (grow (grow F H H1) H1 H2) H2 (Dq X.K) (if b.length ≠ 0 ∧ z.length ≤ LIM then .ok (.list ((Txt.split z b).map .str)) else .bad) Q := h2
      by_cases c : b.length ≠ 0 ∧ z.length ≤ LIM
      · rw [if_pos c] at h2
        refine ⟨z, b, rfl, rfl, by simpa using c.1, ?_, fun p hp => h2.lst g4 (dq_strs _) p hp⟩
        rw [sizeLine_eq]
        have := c.2
        simp only [LIM] at this
        omega
      · rw [if_neg c] at h2; exact False.elim h2
    | _ => exact False.elim h2
  | index =>
    refine PE.imp (pe_m1 PySem.F.slot_str_index PySem.F.type_str_index mt_index1 ha hb (star_plain hp) (base_of hbase) hl) fun σ H Q ⟨r, F, e, d, h⟩ => ?_
    refine ⟨r, F, e, d, h.bind e fun a x H1 _ s1 dx g1 g2 h1 => ?_⟩
    obtain ⟨z, rfl, h1⟩ := strOfStep dx h1
    refine ⟨⟨z, rfl⟩, r, _, g2, d.mono g1, h1.bind g2 fun b y H2 _ s2 dy g3 g4 h2 => ?_⟩
    cases dy with
    | str b =>
      have h2 : Res X.mg E (grow (grow F H H1) H1 H2) H2 (Dq X.K) (match Builtin.Str.occurrences z b 0 z.length 1 with
        | i :: _ => .ok (.int (i : Nat))
        | [] => .bad) Q := h2
      cases q : Builtin.Str.occurrences z b 0 z.length 1 with
      | nil => rw [q] at h2; exact False.elim h2
      | cons i rest =>
        rw [q] at h2
        exact ⟨z, b, i, rest, rfl, rfl, q, Res.here g4 h2 (.int _)⟩
    | _ => exact False.elim h2
/-! ### list(range(a, b)) -/
theorem rangeD_map : ∀ (n : Nat) (lo : Int), rangeD lo n = (List.range n).map fun i => PyData.int (lo + (i : Nat))
  | 0, _ => rfl
  | n + 1, lo => by
    rw [rangeD, rangeD_map n, List.range_succ_eq_map, List.map_cons, List.map_map]
    congr 1
    · simp
    · apply List.map_congr_left
      intro i _
      show PyData.int (lo + 1 + (i : Nat)) = PyData.int (lo + ((i + 1 : Nat) : Int))
      congr 1; omega
theorem dq_ints {K : Frag} {H : Hp} (f : Nat → Int) : ∀ l : List Nat, DqAll K H (l.map fun i => V.int (f i)) (l.map fun i => PyData.int (f i))
  | [] => .nil
  | i :: l => .cons (.int _) (dq_ints f l)
theorem peLrg {l r : Expr} {p1 p2 pos pos2 : Pos} {fa fb : Env → Out D} (hc : X.calm = true) (hg : Gl X "list") (hm : X.mg "list" = none) (hg2 : Gl X "range") (hm2 : X.mg "range" = none) (ha : PE X l (tP X.K X.mg E fa)) (hb : PE X r (tP X.K X.mg E fb)) (hl : plainE l = true) (hr : plainE r = true) :
    PE X (.Call (.Name "list" p1) [.Call (.Name "range" p2) [l, r] [] pos2] [] pos) (tP X.K X.mg E fun rr => (fa rr).bind fun x => (fb rr).bind fun y => (intOf x).bind fun i => (intOf y).bind fun j => (rngOf i j).bind fun ds => .ok (.list ds)) := by
  refine PE.imp (pe_listRg hc hg hm (prg_2 hg2 hm2 ha hb (star_plain hl) (star_plain hr) (by rw [star_plain hr]; rfl)) rfl) fun σ H Q ⟨r, F, e, d, h⟩ => ?_
  refine ⟨r, F, e, d, h.bind e fun a x H1 ea s1 dx g1 g2 h1 => ?_⟩
  refine ⟨r, grow F H H1, g2, d.mono g1, h1.bind g2 fun b y H2 eb s2 dy g3 g4 h2 => ?_⟩
  cases a with
  | int i =>
    cases b with
    | int j =>
      cases dx
      cases dy
      have h2 : Res X.mg E (grow (grow F H H1) H1 H2) H2 (Dq X.K) ((rngOf i j).bind fun ds => .ok (.list ds)) Q := h2
      unfold rngOf at h2
      by_cases c : j - i ≤ LIM ∧ -(2 ^ 60) ≤ i ∧ i ≤ 2 ^ 60 ∧ -(2 ^ 60) ≤ j ∧ j ≤ 2 ^ 60
      · rw [if_pos c] at h2
        have h2 : Res X.mg E (grow (grow F H H1) H1 H2) H2 (Dq X.K) (.ok (.list (rangeD i (j - i).toNat))) Q := h2
        obtain ⟨c1, c2, c3, c4, c5⟩ := c
        refine ⟨i, j, rfl, rfl, ⟨by omega, by omega, by omega, by omega, ?_⟩, fun q hq => ?_⟩
        · have : ((j - i).toNat : Int) ≤ 1000000 := by
            have : j - i ≤ (1000000 : Nat) := c1
            omega
          omega
        · have hd : DqAll X.K (grow (grow F H H1) H1 H2) (rgV i j) (rangeD i (j - i).toNat) := by
            rw [rangeD_map]
            exact dq_ints (fun k => i + (k : Nat)) _
          exact h2.lst g4 hd q hq
      · rw [if_neg c] at h2; exact False.elim h2
    | _ => exact False.elim h2
  | _ => cases b <;> exact False.elim h2
/-! ### [f1, f2, ..][i](a, ..) -/
theorem pa_fns {n : Nat} (ok : CxOk c g k E X) : ∀ {js : List Nat} {fs : List Expr}, mFns c js fs n = true → ∃ as : List Addr, PA X fs (fun σ H Q => Q (as.map V.ref) H) ∧ plainEs fs = true ∧ fs.length = js.length ∧ as.length = js.length ∧
    ∀ (m j : Nat), js[m]? = some j → ∃ (f : Addr) (fd : FuncData) (ps : List Str), as[m]? = some f ∧ FnOk X.prog X.w X.K X.mg X.base (L2.CX X.prog X.w) k f fd ps (spD X.K X.mg n (g.fn j)) ∧ PySem.W.keepIn X.K (.ref f) = true ∧ Binds X.K fd ps []
  | [], [], _ => ⟨[], PA.imp pa_nil fun σ H Q h => h, rfl, rfl, rfl, fun m j h => by simp at h⟩
  | [], _ :: _, h => by cases h
  | _ :: _, [], h => by cases h
  | j :: js, e :: fs, h => by
    cases e with
    | Name x p =>
      have h : (decide (c.fns[j]? = some (x, n)) && glB c.sc x && nmB x && mFns c js fs n) = true := h
      obtain ⟨h, h4⟩ := and2 h
      obtain ⟨h1, h2, h3⟩ := and3 h
      obtain ⟨f, fd, ps, G, hm, hk, hb⟩ := ok.glob.fn j x n (of_decide_eq_true h1)
      obtain ⟨as, a1, a2, a3, a4, a5⟩ := pa_fns ok h4
      obtain ⟨n1, _, _⟩ := nm_of h3
      refine ⟨f :: as, PA.imp (pa_cons (pe_glob (v := .ref f) (ok.gl h2) hm rfl n1) a1 rfl) fun σ H Q h => h, a2, by simp [a3], by simp [a4], fun m i hi => ?_⟩
      cases m with
      | zero =>
        simp at hi
        subst hi
        exact ⟨f, fd, ps, rfl, G, hk, hb⟩
      | succ m => exact a5 m i (by simpa using hi)
    | _ => cases h
theorem atI_get {α : Type} {xs : List α} {i : Int} {x : α} (h : L2.atI xs i = some x) : ∃ m : Nat, xs[m]? = some x ∧ ∀ {β : Type} {ys : List β} {y : β}, ys.length = xs.length → ys[m]? = some y → L2.atI ys i = some y := by
  unfold L2.atI at h
  cases q : L2.ixN xs.length i with
  | none => rw [q] at h; cases h
  | some m =>
    rw [q] at h
    refine ⟨m, h, fun {β ys y} hl hy => ?_⟩
    unfold L2.atI
    rw [hl, q]
    exact hy
theorem pePick {fs : List Expr} {i l : Expr} {ls : List Expr} {lp sp pos : Pos} {js : List Nat} {fa : Env → Out D} {fes : Env → Out (List D)} (ok : CxOk c g k E X) (hf : mFns c js fs (l :: ls).length = true) (ha : PE X i (tP X.K X.mg E fa)) (hi : plainE i = true)
    (hs : PA X (l :: ls) (tPA X.K X.mg E fes)) (hn : ∀ r ds, fes r = .ok ds → ds.length = (l :: ls).length) (hp : plainEs (l :: ls) = true) (hfl : fs.length ≤ 1000) :
    PE X (.Call (.Subscript (.List fs lp) i sp) (l :: ls) [] pos) (tP X.K X.mg E fun r => (fa r).bind fun x => (pickD js x).bind fun j => (fes r).bind (g.fn j)) := by
  obtain ⟨as, a1, a2, a3, a4, a5⟩ := pa_fns ok hf
  have px : Passes (L2.CX X.prog X.w) X E := passes_call ok.tk fun _ _ _ _ h => h
  have hp' := hp
  unfold plainEs at hp'
  rw [Bool.and_eq_true] at hp'
  have hsub := pe_ix (pos := sp) ix_list (pe_lst (pos := lp) a1) ha (ix_plain hi)
  refine ⟨fun pins s σ H Q I h => ?_⟩
  obtain ⟨r, F, e, d, h⟩ := h
  -- what the subscript asks
  have hq : tOp (rIxL X.K) (tLst fun σ H Q => Q (as.map V.ref) H) (tP X.K X.mg E fa) σ H (fun y H1 => ∃ f fd ps m, y = .ref f ∧ FnOk X.prog X.w X.K X.mg X.base (L2.CX X.prog X.w) k f fd ps (spD X.K X.mg (l :: ls).length m) ∧ PySem.W.keepIn X.K (.ref f) = true ∧ Binds X.K fd ps [] ∧
      ∃ F1, Same F1 H1 ∧ DenE X.K F1 σ r ∧ Res X.mg E F1 H1 (Dq X.K) ((fes r).bind m) Q) := by
    refine ⟨lim_size (by rw [List.length_map, a4, ← a3]; show fs.length ≤ 1000000; omega), fun q hq => ?_⟩
    have sq := same_upd (o := .lst (as.map V.ref)) hq
    have h' := Res.to e sq h
    refine ⟨r, _, grow_same2 e sq, d.mono (grow_same1 e), h'.bind (grow_same2 e sq) fun a x H1 ea s1 dx g1 g2 h1 => ?_⟩
    cases a with
    | int i =>
      cases dx
      cases w : L2.atI js i with
      | none =>
        have : pickD js (.int i) = .bad := by
          show (match L2.atI js i with
            | some j => Out.ok j
            | none => .bad) = _
          rw [w]
        rw [this] at h1
        exact False.elim h1
      | some j =>
        have hpk : pickD js (.int i) = .ok j := by
          show (match L2.atI js i with
            | some j => Out.ok j
            | none => .bad) = _
          rw [w]
        rw [hpk] at h1
        obtain ⟨m, hm1, hm2⟩ := atI_get w
        obtain ⟨f, fd, ps, hf1, G, hk, hb⟩ := a5 m j hm1
        exact ⟨q, as.map V.ref, i, .ref f, rfl, rfl, .inl (.inl (s1 _ _ upd_same)), hm2 (by rw [List.length_map, a4]) (by rw [List.getElem?_map, hf1]; rfl), f, fd, ps, g.fn j, rfl, G, hk, hb, _, g2, (d.mono (grow_same1 e)).mono g1, h1⟩
    | _ => exact False.elim h1
  refine Call_ (thn (hsub.run pins s σ H _ I hq) fun u s1 ⟨y, H1, I1, ry, f, fd, ps, m, ey, G, hk, hb, F1, e1, d1, h1⟩ => ?_) rfl
  subst ey
  obtain rfl : u = Value.ref f := ry
  refine PySem.W.callWith_K (h₀ := X.base) I.ok.mod.kin hk (thn (hs.run pos pins s1 σ H1 (fun vs H2 => spD X.K X.mg (l :: ls).length m vs H2 Q E) I1 ⟨r, F1, e1, d1, h1.bind e1 fun ds vs H2 ea _ dv g1 g2 h2 => ⟨by rw [dv.length]; exact hn r ds ea, _, ds, g2, dv, h2⟩⟩) fun us s2 ⟨vs, H2, I2, rr, q⟩ => ⟨I2.kIn, ?_⟩) (star_plain hp'.1) (stars_plain hp'.2)
  exact run_fn G ok.room hb .nil px I2 rr (by rw [List.append_nil]; exact q)
end
variable {g : Sg}
set_option maxHeartbeats 4000000 in
mutual
theorem sE : ∀ (p : BB.E) (e : Expr) (c : Ctx) (k : Nat) (E : XK) (X : Cx), CxOk c g k E X → mE p c e = true → Ok2 X E e (evE g p)
  | .var i, e, c, k, E, X, ok, h => by
    cases e with
    | Name x pos =>
      obtain ⟨h1, h2, h3⟩ := and3 h
      obtain ⟨n1, n2, n3⟩ := nm_of h3
      exact Ok2.val (peVar (by rw [ok.N]; exact of_decide_eq_true h1) (by rw [ok.sc]; exact vis_of h2) n1 n2) fun _ => rfl
    | _ => cases h
  | .fld i f, e, c, k, E, X, ok, h => by
    match e, h with
    | .Attribute (.Name x p) nm pos, h =>
      obtain ⟨h, h4⟩ := and2 h
      obtain ⟨h1, h2, h3⟩ := and3 h
      obtain ⟨n1, n2, n3⟩ := nm_of h3
      cases (of_decide_eq_true h4 : nm = f)
      exact Ok2.val (peFld (by rw [ok.N]; exact of_decide_eq_true h1) (by rw [ok.sc]; exact vis_of h2) n1 n2 rfl) fun _ => rfl
  | .glob j, e, c, k, E, X, ok, h => by
    cases e with
    | Name x pos =>
      obtain ⟨h1, h2, h3⟩ := and3 h
      obtain ⟨n1, n2, n3⟩ := nm_of h3
      obtain ⟨u, v, q1, q2, q3⟩ := ok.glob.gl j x (of_decide_eq_true h1)
      exact Ok2.val (peGlob (ok.gl h2) q1 q2 n1 q3) fun _ => rfl
    | _ => cases h
  | .int i, e, c, k, E, X, ok, h => by
    cases e with
    | Constant v j pos =>
      cases v with
      | int n =>
        cases (of_decide_eq_true h : i = n)
        exact Ok2.val peInt fun _ => rfl
      | _ => cases h
    | _ => cases h
  | .str s, e, c, k, E, X, ok, h => by
    cases e with
    | Constant v j pos =>
      cases v with
      | str n =>
        cases (of_decide_eq_true h : s = n)
        exact Ok2.val peStr fun _ => rfl
      | _ => cases h
    | _ => cases h
  | .bl b, e, c, k, E, X, ok, h => by
    cases e with
    | Constant v j pos =>
      cases v with
      | bool n =>
        cases (of_decide_eq_true h : b = n)
        exact Ok2.val peBl fun _ => rfl
      | _ => cases h
    | _ => cases h
  | .non, e, c, k, E, X, ok, h => by
    cases e with
    | Constant v j pos =>
      cases v with
      | none => exact Ok2.val peNon fun _ => rfl
      | _ => cases h
    | _ => cases h
  | .tup es, e, c, k, E, X, ok, h => by
    cases e with
    | Tuple ls n pos =>
      obtain ⟨h1, h2⟩ := and2 h
      obtain ⟨l1, l2⟩ := mEs_len h1
      exact Ok2.val (peTup (n := 0) (sEs es ls c k E X ok h1).1 fun r ds q => by rw [evEs_len q, l1]; exact of_decide_eq_true h2) fun _ => rfl
    | _ => cases h
  | .lst es, e, c, k, E, X, ok, h => by
    cases e with
    | List ls pos =>
      obtain ⟨h1, h2⟩ := and2 h
      obtain ⟨l1, l2⟩ := mEs_len h1
      exact Ok2.val (peLst (n := 0) (sEs es ls c k E X ok h1).1 fun r ds q => by rw [evEs_len q, l1]; exact of_decide_eq_true h2) fun _ => rfl
    | _ => cases h
  | .bin op a b, e, c, k, E, X, ok, h => by
    cases e with
    | BinOp l o r pos =>
      obtain ⟨h1, h2, h3⟩ := and3 h
      exact Ok2.bin h1 (sE a l c k E X ok h2).1 (sE b r c k E X ok h3).1
    | _ => cases h
  | .neg a, e, c, k, E, X, ok, h => by
    cases e with
    | UnaryOp o l pos =>
      cases o with
      | USub => exact Ok2.val (peNeg (sE a l c k E X ok h).1) fun _ => rfl
      | _ => cases h
    | _ => cases h
  | .not a, e, c, k, E, X, ok, h => by
    cases e with
    | UnaryOp o l pos =>
      cases o with
      | Not => exact ⟨peNot (sE a l c k E X ok h).1, ptNot (sE a l c k E X ok h).2⟩
      | _ => cases h
    | _ => cases h
  | .bop isAnd a es, e, c, k, E, X, ok, h => by
    cases e with
    | BoolOp o vs pos =>
      cases vs with
      | nil => cases h
      | cons l ls =>
        obtain ⟨h1, h2, h3⟩ := and3 h
        obtain ⟨q1, q2⟩ := sE a l c k E X ok h2
        obtain ⟨p1, p2⟩ := (sEs es ls c k E X ok h3).2 isAnd o pos l (evE g a) h1 q1 q2
        exact ⟨p1, p2.pt⟩
    | _ => cases h
  | .cmp op a b, e, c, k, E, X, ok, h => by
    cases e with
    | Compare l os rs pos =>
      match os, rs, h with
      | [o], [r], h =>
        obtain ⟨h0, h4⟩ := and2 h
        obtain ⟨h1, h2, h3⟩ := and3 h0
        obtain ⟨rr, q1, q2⟩ := cmp_ok (E := E) ok.room h1
        exact ⟨peCmp q1 q2 (sE a l c k E X ok h2).1 (sE b r c k E X ok h3).1 (marks_plain h4), ptCmp q1 q2 (sE a l c k E X ok h2).1 (sE b r c k E X ok h3).1 (marks_plain h4)⟩
    | _ => cases h
  | .chn op op' a b d, e, c, k, E, X, ok, h => by
    cases e with
    | Compare l os rs pos =>
      match os, rs, h with
      | [o, o'], [r, t], h =>
        obtain ⟨h0, h6⟩ := and2 h
        obtain ⟨h0, h4, h5⟩ := and3 h0
        obtain ⟨h1, h2, h3⟩ := and3 h0
        obtain ⟨rr, q1, q2⟩ := cmp_ok (E := E) ok.room h1
        obtain ⟨rr', q1', q2'⟩ := cmp_ok (E := E) ok.room h2
        have hm : lastMarks [o, o'] [r, t] = false := marks_plain (op := o') h6
        exact ⟨peChn q1 q1' q2 q2' (sE a l c k E X ok h3).1 (sE b r c k E X ok h4).1 (sE d t c k E X ok h5).1 hm, ptChn q1 q1' q2 q2' (sE a l c k E X ok h3).1 (sE b r c k E X ok h4).1 (sE d t c k E X ok h5).1 hm⟩
    | _ => cases h
  | .ite t a b, e, c, k, E, X, ok, h => by
    cases e with
    | IfExp u l r pos =>
      obtain ⟨h1, h2, h3⟩ := and3 h
      exact ⟨peIte (sE t u c k E X ok h1).2 (sE a l c k E X ok h2).1 (sE b r c k E X ok h3).1, ptIte (sE t u c k E X ok h1).2 (sE a l c k E X ok h2).2 (sE b r c k E X ok h3).2⟩
    | _ => cases h
  | .ix a b, e, c, k, E, X, ok, h => by
    cases e with
    | Subscript l r pos =>
      obtain ⟨h1, h2, h3⟩ := and3 h
      exact Ok2.val (peIx ix_seq ixV (sE a l c k E X ok h1).1 (sE b r c k E X ok h2).1 (ix_plain h3)) fun _ => rfl
    | _ => cases h
  | .sl a lo hi, e, c, k, E, X, ok, h => by
    cases e with
    | Subscript l r pos =>
      cases r with
      | Slice x y z p =>
        cases z with
        | some z => cases h
        | none =>
          obtain ⟨h1, h2, h3⟩ := and3 h
          exact Ok2.val (peSl (sE a l c k E X ok h1).1 (sO lo x c k E X ok h2) (sO hi y c k E X ok h3)) fun _ => rfl
      | _ => cases h
    | _ => cases h
  | .rev a, e, c, k, E, X, ok, h => by
    cases e with
    | Subscript l r pos =>
      match r, h with
      | .Slice none none (some (.UnaryOp .USub (.Constant (.int i) j p1) p2)) p3, h =>
        obtain ⟨h1, h2⟩ := and2 h
        cases (of_decide_eq_true h2 : i = 1)
        exact Ok2.val (peRev (sE a l c k E X ok h1).1) fun _ => rfl
    | _ => cases h
  | .call j es, e, c, k, E, X, ok, h => by
    cases e with
    | Call fe ls kws pos =>
      match fe, kws, h with
      | .Name x p, [], h =>
        obtain ⟨h0, h4⟩ := and2 h
        obtain ⟨h1, h2, h3⟩ := and3 h0
        obtain ⟨n1, n2, n3⟩ := nm_of h3
        obtain ⟨l1, l2⟩ := mEs_len h4
        obtain ⟨f, fd, ps, G, hm, hk, hb⟩ := ok.glob.fn j x ls.length (of_decide_eq_true h1)
        refine Ok2.val ?_ fun _ => rfl
        cases ls with
        | nil =>
          cases es with
          | nil => exact peCall0 G ok.room (ok.gl h2) hm hk hb ok.tk n1
          | cons _ _ => cases h4
        | cons l ls => exact peCall G ok.room (ok.gl h2) hm hk hb ok.tk (sEs es (l :: ls) c k E X ok h4).1 (fun r ds q => by rw [evEs_len q, l1]) n1 l2
    | _ => cases h
  | .blt f es, e, c, k, E, X, ok, h => by
    cases e with
    | Call fe ls kws pos =>
      match fe, ls, kws, h with
      | .Name x p, l :: ls, [], h =>
        obtain ⟨h1, h2, h3⟩ := and3 h
        obtain ⟨l1, l2⟩ := mEs_len h3
        cases (of_decide_eq_true h1 : x = Str.ofString (bltS f))
        exact Ok2.val (blt_ok ok h2 (sEs es (l :: ls) c k E X ok h3).1 l2) fun _ => rfl
    | _ => cases h
  | .isi a T, e, c, k, E, X, ok, h => by
    cases e with
    | Call fe ls kws pos =>
      match fe, ls, kws, h with
      | .Name x p, [l, .Name y p2], [], h =>
        obtain ⟨h0, h6, h7⟩ := and3 h
        obtain ⟨h0, h4, h5⟩ := and3 h0
        obtain ⟨h1, h2, h3⟩ := and3 h0
        cases (of_decide_eq_true h1 : x = Str.ofString "isinstance")
        cases (of_decide_eq_true h2 : y = Str.ofString T)
        have hT : Str.ofString T ∈ blts ∧ Str.ofString T ≠ "__name__" ∧ (Str.ofString T == ("__debug__" : Str)) = false := by
          have h3 := h3
          unfold isiT at h3
          simp only [Bool.or_eq_true, beq_iff_eq] at h3
          rcases h3 with (((rfl | rfl) | rfl) | rfl) | rfl <;> decide
        exact Ok2.val (peIsi (sE a l c k E X ok h6).1 h3 h7 (ok.gl h4) (ok.glob.bl _ (by decide)) (ok.gl h5) (ok.glob.bl _ hT.1) hT.2.1 hT.2.2) fun _ => rfl
    | _ => cases h
  | .lrg a b, e, c, k, E, X, ok, h => by
    match e, h with
    | .Call (.Name y p1) [.Call (.Name x p2) [l, r] [] pos2] [] pos, h =>
      obtain ⟨h, h8⟩ := and2 h
      obtain ⟨h, h7⟩ := and2 h
      obtain ⟨h, h6⟩ := and2 h
      obtain ⟨h, h5⟩ := and2 h
      obtain ⟨h, h4⟩ := and2 h
      obtain ⟨h1, h2, h3⟩ := and3 h
      cases (of_decide_eq_true h1 : y = Str.ofString "list")
      cases (of_decide_eq_true h3 : x = Str.ofString "range")
      exact Ok2.val (peLrg ok.calm (ok.gl h2) (ok.glob.bl _ (by decide)) (ok.gl h4) (ok.glob.bl _ (by decide)) (sE a l c k E X ok h5).1 (sE b r c k E X ok h6).1 h7 h8) fun _ => rfl
  | .srtL a, e, c, k, E, X, ok, h => by
    match e, h with
    | .Call (.Name x p1) [l] [⟨some kn, .Name y p2, kp⟩] pos, h =>
      obtain ⟨h, h7⟩ := and2 h
      obtain ⟨h, h6⟩ := and2 h
      obtain ⟨h, h5⟩ := and2 h
      obtain ⟨h, h4⟩ := and2 h
      obtain ⟨h1, h2, h3⟩ := and3 h
      cases (of_decide_eq_true h1 : x = Str.ofString "sorted")
      cases (of_decide_eq_true h3 : kn = Str.ofString "key")
      cases (of_decide_eq_true h4 : y = Str.ofString "len")
      exact Ok2.val (peKeyLen (ok.gl h2) (ok.glob.bl _ (by decide)) (by decide +kernel) (by decide) (by decide) (ok.gl h5) (ok.glob.bl _ (by decide)) (sE a l c k E X ok h6).1 h7 (srtL_run ok.room.units)) fun _ => rfl
  | .minL a, e, c, k, E, X, ok, h => by
    match e, h with
    | .Call (.Name x p1) [l] [⟨some kn, .Name y p2, kp⟩] pos, h =>
      obtain ⟨h, h7⟩ := and2 h
      obtain ⟨h, h6⟩ := and2 h
      obtain ⟨h, h5⟩ := and2 h
      obtain ⟨h, h4⟩ := and2 h
      obtain ⟨h1, h2, h3⟩ := and3 h
      cases (of_decide_eq_true h1 : x = Str.ofString "min")
      cases (of_decide_eq_true h3 : kn = Str.ofString "key")
      cases (of_decide_eq_true h4 : y = Str.ofString "len")
      exact Ok2.val (peKeyLen (ok.gl h2) (ok.glob.bl _ (by decide)) (by decide +kernel) (by decide) (by decide) (ok.gl h5) (ok.glob.bl _ (by decide)) (sE a l c k E X ok h6).1 h7 (minL_run ok.calm)) fun _ => rfl
  | .pick js a es, e, c, k, E, X, ok, h => by
    match e, h with
    | .Call (.Subscript (.List fs lp) i sp) (l :: ls) [] pos, h =>
      obtain ⟨h, h5⟩ := and2 h
      obtain ⟨h, h4⟩ := and2 h
      obtain ⟨h1, h2, h3⟩ := and3 h
      obtain ⟨l1, l2⟩ := mEs_len h5
      exact Ok2.val (pePick ok h1 (sE a i c k E X ok h2).1 h3 (sEs es (l :: ls) c k E X ok h5).1 (fun r ds q => by rw [evEs_len q, l1]) l2 (of_decide_eq_true h4)) fun _ => rfl
  | .idx a b, e, c, k, E, X, ok, h => by
    cases e with
    | Call fe ls kws pos =>
      match fe, ls, kws, h with
      | .Attribute l nm ap, [r], [], h =>
        obtain ⟨h, h6⟩ := and2 h
        obtain ⟨h, h5⟩ := and2 h
        obtain ⟨h, h4⟩ := and2 h
        obtain ⟨h1, h2, h3⟩ := and3 h
        cases (of_decide_eq_true h1 : nm = Str.ofString "index")
        exact Ok2.val (peIdx ok.room (sE a l c k E X ok h3).1 (sE b r c k E X ok h4).1 h2 h5 h6) fun _ => rfl
    | _ => cases h
  | .mth m a b, e, c, k, E, X, ok, h => by
    cases e with
    | Call fe ls kws pos =>
      match fe, ls, kws, h with
      | .Attribute l nm ap, [r], [], h =>
        obtain ⟨h, h6⟩ := and2 h
        obtain ⟨h, h5⟩ := and2 h
        obtain ⟨h, h4⟩ := and2 h
        obtain ⟨h1, h2, h3⟩ := and3 h
        cases (of_decide_eq_true h1 : nm = Str.ofString (mthS m))
        exact Ok2.val (peMth (sE a l c k E X ok h3).1 (sE b r c k E X ok h4).1 h2 h5 h6) fun _ => rfl
    | _ => cases h
  | .comp elt tg it cnd own, e, c, k, E, X, ok, h => by
    cases e with
    | ListComp le gs scope pos =>
      match gs, h with
      | [⟨lt, li, ifs, a⟩], h =>
        obtain ⟨h0, h7, h8⟩ := and3 h
        obtain ⟨h0, h5, h6⟩ := and3 h0
        obtain ⟨h0, h3, h4⟩ := and3 h0
        obtain ⟨h1, h2⟩ := and2 h0
        cases (of_decide_eq_true h1 : a = 0)
        exact Ok2.val (comp_ok ok (sI it li lt c k E X ok h3) h2 h4 h5 h8 (fun s H C cl fp => sIf cnd ifs _ k E0 _ ok.blk h6) fun s H C cl fp => (sE elt le _ k E0 _ ok.blk h7).1) fun _ => rfl
    | _ => cases h
  | .comp2 elt tg it cnd tg2 it2 cnd2 own own2, e, c, k, E, X, ok, h => by
    cases e with
    | ListComp le gs scope pos =>
      match gs, h with
      | [⟨lt, li, ifs, a⟩, ⟨lt2, li2, ifs2, a2⟩], h =>
        obtain ⟨h0, h14, h15⟩ := and3 h
        obtain ⟨h0, h12, h13⟩ := and3 h0
        obtain ⟨h0, h10, h11⟩ := and3 h0
        obtain ⟨h0, h8, h9⟩ := and3 h0
        obtain ⟨h0, h6, h7⟩ := and3 h0
        obtain ⟨h0, h4, h5⟩ := and3 h0
        obtain ⟨h1, h2, h3⟩ := and3 h0
        cases (of_decide_eq_true h1 : a = 0)
        cases (of_decide_eq_true h2 : a2 = 0)
        exact Ok2.val (comp2_ok ok (sI it li lt c k E X ok h5) h3 h4 h6 h7 h13 h10 h14 h15 (fun s H C cl fp => sIf cnd ifs _ k E0 _ ok.blk h8) (fun s H C cl fp => sI it2 li2 lt2 _ k E0 _ ok.blk h9) (fun s H C cl fp => sIf cnd2 ifs2 _ k E0 _ ok.blk h11) fun s H C cl fp => (sE elt le _ k E0 _ ok.blk h12).1) fun _ => rfl
    | _ => cases h
theorem sEs : ∀ (es : Es) (ls : List Expr) (c : Ctx) (k : Nat) (E : XK) (X : Cx), CxOk c g k E X → mEs es c ls = true → PA X ls (tPA X.K X.mg E (evEs g es)) ∧
    ∀ (isAnd : Bool) (op : BoolOp) (pos : Pos) (l : Expr) (f : Env → Out D), mAnd isAnd op = true → PE X l (tP X.K X.mg E f) → PT X l (tPT X.K X.mg E f) → PE X (.BoolOp op (l :: ls) pos) (tP X.K X.mg E (bopF g isAnd f es)) ∧ PW X (.BoolOp op (l :: ls) pos) (tPT X.K X.mg E (bopF g isAnd f es))
  | .nil, ls, c, k, E, X, ok, h => by
    cases ls with
    | cons _ _ => cases h
    | nil =>
      refine ⟨paNil, fun isAnd op pos l f hm h1 h2 => ?_⟩
      rw [bop_nil]
      refine ⟨pe_one h1, ?_⟩
      cases isAnd <;> cases op <;> first | (cases hm; done) | skip
      · exact pw_or1 h2
      · exact pw_and1 h2
  | .cons e es, ls, c, k, E, X, ok, h => by
    cases ls with
    | nil => cases h
    | cons l2 ls =>
      obtain ⟨h1, h2, h3⟩ := and3 h
      obtain ⟨q1, q2⟩ := sE e l2 c k E X ok h2
      obtain ⟨q3, q4⟩ := sEs es ls c k E X ok h3
      refine ⟨paCons q1 q3 (star_plain h1), fun isAnd op pos l f hm p1 p2 => ?_⟩
      obtain ⟨q5, q6⟩ := q4 isAnd op pos l2 (evE g e) hm q1 q2
      cases isAnd <;> cases op <;> first | (cases hm; done) | skip
      · exact ⟨peOr p1 q5, pwOr p2 q6⟩
      · exact ⟨peAnd p1 q5, pwAnd p2 q6⟩
theorem sO : ∀ (o : Eo) (x : Option Expr) (c : Ctx) (k : Nat) (E : XK) (X : Cx), CxOk c g k E X → mEo o c x = true → PO X x (tPO X.K X.mg E (evO g o))
  | .none, x, c, k, E, X, ok, h => by
    cases x with
    | none => exact poNone
    | some _ => cases h
  | .some e, x, c, k, E, X, ok, h => by
    cases x with
    | none => cases h
    | some l => exact poSome (sE e l c k E X ok h).1
theorem sIf : ∀ (o : Eo) (x : List Expr) (c : Ctx) (k : Nat) (E : XK) (X : Cx), CxOk c g k E X → mIf o c x = true → PTs X x (tG X.K X.mg E eqR (evC g o))
  | .none, x, c, k, E, X, ok, h => by
    cases x with
    | nil => exact ⟨fun pins s σ H Q I ⟨r, F, e, d, hw⟩ => (pts_nil (X := X)).run pins s σ H Q I (Res.here e hw rfl)⟩
    | cons _ _ => cases h
  | .some e, x, c, k, E, X, ok, h => by
    match x, h with
    | [l], h => exact pts_one (sE e l c k E X ok h).2
theorem sI : ∀ (it : BB.It) (e t : Expr) (c : Ctx) (k : Nat) (E : XK) (X : Cx), CxOk c g k E X → mI it c e t = true → PI X t e (tPI X.K X.mg E (evI g it))
  | .seq e, l, t, c, k, E, X, ok, h => piSeq (sE e l c k E X ok h).1
  | .rng1 a, e, t, c, k, E, X, ok, h => by
    cases e with
    | Call fe ls kws pos =>
      match fe, ls, kws, h with
      | .Name x p, [l], [], h =>
        obtain ⟨h0, h3, h4⟩ := and3 h
        obtain ⟨h1, h2⟩ := and2 h0
        cases (of_decide_eq_true h1 : x = Str.ofString "range")
        exact piRng1 (ok.gl h2) (ok.glob.bl _ (by decide)) (sE a l c k E X ok h3).1 h4
    | _ => cases h
  | .rng2 a b, e, t, c, k, E, X, ok, h => by
    cases e with
    | Call fe ls kws pos =>
      match fe, ls, kws, h with
      | .Name x p, [l, r], [], h =>
        obtain ⟨h0, h5, h6⟩ := and3 h
        obtain ⟨h0, h3, h4⟩ := and3 h0
        obtain ⟨h1, h2⟩ := and2 h0
        cases (of_decide_eq_true h1 : x = Str.ofString "range")
        exact piRng2 (ok.gl h2) (ok.glob.bl _ (by decide)) (sE a l c k E X ok h3).1 (sE b r c k E X ok h5).1 h4 h6
    | _ => cases h
  | .zip a b, e, t, c, k, E, X, ok, h => by
    match t, e, h with
    | .Tuple es kk tp, .Call (.Name x p) [l, r] [] pos, h =>
      obtain ⟨h0, h5, h6⟩ := and3 h
      obtain ⟨h0, h3, h4⟩ := and3 h0
      obtain ⟨h1, h2⟩ := and2 h0
      cases (of_decide_eq_true h1 : x = Str.ofString "zip")
      exact piZip (ok.gl h2) (ok.glob.bl _ (by decide)) (sE a l c k E X ok h3).1 (sE b r c k E X ok h5).1 h4 h6
  | .enum a, e, t, c, k, E, X, ok, h => by
    match t, e, h with
    | .Tuple es kk tp, .Call (.Name x p) [l] [] pos, h =>
      obtain ⟨h0, h3, h4⟩ := and3 h
      obtain ⟨h1, h2⟩ := and2 h0
      cases (of_decide_eq_true h1 : x = Str.ofString "enumerate")
      exact piEnum (ok.gl h2) (ok.glob.bl _ (by decide)) (sE a l c k E X ok h3).1 h4
end
end BB

/-! ## the pure layer 12: statements, their readings -/
namespace BB
open PySem PySem.Spec PyProof.Rows L2
/-- what is kept of a frame's lambdas: tables of code objects; R H f p: f is a lambda that reads p -/
structure Lx where
  T : List (Addr × Str)
  R : Hp → Addr → BB.E → Prop
  mono : ∀ {H H' : Hp} {f : Addr} {p : BB.E}, Same H H' → R H f p → R H' f p
inductive Lams (L : Lx) (F : Hp) : List Addr → List BB.E → Prop
  | nil : Lams L F [] []
  | cons {f : Addr} {fs : List Addr} {p : BB.E} {ps : List BB.E} : L.R F f p → Lams L F fs ps → Lams L F (f :: fs) (p :: ps)
theorem Lams.mono {L : Lx} {F F' : Hp} (s : Same F F') : ∀ {fs : List Addr} {ps : List BB.E}, Lams L F fs ps → Lams L F' fs ps
  | _, _, .nil => .nil
  | _, _, .cons h t => .cons (L.mono s h) (Lams.mono s t)
def Lx.no : Lx := ⟨[], fun _ _ _ => False, fun _ h => h⟩
theorem tab_at {T : List (Addr × Str)} {H : Hp} (t : LamX.Tabs T H) {p : Addr × Str} (h : p ∈ T) : ∃ ps, H p.1 = some (.tbl ps) := let ⟨ps, e, _⟩ := t p h; ⟨ps, e⟩
/-- a list is written: the tables stay -/
theorem tab_write {T : List (Addr × Str)} {H : Hp} (t : LamX.Tabs T H) {a : Addr} {xs ys : List V} (h : H a = some (.lst xs)) : LamX.Tabs T (upd H a (.lst ys)) := fun p hp => by
  obtain ⟨ps, h1, h2, h3⟩ := t p hp
  refine ⟨ps, by rw [upd_ne (fun z => by rw [z, h] at h1; cases h1)]; exact h1, h2, fun pos cv hc => ?_⟩
  obtain ⟨c, e1, e2⟩ := h3 pos cv hc
  exact ⟨c, e1, by rw [upd_ne (fun z => by rw [z, h] at e2; unfold LamX.CodeO at e2; cases e2)]; exact e2⟩
/-- the frame's state: F what is not owned (values are told by it), H the heap; F0, H0 at the def's entry -/
structure DenS (K : Frag) (L : Lx) (F0 H0 F H : Hp) (σ : SL) (r : Env) : Prop where
  len : r.length = σ.length
  sub : Same F H
  old : Same H0 H
  fr : ∀ a o, H0 a = some o → F a = F0 a
  val : ∀ i d, r.getD i .non = .val d → ∃ v, σ[i]? = some (some v) ∧ Dq K F v d
  own : ∀ i ds, r.getD i .non = .own ds → ∃ a vs, σ[i]? = some (some (.ref a)) ∧ H0 a = none ∧ F a = none ∧ H a = some (.lst vs) ∧ DqAll K F vs ds
  uniq : ∀ i j ds es a, r.getD i .non = .own ds → r.getD j .non = .own es → σ[i]? = some (some (.ref a)) → σ[j]? = some (some (.ref a)) → i = j
  nobj : ∀ i fs, r.getD i .non ≠ .obj fs
  tab : LamX.Tabs L.T H
  noT : ∀ p ∈ L.T, F p.1 = none ∧ H0 p.1 = none
  noX : L.T ≠ [] → ∀ b φ, H0 b ≠ some (.ext φ)
  thk : ∀ i ps, r.getD i .non = .thks ps → ∃ a fs, σ[i]? = some (some (.ref a)) ∧ F a = some (.lst (fs.map V.ref)) ∧ Lams L F fs ps
section
variable {K : Frag} {L : Lx} {F0 H0 F H H1 : Hp} {σ : SL} {r : Env}
theorem hide_getD (r : Env) (i : Nat) : (hide r).getD i .non = (r.getD i .non).hide := by
  unfold hide
  rw [List.getD_eq_getElem?_getD, List.getElem?_map, List.getD_eq_getElem?_getD]
  cases r[i]? <;> rfl
theorem DenS.hid (h : DenS K L F0 H0 F H σ r) : DenE K F σ (hide r) := by
  refine ⟨by unfold hide; rw [List.length_map]; exact h.len, fun i d q => ?_, fun i fs q => ?_⟩
  · rw [hide_getD] at q
    cases p : r.getD i .non with
    | non => rw [p] at q; cases q
    | val d' =>
      rw [p] at q
      cases q
      exact h.val i d p
    | own ds => rw [p] at q; cases q
    | obj fs => rw [p] at q; cases q
    | thks ps => rw [p] at q; cases q
  · rw [hide_getD] at q
    cases p : r.getD i .non <;> (rw [p] at q; cases q)
theorem DenS.f0 (h : DenS K L F0 H0 F H σ r) (e0 : Same F0 H0) : Same F0 F := fun a o q => by
  rw [h.fr a o (e0 a o q)]; exact q
theorem DenS.vis (h : DenS K L F0 H0 F H σ r) : Same F (grow F0 H0 H) := fun a o q => by
  cases p : H0 a with
  | none => rw [grow_none p]; exact h.sub a o q
  | some u => rw [grow_some p, ← h.fr a u p]; exact q
theorem DenS.full (h : DenS K L F0 H0 F H σ r) : DenE K (grow F0 H0 H) σ r := by
  refine ⟨h.len, fun i d q => ?_, fun i fs q => absurd q (h.nobj i fs)⟩
  cases p : r.getD i .non with
  | non => rw [p] at q; cases q
  | obj fs => rw [p] at q; cases q
  | thks ps => rw [p] at q; cases q
  | val d' =>
    rw [p] at q
    cases q
    obtain ⟨v, h1, h2⟩ := h.val i d p
    exact ⟨v, h1, Dq.mono h.vis _ _ h2⟩
  | own ds =>
    rw [p] at q
    cases q
    obtain ⟨a, vs, h1, h2, h3, h4, h5⟩ := h.own i ds p
    exact ⟨_, h1, .lst (.inl (by rw [grow_none h2]; exact h4)) (DqAll.mono h.vis _ _ h5)⟩
/-- the heap grows, what is new is not owned -/
theorem DenS.grow (h : DenS K L F0 H0 F H σ r) (s : Same H H1) : DenS K L F0 H0 (grow F H H1) H1 σ r := by
  refine ⟨h.len, grow_same2 h.sub s, h.old.trans s, fun a o q => ?_, fun i d q => ?_, fun i ds q => ?_, h.uniq, h.nobj, h.tab.ext s, fun p hp => ?_, h.noX, fun i ps q => ?_⟩
  · rw [grow_some (h.old a o q)]; exact h.fr a o q
  · obtain ⟨v, h1, h2⟩ := h.val i d q
    exact ⟨v, h1, Dq.mono (grow_same1 h.sub) _ _ h2⟩
  · obtain ⟨a, vs, h1, h2, h3, h4, h5⟩ := h.own i ds q
    exact ⟨a, vs, h1, h2, by rw [grow_some h4]; exact h3, s _ _ h4, DqAll.mono (grow_same1 h.sub) _ _ h5⟩
  · obtain ⟨ts, e⟩ := tab_at h.tab hp
    exact ⟨by rw [grow_some e]; exact (h.noT p hp).1, (h.noT p hp).2⟩
  · obtain ⟨a, fs, h1, h2, h3⟩ := h.thk i ps q
    exact ⟨a, fs, h1, grow_same1 h.sub _ _ h2, h3.mono (grow_same1 h.sub)⟩
/-- .. and what is new is forgotten -/
theorem DenS.keep (h : DenS K L F0 H0 F H σ r) (s : Same H H1) : DenS K L F0 H0 F H1 σ r :=
  ⟨h.len, h.sub.trans s, h.old.trans s, h.fr, h.val, fun i ds q => let ⟨a, vs, h1, h2, h3, h4, h5⟩ := h.own i ds q; ⟨a, vs, h1, h2, h3, s _ _ h4, h5⟩, h.uniq, h.nobj, h.tab.ext s, h.noT, h.noX, h.thk⟩
theorem DenS.setVal {i : Nat} {v : V} {d : D} (h : DenS K L F0 H0 F H σ r) (dv : Dq K F v d) : DenS K L F0 H0 F H (σ.set i (some v)) (r.set i (.val d)) := by
  have ne : ∀ {j s}, (r.set i (.val d)).getD j .non = s → (i = j ∧ i < r.length ∧ s = .val d) ∨ (i ≠ j ∧ r.getD j .non = s) ∨ (i = j ∧ r.length ≤ i ∧ s = .non) := fun {j s} q => by
    by_cases c : i = j
    · subst c
      by_cases l : i < r.length
      · rw [getD_set_self l] at q; exact .inl ⟨rfl, l, q.symm⟩
      · rw [set_ge (by omega), getD_ge (by omega)] at q; exact .inr (.inr ⟨rfl, by omega, q.symm⟩)
    · rw [getD_set_ne c] at q; exact .inr (.inl ⟨c, q⟩)
  refine ⟨by rw [List.length_set, List.length_set]; exact h.len, h.sub, h.old, h.fr, fun j d' q => ?_, fun j ds q => ?_, fun j k ds es a q1 q2 s1 s2 => ?_, (fun j fs q => by
    rcases ne q with ⟨_, _, e⟩ | ⟨_, q⟩ | ⟨_, _, e⟩
    · cases e
    · exact h.nobj j fs q
    · cases e), h.tab, h.noT, h.noX, fun j ps q => by
    rcases ne q with ⟨_, _, e⟩ | ⟨c, q⟩ | ⟨_, _, e⟩
    · cases e
    · obtain ⟨a, fs, k1, k2⟩ := h.thk j ps q
      exact ⟨a, fs, by rw [List.getElem?_set_ne c]; exact k1, k2⟩
    · cases e⟩
  · rcases ne q with ⟨rfl, l, e⟩ | ⟨c, q⟩ | ⟨_, _, e⟩
    · cases e
      exact ⟨v, List.getElem?_set_self (by rw [← h.len]; exact l), dv⟩
    · obtain ⟨w, h1, h2⟩ := h.val j d' q
      exact ⟨w, by rw [List.getElem?_set_ne c]; exact h1, h2⟩
    · cases e
  · rcases ne q with ⟨_, _, e⟩ | ⟨c, q⟩ | ⟨_, _, e⟩
    · cases e
    · obtain ⟨a, vs, h1, h2⟩ := h.own j ds q
      exact ⟨a, vs, by rw [List.getElem?_set_ne c]; exact h1, h2⟩
    · cases e
  · rcases ne q1 with ⟨_, _, e⟩ | ⟨c, q1⟩ | ⟨_, _, e⟩
    · cases e
    · rcases ne q2 with ⟨_, _, e⟩ | ⟨c2, q2⟩ | ⟨_, _, e⟩
      · cases e
      · rw [List.getElem?_set_ne c] at s1
        rw [List.getElem?_set_ne c2] at s2
        exact h.uniq j k ds es a q1 q2 s1 s2
      · cases e
    · cases e
/-- an owned list at a slot: new, or one that stood there -/
theorem DenS.setOwn {i : Nat} {p : Addr} {vs : List V} {ds : List D} (h : DenS K L F0 H0 F H σ r) (h0 : H0 p = none) (hF : F p = none) (hH : H p = some (.lst vs)) (dv : DqAll K F vs ds)
    (hu : ∀ j es, j ≠ i → r.getD j .non = .own es → σ[j]? ≠ some (some (.ref p))) : DenS K L F0 H0 F H (σ.set i (some (.ref p))) (r.set i (.own ds)) := by
  have ne : ∀ {j s}, (r.set i (.own ds)).getD j .non = s → (i = j ∧ i < r.length ∧ s = .own ds) ∨ (i ≠ j ∧ r.getD j .non = s) ∨ (i = j ∧ r.length ≤ i ∧ s = .non) := fun {j s} q => by
    by_cases c : i = j
    · subst c
      by_cases l : i < r.length
      · rw [getD_set_self l] at q; exact .inl ⟨rfl, l, q.symm⟩
      · rw [set_ge (by omega), getD_ge (by omega)] at q; exact .inr (.inr ⟨rfl, by omega, q.symm⟩)
    · rw [getD_set_ne c] at q; exact .inr (.inl ⟨c, q⟩)
  refine ⟨by rw [List.length_set, List.length_set]; exact h.len, h.sub, h.old, h.fr, fun j d' q => ?_, fun j es q => ?_, fun j k es fs a q1 q2 s1 s2 => ?_, (fun j fs q => by
    rcases ne q with ⟨_, _, e⟩ | ⟨_, q⟩ | ⟨_, _, e⟩
    · cases e
    · exact h.nobj j fs q
    · cases e), h.tab, h.noT, h.noX, fun j ps q => by
    rcases ne q with ⟨_, _, e⟩ | ⟨c, q⟩ | ⟨_, _, e⟩
    · cases e
    · obtain ⟨a, fs, k1, k2⟩ := h.thk j ps q
      exact ⟨a, fs, by rw [List.getElem?_set_ne c]; exact k1, k2⟩
    · cases e⟩
  · rcases ne q with ⟨rfl, l, e⟩ | ⟨c, q⟩ | ⟨_, _, e⟩
    · cases e
    · obtain ⟨w, h1, h2⟩ := h.val j d' q
      exact ⟨w, by rw [List.getElem?_set_ne c]; exact h1, h2⟩
    · cases e
  · rcases ne q with ⟨rfl, l, e⟩ | ⟨c, q⟩ | ⟨_, _, e⟩
    · cases e
      exact ⟨p, vs, List.getElem?_set_self (by rw [← h.len]; exact l), h0, hF, hH, dv⟩
    · obtain ⟨a, ws, h1, h2⟩ := h.own j es q
      exact ⟨a, ws, by rw [List.getElem?_set_ne c]; exact h1, h2⟩
    · cases e
  · rcases ne q1 with ⟨rfl, l, e⟩ | ⟨c, q1⟩ | ⟨_, _, e⟩
    · rcases ne q2 with ⟨rfl, _, _⟩ | ⟨c2, q2⟩ | ⟨_, _, e2⟩
      · rfl
      · rw [List.getElem?_set_self (by rw [← h.len]; exact l)] at s1
        rw [List.getElem?_set_ne c2] at s2
        cases s1
        exact absurd s2 (hu k fs (fun z => c2 z.symm) q2)
      · cases e2
    · rcases ne q2 with ⟨rfl, l, e⟩ | ⟨c2, q2⟩ | ⟨_, _, e⟩
      · rw [List.getElem?_set_self (by rw [← h.len]; exact l)] at s2
        rw [List.getElem?_set_ne c] at s1
        cases s2
        exact absurd s1 (hu j es (fun z => c z.symm) q1)
      · rw [List.getElem?_set_ne c] at s1
        rw [List.getElem?_set_ne c2] at s2
        exact h.uniq j k es fs a q1 q2 s1 s2
      · cases e
    · cases e
/-- a new list at p, owned by slot i -/
theorem DenS.newOwn {i : Nat} {p : Addr} {vs : List V} {ds : List D} (h : DenS K L F0 H0 F H σ r) (hp : H p = none) (dv : DqAll K F vs ds) : DenS K L F0 H0 F (upd H p (.lst vs)) (σ.set i (some (.ref p))) (r.set i (.own ds)) := by
  have h' := h.keep (same_upd (o := .lst vs) hp)
  refine h'.setOwn (h.old.free hp) (h.sub.free hp) upd_same dv fun j es _ q z => ?_
  obtain ⟨a, ws, h1, h2, h3, h4, h5⟩ := h.own j es q
  rw [h1] at z
  cases z
  rw [hp] at h4; cases h4
/-- an owned list is written -/
theorem DenS.write {i : Nat} {p : Addr} {vs ws : List V} {ds es : List D} (h : DenS K L F0 H0 F H σ r) (q : r.getD i .non = .own ds) (hs : σ[i]? = some (some (.ref p))) (dv : DqAll K F ws es) : DenS K L F0 H0 F (upd H p (.lst ws)) σ (r.set i (.own es)) := by
  obtain ⟨a, us, h1, h2, h3, h4, h5⟩ := h.own i ds q
  rw [hs] at h1
  cases h1
  have hk : DenS K L F0 H0 F (upd H p (.lst ws)) (σ.set i (some (.ref p))) (r.set i (.own es)) := by
    -- forget slot i first
    have base : DenS K L F0 H0 F (upd H p (.lst ws)) (σ.set i (some (.ref p))) (r.set i .non) := by
      have ne : ∀ {j s}, (r.set i .non).getD j .non = s → s = .non ∨ (i ≠ j ∧ r.getD j .non = s) := fun {j s} q => by
        by_cases c : i = j
        · subst c
          by_cases l : i < r.length
          · rw [getD_set_self l] at q; exact .inl q.symm
          · rw [set_ge (by omega), getD_ge (by omega)] at q; exact .inl q.symm
        · rw [getD_set_ne c] at q; exact .inr ⟨c, q⟩
      refine ⟨by rw [List.length_set, List.length_set]; exact h.len, fun b o e => ?_, fun b o e => ?_, h.fr, fun j d' q' => ?_, fun j fs q' => ?_, fun j k fs gs b q1 q2 s1 s2 => ?_, (fun j fs q' => by
          rcases ne q' with e | ⟨_, q'⟩
          · cases e
          · exact h.nobj j fs q'), tab_write h.tab h4, h.noT, h.noX, fun j ps q' => by
          rcases ne q' with e | ⟨c, q'⟩
          · cases e
          · obtain ⟨a, fs, k1, k2⟩ := h.thk j ps q'
            exact ⟨a, fs, by rw [List.getElem?_set_ne c]; exact k1, k2⟩⟩
      · rw [upd_ne (fun z => by subst z; rw [h3] at e; cases e)]; exact h.sub b o e
      · rw [upd_ne (fun z => by subst z; rw [h2] at e; cases e)]; exact h.old b o e
      · rcases ne q' with e | ⟨c, q'⟩
        · cases e
        · obtain ⟨w, k1, k2⟩ := h.val j d' q'
          exact ⟨w, by rw [List.getElem?_set_ne c]; exact k1, k2⟩
      · rcases ne q' with e | ⟨c, q'⟩
        · cases e
        · obtain ⟨b, ts, k1, k2, k3, k4, k5⟩ := h.own j fs q'
          refine ⟨b, ts, by rw [List.getElem?_set_ne c]; exact k1, k2, k3, ?_, k5⟩
          rw [upd_ne (fun z => ?_)]
          · exact k4
          · subst z
            exact c (h.uniq i j ds fs _ q q' hs k1)
      · rcases ne q1 with e | ⟨c, q1⟩
        · cases e
        · rcases ne q2 with e | ⟨c2, q2⟩
          · cases e
          · rw [List.getElem?_set_ne c] at s1
            rw [List.getElem?_set_ne c2] at s2
            exact h.uniq j k fs gs b q1 q2 s1 s2
    have k := base.setOwn (i := i) h2 h3 upd_same dv fun j fs hj q' z => by
      rw [getD_set_ne (fun z => hj z.symm)] at q'
      rw [List.getElem?_set_ne (fun z => hj z.symm)] at z
      exact hj (h.uniq j i fs ds p q' q z hs)
    rw [List.set_set, List.set_set] at k
    exact k
  have e : σ.set i (some (.ref p)) = σ := by
    apply List.ext_getElem?
    intro j
    by_cases c : i = j
    · subst c
      rw [List.getElem?_set_self (List.getElem?_eq_some_iff.mp hs).1, hs]
    · rw [List.getElem?_set_ne c]
  rw [e] at hk
  exact hk
/-- an owned list is let go: it is a value from now on -/
theorem DenS.freeze {i : Nat} {ds : List D} (h : DenS K L F0 H0 F H σ r) (q : r.getD i .non = .own ds) : ∃ p F', σ[i]? = some (some (.ref p)) ∧ Same F F' ∧ Dq K F' (.ref p) (.list ds) ∧ DenS K L F0 H0 F' H σ (r.set i (.val (.list ds))) := by
  obtain ⟨p, vs, h1, h2, h3, h4, h5⟩ := h.own i ds q
  have s : Same F (upd F p (.lst vs)) := same_upd h3
  refine ⟨p, upd F p (.lst vs), h1, s, .lst (.inl upd_same) (DqAll.mono s _ _ h5), ?_⟩
  have ne : ∀ {j t}, (r.set i (.val (.list ds))).getD j .non = t → (i = j ∧ t = .val (.list ds)) ∨ (i ≠ j ∧ r.getD j .non = t) ∨ t = .non := fun {j t} q => by
    by_cases c : i = j
    · subst c
      by_cases l : i < r.length
      · rw [getD_set_self l] at q; exact .inl ⟨rfl, q.symm⟩
      · rw [set_ge (by omega), getD_ge (by omega)] at q; exact .inr (.inr q.symm)
    · rw [getD_set_ne c] at q; exact .inr (.inl ⟨c, q⟩)
  refine ⟨by rw [List.length_set]; exact h.len, fun b o e => ?_, h.old, fun b o e => ?_, fun j d' q' => ?_, fun j fs q' => ?_, fun j k fs gs b q1 q2 s1 s2 => ?_, (fun j fs q' => by
      rcases ne q' with ⟨_, e⟩ | ⟨_, q'⟩ | e
      · cases e
      · exact h.nobj j fs q'
      · cases e), h.tab, fun t ht => ?_, h.noX, fun j ps q' => by
      rcases ne q' with ⟨_, e⟩ | ⟨_, q'⟩ | e
      · cases e
      · obtain ⟨a, fs, k1, k2, k3⟩ := h.thk j ps q'
        exact ⟨a, fs, k1, s _ _ k2, k3.mono s⟩
      · cases e⟩
  · by_cases c : b = p
    · subst c; rw [upd_same] at e; cases e; exact h4
    · rw [upd_ne c] at e; exact h.sub b o e
  · rw [upd_ne (fun z => by subst z; rw [h2] at e; cases e)]; exact h.fr b o e
  · rcases ne q' with ⟨rfl, e⟩ | ⟨c, q'⟩ | e
    · cases e
      exact ⟨_, h1, .lst (.inl upd_same) (DqAll.mono s _ _ h5)⟩
    · obtain ⟨w, k1, k2⟩ := h.val j d' q'
      exact ⟨w, k1, Dq.mono s _ _ k2⟩
    · cases e
  · rcases ne q' with ⟨_, e⟩ | ⟨c, q'⟩ | e
    · cases e
    · obtain ⟨b, ts, k1, k2, k3, k4, k5⟩ := h.own j fs q'
      refine ⟨b, ts, k1, k2, ?_, k4, DqAll.mono s _ _ k5⟩
      rw [upd_ne (fun z => ?_)]
      · exact k3
      · subst z
        exact c (h.uniq i j ds fs _ q q' h1 k1)
    · cases e
  · rcases ne q1 with ⟨_, e⟩ | ⟨c, q1⟩ | e
    · cases e
    · rcases ne q2 with ⟨_, e⟩ | ⟨c2, q2⟩ | e
      · cases e
      · exact h.uniq j k fs gs b q1 q2 s1 s2
      · cases e
    · cases e
  · obtain ⟨ts, e⟩ := tab_at h.tab ht
    exact ⟨by rw [upd_ne (fun z => by rw [z, h4] at e; cases e)]; exact (h.noT t ht).1, (h.noT t ht).2⟩
theorem dq_scalar {F F' : Hp} {v : V} {d : D} (s : scalar d = true) (h : Dq K F v d) : Dq K F' v d := by
  cases h with
  | non => exact .non
  | bl b => exact .bl b
  | int i => exact .int i
  | str x => exact .str x
  | lst _ _ => cases s
  | tup _ _ => cases s
end
end BB

/-! ## the pure layer 13: statements by their rules -/
namespace BB
open PySem PySem.Spec PyProof.Rows L2
section
variable (K : Frag) (L : Lx) (mg : Str → Option Value) (E : XK) (F0 H0 : Hp)
def ResF (F : Hp) (f : Fl) (B : Ends) : Prop := match f with
  | .next r => ∀ σ H F', Same F F' → DenS K L F0 H0 F' H σ r → B.nx σ H
  | .brk r => ∀ σ H F', Same F F' → DenS K L F0 H0 F' H σ r → B.bk σ H
  | .ret d => ∀ v H, Same H0 H → Dq K (grow F0 H0 H) v d → B.rt v H
  | .exc c => ∀ C H, mg c = some (.ref C) → Same H0 H → E (.ref C) none H
  | .bad => False
def tPS (f : Env → Fl) : TS := fun B σ H => ∃ (r : Env) (F : Hp), DenS K L F0 H0 F H σ r ∧ ResF K L mg E F0 H0 F (f r) B
end
section
variable {K : Frag} {L : Lx} {mg : Str → Option Value} {E : XK} {F0 H0 F F' H H1 : Hp} {σ : SL} {r : Env} {B : Ends}
theorem ResF.mono {f : Fl} (s : Same F F') (h : ResF K L mg E F0 H0 F f B) : ResF K L mg E F0 H0 F' f B := by
  cases f with
  | next r => exact fun σ H F2 s2 d => h σ H F2 (s.trans s2) d
  | brk r => exact fun σ H F2 s2 d => h σ H F2 (s.trans s2) d
  | ret d => exact h
  | exc c => exact h
  | bad => exact h
/-- an expression ahead of what follows, its value to be kept -/
theorem ResF.hid {f : D → Fl} {o : Out D} {P : VK} (e0 : Same F0 H0) (d : DenS K L F0 H0 F H σ r) (h : ResF K L mg E F0 H0 F (o.fl f) B) (k : ∀ a v H1, Same H H1 → Dq K (grow F H H1) v a → DenS K L F0 H0 (grow F H H1) H1 σ r → ResF K L mg E F0 H0 (grow F H H1) (f a) B → P v H1) : ResV K mg E F H o P := by
  cases o with
  | ok a => exact fun v H1 s dv => k a v H1 s dv (d.grow s) (ResF.mono (grow_same1 d.sub) h)
  | exc c => exact fun C H1 hm s => h C H1 hm (d.old.trans s)
  | bad => exact h
/-- .. or not kept -/
theorem ResF.vis {f : D → Fl} {o : Out D} {P : VK} (e0 : Same F0 H0) (d : DenS K L F0 H0 F H σ r) (h : ResF K L mg E F0 H0 F (o.fl f) B) (k : ∀ a v H1, Same H H1 → Dq K (grow F0 H0 H1) v a → DenS K L F0 H0 (grow F H H1) H1 σ r → ResF K L mg E F0 H0 (grow F H H1) (f a) B → P v H1) : ResV K mg E (grow F0 H0 H) H o P := by
  cases o with
  | ok a => exact fun v H1 s dv => k a v H1 s (by rw [grow_grow d.old s] at dv; exact dv) (d.grow s) (ResF.mono (grow_same1 d.sub) h)
  | exc c => exact fun C H1 hm s => h C H1 hm (d.old.trans s)
  | bad => exact h
theorem DenS.visSub (d : DenS K L F0 H0 F H σ r) (e0 : Same F0 H0) : Same (BB.grow F0 H0 H) H := grow_same2 e0 d.old
end
section
variable {X : Cx} {L : Lx} {E : XK} {F0 H0 : Hp} {st : Stmt} {pos : Pos}
theorem PS.imp {t t' : TS} (h : PS X st t) (k : ∀ B σ H, t' B σ H → t B σ H) : PS X st t' := ⟨fun pins s σ H B I hw => h.run pins s σ H B I (k B σ H hw)⟩
theorem PSs.imp {sts : List Stmt} {t t' : TS} (h : PSs X sts t) (k : ∀ B σ H, t' B σ H → t B σ H) : PSs X sts t' := ⟨fun pins s σ H B I hw => h.run pins s σ H B I (k B σ H hw)⟩
variable {fa : Env → Out D} {f1 f2 : Env → Fl}
def seqF (f1 f2 : Env → Fl) : Env → Fl := fun r => match f1 r with
  | .next r' => f2 r'
  | f => f
theorem pssNil : PSs X [] (tPS X.K L X.mg E F0 H0 fun r => .next r) := PSs.imp pss_nil fun B σ H ⟨r, F, d, h⟩ => h σ H F (Same.refl F) d
theorem pssCons {sts : List Stmt} (h1 : PS X st (tPS X.K L X.mg E F0 H0 f1)) (h2 : PSs X sts (tPS X.K L X.mg E F0 H0 f2)) : PSs X (st :: sts) (tPS X.K L X.mg E F0 H0 (seqF f1 f2)) :=
  PSs.imp (pss_cons h1 h2) fun B σ H ⟨r, F, d, h⟩ => ⟨r, F, d, by
    have h : ResF X.K L X.mg E F0 H0 F (match f1 r with
      | .next r' => f2 r'
      | f => f) B := h
    cases q : f1 r with
    | next r' =>
      rw [q] at h
      exact fun σ' H' F' s d' => ⟨r', F', d', ResF.mono s h⟩
    | brk r' => rw [q] at h; exact h
    | ret v => rw [q] at h; exact h
    | exc c => rw [q] at h; exact h
    | bad => rw [q] at h; exact h⟩
/-! ### stores -/
theorem asgStep (e0 : Same F0 H0) {i : Nat} {B : Ends} {σ : SL} {H : Hp} (h : tPS X.K L X.mg E F0 H0 (fun r => (fa (hide r)).fl fun d => .next (r.set i (.val d))) B σ H) : tAsg (tP X.K X.mg E fa) (gName i) B σ H := by
  obtain ⟨r, F, d, h⟩ := h
  exact ⟨hide r, F, d.sub, d.hid, ResF.hid e0 d h fun a v H1 s dv d1 h1 => h1 _ _ _ (Same.refl _) (d1.setVal dv)⟩
theorem asgSStep (e0 : Same F0 H0) {i : Nat} {B : Ends} {σ : SL} {H : Hp} (h : tPS X.K L X.mg E F0 H0 (fun r => (fa r).fl fun d => if scalar d then .next (r.set i (.val d)) else .bad) B σ H) : tAsg (tP X.K X.mg E fa) (gName i) B σ H := by
  obtain ⟨r, F, d, h⟩ := h
  refine ⟨r, _, d.visSub e0, d.full, ResF.vis e0 d h fun a v H1 s dv d1 h1 => ?_⟩
  by_cases c : scalar a = true
  · rw [if_pos c] at h1
    exact h1 _ _ _ (Same.refl _) (d1.setVal (dq_scalar c dv))
  · rw [if_neg c] at h1; exact False.elim h1
theorem ownStep (e0 : Same F0 H0) {i : Nat} {fs : Env → Out (List D)} {B : Ends} {σ : SL} {H : Hp} (hn : ∀ r ds, fs r = .ok ds → ds.length ≤ LIM) (h : tPS X.K L X.mg E F0 H0 (fun r => match fs (hide r) with
    | .ok ds => .next (r.set i (.own ds))
    | .exc c => .exc c
    | .bad => .bad) B σ H) : tAsg (tLst (tPA X.K X.mg E fs)) (gName i) B σ H := by
  obtain ⟨r, F, d, h⟩ := h
  refine ⟨hide r, F, d.sub, d.hid, ?_⟩
  cases q : fs (hide r) with
  | ok ds =>
    dsimp only at h
    rw [q] at h
    intro vs H1 s dv
    refine ⟨lim_size (by rw [dv.length]; exact hn _ _ q), fun p hp => ?_⟩
    exact h _ _ _ (grow_same1 d.sub) ((d.grow s).newOwn hp dv)
  | exc c =>
    dsimp only at h
    rw [q] at h
    exact fun C H1 hm s => h C H1 hm (d.old.trans s)
  | bad => dsimp only at h; rw [q] at h; exact h
theorem movStep {i j : Nat} {B : Ends} {σ : SL} {H : Hp} (h : tPS X.K L X.mg E F0 H0 (fun r => match r.getD j .non with
    | .own ds => .next ((r.set j (.val (.list ds))).set i (.val (.list ds)))
    | _ => .bad) B σ H) : tAsg (tVar j) (gName i) B σ H := by
  obtain ⟨r, F, d, h⟩ := h
  cases q : r.getD j .non with
  | own ds =>
    dsimp only at h
    rw [q] at h
    obtain ⟨p, F', h1, s, dv, d'⟩ := d.freeze q
    exact ⟨.ref p, h1, h _ _ _ s (d'.setVal dv)⟩
  | non => dsimp only at h; rw [q] at h; exact False.elim h
  | val v => dsimp only at h; rw [q] at h; exact False.elim h
  | obj v => dsimp only at h; rw [q] at h; exact False.elim h
  | thks v => dsimp only at h; rw [q] at h; exact False.elim h
theorem frzStep {i : Nat} {f : Env → Fl} {B : Ends} {σ : SL} {H : Hp} (h : tPS X.K L X.mg E F0 H0 (fun r => match r.getD i .non with
    | .own ds => f (r.set i (.val (.list ds)))
    | _ => .bad) B σ H) : tPS X.K L X.mg E F0 H0 f B σ H := by
  obtain ⟨r, F, d, h⟩ := h
  cases q : r.getD i .non with
  | own ds =>
    dsimp only at h
    rw [q] at h
    obtain ⟨p, F', h1, s, dv, d'⟩ := d.freeze q
    exact ⟨_, F', d', ResF.mono s h⟩
  | non => dsimp only at h; rw [q] at h; exact False.elim h
  | val v => dsimp only at h; rw [q] at h; exact False.elim h
  | obj v => dsimp only at h; rw [q] at h; exact False.elim h
  | thks v => dsimp only at h; rw [q] at h; exact False.elim h
/-! ### targets -/
theorem DenS.many {K : Frag} {F H : Hp} : ∀ {is : List Nat} {xs : List V} {ds : List D} {σ : SL} {r r' : Env}, DenS K L F0 H0 F H σ r → DqAll K F xs ds → setMany is ds r = some r' → DenS K L F0 H0 F H (setSt is xs σ) r' ∧ xs.length = is.length
  | [], _, [], _, r, r', h, .nil, e => by
    have e : some r = some r' := e
    cases e
    exact ⟨h, rfl⟩
  | i :: is, _, d :: ds, _, r, r', h, .cons dv t, e => by
    obtain ⟨h1, h2⟩ := DenS.many (is := is) (h.setVal (i := i) dv) t (show setMany is ds (r.set i (.val d)) = some r' from e)
    exact ⟨h1, by rw [List.length_cons, List.length_cons, h2]⟩
  | [], _, _ :: _, _, _, _, _, _, e => by cases e
  | _ :: _, _, [], _, _, _, _, _, e => by cases e
theorem tgS {K : Frag} {F H : Hp} {tg : Tg} {v : V} {d : D} {σ : SL} {r r' : Env} {Q : SL → Hp → Prop} (h : DenS K L F0 H0 F H σ r) (dv : Dq K F v d) (q : setTg tg d r = some r') (k : ∀ σ', DenS K L F0 H0 F H σ' r' → Q σ' H) : tgOf K tg v σ H Q := by
  cases tg with
  | one i =>
    have q : some (r.set i (.val d)) = some r' := q
    cases q
    exact k _ (h.setVal dv)
  | many is =>
    cases dv with
    | tup s a =>
      obtain ⟨h1, h2⟩ := DenS.many h a q
      exact ⟨_, _, rfl, sqT_mono h.sub s, h2, gs_ok h2 (k _ h1)⟩
    | _ => cases q
theorem unpStep (e0 : Same F0 H0) {is : List Nat} {B : Ends} {σ : SL} {H : Hp} (h : tPS X.K L X.mg E F0 H0 (fun r => (fa (hide r)).fl fun d => match setTg (.many is) d r with
    | some r' => .next r'
    | none => .bad) B σ H) : tAsg (tP X.K X.mg E fa) (tgOf X.K (.many is)) B σ H := by
  obtain ⟨r, F, d, h⟩ := h
  refine ⟨hide r, F, d.sub, d.hid, ResF.hid e0 d h fun a v H1 s dv d1 h1 => ?_⟩
  cases q : setTg (.many is) a r with
  | none => rw [q] at h1; exact False.elim h1
  | some r' =>
    rw [q] at h1
    exact tgS d1 dv q fun σ' d' => h1 _ _ _ (Same.refl _) d'
/-! ### if, return, break, expression -/
theorem psRet {e : Expr} (e0 : Same F0 H0) (he : PE X e (tP X.K X.mg E fa)) : PS X (.Return (some e) pos) (tPS X.K L X.mg E F0 H0 fun r => (fa r).fl .ret) :=
  PS.imp (ps_ret he) fun B σ H ⟨r, F, d, h⟩ => ⟨r, _, d.visSub e0, d.full, ResF.vis e0 d h fun a v H1 s dv d1 h1 => h1 v H1 d1.old dv⟩
theorem psRetN : PS X (.Return none pos) (tPS X.K L X.mg E F0 H0 fun _ => .ret .none) :=
  PS.imp ps_retN fun B σ H ⟨r, F, d, h⟩ => h .non H d.old .non
theorem psBrk : PS X (.Break pos) (tPS X.K L X.mg E F0 H0 fun r => .brk r) := PS.imp ps_break fun B σ H ⟨r, F, d, h⟩ => h σ H F (Same.refl F) d
theorem psPass : PS X (.Pass pos) (tPS X.K L X.mg E F0 H0 fun r => .next r) := PS.imp ps_pass fun B σ H ⟨r, F, d, h⟩ => h σ H F (Same.refl F) d
theorem psExp {e : Expr} (e0 : Same F0 H0) (he : PE X e (tP X.K X.mg E fa)) (hs : swapsWith e none pos.line X.env = pure false) : PS X (.Expr e pos) (tPS X.K L X.mg E F0 H0 fun r => (fa r).fl fun _ => .next r) :=
  PS.imp (ps_expr he hs) fun B σ H ⟨r, F, d, h⟩ => ⟨r, _, d.visSub e0, d.full, ResF.vis e0 d h fun a v H1 s dv d1 h1 => h1 σ H1 _ (Same.refl _) d1⟩
/-- a test ahead of what follows -/
theorem ResF.tst {K : Frag} {mg : Str → Option Value} {F H : Hp} {σ : SL} {r : Env} {B : Ends} {o : Out D} {f1 f2 : Fl} {P : Bool → Hp → Prop} (e0 : Same F0 H0) (d : DenS K L F0 H0 F H σ r) (h : ResF K L mg E F0 H0 F (o.fl fun d => match d with
      | .bool true => f1
      | .bool false => f2
      | _ => .bad) B) (k : ∀ (b : Bool) H1, Same H H1 → DenS K L F0 H0 (grow F H H1) H1 σ r → ResF K L mg E F0 H0 (grow F H H1) (if b = true then f1 else f2) B → P b H1) : Res mg E (grow F0 H0 H) H eqR (o.bind asB) P := by
  cases o with
  | ok a =>
    cases a with
    | bool b =>
      intro b' H1 s eb
      cases (show b' = b from eb)
      refine k b H1 s (d.grow s) (ResF.mono (grow_same1 d.sub) ?_)
      cases b <;> exact h
    | _ => exact False.elim h
  | exc c => exact fun C H1 hm s => h C H1 hm (d.old.trans s)
  | bad => exact h
theorem psIf {e : Expr} {a b : List Stmt} (e0 : Same F0 H0) (he : PT X e (tPT X.K X.mg E fa)) (ha : PSs X a (tPS X.K L X.mg E F0 H0 f1)) (hb : PSs X b (tPS X.K L X.mg E F0 H0 f2)) : PS X (.If e a b pos) (tPS X.K L X.mg E F0 H0 fun r => (fa r).fl fun d => match d with
    | .bool true => f1 r
    | .bool false => f2 r
    | _ => .bad) :=
  PS.imp (ps_if he ha hb) fun B σ H ⟨r, F, d, h⟩ => ⟨r, _, d.visSub e0, d.full, ResF.tst e0 d h fun b H1 s d1 h1 => by
    cases b with
    | true => exact ⟨r, _, d1, h1⟩
    | false => exact ⟨r, _, d1, h1⟩⟩
/-! ### loops -/
/-- a turn's end -/
theorem turnStep {K : Frag} {mg : Str → Option Value} {F : Hp} {f : Fl} {again : Env → Fl} {B : Ends} {N : SL → Hp → Prop} (h : ResF K L mg E F0 H0 F (match f with
      | .next r' => again r'
      | .brk r' => .next r'
      | f => f) B) (k : ∀ r' σ' H' F', Same F F' → DenS K L F0 H0 F' H' σ' r' → ResF K L mg E F0 H0 F' (again r') B → N σ' H') : ResF K L mg E F0 H0 F f { B with nx := N, ct := N, bk := B.nx } := by
  cases f with
  | next r' => exact fun σ' H' F' s d => k r' σ' H' F' s d (ResF.mono s h)
  | brk r' => exact h
  | ret v => exact h
  | exc c => exact h
  | bad => exact h
theorem whileL_succ {fa : Env → Out D} {f1 : Env → Fl} {m : Nat} {r : Env} : whileL fa f1 (m + 1) r = (fa r).fl fun d => match d with
      | .bool true => (match f1 r with
        | .next r' => whileL fa f1 m r'
        | .brk r' => .next r'
        | f => f)
      | .bool false => .next r
      | _ => .bad := by
  show (match fa r with
    | .ok (.bool true) => (match f1 r with
      | .next r' => whileL fa f1 m r'
      | .brk r' => .next r'
      | f => f)
    | .ok (.bool false) => .next r
    | .exc c => .exc c
    | _ => .bad) = _
  cases fa r with
  | ok a =>
    cases a with
    | bool b => cases b <;> rfl
    | _ => rfl
  | exc c => rfl
  | bad => rfl
theorem psWhile {e : Expr} {b : List Stmt} {n : Nat} (hp : PassesOwn (model X.prog X.w) X.A X.env X.xe) (e0 : Same F0 H0) (he : PT X e (tPT X.K X.mg E fa)) (hb : PSs X b (tPS X.K L X.mg E F0 H0 f1)) : PS X (.While e b [] pos) (tPS X.K L X.mg E F0 H0 fun r => whileL fa f1 n r) := by
  refine PS.imp (ps_while hp he hb) fun B σ H ⟨r, F, d, h⟩ => ?_
  refine ⟨fun m σ' H' => ∃ r' F', DenS X.K L F0 H0 F' H' σ' r' ∧ ResF X.K L X.mg E F0 H0 F' (whileL fa f1 m r') B, ⟨n, r, F, d, h⟩, fun m σ1 Ha hw => ?_⟩
  obtain ⟨r1, Fa, da, h⟩ := hw
  cases m with
  | zero => exact False.elim h
  | succ m =>
    rw [whileL_succ] at h
    refine ⟨r1, _, da.visSub e0, da.full, ResF.tst e0 da h fun b H1 s d1 h1 => ?_⟩
    cases b with
    | false => exact h1 σ1 H1 _ (Same.refl _) d1
    | true =>
      rw [if_pos rfl] at h1
      exact ⟨fun σ' H' => ∃ r' F', DenS X.K L F0 H0 F' H' σ' r' ∧ ResF X.K L X.mg E F0 H0 F' (whileL fa f1 m r') B, fun σ' H' q => ⟨m, Nat.lt_succ_self m, q⟩, r1, _, d1, turnStep h1 fun r' σ' H' F' s d' h' => ⟨r', F', d', h'⟩⟩
def forStep (tg : Tg) (f1 : Env → Fl) : D → Env → Fl := fun x r => match setTg tg x r with
  | some r' => f1 r'
  | none => .bad
theorem psFor {tge it : Expr} {b : List Stmt} {tg : Tg} {fI : Env → Out (List D)} (hp : PassesOwn (model X.prog X.w) X.A X.env X.xe) (hc : X.calm = true) (e0 : Same F0 H0) (hi : PI X tge it (tPI X.K X.mg E fI)) (hg : PG X tge (tgOf X.K tg)) (hb : PSs X b (tPS X.K L X.mg E F0 H0 f1)) (hs : ∀ x, foldedSetIterable it X.env x = pure x) :
    PS X (.For tge it b [] pos) (tPS X.K L X.mg E F0 H0 fun r => match fI (hide r) with
      | .ok xs => forL (forStep tg f1) xs r
      | .exc c => .exc c
      | .bad => .bad) := by
  refine PS.imp (ps_for hp hc hi hg hb hs) fun B σ H ⟨r, F, d, h⟩ => ⟨hide r, F, d.sub, d.hid, ?_⟩
  cases q : fI (hide r) with
  | exc c => dsimp only at h; rw [q] at h; exact fun C H1 hm s => h C H1 hm (d.old.trans s)
  | bad => dsimp only at h; rw [q] at h; exact h
  | ok xs =>
    dsimp only at h
    rw [q] at h
    intro J H1 s1 wd
    obtain ⟨G, Y, wk, hG, hY⟩ := wd.ex
    refine for_it wk (fun i σ' H' => ∃ r' F', Same (grow F H H1) F' ∧ DenS X.K L F0 H0 F' H' σ' r' ∧ ResF X.K L X.mg E F0 H0 F' (forL (forStep tg f1) (xs.drop i) r') B) ⟨r, _, Same.refl _, d.grow s1, ResF.mono (grow_same1 d.sub) h⟩ ?_ ?_ ?_
    · intro i σ' H' _ p
      obtain ⟨r', F', s, d', _⟩ := p
      exact hG H' (s.trans d'.sub)
    · intro i x σ' H' H2 hi p y
      obtain ⟨r', F', s, d', h'⟩ := p
      obtain ⟨s3, dd, hdd, dx⟩ := hY i H' x H2 hi (s.trans d'.sub) y
      obtain ⟨hi2, he⟩ := List.getElem?_eq_some_iff.mp hdd
      rw [List.drop_eq_getElem_cons hi2, he] at h'
      have h' : ResF X.K L X.mg E F0 H0 F' (match forStep tg f1 dd r' with
        | .next r' => forL (forStep tg f1) (xs.drop (i + 1)) r'
        | .brk r' => .next r'
        | f => f) B := h'
      cases q2 : setTg tg dd r' with
      | none =>
        have es : forStep tg f1 dd r' = .bad := by
          unfold forStep
          rw [q2]
        rw [es] at h'
        exact False.elim h'
      | some r2 =>
        have d2 := d'.grow s3
        have dx' : Dq X.K (grow F' H' H2) x dd := Dq.mono (fun a o e => by
          cases p : H' a with
          | none => rw [grow_none p] at e ⊢; exact e
          | some u => rw [grow_some p] at e ⊢; exact s a o e) _ _ dx
        have es : forStep tg f1 dd r' = f1 r2 := by
          unfold forStep
          rw [q2]
        rw [es] at h'
        refine tgS d2 dx' q2 fun σ2 dd2 => ⟨r2, _, dd2, turnStep (ResF.mono (grow_same1 d'.sub) h') fun r3 σ3 H3 F3 s4 d4 h4 => ⟨r3, F3, s.trans ((grow_same1 d'.sub).trans s4), d4, h4⟩⟩
    · intro σ' H' p
      obtain ⟨r', F', s, d', h'⟩ := p
      rw [List.drop_length] at h'
      exact h' σ' H' F' (Same.refl _) d'
/-! ### append, extend -/
theorem appStep (e0 : Same F0 H0) {i : Nat} {B : Ends} {σ : SL} {H : Hp} (h : tPS X.K L X.mg E F0 H0 (fun r => match r.getD i .non with
    | .own ds => (fa (hide r)).fl fun d => if ds.length < LIM then .next (r.set i (.own (ds ++ [d]))) else .bad
    | _ => .bad) B σ H) : tDrop (tBM X.K "list" rAppend (tVar i) (tCons (tP X.K X.mg E fa) tNil)) B σ H := by
  obtain ⟨r, F, d, h⟩ := h
  cases q : r.getD i .non with
  | non => dsimp only at h; rw [q] at h; exact False.elim h
  | val v => dsimp only at h; rw [q] at h; exact False.elim h
  | obj v => dsimp only at h; rw [q] at h; exact False.elim h
  | thks v => dsimp only at h; rw [q] at h; exact False.elim h
  | own ds =>
    dsimp only at h
    rw [q] at h
    obtain ⟨p, vs, h1, h2, h3, h4, h5⟩ := d.own i ds q
    refine ⟨.ref p, h1, .inl ⟨rfl, vs, .inl (.inl h4)⟩, hide r, F, d.sub, d.hid, ResF.hid e0 d h fun a v H1 s dv d1 hn => ?_⟩
    by_cases c : ds.length < LIM
    · rw [if_pos c] at hn
      refine ⟨p, vs, v, rfl, rfl, s _ _ h4, lim_lt (by rw [h5.length]; exact c), ?_⟩
      exact hn _ _ _ (Same.refl _) (d1.write (vs := vs) q h1 ((DqAll.mono (grow_same1 d.sub) _ _ h5).append (.cons dv .nil)))
    · rw [if_neg c] at hn; exact False.elim hn
theorem appSStep (e0 : Same F0 H0) {i : Nat} {B : Ends} {σ : SL} {H : Hp} (h : tPS X.K L X.mg E F0 H0 (fun r => match r.getD i .non with
    | .own ds => (fa r).fl fun d => if scalar d && decide (ds.length < LIM) then .next (r.set i (.own (ds ++ [d]))) else .bad
    | _ => .bad) B σ H) : tDrop (tBM X.K "list" rAppend (tVar i) (tCons (tP X.K X.mg E fa) tNil)) B σ H := by
  obtain ⟨r, F, d, h⟩ := h
  cases q : r.getD i .non with
  | non => dsimp only at h; rw [q] at h; exact False.elim h
  | val v => dsimp only at h; rw [q] at h; exact False.elim h
  | obj v => dsimp only at h; rw [q] at h; exact False.elim h
  | thks v => dsimp only at h; rw [q] at h; exact False.elim h
  | own ds =>
    dsimp only at h
    rw [q] at h
    obtain ⟨p, vs, h1, h2, h3, h4, h5⟩ := d.own i ds q
    refine ⟨.ref p, h1, .inl ⟨rfl, vs, .inl (.inl h4)⟩, r, _, d.visSub e0, d.full, ResF.vis e0 d h fun a v H1 s dv d1 hn => ?_⟩
    by_cases c : (scalar a && decide (ds.length < LIM)) = true
    · rw [if_pos c] at hn
      rw [Bool.and_eq_true, decide_eq_true_eq] at c
      refine ⟨p, vs, v, rfl, rfl, s _ _ h4, lim_lt (by rw [h5.length]; exact c.2), ?_⟩
      exact hn _ _ _ (Same.refl _) (d1.write (vs := vs) q h1 ((DqAll.mono (grow_same1 d.sub) _ _ h5).append (.cons (dq_scalar c.1 dv) .nil)))
    · rw [if_neg c] at hn; exact False.elim hn
theorem extStep (e0 : Same F0 H0) {i : Nat} {B : Ends} {σ : SL} {H : Hp} (h : tPS X.K L X.mg E F0 H0 (fun r => match r.getD i .non with
    | .own ds => (fa (hide r)).fl fun d => (match d with
      | .list xs => if ds.length + xs.length ≤ LIM then .next (r.set i (.own (ds ++ xs))) else .bad
      | _ => .bad)
    | _ => .bad) B σ H) : tDrop (tBM X.K "list" rExtL (tVar i) (tCons (tP X.K X.mg E fa) tNil)) B σ H := by
  obtain ⟨r, F, d, h⟩ := h
  cases q : r.getD i .non with
  | non => dsimp only at h; rw [q] at h; exact False.elim h
  | val v => dsimp only at h; rw [q] at h; exact False.elim h
  | obj v => dsimp only at h; rw [q] at h; exact False.elim h
  | thks v => dsimp only at h; rw [q] at h; exact False.elim h
  | own ds =>
    dsimp only at h
    rw [q] at h
    obtain ⟨p, vs, h1, h2, h3, h4, h5⟩ := d.own i ds q
    refine ⟨.ref p, h1, .inl ⟨rfl, vs, .inl (.inl h4)⟩, hide r, F, d.sub, d.hid, ResF.hid e0 d h fun a v H1 s dv d1 hn => ?_⟩
    cases dv with
    | @lst b ws es sb ab =>
      have hn : ResF X.K L X.mg E F0 H0 (grow F H H1) (if ds.length + es.length ≤ LIM then .next (r.set i (.own (ds ++ es))) else .bad) B := hn
      by_cases c : ds.length + es.length ≤ LIM
      · rw [if_pos c] at hn
        refine ⟨p, b, vs, ws, rfl, rfl, s _ _ h4, rd_mono d1.sub sb, lim_size (by rw [h5.length, ab.length]; exact c), ?_⟩
        exact hn _ _ _ (Same.refl _) (d1.write (vs := vs) q h1 ((DqAll.mono (grow_same1 d.sub) _ _ h5).append ab))
      · rw [if_neg c] at hn; exact False.elim hn
    | _ => exact False.elim hn
/-- x = x + e: a new list -/
theorem catStep (e0 : Same F0 H0) {i : Nat} {B : Ends} {σ : SL} {H : Hp} (h : tPS X.K L X.mg E F0 H0 (fun r => match r.getD i .non with
    | .own ds => (fa (hide r)).fl fun d => (match d with
      | .list xs => if ds.length + xs.length ≤ LIM then .next (r.set i (.own (ds ++ xs))) else .bad
      | _ => .bad)
    | _ => .bad) B σ H) : tAsg (tOp rCatL (tVar i) (tP X.K X.mg E fa)) (gName i) B σ H := by
  obtain ⟨r, F, d, h⟩ := h
  cases q : r.getD i .non with
  | non => dsimp only at h; rw [q] at h; exact False.elim h
  | val v => dsimp only at h; rw [q] at h; exact False.elim h
  | obj v => dsimp only at h; rw [q] at h; exact False.elim h
  | thks v => dsimp only at h; rw [q] at h; exact False.elim h
  | own ds =>
    dsimp only at h
    rw [q] at h
    obtain ⟨p, vs, h1, h2, h3, h4, h5⟩ := d.own i ds q
    refine ⟨.ref p, h1, hide r, F, d.sub, d.hid, ResF.hid e0 d h fun a v H1 s dv d1 hn => ?_⟩
    cases dv with
    | @lst b ws es sb ab =>
      have hn : ResF X.K L X.mg E F0 H0 (grow F H H1) (if ds.length + es.length ≤ LIM then .next (r.set i (.own (ds ++ es))) else .bad) B := hn
      by_cases c : ds.length + es.length ≤ LIM
      · rw [if_pos c] at hn
        refine ⟨p, b, vs, ws, rfl, rfl, .inl (s _ _ h4), rd_mono d1.sub sb, lim_size (by rw [h5.length, ab.length]; exact c), fun q hq => ?_⟩
        exact hn _ _ _ (Same.refl _) (d1.newOwn hq ((DqAll.mono (grow_same1 d.sub) _ _ h5).append ab))
      · rw [if_neg c] at hn; exact False.elim hn
    | _ => exact False.elim hn
/-- x = e[:n]: a new list -/
theorem ownTStep (e0 : Same F0 H0) {i n : Nat} {B : Ends} {σ : SL} {H : Hp} (h : tPS X.K L X.mg E F0 H0 (fun r => (fa (hide r)).fl fun d => (match d with
    | .list xs => .next (r.set i (.own (xs.take n)))
    | _ => .bad)) B σ H) : tAsg (fun σ H Q => tP X.K X.mg E fa σ H fun x H1 => rSlL X.K x none (some (n : Int)) H1 Q) (gName i) B σ H := by
  obtain ⟨r, F, d, h⟩ := h
  refine ⟨hide r, F, d.sub, d.hid, ResF.hid e0 d h fun a v H1 s dv d1 hn => ?_⟩
  cases dv with
  | @lst b ws es sb ab =>
    have hn : ResF X.K L X.mg E F0 H0 (grow F H H1) (.next (r.set i (.own (es.take n)))) B := hn
    refine ⟨b, ws, rfl, .inl (rd_mono d1.sub sb), fun q hq => ?_⟩
    have e1 : cutV ws none (some (n : Int)) = ws.take n := by
      show (ws.drop (HT.sIx ws.length 0 none)).take (HT.sIx ws.length ws.length (some (n : Int)) - HT.sIx ws.length 0 none) = _
      have h0 : HT.sIx ws.length 0 none = 0 := rfl
      have h1 : HT.sIx ws.length ws.length (some (n : Int)) = min n ws.length := by
        simp [HT.sIx]
        omega
      rw [h0, h1]
      simp
    rw [e1]
    exact hn _ _ _ (Same.refl _) (d1.newOwn hq (ab.take n))
  | _ => exact False.elim hn
end
end BB

/-! ## the pure layer: try, one except clause that tells the class -/
namespace BB
open PySem PySem.Spec PyProof.Rows L2
/-- what is known of the classes of exceptions: c caught as one of x's, told apart from n -/
structure ClsF (K : Frag) (mg : Str → Option Value) (x c n : Str) : Prop where
  ex : ∃ B C N, mg x = some (.ref B) ∧ mg c = some (.ref C) ∧ mg n = some (.ref N) ∧ PySem.W.exmOne K (.ref C) (.ref B) = some true ∧ ExcC K C ∧ PySem.W.kitOne K (.ref C) (.ref N) = some (decide (c = n))
/-- the wish of a body in a try: whatever the slots are -/
def EW (X : Cx) (W : WX) : XK := fun cls d H => ∀ σ : SL, σ.length = X.N.length → W cls d σ H
theorem takes_EW {X : Cx} {W : WX} (t : Takes X W) : Takes X (fun cls d _ H => EW X W cls d H) := fun u s' ⟨a, B, sI, pins, σ, H, cls, d, e, I, nb, up, sky, na, os, ag, w⟩ =>
  t u s' ⟨a, B, sI, pins, σ, H, cls, d, e, I, nb, up, sky, na, os, ag, w σ I.len⟩
/-- isinstance(e, n) -/
def mIsa (N : List Str) (sc : Scope) (i : Nat) (n : Str) : Expr → Bool
  | .Call (.Name f _) [.Name y _, .Name z _] [] _ => decide (f = Str.ofString "isinstance") && decide (N[i]? = some y) && decide (z = n) && visB sc y && nmB y && glB sc f && glB sc z && nmB z
  | _ => false
def mIsas (N : List Str) (sc : Scope) (i : Nat) : List Str → List Expr → Bool
  | [], [] => true
  | n :: ns, e :: es => mIsa N sc i n e && mIsas N sc i ns es
  | _, _ => false
def hdI (h : Hd) : Nat := match h with
  | .idx i _ => i
  | .isa i _ => i
  | .idx3 i _ _ _ _ => i
def hdNs (h : Hd) : List Str := match h with
  | .idx _ ns => ns
  | .isa _ n => [n]
  | .idx3 _ _ n1 n2 n3 => n1 ++ n2 ++ n3
def locNB (sc : Scope) (x : Str) : Bool := match sc.names.lookup x with
  | some .local => true
  | _ => false
theorem locN_of {sc : Scope} {x : Str} (h : locNB sc x = true) : sc.names.lookup x = some .local := by
  unfold locNB at h
  split at h
  · assumption
  · cases h
def mHd (N : List Str) (sc : Scope) : Hd → List Stmt → Bool
  | .idx i ns, [.Return (some (.Call (.Attribute (.List ls _) nm ap) [.Constant (.bool true) _ _] [] cp)) _] => decide (nm = Str.ofString "index") && (ap.endLine == cp.line) && mIsas N sc i ns ls && decide (ls.length ≤ 100)
  | .isa i n, [.Return (some e) _] => mIsa N sc i n e
  | .idx3 i j n1 n2 n3, [.Assign [.Name f1 _] (.List l1 _) _, .Assign [.Name f2 _] (.BinOp (.Name f3 _) .Add (.List l2 _) _) _, .Return (some (.Call (.Attribute (.BinOp (.Name f4 _) .Add (.List l3 _) _) nm ap) [.Constant (.bool true) _ _] [] cp)) _] =>
    decide (nm = Str.ofString "index") && (ap.endLine == cp.line) && mIsas N sc i n1 l1 && mIsas N sc i n2 l2 && mIsas N sc i n3 l3 && decide (l1.length + l2.length + l3.length ≤ 100) && decide (N[j]? = some f1) && decide (f2 = f1) && decide (f3 = f1) && decide (f4 = f1) && locNB sc f1 && nmB f1 && decide (i ≠ j)
  | _, _ => false
section
variable {X : Cx} {a C : Addr} {oe : Obj} {pn : List (Addr × Obj)}
/-- isinstance(e, n) in the clause: b -/
theorem pe_isa {i : Nat} {n : Str} {e : Expr} {D : Addr} {b : Bool} (hm : mIsa X.N X.env.scope i n e = true) (ec : ExcC X.K C) (hz : Zc (.ref C) none oe) (hf : ∃ vs, oe.data = .fields vs) (hb : X.mg (Str.ofString "isinstance") = none) (hn : X.mg n = some (.ref D)) (hk : PySem.W.kitOne X.K (.ref C) (.ref D) = some b) :
    PE (X.suite a ((a, oe) :: pn)) e (fun σ H Q => σ[i]? = some (some (.ref a)) ∧ Q (.bl b) H) ∧ plainE e = true := by
  unfold mIsa at hm
  split at hm
  · rename_i f p1 y p2 z p3 p4
    simp only [Bool.and_eq_true, decide_eq_true_eq] at hm
    obtain ⟨⟨⟨⟨⟨⟨⟨h1, h2⟩, h3⟩, h4⟩, h5⟩, h6⟩, h7⟩, h8⟩ := hm
    subst h1 h3
    obtain ⟨y1, y2, _⟩ := nm_of h5
    obtain ⟨z1, z2, _⟩ := nm_of h8
    refine ⟨PE.imp (pe_callB (call_isE ec hz hf) (gl_of h6) hb (by decide +kernel) (pa_cons (pe_var (i := i) h2 (vis_of h4) y1 y2) (pa_cons (pe_glob (v := .ref D) (gl_of h7) hn rfl z1) pa_nil rfl) rfl) (by decide) (by decide) rfl rfl) fun σ H Q h => ?_, rfl⟩
    exact ⟨.ref a, h.1, .ref D, .ref D, b, rfl, fun u r => r, hk, h.2⟩
  · cases hm
theorem pa_isas {i : Nat} {B : Addr} {x c : Str} (ec : ExcC X.K C) (hz : Zc (.ref C) none oe) (hf : ∃ vs, oe.data = .fields vs) (hb : X.mg (Str.ofString "isinstance") = none) (hc : X.mg c = some (.ref C)) :
    ∀ {ns : List Str} {es : List Expr}, mIsas X.N X.env.scope i ns es = true → (∀ n ∈ ns, ClsF X.K X.mg x c n) → PA (X.suite a ((a, oe) :: pn)) es (fun σ H Q => σ[i]? = some (some (.ref a)) ∧ Q (ns.map fun n => V.bl (decide (c = n))) H)
  | [], [], _, _ => PA.imp pa_nil fun σ H Q h => h.2
  | [], _ :: _, h, _ => by cases h
  | _ :: _, [], h, _ => by cases h
  | n :: ns, e :: es, h, hcl => by
    have h : (mIsa X.N X.env.scope i n e && mIsas X.N X.env.scope i ns es) = true := h
    rw [Bool.and_eq_true] at h
    obtain ⟨B', C', D, _, hC, hn, _, _, hk⟩ := (hcl n (by simp)).ex
    rw [hc] at hC
    cases hC
    obtain ⟨h1, h2⟩ := pe_isa (pn := pn) h.1 ec hz hf hb hn hk
    refine PA.imp (pa_cons h1 (pa_isas (B := B) ec hz hf hb hc h.2 fun m hm => hcl m (by simp [hm])) (star_plain h2)) fun σ H Q q => ?_
    exact ⟨q.1, q.1, q.2⟩
end
theorem shaped_bools (bs : List Bool) : SeqAt.shaped (.list (bs.map PyData.bool)) = true := by
  have h1 : ∀ bs : List Bool, PyData.canLayAll0 (bs.map PyData.bool) = true := by
    intro bs; induction bs with
    | nil => rfl
    | cons b bs ih => rw [List.map_cons, PyData.canLayAll0, ih]; rfl
  have h2 : ∀ bs : List Bool, PyData.depthAll (bs.map PyData.bool) = 0 := by
    intro bs; induction bs with
    | nil => rfl
    | cons b bs ih => rw [List.map_cons, PyData.depthAll, ih]; rfl
  unfold SeqAt.shaped
  simp only [PyData.canLay0, PyData.depth, h1, h2]
  decide
theorem hd_t {j : Nat} {n c : Str} (e : c = n) : hdEv (.isa j n) c = .ret (.bool true) := if_pos e
theorem hd_f {j : Nat} {n c : Str} (e : ¬ c = n) : hdEv (.isa j n) c = .bad := if_neg e
theorem hd_n {j : Nat} {ns : List Str} {c : Str} (e : ns.findIdx? (fun n => decide (c = n)) = none) : hdEv (.idx j ns) c = .bad := by
  show (match ns.findIdx? (fun n => decide (c = n)) with
    | some j => Fl.ret (.int (j : Nat))
    | none => .bad) = _
  rw [e]
theorem hd_s {j jj : Nat} {ns : List Str} {c : Str} (e : ns.findIdx? (fun n => decide (c = n)) = some jj) : hdEv (.idx j ns) c = .ret (.int (jj : Nat)) := by
  show (match ns.findIdx? (fun n => decide (c = n)) with
    | some j => Fl.ret (.int (j : Nat))
    | none => .bad) = _
  rw [e]
theorem hd3_n {i j : Nat} {n1 n2 n3 : List Str} {c : Str} (e : (n1 ++ n2 ++ n3).findIdx? (fun n => decide (c = n)) = none) : hdEv (.idx3 i j n1 n2 n3) c = .bad := by
  show (match (n1 ++ n2 ++ n3).findIdx? (fun n => decide (c = n)) with
    | some j => Fl.ret (.int (j : Nat))
    | none => .bad) = _
  rw [e]
theorem hd3_s {i j jj : Nat} {n1 n2 n3 : List Str} {c : Str} (e : (n1 ++ n2 ++ n3).findIdx? (fun n => decide (c = n)) = some jj) : hdEv (.idx3 i j n1 n2 n3) c = .ret (.int (jj : Nat)) := by
  show (match (n1 ++ n2 ++ n3).findIdx? (fun n => decide (c = n)) with
    | some j => Fl.ret (.int (j : Nat))
    | none => .bad) = _
  rw [e]
theorem hd_ret (h : Hd) (c : Str) : (∃ d, hdEv h c = .ret d) ∨ hdEv h c = .bad := by
  cases h with
  | idx j ns =>
    cases e : ns.findIdx? (fun n => decide (c = n)) with
    | none => exact .inr (hd_n e)
    | some jj => exact .inl ⟨_, hd_s e⟩
  | isa j n =>
    by_cases e : c = n
    · exact .inl ⟨_, hd_t e⟩
    · exact .inr (hd_f e)
  | idx3 i j n1 n2 n3 =>
    cases e : (n1 ++ n2 ++ n3).findIdx? (fun n => decide (c = n)) with
    | none => exact .inr (hd3_n e)
    | some jj => exact .inl ⟨_, hd3_s e⟩
theorem eqv_bool (a b : Bool) : PyData.eqv (.bool a) (.bool b) = decide (a = b) := by cases a <;> cases b <;> simp [PyData.eqv]
section
variable {X : Cx} {L : Lx} {E : XK} {F0 H0 : Hp}
/-- the clause's suite -/
theorem ps_hd {h : Hd} {suite : List Stmt} {k : Nat} {c x : Str} {C a : Addr} {oe : Obj} {pn : List (Addr × Obj)} {i : Nat} (hi : hdI h = i) (hm : mHd X.N X.env.scope h suite = true) (hr : Room k X.A) (hb : X.mg (Str.ofString "isinstance") = none)
    (hN : X.N.Nodup) (hcl : ∀ n ∈ hdNs h, ClsF X.K X.mg x c n) (hc : X.mg c = some (.ref C)) (ec : ExcC X.K C) (hz : Zc (.ref C) none oe) (hf : ∃ vs, oe.data = .fields vs) :
    PSs (X.suite a ((a, oe) :: pn)) suite (fun D σ H => (σ[i]? = some (some (.ref a)) ∧ σ.length = X.N.length) ∧ match hdEv h c with
      | .ret d => ∀ v H', Same H H' → (∀ K F, Dq K F v d) → D.rt v H'
      | _ => False) := by
  cases h with
  | isa j n =>
    have hi : j = i := hi
    subst hi
    unfold mHd at hm
    split at hm
    · rename_i heq
      cases heq
    · rename_i i' n' e pos heq
      cases heq
      obtain ⟨B, C', D, _, hC, hn, _, _, hk⟩ := (hcl n (by simp [hdNs])).ex
      rw [hc] at hC
      cases hC
      obtain ⟨h1, h2⟩ := pe_isa (pn := pn) hm ec hz hf hb hn hk
      refine PSs.imp (pss_one (ps_ret h1)) fun D σ H q => ?_
      obtain ⟨⟨q1, _⟩, q2⟩ := q
      refine ⟨q1, ?_⟩
      by_cases e : c = n
      · rw [hd_t e] at q2
        refine q2 _ _ (Same.refl H) fun K F => ?_
        rw [decide_eq_true e]
        exact .bl true
      · rw [hd_f e] at q2
        exact False.elim q2
    · rename_i heq
      cases heq
    · cases hm
  | idx j ns =>
    have hi : j = i := hi
    subst hi
    unfold mHd at hm
    split at hm
    · rename_i i' ns' ls lp nm ap kk cpos cp rp heq
      cases heq
      simp only [Bool.and_eq_true, decide_eq_true_eq] at hm
      obtain ⟨⟨⟨h1, h2⟩, h3⟩, h4⟩ := hm
      subst h1
      have hll : ns.length = ls.length := by
        have : ∀ {ns : List Str} {ls : List Expr}, mIsas X.N X.env.scope j ns ls = true → ns.length = ls.length := by
          intro ns
          induction ns with
          | nil => intro ls h; cases ls with
            | nil => rfl
            | cons _ _ => cases h
          | cons n ns ih => intro ls h; cases ls with
            | nil => cases h
            | cons e es =>
              have h : (mIsa X.N X.env.scope j n e && mIsas X.N X.env.scope j ns es) = true := h
              rw [Bool.and_eq_true] at h
              simp [ih h.2]
        exact this h3
      have hpa := pa_isas (X := X) (a := a) (pn := pn) (B := C) (x := x) ec hz hf hb hc h3 hcl
      have hu1 : (X.suite a ((a, oe) :: pn)).A.units + 65 < cLine := by
        have := hr.un
        show X.A.units + 65 < cLine
        omega
      refine PSs.imp (pss_one (ps_ret (pe_bm PySem.F.plainAttrs_list PySem.F.slot_list_index PySem.F.type_list_index (mt_indexD hu1) (pe_lst hpa) (pa_cons pe_bl pa_nil rfl) rfl rfl h2 rfl rfl))) fun D σ H q => ?_
      obtain ⟨⟨q1, _⟩, q2⟩ := q
      refine ⟨q1, ?_⟩
      cases q : ns.findIdx? (fun n => decide (c = n)) with
      | none => rw [hd_n q] at q2; exact False.elim q2
      | some jj =>
        rw [hd_s q] at q2
        refine ⟨lim_size (by rw [List.length_map]; show ns.length ≤ 1000000; omega), fun l hl => ⟨.inl ⟨rfl, _, .inl (.inl upd_same)⟩, ?_⟩⟩
        have hq : (ns.map fun n => PyData.bool (decide (c = n))).findIdx? (fun z => PyData.eqv z (.bool true)) = some jj := by
          rw [List.findIdx?_map]
          have : ((fun z => PyData.eqv z (PyData.bool true)) ∘ fun n => PyData.bool (decide (c = n))) = fun n => decide (c = n) := by
            funext n
            show PyData.eqv (.bool (decide (c = n))) (.bool true) = decide (c = n)
            rw [eqv_bool]
            cases decide (c = n) <;> rfl
          rw [this]; exact q
        obtain ⟨z, z1, z2, z3⟩ := findIdx_first hq
        have hd : ∀ (bs : List Bool) (H : Hp), DqAll X.K H (bs.map V.bl) (bs.map PyData.bool) := by
          intro bs H; induction bs with
          | nil => exact .nil
          | cons b bs ih => exact .cons (.bl b) ih
        have hd2 := hd (ns.map fun n => decide (c = n)) (upd H l (.lst (ns.map fun n => V.bl (decide (c = n)))))
        rw [List.map_map, List.map_map] at hd2
        have hsh := shaped_bools (ns.map fun n => decide (c = n))
        rw [List.map_map] at hsh
        exact ⟨l, .bl true, .bool true, ns.map fun n => PyData.bool (decide (c = n)), jj, z, rfl, rfl, Dq.dp _ _ (.lst (.inl upd_same) hd2), Dq.dp _ _ (.bl true), hsh, rfl, z1, z2, z3, q2 _ _ (same_upd hl) fun K F => .int _⟩
    · rename_i heq
      cases heq
    · rename_i heq
      cases heq
    · cases hm
  | idx3 i' j n1 n2 n3 =>
    have hi : i' = i := hi
    subst hi
    unfold mHd at hm
    split at hm
    · rename_i heq
      cases heq
    · rename_i heq
      cases heq
    · rename_i i0 j0 m1 m2 m3 f1 q1 l1 q2 q3 f2 q4 f3 q5 l2 q6 q7 q8 f4 q9 l3 q10 q11 nm ap kk q12 cp q13 heq
      cases heq
      simp only [Bool.and_eq_true, decide_eq_true_eq] at hm
      obtain ⟨⟨⟨⟨⟨⟨⟨⟨⟨⟨⟨⟨h1, h2⟩, h3⟩, h4⟩, h5⟩, h6⟩, h7⟩, h8⟩, h9⟩, h10⟩, h11⟩, h12⟩, h13⟩ := hm
      subst h1 h8 h9 h10
      obtain ⟨y1, y2, _⟩ := nm_of h12
      have hlk := locN_of h11
      have hlen : ∀ {ns : List Str} {ls : List Expr}, mIsas X.N X.env.scope i' ns ls = true → ns.length = ls.length := by
        intro ns
        induction ns with
        | nil => intro ls h; cases ls with
          | nil => rfl
          | cons _ _ => cases h
        | cons n ns ih => intro ls h; cases ls with
          | nil => cases h
          | cons e es =>
            have h : (mIsa X.N X.env.scope i' n e && mIsas X.N X.env.scope i' ns es) = true := h
            rw [Bool.and_eq_true] at h
            simp [ih h.2]
      have e1 := hlen h3
      have e2 := hlen h4
      have e3 := hlen h5
      have p1 := pa_isas (X := X) (a := a) (pn := pn) (B := C) (x := x) ec hz hf hb hc h3 (fun n hn => hcl n (by simp [hdNs, hn]))
      have p2 := pa_isas (X := X) (a := a) (pn := pn) (B := C) (x := x) ec hz hf hb hc h4 (fun n hn => hcl n (by simp [hdNs, hn]))
      have p3 := pa_isas (X := X) (a := a) (pn := pn) (B := C) (x := x) ec hz hf hb hc h5 (fun n hn => hcl n (by simp [hdNs, hn]))
      have hu1 : (X.suite a ((a, oe) :: pn)).A.units + 65 < cLine := by
        have := hr.un
        show X.A.units + 65 < cLine
        omega
      have hvj : ∀ {pos : Pos}, PE (X.suite a ((a, oe) :: pn)) (.Name f4 pos) (tVar j) := fun {pos} => pe_var (X := X.suite a ((a, oe) :: pn)) (i := j) h7 (.inl hlk) y1 y2
      refine PSs.imp (pss_cons (ps_set (i := j) hN h7 (.inl hlk) (pe_lst p1) rfl (.inr hlk)) (pss_cons (ps_set (i := j) hN h7 (.inl hlk) (pe_op op_catL hvj (pe_lst p2)) rfl (.inr hlk))
        (pss_one (ps_ret (pe_bm PySem.F.plainAttrs_list PySem.F.slot_list_index PySem.F.type_list_index (mt_indexD hu1) (pe_op op_catL hvj (pe_lst p3)) (pa_cons pe_bl pa_nil rfl) rfl rfl h2 rfl rfl))))) fun D σ H q => ?_
      obtain ⟨⟨q1, ql⟩, q2⟩ := q
      cases q : (n1 ++ n2 ++ n3).findIdx? (fun n => decide (c = n)) with
      | none => rw [hd3_n q] at q2; exact False.elim q2
      | some jj =>
        rw [hd3_s q] at q2
        generalize hb1 : (n1.map fun n => V.bl (decide (c = n))) = b1
        generalize hb2 : (n2.map fun n => V.bl (decide (c = n))) = b2
        generalize hb3 : (n3.map fun n => V.bl (decide (c = n))) = b3
        have s1 : b1.length = l1.length := by rw [← hb1, List.length_map, e1]
        have s2 : b2.length = l2.length := by rw [← hb2, List.length_map, e2]
        have s3 : b3.length = l3.length := by rw [← hb3, List.length_map, e3]
        have hij : ∀ (τ : SL) (v : Option V), (τ.set j v)[i']? = τ[i']? := fun τ v => List.getElem?_set_ne (fun z => h13 z.symm)
        have hjs : ∀ (τ : SL) (v : V), τ.length = σ.length → (τ.set j (some v))[j]? = some (some v) := fun τ v hl => List.getElem?_set_self (by rw [hl, ql]; exact (List.getElem?_eq_some_iff.mp h7).1)
        refine ⟨q1, lim_size (by show b1.length ≤ 1000000; omega), fun a1 k1 => ?_⟩
        refine ⟨.ref a1, hjs σ _ rfl, ?_⟩
        refine ⟨by rw [hij]; exact q1, lim_size (by show b2.length ≤ 1000000; omega), fun a2 k2 => ?_⟩
        have r1 : upd (upd H a1 (.lst b1)) a2 (.lst b2) a1 = some (.lst b1) := by
          rw [upd_ne (fun z => by rw [← z, upd_same] at k2; cases k2)]; exact upd_same
        refine ⟨a1, a2, b1, b2, rfl, rfl, .inl r1, .inl upd_same, lim_size (by show b1.length + b2.length ≤ 1000000; omega), fun a3 k3 => ?_⟩
        refine ⟨.ref a3, hjs _ _ (by rw [List.length_set]), ?_⟩
        refine ⟨by rw [hij, hij]; exact q1, lim_size (by show b3.length ≤ 1000000; omega), fun a4 k4 => ?_⟩
        have r3 : upd (upd (upd (upd H a1 (.lst b1)) a2 (.lst b2)) a3 (.lst (b1 ++ b2))) a4 (.lst b3) a3 = some (.lst (b1 ++ b2)) := by
          rw [upd_ne (fun z => by rw [← z, upd_same] at k4; cases k4)]; exact upd_same
        refine ⟨a3, a4, b1 ++ b2, b3, rfl, rfl, .inl r3, .inl upd_same, lim_size (by rw [List.length_append]; show b1.length + b2.length + b3.length ≤ 1000000; omega), fun a5 k5 => ?_⟩
        refine ⟨.inl ⟨rfl, _, .inl (.inl upd_same)⟩, ?_⟩
        have hcat : b1 ++ b2 ++ b3 = (n1 ++ n2 ++ n3).map fun n => V.bl (decide (c = n)) := by rw [List.map_append, List.map_append, hb1, hb2, hb3]
        have hq : ((n1 ++ n2 ++ n3).map fun n => PyData.bool (decide (c = n))).findIdx? (fun z => PyData.eqv z (.bool true)) = some jj := by
          rw [List.findIdx?_map]
          have : ((fun z => PyData.eqv z (PyData.bool true)) ∘ fun n => PyData.bool (decide (c = n))) = fun n => decide (c = n) := by
            funext n
            show PyData.eqv (.bool (decide (c = n))) (.bool true) = decide (c = n)
            rw [eqv_bool]
            cases decide (c = n) <;> rfl
          rw [this]; exact q
        obtain ⟨z, z1, z2, z3⟩ := findIdx_first hq
        have hd : ∀ (bs : List Bool) (H : Hp), DqAll X.K H (bs.map V.bl) (bs.map PyData.bool) := by
          intro bs H; induction bs with
          | nil => exact .nil
          | cons b bs ih => exact .cons (.bl b) ih
        have hd2 := hd ((n1 ++ n2 ++ n3).map fun n => decide (c = n)) (upd (upd (upd (upd (upd H a1 (.lst b1)) a2 (.lst b2)) a3 (.lst (b1 ++ b2))) a4 (.lst b3)) a5 (.lst (b1 ++ b2 ++ b3)))
        rw [List.map_map, List.map_map] at hd2
        have hsh := shaped_bools ((n1 ++ n2 ++ n3).map fun n => decide (c = n))
        rw [List.map_map] at hsh
        have hsame : Same H (upd (upd (upd (upd (upd H a1 (.lst b1)) a2 (.lst b2)) a3 (.lst (b1 ++ b2))) a4 (.lst b3)) a5 (.lst (b1 ++ b2 ++ b3))) := ((((same_upd k1).trans (same_upd k2)).trans (same_upd k3)).trans (same_upd k4)).trans (same_upd k5)
        refine ⟨a5, .bl true, .bool true, (n1 ++ n2 ++ n3).map fun n => PyData.bool (decide (c = n)), jj, z, rfl, rfl, Dq.dp _ _ (.lst (.inl (by rw [upd_same, hcat]; rfl)) hd2), Dq.dp _ _ (.bl true), hsh, rfl, z1, z2, z3, q2 _ _ hsame fun K F => .int _⟩
    · cases hm
/-- try: body; except x as n: the clause -/
theorem psTry {h : Hd} {body suite : List Stmt} {b0 : Stmt} {k : Nat} {x n : Str} {np pos pos' : Pos} {i : Nat} {f : Env → Fl} (hi : hdI h = i) (hst : X.stack = X.env :: X.outer) (hfr : X.env.frame = some X.env.locals) (hN : X.N.Nodup) (hn : X.N[i]? = some n) (hln : X.env.kindOf n = some .local) (hg : glB X.env.scope x = true) (hxm : nmB x = true)
    (hm : mHd X.N X.env.scope h (b0 :: suite) = true) (hr : Room k X.A) (hb : X.mg (Str.ofString "isinstance") = none) (tk : Takes X (fun cls d _ H => E cls d H)) {Bx : Addr} (hx : X.mg x = some (.ref Bx))
    (hcl : ∀ c n, c ∈ hdNs h → n ∈ hdNs h → ClsF X.K X.mg x c n)
    (hbody : ∀ (W : WX) (pn : List (Addr × Obj)) (xe : Value → Shared → Prop), Takes (X.tr pn xe) W → PassesOwn (model X.prog X.w) X.A X.env xe → PSs (X.tr pn xe) body (tPS X.K L X.mg (EW X W) F0 H0 f)) :
    PS X (.Try body [.ExceptHandler (some (.Name x np)) (some n) (b0 :: suite) pos'] [] [] pos) (tPS X.K L X.mg E F0 H0 fun r => tryF h (f r)) := by
  obtain ⟨x1, x2, _⟩ := nm_of hxm
  refine PS.imp (ps_try_as (i := i) (c := .ref Bx) (Wout := fun cls d _ H => E cls d H) (tb := fun W => tPS X.K L X.mg (EW X W) F0 H0 f)
    (ts := fun a cls d D σ H => ∃ (c : Str) (C : Addr), cls = .ref C ∧ d = none ∧ X.mg c = some (.ref C) ∧ c ∈ hdNs h ∧ ExcC X.K C ∧ (σ[i]? = some (some (.ref a)) ∧ σ.length = X.N.length) ∧ match hdEv h c with
      | .ret d => ∀ v H', Same H H' → (∀ K F, Dq K F v d) → D.rt v H'
      | _ => False) hst hfr hN hn hln ⟨gl_of hg, x1, .inl hx⟩ tk hbody ?_) fun B σ H q => ?_
  · intro a oe cls d pn hz hf
    refine ⟨fun pins s σ H D I q => ?_⟩
    obtain ⟨c, C, rfl, rfl, hc, hmem, ec, hs, hq⟩ := q
    exact (ps_hd (a := a) (oe := oe) (pn := pn) (x := x) hi hm hr hb hN (fun n hn => hcl c n hmem hn) hc ec hz hf).run pins s σ H D I ⟨hs, hq⟩
  · obtain ⟨r, F, d, q⟩ := q
    refine ⟨r, F, d, ?_⟩
    have q : ResF X.K L X.mg E F0 H0 F (tryF h (f r)) B := q
    cases e : f r with
    | next r' => rw [e] at q; exact q
    | ret v => rw [e] at q; exact q
    | brk r' => rw [e] at q; exact q
    | bad => rw [e] at q; exact q
    | exc c =>
      rw [e] at q
      have q : ResF X.K L X.mg E F0 H0 F (hdEv h c) B := q
      intro C H1 hc s1 σ' hl
      have hmem : c ∈ hdNs h := by
        cases h with
        | idx j ns =>
          cases w : ns.findIdx? (fun n => decide (c = n)) with
          | none => rw [hd_n w] at q; exact False.elim q
          | some jj =>
            obtain ⟨z, z1, z2, _⟩ := findIdx_first w
            have : c = z := of_decide_eq_true z2
            rw [this]; exact List.mem_of_getElem? z1
        | isa j n =>
          by_cases w : c = n
          · simp [hdNs, w]
          · rw [hd_f w] at q; exact False.elim q
        | idx3 i j n1 n2 n3 =>
          cases w : (n1 ++ n2 ++ n3).findIdx? (fun n => decide (c = n)) with
          | none => rw [hd3_n w] at q; exact False.elim q
          | some jj =>
            obtain ⟨z, z1, z2, _⟩ := findIdx_first w
            have : c = z := of_decide_eq_true z2
            rw [this]; exact List.mem_of_getElem? z1
      obtain ⟨B', C', N', hB, hC, _, hexm, hec, _⟩ := (hcl c c hmem hmem).ex
      rw [hx] at hB
      cases hB
      rw [hc] at hC
      cases hC
      refine ⟨true, hexm, fun _ a ha => ⟨c, C, rfl, rfl, hc, hmem, hec, ?_, ?_⟩, fun z => by cases z⟩
      · have : i < σ'.length := by
          rw [hl]
          exact (List.getElem?_eq_some_iff.mp hn).1
        exact ⟨by rw [List.getElem?_set_self this], by rw [List.length_set]; exact hl⟩
      · rcases hd_ret h c with ⟨v, w⟩ | w
        · rw [w] at q ⊢
          exact fun u H' s2 dv => q u H' (s1.trans s2) (dv _ _)
        · rw [w] at q
          exact False.elim q
end
end BB

/-! ## the pure layer 14: statements are sound; a def keeps its promise -/
namespace BB
open PySem PySem.Spec PyProof.Rows L2
def isStar : Expr → Bool
  | .Starred .. => true
  | _ => false
def nmLoc (sc : Scope) (line : Nat) : Expr → Option Str
  | .Name id pos => if (sc.names.lookup id == some .local && pos.line == line) = true then some id else none
  | _ => none
def lineOf (ts : List Expr) : Nat := (ts.head?.map (·.pos.line)).getD 0
def namesOf (sc : Scope) (ts : List Expr) : List Str := ts.filterMap (nmLoc sc (lineOf ts))
theorem sw_eq {env : PySem.Env} {ts vs : List Expr} {k k2 : Nat} {p p2 : Pos} (hk : env.scope.kind = .function) : swappedStores [.Tuple ts k p] (.Tuple vs k2 p2) env =
    (if (!(ts.length == 2 || ts.length == 3) || vs.length != ts.length) = true then pure none else
      if (vs.any isStar) = true then pure none else
      if ((namesOf env.scope ts).length != ts.length || (namesOf env.scope ts).eraseDups.length != (namesOf env.scope ts).length) = true then pure none else
      if (vs.all (foldedForSure 8)) = true then pure none else
      if (vs.all (constantsAlone 8)) = true then unsupported "assign.tuple-of-constant-expressions:order-of-the-stores" else pure (some (namesOf env.scope ts))) := by
  have hb : (env.blockKind != .function) = false := by unfold Env.blockKind; rw [hk]; rfl
  unfold swappedStores
  simp only [hb, Bool.or_false]
  rfl
/-- through a tuple | stored one by one -/
def swNone (sc : Scope) (ts vs : List Expr) : Bool := (!(ts.length == 2 || ts.length == 3) || vs.length != ts.length) || (vs.any isStar) || ((namesOf sc ts).length != ts.length || (namesOf sc ts).eraseDups.length != (namesOf sc ts).length) || (vs.all (foldedForSure 8))
def swSome (sc : Scope) (ts vs : List Expr) : Bool := !swNone sc ts vs && !(vs.all (constantsAlone 8))
theorem sw_none {env : PySem.Env} {ts vs : List Expr} {k k2 : Nat} {p p2 : Pos} (hk : env.scope.kind = .function) (h : swNone env.scope ts vs = true) : swappedStores [.Tuple ts k p] (.Tuple vs k2 p2) env = pure none := by
  rw [sw_eq hk]
  unfold swNone at h
  generalize (!(ts.length == 2 || ts.length == 3) || vs.length != ts.length) = a at h ⊢
  generalize vs.any isStar = b at h ⊢
  generalize ((namesOf env.scope ts).length != ts.length || (namesOf env.scope ts).eraseDups.length != (namesOf env.scope ts).length) = c at h ⊢
  generalize vs.all (foldedForSure 8) = d at h ⊢
  cases a <;> cases b <;> cases c <;> cases d <;> first | rfl | cases h
theorem sw_some {env : PySem.Env} {ts vs : List Expr} {k k2 : Nat} {p p2 : Pos} (hk : env.scope.kind = .function) (h : swSome env.scope ts vs = true) : swappedStores [.Tuple ts k p] (.Tuple vs k2 p2) env = pure (some (namesOf env.scope ts)) := by
  rw [sw_eq hk]
  unfold swSome swNone at h
  generalize (!(ts.length == 2 || ts.length == 3) || vs.length != ts.length) = a at h ⊢
  generalize vs.any isStar = b at h ⊢
  generalize ((namesOf env.scope ts).length != ts.length || (namesOf env.scope ts).eraseDups.length != (namesOf env.scope ts).length) = c at h ⊢
  generalize vs.all (foldedForSure 8) = d at h ⊢
  generalize vs.all (constantsAlone 8) = e at h ⊢
  cases a <;> cases b <;> cases c <;> cases d <;> cases e <;> first | rfl | cases h
def isLC : Expr → Bool
  | .ListComp .. => true
  | .SetComp .. => true
  | .DictComp .. => true
  | _ => false
theorem swap_lc {e : Expr} {t : Option Expr} {n : Nat} {env : PySem.Env} (h : isLC e = false) : swapsWith e t n env = pure false := by
  cases e <;> first | rfl | cases h
theorem swap_tup {e : Expr} {ts : List Expr} {k : Nat} {p : Pos} {n : Nat} {env : PySem.Env} : swapsWithSole [.Tuple ts k p] e n env = pure false := by
  cases e <;> rfl
def notTup : Expr → Bool
  | .Tuple .. => false
  | _ => true
theorem sw_notTup {e : Expr} {t : Expr} {env : PySem.Env} (h : notTup e = true) : swappedStores [t] e env = pure none := by
  cases e <;> first | (cases h; done) | (cases t <;> rfl)
/-! ### the matcher -/
def qAsg (f : Str → Expr → Bool) (s : Stmt) : Bool := match s with
  | .Assign [.Name x _] l _ => f x l
  | _ => false
theorem qAsg_inv {f : Str → Expr → Bool} {s : Stmt} (h : qAsg f s = true) : ∃ x p l q, s = .Assign [.Name x p] l q ∧ f x l = true := by
  unfold qAsg at h
  split at h
  · exact ⟨_, _, _, _, rfl, h⟩
  · cases h
def qTup (f : List Expr → Expr → Bool) (s : Stmt) : Bool := match s with
  | .Assign [.Tuple ts _ _] l _ => f ts l
  | _ => false
theorem qTup_inv {f : List Expr → Expr → Bool} {s : Stmt} (h : qTup f s = true) : ∃ ts k p l q, s = .Assign [.Tuple ts k p] l q ∧ f ts l = true := by
  unfold qTup at h
  split at h
  · exact ⟨_, _, _, _, _, rfl, h⟩
  · cases h
def qLst (f : List Expr → Bool) (e : Expr) : Bool := match e with
  | .List ls _ => f ls
  | _ => false
theorem qLst_inv {f : List Expr → Bool} {s : Expr} (h : qLst f s = true) : ∃ ls p, s = .List ls p ∧ f ls = true := by
  unfold qLst at h
  split at h
  · exact ⟨_, _, rfl, h⟩
  · cases h
def qNm (f : Str → Bool) (e : Expr) : Bool := match e with
  | .Name x _ => f x
  | _ => false
theorem qNm_inv {f : Str → Bool} {s : Expr} (h : qNm f s = true) : ∃ ls p, s = .Name ls p ∧ f ls = true := by
  unfold qNm at h
  split at h
  · exact ⟨_, _, rfl, h⟩
  · cases h
def qTpl (f : List Expr → Bool) (e : Expr) : Bool := match e with
  | .Tuple ls _ _ => f ls
  | _ => false
theorem qTpl_inv {f : List Expr → Bool} {s : Expr} (h : qTpl f s = true) : ∃ ls k p, s = .Tuple ls k p ∧ f ls = true := by
  unfold qTpl at h
  split at h
  · exact ⟨_, _, _, rfl, h⟩
  · cases h
def qNil1 (f : List Expr → Bool) (es : List Expr) : Bool := match es with
  | .List [] _ :: es => f es
  | _ => false
theorem qNil1_inv {f : List Expr → Bool} {s : List Expr} (h : qNil1 f s = true) : ∃ p es, s = .List [] p :: es ∧ f es = true := by
  unfold qNil1 at h
  split at h
  · exact ⟨_, _, rfl, h⟩
  · cases h
def isNilL : Expr → Bool
  | .List [] _ => true
  | _ => false
def qLast (f : List Expr → Bool) (s : List Expr) : Bool := match s.getLast? with
  | some l => isNilL l && f s.dropLast
  | none => false
theorem qLast_inv {f : List Expr → Bool} {s : List Expr} (h : qLast f s = true) : ∃ p es, s = es ++ [.List [] p] ∧ f es = true := by
  unfold qLast at h
  split at h
  · rename_i l q
    rw [Bool.and_eq_true] at h
    obtain ⟨es, rfl⟩ := List.getLast?_eq_some_iff.mp q
    have h1 := h.1
    unfold isNilL at h1
    split at h1
    · rename_i p
      exact ⟨p, es, rfl, by simpa using h.2⟩
    · cases h1
  · cases h
def qAttr (f : Str → Str → Pos → Bool) (e : Expr) : Bool := match e with
  | .Attribute (.Name x _) nm ap => f x nm ap
  | _ => false
theorem qAttr_inv {f : Str → Str → Pos → Bool} {s : Expr} (h : qAttr f s = true) : ∃ x p nm ap, s = .Attribute (.Name x p) nm ap ∧ f x nm ap = true := by
  unfold qAttr at h
  split at h
  · exact ⟨_, _, _, _, rfl, h⟩
  · cases h
def qCall1 (f : Expr → Expr → Pos → Bool) (e : Expr) : Bool := match e with
  | .Call g [l] [] p => f g l p
  | _ => false
theorem qCall1_inv {f : Expr → Expr → Pos → Bool} {s : Expr} (h : qCall1 f s = true) : ∃ g l p, s = .Call g [l] [] p ∧ f g l p = true := by
  unfold qCall1 at h
  split at h
  · exact ⟨_, _, _, rfl, h⟩
  · cases h
def qExp (f : Expr → Bool) (s : Stmt) : Bool := match s with
  | .Expr l _ => f l
  | _ => false
theorem qExp_inv {f : Expr → Bool} {s : Stmt} (h : qExp f s = true) : ∃ l p, s = .Expr l p ∧ f l = true := by
  unfold qExp at h
  split at h
  · exact ⟨_, _, rfl, h⟩
  · cases h
def qApp (m : String) (f : Str → Expr → Bool) (s : Stmt) : Bool := qExp (qCall1 fun g l cp => qAttr (fun x nm ap => decide (nm = Str.ofString m) && f x l && (ap.endLine == cp.line)) g) s
def qIf (f : Expr → List Stmt → List Stmt → Bool) (s : Stmt) : Bool := match s with
  | .If u a b _ => f u a b
  | _ => false
theorem qIf_inv {f : Expr → List Stmt → List Stmt → Bool} {s : Stmt} (h : qIf f s = true) : ∃ u a b p, s = .If u a b p ∧ f u a b = true := by
  unfold qIf at h
  split at h
  · exact ⟨_, _, _, _, rfl, h⟩
  · cases h
def qFor (f : Expr → Expr → List Stmt → Bool) (s : Stmt) : Bool := match s with
  | .For u a b [] _ => f u a b
  | _ => false
theorem qFor_inv {f : Expr → Expr → List Stmt → Bool} {s : Stmt} (h : qFor f s = true) : ∃ u a b p, s = .For u a b [] p ∧ f u a b = true := by
  unfold qFor at h
  split at h
  · exact ⟨_, _, _, _, rfl, h⟩
  · cases h
def qWhl (f : Expr → List Stmt → Bool) (s : Stmt) : Bool := match s with
  | .While u b [] _ => f u b
  | _ => false
theorem qWhl_inv {f : Expr → List Stmt → Bool} {s : Stmt} (h : qWhl f s = true) : ∃ u b p, s = .While u b [] p ∧ f u b = true := by
  unfold qWhl at h
  split at h
  · exact ⟨_, _, _, rfl, h⟩
  · cases h
def qTry (f : List Stmt → Str → Str → Stmt → List Stmt → Bool) (s : Stmt) : Bool := match s with
  | .Try body [.ExceptHandler (some (.Name x _)) (some n) (b0 :: suite) _] [] [] _ => f body x n b0 suite
  | _ => false
theorem qTry_inv {f : List Stmt → Str → Str → Stmt → List Stmt → Bool} {s : Stmt} (h : qTry f s = true) : ∃ body x n b0 suite np p p', s = .Try body [.ExceptHandler (some (.Name x np)) (some n) (b0 :: suite) p'] [] [] p ∧ f body x n b0 suite = true := by
  unfold qTry at h
  split at h
  · exact ⟨_, _, _, _, _, _, _, _, rfl, h⟩
  · cases h
def qRet (f : Expr → Bool) (s : Stmt) : Bool := match s with
  | .Return (some l) _ => f l
  | _ => false
theorem qRet_inv {f : Expr → Bool} {s : Stmt} (h : qRet f s = true) : ∃ l p, s = .Return (some l) p ∧ f l = true := by
  unfold qRet at h
  split at h
  · exact ⟨_, _, rfl, h⟩
  · cases h
def qRetN (s : Stmt) : Bool := match s with
  | .Return none _ => true
  | _ => false
theorem qRetN_inv {s : Stmt} (h : qRetN s = true) : ∃ p, s = .Return none p := by
  unfold qRetN at h
  split at h
  · exact ⟨_, rfl⟩
  · cases h
def qBrk (s : Stmt) : Bool := match s with
  | .Break _ => true
  | _ => false
theorem qBrk_inv {s : Stmt} (h : qBrk s = true) : ∃ p, s = .Break p := by
  unfold qBrk at h
  split at h
  · exact ⟨_, rfl⟩
  · cases h
def qPass (s : Stmt) : Bool := match s with
  | .Pass _ => true
  | _ => false
theorem qPass_inv {s : Stmt} (h : qPass s = true) : ∃ p, s = .Pass p := by
  unfold qPass at h
  split at h
  · exact ⟨_, rfl⟩
  · cases h
def qRse (f : Expr → Bool) (s : Stmt) : Bool := match s with
  | .Raise (some l) none _ => f l
  | _ => false
theorem qRse_inv {f : Expr → Bool} {s : Stmt} (h : qRse f s = true) : ∃ l p, s = .Raise (some l) none p ∧ f l = true := by
  unfold qRse at h
  split at h
  · exact ⟨_, _, rfl, h⟩
  · cases h
def qCst (e : Expr) : Bool := match e with
  | .Constant (.str _) _ _ => true
  | _ => false
theorem qCst_inv {s : Expr} (h : qCst s = true) : ∃ m j p, s = .Constant (.str m) j p := by
  unfold qCst at h
  split at h
  · exact ⟨_, _, _, rfl⟩
  · cases h
def qSeq (f : Stmt → List Stmt → Bool) (ss : List Stmt) : Bool := match ss with
  | s :: ss => f s ss
  | _ => false
theorem qSeq_inv {f : Stmt → List Stmt → Bool} {ss : List Stmt} (h : qSeq f ss = true) : ∃ s r, ss = s :: r ∧ f s r = true := by
  cases ss with
  | nil => cases h
  | cons s r => exact ⟨s, r, rfl, h⟩
/-- a list ahead -/
def qLst1 (f : List Expr → List Expr → Bool) (vs : List Expr) : Bool := match vs with
  | .List ls _ :: vs' => f ls vs'
  | _ => false
theorem qLst1_inv {f : List Expr → List Expr → Bool} {vs : List Expr} (h : qLst1 f vs = true) : ∃ ls p vs', vs = .List ls p :: vs' ∧ f ls vs' = true := by
  unfold qLst1 at h
  split at h
  · exact ⟨_, _, _, rfl, h⟩
  · cases h
/-- x + e -/
def qPlus (f : Str → Expr → Bool) (l : Expr) : Bool := match l with
  | .BinOp (.Name x _) .Add r _ => f x r
  | _ => false
theorem qPlus_inv {f : Str → Expr → Bool} {l : Expr} (h : qPlus f l = true) : ∃ x p r pos, l = .BinOp (.Name x p) .Add r pos ∧ f x r = true := by
  unfold qPlus at h
  split at h
  · exact ⟨_, _, _, _, rfl, h⟩
  · cases h
/-- e[:n] -/
def qTake (f : Expr → Bool) (n : Nat) (l : Expr) : Bool := match l with
  | .Subscript a (.Slice none (some (.Constant (.int k) _ _)) none _) _ => f a && decide (k = (n : Int))
  | _ => false
theorem qTake_inv {f : Expr → Bool} {n : Nat} {l : Expr} (h : qTake f n l = true) : ∃ a j p1 p2 p3, l = .Subscript a (.Slice none (some (.Constant (.int (n : Int)) j p1)) none p2) p3 ∧ f a = true := by
  unfold qTake at h
  split at h
  · obtain ⟨h1, h2⟩ := and2 h
    cases (of_decide_eq_true h2)
    exact ⟨_, _, _, _, _, rfl, h1⟩
  · cases h
end BB

/-! ## lambdas 1: a lambda is made and known from now on -/
namespace BB
open PySem PySem.Spec PyProof.Rows L2 LamX
/-- the function object of a lambda, its closure cl, its code object c -/
def LamO (f : Addr) (q : Str) (ps : Arguments) (body : Expr) (sc : Scope) (cl : List (Str × Addr)) (c : Addr) : HO :=
  .ext fun h => ∃ pm ctv, h.get? f = some (PySem.W.kla_obj "<lambda>" q ps body sc cl pm c ctv)
theorem lamO_tbl {f c : Addr} {q : Str} {ps : Arguments} {body : Expr} {sc : Scope} {cl : List (Str × Addr)} (t : Array Value) : LamO f q ps body sc cl c ≠ .tbl t := fun z => by
  unfold LamO at z
  cases z
/-- the name that lambdas of a frame bear -/
abbrev lamQ (X : Cx) : Str := X.env.qual ++ "<lambda>"
abbrev lamC (X : Cx) (sc : Scope) : List (Str × Addr) := cloFrom X.env.cells sc.names []
/-- all but the tables of T stays -/
def ExtT (T : List (Addr × Str)) (H H1 : Hp) : Prop := ∀ b o, H b = some o → (∀ p ∈ T, p.1 ≠ b) → H1 b = some o
theorem ExtT.of {T : List (Addr × Str)} {H H1 : Hp} (s : Same H H1) : ExtT T H H1 := fun b o e _ => s b o e
theorem ExtT.trans {T : List (Addr × Str)} {H H1 H2 : Hp} (a : ExtT T H H1) (b : ExtT T H1 H2) : ExtT T H H2 := fun c o e n => b c o (a c o e n) n
/-- what the making of a lambda leaves -/
structure MkL (T : List (Addr × Str)) (q : Str) (ps : Arguments) (body : Expr) (sc : Scope) (cl : List (Str × Addr)) (H : Hp) (f c : Addr) (H1 : Hp) : Prop where
  ext : ExtT T H H1
  tab : Tabs T H1
  new : H f = none
  fn : H1 f = some (LamO f q ps body sc cl c)
  cd : H1 c = some (CodeO c q)
def tMkL (T : List (Addr × Str)) (q : Str) (ps : Arguments) (body : Expr) (sc : Scope) (cl : List (Str × Addr)) : TE := fun _ H Q => Tabs T H ∧ ∀ f c H1, MkL T q ps body sc cl H f c H1 → Q (.ref f) H1
section
variable {X : Cx}
/-- the function object is laid -/
theorem lam_laid {pins : List (Addr × Obj)} {σ : L2.St} {H : Hp} {s : Shared} {q : Str} {ps : Arguments} {body : Expr} {sc : Scope} {cl : List (Str × Addr)} {pm ctv : Value} {c : Addr} {t' : Nat} (I : Inv X pins σ H s) :
    Inv X pins σ (upd H s.heap.objs.size (LamO s.heap.objs.size q ps body sc cl c)) { s with heap := s.heap.push (PySem.W.kla_obj "<lambda>" q ps body sc cl pm c ctv), toks := t' } := by
  have at_ : (s.heap.push (PySem.W.kla_obj "<lambda>" q ps body sc cl pm c ctv)).get? s.heap.objs.size = some (PySem.W.kla_obj "<lambda>" q ps body sc cl pm c ctv) := Heap.get?_push_size _ rfl
  refine I.laid (fun b o e => Heap.get?_push_of_some _ e) (Nat.le_refl _) ?_
  unfold LamO
  exact ⟨⟨pm, ctv, at_⟩, ⟨_, at_⟩, fun h1 h2 ⟨a, b, e⟩ k => ⟨a, b, k _ e⟩⟩
theorem pe_lam {T : List (Addr × Str)} {c P : Addr} {ps : Arguments} {body : Expr} {sc : Scope} {pos : Pos} (TB : TabB X.base X.mg c P) (hcode : X.env.code = .ref c) (hm : (P, lamQ X) ∈ T) (hu : ∀ p ∈ T, p.1 = P → p.2 = lamQ X)
    (L : LamS X.env.scope sc) (hdef : defaultsOf ps X.env = ([], [])) : PE X (.Lambda ps body sc pos) (tMkL T (lamQ X) ps body sc (lamC X sc)) := by
  refine ⟨fun pins s σ H Q I h => ?_⟩
  obtain ⟨hT, h⟩ := h
  obtain ⟨tb, hP, tr, am⟩ := hT _ hm
  have hfree := L.has I.ok
  have bP := TB.bm.keeps I.bk
  have hP' : s.heap.get? P = some { cls := .none, data := .fields tb } := I.hok P _ hP
  refine PySem.W.kla_eval hdef ?_
  cases hc : codeAmong pos tb.toList with
  | some cv =>
    obtain ⟨c1, rfl, hco⟩ := am pos cv hc
    refine PySem.W.kla_makeFunctionHit (mg := X.mg) (c := c) (P := P) (ps := tb) (closure_ok hfree) I.ok.glob (I.mod.glob.keeps I.bk) hcode (TB.code.keeps I.bk) hP' tr hc bP fun ctv h' tk hx hsz => ?_
    have J : Inv X pins σ H { s with heap := h', toks := tk } := I.kept hx
    have n : H h'.objs.size = none := J.hok.fresh (Nat.le_refl _)
    have sm : Same H (upd H h'.objs.size (LamO h'.objs.size (lamQ X) ps body sc (lamC X sc) c1)) := same_upd n
    refine ⟨.ref h'.objs.size, _, lam_laid (t' := tk) J, rfl, h h'.objs.size c1 _ ⟨ExtT.of sm, hT.ext sm, n, upd_same, sm _ _ hco⟩⟩
  | none =>
    refine PySem.W.kla_makeFunction (mg := X.mg) (c := c) (P := P) (ps := tb) (closure_ok hfree) I.ok.glob (I.mod.glob.keeps I.bk) hcode (TB.code.keeps I.bk) hP' tr hc TB.gP bP fun c1 ctv h' tk hx hge hlt hrec htb => ?_
    obtain ⟨_, oc, vs, t, e2, hoc, hd, hv⟩ := hrec
    cases e2
    have J := inv_table (t' := tk) (more := #[rawInt pos.line, rawInt pos.col, .ref c1]) (h' := h') (q := lamQ X) I hP hx htb hge ⟨oc, vs, t, hoc, hd, hv⟩
    have nC : H c1 = none := I.hok.fresh hge
    have nf : H h'.objs.size = none := I.hok.fresh (Nat.le_trans hge (Nat.le_of_lt hlt))
    obtain ⟨H1, hH1⟩ : ∃ H1, H1 = upd (upd H P (.tbl (tb ++ #[rawInt pos.line, rawInt pos.col, .ref c1]))) c1 (CodeO c1 (lamQ X)) := ⟨_, rfl⟩
    rw [← hH1] at J
    have n1 : H1 h'.objs.size = none := J.hok.fresh (Nat.le_refl _)
    have cP : P ≠ c1 := ne_of_none hP nC
    have vC : H1 c1 = some (CodeO c1 (lamQ X)) := by rw [hH1]; exact upd_same
    have vP : H1 P = some (.tbl (tb ++ #[rawInt pos.line, rawInt pos.col, .ref c1])) := by rw [hH1, upd_ne cP, upd_same]
    have vO : ∀ b o, H b = some o → b ≠ P → H1 b = some o := fun b o e hb => by rw [hH1, upd_ne (ne_of_none e nC), upd_ne hb]; exact e
    have eN : ExtN H H1 := fun b o e no => vO b o e fun z => by
      subst z
      rw [hP] at e
      cases e
      exact no _ rfl
    have lst : (tb ++ #[rawInt pos.line, rawInt pos.col, .ref c1]).toList = tb.toList ++ [rawInt pos.line, rawInt pos.col, .ref c1] := by simp
    have T1 : Tabs T H1 := fun p hp => by
      by_cases hb : p.1 = P
      · rw [hu p hp hb, hb]
        refine ⟨_, vP, by rw [lst]; exact PySem.TriplesOk_snoc _ _ _ _ tr, fun p' cv hcv => ?_⟩
        rw [lst] at hcv
        rcases among_app _ tr hcv with z | z
        · obtain ⟨c0, e1, e2⟩ := am p' cv z
          exact ⟨c0, e1, eN _ _ e2 codeO_ne⟩
        · exact ⟨c1, z, vC⟩
      · obtain ⟨ts, a1, a2, a3⟩ := hT p hp
        refine ⟨ts, vO _ _ a1 hb, a2, fun p' cv hcv => ?_⟩
        obtain ⟨c0, e1, e2⟩ := a3 p' cv hcv
        exact ⟨c0, e1, eN _ _ e2 codeO_ne⟩
    have sm : Same H1 (upd H1 h'.objs.size (LamO h'.objs.size (lamQ X) ps body sc (lamC X sc) c1)) := same_upd n1
    exact ⟨.ref h'.objs.size, _, lam_laid (t' := tk) J, rfl, h h'.objs.size c1 _ ⟨ExtT.trans (fun b o e n => vO b o e fun z => n _ hm z.symm) (ExtT.of sm), T1.ext sm, nf, upd_same, sm _ _ vC⟩⟩
end
end BB

/-! ## lambdas 2: a def that names the class of a caught exception, called in an except suite -/
namespace BB
open PySem PySem.Spec PyProof.Rows L2 L2H
/-! ### statements one by one: from P to Q; a body: from P to what it returns -/
def HS (X : Cx) (s : Stmt) (P Q : SL → Hp → Prop) : Prop := PS X s fun D σ H => P σ H ∧ ∀ σ' H', Q σ' H' → D.nx σ' H'
def HT (X : Cx) (ss : List Stmt) (P : SL → Hp → Prop) (R : VK) : Prop := PSs X ss fun D σ H => P σ H ∧ ∀ v H', R v H' → D.rt v H'
section
variable {X : Cx} {P Q : SL → Hp → Prop} {R : VK}
theorem HT.cons {s : Stmt} {ss : List Stmt} (h : HS X s P Q) (k : HT X ss Q R) : HT X (s :: ss) P R := PSs.imp (pss_cons h k) fun D σ H ⟨p, r⟩ => ⟨p, fun σ' H' q => ⟨q, r⟩⟩
theorem pss_no (ss : List Stmt) : PSs X ss fun _ _ _ => False := ⟨fun _ _ _ _ _ _ h => h.elim⟩
/-! ### lists of bools: count(True) -/
theorem vals_bl : ∀ {bs : List Bool} {us : List Value}, Vals (bs.map V.bl) us → us = bs.map Value.bool
  | [], _, h => by cases h; rfl
  | b :: bs, _, h => by
    cases h with
    | cons a t => rw [vals_bl t, show _ = Value.bool b from a]; rfl
def isB (v : Value) : Bool := match v with
  | .bool b => b == true
  | _ => false
theorem isB_count : ∀ bs : List Bool, (bs.map Value.bool).countP isB = bs.count true
  | [] => rfl
  | b :: bs => by
    rw [List.map_cons, List.countP_cons, List.count_cons, isB_count bs]
    rfl
def rCntB : V → List V → Hp → VK → Prop := fun x xs H Q => ∃ (l : Addr) (bs : List Bool), x = .ref l ∧ xs = [.bl true] ∧ H l = some (.lst (bs.map V.bl)) ∧ Q (.int (bs.count true : Nat)) H
theorem mt_countB : MtR X "list.count" rCntB := by
  intro pins s σ H x xs v us Q I rx rxs h
  obtain ⟨l, bs, rfl, rfl, hH, q⟩ := h
  cases rx
  obtain ⟨u, rfl, ru⟩ := rxs.one
  cases ru
  obtain ⟨z, its, n, rv, hl, e⟩ := I.lstM hH
  have hi := vals_bl rv
  subst hi
  refine call_meets PySem.F.slot_list_count ⟨_, e, rfl⟩ PySem.F.entry_list_count (PySem.F.args_list_count_2 _ _)
    (SeqAt.list_countAt l (bs.map Value.bool).toArray n none #[] (.bool true) isB) ⟨e, fun y hy => ?_, ?_⟩
  · have hy : y ∈ bs.map Value.bool := by simpa using hy
    obtain ⟨b, _, rfl⟩ := List.mem_map.mp hy
    exact SeqAt.EqAt.bool_bool b true
  · refine ⟨.int (bs.count true : Nat), H, I.tok _, ⟨s.toks, ?_⟩, q⟩
    show Value.int (((bs.map Value.bool).countP isB : Nat) : Int) s.toks = _
    rw [isB_count]
end
/-! ### the called def -/
section
variable {P : Program} {w : World} {K : Frag} {mg : Str → Option Value} {base : Heap}
/-- a def that is called in an except suite, its body read in a context that bears the exception -/
theorem hot_call {k : Nat} {f : Addr} {nm ql : Str} {pa : Arguments} {body : List Stmt} {sc : Scope} {v1 v2 v3 v4 v5 v6 v7 : Value} {o1 o2 : Option Addr} {o3 : Array (Option Value)} {N ps : List Str} (lk : K.lookup f = some ⟨v7, o2, .func (PySem.W.fnOf nm ql pa body sc v1 v2 v3 v4 o1 v5 v6), o3⟩)
    (hcd : PySem.W.codeIn K v5 ql = true) (S : FnScope N ps sc) {A : Around} {outer : List PySem.Env} {s : Shared} {H : Hp} {args : Args} {us : List Value} {vs : List V} {Q : VK} {p : Addr × Obj} (hr : RoomH (k + 1) A) (hp : PinOk outer H s p) (e0 : Env0 P w K mg base A outer s H)
    (hb : BindsTo s (PySem.W.fnOf nm ql pa body sc v1 v2 v3 v4 o1 v5 v6) args (ps.zip us)) (rv : Vals vs us) (hl : vs.length = ps.length) {t : TS}
    (ht : RoomH k (A.deeper (envOfC ql sc s.heap.objs.size f v5)) → PSs (cxH (L2.CX P w) P w K mg base N ql sc f v5 A outer s H E0 p) body t) (hq : t ⟨fun _ H' => Q .non H', Q, fun _ _ => False, fun _ _ => False⟩ (L2.start N vs) H) :
    codeAny (model P w) A (.call (.ref f) args) (CR (L2.CX P w) outer P w H s Q E0) s := by
  have kb : ∀ b o, base.get? b = some o → s.heap.get? b = some o := fun b o e => (e0.bs b o e).1
  have KX := e0.mod.kin.keeps kb
  refine codeAny_call_function hr.depth (KX _ _ lk) rfl S.co S.gen rfl (PySem.W.codeRec_of KX hcd) (hb _ _ _ _ ?_)
  refine wpAny_newFunctionEnv_cells S.kind (fun y hy => ?_) fun env he s1 x => ?_
  · rcases S.par y.1 (List.of_mem_zip (show (y.1, y.2) ∈ ps.zip us from hy)).1 with z | z
    · exact .inl z
    · exact .inr ⟨z, PySem.W.cellsFrom_some _ _ _ (.inl z)⟩
  · subst he
    refine ⟨(e0.mod.nolimit.keeps kb).keeps x.toInCall.keep, codeAny_func ?_⟩
    refine wpAny_mono ((ht (hr.deeper _)).run [] s1 _ H _ (inv_startH S hp e0 hl rv x) hq) (fun fl s' hs => ?_) fun e s' hs => hs
    cases fl with
    | ret u => obtain ⟨v, σ', H', J, r1, r2⟩ := hs; exact ⟨v, H', J.os, J.bare, J.base, J.hok, r1, r2⟩
    | next => obtain ⟨σ', H', J, r2⟩ := hs; exact ⟨.non, H', J.os, J.bare, J.base, J.hok, rfl, r2⟩
    | brk => obtain ⟨_, _, _, z⟩ := hs; exact z.elim
    | cont => obtain ⟨_, _, _, z⟩ := hs; exact z.elim
end
/-! ### isinstance of a pinned exception -/
section
variable {X : Cx} {a C : Addr} {oe : Obj}
theorem call_isP (hp : (a, oe) ∈ X.pn) (ec : ExcC X.K C) (hz : Zc (.ref C) none oe) (hf : ∃ vs, oe.data = .fields vs) : CallR X (.builtin "isinstance") (rIsE X.K C a) := by
  intro pins s σ H xs us Q I r h
  obtain ⟨c, cv, b, e0, hcv, hk, q⟩ := h
  subst e0
  cases r with
  | cons r1 rr =>
    cases rr with
    | cons r2 r3 =>
      cases r3
      cases r1
      have z := hcv _ r2
      subst z
      have hg := (I.pin (a, oe) (List.mem_append_left _ hp)).1
      obtain ⟨vs, hv⟩ := hf
      have J : PySem.W.InstAt s.heap a oe C none := by
        obtain ⟨x1, x2, x3, x4⟩ := oe
        obtain ⟨z1, z2⟩ := hz
        dsimp only at z1 z2 hv
        subst z1 z2 hv
        exact ⟨hg, rfl, rfl, trivial⟩
      refine PySem.W.kia_one (PySem.W.handS_kitx_exc ec.hg ec.hk ec.hs ec.hd ec.ha ec.hn ec.ht ec.hm) I.kIn J hk (fun z => nomatch z) fun tk => ?_
      exact ⟨.bl b, H, I.kept (t' := tk) fun _ _ z => z, rfl, q⟩
/-- isinstance(e, n): n a class of the top, or a built-in one -/
theorem pe_isP {i : Nat} {n : Str} {e : Expr} {b : Bool} {cv : V} {cu : Value} (hm : mIsa X.N X.env.scope i n e = true) (hp : (a, oe) ∈ X.pn) (ec : ExcC X.K C) (hz : Zc (.ref C) none oe) (hf : ∃ vs, oe.data = .fields vs) (hb : X.mg (Str.ofString "isinstance") = none)
    (hn : X.mg n = some cu ∨ (X.mg n = none ∧ bootBuiltins n = some cu ∧ n ≠ "__name__")) (hr : RelV cv cu) (hu : ∀ u, RelV cv u → u = cu) (hk : PySem.W.kitOne X.K (.ref C) cu = some b) :
    PE X e (fun σ H Q => σ[i]? = some (some (.ref a)) ∧ Q (.bl b) H) ∧ plainE e = true := by
  unfold mIsa at hm
  split at hm
  · rename_i f p1 y p2 z p3 p4
    simp only [Bool.and_eq_true, decide_eq_true_eq] at hm
    obtain ⟨⟨⟨⟨⟨⟨⟨h1, h2⟩, h3⟩, h4⟩, h5⟩, h6⟩, h7⟩, h8⟩ := hm
    subst h1 h3
    obtain ⟨y1, y2, _⟩ := nm_of h5
    obtain ⟨z1, z2, _⟩ := nm_of h8
    have hcls : PE X (.Name z p3) (tC cv) := by
      rcases hn with hn | ⟨hn, hn2, hn3⟩
      · exact pe_glob (v := cv) (gl_of h7) hn hr z1
      · exact pe_bltn (v := cv) (gl_of h7) hn hn2 hr hn3 z1
    refine ⟨PE.imp (pe_callB (call_isP hp ec hz hf) (gl_of h6) hb (by decide +kernel) (pa_cons (pe_var (i := i) h2 (vis_of h4) y1 y2) (pa_cons hcls pa_nil rfl) rfl) (by decide) (by decide) rfl rfl) fun σ H Q h => ?_, rfl⟩
    exact ⟨.ref a, h.1, cv, cu, b, rfl, hu, hk, h.2⟩
  · cases hm
theorem pa_isP {i : Nat} {x c : Str} (hp : (a, oe) ∈ X.pn) (ec : ExcC X.K C) (hz : Zc (.ref C) none oe) (hf : ∃ vs, oe.data = .fields vs) (hb : X.mg (Str.ofString "isinstance") = none) (hc : X.mg c = some (.ref C)) :
    ∀ {ns : List Str} {es : List Expr}, mIsas X.N X.env.scope i ns es = true → (∀ n ∈ ns, ClsF X.K X.mg x c n) → PA X es (fun σ H Q => σ[i]? = some (some (.ref a)) ∧ Q (ns.map fun n => V.bl (decide (c = n))) H)
  | [], [], _, _ => PA.imp pa_nil fun σ H Q h => h.2
  | [], _ :: _, h, _ => by cases h
  | _ :: _, [], h, _ => by cases h
  | n :: ns, e :: es, h, hcl => by
    have h : (mIsa X.N X.env.scope i n e && mIsas X.N X.env.scope i ns es) = true := h
    rw [Bool.and_eq_true] at h
    obtain ⟨B', C', D, _, hC, hn, _, _, hk⟩ := (hcl n (by simp)).ex
    rw [hc] at hC
    cases hC
    obtain ⟨h1, h2⟩ := pe_isP (cv := .ref D) (cu := .ref D) h.1 hp ec hz hf hb (.inl hn) rfl (fun u r => r) hk
    exact PA.imp (pa_cons h1 (pa_isP hp ec hz hf hb hc h.2 fun m hm => hcl m (by simp [hm])) (star_plain h2)) fun σ H Q q => ⟨q.1, q.1, q.2⟩
/-- texts -/
def mStrs : List Str → List Expr → Bool
  | [], [] => true
  | n :: ns, .Constant (.str k) _ _ :: es => decide (n = k) && mStrs ns es
  | _, _ => false
theorem pa_strs : ∀ {ns : List Str} {es : List Expr}, mStrs ns es = true → PA X es (fun σ H Q => Q (ns.map V.str) H) ∧ ns.length = es.length
  | [], [], _ => ⟨PA.imp pa_nil fun σ H Q h => h, rfl⟩
  | [], _ :: _, h => by cases h
  | _ :: _, [], h => by cases h
  | n :: ns, e :: es, h => by
    unfold mStrs at h
    split at h
    · rename_i heq _; cases heq
    · rename_i n' ns' k j p es' e1 e2
      cases e1
      cases e2
      obtain ⟨h1, h2⟩ := and2 h
      cases (of_decide_eq_true h1 : n = k)
      obtain ⟨k1, k2⟩ := pa_strs h2
      exact ⟨PA.imp (pa_cons pe_str k1 rfl) fun σ H Q q => q, by simp [k2]⟩
    · cases h
theorem isas_len {N : List Str} {sc : Scope} {i : Nat} : ∀ {ns : List Str} {ls : List Expr}, mIsas N sc i ns ls = true → ns.length = ls.length
  | [], [], _ => rfl
  | [], _ :: _, h => by cases h
  | _ :: _, [], h => by cases h
  | n :: ns, e :: es, h => by
    have h : (mIsa N sc i n e && mIsas N sc i ns es) = true := h
    rw [Bool.and_eq_true] at h
    simp [isas_len h.2]
end
/-! ### lists that are filled -/
section
variable {X : Cx}
/-- x = [..] -/
theorem hs_new {i : Nat} {x : Str} {ls : List Expr} {p1 p2 p3 : Pos} {Cd : SL → Prop} {vs : List V} {P Q : SL → Hp → Prop} (hN : X.N.Nodup) (hi : X.N[i]? = some x) (hx : X.env.scope.names.lookup x = some .local) (ha : PA X ls fun σ H Q => Cd σ ∧ Q vs H) (hl : vs.length ≤ 1000)
    (hP : ∀ σ H, P σ H → Cd σ ∧ ∀ q, H q = none → Q (σ.set i (some (.ref q))) (upd H q (.lst vs))) : HS X (.Assign [.Name x p1] (.List ls p2) p3) P Q := by
  refine PS.imp (ps_set (i := i) hN hi (.inl hx) (pe_lst ha) rfl (.inr hx)) fun D σ H ⟨h, k⟩ => ?_
  obtain ⟨h1, h2⟩ := hP σ H h
  exact ⟨h1, lim_size (by show vs.length ≤ 1000000; omega), fun q hq => k _ _ (h2 q hq)⟩
/-- x.extend([..]) -/
theorem hs_ext {i : Nat} {x : Str} {ls : List Expr} {p1 p2 p3 ap cp : Pos} {Cd : SL → Prop} {vs : List V} {P Q : SL → Hp → Prop} (hi : X.N[i]? = some x) (hx : X.env.scope.names.lookup x = some .local) (hn : nmB x = true) (hline : (ap.endLine == cp.line) = true) (ha : PA X ls fun σ H Q => Cd σ ∧ Q vs H)
    (hP : ∀ σ H, P σ H → Cd σ ∧ ∃ l xs, σ[i]? = some (some (.ref l)) ∧ H l = some (.lst xs) ∧ xs.length + vs.length ≤ 1000 ∧ ∀ q, H q = none → Q σ (upd (upd H q (.lst vs)) l (.lst (xs ++ vs)))) : HS X (.Expr (.Call (.Attribute (.Name x p1) (Str.ofString "extend") ap) [.List ls p2] [] cp) p3) P Q := by
  obtain ⟨n1, n2, _⟩ := nm_of hn
  refine PS.imp (ps_expr (pe_bm PySem.F.plainAttrs_list PySem.F.slot_list_extend PySem.F.type_list_extend mt_extL (pe_var (i := i) hi (.inl hx) n1 n2) (pa_cons (pe_lst ha) pa_nil rfl) rfl rfl hline rfl rfl)) fun D σ H ⟨h, k⟩ => ?_
  obtain ⟨h1, l, xs, h2, h3, h4, h5⟩ := hP σ H h
  refine ⟨.ref l, h2, .inl ⟨rfl, _, .inl (.inl h3)⟩, h1, lim_size (by show vs.length ≤ 1000000; omega), fun q hq => ?_⟩
  have ne : l ≠ q := fun z => by rw [← z, h3] at hq; cases hq
  exact ⟨l, q, xs, vs, rfl, rfl, by rw [upd_ne ne]; exact h3, .inl upd_same, lim_size (by show xs.length + vs.length ≤ 1000000; omega), k _ _ (h5 q hq)⟩
end
end BB

/-! ## lambdas 3: the name of an exception's class -/
namespace BB
open PySem PySem.Spec PyProof.Rows L2 L2H
/-! ### the matcher -/
def qOr2 (f : Expr → Expr → Bool) (e : Expr) : Bool := match e with
  | .BoolOp .Or [a, b] _ => f a b
  | _ => false
theorem qOr2_inv {f : Expr → Expr → Bool} {e : Expr} (h : qOr2 f e = true) : ∃ a b p, e = .BoolOp .Or [a, b] p ∧ f a b = true := by
  unfold qOr2 at h
  split at h
  · exact ⟨_, _, _, rfl, h⟩
  · cases h
def qNe (f g : Expr → Bool) (e : Expr) : Bool := match e with
  | .Compare l [.NotEq] [r] _ => f l && g r
  | _ => false
theorem qNe_inv {f g : Expr → Bool} {e : Expr} (h : qNe f g e = true) : ∃ l r p, e = .Compare l [.NotEq] [r] p ∧ f l = true ∧ g r = true := by
  unfold qNe at h
  split at h
  · exact ⟨_, _, _, rfl, and2 h⟩
  · cases h
def qNotE (f : Expr → Bool) (e : Expr) : Bool := match e with
  | .UnaryOp .Not l _ => f l
  | _ => false
theorem qNotE_inv {f : Expr → Bool} {e : Expr} (h : qNotE f e = true) : ∃ l p, e = .UnaryOp .Not l p ∧ f l = true := by
  unfold qNotE at h
  split at h
  · exact ⟨_, _, rfl, h⟩
  · cases h
def qIntE (k : Int) (e : Expr) : Bool := match e with
  | .Constant (.int n) _ _ => decide (n = k)
  | _ => false
theorem qIntE_inv {k : Int} {e : Expr} (h : qIntE k e = true) : ∃ j p, e = .Constant (.int k) j p := by
  unfold qIntE at h
  split at h
  · cases (of_decide_eq_true h : _ = k); exact ⟨_, _, rfl⟩
  · cases h
def qTrue (e : Expr) : Bool := match e with
  | .Constant (.bool true) _ _ => true
  | _ => false
theorem qTrue_inv {e : Expr} (h : qTrue e = true) : ∃ j p, e = .Constant (.bool true) j p := by
  unfold qTrue at h
  split at h
  · exact ⟨_, _, rfl⟩
  · cases h
/-- x.m(True) -/
def qMT (m : String) (f : Str → Bool) (e : Expr) : Bool := qCall1 (fun g l cp => qAttr (fun x nm ap => decide (nm = Str.ofString m) && f x && (ap.endLine == cp.line)) g && qTrue l) e
theorem qMT_inv {m : String} {f : Str → Bool} {e : Expr} (h : qMT m f e = true) : ∃ x p ap j p2 cp, e = .Call (.Attribute (.Name x p) (Str.ofString m) ap) [.Constant (.bool true) j p2] [] cp ∧ f x = true ∧ (ap.endLine == cp.line) = true := by
  obtain ⟨g, l, cp, rfl, h⟩ := qCall1_inv h
  obtain ⟨h1, h2⟩ := and2 h
  obtain ⟨x, p, nm, ap, rfl, h1⟩ := qAttr_inv h1
  obtain ⟨j, p2, rfl⟩ := qTrue_inv h2
  obtain ⟨h3, h4, h5⟩ := and3 h1
  cases (of_decide_eq_true h3 : nm = _)
  exact ⟨_, _, _, _, _, _, rfl, h4, h5⟩
def qSub (f g : Expr → Bool) (e : Expr) : Bool := match e with
  | .Subscript a b _ => f a && g b
  | _ => false
theorem qSub_inv {f g : Expr → Bool} {e : Expr} (h : qSub f g e = true) : ∃ a b p, e = .Subscript a b p ∧ f a = true ∧ g b = true := by
  unfold qSub at h
  split at h
  · exact ⟨_, _, _, rfl, and2 h⟩
  · cases h
/-- a local name of slot i -/
def qVar (N : List Str) (sc : Scope) (i : Nat) (x : Str) : Bool := decide (N[i]? = some x) && locNB sc x && nmB x
theorem qVar_inv {N : List Str} {sc : Scope} {i : Nat} {x : Str} (h : qVar N sc i x = true) : N[i]? = some x ∧ sc.names.lookup x = some .local ∧ nmB x = true := by
  obtain ⟨h1, h2, h3⟩ := and3 h
  exact ⟨of_decide_eq_true h1, locN_of h2, h3⟩
def qNewL (N : List Str) (sc : Scope) (i : Nat) (f : List Expr → Bool) (s : Stmt) : Bool := qAsg (fun x l => qVar N sc i x && qLst f l) s
def qExtL (N : List Str) (sc : Scope) (i : Nat) (f : List Expr → Bool) (s : Stmt) : Bool := qApp "extend" (fun x l => qVar N sc i x && qLst f l) s
theorem qNewL_inv {N : List Str} {sc : Scope} {i : Nat} {f : List Expr → Bool} {s : Stmt} (h : qNewL N sc i f s = true) : ∃ x p1 ls p2 p3, s = .Assign [.Name x p1] (.List ls p2) p3 ∧ (N[i]? = some x ∧ sc.names.lookup x = some .local ∧ nmB x = true) ∧ f ls = true := by
  obtain ⟨x, p1, l, p3, rfl, h⟩ := qAsg_inv h
  obtain ⟨h1, h2⟩ := and2 h
  obtain ⟨ls, p2, rfl, h2⟩ := qLst_inv h2
  exact ⟨_, _, _, _, _, rfl, qVar_inv h1, h2⟩
theorem qExtL_inv {N : List Str} {sc : Scope} {i : Nat} {f : List Expr → Bool} {s : Stmt} (h : qExtL N sc i f s = true) : ∃ x p1 ap ls p2 cp p3, s = .Expr (.Call (.Attribute (.Name x p1) (Str.ofString "extend") ap) [.List ls p2] [] cp) p3 ∧ (N[i]? = some x ∧ sc.names.lookup x = some .local ∧ nmB x = true) ∧ f ls = true ∧ (ap.endLine == cp.line) = true := by
  obtain ⟨e, p3, rfl, h⟩ := qExp_inv h
  obtain ⟨g, l, cp, rfl, h⟩ := qCall1_inv h
  obtain ⟨x, p1, nm, ap, rfl, h⟩ := qAttr_inv h
  obtain ⟨h1, h2, h3⟩ := and3 h
  cases (of_decide_eq_true h1 : nm = _)
  obtain ⟨h4, h5⟩ := and2 h2
  obtain ⟨ls, p2, rfl, h5⟩ := qLst_inv h5
  exact ⟨_, _, _, _, _, _, _, rfl, qVar_inv h4, h5, h3⟩
/-- the body: ten classes told apart, in five parts -/
def mKinds (N : List Str) (sc : Scope) (n0 n1 n2 n3 n4 m0 m1 : List Str) (body : List Stmt) : Bool :=
  qSeq (fun s r => qNewL N sc 1 (mIsas N sc 0 n0) s &&
  qSeq (fun s r => qExtL N sc 1 (mIsas N sc 0 n1) s &&
  qSeq (fun s r => qExtL N sc 1 (mIsas N sc 0 n2) s &&
  qSeq (fun s r => qExtL N sc 1 (mIsas N sc 0 n3) s &&
  qSeq (fun s r => qExtL N sc 1 (mIsas N sc 0 n4) s &&
  qSeq (fun s r => qIf (fun u a b => qOr2 (fun e1 e2 => qNe (qMT "count" (qVar N sc 1)) (qIntE 1) e1 && qNotE (mIsa N sc 0 "ValueError") e2) u && b.isEmpty) s &&
  qSeq (fun s r => qNewL N sc 2 (mStrs m0) s &&
  qSeq (fun s r => qExtL N sc 2 (mStrs m1) s &&
  qSeq (fun s r => qRet (qSub (qNm (qVar N sc 2)) (qMT "index" (qVar N sc 1))) s && r.isEmpty) r) r) r) r) r) r) r) r) body
/-! ### what is read -/
section
variable {X : Cx} {a C : Addr} {oe : Obj} {H0 : Hp} {c x : Str}
abbrev bls (c : Str) (ns : List Str) : List V := ns.map fun n => V.bl (decide (c = n))
/-- kinds stands at slot 1 -/
def St1 (a : Addr) (H0 : Hp) (xs : List V) : SL → Hp → Prop := fun σ H => ∃ l x2, σ = [some (.ref a), some (.ref l), x2] ∧ H l = some (.lst xs) ∧ H0 l = none ∧ Same H0 H
def St2 (a : Addr) (H0 : Hp) (xs ys : List V) : SL → Hp → Prop := fun σ H => ∃ l l2, σ = [some (.ref a), some (.ref l), some (.ref l2)] ∧ H l = some (.lst xs) ∧ H l2 = some (.lst ys) ∧ H0 l2 = none ∧ l ≠ l2 ∧ Same H0 H
theorem same_poke {H0 H : Hp} {l : Addr} {o : HO} (h : H0 l = none) (s : Same H0 H) : Same H0 (upd H l o) := fun b u q => by
  rw [upd_ne (fun z => by rw [z, h] at q; cases q)]; exact s b u q
theorem st1_ext {xs vs : List V} {σ : SL} {H : Hp} (hl : xs.length + vs.length ≤ 1000) (h : St1 a H0 xs σ H) : σ[0]? = some (some (.ref a)) ∧ ∃ l ys, σ[1]? = some (some (.ref l)) ∧ H l = some (.lst ys) ∧ ys.length + vs.length ≤ 1000 ∧ ∀ q, H q = none → St1 a H0 (xs ++ vs) σ (upd (upd H q (.lst vs)) l (.lst (ys ++ vs))) := by
  obtain ⟨l, x2, rfl, h1, h2, h3⟩ := h
  exact ⟨rfl, l, xs, rfl, h1, hl, fun q hq => ⟨l, x2, rfl, upd_same, h2, same_poke h2 (h3.trans (same_upd hq))⟩⟩
theorem count_one : ∀ {ns : List Str}, ns.Nodup → c ∈ ns → (ns.map fun n => decide (c = n)).count true = 1
  | [], _, h => by cases h
  | n :: ns, nd, h => by
    obtain ⟨n1, n2⟩ := List.nodup_cons.mp nd
    rw [List.map_cons, List.count_cons]
    by_cases e : c = n
    · subst e
      have : (ns.map fun n => decide (c = n)).count true = 0 := by
        rw [List.count_eq_zero]
        intro z
        obtain ⟨m, hm, q⟩ := List.mem_map.mp z
        exact n1 (by rw [of_decide_eq_true q]; exact hm)
      rw [this]; simp
    · rcases List.mem_cons.mp h with z | z
      · exact absurd z e
      · rw [count_one n2 z]; simp [e]
theorem ht_class {n0 n1 n2 n3 n4 m0 m1 ns : List Str} {body : List Stmt} (hN : X.N.Nodup) (hm : mKinds X.N X.env.scope n0 n1 n2 n3 n4 m0 m1 body = true) (hp : (a, oe) ∈ X.pn) (ec : ExcC X.K C) (hz : Zc (.ref C) none oe) (hf : ∃ vs, oe.data = .fields vs) (hb : X.mg (Str.ofString "isinstance") = none)
    (hc : X.mg c = some (.ref C)) (hns : n0 ++ n1 ++ n2 ++ n3 ++ n4 = ns) (hcl : ∀ n ∈ ns, ClsF X.K X.mg x c n) (hve : X.mg ("ValueError" : Str) = none) (hk : PySem.W.kitOne X.K (.ref C) (.type "ValueError") = some true) (hnd : ns.Nodup) (hmem : c ∈ ns) (hmm : m0 ++ m1 = ns) (hl : ns.length ≤ 100)
    (hu : X.A.units + 65 < cLine) : HT X body (fun σ H => ∃ x1 x2, σ = [some (.ref a), x1, x2] ∧ Same H0 H) (fun v H' => v = .str c ∧ Same H0 H') := by
  subst hns
  obtain ⟨s1, r1, rfl, hm⟩ := qSeq_inv hm
  obtain ⟨k1, hm⟩ := and2 hm
  obtain ⟨s2, r2, rfl, hm⟩ := qSeq_inv hm
  obtain ⟨k2, hm⟩ := and2 hm
  obtain ⟨s3, r3, rfl, hm⟩ := qSeq_inv hm
  obtain ⟨k3, hm⟩ := and2 hm
  obtain ⟨s4, r4, rfl, hm⟩ := qSeq_inv hm
  obtain ⟨k4, hm⟩ := and2 hm
  obtain ⟨s5, r5, rfl, hm⟩ := qSeq_inv hm
  obtain ⟨k5, hm⟩ := and2 hm
  obtain ⟨s6, r6, rfl, hm⟩ := qSeq_inv hm
  obtain ⟨k6, hm⟩ := and2 hm
  obtain ⟨s7, r7, rfl, hm⟩ := qSeq_inv hm
  obtain ⟨k7, hm⟩ := and2 hm
  obtain ⟨s8, r8, rfl, hm⟩ := qSeq_inv hm
  obtain ⟨k8, hm⟩ := and2 hm
  obtain ⟨s9, r9, rfl, hm⟩ := qSeq_inv hm
  obtain ⟨k9, hm⟩ := and2 hm
  have hr9 : r9 = [] := List.isEmpty_iff.mp hm
  subst hr9
  simp only [List.length_append] at hl
  have hclm : ∀ {n : Str}, (n ∈ n0 ∨ n ∈ n1 ∨ n ∈ n2 ∨ n ∈ n3 ∨ n ∈ n4) → ClsF X.K X.mg x c n := fun {n} h => hcl n (by
    simp only [List.mem_append]
    rcases h with h | h | h | h | h <;> simp [h])
  -- the list of kinds
  have step1 : HS X s1 (fun σ H => ∃ x1 x2, σ = [some (.ref a), x1, x2] ∧ Same H0 H) (St1 a H0 (bls c n0)) := by
    obtain ⟨y, p1, ls, p2, p3, rfl, ⟨v1, v2, v3⟩, hl1⟩ := qNewL_inv k1
    refine hs_new hN v1 v2 (pa_isP hp ec hz hf hb hc hl1 fun n h => hclm (.inl h)) (by rw [List.length_map]; omega) fun σ H h => ?_
    obtain ⟨x1, x2, rfl, h⟩ := h
    exact ⟨rfl, fun q hq => ⟨q, x2, rfl, upd_same, h.free hq, h.trans (same_upd hq)⟩⟩
  have more : ∀ {s : Stmt} {n : List Str} {xs : List V}, qExtL X.N X.env.scope 1 (mIsas X.N X.env.scope 0 n) s = true → (∀ m ∈ n, ClsF X.K X.mg x c m) → xs.length + n.length ≤ 1000 → HS X s (St1 a H0 xs) (St1 a H0 (xs ++ bls c n)) := fun {s n xs} hk hcn hln => by
    obtain ⟨y, p1, ap, ls, p2, cp, p3, rfl, ⟨v1, v2, v3⟩, hl1, hline⟩ := qExtL_inv hk
    exact hs_ext v1 v2 v3 hline (pa_isP hp ec hz hf hb hc hl1 hcn) fun σ H h => st1_ext (by rw [List.length_map]; exact hln) h
  have step2 := more (xs := bls c n0) k2 (fun m h => hclm (.inr (.inl h))) (by rw [List.length_map]; omega)
  have step3 := more (xs := bls c n0 ++ bls c n1) k3 (fun m h => hclm (.inr (.inr (.inl h)))) (by rw [List.length_append, List.length_map, List.length_map]; omega)
  have step4 := more (xs := bls c n0 ++ bls c n1 ++ bls c n2) k4 (fun m h => hclm (.inr (.inr (.inr (.inl h))))) (by rw [List.length_append, List.length_append, List.length_map, List.length_map, List.length_map]; omega)
  have step5 := more (xs := bls c n0 ++ bls c n1 ++ bls c n2 ++ bls c n3) k5 (fun m h => hclm (.inr (.inr (.inr (.inr h))))) (by rw [List.length_append, List.length_append, List.length_append, List.length_map, List.length_map, List.length_map, List.length_map]; omega)
  have hall : bls c n0 ++ bls c n1 ++ bls c n2 ++ bls c n3 ++ bls c n4 = ((n0 ++ n1 ++ n2 ++ n3 ++ n4).map fun n => decide (c = n)).map V.bl := by
    simp [bls, List.map_append, List.map_map, Function.comp_def]
  rw [hall] at step5
  obtain ⟨ks, hks⟩ : ∃ ks, ks = (n0 ++ n1 ++ n2 ++ n3 ++ n4).map fun n => decide (c = n) := ⟨_, rfl⟩
  rw [← hks] at step5
  have hcnt : ks.count true = 1 := by rw [hks]; exact count_one hnd hmem
  -- exactly one
  have step6 : HS X s6 (St1 a H0 (ks.map V.bl)) (St1 a H0 (ks.map V.bl)) := by
    obtain ⟨u, ya, yb, p, rfl, h⟩ := qIf_inv k6
    obtain ⟨h1, h2⟩ := and2 h
    have hyb : yb = [] := List.isEmpty_iff.mp h2
    subst hyb
    obtain ⟨e1, e2, p', rfl, h1⟩ := qOr2_inv h1
    obtain ⟨h3, h4⟩ := and2 h1
    obtain ⟨l1, l2, p'', rfl, h5, h6⟩ := qNe_inv h3
    obtain ⟨y, q1, ap, j, q2, cp, rfl, h7, h8⟩ := qMT_inv h5
    obtain ⟨j2, q3, rfl⟩ := qIntE_inv h6
    obtain ⟨e3, q4, rfl, h9⟩ := qNotE_inv h4
    obtain ⟨v1, v2, v3⟩ := qVar_inv h7
    obtain ⟨w1, w2, _⟩ := nm_of v3
    obtain ⟨i1, i2⟩ := pe_isP (cv := .ty "ValueError") (cu := .type "ValueError") h9 hp ec hz hf hb (.inr ⟨hve, by decide +kernel, by decide⟩) rfl (fun u r => r) hk
    have t1 := pt_cmpR (pos := p'') op_ne (pe_bm (cpos := cp) PySem.F.plainAttrs_list PySem.F.slot_list_count PySem.F.type_list_count mt_countB (pe_var (i := 1) (pos := q1) v1 (.inl v2) w1 w2) (pa_cons (pe_bl (b := true) (j := j) (pos := q2)) pa_nil rfl) rfl rfl h8 rfl rfl) (pe_int (i := 1) (j := j2) (pos := q3)) rfl
    have i3 : PT X e3 (tB fun σ H Q => σ[0]? = some (some (.ref a)) ∧ Q (.bl true) H) := by
      unfold mIsa at h9
      split at h9
      · exact pt_val i1
      · cases h9
    have t2 := pt_not (pos := q4) i3
    refine PS.imp (ps_if (pw_or t1 (pw_or1 t2)).pt (pss_no ya) pss_nil) fun D σ H ⟨h, k⟩ => ?_
    obtain ⟨l, x2, rfl, g1, g2, g3⟩ := h
    refine ⟨.ref l, rfl, .inl ⟨rfl, _, .inl (.inl g1)⟩, ?_⟩
    refine ⟨l, ks, rfl, rfl, g1, ?_⟩
    refine ⟨rfl, false, by rw [hcnt]; rfl, ?_⟩
    show (if false = true then _ else _)
    rw [if_neg Bool.false_ne_true]
    refine ⟨rfl, true, rfl, ?_⟩
    show (if (!true) = true then _ else _)
    rw [if_neg (by simp)]
    exact k _ _ ⟨l, x2, rfl, g1, g2, g3⟩
  have hlm : m0.length + m1.length ≤ 100 := by
    have := congrArg List.length hmm
    simp only [List.length_append] at this
    omega
  have step7 : HS X s7 (St1 a H0 (ks.map V.bl)) (St2 a H0 (ks.map V.bl) (m0.map V.str)) := by
    obtain ⟨y, p1, ls, p2, p3, rfl, ⟨v1, v2, v3⟩, hl1⟩ := qNewL_inv k7
    refine hs_new (Cd := fun _ => True) hN v1 v2 (PA.imp (pa_strs hl1).1 fun σ H Q h => h.2) (by rw [List.length_map]; omega) fun σ H h => ?_
    obtain ⟨l, x2, rfl, g1, g2, g3⟩ := h
    refine ⟨trivial, fun q hq => ?_⟩
    have ne : l ≠ q := fun z => by rw [← z, g1] at hq; cases hq
    exact ⟨l, q, rfl, by rw [upd_ne ne]; exact g1, upd_same, g3.free hq, ne, g3.trans (same_upd hq)⟩
  have step8 : HS X s8 (St2 a H0 (ks.map V.bl) (m0.map V.str)) (St2 a H0 (ks.map V.bl) ((n0 ++ n1 ++ n2 ++ n3 ++ n4).map V.str)) := by
    obtain ⟨y, p1, ap, ls, p2, cp, p3, rfl, ⟨v1, v2, v3⟩, hl1, hline⟩ := qExtL_inv k8
    refine hs_ext (Cd := fun _ => True) v1 v2 v3 hline (PA.imp (pa_strs hl1).1 fun σ H Q h => h.2) fun σ H h => ?_
    obtain ⟨l, l2, rfl, g1, g2, g3, g4, g5⟩ := h
    refine ⟨trivial, l2, _, rfl, g2, by rw [List.length_map, List.length_map]; omega, fun q hq => ?_⟩
    have ne : l ≠ q := fun z => by rw [← z, g1] at hq; cases hq
    refine ⟨l, l2, rfl, by rw [upd_ne g4, upd_ne ne]; exact g1, ?_, g3, g4, same_poke g3 (g5.trans (same_upd hq))⟩
    rw [upd_same, ← hmm, List.map_append]
  have step9 : HT X [s9] (St2 a H0 (ks.map V.bl) ((n0 ++ n1 ++ n2 ++ n3 ++ n4).map V.str)) (fun v H' => v = .str c ∧ Same H0 H') := by
    obtain ⟨e, p, rfl, h⟩ := qRet_inv k9
    obtain ⟨e1, e2, p', rfl, h1, h2⟩ := qSub_inv h
    obtain ⟨y, q1, rfl, h1⟩ := qNm_inv h1
    obtain ⟨z, q2, ap, j, q3, cp, rfl, h3, h4⟩ := qMT_inv h2
    obtain ⟨v1, v2, v3⟩ := qVar_inv h1
    obtain ⟨w1, w2, _⟩ := nm_of v3
    obtain ⟨v4, v5, v6⟩ := qVar_inv h3
    obtain ⟨w3, w4, _⟩ := nm_of v6
    have hix := pe_bm (cpos := cp) PySem.F.plainAttrs_list PySem.F.slot_list_index PySem.F.type_list_index (mt_indexD hu) (pe_var (i := 1) (pos := q2) v4 (.inl v5) w3 w4) (pa_cons (pe_bl (b := true) (j := j) (pos := q3)) pa_nil rfl) rfl rfl h4 rfl rfl
    refine PSs.imp (pss_one (ps_ret (pe_ix (pos := p') ix_list (pe_var (i := 2) (pos := q1) v1 (.inl v2) w1 w2) hix (ix_plain rfl)))) fun D σ H ⟨h, k⟩ => ?_
    obtain ⟨l, l2, rfl, g1, g2, g3, g4, g5⟩ := h
    refine ⟨.ref l2, rfl, .ref l, rfl, .inl ⟨rfl, _, .inl (.inl g1)⟩, ?_⟩
    cases hq : (n0 ++ n1 ++ n2 ++ n3 ++ n4).findIdx? (fun n => decide (c = n)) with
    | none =>
      have := List.findIdx?_eq_none_iff.mp hq c hmem
      simp at this
    | some jj =>
      obtain ⟨w, u1, u2, u3⟩ := findIdx_first hq
      have hw : c = w := of_decide_eq_true u2
      subst hw
      have hq2 : (ks.map PyData.bool).findIdx? (fun z => PyData.eqv z (.bool true)) = some jj := by
        rw [hks, List.map_map, List.findIdx?_map]
        have : ((fun z => PyData.eqv z (PyData.bool true)) ∘ (PyData.bool ∘ fun n => decide (c = n))) = fun n => decide (c = n) := by
          funext n
          show PyData.eqv (.bool (decide (c = n))) (.bool true) = decide (c = n)
          rw [eqv_bool]
          cases decide (c = n) <;> rfl
        rw [this]; exact hq
      obtain ⟨zz, z1, z2, z3⟩ := findIdx_first hq2
      have hd : ∀ (bs : List Bool), DqAll X.K H (bs.map V.bl) (bs.map PyData.bool) := by
        intro bs; induction bs with
        | nil => exact .nil
        | cons b bs ih => exact .cons (.bl b) ih
      refine ⟨l, .bl true, .bool true, ks.map PyData.bool, jj, zz, rfl, rfl, Dq.dp _ _ (.lst (.inl g1) (hd ks)), Dq.dp _ _ (.bl true), shaped_bools ks, rfl, z1, z2, z3, ?_⟩
      refine ⟨l2, _, (jj : Nat), .str c, rfl, rfl, .inl (.inl g2), ?_, k _ _ ⟨rfl, g5⟩⟩
      have hlt : jj < (n0 ++ n1 ++ n2 ++ n3 ++ n4).length := (List.getElem?_eq_some_iff.mp u1).1
      unfold L2.atI
      rw [List.length_map, show L2.ixN (n0 ++ n1 ++ n2 ++ n3 ++ n4).length (jj : Nat) = some jj from ?_]
      · show ((n0 ++ n1 ++ n2 ++ n3 ++ n4).map V.str)[jj]? = _
        rw [List.getElem?_map, u1]; rfl
      · unfold L2.ixN
        rw [if_pos (by omega), if_pos (by omega)]
        simp
  exact HT.cons step1 (HT.cons step2 (HT.cons step3 (HT.cons step4 (HT.cons step5 (HT.cons step6 (HT.cons step7 (HT.cons step8 step9)))))))
end
end BB

/-! ## lambdas 4: what is called without arguments; the result of a call, or the name of its exception -/
namespace BB
open PySem PySem.Spec PyProof.Rows L2 L2H
/-- f(): the outcome o, whatever the heap is by then -/
structure Thk (P : Program) (w : World) (K : Frag) (mg : Str → Option Value) (base : Heap) (k : Nat) (F H : Hp) (f : Addr) (o : Out D) : Prop where
  fn : ∃ φ : Heap → Prop, H f = some (.ext φ) ∧ ∀ h, φ h → PySem.W.FnAt f h
  run : ∀ (A : Around) (outer : List PySem.Env) (s : Shared) (H1 : Hp) (Q : VK) (E : XK), Same H H1 → Room k A → Env0 P w K mg base A outer s H1 → Res mg E (grow F H H1) H1 (Dq K) o Q →
    codeAny (model P w) A (.call (.ref f) ⟨[], []⟩) (CR (L2.CX P w) outer P w H1 s Q E) s
section
variable {P : Program} {w : World} {K : Frag} {mg : Str → Option Value} {base : Heap} {k : Nat} {F H H' : Hp} {f : Addr} {o : Out D}
theorem Thk.mono (h : Thk P w K mg base k F H f o) (e : Same F H) (s : Same H H') : Thk P w K mg base k (grow F H H') H' f o := by
  obtain ⟨φ, h1, h2⟩ := h.fn
  exact ⟨⟨φ, s _ _ h1, h2⟩, fun A outer sh H1 Q E s1 hr e0 q => h.run A outer sh H1 Q E (s.trans s1) hr e0 (by rw [grow_grow s s1] at q; exact q)⟩
theorem Thk.level {j : Nat} (h : Thk P w K mg base k F H f o) (l : k ≤ j) : Thk P w K mg base j F H f o := ⟨h.fn, fun A outer sh H1 Q E s1 hr e0 q => h.run A outer sh H1 Q E s1 (hr.mono l) e0 q⟩
/-- x(), x a name of slot i -/
theorem pe_thk {X : Cx} {E : XK} {i : Nat} {x : Str} {p1 p2 : Pos} {F H : Hp} (hi : X.N[i]? = some x) (hx : Vis X.env.scope x) (hn : nmB x = true) (hr : Room k X.A) (px : Passes (L2.CX X.prog X.w) X E) (e : Same F H) (h : Thk X.prog X.w X.K X.mg X.base k F H f o) :
    PE X (.Call (.Name x p1) [] [] p2) (fun σ H1 Q => σ[i]? = some (some (.ref f)) ∧ Same H H1 ∧ Res X.mg E (grow F H H1) H1 (Dq X.K) o Q) := by
  obtain ⟨n1, n2, _⟩ := nm_of hn
  refine ⟨fun pins s σ H1 Q I ⟨h1, h2, h3⟩ => ?_⟩
  refine wpAny_Call_Name_kw (thn ((pe_var (pos := p1) (i := i) hi hx n1 n2).run pins s σ H1 (fun v H2 => v = .ref f ∧ H2 = H1) I ⟨.ref f, h1, rfl, rfl⟩) fun u s1 ⟨v, H2, I2, r1, e1, e2⟩ => ?_)
  subst e1 e2
  obtain rfl : u = Value.ref f := r1
  obtain ⟨φ, a1, a2⟩ := h.fn
  refine PySem.W.callWith_F0 (a2 _ (I2.hok f _ (h2 _ _ a1)).1) ?_
  refine wpAny_call (codeAny_mono (h.run X.A X.stack s1 H2 Q E h2 hr I2.env0 h3) fun r s' hq => ?_)
  cases r with
  | error e => exact px pins σ H2 s1 e s' I2 hq
  | ok fl =>
    cases fl with
    | ret u => exact I2.after hq
    | next => exact False.elim hq
    | brk => exact False.elim hq
    | cont => exact False.elim hq
end
/-! ### the def that names classes -/
/-- called in an except suite -/
structure ClassOk (P : Program) (w : World) (K : Frag) (mg : Str → Option Value) (ns : List Str) (x : Str) (f : Addr) : Prop where
  glo : mg x = some (.ref f)
  kp : PySem.W.keepIn K (.ref f) = true
  run : ∀ (base : Heap) (A : Around) (outer : List PySem.Env) (s : Shared) (H : Hp) (Q : VK) (a C : Addr) (oe : Obj) (c : Str), c ∈ ns → mg c = some (.ref C) → ExcC K C → Zc (.ref C) none oe → (∃ vs, oe.data = .fields vs) → RoomH 1 A → PinOk outer H s (a, oe) → Env0 P w K mg base A outer s H →
    (∀ H', Same H H' → Q (.str c) H') → codeAny (model P w) A (.call (.ref f) ⟨[.ref a], []⟩) (CR (L2.CX P w) outer P w H s Q E0) s
theorem class_ok {P : Program} {w : World} {K : Frag} {mg : Str → Option Value} {n0 n1 n2 n3 n4 m0 m1 ns : List Str} {x y1 y2 y3 : Str} {st : Stmt} {f : Addr} {fd : FuncData} (Fn : Fun K x x st f fd) (hg : mg x = some (.ref f)) (S : FnScope [y1, y2, y3] [y1] (defScope st)) (hb : Binds K fd [y1] [])
    (hm : mKinds [y1, y2, y3] (defScope st) n0 n1 n2 n3 n4 m0 m1 (defBody st) = true) (hi : mg (Str.ofString "isinstance") = none) (hns : n0 ++ n1 ++ n2 ++ n3 ++ n4 = ns) (hcl : ∀ c n, c ∈ ns → n ∈ ns → ClsF K mg "DecodingError" c n) (hve : mg ("ValueError" : Str) = none)
    (hk : ∀ c C, c ∈ ns → mg c = some (.ref C) → PySem.W.kitOne K (.ref C) (.type "ValueError") = some true) (hnd : ns.Nodup) (hmm : m0 ++ m1 = ns) (hl : ns.length ≤ 100) : ClassOk P w K mg ns x f := by
  refine ⟨hg, Fn.kp, fun base A outer s H Q a C oe c hc hC ec hz hf hr hp e0 hq => ?_⟩
  obtain ⟨oc, od, kV, doc, pm, an, cdv, ct, osl, rfl, lk, hcd⟩ := Fn.ex
  have KX : K.In s.heap := e0.mod.kin.keeps fun b o e => (e0.bs b o e).1
  have bd := hb s [.ref a] KX rfl
  refine hot_call (k := 0) (us := [.ref a]) (vs := [.ref a]) lk hcd S hr hp e0 bd (.cons rfl .nil) rfl (fun hr0 => ?_) (t := fun D σ H' => (∃ x1 x2, σ = [some (.ref a), x1, x2] ∧ Same H H') ∧ ∀ v H', (v = .str c ∧ Same H H') → D.rt v H') ?_
  · refine ht_class (X := cxH (L2.CX P w) P w K mg base [y1, y2, y3] x (defScope st) f cdv A outer s H E0 (a, oe)) (x := "DecodingError") S.nd hm (by show (a, oe) ∈ [(a, oe)]; simp) ec hz hf hi hC hns (fun n hn => hcl c n hc hn) hve (hk c C hc hC) hnd hc hmm hl ?_
    have := hr0.un
    show (A.deeper (envOfC x (defScope st) s.heap.objs.size f cdv)).units + 65 < cLine
    omega
  · exact ⟨⟨none, none, rfl, Same.refl H⟩, fun v H' ⟨e, s'⟩ => by subst e; exact hq H' s'⟩
/-- .. in the suite: its call -/
theorem pe_class {X : Cx} {ns : List Str} {x y c : Str} {fC a C : Addr} {oe : Obj} {pn : List (Addr × Obj)} {i : Nat} {p1 p2 p3 : Pos} (ok : ClassOk X.prog X.w X.K X.mg ns x fC) (hg : glB X.env.scope x = true) (hx : nmB x = true) (hi : X.N[i]? = some y) (hy : Vis X.env.scope y) (hyn : nmB y = true) (hr : Room 1 X.A)
    (hc : c ∈ ns) (hC : X.mg c = some (.ref C)) (ec : ExcC X.K C) (hz : Zc (.ref C) none oe) (hf : ∃ vs, oe.data = .fields vs) :
    PE (X.suite a ((a, oe) :: pn)) (.Call (.Name x p1) [.Name y p2] [] p3) (fun σ H Q => σ[i]? = some (some (.ref a)) ∧ ∀ H', Same H H' → Q (.str c) H') := by
  obtain ⟨x1, x2, _⟩ := nm_of hx
  obtain ⟨y1, y2, _⟩ := nm_of hyn
  refine ⟨fun pins s σ H Q I ⟨h1, h2⟩ => ?_⟩
  refine wpAny_Call_Name_kw (ld_glob (X := X.suite a ((a, oe) :: pn)) I (gl_of hg) ok.glo ?_ x1)
  have ha := pa_cons (pe_var (X := X.suite a ((a, oe) :: pn)) (pos := p2) (i := i) hi hy y1 y2) pa_nil rfl
  refine PySem.W.callWith_K (h₀ := X.base) I.ok.mod.kin ok.kp (thn (ha.run p3 pins s σ H (fun vs H1 => vs = [.ref a] ∧ H1 = H) I ⟨.ref a, h1, rfl, rfl⟩) fun us s1 ⟨vs, H1, I1, r, e1, e2⟩ => ⟨I1.kIn, ?_⟩) rfl rfl
  subst e1 e2
  obtain ⟨u, rfl, ru⟩ := r.one
  cases ru
  obtain ⟨g1, g2, g3, g4, g5⟩ := I1.pin (a, oe) (List.mem_append_left _ List.mem_cons_self)
  have hp : PinOk X.stack H1 s1 (a, oe) := ⟨g1, g2, fun hm => (List.mem_cons.mp (I1.stkSub a hm)).elim g3 g4, g5⟩
  have hr1 : RoomH 1 (X.suite a ((a, oe) :: pn)).A := ⟨by have := hr.dp; exact this, by have := hr.un; exact this⟩
  refine wpAny_call (codeAny_mono (ok.run X.base _ X.stack s1 H1 Q a C oe c hc hC ec hz hf hr1 hp I1.env0 h2) fun r s' hq => ?_)
  cases r with
  | error e =>
    obtain ⟨_, _, _, _, _, _, _, _, _, _, _, _, z⟩ := hq
    exact z.elim
  | ok fl =>
    cases fl with
    | ret u => exact I1.after hq
    | next => exact False.elim hq
    | brk => exact False.elim hq
    | cont => exact False.elim hq
/-! ### the result of a call -/
def spR (P : Program) (w : World) (K : Frag) (mg : Str → Option Value) (base : Heap) (k : Nat) (ns : List Str) : Sp := fun vs H Q E => ∃ f F o, vs = [.ref f] ∧ Same F H ∧ Thk P w K mg base k F H f o ∧ Res mg E F H (Dq K) (resT ns o) Q
def qCall0 (f : Str → Bool) (e : Expr) : Bool := match e with
  | .Call (.Name x _) [] [] _ => f x
  | _ => false
theorem qCall0_inv {f : Str → Bool} {e : Expr} (h : qCall0 f e = true) : ∃ x p1 p2, e = .Call (.Name x p1) [] [] p2 ∧ f x = true := by
  unfold qCall0 at h
  split at h
  · exact ⟨_, _, _, rfl, h⟩
  · cases h
def qErr (k : Str) (f : Str → Str → Bool) (e : Expr) : Bool := match e with
  | .Tuple [.Constant (.str z) _ _, .Call (.Name x _) [.Name y _] [] _] _ _ => decide (z = k) && f x y
  | _ => false
theorem qErr_inv {k : Str} {f : Str → Str → Bool} {e : Expr} (h : qErr k f e = true) : ∃ j p1 x p2 y p3 p4 p5 p6, e = .Tuple [.Constant (.str k) j p1, .Call (.Name x p2) [.Name y p3] [] p4] p5 p6 ∧ f x y = true := by
  unfold qErr at h
  split at h
  · obtain ⟨h1, h2⟩ := and2 h
    cases (of_decide_eq_true h1 : _ = k)
    exact ⟨_, _, _, _, _, _, _, _, _, rfl, h2⟩
  · cases h
def mResult (N : List Str) (sc : Scope) (cl : Str) (body : List Stmt) : Bool :=
  qSeq (fun s r => qTry (fun body x n b0 suite => qSeq (fun s r => qRet (qCall0 fun y => decide (N[0]? = some y) && visB sc y && nmB y) s && r.isEmpty) body && decide (x = ("DecodingError" : Str)) && glB sc x && nmB x && qVar N sc 1 n && suite.isEmpty &&
    qRet (qErr "error" fun x y => decide (x = cl) && glB sc x && nmB x && decide (y = n)) b0) s && r.isEmpty) body
theorem result_ok {P : Program} {w : World} {K : Frag} {mg : Str → Option Value} {base : Heap} {ns : List Str} {x y1 y2 cl : Str} {st : Stmt} {f fC : Addr} {fd : FuncData} {k : Nat} (Fn : Fun K x x st f fd) (S : FnScope [y1, y2] [y1] (defScope st)) (hm : mResult [y1, y2] (defScope st) cl (defBody st) = true) (hk : 1 ≤ k)
    (hcl : ∀ c n, c ∈ ns → n ∈ ns → ClsF K mg "DecodingError" c n) (hC : ClassOk P w K mg ns cl fC) (hne : ns ≠ []) : FnOk P w K mg base (L2.CX P w) (k + 1) f fd [y1] (spR P w K mg base k ns) := by
  refine Fn.okX S (fun vs H Q E h => by obtain ⟨_, _, _, rfl, _⟩ := h; rfl) (fun cdv A outer s H vs Q E hroom h => ?_)
  obtain ⟨fa, F, o, rfl, e, th, hq⟩ := h
  obtain ⟨s1, r1, hbody, hA⟩ := qSeq_inv hm
  obtain ⟨hT, hr1⟩ := and2 hA
  clear hA
  obtain rfl : r1 = [] := List.isEmpty_iff.mp hr1
  obtain ⟨body, xe, n, b0, suite, np, p1, p2, hs1, hT⟩ := qTry_inv hT
  subst hs1
  obtain ⟨hT, hm6, hm7⟩ := and3 hT
  obtain ⟨hT, hm4, hm5⟩ := and3 hT
  obtain ⟨hB1, hm2, hm3⟩ := and3 hT
  clear hT
  obtain rfl : suite = [] := List.isEmpty_iff.mp hm6
  obtain rfl : xe = ("DecodingError" : Str) := of_decide_eq_true hm2
  obtain ⟨s2, r2, hbb, hB1⟩ := qSeq_inv hB1
  subst hbb
  obtain ⟨hB2, hr2⟩ := and2 hB1
  clear hB1
  obtain rfl : r2 = [] := List.isEmpty_iff.mp hr2
  obtain ⟨e1, p3, hs2, hB3⟩ := qRet_inv hB2
  subst hs2
  obtain ⟨z, p4, p5, he1, hB4⟩ := qCall0_inv hB3
  subst he1
  obtain ⟨z1, z2, z3⟩ := and3 hB4
  have z1 : [y1, y2][0]? = some z := of_decide_eq_true z1
  obtain ⟨n1, n2, n3⟩ := qVar_inv hm5
  obtain ⟨e2, p6, hb0, hm8⟩ := qRet_inv hm7
  subst hb0
  obtain ⟨j, q1, cx, q2, cy, q3, q4, q5, q6, he2, hm9⟩ := qErr_inv hm8
  subst he2
  obtain ⟨hm10, c4⟩ := and2 hm9
  obtain ⟨c1, c2, c3⟩ := and3 hm10
  obtain rfl : cx = cl := of_decide_eq_true c1
  obtain rfl : cy = n := of_decide_eq_true c4
  obtain ⟨c0, hc0⟩ : ∃ c0, c0 ∈ ns := by
    cases ns with
    | nil => exact absurd rfl hne
    | cons c0 _ => exact ⟨c0, by simp⟩
  obtain ⟨B, C0, _, hB, _⟩ := (hcl c0 c0 hc0 hc0).ex
  obtain ⟨x1, x2, _⟩ := nm_of hm4
  generalize hX : cxOf (L2.CX P w) P w K mg base [y1, y2] x (defScope st) f cdv A outer s H E = X
  have XN : X.N = [y1, y2] := by rw [← hX]; rfl
  have Xs : X.env.scope = defScope st := by rw [← hX]; rfl
  have Xr : Room k X.A := by rw [← hX]; exact hroom
  have Xp : X.prog = P ∧ X.w = w ∧ X.K = K ∧ X.mg = mg ∧ X.base = base := by rw [← hX]; exact ⟨rfl, rfl, rfl, rfl, rfl⟩
  have Xst : X.stack = X.env :: X.outer := by rw [← hX]; rfl
  have Xfr : X.env.frame = some X.env.locals := by rw [← hX]; rfl
  have Xtk : Takes X (fun cls d _ H => E cls d H) := by rw [← hX]; exact takes_of rfl rfl rfl rfl
  obtain ⟨rfl, rfl, rfl, rfl, rfl⟩ := Xp
  rw [hbody]
  refine ⟨_, pss_one (ps_try_as (i := 1) (c := .ref B) (Wout := fun cls d _ H => E cls d H) (tb := fun W D σ H1 => σ[0]? = some (some (.ref fa)) ∧ Same H H1 ∧ Res X.mg (EW X W) (grow F H H1) H1 (Dq X.K) o D.rt)
    (ts := fun a cls d D σ H1 => ∃ (c : Str) (C : Addr), cls = .ref C ∧ d = none ∧ X.mg c = some (.ref C) ∧ c ∈ ns ∧ ExcC X.K C ∧ σ[1]? = some (some (.ref a)) ∧ ∀ H2 q, Same H1 H2 → H2 q = none → D.rt (.ref q) (upd H2 q (.tup [.str "error", .str c])))
    Xst Xfr (by rw [XN]; exact S.nd) (by rw [XN]; exact n1) (by show X.env.scope.names.lookup cy = _; rw [Xs]; exact n2) ⟨gl_of (by rw [Xs]; exact hm3), x1, .inl hB⟩ Xtk (fun W pn xx tk _ => ?_) (fun a oe cls d pn hz hf => ?_)), ?_⟩
  · have px : Passes (L2.CX X.prog X.w) (X.tr pn xx) (EW X W) := passes_call (takes_EW (X := X.tr pn xx) tk) fun _ _ _ _ h => h
    have hp := pe_thk (X := X.tr pn xx) (p1 := p4) (p2 := p5) (i := 0) (by show X.N[0]? = _; rw [XN]; exact z1) (by show Vis X.env.scope z; rw [Xs]; exact vis_of z2) z3 Xr px e th
    exact PSs.imp (pss_one (ps_ret hp)) fun D σ H1 h => h
  · refine ⟨fun pins sh σ H1 D I hh => ?_⟩
    obtain ⟨c, C, e1, e2, g1, g2, g3, g4, g5⟩ := hh
    subst e1 e2
    have hp := pe_class (X := X) (a := a) (oe := oe) (ns := ns) (c := c) (i := 1) (pn := pn) (p1 := q2) (p2 := q3) (p3 := q4) hC (by rw [Xs]; exact c2) c3 (by rw [XN]; exact n1) (.inl (by rw [Xs]; exact n2)) n3 (Xr.mono hk) g2 g1 g3 hz hf
    have ht := pss_one (ps_ret (pos := p6) (pe_tup (x1 := q5) (pos := q6) (pa_cons (pe_str (x := "error") (j := j) (pos := q1)) (pa_cons hp pa_nil rfl) rfl)))
    refine ht.run pins sh σ H1 D I ⟨g4, fun H2 s2 => ⟨lim_size (by show 2 ≤ 1000000; omega), fun q hq => g5 H2 q s2 hq⟩⟩
  · refine ⟨rfl, Same.refl H, ?_⟩
    rw [grow_refl e]
    cases o with
    | ok d => exact hq
    | bad => exact hq
    | exc c =>
      have hq : Res X.mg E F H (Dq X.K) (if c ∈ ns then .ok (.tuple [.str "error", .str c]) else .bad) Q := hq
      by_cases hc : c ∈ ns
      · rw [if_pos hc] at hq
        intro C H1 hmC sm σ' hl
        obtain ⟨B', C', _, hB', hC', _, hexm, hec, _⟩ := (hcl c c hc hc).ex
        rw [hB] at hB'
        cases hB'
        rw [hmC] at hC'
        cases hC'
        refine ⟨true, hexm, fun _ a ha => ⟨c, C, rfl, rfl, hmC, hc, hec, ?_, fun H2 q s2 hq2 => ?_⟩, fun z => by cases z⟩
        · rw [List.getElem?_set_self (by rw [hl, XN]; show 1 < 2; omega)]
        · refine hq _ _ ((sm.trans s2).trans (same_upd hq2)) (.tup (.inl (.inl ?_)) (.cons (.str _) (.cons (.str _) .nil)))
          rw [grow_none ((sm.trans s2).free hq2), upd_same]
      · rw [if_neg hc] at hq
        exact hq.elim
end BB

/-! ## lambdas 5: all of some calls raise -/
namespace BB
open PySem PySem.Spec PyProof.Rows L2 L2H
/-- the calls in a list, each of which raises n -/
def spA (P : Program) (w : World) (K : Frag) (mg : Str → Option Value) (base : Heap) (k : Nat) (ns : List Str) : Sp := fun vs H Q E => ∃ (a : Addr) (fs : List Addr) (F : Hp) (n : Str), vs = [.ref a, .str n] ∧ n ∈ ns ∧ fs.length ≤ sizeLine ∧ Same F H ∧ H a = some (.lst (fs.map V.ref)) ∧ (∀ f, f ∈ fs → Thk P w K mg base k F H f (.exc n)) ∧ ∀ H', Same H H' → Q (.bl true) H'
def qAll (al : String) (sc : Scope) (f : Expr → Expr → Expr → Scope → Bool) (e : Expr) : Bool := match e with
  | .Call (.Name x _) [.ListComp elt [⟨lt, li, [], 0⟩] scope _] [] _ => decide (x = Str.ofString al) && glB sc x && f elt lt li scope
  | _ => false
theorem qAll_inv {al : String} {sc : Scope} {f : Expr → Expr → Expr → Scope → Bool} {e : Expr} (h : qAll al sc f e = true) : ∃ p1 elt lt li scope p2 p3, e = .Call (.Name (Str.ofString al) p1) [.ListComp elt [⟨lt, li, [], 0⟩] scope p2] [] p3 ∧ glB sc (Str.ofString al) = true ∧ f elt lt li scope = true := by
  unfold qAll at h
  split at h
  · obtain ⟨h1, h2, h3⟩ := and3 h
    cases (of_decide_eq_true h1 : _ = Str.ofString al)
    exact ⟨_, _, _, _, _, _, _, rfl, h2, h3⟩
  · cases h
def qEqR (f : Str → Str → Bool) (g : Expr → Bool) (e : Expr) : Bool := match e with
  | .Compare (.Call (.Name x _) [.Name y _] [] _) [.Eq] [r] _ => f x y && g r
  | _ => false
theorem qEqR_inv {f : Str → Str → Bool} {g : Expr → Bool} {e : Expr} (h : qEqR f g e = true) : ∃ x p1 y p2 p3 r p4, e = .Compare (.Call (.Name x p1) [.Name y p2] [] p3) [.Eq] [r] p4 ∧ f x y = true ∧ g r = true := by
  unfold qEqR at h
  split at h
  · exact ⟨_, _, _, _, _, _, _, rfl, and2 h⟩
  · cases h
/-- all([f(call) == ('error', name) for call in calls]) -/
def mAll (N : List Str) (sc : Scope) (rs : Str) (body : List Stmt) : Bool :=
  qSeq (fun s r => qRet (qAll "all" sc fun elt lt li scope => qNm (fun y => decide (N[0]? = some y) && visB sc y && nmB y) li && plainE li && blkC N sc scope (ownP N [2]) && mTg N (okB scope (relS scope sc)) (.one 2) lt &&
    qEqR (fun x y => decide (x = rs) && glB (relS scope sc) x && nmB x && decide (N[2]? = some y) && visB (relS scope sc) y && nmB y) (fun r => mE (.tup (.cons (.str "error") (.cons (.var 1) .nil))) ⟨N, relS scope sc, [], []⟩ r && plainE r) elt) s && r.isEmpty) body
def g0 : Sg := ⟨fun _ _ => .bad, fun _ => .none, []⟩
theorem all_ok {P : Program} {w : World} {K : Frag} {mg : Str → Option Value} {base : Heap} {ns : List Str} {x y1 y2 y3 rs : Str} {st : Stmt} {f fR : Addr} {fd fdR : FuncData} {yr : Str} {k j : Nat} (Fn : Fun K x x st f fd) (S : FnScope [y1, y2, y3] [y1, y2] (defScope st)) (hm : mAll [y1, y2, y3] (defScope st) rs (defBody st) = true)
    (hbl : ∀ x, x ∈ blts → mg x = none) (hR : FnOk P w K mg base (L2.CX P w) k fR fdR [yr] (spR P w K mg base j ns)) (hRg : mg rs = some (.ref fR)) (hRk : PySem.W.keepIn K (.ref fR) = true) (hRb : Binds K fdR [yr] []) (hso : ∀ n ∈ ns, PyData.strOk n = true) : FnOk P w K mg base (L2.CX P w) (k + 1) f fd [y1, y2] (spA P w K mg base j ns) := by
  refine Fn.okX S (fun vs H Q E h => by obtain ⟨_, _, _, _, rfl, _⟩ := h; rfl) (fun cdv A outer s H vs Q E hroom h => ?_)
  obtain ⟨a, fs, F, n, rfl, hn, hfl, e, hla, th, hq⟩ := h
  obtain ⟨s1, r1, hbody, hA⟩ := qSeq_inv hm
  obtain ⟨hT, hr1⟩ := and2 hA
  clear hA
  obtain rfl : r1 = [] := List.isEmpty_iff.mp hr1
  obtain ⟨e1, p1, hs1, hT1⟩ := qRet_inv hT
  clear hT
  subst hs1
  obtain ⟨p2, elt, lt, li, scope, p3, p4, he1, hg1, hT2⟩ := qAll_inv hT1
  clear hT1
  subst he1
  obtain ⟨hT3, h4, h5⟩ := and3 hT2
  obtain ⟨h1, h2, h3⟩ := and3 hT3
  clear hT2 hT3
  obtain ⟨z, p5, hli, hz⟩ := qNm_inv h1
  clear h1
  subst hli
  obtain ⟨z1, z2, z3⟩ := and3 hz
  have z1 : [y1, y2, y3][0]? = some z := of_decide_eq_true z1
  obtain ⟨x1, x2, _⟩ := nm_of z3
  obtain ⟨rx, q1, ry, q2, q3, er, q4, helt, h8, h9⟩ := qEqR_inv h5
  clear h5
  subst helt
  obtain ⟨h6, h7⟩ := and2 h9
  obtain ⟨h10, v2, v3⟩ := and3 h8
  obtain ⟨h11, u3, v1⟩ := and3 h10
  obtain ⟨u1, u2⟩ := and2 h11
  obtain rfl : rx = rs := of_decide_eq_true u1
  have v1 : [y1, y2, y3][2]? = some ry := of_decide_eq_true v1
  obtain ⟨w1, w2, _⟩ := nm_of u3
  obtain ⟨w3, w4, _⟩ := nm_of v3
  generalize hX : cxOf (L2.CX P w) P w K mg base [y1, y2, y3] x (defScope st) f cdv A outer s H E = X
  have XN : X.N = [y1, y2, y3] := by rw [← hX]; rfl
  have Xs : X.env.scope = defScope st := by rw [← hX]; rfl
  have Xr : Room k X.A := by rw [← hX]; exact hroom
  have Xp : X.prog = P ∧ X.w = w ∧ X.K = K ∧ X.mg = mg ∧ X.base = base := by rw [← hX]; exact ⟨rfl, rfl, rfl, rfl, rfl⟩
  have Xc : X.calm = true := by rw [← hX]; rfl
  have Xtk : Takes X (fun cls d _ H => E cls d H) := by rw [← hX]; exact takes_of rfl rfl rfl rfl
  obtain ⟨rfl, rfl, rfl, rfl, rfl⟩ := Xp
  rw [hbody]
  have ok : CxOk ⟨[y1, y2, y3], defScope st, [], []⟩ g0 k E X := ⟨XN, S.nd, Xs, Xc, Xr, Xtk, ⟨(fun j x n h => by simp at h), (fun j x h => by simp at h), hbl⟩⟩
  have hN : X.N.Nodup := by rw [XN]; exact S.nd
  have bo : BlkOk X.N X.env.scope scope (ownP [y1, y2, y3] [2]) := by rw [XN, Xs]; exact blkOk_by h3
  have hlc := pe_lc (X := X) (own := ownP [y1, y2, y3] [2]) (pos := p3) (g := gName 2) (tt := tYes) (te := tOp (rEqG X.K) (tCall (spR X.prog X.w X.K X.mg X.base j ns) [] E0 (tCons (tVar 2) tNil)) (tP X.K X.mg E0 (evE g0 (.tup (.cons (.str "error") (.cons (.var 1) .nil))))))
    (elt := .Compare (.Call (.Name rx q1) [.Name ry q2] [] q3) [.Eq] [er] q4) (tg := lt) (iter := .Name z p5) (ifs := []) (scope := scope)
    Xc hN (pi_list (pe_var (i := 0) (pos := p5) (by rw [XN]; exact z1) (by rw [Xs]; exact vis_of z2) x1 x2)) bo
    (fun s H C cl fp => pgTg (X := X.blk s H scope (compEnvC scope cl C X.env) fp) (ok := okB scope (relS scope (defScope st))) (tg := .one 2) hN Xc (fun x q => okB_of ok x q) (by show mTg X.N _ (.one 2) lt = true; rw [XN]; exact h4))
    (fun s H C cl fp => pts_nil)
    (fun s H C cl fp => by
      have okb : CxOk ⟨[y1, y2, y3], relS scope (defScope st), [], []⟩ g0 k E0 (X.blk s H scope (compEnvC scope cl C X.env) fp) := ok.blk
      have hcall := pe_call (X := X.blk s H scope (compEnvC scope cl C X.env) fp) (E := E0) (dvs := []) (ds := []) (p := q1) (pos := q3) hR Xr (okb.gl u2) hRg hRk hRb .nil (passes_call takes0 fun _ _ _ _ h => h) (pa_cons (pe_var (X := X.blk s H scope (compEnvC scope cl C X.env) fp) (i := 2) (pos := q2) (by show X.N[2]? = _; rw [XN]; exact v1) (by rw [okb.sc]; exact vis_of v2) w3 w4) pa_nil rfl) w1 rfl rfl
      exact pe_cmpR (op_eqG (X := X.blk s H scope (compEnvC scope cl C X.env) fp) Xr.units) hcall (sE _ er _ k E0 _ okb h6).1 (marks_plain h7))
  have hall := pe_callB (X := X) (p := p2) (pos := p4) (cr_all Xc) (ok.gl hg1) (hbl _ (by decide)) (by decide +kernel) (pa_cons hlc pa_nil rfl) (by decide) (by decide) rfl rfl
  refine ⟨_, pss_one (ps_ret (pos := p1) hall), ?_⟩
  have hst : L2.start [y1, y2, y3] [.ref a, .str n] = [some (.ref a), some (.str n), none] := rfl
  rw [hst]
  refine ⟨.ref a, rfl, a, rfl, ⟨_, .inl (.inl hla)⟩, fun Da hDa => ?_⟩
  have neD : a ≠ Da := fun q => by rw [← q, hla] at hDa; cases hDa
  refine ⟨fun i m H' => m = fs.length - i ∧ i ≤ fs.length ∧ Same H H' ∧ H' Da = some (.lst (List.replicate i (.bl true))), ⟨fs.length, by simp, Nat.zero_le _, same_upd hDa, upd_same⟩, ?_⟩
  rintro i m H' ⟨rfl, hi, sm, hD⟩
  by_cases hlt : i < fs.length
  · right
    refine ⟨⟨_, .ref fs[i], .inl (.inl (sm _ _ hla)), by rw [List.getElem?_map, List.getElem?_eq_getElem hlt]; rfl⟩, fun H2 => Same H H2 ∧ H2 Da = some (.lst (List.replicate (i + 1) (.bl true))), fun H2 ⟨g1, g2⟩ => ⟨fs.length - (i + 1), by omega, rfl, hlt, g1, g2⟩, ?_⟩
    rintro x H2 ⟨rfl, hx⟩
    have hx := hx _ (.inl (.inl (sm _ _ hla)))
    rw [List.getElem?_map, List.getElem?_eq_getElem hlt] at hx
    have hx : V.ref fs[i] = x := by simpa using hx
    subst hx
    refine ⟨rfl, ?_⟩
    unfold tYes
    dsimp only
    rw [if_pos rfl]
    have tf := (th fs[i] (List.getElem_mem hlt)).mono e sm
    refine ⟨.ref fs[i], rfl, fs[i], grow F H H2, .exc n, rfl, grow_same2 e sm, tf, ?_⟩
    show Res X.mg E0 (grow F H H2) H2 (Dq X.K) (if n ∈ ns then .ok (.tuple [.str "error", .str n]) else .bad) _
    rw [if_pos hn]
    intro v H3 s3 dv
    have sub3 := grow_same2 (grow_same2 e sm) s3
    refine ⟨[.non, .val (.str n), .non], _, sub3, ⟨rfl, fun t d q => ?_, fun t fs q => ?_⟩, ?_⟩
    · match t, q with
      | 1, q => cases q; exact ⟨_, rfl, .str n⟩
      | 0, q => cases q
      | 2, q => cases q
      | t + 3, q => cases q
    · match t, q with
      | 0, q => cases q
      | 1, q => cases q
      | 2, q => cases q
      | t + 3, q => cases q
    · show Res X.mg E0 _ H3 (Dq X.K) (.ok (.tuple [.str "error", .str n])) _
      intro y H4 s4 dy
      refine eqV' (E := E0) (mg := X.mg) _ H4 v y (.tuple [.str "error", .str n]) (.tuple [.str "error", .str n]) _ (grow_same2 sub3 s4) (Dq.mono (grow_same1 sub3) _ _ dv) dy ?_
      have he : eqD (.tuple [.str "error", .str n]) (.tuple [.str "error", .str n]) = .ok (.bool true) := by
        have hc : cmpb (.tuple [.str "error", .str n]) (.tuple [.str "error", .str n]) = true := by simp [cmpb, SeqAt.shaped, PyData.canLay0, PyData.canLayAll0, PyData.depth, PyData.depthAll, hso n hn]; decide +kernel
        unfold eqD
        rw [if_pos hc]
        simp [PyData.eqv, PyData.eqvAll]
      rw [he]
      intro b H5 s5 db
      cases db
      have hD5 := s5 _ _ (s4 _ _ (s3 _ _ hD))
      refine ⟨_, hD5, by rw [List.length_replicate]; exact Nat.lt_of_lt_of_le hlt hfl, ?_, ?_⟩
      · intro c o q
        rw [upd_ne (fun z => by rw [z] at q; rw [hDa] at q; cases q)]
        exact s5 _ _ (s4 _ _ (s3 _ _ (sm _ _ q)))
      · rw [upd_same, List.replicate_succ']
  · left
    have hie : i = fs.length := by omega
    refine ⟨⟨_, .inl (.inl (sm _ _ hla)), by rw [List.length_map]; omega⟩, ?_⟩
    refine ⟨Da, List.replicate i true, rfl, .inl (.inl (by rw [hD, List.map_replicate])), ?_⟩
    have : (List.replicate i true).all id = true := by rw [List.all_eq_true]; intro b hb; rw [List.eq_of_mem_replicate hb]; rfl
    rw [this]
    exact hq _ sm
end BB

/-! ## lambdas 6: cells that are told, and let go while a lambda runs -/
namespace BB
open PySem PySem.Spec PyProof.Rows L2 LamX
/-- the object at a, as it is -/
def CelO (a : Addr) (o : Obj) : HO := .ext fun h => h.get? a = some o
theorem celO_ok {P : Program} {w : World} {H : Hp} {h : Heap} {a : Addr} {o : Obj} (e : h.get? a = some o) : ObjOk P w H h a (CelO a o) := ⟨e, ⟨o, e⟩, fun h1 h2 e1 k => k _ e1⟩
/-- H without some addresses; H with H1's at them -/
def unt (C : List Addr) (H : Hp) : Hp := fun b => if b ∈ C then none else H b
def ret_ (C : List Addr) (H1 H : Hp) : Hp := fun b => if b ∈ C then H1 b else H b
section
variable {C : List Addr} {H H1 H2 : Hp} {b : Addr}
theorem unt_in (h : b ∈ C) : unt C H b = none := if_pos h
theorem unt_out (h : b ∉ C) : unt C H b = H b := if_neg h
theorem ret_in (h : b ∈ C) : ret_ C H1 H b = H1 b := if_pos h
theorem ret_out (h : b ∉ C) : ret_ C H1 H b = H b := if_neg h
/-- every address of C is told as it is -/
def Told (C : List Addr) (H : Hp) : Prop := ∀ a, a ∈ C → ∃ o, H a = some (CelO a o)
theorem Told.ne (t : Told C H) {u : HO} (h : H b = some u) (n : ∀ o, u ≠ CelO b o) : b ∉ C := fun z => by
  obtain ⟨o, e⟩ := t b z
  rw [h] at e
  exact n o (Option.some.inj e)
theorem Told.none (t : Told C H) (h : H b = none) : b ∉ C := fun z => by
  obtain ⟨o, e⟩ := t b z
  rw [h] at e
  cases e
variable {P : Program} {w : World} {h h' : Heap}
theorem HOk.unt (ok : HOk P w H h) (t : Told C H) : HOk P w (unt C H) h := fun a u e => by
  have na : a ∉ C := fun z => by rw [unt_in z] at e; cases e
  rw [unt_out na] at e
  refine (ok a u e).stay (fun _ _ _ q => q) (fun c q => ?_) fun c xs q => ?_
  · rw [unt_out (t.ne q fun o z => by unfold CelO at z; cases z)]; exact q
  · rw [unt_out (t.ne q fun o z => by unfold CelO at z; cases z)]; exact q
theorem HOk.ret (ok : HOk P w H2 h') (t : Told C H1) (n : ∀ a, a ∈ C → H2 a = none) (k : ∀ a o, a ∈ C → H1 a = some (CelO a o) → h'.get? a = some o) : HOk P w (ret_ C H1 H2) h' := fun a u e => by
  by_cases ha : a ∈ C
  · rw [ret_in ha] at e
    obtain ⟨o, q⟩ := t a ha
    rw [e] at q
    cases q
    exact celO_ok (k a o ha e)
  · rw [ret_out ha] at e
    refine (ok a u e).stay (fun _ _ _ q => q) (fun c q => ?_) fun c xs q => ?_
    · rw [ret_out (fun z => by rw [n c z] at q; cases q)]; exact q
    · rw [ret_out (fun z => by rw [n c z] at q; cases q)]; exact q
/-- what was told in h -/
theorem Told.get (t : Told C H) (ok : HOk P w H h) {a : Addr} (ha : a ∈ C) : ∃ o, H a = some (CelO a o) ∧ h.get? a = some o := by
  obtain ⟨o, e⟩ := t a ha
  exact ⟨o, e, (ok a _ e).1⟩
variable {K : Frag} {mg : Str → Option Value} {base : Heap} {A : Around} {outer : List PySem.Env} {s s' : Shared}
theorem env0_unt (e0 : Env0 P w K mg base A outer s H) (t : Told C H) : Env0 P w K mg base A outer s (unt C H) := by
  refine ⟨e0.frames, e0.mod, fun b o e => ⟨(e0.bs b o e).1, ?_⟩, e0.bsz, e0.funs, fun b hb => ?_, HOk.unt e0.hok t, e0.bare⟩
  · rw [unt_out (t.none (e0.bs b o e).2)]; exact (e0.bs b o e).2
  · rw [unt_out (t.none (e0.frf b hb))]; exact e0.frf b hb
/-- a call over the rest, seen with the addresses of C -/
theorem un_ret (e0 : Env0 P w K mg base A outer s H) (t : Told C H) (u : Un (frs outer) [] (unt C H) H2 s.heap h') : (∀ a, a ∈ C → H2 a = none) ∧ (∀ a o, a ∈ C → H a = some (CelO a o) → h'.get? a = some o) ∧ Un (frs outer) [] H (ret_ C H H2) s.heap h' := by
  have n : ∀ a, a ∈ C → H2 a = none := fun a ha => by
    obtain ⟨o, _, e⟩ := t.get e0.hok ha
    exact u.free a o e (unt_in ha) (by simp)
  have nf : ∀ a, a ∈ C → a ∉ frs outer := fun a ha hf => by
    have z := e0.frf a hf
    exact t.none z ha
  refine ⟨n, fun a o ha e => u.keep a o (e0.hok a _ e).1 (unt_in ha) (nf a ha) (by simp), fun b o e q hb hx => ?_, fun b o e q hb hx => ?_, fun b o e q hx => ?_, fun b o e hx => u.there b o e hx, fun b xs q => ?_, fun b o v q => ?_, fun b ps q => ?_⟩
  · exact u.keep b o e (by rw [unt_out (t.none q)]; exact q) hb hx
  · exact u.slot b o e (by rw [unt_out (t.none q)]; exact q) hb hx
  · rw [ret_out (t.none q)]; exact u.free b o e (by rw [unt_out (t.none q)]; exact q) hx
  · have nb := t.ne q fun o z => by unfold CelO at z; cases z
    rw [ret_out nb]; exact u.tups b xs (by rw [unt_out nb]; exact q)
  · have nb := t.ne q fun o z => by unfold CelO at z; cases z
    rw [ret_out nb]; exact u.frzs b o v (by rw [unt_out nb]; exact q)
  · have nb := t.ne q fun o z => by unfold CelO at z; cases z
    rw [ret_out nb]; exact u.tbls b ps (by rw [unt_out nb]; exact q)
theorem cr_ret {Q Q' : VK} {E E' : XK} {r : Result} (e0 : Env0 P w K mg base A outer s H) (t : Told C H) (hQ : ∀ v H2, (∀ a, a ∈ C → H2 a = none) → Q' v H2 → Q v (ret_ C H H2)) (hE : ∀ c d H2, (∀ a, a ∈ C → H2 a = none) → E' c d H2 → E c d (ret_ C H H2))
    (h : CR (L2.CX P w) outer P w (unt C H) s Q' E' r s') : CR (L2.CX P w) outer P w H s Q E r s' := by
  cases r with
  | ok fl =>
    cases fl with
    | ret u =>
      obtain ⟨v, H2, os, ba, un, ok, rv, q⟩ := h
      obtain ⟨n, k, un2⟩ := un_ret e0 t un
      exact ⟨v, _, os, ba, un2, HOk.ret ok t n k, rv, hQ v H2 n q⟩
    | next => exact False.elim h
    | brk => exact False.elim h
    | cont => exact False.elim h
  | error e =>
    obtain ⟨a, B, H2, cls, d, ea, fl, ok, ub, na, os, ba, q⟩ := h
    have n : ∀ a, a ∈ C → H2 a = none := fun a ha => by
      obtain ⟨o, _, e⟩ := t.get e0.hok ha
      exact ub.free a o e (unt_in ha)
    have nf : ∀ a, a ∈ C → a ∉ frs outer := fun a ha hf => t.none (e0.frf a hf) ha
    have kB : ∀ a o, a ∈ C → H a = some (CelO a o) → B.get? a = some o := fun a o ha e => ub.keep a o (e0.hok a _ e).1 (unt_in ha) (nf a ha)
    have naC : a ∉ C := fun z => by
      obtain ⟨o, e⟩ := t a z
      have z1 := kB a o z e
      rw [fl.2.1] at z1
      cases z1
    refine ⟨a, B, ret_ C H H2, cls, d, ea, fl, HOk.ret ok t n kB, ⟨fun b o e q hb => ?_, fun b o e hb => ub.slot b o e hb, fun b o e q => ?_, fun b o e hb => ub.there b o e hb, fun b xs q => ?_, fun b o v q => ?_, fun b ps q => ?_⟩, by rw [ret_out naC]; exact na, os, ba, hE cls d H2 n q⟩
    · exact ub.keep b o e (by rw [unt_out (t.none q)]; exact q) hb
    · rw [ret_out (t.none q)]; exact ub.free b o e (by rw [unt_out (t.none q)]; exact q)
    · have nb := t.ne q fun o z => by unfold CelO at z; cases z
      rw [ret_out nb]; exact ub.tups b xs (by rw [unt_out nb]; exact q)
    · have nb := t.ne q fun o z => by unfold CelO at z; cases z
      rw [ret_out nb]; exact ub.frzs b o v (by rw [unt_out nb]; exact q)
    · have nb := t.ne q fun o z => by unfold CelO at z; cases z
      rw [ret_out nb]; exact ub.tbls b ps (by rw [unt_out nb]; exact q)
end
end BB

/-! ## lambdas 7: a lambda over told cells is a call with an outcome -/
namespace BB
open PySem PySem.Spec PyProof.Rows L2 LamX
/-- what the cell at a says of the name y -/
def CelA (N : List Str) (σ : SL) (H : Hp) (y : Str) (a : Addr) : Prop := ∃ (o : Obj) (ov : Option Value), H a = some (CelO a o) ∧ o.data = .cell ov ∧ ∀ (i : Nat) (v : V), N[i]? = some y → σ[i]? = some (some v) → ∃ u, ov = some u ∧ RelV v u
theorem CelA.mono {N : List Str} {σ : SL} {H H' : Hp} {y : Str} {a : Addr} (h : CelA N σ H y a) (s : Same H H') : CelA N σ H' y a := let ⟨o, ov, h1, h2⟩ := h; ⟨o, ov, s _ _ h1, h2⟩
section
variable {X : Cx}
/-- the state at the beginning of a lambda's body -/
theorem lam_begin {A : Around} {outer : List PySem.Env} {s1 : Shared} {E : XK} {sc : Scope} {f c' : Addr} {h1 : Heap} {tk : Nat} {σ : SL} {HZ H1 : Hp} (L : LamS X.env.scope sc) (hlen : σ.length = X.N.length) (inj : ∀ x y c, (lamC X sc).lookup x = some c → (lamC X sc).lookup y = some c → x = y)
    (e0 : Env0 X.prog X.w X.K X.mg X.base A outer s1 HZ) (ok1 : HOk X.prog X.w H1 s1.heap) (hd : A.handled = none) (hc : ∀ y a, (lamC X sc).lookup y = some a → HZ a = none ∧ CelA X.N σ H1 y a)
    (hns : h1.Ns s1.heap.objs.size fun y => ([] : List (Str × Value)).reverse.lookup y) (kp : ∀ b o, s1.heap.get? b = some o → h1.get? b = some o) :
    Inv (lamCx X A outer s1 HZ E sc f c') [] σ HZ { s1 with heap := h1, toks := tk } := by
  have look : ∀ {y}, sc.names.lookup y = some .free → ∃ c, (lamC X sc).lookup y = some c := fun {y} hl => mem_lookup (cloFrom_has (cells := X.env.cells) (acc := []) (PySem.mem_of_lookup hl))
  have cel : ∀ {y a}, (lamC X sc).lookup y = some a → ∃ ov, h1.IsCell a ov ∧ ∀ (i : Nat) (v : V), X.N[i]? = some y → σ[i]? = some (some v) → ∃ u, ov = some u ∧ RelV v u := fun {y a} e => by
    obtain ⟨_, o, ov, e1, e2, e3⟩ := hc y a e
    exact ⟨ov, ⟨o, kp _ _ (ok1 a _ e1).1, e2⟩, e3⟩
  have no : ∀ b : Addr, ¬ b ∈ (lamCx X A outer s1 HZ E sc f c').ex := fun b z => nomatch (show b ∈ ([] : List Addr) from z)
  constructor
  · constructor
    · exact e0.mod
    · exact L.kind
    · rfl
    · rfl
    · exact Nat.le_refl _
    · exact fun x y c e1 e2 => inj x y c e1 e2
    · intro x hx
      have hx : sc.names.lookup x = some .cell ∨ sc.names.lookup x = some .free := hx
      rcases hx with z | z
      · exact absurd rfl (L.own _ (PySem.mem_of_lookup z)).2
      · exact look z
    · intro x c z
      exact nomatch (show false = true from z)
    · exact fun _ => hd
    · exact Around.frames_deeper e0.frames
    · exact .inr ⟨rfl, rfl⟩
    · exact fun b z => absurd z (no b)
    · exact e0.bs
    · exact e0.bsz
    · exact fun b _ _ => no b
    · exact fun b z => absurd z (no b)
    · exact e0.funs
    · exact e0.frf
  · rfl
  · exact e0.bare
  · exact Un.kept kp
  · refine ⟨_, hns, fun i y v e1 e2 e3 => ?_⟩
    have e3 : Vis sc y := e3
    rcases e3 with z | z | z
    · exact absurd rfl (L.own _ (PySem.mem_of_lookup z)).1
    · exact absurd rfl (L.own _ (PySem.mem_of_lookup z)).2
    · obtain ⟨a, ha⟩ := look z
      obtain ⟨ov, k1, k2⟩ := cel ha
      obtain ⟨u, rfl, ru⟩ := k2 i v e1 e2
      exact ⟨u, ru, .inr ⟨.inr z, a, ha, k1⟩⟩
  · intro y a e
    obtain ⟨ov, k1, _⟩ := cel e
    exact ⟨ov, k1⟩
  · exact e0.hok.fresh (Nat.le_refl _)
  · exact fun y a e => (hc y a e).1
  · intro p hp
    exact nomatch (show p ∈ ([] : List (Addr × Obj)) from hp)
  · exact e0.hok.kept kp
  · exact hlen
/-- a lambda over told cells -/
theorem lam_thk {c : Ctx} {g : Sg} {k : Nat} {ps : Arguments} {body : Expr} {sc : Scope} {f c' : Addr} {σ : SL} {r : Env} {p : BB.E} {F H : Hp} (L : LamS X.env.scope sc) (hN : X.N = c.N) (nd : c.N.Nodup) (hlen : σ.length = X.N.length) (inj : ∀ x y a, (lamC X sc).lookup x = some a → (lamC X sc).lookup y = some a → x = y)
    (G : Glob X.prog X.w X.K X.mg X.base c.fns c.gls g k) (hm : mE p { c with sc := sc } body = true) (hb : ∀ (q : Str) (cl : List (Str × Addr)) (pm cv ctv : Value), bindArgs (PySem.W.kla_fn "<lambda>" q ps body sc cl pm cv ctv) ⟨[], []⟩ = pure [])
    (hf : H f = some (LamO f (lamQ X) ps body sc (lamC X sc) c')) (hc : H c' = some (CodeO c' (lamQ X))) (hcel : ∀ y a, (y, a) ∈ lamC X sc → CelA X.N σ H y a) (e : Same F H) (hF : ∀ y a, (y, a) ∈ lamC X sc → F a = none) (d : DenE X.K F σ r) :
    Thk X.prog X.w X.K X.mg X.base (k + 1) F H f (evE g p r) := by
  refine ⟨⟨_, hf, fun h ⟨pm, ctv, z⟩ => ⟨_, _, _, _, z⟩⟩, fun A outer s H1 Q E s1 hr e0 hq => ?_⟩
  obtain ⟨C, hC⟩ : ∃ C, C = (lamC X sc).map (·.2) := ⟨_, rfl⟩
  have inC : ∀ {a}, a ∈ C → ∃ y, (y, a) ∈ lamC X sc := fun {a} h => by
    rw [hC] at h
    obtain ⟨⟨y, b⟩, h1, h2⟩ := List.mem_map.mp h
    cases h2
    exact ⟨y, h1⟩
  have toC : ∀ {y a}, (y, a) ∈ lamC X sc → a ∈ C := fun {y a} h => by rw [hC]; exact List.mem_map.mpr ⟨_, h, rfl⟩
  have T : Told C H1 := fun a ha => by
    obtain ⟨y, hy⟩ := inC ha
    obtain ⟨o, ov, h1, _⟩ := hcel y a hy
    exact ⟨o, s1 _ _ h1⟩
  have eZ := env0_unt e0 T
  obtain ⟨pm, ctv, hfn⟩ := (e0.hok f _ (s1 _ _ hf)).1
  obtain ⟨oc, vs, t, hoc, hdc, hvc⟩ := (e0.hok c' _ (s1 _ _ hc)).1
  have hFH := grow_same2 e s1
  have FC : ∀ {a}, a ∈ C → grow F H H1 a = none := fun {a} ha => by
    obtain ⟨y, hy⟩ := inC ha
    obtain ⟨o, ov, h1, _⟩ := hcel y a hy
    rw [grow_some h1]; exact hF y a hy
  have hFZ : Same (grow F H H1) (unt C H1) := fun b o q => by
    rw [unt_out (fun z => by rw [FC z] at q; cases q)]; exact hFH b o q
  have kb : ∀ b o, X.base.get? b = some o → s.heap.get? b = some o := fun b o q => (e0.bs b o q).1
  have rc : codeAny (model X.prog X.w) A (.call (.ref f) ⟨[], []⟩) (CR (L2.CX X.prog X.w) outer X.prog X.w (unt C H1) s (fun v H2 => (∀ a, a ∈ C → H2 a = none) → Q v (ret_ C H1 H2)) (fun cl d H2 => (∀ a, a ∈ C → H2 a = none) → E cl d (ret_ C H1 H2))) s := by
    refine PySem.W.kla_callFunE hr.depth hfn rfl L.co L.gen rfl ⟨c', oc, vs, t, rfl, hoc, hdc, hvc⟩ ?_
    rw [hb]
    refine wpAny_pure (wpAny_newFunctionEnv (fun y hy => (L.own y hy).2) (fun y hy => nomatch hy) (fun h1 hns hsb => ⟨(e0.mod.nolimit.keeps kb).fresh _ hsb, ?_⟩) L.kind)
    have kp : ∀ b o, s.heap.get? b = some o → h1.get? b = some o := fun b o q => hsb.extBut b o (Nat.ne_of_lt (Heap.lt_size q)) (Heap.get?_push_of_some _ q)
    have J := lam_begin (E := fun cl d H2 => (∀ a, a ∈ C → H2 a = none) → E cl d (ret_ C H1 H2)) (f := f) (c' := c') (tk := s.toks + ([] : List (Str × Value)).length) L hlen inj eZ e0.hok hr.hd (fun y a q => ⟨unt_in (toC (PySem.mem_of_lookup q)), (hcel y a (PySem.mem_of_lookup q)).mono s1⟩) hns kp
    have okb : CxOk { c with sc := sc } g k (fun cl d H2 => (∀ a, a ∈ C → H2 a = none) → E cl d (ret_ C H1 H2)) (lamCx X A outer s (unt C H1) (fun cl d H2 => (∀ a, a ∈ C → H2 a = none) → E cl d (ret_ C H1 H2)) sc f c') :=
      ⟨hN, nd, rfl, rfl, hr.deeper _, takes_of rfl rfl rfl rfl, G⟩
    refine PySem.W.kla_codeExpr (wpAny_mono ((sE p body _ k _ _ okb hm).1.run [] _ σ (unt C H1) (fun v H2 => (∀ a, a ∈ C → H2 a = none) → Q v (ret_ C H1 H2)) J ⟨r, grow F H H1, hFZ, d.mono (grow_same1 e), ?_⟩) (fun v s' hq => ?_) fun x s' hq => hq)
    · -- what is asked of the outcome
      cases ho : evE g p r with
      | bad => rw [ho] at hq; exact hq
      | exc cx =>
        rw [ho] at hq
        intro CA H2 hm2 s2 n
        refine hq CA _ hm2 fun b o q => ?_
        by_cases hb2 : b ∈ C
        · rw [ret_in hb2]; exact q
        · rw [ret_out hb2]; exact s2 b o (by rw [unt_out hb2]; exact q)
      | ok dd =>
        rw [ho] at hq
        intro v H2 s2 dv n
        have s3 : Same H1 (ret_ C H1 H2) := fun b o q => by
          by_cases hb2 : b ∈ C
          · rw [ret_in hb2]; exact q
          · rw [ret_out hb2]; exact s2 b o (by rw [unt_out hb2]; exact q)
        refine hq v _ s3 (Dq.mono (fun b o q => ?_) _ _ dv)
        cases q1 : unt C H1 b with
        | some u =>
          rw [grow_some q1] at q
          have nb : b ∉ C := fun z => by rw [unt_in z] at q1; cases q1
          rw [unt_out nb] at q1
          rw [grow_some q1]; exact q
        | none =>
          rw [grow_none q1] at q
          have nb : b ∉ C := fun z => by rw [n b z] at q; cases q
          rw [unt_out nb] at q1
          rw [grow_none q1, ret_out nb]; exact q
    · obtain ⟨w', H', J', rv, q⟩ := hq
      exact ⟨w', H', J'.os, J'.bare, J'.base, J'.hok, rv, q⟩
  exact codeAny_mono rc fun x s' hx => cr_ret e0 T (fun v H2 n q => q n) (fun cl d H2 n q => q n) hx
end
end BB

/-! ## lambdas 8: a frame hands its lambdas to a def -/
namespace BB
open PySem PySem.Spec PyProof.Rows L2 LamX
/-- the frame's cells -/
abbrev cellA (X : Cx) : List Addr := X.env.cells.map (·.2)
/-- H and the objects of h at C -/
def trk (C : List Addr) (h : Heap) (H : Hp) : Hp := fun b => if b ∈ C then (h.get? b).map (CelO b) else H b
section
variable {C : List Addr} {h : Heap} {H : Hp} {b : Addr}
theorem trk_in {o : Obj} (hb : b ∈ C) (e : h.get? b = some o) : trk C h H b = some (CelO b o) := by unfold trk; rw [if_pos hb, e]; rfl
theorem trk_out (hb : b ∉ C) : trk C h H b = H b := if_neg hb
end
/-- the names of a frame's cells stand once -/
def CellsOk (X : Cx) : Prop := ∀ y a, (y, a) ∈ X.env.cells → X.env.cells.lookup y = some a
section
variable {X : Cx} {pins : List (Addr × Obj)} {σ : SL} {H : Hp} {s : Shared}
theorem cell_lk (ck : CellsOk X) {a : Addr} (h : a ∈ cellA X) : ∃ y, X.env.cells.lookup y = some a := by
  obtain ⟨⟨y, b⟩, h1, h2⟩ := List.mem_map.mp h
  obtain rfl : b = a := h2
  exact ⟨y, ck y b h1⟩
theorem lk_cell {y : Str} {a : Addr} (h : X.env.cells.lookup y = some a) : a ∈ cellA X := List.mem_map.mpr ⟨(y, a), PySem.mem_of_lookup h, rfl⟩
theorem trk_free (ck : CellsOk X) (I : Inv X pins σ H s) : ∀ a, a ∈ cellA X → H a = none := fun a ha => by
  obtain ⟨y, hy⟩ := cell_lk ck ha
  exact I.freeC y a hy
theorem trk_get (ck : CellsOk X) (I : Inv X pins σ H s) : ∀ a, a ∈ cellA X → ∃ o v, s.heap.get? a = some o ∧ o.data = .cell v := fun a ha => by
  obtain ⟨y, hy⟩ := cell_lk ck ha
  obtain ⟨v, o, h1, h2⟩ := I.cell y a hy
  exact ⟨o, v, h1, h2⟩
theorem trk_told (ck : CellsOk X) (I : Inv X pins σ H s) : Told (cellA X) (trk (cellA X) s.heap H) := fun a ha => by
  obtain ⟨o, v, e, _⟩ := trk_get ck I a ha
  exact ⟨o, trk_in ha e⟩
theorem trk_same (ck : CellsOk X) (I : Inv X pins σ H s) : Same H (trk (cellA X) s.heap H) := fun b o e => by
  rw [trk_out (fun z => by rw [trk_free ck I b z] at e; cases e)]; exact e
theorem trk_old (ck : CellsOk X) (hfn : ∀ x, X.fn x = true) (I : Inv X pins σ H s) : ∀ a, a ∈ cellA X → X.s_0.heap.objs.size ≤ a := fun a ha => by
  obtain ⟨y, hy⟩ := cell_lk ck ha
  exact I.ok.cab y a (hfn y) hy
theorem trk_nofr (ck : CellsOk X) (hfn : ∀ x, X.fn x = true) (I : Inv X pins σ H s) : ∀ a, a ∈ cellA X → a ∉ frs X.stack := fun a ha hm => by
  obtain ⟨y, hy⟩ := cell_lk ck ha
  rcases List.mem_cons.mp (I.stkSub a hm) with z | z
  · exact I.cne y a hy z
  · obtain ⟨_, o, ho, _⟩ := I.ok.funs.mem z
    exact absurd (Nat.lt_of_lt_of_le (Heap.lt_size ho) (trk_old ck hfn I a ha)) (Nat.lt_irrefl _)
theorem trk_env0 (ck : CellsOk X) (hfn : ∀ x, X.fn x = true) (I : Inv X pins σ H s) : Env0 X.prog X.w X.K X.mg X.base X.A X.stack s (trk (cellA X) s.heap H) := by
  have e0 := I.env0
  refine ⟨e0.frames, e0.mod, fun b o e => ⟨(e0.bs b o e).1, ?_⟩, e0.bsz, e0.funs, fun b hb => ?_, fun a u e => ?_, e0.bare⟩
  · rw [trk_out (fun z => ?_)]
    · exact (e0.bs b o e).2
    · exact absurd (Nat.lt_of_lt_of_le (Heap.lt_size e) (Nat.le_trans I.ok.bsz (trk_old ck hfn I b z))) (Nat.lt_irrefl _)
  · rw [trk_out (fun z => trk_nofr ck hfn I b z hb)]; exact e0.frf b hb
  · by_cases ha : a ∈ cellA X
    · obtain ⟨o, v, h1, _⟩ := trk_get ck I a ha
      rw [trk_in ha h1] at e
      cases e
      exact celO_ok h1
    · rw [trk_out ha] at e
      refine (e0.hok a u e).stay (fun _ _ _ q => q) (fun c q => trk_same ck I _ _ q) fun c xs q => trk_same ck I _ _ q
/-- a call over the told cells, seen by the frame -/
theorem call_told {fv : Value} {us : List Value} {Q : VK} (ck : CellsOk X) (hfn : ∀ x, X.fn x = true) (I : Inv X pins σ H s)
    (h : codeAny (model X.prog X.w) X.A (.call fv ⟨us, []⟩) (CR (L2.CX X.prog X.w) X.stack X.prog X.w (trk (cellA X) s.heap H) s (fun v H' => (∀ a, a ∈ cellA X → H' a = trk (cellA X) s.heap H a) ∧ Q v (unt (cellA X) H')) E0) s) :
    wpAny (model X.prog X.w) X.A (call fv us) (EP X pins σ Q) X.xe s := by
  refine wpAny_call (codeAny_mono h fun r s' hq => ?_)
  cases r with
  | error e =>
    obtain ⟨_, _, _, _, _, _, _, _, _, _, _, _, z⟩ := hq
    exact z.elim
  | ok fl =>
    cases fl with
    | next => exact False.elim hq
    | brk => exact False.elim hq
    | cont => exact False.elim hq
    | ret u =>
      obtain ⟨v, H', os, ba, un, ok, rv, ht, q⟩ := hq
      have T : Told (cellA X) H' := fun a ha => by
        obtain ⟨o, e⟩ := trk_told ck I a ha
        exact ⟨o, by rw [ht a ha]; exact e⟩
      have hn := trk_free ck I
      have out : ∀ {b u}, H b = some u → b ∉ cellA X := fun {b u} e z => by rw [hn b z] at e; cases e
      refine ⟨v, unt (cellA X) H', I.call' (ch := []) os ⟨fun b o e n hb hx => ?_, fun b o e n hb hx => ?_, fun b o e n hx => ?_, fun b o e hx => un.there b o e hx, fun b xs e => ?_, fun b o x e => ?_, fun b ps e => ?_⟩ (HOk.unt ok T) ba (fun b z => nomatch z), rv, q⟩
      · by_cases hc : b ∈ cellA X
        · have e2 := ht b hc
          rw [trk_in hc e] at e2
          exact (ok b _ e2).1
        · exact un.keep b o e (by rw [trk_out hc]; exact n) hb hx
      · exact un.slot b o e (by rw [trk_out (fun z => trk_nofr ck hfn I b z hb)]; exact n) hb hx
      · by_cases hc : b ∈ cellA X
        · exact unt_in hc
        · rw [unt_out hc]; exact un.free b o e (by rw [trk_out hc]; exact n) hx
      · rw [unt_out (out e)]; exact un.tups b xs (by rw [trk_out (out e)]; exact e)
      · rw [unt_out (out e)]; exact un.frzs b o x (by rw [trk_out (out e)]; exact e)
      · rw [unt_out (out e)]; exact un.tbls b ps (by rw [trk_out (out e)]; exact e)
/-- a lambda of the frame, told by H -/
structure LamR (X : Cx) (c : Ctx) (H : Hp) (f : Addr) (p : BB.E) : Prop where
  ex : ∃ ps body sc c', H f = some (LamO f (lamQ X) ps body sc (lamC X sc) c') ∧ H c' = some (CodeO c' (lamQ X)) ∧ LamS X.env.scope sc ∧ mE p { c with sc := sc } body = true ∧
    ∀ (q : Str) (cl : List (Str × Addr)) (pm cv ctv : Value), bindArgs (PySem.W.kla_fn "<lambda>" q ps body sc cl pm cv ctv) ⟨[], []⟩ = pure []
theorem lamR_tr {c : Ctx} {pn : List (Addr × Obj)} {xe : Value → Shared → Prop} : LamR (X.tr pn xe) c = LamR X c := by
  funext H f p
  exact propext ⟨fun h => ⟨h.ex⟩, fun h => ⟨h.ex⟩⟩
theorem LamR.mono {c : Ctx} {H H' : Hp} {f : Addr} {p : BB.E} (h : LamR X c H f p) (s : Same H H') : LamR X c H' f p := let ⟨ps, body, sc, c', h1, h2, h3⟩ := h.ex; ⟨⟨ps, body, sc, c', s _ _ h1, s _ _ h2, h3⟩⟩
theorem clo_lk {sc : Scope} (L : LamS X.env.scope sc) (ok : X.Ok) {y : Str} {a : Addr} (h : (y, a) ∈ lamC X sc) : X.env.cells.lookup y = some a := by
  rcases cloFrom_mem h with m | ⟨h1, h2⟩
  · cases m
  · obtain ⟨c1, hc⟩ := L.has ok _ h1 rfl
    have hc : X.env.cells.lookup y = some c1 := hc
    rw [hc] at h2
    rw [hc, h2]; rfl
/-- .. is a call with an outcome, over the told cells -/
theorem lam_out {c : Ctx} {g : Sg} {k : Nat} {f : Addr} {p : BB.E} {F : Hp} {r : Env} (ck : CellsOk X) (I : Inv X pins σ H s) (hN : X.N = c.N) (nd : c.N.Nodup) (G : Glob X.prog X.w X.K X.mg X.base c.fns c.gls g k) (h : LamR X c H f p) (e : Same F H) (d : DenE X.K F σ r) :
    Thk X.prog X.w X.K X.mg X.base (k + 1) F (trk (cellA X) s.heap H) f (evE g p r) := by
  obtain ⟨ps, body, sc, c', h1, h2, L, hm, hb⟩ := h.ex
  have sm := trk_same ck I
  refine lam_thk L hN nd I.len (fun x y a q1 q2 => I.ok.inj x y a (clo_lk L I.ok (PySem.mem_of_lookup q1)) (clo_lk L I.ok (PySem.mem_of_lookup q2))) G hm hb (sm _ _ h1) (sm _ _ h2) (fun y a q => ?_) (e.trans sm) (fun y a q => ?_) d
  · have lk := clo_lk L I.ok q
    have ha := lk_cell lk
    obtain ⟨ov, o, ho, hd⟩ := I.cell y a lk
    refine ⟨o, ov, trk_in ha ho, hd, fun i v q1 q2 => ?_⟩
    obtain ⟨m, hn, hl⟩ := I.loc
    have hv : X.env.scope.names.lookup y = some .cell ∨ X.env.scope.names.lookup y = some .free := by
      rcases cloFrom_mem q with m | ⟨z, _⟩
      · cases m
      · exact L.free _ z rfl
    obtain ⟨u, ru, lu⟩ := hl i y v q1 q2 (.inr hv)
    rcases lu with ⟨z, _⟩ | ⟨_, a', z1, o', ho', hd'⟩
    · have z : X.env.scope.names.lookup y = some .local := z
      rcases hv with hv | hv <;> (rw [hv] at z; cases z)
    · rw [lk] at z1
      cases z1
      rw [ho] at ho'
      cases ho'
      rw [hd] at hd'
      cases hd'
      exact ⟨u, rfl, ru⟩
  · have lk := clo_lk L I.ok q
    have z := I.freeC y a lk
    cases w : F a with
    | none => rfl
    | some o => rw [e a o w] at z; cases z
end
end BB

/-! ## lambdas 9: statements of a frame that makes lambdas -/
namespace BB
open PySem PySem.Spec PyProof.Rows L2 LamX
/-- the frame's facts -/
structure LamF (X : Cx) (c : Ctx) (g : Sg) (k : Nat) (L : Lx) : Prop where
  ck : CellsOk X
  tb : ∃ c0 P, TabB X.base X.mg c0 P ∧ X.env.code = .ref c0 ∧ (P, lamQ X) ∈ L.T ∧ ∀ p ∈ L.T, p.1 = P → p.2 = lamQ X
  R : L.R = LamR X c
  fs : ∃ j, Glob X.prog X.w X.K X.mg X.base c.fns c.gls g j ∧
    (∃ f fd y1 y2, FnOk X.prog X.w X.K X.mg X.base (L2.CX X.prog X.w) k f fd [y1, y2] (spA X.prog X.w X.K X.mg X.base (j + 1) g.lam) ∧ X.mg ("_law_all" : Str) = some (.ref f) ∧ PySem.W.keepIn X.K (.ref f) = true ∧ Binds X.K fd [y1, y2] []) ∧
    (∃ f fd y, FnOk X.prog X.w X.K X.mg X.base (L2.CX X.prog X.w) k f fd [y] (spR X.prog X.w X.K X.mg X.base (j + 1) g.lam) ∧ X.mg ("_law_result" : Str) = some (.ref f) ∧ PySem.W.keepIn X.K (.ref f) = true ∧ Binds X.K fd [y] [])
/-! ### the texts -/
def noArg (a : Arguments) : Bool := match a with
  | ⟨[], [], none, [], [], none, []⟩ => true
  | _ => false
theorem noArg_inv {a : Arguments} (h : noArg a = true) : a = ⟨[], [], none, [], [], none, []⟩ := by
  unfold noArg at h
  split at h
  · rfl
  · cases h
/-- lambda: p -/
def mLam (c : Ctx) (p : BB.E) (e : Expr) : Bool := match e with
  | .Lambda ps body sc _ => noArg ps && lamSB c.sc sc && mE p { c with sc := sc } body
  | _ => false
theorem mLam_inv {c : Ctx} {p : BB.E} {e : Expr} (h : mLam c p e = true) : ∃ body sc pos, e = .Lambda ⟨[], [], none, [], [], none, []⟩ body sc pos ∧ LamS c.sc sc ∧ mE p { c with sc := sc } body = true := by
  unfold mLam at h
  split at h
  · obtain ⟨h1, h2, h3⟩ := and3 h
    cases noArg_inv h1
    exact ⟨_, _, _, rfl, lamS_by h2, h3⟩
  · cases h
def mTa (c : Ctx) (t : Ta) (e : Expr) : Bool := match t with
  | .v i => qNm (fun x => decide (c.N[i]? = some x) && visB c.sc x && nmB x) e
  | .l p => qLst (fun ls => match ls with
    | [l] => mLam c p l
    | _ => false) e
def mAllC (c : Ctx) (t : Ta × Str) (e : Expr) : Bool := match e with
  | .Call (.Name x _) [a, .Constant (.str n) _ _] [] _ => decide (x = ("_law_all" : Str)) && glB c.sc x && mTa c t.1 a && decide (n = t.2)
  | _ => false
theorem mAllC_inv {c : Ctx} {t : Ta × Str} {e : Expr} (h : mAllC c t e = true) : ∃ p1 a j p2 p3, e = .Call (.Name ("_law_all" : Str) p1) [a, .Constant (.str t.2) j p2] [] p3 ∧ glB c.sc ("_law_all" : Str) = true ∧ mTa c t.1 a = true := by
  unfold mAllC at h
  split at h
  · obtain ⟨h, h3, h4⟩ := and3 h
    obtain ⟨h1, h2⟩ := and2 h
    cases (of_decide_eq_true h1 : _ = ("_law_all" : Str))
    cases (of_decide_eq_true h4 : _ = t.2)
    exact ⟨_, _, _, _, _, rfl, h2, h3⟩
  · cases h
def mNot1 (c : Ctx) (t : Ta × Str) (e : Expr) : Bool := match e with
  | .UnaryOp .Not l _ => mAllC c t l
  | _ => false
theorem mNot1_inv {c : Ctx} {t : Ta × Str} {e : Expr} (h : mNot1 c t e = true) : ∃ l p, e = .UnaryOp .Not l p ∧ mAllC c t l = true := by
  unfold mNot1 at h
  split at h
  · exact ⟨_, _, rfl, h⟩
  · cases h
def mNots (c : Ctx) : List (Ta × Str) → List Expr → Bool
  | [], [] => true
  | t :: ts, e :: es => mNot1 c t e && mNots c ts es
  | _, _ => false
def mAlls (c : Ctx) (ts : List (Ta × Str)) (e : Expr) : Bool := match ts with
  | [t] => mNot1 c t e
  | ts => match e with
    | .BoolOp .Or es _ => mNots c ts es && !es.isEmpty
    | _ => false
section
variable {X : Cx} {L : Lx} {F0 H0 F H H1 : Hp} {σ : SL} {r : Env} {c : Ctx} {g : Sg} {k : Nat} {E : XK}
/-- tables grow, lambdas come -/
theorem DenS.ext {K : Frag} (d : DenS K L F0 H0 F H σ r) (x : ExtT L.T H H1) (t : Tabs L.T H1) : DenS K L F0 H0 F H1 σ r := by
  have ne : ∀ {b o}, H b = some o → (∀ ps, o ≠ .tbl ps) → ∀ p ∈ L.T, p.1 ≠ b := fun {b o} e n p hp z => by
    obtain ⟨ps, e2⟩ := tab_at d.tab hp
    rw [z, e] at e2
    cases e2
    exact n ps rfl
  refine ⟨d.len, fun b o e => x b o (d.sub b o e) fun p hp z => ?_, fun b o e => x b o (d.old b o e) fun p hp z => ?_, d.fr, d.val, fun i ds q => ?_, d.uniq, d.nobj, t, d.noT, d.noX, d.thk⟩
  · rw [← z, (d.noT p hp).1] at e; cases e
  · rw [← z, (d.noT p hp).2] at e; cases e
  · obtain ⟨a, vs, h1, h2, h3, h4, h5⟩ := d.own i ds q
    exact ⟨a, vs, h1, h2, h3, x a _ h4 (ne h4 fun ps z => by cases z), h5⟩
/-- what stands in the heap and is not owned may be known -/
theorem DenS.know {K : Frag} {a : Addr} {o : HO} (d : DenS K L F0 H0 F H σ r) (hF : F a = none ∨ F a = some o) (hH : H a = some o) (h0 : H0 a = none) (hn : ∀ xs, o ≠ .lst xs) (ht : ∀ ps, o ≠ .tbl ps) : Same F (upd F a o) ∧ DenS K L F0 H0 (upd F a o) H σ r := by
  have s : Same F (upd F a o) := fun b u e => by
    by_cases z : b = a
    · subst z
      rcases hF with w | w
      · rw [w] at e; cases e
      · rw [w] at e; cases e; exact upd_same
    · rw [upd_ne z]; exact e
  refine ⟨s, d.len, fun b u e => ?_, d.old, fun b u e => ?_, fun i d' q => ?_, fun i ds q => ?_, d.uniq, d.nobj, d.tab, fun p hp => ?_, d.noX, fun i ps q => ?_⟩
  · by_cases z : b = a
    · subst z; rw [upd_same] at e; cases e; exact hH
    · rw [upd_ne z] at e; exact d.sub b u e
  · rw [upd_ne (fun z => by rw [z, h0] at e; cases e)]; exact d.fr b u e
  · obtain ⟨v, h1, h2⟩ := d.val i d' q
    exact ⟨v, h1, Dq.mono s _ _ h2⟩
  · obtain ⟨b, vs, h1, h2, h3, h4, h5⟩ := d.own i ds q
    refine ⟨b, vs, h1, h2, ?_, h4, DqAll.mono s _ _ h5⟩
    rw [upd_ne (fun z => by rw [z, hH] at h4; cases h4; exact hn vs rfl)]; exact h3
  · obtain ⟨ps, e⟩ := tab_at d.tab hp
    refine ⟨?_, (d.noT p hp).2⟩
    rw [upd_ne (fun z => by rw [z, hH] at e; cases e; exact ht ps rfl)]; exact (d.noT p hp).1
  · obtain ⟨b, fs, h1, h2, h3⟩ := d.thk i ps q
    exact ⟨b, fs, h1, s _ _ h2, h3.mono s⟩
/-- a lambda is made in the frame -/
theorem DenS.made {K : Frag} {ps : Arguments} {body : Expr} {sc : Scope} {f c' : Addr} (d : DenS K L F0 H0 F H σ r) (hT : L.T ≠ []) (m : MkL L.T (lamQ X) ps body sc (lamC X sc) H f c' H1) : ∃ F', Same F F' ∧ DenS K L F0 H0 F' H1 σ r ∧ F' f = some (LamO f (lamQ X) ps body sc (lamC X sc) c') ∧ F' c' = some (CodeO c' (lamQ X)) ∧ ∀ b, b ≠ f → b ≠ c' → F' b = F b := by
  have d1 := d.ext m.ext m.tab
  have h0c : H0 c' = none := by
    cases w : H0 c' with
    | none => rfl
    | some o =>
      have z := d1.old c' o w
      rw [m.cd] at z
      cases z
      exact absurd w (d.noX hT c' _)
  have h0f : H0 f = none := d.old.free m.new
  obtain ⟨s1, d2⟩ := d1.know (a := c') (o := CodeO c' (lamQ X)) (by
    cases w : F c' with
    | none => exact .inl rfl
    | some o =>
      have z := d1.sub c' o w
      rw [m.cd] at z
      exact .inr z.symm) m.cd h0c (fun xs z => by unfold CodeO at z; cases z) codeO_ne
  have ne : f ≠ c' ∨ LamO f (lamQ X) ps body sc (lamC X sc) c' = CodeO c' (lamQ X) := by
    by_cases z : f = c'
    · right
      have := m.fn
      rw [z, m.cd] at this
      have e := Option.some.inj this
      rw [z]; exact e.symm
    · exact .inl z
  obtain ⟨s2, d3⟩ := d2.know (a := f) (o := LamO f (lamQ X) ps body sc (lamC X sc) c') (by
    by_cases z : f = c'
    · right
      subst z
      rcases ne with w | w
      · exact absurd rfl w
      · rw [upd_same, w]
    · left
      rw [upd_ne z]; exact d.sub.free m.new) m.fn h0f (fun xs z => by unfold LamO at z; cases z) lamO_tbl
  exact ⟨_, s1.trans s2, d3, upd_same, s2 _ _ upd_same, fun b h1 h2 => by rw [upd_ne h1, upd_ne h2]⟩
end
end BB

/-! ## lambdas 10: calls that take lambdas, in a frame -/
namespace BB
open PySem PySem.Spec PyProof.Rows L2 LamX
theorem isX_exc {n : Str} {o : Out D} (h : isX n o = true) : o = .exc n := by
  cases o with
  | ok d => cases h
  | bad => cases h
  | exc c => rw [show c = n from of_decide_eq_true h]
section
variable {X : Cx} {L : Lx} {F0 H0 F H H1 : Hp} {σ : SL} {r : Env} {c : Ctx} {g : Sg} {k : Nat} {E : XK} {pins : List (Addr × Obj)} {s : Shared}
theorem lams_mem {fs : List Addr} {ps : List BB.E} {f : Addr} (h : Lams L F fs ps) (hf : f ∈ fs) : ∃ p, p ∈ ps ∧ L.R F f p := by
  induction h with
  | nil => cases hf
  | cons a t ih =>
    rcases List.mem_cons.mp hf with z | z
    · subst z; exact ⟨_, by simp, a⟩
    · obtain ⟨p, h1, h2⟩ := ih z
      exact ⟨p, by simp [h1], h2⟩
theorem taE_v {i : Nat} (h : (taE r (.v i)).isEmpty = false) : ∃ ps, r.getD i .non = .thks ps ∧ taE r (.v i) = ps := by
  have e : taE r (.v i) = match r.getD i .non with
    | .thks ps => ps
    | _ => [] := rfl
  cases w : r.getD i .non with
  | thks ps => exact ⟨ps, rfl, by rw [e, w]⟩
  | non => rw [e, w] at h; cases h
  | val d => rw [e, w] at h; cases h
  | own d => rw [e, w] at h; cases h
  | obj d => rw [e, w] at h; cases h
theorem lams_len {fs : List Addr} {ps : List BB.E} (h : Lams L F fs ps) : fs.length = ps.length := by
  induction h with
  | nil => rfl
  | cons a t ih => rw [List.length_cons, List.length_cons, ih]
theorem unt_same (ck : CellsOk X) (I : Inv X pins σ H s) {H' : Hp} (sm : Same (trk (cellA X) s.heap H) H') : (∀ a, a ∈ cellA X → H' a = trk (cellA X) s.heap H a) ∧ Same H (unt (cellA X) H') := by
  refine ⟨fun a ha => ?_, fun b o e => ?_⟩
  · obtain ⟨o, e⟩ := trk_told ck I a ha
    rw [e, sm _ _ e]
  · rw [unt_out (fun z => by rw [trk_free ck I b z] at e; cases e)]
    exact sm _ _ (trk_same ck I _ _ e)
/-- the def that asks whether all calls raise, called with a list of lambdas -/
theorem call_all {f a : Addr} {fd : FuncData} {y1 y2 : Str} {j : Nat} {n : Str} {ps : List BB.E} {fs : List Addr} {us : List Value} {Q : VK} (ck : CellsOk X) (hfn : ∀ x, X.fn x = true) (hR : L.R = LamR X c) (hN : X.N = c.N) (nd : c.N.Nodup) (G : Glob X.prog X.w X.K X.mg X.base c.fns c.gls g j)
    (FA : FnOk X.prog X.w X.K X.mg X.base (L2.CX X.prog X.w) k f fd [y1, y2] (spA X.prog X.w X.K X.mg X.base (j + 1) g.lam)) (hb : Binds X.K fd [y1, y2] []) (hr : Room k X.A) (I : Inv X pins σ H s) (rv : Vals [.ref a, .str n] us) (d : DenS X.K L F0 H0 F H σ r) (hn : n ∈ g.lam) (hps : ∀ p, p ∈ ps → evE g p (hide r) = .exc n) (hla : H a = some (.lst (fs.map V.ref))) (hlm : Lams L H fs ps)
    (hq : ∀ H', Same H H' → Q (.bl true) H') : wpAny (model X.prog X.w) X.A (call (.ref f) us) (EP X pins σ Q) X.xe s := by
  have sm := trk_same ck I
  have hl : (us ++ []).length = [y1, y2].length := by rw [List.append_nil, ← rv.length]; rfl
  have bd := hb s us I.kIn hl
  rw [List.append_nil] at bd
  refine call_told ck hfn I (FA.run X.A X.stack s _ ⟨us, []⟩ us _ _ E0 hr (trk_env0 ck hfn I) bd rv ⟨a, fs, F, n, rfl, hn, by have z := (I.hok a _ hla).1; rw [List.length_map] at z; exact z, d.sub.trans sm, sm _ _ hla, fun f hf => ?_, fun H' s' => ?_⟩)
  · obtain ⟨p, hp, hr⟩ := lams_mem hlm hf
    rw [hR] at hr
    have := lam_out ck I hN nd G hr d.sub d.hid
    rw [hps p hp] at this
    exact this
  · obtain ⟨h1, h2⟩ := unt_same ck I s'
    exact ⟨h1, hq _ h2⟩
/-- .. the def that tells the result of a call, called with a lambda -/
theorem call_res {f a : Addr} {fd : FuncData} {y : Str} {j : Nat} {p : BB.E} {us : List Value} {Q : VK} (ck : CellsOk X) (hfn : ∀ x, X.fn x = true) (hN : X.N = c.N) (nd : c.N.Nodup) (G : Glob X.prog X.w X.K X.mg X.base c.fns c.gls g j)
    (FR : FnOk X.prog X.w X.K X.mg X.base (L2.CX X.prog X.w) k f fd [y] (spR X.prog X.w X.K X.mg X.base (j + 1) g.lam)) (hb : Binds X.K fd [y] []) (hr : Room k X.A) (I : Inv X pins σ H s) (rv : Vals [.ref a] us) (d : DenS X.K L F0 H0 F H σ r) (hlm : LamR X c H a p)
    (hq : Res X.mg E0 F H (Dq X.K) (resT g.lam (evE g p (hide r))) Q) : wpAny (model X.prog X.w) X.A (call (.ref f) us) (EP X pins σ Q) X.xe s := by
  have sm := trk_same ck I
  have hl : (us ++ []).length = [y].length := by rw [List.append_nil, ← rv.length]; rfl
  have bd := hb s us I.kIn hl
  rw [List.append_nil] at bd
  refine call_told ck hfn I (FR.run X.A X.stack s _ ⟨us, []⟩ us _ _ E0 hr (trk_env0 ck hfn I) bd rv ⟨a, F, _, rfl, d.sub.trans sm, lam_out ck I hN nd G hlm d.sub d.hid, ?_⟩)
  cases ho : resT g.lam (evE g p (hide r)) with
  | bad => rw [ho] at hq; exact hq.elim
  | exc x =>
    exfalso
    cases hp : evE g p (hide r) with
    | ok d => rw [hp] at ho; cases ho
    | bad => rw [hp] at ho; cases ho
    | exc z =>
      rw [hp] at ho
      have ho : (if z ∈ g.lam then Out.ok (PyData.tuple [.str "error", .str z]) else .bad) = .exc x := ho
      split at ho <;> cases ho
  | ok dd =>
    rw [ho] at hq
    intro v H' s' dv
    obtain ⟨h1, h2⟩ := unt_same ck I s'
    refine ⟨h1, hq v _ h2 (Dq.mono (fun b o q => ?_) _ _ dv)⟩
    cases w : H b with
    | some u =>
      rw [grow_some (sm _ _ w)] at q
      rw [grow_some w]; exact q
    | none =>
      rw [grow_none w]
      by_cases hb : b ∈ cellA X
      · obtain ⟨oc, e⟩ := trk_told ck I b hb
        rw [grow_some e] at q
        rw [d.sub b o q] at w; cases w
      · rw [grow_none (by rw [trk_out hb]; exact w)] at q
        rw [unt_out hb]; exact q
end
section
variable {X : Cx} {L : Lx} {F0 H0 : Hp} {c : Ctx} {g : Sg} {k : Nat} {E : XK}
theorem LamF.tne (LF : LamF X c g k L) : L.T ≠ [] := fun z => by
  obtain ⟨c0, P, _, _, h, _⟩ := LF.tb
  rw [z] at h; cases h
theorem LamF.lam (LF : LamF X c g k L) (hs : X.env.scope = c.sc) {body : Expr} {sc : Scope} {pos : Pos} (hL : LamS c.sc sc) : PE X (.Lambda ⟨[], [], none, [], [], none, []⟩ body sc pos) (tMkL L.T (lamQ X) ⟨[], [], none, [], [], none, []⟩ body sc (lamC X sc)) := by
  obtain ⟨c0, P, tb, hc, hm, hu⟩ := LF.tb
  exact pe_lam tb hc hm hu (by rw [hs]; exact hL) rfl
theorem lamR_of {body : Expr} {sc : Scope} {f c' : Addr} {H : Hp} {p : BB.E} (hs : X.env.scope = c.sc) (hL : LamS c.sc sc) (hm : mE p { c with sc := sc } body = true) (h1 : H f = some (LamO f (lamQ X) ⟨[], [], none, [], [], none, []⟩ body sc (lamC X sc) c')) (h2 : H c' = some (CodeO c' (lamQ X))) : LamR X c H f p :=
  ⟨⟨_, _, _, _, h1, h2, by rw [hs]; exact hL, hm, fun q cl pm cv ctv => rfl⟩⟩
/-- f(x, 'n'), f([lambda: p], 'n'): true -/
theorem peAll {t : Ta × Str} {e : Expr} (LF : LamF X c g k L) (ok : CxOk c g k E X) (hfn : ∀ x, X.fn x = true) (h : mAllC c t e = true) :
    PE X e (fun σ H Q => ∃ r F, DenS X.K L F0 H0 F H σ r ∧ allT g r t = true ∧ ∀ F' H', Same F F' → DenS X.K L F0 H0 F' H' σ r → Q (.bl true) H') ∧ ∀ whole, isTrue e X.env whole = (do let v ← whole; standAt e.pos; holding [v] (truthy v)) := by
  obtain ⟨p1, a, j, p2, p3, rfl, hg, hta⟩ := mAllC_inv h
  obtain ⟨jj, G, ⟨f, fd, y1, y2, FA, hm, hk, hb⟩, _⟩ := LF.fs
  refine ⟨?_, fun _ => rfl⟩
  obtain ⟨t, n⟩ := t
  cases t with
  | v i =>
    obtain ⟨x, px, rfl, hx⟩ := qNm_inv hta
    obtain ⟨x1, x2, x3⟩ := and3 hx
    obtain ⟨n1, n2, _⟩ := nm_of x3
    refine ⟨fun pins s σ H Q I ⟨r, F, d, ha, hq⟩ => ?_⟩
    obtain ⟨a1, a2, a3⟩ := and3 ha
    obtain ⟨ps, w1, w2⟩ := taE_v (show (taE r (.v i)).isEmpty = false by simpa using a2)
    have a3 : (taE r (.v i)).all (fun p => isX n (evE g p (hide r))) = true := a3
    rw [w2] at a3
    obtain ⟨la, fs, h1, h2, h3⟩ := d.thk i ps w1
    refine wpAny_Call_Name_kw (ld_glob I (ok.gl hg) hm ?_ (by decide))
    have hpa := pa_cons (pe_var (X := X) (pos := px) (i := i) (by rw [ok.N]; exact of_decide_eq_true x1) (by rw [ok.sc]; exact vis_of x2) n1 n2) (pa_cons (pe_str (X := X) (x := n) (j := j) (pos := p2)) pa_nil rfl) rfl
    refine PySem.W.callWith_K (h₀ := X.base) I.ok.mod.kin hk (thn (hpa.run p3 pins s σ H (fun vs H1 => vs = [.ref la, .str n] ∧ H1 = H) I ⟨.ref la, h1, rfl, rfl⟩) fun us s1 ⟨vs, H1, I1, rv, e1, e2⟩ => ⟨I1.kIn, ?_⟩) rfl rfl
    subst e1 e2
    exact call_all LF.ck hfn LF.R ok.N ok.nd G FA hb ok.room I1 rv d (by simpa using a1) (fun p hp => isX_exc (List.all_eq_true.mp a3 p hp)) (d.sub _ _ h2) (h3.mono d.sub) fun H' s' => hq F H' (Same.refl F) (d.keep s')
  | l p =>
    obtain ⟨ls, lp, rfl, hx⟩ := qLst_inv hta
    match ls, hx with
    | [l], hx =>
      obtain ⟨body, sc, pos, rfl, hL, hmE⟩ := mLam_inv hx
      refine ⟨fun pins s σ H Q I ⟨r, F, d, ha, hq⟩ => ?_⟩
      obtain ⟨a1, a2, a3⟩ := and3 ha
      have a3 : ([p] : List BB.E).all (fun p => isX n (evE g p (hide r))) = true := a3
      refine wpAny_Call_Name_kw (ld_glob I (ok.gl hg) hm ?_ (by decide))
      have hpa := pa_cons (pe_lst (pos := lp) (pa_cons (LF.lam ok.sc (body := body) (pos := pos) hL) pa_nil rfl)) (pa_cons (pe_str (X := X) (x := n) (j := j) (pos := p2)) pa_nil rfl) rfl
      refine PySem.W.callWith_K (h₀ := X.base) I.ok.mod.kin hk (thn (hpa.run p3 pins s σ H (fun vs H1 => ∃ la f F', vs = [.ref la, .str n] ∧ Same F F' ∧ DenS X.K L F0 H0 F' H1 σ r ∧ H1 la = some (.lst [.ref f]) ∧ LamR X c H1 f p) I ⟨d.tab, fun f c' H1 m => ⟨lim_size (by show 1 ≤ 1000000; omega), fun q hq2 => ?_⟩⟩) fun us s1 ⟨vs, H1, I1, rv, la, f, F', e1, sF, d1, k1, k2⟩ => ⟨I1.kIn, ?_⟩) rfl rfl
      · obtain ⟨F', s1, d1, g1, g2, _⟩ := d.made LF.tne m
        have s2 := same_upd (o := .lst [.ref f]) hq2
        exact ⟨q, f, F', rfl, s1, d1.keep s2, upd_same, (lamR_of ok.sc hL hmE m.fn m.cd).mono s2⟩
      · subst e1
        refine call_all (fs := [f]) (ps := [p]) LF.ck hfn LF.R ok.N ok.nd G FA hb ok.room I1 rv d1 (by simpa using a1) (fun p hp => isX_exc (List.all_eq_true.mp a3 p hp)) k1 (.cons (by rw [LF.R]; exact k2) .nil) fun H' s' => hq F' H' sF (d1.keep s')
end
end BB

/-! ## lambdas 11: the statements -/
namespace BB
open PySem PySem.Spec PyProof.Rows L2 LamX
section
variable {X : Cx} {L : Lx} {F0 H0 : Hp} {c : Ctx} {g : Sg} {k : Nat} {E : XK}
/-! ### if not all(..): .. -/
def tAlls (X : Cx) (L : Lx) (F0 H0 : Hp) (g : Sg) (ts : List (Ta × Str)) : TT := fun σ H Q => ∃ r F, DenS X.K L F0 H0 F H σ r ∧ ts.all (allT g r) = true ∧ ∀ F' H', Same F F' → DenS X.K L F0 H0 F' H' σ r → Q false H'
theorem ptNot1 {t : Ta × Str} {e : Expr} (LF : LamF X c g k L) (ok : CxOk c g k E X) (hfn : ∀ x, X.fn x = true) (h : mNot1 c t e = true) : PT X e (tAlls X L F0 H0 g [t]) := by
  obtain ⟨l, p, rfl, h⟩ := mNot1_inv h
  obtain ⟨h1, h2⟩ := peAll (F0 := F0) (H0 := H0) LF ok hfn h
  refine PT.imp (pt_not (pt_val h1 h2)) fun σ H Q ⟨r, F, d, ha, hq⟩ => ⟨r, F, d, by simpa using ha, fun F' H' s d' => ⟨true, rfl, hq F' H' s d'⟩⟩
theorem pwNots (LF : LamF X c g k L) (ok : CxOk c g k E X) (hfn : ∀ x, X.fn x = true) {pos : Pos} : ∀ {ts : List (Ta × Str)} {es : List Expr}, mNots c ts es = true → es.isEmpty = false → PW X (.BoolOp .Or es pos) (tAlls X L F0 H0 g ts)
  | [], [], _, z => by cases z
  | [], _ :: _, h, _ => by cases h
  | _ :: _, [], h, _ => by cases h
  | [t], [e], h, _ => by
    have h : (mNot1 c t e && mNots c [] []) = true := h
    obtain ⟨h1, _⟩ := and2 h
    exact pw_or1 (ptNot1 LF ok hfn h1)
  | [t], e :: e2 :: es, h, _ => by
    have h : (mNot1 c t e && mNots c [] (e2 :: es)) = true := h
    obtain ⟨_, h2⟩ := and2 h
    cases h2
  | t :: t2 :: ts, [e], h, _ => by
    have h : (mNot1 c t e && mNots c (t2 :: ts) []) = true := h
    obtain ⟨_, h2⟩ := and2 h
    cases h2
  | t :: t2 :: ts, e :: e2 :: es, h, _ => by
    have h : (mNot1 c t e && mNots c (t2 :: ts) (e2 :: es)) = true := h
    obtain ⟨h1, h2⟩ := and2 h
    refine PW.imp (pw_or (ptNot1 (F0 := F0) (H0 := H0) LF ok hfn h1) (pwNots (ts := t2 :: ts) LF ok hfn h2 rfl)) fun σ H Q ⟨r, F, d, ha, hq⟩ => ?_
    rw [List.all_cons, Bool.and_eq_true] at ha
    refine ⟨r, F, d, by rw [List.all_cons, ha.1]; rfl, fun F' H' s d' => ?_⟩
    show (if false = true then _ else _)
    rw [if_neg Bool.false_ne_true]
    exact ⟨r, F', d', ha.2, fun F2 H2 s2 d2 => hq F2 H2 (s.trans s2) d2⟩
theorem psAllA {ts : List (Ta × Str)} {u : Expr} {a : List Stmt} {pos : Pos} (LF : LamF X c g k L) (ok : CxOk c g k E X) (hfn : ∀ x, X.fn x = true) (h : mAlls c ts u = true) : PS X (.If u a [] pos) (tPS X.K L X.mg E F0 H0 fun r => if !ts.isEmpty && ts.all (allT g r) then .next r else .bad) := by
  have hp : PT X u (tAlls X L F0 H0 g ts) := by
    unfold mAlls at h
    split at h
    · exact ptNot1 LF ok hfn h
    · split at h
      · rename_i es p
        obtain ⟨h1, h2⟩ := and2 h
        exact (pwNots LF ok hfn h1 (by simpa using h2)).pt
      · cases h
  refine PS.imp (ps_if hp (pss_no a) pss_nil) fun B σ H ⟨r, F, d, h⟩ => ?_
  have h : ResF X.K L X.mg E F0 H0 F (if (!ts.isEmpty && ts.all (allT g r)) = true then .next r else .bad) B := h
  by_cases q : (!ts.isEmpty && ts.all (allT g r)) = true
  · rw [if_pos q] at h
    obtain ⟨_, q2⟩ := and2 q
    refine ⟨r, F, d, q2, fun F' H' s d' => ?_⟩
    show (if false = true then _ else _)
    rw [if_neg Bool.false_ne_true]
    exact h σ H' F' s d'
  · rw [if_neg q] at h; exact h.elim
/-- return all(..) -/
theorem psRetA {t : Ta} {n : Str} {e : Expr} {pos : Pos} (e0 : Same F0 H0) (LF : LamF X c g k L) (ok : CxOk c g k E X) (hfn : ∀ x, X.fn x = true) (h : mAllC c (t, n) e = true) : PS X (.Return (some e) pos) (tPS X.K L X.mg E F0 H0 fun r => if allT g r (t, n) then .ret (.bool true) else .bad) := by
  refine PS.imp (ps_ret (peAll (F0 := F0) (H0 := H0) LF ok hfn h).1) fun B σ H ⟨r, F, d, h⟩ => ?_
  have h : ResF X.K L X.mg E F0 H0 F (if allT g r (t, n) = true then .ret (.bool true) else .bad) B := h
  by_cases q : allT g r (t, n) = true
  · rw [if_pos q] at h
    exact ⟨r, F, d, q, fun F' H' s d' => h _ _ d'.old (.bl true)⟩
  · rw [if_neg q] at h; exact h.elim
/-! ### x = f(lambda: p) -/
def mResC (c : Ctx) (p : BB.E) (e : Expr) : Bool := match e with
  | .Call (.Name x _) [l] [] _ => decide (x = ("_law_result" : Str)) && glB c.sc x && mLam c p l
  | _ => false
theorem mResC_inv {c : Ctx} {p : BB.E} {e : Expr} (h : mResC c p e = true) : ∃ p1 l p2, e = .Call (.Name ("_law_result" : Str) p1) [l] [] p2 ∧ glB c.sc ("_law_result" : Str) = true ∧ mLam c p l = true := by
  unfold mResC at h
  split at h
  · obtain ⟨h1, h2, h3⟩ := and3 h
    cases (of_decide_eq_true h1 : _ = ("_law_result" : Str))
    exact ⟨_, _, _, rfl, h2, h3⟩
  · cases h
theorem peRes {p : BB.E} {e : Expr} (LF : LamF X c g k L) (ok : CxOk c g k E X) (hfn : ∀ x, X.fn x = true) (h : mResC c p e = true) :
    PE X e (fun σ H Q => ∃ r F dd, DenS X.K L F0 H0 F H σ r ∧ resT g.lam (evE g p (hide r)) = .ok dd ∧ ∀ v F' H', Same F F' → DenS X.K L F0 H0 F' H' σ r → Dq X.K F' v dd → Q v H') ∧ isLC e = false := by
  obtain ⟨p1, l, p2, rfl, hg, hl⟩ := mResC_inv h
  obtain ⟨body, sc, pos, rfl, hL, hmE⟩ := mLam_inv hl
  obtain ⟨jj, G, _, ⟨f, fd, y, FR, hm, hk, hb⟩⟩ := LF.fs
  refine ⟨⟨fun pins s σ H Q I ⟨r, F, dd, d, hr, hq⟩ => ?_⟩, rfl⟩
  refine wpAny_Call_Name_kw (ld_glob I (ok.gl hg) hm ?_ (by decide))
  have hpa := pa_cons (LF.lam ok.sc (body := body) (pos := pos) hL) pa_nil rfl
  refine PySem.W.callWith_K (h₀ := X.base) I.ok.mod.kin hk (thn (hpa.run p2 pins s σ H (fun vs H1 => ∃ f F', vs = [.ref f] ∧ Same F F' ∧ DenS X.K L F0 H0 F' H1 σ r ∧ LamR X c H1 f p) I ⟨d.tab, fun f c' H1 m => ?_⟩) fun us s1 ⟨vs, H1, I1, rv, fa, F', e1, sF, d1, k2⟩ => ⟨I1.kIn, ?_⟩) rfl rfl
  · obtain ⟨F', s1, d1, g1, g2, _⟩ := d.made LF.tne m
    exact ⟨f, F', rfl, s1, d1, lamR_of ok.sc hL hmE m.fn m.cd⟩
  · subst e1
    refine call_res LF.ck hfn ok.N ok.nd G FR hb ok.room I1 rv d1 k2 ?_
    rw [hr]
    intro v H' s' dv
    exact hq v _ H' (sF.trans (grow_same1 d1.sub)) (d1.grow s') dv
theorem psAsgR {p : BB.E} {e : Expr} {x : Str} {i : Nat} {px pos : Pos} (LF : LamF X c g k L) (ok : CxOk c g k E X) (hfn : ∀ x, X.fn x = true) (hN : X.N[i]? = some x) (hl : Loc X.env.scope x) (h : mResC c p e = true) :
    PS X (.Assign [.Name x px] e pos) (tPS X.K L X.mg E F0 H0 fun r => if g.lam.isEmpty then .bad else (resT g.lam (evE g p (hide r))).fl fun d => .next (r.set i (.val d))) := by
  obtain ⟨h1, h2⟩ := peRes (F0 := F0) (H0 := H0) LF ok hfn h
  have hnd : X.N.Nodup := by rw [ok.N]; exact ok.nd
  refine PS.imp (ps_set hnd hN hl h1 (swap_lc h2) (.inl (hfn x))) fun B σ H ⟨r, F, d, h⟩ => ?_
  have h : ResF X.K L X.mg E F0 H0 F (if g.lam.isEmpty = true then .bad else (resT g.lam (evE g p (hide r))).fl fun d => .next (r.set i (.val d))) B := h
  by_cases q : g.lam.isEmpty = true
  · rw [if_pos q] at h; exact h.elim
  · rw [if_neg q] at h
    cases ho : resT g.lam (evE g p (hide r)) with
    | bad => rw [ho] at h; exact h.elim
    | exc z =>
      exfalso
      cases hp : evE g p (hide r) with
      | ok d => rw [hp] at ho; cases ho
      | bad => rw [hp] at ho; cases ho
      | exc y =>
        rw [hp] at ho
        have ho : (if y ∈ g.lam then Out.ok (PyData.tuple [.str "error", .str y]) else .bad) = .exc z := ho
        split at ho <;> cases ho
    | ok dd =>
      rw [ho] at h
      exact ⟨r, F, dd, d, ho, fun v F' H' s d' dv => h _ _ _ s (d'.setVal dv)⟩
/-! ### x = [lambda: p], x.append(lambda: q), .. -/
/-- slot i is forgotten -/
theorem DenS.forget {K : Frag} {F H : Hp} {σ : SL} {r : Env} {i : Nat} {x : Option V} (h : DenS K L F0 H0 F H σ r) : DenS K L F0 H0 F H (σ.set i x) (r.set i .non) := by
  have ne : ∀ {j s}, (r.set i .non).getD j .non = s → s = .non ∨ (i ≠ j ∧ r.getD j .non = s) := fun {j s} q => by
    by_cases c : i = j
    · subst c
      by_cases l : i < r.length
      · rw [getD_set_self l] at q; exact .inl q.symm
      · rw [set_ge (by omega), getD_ge (by omega)] at q; exact .inl q.symm
    · rw [getD_set_ne c] at q; exact .inr ⟨c, q⟩
  refine ⟨by rw [List.length_set, List.length_set]; exact h.len, h.sub, h.old, h.fr, fun j d q => ?_, fun j ds q => ?_, fun j k ds es a q1 q2 s1 s2 => ?_, fun j fs q => ?_, h.tab, h.noT, h.noX, fun j ps q => ?_⟩
  · rcases ne q with e | ⟨c, q⟩
    · cases e
    · obtain ⟨v, k1, k2⟩ := h.val j d q
      exact ⟨v, by rw [List.getElem?_set_ne c]; exact k1, k2⟩
  · rcases ne q with e | ⟨c, q⟩
    · cases e
    · obtain ⟨a, vs, k1, k2⟩ := h.own j ds q
      exact ⟨a, vs, by rw [List.getElem?_set_ne c]; exact k1, k2⟩
  · rcases ne q1 with e | ⟨c, q1⟩
    · cases e
    · rcases ne q2 with e | ⟨c2, q2⟩
      · cases e
      · rw [List.getElem?_set_ne c] at s1
        rw [List.getElem?_set_ne c2] at s2
        exact h.uniq j k ds es a q1 q2 s1 s2
  · rcases ne q with e | ⟨c, q⟩
    · cases e
    · exact h.nobj j fs q
  · rcases ne q with e | ⟨c, q⟩
    · cases e
    · obtain ⟨a, fs, k1, k2⟩ := h.thk j ps q
      exact ⟨a, fs, by rw [List.getElem?_set_ne c]; exact k1, k2⟩
/-- a list that no slot holds -/
structure Held (K : Frag) (L : Lx) (F0 H0 F H : Hp) (σ : SL) (r : Env) (i : Nat) (a : Addr) (fs : List Addr) (ps : List BB.E) : Prop where
  d : DenS K L F0 H0 F H σ (r.set i .non)
  at_ : σ[i]? = some (some (.ref a))
  hH : H a = some (.lst (fs.map V.ref))
  hF : F a = none
  h0 : H0 a = none
  lm : Lams L F fs ps
  own : ∀ j ds, (r.set i .non).getD j .non = .own ds → σ[j]? ≠ some (some (.ref a))
theorem DenS.poke {K : Frag} {F H : Hp} {σ : SL} {r : Env} {a : Addr} {xs ys : List V} (h : DenS K L F0 H0 F H σ r) (hH : H a = some (.lst xs)) (hF : F a = none) (h0 : H0 a = none) (ho : ∀ j ds, r.getD j .non = .own ds → σ[j]? ≠ some (some (.ref a))) : DenS K L F0 H0 F (upd H a (.lst ys)) σ r := by
  refine ⟨h.len, fun b o e => ?_, fun b o e => ?_, h.fr, h.val, fun j ds q => ?_, h.uniq, h.nobj, tab_write h.tab hH, h.noT, h.noX, h.thk⟩
  · rw [upd_ne (fun z => by rw [z, hF] at e; cases e)]; exact h.sub b o e
  · rw [upd_ne (fun z => by rw [z, h0] at e; cases e)]; exact h.old b o e
  · obtain ⟨b, vs, k1, k2, k3, k4, k5⟩ := h.own j ds q
    exact ⟨b, vs, k1, k2, k3, by rw [upd_ne (fun z => ho j ds q (by rw [← z]; exact k1))]; exact k4, k5⟩
/-- it is done: the slot holds its lambdas -/
theorem Held.done {K : Frag} {F H : Hp} {σ : SL} {r : Env} {i : Nat} {a : Addr} {fs : List Addr} {ps : List BB.E} (h : Held K L F0 H0 F H σ r i a fs ps) : Same F (upd F a (.lst (fs.map V.ref))) ∧ DenS K L F0 H0 (upd F a (.lst (fs.map V.ref))) H σ (r.set i (.thks ps)) := by
  have s : Same F (upd F a (.lst (fs.map V.ref))) := same_upd h.hF
  have d := h.d
  have li : i < r.length := by
    have := d.len
    rw [List.length_set] at this
    rw [this]; exact (List.getElem?_eq_some_iff.mp h.at_).1
  have ne : ∀ {j t}, (r.set i (.thks ps)).getD j .non = t → (i = j ∧ t = .thks ps) ∨ (i ≠ j ∧ (r.set i .non).getD j .non = t) := fun {j t} q => by
    by_cases c : i = j
    · subst c
      rw [getD_set_self li] at q; exact .inl ⟨rfl, q.symm⟩
    · rw [getD_set_ne c] at q; exact .inr ⟨c, by rw [getD_set_ne c]; exact q⟩
  refine ⟨s, by have := d.len; rw [List.length_set] at this ⊢; exact this, fun b o e => ?_, d.old, fun b o e => ?_, fun j d' q => ?_, fun j ds q => ?_, fun j k ds es b q1 q2 s1 s2 => ?_, fun j gs q => ?_, d.tab, fun p hp => ?_, d.noX, fun j qs q => ?_⟩
  · by_cases z : b = a
    · subst z; rw [upd_same] at e; cases e; exact h.hH
    · rw [upd_ne z] at e; exact d.sub b o e
  · rw [upd_ne (fun z => by rw [z, h.h0] at e; cases e)]; exact d.fr b o e
  · rcases ne q with ⟨_, e⟩ | ⟨_, q⟩
    · cases e
    · obtain ⟨v, k1, k2⟩ := d.val j d' q
      exact ⟨v, k1, Dq.mono s _ _ k2⟩
  · rcases ne q with ⟨_, e⟩ | ⟨_, q⟩
    · cases e
    · obtain ⟨b, vs, k1, k2, k3, k4, k5⟩ := d.own j ds q
      exact ⟨b, vs, k1, k2, by rw [upd_ne (fun z => h.own j ds q (by rw [← z]; exact k1))]; exact k3, k4, DqAll.mono s _ _ k5⟩
  · rcases ne q1 with ⟨_, e⟩ | ⟨_, q1⟩
    · cases e
    · rcases ne q2 with ⟨_, e⟩ | ⟨_, q2⟩
      · cases e
      · exact d.uniq j k ds es b q1 q2 s1 s2
  · rcases ne q with ⟨_, e⟩ | ⟨_, q⟩
    · cases e
    · exact d.nobj j gs q
  · obtain ⟨ts, e⟩ := tab_at d.tab hp
    exact ⟨by rw [upd_ne (fun z => by rw [z, h.hH] at e; cases e)]; exact (d.noT p hp).1, (d.noT p hp).2⟩
  · rcases ne q with ⟨rfl, e⟩ | ⟨_, q⟩
    · cases e
      exact ⟨a, fs, h.at_, upd_same, h.lm.mono s⟩
    · obtain ⟨b, gs, k1, k2, k3⟩ := d.thk j qs q
      exact ⟨b, gs, k1, s _ _ k2, k3.mono s⟩
theorem lams_snoc {F : Hp} {fs : List Addr} {ps : List BB.E} {f : Addr} {p : BB.E} (h : Lams L F fs ps) (q : L.R F f p) : Lams L F (fs ++ [f]) (ps ++ [p]) := by
  induction h with
  | nil => exact .cons q .nil
  | cons a t ih => exact .cons a ih
/-! the texts -/
def qThk1 (c : Ctx) (i : Nat) (p : BB.E) (s : Stmt) : Bool := qAsg (fun x l => decide (c.N[i]? = some x) && locB c.sc x && qLst (fun ls => match ls with
    | [l] => mLam c p l
    | _ => false) l) s
def qThkA (c : Ctx) (i : Nat) (p : BB.E) (s : Stmt) : Bool := qApp "append" (fun x l => decide (c.N[i]? = some x) && visB c.sc x && nmB x && mLam c p l) s
def mThkA (c : Ctx) (i : Nat) : List BB.E → (List Stmt → Bool) → List Stmt → Bool
  | [], f, ss => f ss
  | p :: ps, f, ss => qSeq (fun s r => qThkA c i p s && mThkA c i ps f r) ss
def mThk (c : Ctx) (i : Nat) (ps : List BB.E) (f : List Stmt → Bool) (ss : List Stmt) : Bool := match ps with
  | p :: ps => qSeq (fun s r => qThk1 c i p s && mThkA c i ps f r) ss
  | [] => false
theorem psThkA (LF : LamF X c g k L) (ok : CxOk c g k E X) {i : Nat} {fl : Env → Fl} {f : List Stmt → Bool} (hf : ∀ ss, f ss = true → PSs X ss (tPS X.K L X.mg E F0 H0 fl)) : ∀ (ps : List BB.E) (ss : List Stmt), mThkA c i ps f ss = true →
    PSs X ss (fun B σ H => ∃ r F a fs dn, Held X.K L F0 H0 F H σ r i a fs dn ∧ dn.length + ps.length ≤ LIM ∧ ResF X.K L X.mg E F0 H0 F (fl (r.set i (.thks (dn ++ ps)))) B)
  | [], ss, h => PSs.imp (hf ss h) fun B σ H ⟨r, F, a, fs, dn, hd, _, hr⟩ => by
    obtain ⟨s, d⟩ := hd.done
    rw [List.append_nil] at hr
    exact ⟨_, _, d, ResF.mono s hr⟩
  | p :: ps, ss, h => by
    obtain ⟨s, rr, rfl, h⟩ := qSeq_inv h
    obtain ⟨h1, h2⟩ := and2 h
    obtain ⟨l0, pos, rfl, h3⟩ := qExp_inv h1
    obtain ⟨g0, l, cp, rfl, h4⟩ := qCall1_inv h3
    obtain ⟨x, px, nm, ap, rfl, h5⟩ := qAttr_inv h4
    obtain ⟨h6, h7, h8⟩ := and3 h5
    cases (of_decide_eq_true h6 : nm = Str.ofString "append")
    obtain ⟨h9, h10, h11⟩ := and3 h7
    obtain ⟨h12, h13⟩ := and2 h9
    obtain ⟨n1, n2, _⟩ := nm_of h10
    obtain ⟨body, sc, lp, rfl, hL, hmE⟩ := mLam_inv h11
    have hpe := pe_bm (cpos := cp) PySem.F.plainAttrs_list PySem.F.slot_list_append PySem.F.type_list_append mt_append (pe_var (pos := px) (i := i) (by rw [ok.N]; exact of_decide_eq_true h12) (by rw [ok.sc]; exact vis_of h13) n1 n2) (pa_cons (LF.lam ok.sc (body := body) (pos := lp) hL) pa_nil rfl) rfl rfl h8 rfl rfl
    refine PSs.imp (pss_cons (ps_expr (pos := pos) hpe rfl) (psThkA LF ok hf ps rr h2)) fun B σ H ⟨r, F, a, fs, dn, hd, hll, hr⟩ => ?_
    refine ⟨.ref a, hd.at_, .inl ⟨rfl, _, .inl (.inl hd.hH)⟩, hd.d.tab, fun fa c' H1 m => ?_⟩
    obtain ⟨F', s1, d1, g1, g2, g3⟩ := hd.d.made LF.tne m
    have naf : a ≠ fa := fun z => by rw [← z] at m; have := m.new; rw [hd.hH] at this; cases this
    have hHa : H1 a = some (.lst (fs.map V.ref)) := m.ext a _ hd.hH fun p hp z => by
      obtain ⟨ts, e⟩ := tab_at hd.d.tab hp
      rw [z, hd.hH] at e; cases e
    have nac : a ≠ c' := fun z => by
      have := m.cd
      rw [← z, hHa] at this
      have e := Option.some.inj this
      unfold CodeO at e; cases e
    have hFa : F' a = none := by rw [g3 a naf nac]; exact hd.hF
    refine ⟨a, fs.map V.ref, .ref fa, rfl, rfl, hHa, ?_, r, F', a, fs ++ [fa], dn ++ [p], ⟨d1.poke hHa hFa hd.h0 hd.own, hd.at_, ?_, hFa, hd.h0, lams_snoc (hd.lm.mono s1) ?_, hd.own⟩, ?_, ?_⟩
    · refine lim_lt ?_
      rw [List.length_map, lams_len hd.lm]
      rw [List.length_cons] at hll
      omega
    · rw [upd_same, List.map_append]; rfl
    · rw [LF.R]; exact lamR_of ok.sc hL hmE g1 g2
    · rw [List.length_append, List.length_cons, List.length_nil]
      rw [List.length_cons] at hll
      omega
    · rw [List.append_assoc]; exact ResF.mono s1 hr
theorem pssThk (LF : LamF X c g k L) (ok : CxOk c g k E X) (hfn : ∀ x, X.fn x = true) {i : Nat} {ps : List BB.E} {fl : Env → Fl} {f : List Stmt → Bool} {ss : List Stmt} (hf : ∀ ss, f ss = true → PSs X ss (tPS X.K L X.mg E F0 H0 fl)) (h : mThk c i ps f ss = true) :
    PSs X ss (tPS X.K L X.mg E F0 H0 fun r => if g.lam.isEmpty || ps.isEmpty || decide (LIM < ps.length) then .bad else fl (r.set i (.thks ps))) := by
  match ps, h with
  | p :: ps, h =>
    obtain ⟨s, rr, rfl, h⟩ := qSeq_inv h
    obtain ⟨h1, h2⟩ := and2 h
    obtain ⟨x, px, l, pos, rfl, h3⟩ := qAsg_inv h1
    obtain ⟨h4, h5, h6⟩ := and3 h3
    obtain ⟨ls, lp, rfl, h7⟩ := qLst_inv h6
    match ls, h7 with
    | [l], h7 =>
      obtain ⟨body, sc, lp2, rfl, hL, hmE⟩ := mLam_inv h7
      have hN : X.N[i]? = some x := by rw [ok.N]; exact of_decide_eq_true h4
      have hnd : X.N.Nodup := by rw [ok.N]; exact ok.nd
      have hloc : Loc X.env.scope x := by rw [ok.sc]; exact loc_of h5
      refine ⟨fun pins s σ H B I ⟨r, F, d, hr⟩ => (pss_cons (ps_set (pos := pos) hnd hN hloc (pe_lst (pos := lp) (pa_cons (LF.lam ok.sc (body := body) (pos := lp2) hL) pa_nil rfl)) rfl (.inl (hfn x))) (psThkA LF ok hf ps rr h2)).run pins s σ H B I ?_⟩
      have hr : ResF X.K L X.mg E F0 H0 F (if (g.lam.isEmpty || (p :: ps).isEmpty || decide (LIM < (p :: ps).length)) = true then .bad else fl (r.set i (.thks (p :: ps)))) B := hr
      by_cases q : (g.lam.isEmpty || (p :: ps).isEmpty || decide (LIM < (p :: ps).length)) = true
      · rw [if_pos q] at hr; exact hr.elim
      · rw [if_neg q] at hr
        have hll : (p :: ps).length ≤ LIM := by
          simp only [Bool.or_eq_true, not_or, decide_eq_true_eq] at q
          omega
        refine ⟨d.tab, fun fa c' H1 m => ⟨lim_size (by show 1 ≤ 1000000; omega), fun a ha => ?_⟩⟩
        obtain ⟨F', s1, d1, g1, g2, g3⟩ := d.made LF.tne m
        have d2 := d1.keep (same_upd (o := .lst [.ref fa]) ha)
        have li : i < σ.length := by
          rw [I.len]; exact (List.getElem?_eq_some_iff.mp hN).1
        refine ⟨r, F', a, [fa], [p], ⟨d2.forget, List.getElem?_set_self li, upd_same, d1.sub.free ha, d1.old.free ha, .cons (by rw [LF.R]; exact lamR_of ok.sc hL hmE g1 g2) .nil, fun j ds q z => ?_⟩, by rw [List.length_cons] at hll; rw [List.length_cons, List.length_nil]; omega, ResF.mono s1 hr⟩
        by_cases cj : i = j
        · subst cj
          by_cases lr : i < r.length
          · rw [getD_set_self lr] at q; cases q
          · rw [set_ge (by omega), getD_ge (by omega)] at q; cases q
        · rw [getD_set_ne cj] at q
          rw [List.getElem?_set_ne cj] at z
          obtain ⟨b, vs, k1, k2, k3, k4, k5⟩ := d1.own j ds q
          rw [k1] at z
          cases z
          rw [ha] at k4; cases k4
end
end BB

/-! ## the pure layer 14: statements are sound; a def keeps its promise -/
namespace BB
open PySem PySem.Spec PyProof.Rows L2
mutual
def mS : S → List Str → Ctx → Stmt → Bool
  | .asg i e => fun _ c s => qAsg (fun x l => decide (c.N[i]? = some x) && locB c.sc x && mE e c l) s
  | .asgS i e => fun _ c s => qAsg (fun x l => decide (c.N[i]? = some x) && locB c.sc x && mE e c l && !isLC l) s
  | .own i es => fun _ c s => qAsg (fun x l => decide (c.N[i]? = some x) && locB c.sc x && qLst (fun ls => mEs es c ls && decide (ls.length ≤ LIM)) l) s
  | .mov i j => fun _ c s => qAsg (fun x l => decide (c.N[i]? = some x) && locB c.sc x && qNm (fun y => decide (c.N[j]? = some y) && visB c.sc y && nmB y) l) s
  | .unp is e => fun _ c s => qTup (fun ts l => mNames c.N (locB c.sc) is ts && mE e c l && notTup l) s
  | .par own is es => fun _ c s => qTup (fun ts l => qTpl (fun vs => mNames c.N (locB c.sc) is ts && (match own with
        | true => qNil1 (mEs es c) vs
        | false => mEs es c vs) && decide (vs.length = ts.length) && decide (vs.length ≤ LIM) && decide is.Nodup && (swNone c.sc ts vs || swSome c.sc ts vs)) l) s
  | .parL own is es => fun _ c s => qTup (fun ts l => qTpl (fun vs => mNames c.N (locB c.sc) is ts && qLast (fun vs' => match own with
        | true => qNil1 (mEs es c) vs'
        | false => mEs es c vs') vs && decide (vs.length = ts.length) && decide (vs.length ≤ LIM) && decide is.Nodup && (swNone c.sc ts vs || swSome c.sc ts vs)) l) s
  | .app i e => fun _ c s => qApp "append" (fun x l => decide (c.N[i]? = some x) && visB c.sc x && nmB x && mE e c l && plainE l) s
  | .appS i e => fun _ c s => qApp "append" (fun x l => decide (c.N[i]? = some x) && visB c.sc x && nmB x && mE e c l && plainE l) s
  | .ext i e => fun _ c s => qApp "extend" (fun x l => decide (c.N[i]? = some x) && visB c.sc x && nmB x && mE e c l && plainE l) s
  | .cat i e => fun _ c s => qAsg (fun x l => decide (c.N[i]? = some x) && locB c.sc x && qPlus (fun y r => decide (y = x) && visB c.sc y && nmB y && mE e c r) l) s
  | .ownT i e n => fun _ c s => qAsg (fun x l => decide (c.N[i]? = some x) && locB c.sc x && qTake (mE e c) n l) s
  | .parO i is es0 es => fun _ c s => qTup (fun ts l => qTpl (fun vs => mNames c.N (locB c.sc) (i :: is) ts && qLst1 (fun ls vs' => mEs es0 c ls && decide (ls.length ≤ LIM) && mEs es c vs') vs && decide (vs.length = ts.length) && decide (vs.length ≤ LIM) && decide (i :: is).Nodup && (swNone c.sc ts vs || swSome c.sc ts vs)) l) s
  | .ife t a b => fun ex c s => qIf (fun u la lb => mE t c u && mSs a ex c la && mSs b ex c lb) s
  | .forS tg it b => fun ex c s => qFor (fun lt li lb => mI it c li lt && plainE li && mTg c.N (locB c.sc) tg lt && mSs b ex c lb) s
  | .whl t b => fun ex c s => qWhl (fun u lb => mE t c u && mSs b ex c lb) s
  | .ret e => fun _ c s => qRet (fun l => mE e c l) s
  | .retN => fun _ _ s => qRetN s
  | .exc x => fun ex c s => qRse (qCall1 fun g l _ => qNm (fun y => decide (x = y)) g && qCst l && ex.contains x && glB c.sc x && nmB x) s
  | .brk => fun _ _ s => qBrk s
  | .pass => fun _ _ s => qPass s
  | .exp e => fun _ c s => qExp (fun l => mE e c l && !isLC l) s
  | .tryx b h => fun ex c s => qTry (fun body x n b0 suite => mSs b ex c body && decide (x = ("DecodingError" : Str)) && glB c.sc x && nmB x && decide (c.N[hdI h]? = some n) && locNB c.sc n && mHd c.N c.sc h (b0 :: suite) && (hdNs h).all (ex.contains ·) && !(hdNs h).isEmpty) s
  | .allA ts => fun _ c s => qIf (fun u _ lb => mAlls c ts u && lb.isEmpty) s
  | .retA t n => fun _ c s => qRet (fun l => mAllC c (t, n) l) s
  | .asgR i p => fun _ c s => qAsg (fun x l => decide (c.N[i]? = some x) && locB c.sc x && mResC c p l) s
def mSs : Ss → List Str → Ctx → List Stmt → Bool
  | .nil => fun _ _ ss => ss.isEmpty
  | .cons a as => fun ex c ss => qSeq (fun s r => mS a ex c s && mSs as ex c r) ss
  | .frz i as => fun ex c ss => mSs as ex c ss
  | .thk i ps as => fun ex c ss => mThk c i ps (fun ss => mSs as ex c ss) ss
end
/-! ### soundness -/
abbrev veT : List Value := [.type "ValueError", .type "Exception", .type "BaseException", .type "object"]
def ExcF (K : Frag) (mg : Str → Option Value) (x : Str) : Prop := ∃ C, mg x = some (.ref C) ∧ PySem.W.excIn K C veT "ValueError.__new__" = true ∧ PySem.W.keepIn K (.ref C) = true ∧ PySem.W.subIn K (.ref C) (.type "BaseException") = some true ∧ PySem.W.typeIn K (.ref C) = some (.type "type")
structure StOk (exs : List Str) (c : Ctx) (g : Sg) (k : Nat) (E : XK) (X : Cx) (L : Lx) : Prop where
  cx : CxOk c g k E X
  kind : X.env.scope.kind = .function
  fn : ∀ x, X.fn x = true
  po : PassesOwn (model X.prog X.w) X.A X.env X.xe
  ex : ∀ x, x ∈ exs → ExcF X.K X.mg x
  st : X.stack = X.env :: X.outer
  fr : X.env.frame = some X.env.locals
  cl : ∀ c n, c ∈ exs → n ∈ exs → ClsF X.K X.mg "DecodingError" c n
  lx : g.lam ≠ [] → LamF X c g k L
section
variable {exs : List Str} {c : Ctx} {g : Sg} {k : Nat} {E : XK} {X : Cx} {L : Lx} {F0 H0 : Hp}
theorem StOk.loc (ok : StOk exs c g k E X L) (x : Str) (h : locB c.sc x = true) : Loc X.env.scope x ∧ (X.fn x = true ∨ X.env.scope.names.lookup x = some .local) := by
  rw [ok.cx.sc]
  exact ⟨loc_of h, .inl (ok.fn x)⟩
theorem StOk.nd (ok : StOk exs c g k E X L) : X.N.Nodup := by rw [ok.cx.N]; exact ok.cx.nd
/-- name = [..] -/
theorem sComp (ok : StOk exs c g k E X L) {p : BB.E} {le : Expr} {gs : List Comprehension} {scope : Scope} {pos spos py : Pos} {i : Nat} {y : Str} (hy : X.N[i]? = some y) (hl : Loc X.env.scope y) (h : mE p c (.ListComp le gs scope pos) = true) : PS X (.Assign [.Name y py] (.ListComp le gs scope pos) spos) (tAsg (tP X.K X.mg E (evE g p)) (gName i)) := by
  have hN := ok.nd
  by_cases hb : (X.env.blockKind == .function && X.env.kindOf y == some .local && py.line == (Expr.ListComp le gs scope pos).pos.line && !(scope.names.any fun (n, k) => n == y && (k == .local || k == .cell))) = true
  · have hsw : swapsWith (.ListComp le gs scope pos) (some (.Name y py)) spos.line X.env = pure true := by
      show (pure (X.env.blockKind == .function && X.env.kindOf y == some .local && py.line == (Expr.ListComp le gs scope pos).pos.line && !(scope.names.any fun (n, k) => n == y && (k == .local || k == .cell))) : Sem Bool) = _
      rw [hb]
    have hyl : X.env.scope.names.lookup y = some .local := by
      simp only [Bool.and_eq_true] at hb
      show X.env.kindOf y = _
      simpa using hb.1.1.2
    cases p with
    | comp elt tg it cnd own =>
      match gs, h, hsw with
      | [⟨lt, li, ifs, a⟩], h, hsw =>
        obtain ⟨h0, h7, h8⟩ := and3 h
        obtain ⟨h0, h5, h6⟩ := and3 h0
        obtain ⟨h0, h3, h4⟩ := and3 h0
        obtain ⟨h1, h2⟩ := and2 h0
        cases (of_decide_eq_true h1 : a = 0)
        have bo : BlkOk X.N X.env.scope scope (ownP c.N own) := by rw [ok.cx.N, ok.cx.sc]; exact blkOk_by h4
        have hh := ps_setLc (own := ownP c.N own) (g := tgOf X.K tg) (tt := tG X.K X.mg E0 eqR (evC g cnd)) (te := tP X.K X.mg E0 (evE g elt)) ok.cx.calm hN hy hyl hsw (sI it li lt c k E X ok.cx h3) bo (fun s H C cl fp => pgTg (X := X.blk s H scope (compEnvC scope cl C X.env) fp) (ok := okB scope (relS scope c.sc)) hN ok.cx.calm (fun x q => okB_of ok.cx x q) (by show mTg X.N _ tg lt = true; rw [ok.cx.N]; exact h5))
          (fun s H C cl fp => sIf cnd ifs _ k E0 _ ok.cx.blk h6) (fun s H C cl fp => (sE elt le _ k E0 _ ok.cx.blk h7).1) (set_plainE h2)
        rw [ownP_snd] at hh
        exact PS.imp hh fun B σ H q => lcStep (all_sub h8) q
    | comp2 elt tg it cnd tg2 it2 cnd2 own own2 =>
      match gs, h, hsw with
      | [⟨lt, li, ifs, a⟩, ⟨lt2, li2, ifs2, a2⟩], h, hsw =>
        obtain ⟨h0, h14, h15⟩ := and3 h
        obtain ⟨h0, h12, h13⟩ := and3 h0
        obtain ⟨h0, h10, h11⟩ := and3 h0
        obtain ⟨h0, h8, h9⟩ := and3 h0
        obtain ⟨h0, h6, h7⟩ := and3 h0
        obtain ⟨h0, h4, h5⟩ := and3 h0
        obtain ⟨h1, h2, h3⟩ := and3 h0
        cases (of_decide_eq_true h1 : a = 0)
        cases (of_decide_eq_true h2 : a2 = 0)
        have bo : BlkOk X.N X.env.scope scope (ownP c.N own) := by rw [ok.cx.N, ok.cx.sc]; exact blkOk_by h6
        have hh := ps_setLc2 (own := ownP c.N own) (vs1 := own2) (g := tgOf X.K tg) (g1 := tgOf X.K tg2) (tt := tG X.K X.mg E0 eqR (evC g cnd)) (tt1 := tG X.K X.mg E0 eqR (evC g cnd2)) (wi1 := tPI X.K X.mg E0 (evI g it2)) (te := tP X.K X.mg E0 (evE g elt)) ok.cx.calm hN hy hyl hsw (sI it li lt c k E X ok.cx h5) bo (by rw [ownP_snd]; exact all_sub h15)
          (fun s H C cl fp => pgTg (X := X.blk s H scope (compEnvC scope cl C X.env) fp) (ok := okB scope (relS scope c.sc)) hN ok.cx.calm (fun x q => okB_of ok.cx x q) (by show mTg X.N _ tg lt = true; rw [ok.cx.N]; exact h7))
          (fun s H C cl fp => sIf cnd ifs _ k E0 _ ok.cx.blk h8) (fun s H C cl fp => sI it2 li2 lt2 _ k E0 _ ok.cx.blk h9)
          (fun s H C cl fp => pgTg (X := X.blk s H scope (compEnvC scope cl C X.env) fp) (ok := okB scope (relS scope c.sc)) hN ok.cx.calm (fun x q => okB_of ok.cx x q) (by show mTg X.N _ tg2 lt2 = true; rw [ok.cx.N]; exact h10))
          (fun s H C cl fp => sIf cnd2 ifs2 _ k E0 _ ok.cx.blk h11) (fun s H C cl fp => (sE elt le _ k E0 _ ok.cx.blk h12).1) (set_plainE h3) (fun env x => set_plainE h4 x)
        rw [ownP_snd] at hh
        exact PS.imp hh fun B σ H q => lcStep2 (all_sub h13) (all_sub h14) q
    | _ => cases h
  · have hsw : swapsWith (.ListComp le gs scope pos) (some (.Name y py)) spos.line X.env = pure false := by
      show (pure (X.env.blockKind == .function && X.env.kindOf y == some .local && py.line == (Expr.ListComp le gs scope pos).pos.line && !(scope.names.any fun (n, k) => n == y && (k == .local || k == .cell))) : Sem Bool) = _
      rw [Bool.eq_false_iff.mpr hb]
    exact ps_set hN hy hl (sE p _ c k E X ok.cx h).1 hsw (.inl (ok.fn y))
theorem lcs_of {p : BB.E} {l : Expr} (h : mE p c l = true) (hl : isLC l = true) : ∃ le gs scope pos, l = .ListComp le gs scope pos := by
  cases l with
  | ListComp le gs scope pos => exact ⟨le, gs, scope, pos, rfl⟩
  | SetComp _ _ _ _ => cases p <;> cases h
  | DictComp _ _ _ _ _ => cases p <;> cases h
  | _ => cases hl
/-! ### a, b = e, f -/
def parT (K : Frag) (mg : Str → Option Value) (E : XK) (own : Bool) (fs : Env → Out (List D)) : TA := match own with
  | false => tPA K mg E fs
  | true => tCons (tLst tNil) (tPA K mg E fs)
theorem parStep (e0 : Same F0 H0) {own : Bool} {is : List Nat} {fs : Env → Out (List D)} {B : Ends} {σ : SL} {H : Hp} (h : tPS X.K L X.mg E F0 H0 (fun r => match fs (hide r) with
    | .ok ds => (match parR own is ds r with
      | some r' => .next r'
      | none => .bad)
    | .exc c => .exc c
    | .bad => .bad) B σ H) : parT X.K X.mg E own fs σ H fun vs H1 => vs.length = is.length ∧ ∀ H2, Same H1 H2 → B.nx (setSt is vs σ) H2 := by
  obtain ⟨r, F, d, h⟩ := h
  cases own with
  | false =>
    refine ⟨hide r, F, d.sub, d.hid, ?_⟩
    cases q : fs (hide r) with
    | exc c => dsimp only at h; rw [q] at h; exact fun C H1 hm s => h C H1 hm (d.old.trans s)
    | bad => dsimp only at h; rw [q] at h; exact h
    | ok ds =>
      dsimp only at h
      rw [q] at h
      have h : ResF X.K L X.mg E F0 H0 F (match setMany is ds r with
        | some r' => .next r'
        | none => .bad) B := h
      intro vs H1 s dv
      cases q2 : setMany is ds r with
      | none => rw [q2] at h; exact False.elim h
      | some r' =>
        rw [q2] at h
        obtain ⟨_, l2⟩ := DenS.many (d.grow s) dv q2
        exact ⟨l2, fun H2 s2 => h _ _ _ (grow_same1 d.sub) (DenS.many ((d.grow s).keep s2) dv q2).1⟩
  | true =>
    cases is with
    | nil =>
      refine ⟨Nat.zero_le _, fun p hp => ⟨hide r, F, d.sub.trans (same_upd hp), d.hid, ?_⟩⟩
      cases q : fs (hide r) with
      | exc c => dsimp only at h; rw [q] at h; exact fun C H1 hm s => h C H1 hm ((d.old.trans (same_upd hp)).trans s)
      | bad => dsimp only at h; rw [q] at h; exact h
      | ok ds => dsimp only at h; rw [q] at h; exact False.elim h
    | cons i is =>
      refine ⟨Nat.zero_le _, fun p hp => ?_⟩
      have dk := d.keep (same_upd (o := .lst []) hp)
      refine ⟨hide r, F, dk.sub, d.hid, ?_⟩
      cases q : fs (hide r) with
      | exc c => dsimp only at h; rw [q] at h; exact fun C H1 hm s => h C H1 hm ((d.old.trans (same_upd hp)).trans s)
      | bad => dsimp only at h; rw [q] at h; exact h
      | ok ds =>
        dsimp only at h
        rw [q] at h
        have h : ResF X.K L X.mg E F0 H0 F (match setMany is ds (r.set i (.own [])) with
          | some r' => .next r'
          | none => .bad) B := h
        intro vs H1 s dv
        cases q2 : setMany is ds (r.set i (.own [])) with
        | none => rw [q2] at h; exact False.elim h
        | some r' =>
          rw [q2] at h
          have dg := dk.grow s
          have ho : ∀ {H2 : Hp}, Same H1 H2 → DenS X.K L F0 H0 (grow F (upd H p (.lst [])) H1) H2 (σ.set i (some (.ref p))) (r.set i (.own [])) := fun {H2} s2 => by
            refine (dg.keep s2).setOwn (vs := []) (d.old.free hp) ?_ (s2 _ _ (s _ _ upd_same)) .nil fun j es _ q z => ?_
            · rw [grow_some upd_same]; exact d.sub.free hp
            · obtain ⟨a, ws, k1, k2, k3, k4, k5⟩ := d.own j es q
              rw [k1] at z
              cases z
              rw [hp] at k4; cases k4
          obtain ⟨_, l2⟩ := DenS.many (ho (Same.refl H1)) dv q2
          exact ⟨by rw [List.length_cons, List.length_cons, l2], fun H2 s2 => h _ _ _ (grow_same1 dk.sub) (DenS.many (ho s2) dv q2).1⟩

theorem Res.imp {α β : Type} {mg : Str → Option Value} {F H : Hp} {rel : Hp → β → α → Prop} {o : Out α} {Q Q' : β → Hp → Prop} (h : Res mg E F H rel o Q) (k : ∀ b H, Q b H → Q' b H) : Res mg E F H rel o Q' := by
  cases o with
  | ok a => exact fun b H' s r => k _ _ (h b H' s r)
  | exc c => exact h
  | bad => exact h
theorem parT_mono {own : Bool} {fs : Env → Out (List D)} {σ : SL} {H : Hp} {Q Q' : List V → Hp → Prop} (hp : parT X.K X.mg E own fs σ H Q) (k : ∀ vs H, Q vs H → Q' vs H) : parT X.K X.mg E own fs σ H Q' := by
  cases own with
  | false =>
    obtain ⟨r, F, e, d, hr⟩ := hp
    exact ⟨r, F, e, d, Res.imp hr k⟩
  | true =>
    obtain ⟨z, hp⟩ := hp
    refine ⟨z, fun p np => ?_⟩
    obtain ⟨r, F, e, d, hr⟩ := hp p np
    exact ⟨r, F, e, d, Res.imp hr fun b H' q => k _ _ q⟩
theorem nm_some {sc : Scope} {line : Nat} {x z : Str} {p : Pos} (h : nmLoc sc line (.Name x p) = some z) : z = x ∧ sc.names.lookup x = some .local := by
  have h : (if (sc.names.lookup x == some .local && p.line == line) = true then some x else none) = some z := h
  by_cases c : (sc.names.lookup x == some .local && p.line == line) = true
  · rw [if_pos c] at h
    cases h
    simp only [Bool.and_eq_true] at c
    exact ⟨rfl, by simpa using c.1⟩
  · rw [if_neg c] at h; cases h
/-- every name of a swapped store is a local, and they are what is stored -/
theorem names_all {sc : Scope} {line : Nat} : ∀ {ts : List Expr}, (ts.filterMap (nmLoc sc line)).length = ts.length → ∀ t, t ∈ ts → ∃ z, nmLoc sc line t = some z
  | [], _, t, h => by cases h
  | u :: ts, hl, t, h => by
    cases q : nmLoc sc line u with
    | none =>
      rw [List.filterMap_cons, q] at hl
      have := List.length_filterMap_le (nmLoc sc line) ts
      simp only [List.length_cons] at hl
      omega
    | some z =>
      rw [List.filterMap_cons, q] at hl
      rcases List.mem_cons.mp h with rfl | h
      · exact ⟨z, q⟩
      · exact names_all (by simpa using hl) t h
theorem mN_cons {N : List Str} {okf : Str → Bool} {i : Nat} {is : List Nat} {t : Expr} {ts : List Expr} (h : mNames N okf (i :: is) (t :: ts) = true) : ∃ x p, t = .Name x p ∧ N[i]? = some x ∧ mNames N okf is ts = true := by
  cases t with
  | Name x p =>
    obtain ⟨a1, a2⟩ := and2 h
    exact ⟨x, p, rfl, of_decide_eq_true (and2 a1).1, a2⟩
  | _ => cases h
theorem mN_len {N : List Str} {okf : Str → Bool} : ∀ {is : List Nat} {ts : List Expr}, mNames N okf is ts = true → is.length = ts.length
  | [], [], _ => rfl
  | [], t :: _, h => by cases t <;> cases h
  | _ :: _, [], h => by cases h
  | i :: is, t :: ts, h => by
    obtain ⟨_, _, _, _, h⟩ := mN_cons h
    rw [List.length_cons, List.length_cons, mN_len h]
theorem psParG {is : List Nat} (ok : StOk exs c g k E X L) {T : TA} {t : TS} (hT : ∀ B σ H, t B σ H → T σ H fun vs H1 => vs.length = is.length ∧ ∀ H2, Same H1 H2 → B.nx (setSt is vs σ) H2) (hTm : ∀ σ H (Q Q' : List V → Hp → Prop), T σ H Q → (∀ vs H, Q vs H → Q' vs H) → T σ H Q') {ts vs : List Expr} {k1 k2 : Nat} {p1 p2 pos : Pos} (hn : mNames c.N (locB c.sc) is ts = true) (ha : PA X vs T) (hl : vs.length = ts.length) (hlim : vs.length ≤ LIM) (hd : is.Nodup)
    (hs : (swNone c.sc ts vs || swSome c.sc ts vs) = true) : PS X (.Assign [.Tuple ts k1 p1] (.Tuple vs k2 p2) pos) t := by
  have hN := ok.nd
  have hn' : mNames X.N (locB c.sc) is ts = true := by rw [ok.cx.N]; exact hn
  obtain ⟨pg, lg, sg⟩ := pgsOf hN ok.loc hn'
  have hil : is.length = ts.length := mN_len hn'
  rw [Bool.or_eq_true] at hs
  rcases hs with hs | hs
  · -- through a tuple
    have hw : swappedStores [.Tuple ts k1 p1] (.Tuple vs k2 p2) X.env = pure none := sw_none ok.kind (by rw [ok.cx.sc]; exact hs)
    refine PS.imp (ps_asg (pe_tup ha) (pg_tup (pos := p1) (k := k1) ok.cx.calm pg lg sg) swap_tup hw rfl) fun B σ H h => ?_
    exact hTm _ _ _ _ (hT B σ H h) fun xs H1 ⟨hx, hb⟩ => ⟨lim_size (by rw [hx, hil, ← hl]; exact hlim), fun p hp => ⟨p, xs, rfl, .inl (.inl upd_same), hx, gs_ok hx (hb _ (same_upd hp))⟩⟩
  · -- stored from the right
    have hw : swappedStores [.Tuple ts k1 p1] (.Tuple vs k2 p2) X.env = pure (some (namesOf X.env.scope ts)) := sw_some ok.kind (by rw [ok.cx.sc]; exact hs)
    have hs' := hs
    unfold swSome swNone at hs'
    simp only [Bool.and_eq_true, Bool.not_eq_true', Bool.or_eq_false_iff, bne_eq_false_iff_eq, Bool.not_eq_false'] at hs'
    obtain ⟨⟨⟨⟨hlen, _⟩, hnm, _⟩, _⟩, _⟩ := hs'
    have hsc := ok.cx.sc
    have hall := names_all (show (ts.filterMap (nmLoc c.sc (lineOf ts))).length = ts.length from hnm)
    match ts, vs, is, hlen, hl, hil with
    | [t1, t2], [v1, v2], [i, j], _, _, _ =>
      obtain ⟨x, px, rfl, a1, hn2⟩ := mN_cons hn'
      obtain ⟨y, py, rfl, a2, _⟩ := mN_cons hn2
      obtain ⟨z1, n1⟩ := hall _ (List.mem_cons_self)
      obtain ⟨z2, n2⟩ := hall _ (List.mem_cons_of_mem _ List.mem_cons_self)
      obtain ⟨e1, l1⟩ := nm_some n1
      obtain ⟨e2, l2⟩ := nm_some n2
      subst e1 e2
      have hnames : namesOf X.env.scope [.Name z1 px, .Name z2 py] = [z1, z2] := by
        unfold namesOf
        rw [hsc, List.filterMap_cons, n1, List.filterMap_cons, n2]
        rfl
      rw [hnames] at hw
      have hij : i ≠ j := fun z => by
        subst z
        simp at hd
      refine PS.imp (ps_par (i := i) (j := j) ok.cx.calm hN a1 a2 hij (by rw [hsc]; exact l1) (by rw [hsc]; exact l2) ha hw swap_tup) fun B σ H h => ?_
      exact hTm _ _ _ _ (hT B σ H h) fun xs H1 ⟨hx, hb⟩ => match xs, hx, hb with
        | [v, w], _, hb => ⟨v, w, rfl, hb H1 (Same.refl _)⟩
    | [t1, t2, t3], [v1, v2, v3], [i, j, l], _, _, _ =>
      obtain ⟨x, px, rfl, a1, hn2⟩ := mN_cons hn'
      obtain ⟨y, py, rfl, a2, hn3⟩ := mN_cons hn2
      obtain ⟨w, pw, rfl, a3, _⟩ := mN_cons hn3
      obtain ⟨z1, n1⟩ := hall _ (List.mem_cons_self)
      obtain ⟨z2, n2⟩ := hall _ (List.mem_cons_of_mem _ List.mem_cons_self)
      obtain ⟨z3, n3⟩ := hall _ (List.mem_cons_of_mem _ (List.mem_cons_of_mem _ List.mem_cons_self))
      obtain ⟨e1, l1⟩ := nm_some n1
      obtain ⟨e2, l2⟩ := nm_some n2
      obtain ⟨e3, l3⟩ := nm_some n3
      subst e1 e2 e3
      have hnames : namesOf X.env.scope [.Name z1 px, .Name z2 py, .Name z3 pw] = [z1, z2, z3] := by
        unfold namesOf
        rw [hsc, List.filterMap_cons, n1, List.filterMap_cons, n2, List.filterMap_cons, n3]
        rfl
      rw [hnames] at hw
      have hij : i ≠ j ∧ i ≠ l ∧ j ≠ l := by
        simp only [List.nodup_cons, List.mem_cons, not_or] at hd
        exact ⟨hd.1.1, hd.1.2.1, hd.2.1.1⟩
      refine PS.imp (ps_par3 (i := i) (j := j) (l := l) ok.cx.calm hN a1 a2 a3 hij.1 hij.2.1 hij.2.2 (by rw [hsc]; exact l1) (by rw [hsc]; exact l2) (by rw [hsc]; exact l3) ha hw swap_tup) fun B σ H h => ?_
      exact hTm _ _ _ _ (hT B σ H h) fun xs H1 ⟨hx, hb⟩ => match xs, hx, hb with
        | [u, v, w], _, hb => ⟨u, v, w, rfl, hb H1 (Same.refl _)⟩
theorem psPar (ok : StOk exs c g k E X L) (e0 : Same F0 H0) {own : Bool} {is : List Nat} {fs : Env → Out (List D)} {ts vs : List Expr} {k1 k2 : Nat} {p1 p2 pos : Pos} (hn : mNames c.N (locB c.sc) is ts = true) (ha : PA X vs (parT X.K X.mg E own fs)) (hl : vs.length = ts.length) (hlim : vs.length ≤ LIM) (hd : is.Nodup)
    (hs : (swNone c.sc ts vs || swSome c.sc ts vs) = true) : PS X (.Assign [.Tuple ts k1 p1] (.Tuple vs k2 p2) pos) (tPS X.K L X.mg E F0 H0 fun r => match fs (hide r) with
    | .ok ds => (match parR own is ds r with
      | some r' => .next r'
      | none => .bad)
    | .exc c => .exc c
    | .bad => .bad) := psParG ok (fun B σ H h => parStep (X := X) e0 h) (fun σ H Q Q' h k => parT_mono (X := X) h k) hn ha hl hlim hd hs
/-! ### the first target gets a new list with items -/
def parTO (K : Frag) (mg : Str → Option Value) (E : XK) (f0 fs : Env → Out (List D)) : TA := tCons (tLst (tPA K mg E f0)) (tPA K mg E fs)
theorem parTO_mono {f0 fs : Env → Out (List D)} {σ : SL} {H : Hp} {Q Q' : List V → Hp → Prop} (hp : parTO X.K X.mg E f0 fs σ H Q) (k : ∀ vs H, Q vs H → Q' vs H) : parTO X.K X.mg E f0 fs σ H Q' := by
  obtain ⟨r, F, e, d, hr⟩ := hp
  refine ⟨r, F, e, d, Res.imp hr fun vs H1 ⟨z, hq⟩ => ⟨z, fun p np => ?_⟩⟩
  obtain ⟨r2, F2, e2, d2, hr2⟩ := hq p np
  exact ⟨r2, F2, e2, d2, Res.imp hr2 fun b H' q => k _ _ q⟩
theorem parStepO (e0 : Same F0 H0) {i : Nat} {is : List Nat} {f0 fs : Env → Out (List D)} {B : Ends} {σ : SL} {H : Hp} (hn : ∀ r ds, f0 r = .ok ds → ds.length ≤ LIM) (h : tPS X.K L X.mg E F0 H0 (fun r => match f0 (hide r) with
    | .ok ds0 => (match fs (hide r) with
      | .ok ds => (match setMany is ds (r.set i (.own ds0)) with
        | some r' => .next r'
        | none => .bad)
      | .exc c => .exc c
      | .bad => .bad)
    | .exc c => .exc c
    | .bad => .bad) B σ H) : parTO X.K X.mg E f0 fs σ H fun vs H1 => vs.length = (i :: is).length ∧ ∀ H2, Same H1 H2 → B.nx (setSt (i :: is) vs σ) H2 := by
  obtain ⟨r, F, d, h⟩ := h
  refine ⟨hide r, F, d.sub, d.hid, ?_⟩
  cases q0 : f0 (hide r) with
  | exc c => dsimp only at h; rw [q0] at h; exact fun C H1 hm s => h C H1 hm (d.old.trans s)
  | bad => dsimp only at h; rw [q0] at h; exact h
  | ok ds0 =>
    dsimp only at h
    rw [q0] at h
    intro us H1 s du
    have dg := d.grow s
    refine ⟨lim_size (by rw [du.length]; exact hn _ _ q0), fun p hp => ?_⟩
    have dk := dg.keep (same_upd (o := .lst us) hp)
    refine ⟨hide r, grow F H H1, dk.sub, dg.hid, ?_⟩
    cases q : fs (hide r) with
    | exc c => dsimp only at h; rw [q] at h; exact fun C H2 hm s2 => h C H2 hm ((dg.old.trans (same_upd hp)).trans s2)
    | bad => dsimp only at h; rw [q] at h; exact h
    | ok ds =>
      dsimp only at h
      rw [q] at h
      intro vs H2 s2 dv
      cases q2 : setMany is ds (r.set i (.own ds0)) with
      | none => dsimp only at h; rw [q2] at h; exact False.elim h
      | some r' =>
        dsimp only at h
        rw [q2] at h
        have dh := dk.grow s2
        have ho : ∀ {H3 : Hp}, Same H2 H3 → DenS X.K L F0 H0 (grow (grow F H H1) (upd H1 p (.lst us)) H2) H3 (σ.set i (some (.ref p))) (r.set i (.own ds0)) := fun {H3} s3 => by
          refine (dh.keep s3).setOwn (vs := us) (dg.old.free hp) ?_ (s3 _ _ (s2 _ _ upd_same)) (DqAll.mono (grow_same1 dk.sub) _ _ du) fun j es _ q z => ?_
          · rw [grow_some upd_same]; exact dg.sub.free hp
          · obtain ⟨a, ws, k1, k2, k3, k4, k5⟩ := dg.own j es q
            rw [k1] at z
            cases z
            rw [hp] at k4; cases k4
        obtain ⟨_, l2⟩ := DenS.many (ho (Same.refl H2)) dv q2
        exact ⟨by rw [List.length_cons, List.length_cons, l2], fun H3 s3 => h _ _ _ ((grow_same1 d.sub).trans (grow_same1 dk.sub)) (DenS.many (ho s3) dv q2).1⟩
/-! ### the last target gets a new list -/
def tLastN (t : TA) : TA := fun σ H Q => t σ H fun vs H1 => ([] : List V).length ≤ sizeLine ∧ ∀ p, H1 p = none → Q (vs ++ [.ref p]) (upd H1 p (.lst []))
def parTL (K : Frag) (mg : Str → Option Value) (E : XK) (own : Bool) (fs : Env → Out (List D)) : TA := match own with
  | false => tLastN (tPA K mg E fs)
  | true => tCons (tLst tNil) (tLastN (tPA K mg E fs))
theorem parTL_mono {own : Bool} {fs : Env → Out (List D)} {σ : SL} {H : Hp} {Q Q' : List V → Hp → Prop} (hp : parTL X.K X.mg E own fs σ H Q) (k : ∀ vs H, Q vs H → Q' vs H) : parTL X.K X.mg E own fs σ H Q' := by
  cases own with
  | false =>
    obtain ⟨r, F, e, d, hr⟩ := hp
    exact ⟨r, F, e, d, Res.imp hr fun b H' q => ⟨q.1, fun p hp => k _ _ (q.2 p hp)⟩⟩
  | true =>
    obtain ⟨z, hp⟩ := hp
    refine ⟨z, fun p np => ?_⟩
    obtain ⟨r, F, e, d, hr⟩ := hp p np
    exact ⟨r, F, e, d, Res.imp hr fun b H' q => ⟨q.1, fun p hp => k _ _ (q.2 p hp)⟩⟩
theorem setSt_snoc : ∀ (is : List Nat) (vs : List V) (j : Nat) (v : V) (σ : SL), vs.length = is.length → setSt (is ++ [j]) (vs ++ [v]) σ = (setSt is vs σ).set j (some v)
  | [], [], j, v, σ, _ => rfl
  | [], _ :: _, _, _, _, h => by simp at h
  | _ :: _, [], _, _, _, h => by simp at h
  | i :: is, u :: vs, j, v, σ, h => by
    show setSt (is ++ [j]) (vs ++ [v]) (σ.set i (some u)) = _
    rw [setSt_snoc is vs j v _ (by simpa using h)]
    rfl
theorem last_split {is : List Nat} {j : Nat} (h : is.getLast? = some j) : is = is.dropLast ++ [j] := by
  obtain ⟨l, rfl⟩ := List.getLast?_eq_some_iff.mp h
  simp
theorem parStepL (e0 : Same F0 H0) {own : Bool} {is : List Nat} {fs : Env → Out (List D)} {B : Ends} {σ : SL} {H : Hp} (h : tPS X.K L X.mg E F0 H0 (fun r => match fs (hide r) with
    | .ok ds => (match parRL own is ds r with
      | some r' => .next r'
      | none => .bad)
    | .exc c => .exc c
    | .bad => .bad) B σ H) : parTL X.K X.mg E own fs σ H fun vs H1 => vs.length = is.length ∧ ∀ H2, Same H1 H2 → B.nx (setSt is vs σ) H2 := by
  obtain ⟨r, F, d, h⟩ := h
  cases own with
  | false =>
    refine ⟨hide r, F, d.sub, d.hid, ?_⟩
    cases q : fs (hide r) with
    | exc c => dsimp only at h; rw [q] at h; exact fun C H1 hm s => h C H1 hm (d.old.trans s)
    | bad => dsimp only at h; rw [q] at h; exact h
    | ok ds =>
      dsimp only at h
      rw [q] at h
      dsimp only at h
      unfold parRL at h
      cases ql : is.getLast? with
      | none => rw [ql] at h; exact False.elim h
      | some j =>
        rw [ql] at h
        dsimp only at h
        have hsp := last_split ql
        intro vs H1 s dv
        refine ⟨Nat.zero_le _, fun p hp => ?_⟩
        cases q2 : setMany is.dropLast ds r with
        | none =>
          have : parR false is.dropLast ds r = none := q2
          rw [this] at h; exact False.elim h
        | some r1 =>
          have e : parR false is.dropLast ds r = some r1 := q2
          rw [e] at h
          have h : ResF X.K L X.mg E F0 H0 F (.next (r1.set j (.own []))) B := h
          obtain ⟨d1, l1⟩ := DenS.many (d.grow s) dv q2
          have d2 := d1.newOwn (i := j) (p := p) (vs := []) (ds := []) hp .nil
          refine ⟨by rw [hsp]; simp [l1], fun H2 s2 => ?_⟩
          have hst : setSt is (vs ++ [.ref p]) σ = (setSt is.dropLast vs σ).set j (some (.ref p)) := by
            conv => lhs; rw [hsp]
            exact setSt_snoc _ _ _ _ _ l1
          rw [hst]
          exact h _ _ _ (grow_same1 d.sub) (d2.keep s2)
  | true =>
    refine ⟨Nat.zero_le _, fun p0 hp0 => ?_⟩
    have dk := d.keep (same_upd (o := .lst []) hp0)
    refine ⟨hide r, F, dk.sub, d.hid, ?_⟩
    cases q : fs (hide r) with
    | exc c => dsimp only at h; rw [q] at h; exact fun C H1 hm s => h C H1 hm ((d.old.trans (same_upd hp0)).trans s)
    | bad => dsimp only at h; rw [q] at h; exact h
    | ok ds =>
      dsimp only at h
      rw [q] at h
      dsimp only at h
      unfold parRL at h
      cases ql : is.getLast? with
      | none => rw [ql] at h; exact False.elim h
      | some j =>
        rw [ql] at h
        dsimp only at h
        have hsp := last_split ql
        cases qd : is.dropLast with
        | nil =>
          rw [qd] at h
          exact False.elim h
        | cons i is' =>
          rw [qd] at h
          intro vs H1 s dv
          refine ⟨Nat.zero_le _, fun p hp => ?_⟩
          cases q2 : setMany is' ds (r.set i (.own [])) with
          | none =>
            have : parR true (i :: is') ds r = none := q2
            rw [this] at h; exact False.elim h
          | some r1 =>
            have e : parR true (i :: is') ds r = some r1 := q2
            rw [e] at h
            have h : ResF X.K L X.mg E F0 H0 F (.next (r1.set j (.own []))) B := h
            have dg := dk.grow s
            have ho : DenS X.K L F0 H0 (grow F (upd H p0 (.lst [])) H1) H1 (σ.set i (some (.ref p0))) (r.set i (.own [])) := by
              refine dg.setOwn (vs := []) (d.old.free hp0) ?_ (s _ _ upd_same) .nil fun j es _ q z => ?_
              · rw [grow_some upd_same]; exact d.sub.free hp0
              · obtain ⟨a, ws, k1, k2, k3, k4, k5⟩ := d.own j es q
                rw [k1] at z
                cases z
                rw [hp0] at k4; cases k4
            obtain ⟨d1, l1⟩ := DenS.many ho dv q2
            have d2 := d1.newOwn (i := j) (p := p) (vs := []) (ds := []) hp .nil
            refine ⟨by rw [hsp, qd]; simp [l1], fun H2 s2 => ?_⟩
            have hst : setSt is (.ref p0 :: (vs ++ [.ref p])) σ = (setSt is' vs (σ.set i (some (.ref p0)))).set j (some (.ref p)) := by
              conv => lhs; rw [hsp, qd]
              show setSt (is' ++ [j]) (vs ++ [.ref p]) (σ.set i (some (.ref p0))) = _
              exact setSt_snoc _ _ _ _ _ l1
            rw [hst]
            exact h _ _ _ (grow_same1 dk.sub) (d2.keep s2)
/-- arguments and a new list behind them -/
theorem paLast (ok : CxOk c g k E X) {lp : Pos} : ∀ (es : Es) (ls : List Expr), mEs es c ls = true → PA X (ls ++ [.List [] lp]) (tLastN (tPA X.K X.mg E (evEs g es)))
  | .nil, [], _ => PA.imp (pa_cons (pe_lst pa_nil) pa_nil rfl) fun σ H Q ⟨r, F, e, d, h⟩ => by
    obtain ⟨h1, h2⟩ := Res.here (b := ([] : List V)) e h .nil
    exact ⟨h1, fun p hp => h2 p hp⟩
  | .nil, _ :: _, h => by cases h
  | .cons _ _, [], h => by cases h
  | .cons a es, l :: ls, h => by
    have h : (plainE l && mE a c l && mEs es c ls) = true := h
    obtain ⟨h1, h2, h3⟩ := and3 h
    refine PA.imp (pa_cons (sE a l c k E X ok h2).1 (paLast ok es ls h3) (star_plain h1)) fun σ H Q ⟨r, F, e, d, h⟩ => ?_
    have h : Res X.mg E F H (DqAll X.K) ((evE g a r).bind fun x => (evEs g es r).bind fun xs => .ok (x :: xs)) _ := h
    refine ⟨r, F, e, d, h.bind e fun b x H1 _ _ dx g1 g2 h1 => ?_⟩
    refine ⟨r, _, g2, d.mono g1, h1.bind g2 fun bs xs H2 _ _ dxs g3 g4 h2 => ?_⟩
    obtain ⟨z1, z2⟩ := h2.here g4 (.cons (Dq.mono g3 _ _ dx) dxs)
    exact ⟨z1, fun p hp => z2 p hp⟩
/-- x.append(e), x.extend(e) -/
theorem few_plain {l : Expr} {cp : Pos} {env : PySem.Env} (h : plainE l = true) : ((backTo cp (starEach [l] env)).all (fun x => !x.1) && (backToKw cp (keywordEach [] env)).all (fun x => x.1.isSome)
      && decide ([l].length + ([] : List Keyword).length + (if ([] : List Keyword).isEmpty then 0 else 1) < 30)) = true := by
  rw [star_plain h]
  rfl
theorem pe_app {x : Str} {i : Nat} {l : Expr} {px ap cp : Pos} {fa : Env → Out D} (ok : CxOk c g k E X) (hN : c.N[i]? = some x) (hv : visB c.sc x = true) (hm : nmB x = true) (ha : PE X l (tP X.K X.mg E fa)) (hp : plainE l = true) (hl : (ap.endLine == cp.line) = true) :
    PE X (.Call (.Attribute (.Name x px) "append" ap) [l] [] cp) (tBM X.K "list" rAppend (tVar i) (tCons (tP X.K X.mg E fa) tNil)) := by
  obtain ⟨n1, n2, _⟩ := nm_of hm
  exact pe_bm PySem.F.plainAttrs_list PySem.F.slot_list_append PySem.F.type_list_append mt_append (pe_var (by rw [ok.N]; exact hN) (by rw [ok.sc]; exact vis_of hv) n1 n2) (pa_cons ha pa_nil (star_plain hp)) rfl (few_plain hp) hl (star_plain hp) rfl
theorem pe_ext {x : Str} {i : Nat} {l : Expr} {px ap cp : Pos} {fa : Env → Out D} (ok : CxOk c g k E X) (hN : c.N[i]? = some x) (hv : visB c.sc x = true) (hm : nmB x = true) (ha : PE X l (tP X.K X.mg E fa)) (hp : plainE l = true) (hl : (ap.endLine == cp.line) = true) :
    PE X (.Call (.Attribute (.Name x px) "extend" ap) [l] [] cp) (tBM X.K "list" rExtL (tVar i) (tCons (tP X.K X.mg E fa) tNil)) := by
  obtain ⟨n1, n2, _⟩ := nm_of hm
  exact pe_bm PySem.F.plainAttrs_list PySem.F.slot_list_extend PySem.F.type_list_extend mt_extL (pe_var (by rw [ok.N]; exact hN) (by rw [ok.sc]; exact vis_of hv) n1 n2) (pa_cons ha pa_nil (star_plain hp)) rfl (few_plain hp) hl (star_plain hp) rfl
/-- raise X('..') -/
theorem psRaise (ok : StOk exs c g k E X L) (e0 : Same F0 H0) {x m : Str} {j : Nat} {p p2 p3 pos : Pos} (hx : x ∈ exs) (hg : glB c.sc x = true) (hm : nmB x = true) : PS X (.Raise (some (.Call (.Name x p) [.Constant (.str m) j p2] [] p3)) none pos) (tPS X.K L X.mg E F0 H0 fun _ => .exc x) := by
  obtain ⟨C, gC, xC, kC, bC, tC⟩ := ok.ex x hx
  obtain ⟨n1, n2, _⟩ := nm_of hm
  refine PS.imp (ps_raise (W := fun cls d _ H => E cls d H) ok.cx.calm ok.cx.tk (pmk_own PySem.F.excBase_ValueError xC gC kC (raises_own bC tC) (ok.cx.gl hg) n1)) fun B σ H ⟨r, F, d, h⟩ => ?_
  exact h C H gC d.old
end
variable {g : Sg} {L : Lx} {F0 H0 : Hp}
set_option maxHeartbeats 4000000 in
mutual
theorem sS (e0 : Same F0 H0) : ∀ (p : S) (s : Stmt) (exs : List Str) (c : Ctx) (k : Nat) (E : XK) (X : Cx), StOk exs c g k E X L → mS p exs c s = true → PS X s (tPS X.K L X.mg E F0 H0 (evS g p))
  | .asg i e, s, exs, c, k, E, X, ok, h => by
    obtain ⟨x, px, l, pos, rfl, h⟩ := qAsg_inv h
    obtain ⟨h1, h2, h3⟩ := and3 h
    have hN : X.N[i]? = some x := by rw [ok.cx.N]; exact of_decide_eq_true h1
    have hL := (ok.loc x h2).1
    by_cases q : isLC l = true
    · obtain ⟨le, gs, scope, ps, rfl⟩ := lcs_of h3 q
      exact PS.imp (sComp ok hN hL h3) fun B σ H h => asgStep e0 h
    · exact PS.imp (ps_set ok.nd hN hL (sE e l c k E X ok.cx h3).1 (swap_lc (Bool.eq_false_iff.mpr q)) (.inl (ok.fn x))) fun B σ H h => asgStep e0 h
  | .asgS i e, s, exs, c, k, E, X, ok, h => by
    obtain ⟨x, px, l, pos, rfl, h⟩ := qAsg_inv h
    obtain ⟨h0, h4⟩ := and2 h
    obtain ⟨h1, h2, h3⟩ := and3 h0
    have hN : X.N[i]? = some x := by rw [ok.cx.N]; exact of_decide_eq_true h1
    have hL := (ok.loc x h2).1
    exact PS.imp (ps_set ok.nd hN hL (sE e l c k E X ok.cx h3).1 (swap_lc (by simpa using h4)) (.inl (ok.fn x))) fun B σ H h => asgSStep e0 h
  | .own i es, s, exs, c, k, E, X, ok, h => by
    obtain ⟨x, px, l, pos, rfl, h⟩ := qAsg_inv h
    obtain ⟨h1, h2, h3⟩ := and3 h
    obtain ⟨ls, lp, rfl, h3⟩ := qLst_inv h3
    obtain ⟨h3, h4⟩ := and2 h3
    have hN : X.N[i]? = some x := by rw [ok.cx.N]; exact of_decide_eq_true h1
    have hL := (ok.loc x h2).1
    obtain ⟨l1, l2⟩ := mEs_len h3
    exact PS.imp (ps_set ok.nd hN hL (pe_lst (sEs es ls c k E X ok.cx h3).1) rfl (.inl (ok.fn x))) fun B σ H h => ownStep e0 (fun r ds q => by rw [evEs_len q, l1]; exact of_decide_eq_true h4) h
  | .mov i j, s, exs, c, k, E, X, ok, h => by
    obtain ⟨x, px, l, pos, rfl, h⟩ := qAsg_inv h
    obtain ⟨h1, h2, h3⟩ := and3 h
    obtain ⟨y, py, rfl, h3⟩ := qNm_inv h3
    obtain ⟨h3, h4, h5⟩ := and3 h3
    have hN : X.N[i]? = some x := by rw [ok.cx.N]; exact of_decide_eq_true h1
    have hL := (ok.loc x h2).1
    obtain ⟨n1, n2, _⟩ := nm_of h5
    exact PS.imp (ps_set ok.nd hN hL (pe_var (i := j) (by rw [ok.cx.N]; exact of_decide_eq_true h3) (by rw [ok.cx.sc]; exact vis_of h4) n1 n2) rfl (.inl (ok.fn x))) fun B σ H h => movStep h
  | .unp is e, s, exs, c, k, E, X, ok, h => by
    obtain ⟨ts, k1, p1, l, pos, rfl, h⟩ := qTup_inv h
    obtain ⟨h1, h2, h3⟩ := and3 h
    have hT : PG X (.Tuple ts k1 p1) (tgOf X.K (.many is)) := pgTg ok.nd ok.cx.calm ok.loc (show mNames X.N (locB c.sc) is ts = true by rw [ok.cx.N]; exact h1)
    exact PS.imp (ps_asg (sE e l c k E X ok.cx h2).1 hT swap_tup (sw_notTup h3) rfl) fun B σ H h => unpStep e0 h
  | .par own is es, s, exs, c, k, E, X, ok, h => by
    obtain ⟨ts, k1, p1, l, pos, rfl, h⟩ := qTup_inv h
    obtain ⟨vs, k2, p2, rfl, h⟩ := qTpl_inv h
    obtain ⟨h0, h5, h6⟩ := and3 h
    obtain ⟨h0, h3, h4⟩ := and3 h0
    obtain ⟨h1, h2⟩ := and2 h0
    refine psPar ok e0 h1 ?_ (of_decide_eq_true h3) (of_decide_eq_true h4) (of_decide_eq_true h5) h6
    cases own with
    | false => exact (sEs es vs c k E X ok.cx h2).1
    | true =>
      obtain ⟨lp, vs, rfl, h2⟩ := qNil1_inv h2
      exact pa_cons (pe_lst pa_nil) (sEs es vs c k E X ok.cx h2).1 rfl
  | .parL own is es, s, exs, c, k, E, X, ok, h => by
    obtain ⟨ts, k1, p1, l, pos, rfl, h⟩ := qTup_inv h
    obtain ⟨vs, k2, p2, rfl, h⟩ := qTpl_inv h
    obtain ⟨h0, h5, h6⟩ := and3 h
    obtain ⟨h0, h3, h4⟩ := and3 h0
    obtain ⟨h1, h2⟩ := and2 h0
    refine psParG ok (T := parTL X.K X.mg E own (evEs g es)) (fun B σ H h => parStepL (X := X) e0 h) (fun σ H Q Q' h k => parTL_mono (X := X) h k) h1 ?_ (of_decide_eq_true h3) (of_decide_eq_true h4) (of_decide_eq_true h5) h6
    obtain ⟨lp, vs', rfl, h7⟩ := qLast_inv h2
    cases own with
    | false => exact paLast ok.cx es vs' h7
    | true =>
      obtain ⟨lp2, vs'', rfl, h8⟩ := qNil1_inv (show qNil1 (mEs es c) vs' = true from h7)
      exact pa_cons (pe_lst pa_nil) (paLast ok.cx es vs'' h8) rfl
  | .app i e, s, exs, c, k, E, X, ok, h => by
    obtain ⟨l0, pos, rfl, h⟩ := qExp_inv h
    obtain ⟨g0, l, cp, rfl, h⟩ := qCall1_inv h
    obtain ⟨x, px, nm, ap, rfl, h⟩ := qAttr_inv h
    obtain ⟨h1, h0, h7⟩ := and3 h
    obtain ⟨h0, h5, h6⟩ := and3 h0
    obtain ⟨h2, h3, h4⟩ := and3 h0
    cases (of_decide_eq_true h1 : nm = Str.ofString "append")
    exact PS.imp (ps_expr (pe_app ok.cx (of_decide_eq_true h2) h3 h4 (sE e l c k E X ok.cx h5).1 h6 h7) rfl) fun B σ H h => appStep e0 h
  | .appS i e, s, exs, c, k, E, X, ok, h => by
    obtain ⟨l0, pos, rfl, h⟩ := qExp_inv h
    obtain ⟨g0, l, cp, rfl, h⟩ := qCall1_inv h
    obtain ⟨x, px, nm, ap, rfl, h⟩ := qAttr_inv h
    obtain ⟨h1, h0, h7⟩ := and3 h
    obtain ⟨h0, h5, h6⟩ := and3 h0
    obtain ⟨h2, h3, h4⟩ := and3 h0
    cases (of_decide_eq_true h1 : nm = Str.ofString "append")
    exact PS.imp (ps_expr (pe_app ok.cx (of_decide_eq_true h2) h3 h4 (sE e l c k E X ok.cx h5).1 h6 h7) rfl) fun B σ H h => appSStep e0 h
  | .ext i e, s, exs, c, k, E, X, ok, h => by
    obtain ⟨l0, pos, rfl, h⟩ := qExp_inv h
    obtain ⟨g0, l, cp, rfl, h⟩ := qCall1_inv h
    obtain ⟨x, px, nm, ap, rfl, h⟩ := qAttr_inv h
    obtain ⟨h1, h0, h7⟩ := and3 h
    obtain ⟨h0, h5, h6⟩ := and3 h0
    obtain ⟨h2, h3, h4⟩ := and3 h0
    cases (of_decide_eq_true h1 : nm = Str.ofString "extend")
    exact PS.imp (ps_expr (pe_ext ok.cx (of_decide_eq_true h2) h3 h4 (sE e l c k E X ok.cx h5).1 h6 h7) rfl) fun B σ H h => extStep e0 h
  | .cat i e, s, exs, c, k, E, X, ok, h => by
    obtain ⟨x, px, l, pos, rfl, h⟩ := qAsg_inv h
    obtain ⟨h1, h2, h3⟩ := and3 h
    obtain ⟨y, py, r, p2, rfl, h3⟩ := qPlus_inv h3
    obtain ⟨h0, h5, h6⟩ := and3 h3
    obtain ⟨h3, h4⟩ := and2 h0
    cases (of_decide_eq_true h3 : y = x)
    have hN : X.N[i]? = some x := by rw [ok.cx.N]; exact of_decide_eq_true h1
    have hL := (ok.loc x h2).1
    obtain ⟨n1, n2, _⟩ := nm_of h5
    exact PS.imp (ps_set ok.nd hN hL (pe_op op_catL (pe_var (i := i) hN (by rw [ok.cx.sc]; exact vis_of h4) n1 n2) (sE e r c k E X ok.cx h6).1) rfl (.inl (ok.fn x))) fun B σ H h => catStep e0 h
  | .ownT i e n, s, exs, c, k, E, X, ok, h => by
    obtain ⟨x, px, l, pos, rfl, h⟩ := qAsg_inv h
    obtain ⟨h1, h2, h3⟩ := and3 h
    obtain ⟨a, j, p1, p2, p3, rfl, h4⟩ := qTake_inv h3
    have hN : X.N[i]? = some x := by rw [ok.cx.N]; exact of_decide_eq_true h1
    have hL := (ok.loc x h2).1
    exact PS.imp (ps_set ok.nd hN hL (pe_slice sl_list (sE e a c k E X ok.cx h4).1 po_none (po_some pe_int)) rfl (.inl (ok.fn x))) fun B σ H h => by
      obtain ⟨r, F, e1, d, hr⟩ := ownTStep e0 h
      exact ⟨r, F, e1, d, Res.imp hr fun v H1 q => ⟨_, rfl, q⟩⟩
  | .parO i is es0 es, s, exs, c, k, E, X, ok, h => by
    obtain ⟨ts, k1, p1, l, pos, rfl, h⟩ := qTup_inv h
    obtain ⟨vs, k2, p2, rfl, h⟩ := qTpl_inv h
    obtain ⟨h0, h5, h6⟩ := and3 h
    obtain ⟨h0, h3, h4⟩ := and3 h0
    obtain ⟨h1, h2⟩ := and2 h0
    obtain ⟨ls, lp, vs', rfl, h7⟩ := qLst1_inv h2
    obtain ⟨h7, h8, h9⟩ := and3 h7
    obtain ⟨l1, l2⟩ := mEs_len h7
    exact psParG ok (T := parTO X.K X.mg E (evEs g es0) (evEs g es)) (fun B σ H h => parStepO (X := X) e0 (fun r ds q => by rw [evEs_len q, l1]; exact of_decide_eq_true h8) h) (fun σ H Q Q' h k => parTO_mono (X := X) h k) h1 (pa_cons (pe_lst (sEs es0 ls c k E X ok.cx h7).1) (sEs es vs' c k E X ok.cx h9).1 rfl) (of_decide_eq_true h3) (of_decide_eq_true h4) (of_decide_eq_true h5) h6
  | .ife t a b, s, exs, c, k, E, X, ok, h => by
    obtain ⟨u, la, lb, pos, rfl, h⟩ := qIf_inv h
    obtain ⟨h1, h2, h3⟩ := and3 h
    exact psIf e0 (sE t u c k E X ok.cx h1).2 (sSs e0 a la exs c k E X ok h2) (sSs e0 b lb exs c k E X ok h3)
  | .forS tg it b, s, exs, c, k, E, X, ok, h => by
    obtain ⟨lt, li, lb, pos, rfl, h⟩ := qFor_inv h
    obtain ⟨h0, h3, h4⟩ := and3 h
    obtain ⟨h1, h2⟩ := and2 h0
    exact psFor ok.po ok.cx.calm e0 (sI it li lt c k E X ok.cx h1) (pgTg ok.nd ok.cx.calm ok.loc (by rw [ok.cx.N]; exact h3)) (sSs e0 b lb exs c k E X ok h4) (set_plainE h2)
  | .whl t b, s, exs, c, k, E, X, ok, h => by
    obtain ⟨u, lb, pos, rfl, h⟩ := qWhl_inv h
    obtain ⟨h1, h2⟩ := and2 h
    exact psWhile ok.po e0 (sE t u c k E X ok.cx h1).2 (sSs e0 b lb exs c k E X ok h2)
  | .ret e, s, exs, c, k, E, X, ok, h => by
    obtain ⟨l, pos, rfl, h⟩ := qRet_inv h
    exact psRet e0 (sE e l c k E X ok.cx h).1
  | .retN, s, exs, c, k, E, X, ok, h => by
    obtain ⟨pos, rfl⟩ := qRetN_inv h
    exact psRetN
  | .exc x, s, exs, c, k, E, X, ok, h => by
    obtain ⟨l0, pos, rfl, h⟩ := qRse_inv h
    obtain ⟨g0, l, cp, rfl, h⟩ := qCall1_inv h
    obtain ⟨h0, h3, h4⟩ := and3 h
    obtain ⟨h1, h5, h2⟩ := and3 h0
    obtain ⟨y, py, rfl, h1⟩ := qNm_inv h1
    obtain ⟨m, j, p2, rfl⟩ := qCst_inv h5
    cases (of_decide_eq_true h1 : x = y)
    exact psRaise ok e0 (by simpa using h2) h3 h4
  | .brk, s, exs, c, k, E, X, ok, h => by
    obtain ⟨pos, rfl⟩ := qBrk_inv h
    exact psBrk
  | .pass, s, exs, c, k, E, X, ok, h => by
    obtain ⟨pos, rfl⟩ := qPass_inv h
    exact psPass
  | .exp e, s, exs, c, k, E, X, ok, h => by
    obtain ⟨l, pos, rfl, h⟩ := qExp_inv h
    obtain ⟨h1, h2⟩ := and2 h
    exact psExp e0 (sE e l c k E X ok.cx h1).1 (swap_lc (by simpa using h2))
  | .tryx b hd, s, exs, c, k, E, X, ok, h => by
    obtain ⟨body, x, n, b0, suite, np, p, p', rfl, h⟩ := qTry_inv h
    obtain ⟨h, h9⟩ := and2 h
    obtain ⟨h, h8⟩ := and2 h
    obtain ⟨h, h7⟩ := and2 h
    obtain ⟨h, h6⟩ := and2 h
    obtain ⟨h, h5⟩ := and2 h
    obtain ⟨h, h4⟩ := and2 h
    obtain ⟨h1, h2, h3⟩ := and3 h
    cases (of_decide_eq_true h2 : x = ("DecodingError" : Str))
    have hsub : ∀ m, m ∈ hdNs hd → m ∈ exs := fun m hm => by
      have := List.all_eq_true.mp h8 m hm
      simpa using this
    have hcl : ∀ c n, c ∈ hdNs hd → n ∈ hdNs hd → ClsF X.K X.mg "DecodingError" c n := fun c n a1 a2 => ok.cl c n (hsub c a1) (hsub n a2)
    obtain ⟨m, hm⟩ : ∃ m, m ∈ hdNs hd := by
      cases q : hdNs hd with
      | nil => rw [q] at h9; cases h9
      | cons m _ => exact ⟨m, by simp⟩
    obtain ⟨B, _, _, hB, _⟩ := (hcl m m hm hm).ex
    exact psTry (h := hd) (i := hdI hd) rfl ok.st ok.fr ok.nd (by rw [ok.cx.N]; exact of_decide_eq_true h5) (by show X.env.scope.names.lookup n = _; rw [ok.cx.sc]; exact locN_of h6) (by rw [ok.cx.sc]; exact h3) h4 (by rw [ok.cx.N, ok.cx.sc]; exact h7) ok.cx.room (ok.cx.glob.bl _ (by decide)) ok.cx.tk hB hcl
        fun W pn xe tk po => sSs e0 b body exs c k (EW X W) (X.tr pn xe) ⟨⟨ok.cx.N, ok.cx.nd, ok.cx.sc, ok.cx.calm, ok.cx.room, takes_EW (X := X.tr pn xe) tk, ok.cx.glob⟩, ok.kind, ok.fn, po, ok.ex, ok.st, ok.fr, ok.cl, fun z => let l := ok.lx z; ⟨l.ck, l.tb, l.R.trans lamR_tr.symm, l.fs⟩⟩ h1
  | .allA ts, s, exs, c, k, E, X, ok, h => by
    obtain ⟨u, la, lb, pos, rfl, h⟩ := qIf_inv h
    obtain ⟨h1, h2⟩ := and2 h
    obtain rfl : lb = [] := List.isEmpty_iff.mp h2
    by_cases q : g.lam = []
    · refine ⟨fun pins s σ H B I ⟨r, F, d, hr⟩ => ?_⟩
      have hr : ResF X.K L X.mg E F0 H0 F (if (!ts.isEmpty && ts.all (allT g r)) = true then .next r else .bad) B := hr
      rw [if_neg (fun z => by
        obtain ⟨z1, z2⟩ := and2 z
        cases ts with
        | nil => cases z1
        | cons t ts =>
          rw [List.all_cons, Bool.and_eq_true] at z2
          have z3 := z2.1
          unfold allT at z3
          rw [q] at z3
          cases z3)] at hr
      exact hr.elim
    · exact psAllA (ok.lx q) ok.cx ok.fn h1
  | .retA t n, s, exs, c, k, E, X, ok, h => by
    obtain ⟨l, pos, rfl, h⟩ := qRet_inv h
    by_cases q : g.lam = []
    · refine ⟨fun pins s σ H B I ⟨r, F, d, hr⟩ => ?_⟩
      have hr : ResF X.K L X.mg E F0 H0 F (if allT g r (t, n) = true then .ret (.bool true) else .bad) B := hr
      rw [if_neg (fun z => by
        unfold allT at z
        rw [q] at z
        cases z)] at hr
      exact hr.elim
    · exact psRetA e0 (ok.lx q) ok.cx ok.fn h
  | .asgR i p, s, exs, c, k, E, X, ok, h => by
    obtain ⟨x, px, l, pos, rfl, h⟩ := qAsg_inv h
    obtain ⟨h1, h2, h3⟩ := and3 h
    by_cases q : g.lam = []
    · refine ⟨fun pins s σ H B I ⟨r, F, d, hr⟩ => ?_⟩
      have hr : ResF X.K L X.mg E F0 H0 F (if g.lam.isEmpty = true then .bad else (resT g.lam (evE g p (hide r))).fl fun d => .next (r.set i (.val d))) B := hr
      rw [if_pos (by rw [q]; rfl)] at hr
      exact hr.elim
    · exact psAsgR (ok.lx q) ok.cx ok.fn (by rw [ok.cx.N]; exact of_decide_eq_true h1) (ok.loc x h2).1 h3
theorem sSs (e0 : Same F0 H0) : ∀ (p : Ss) (ss : List Stmt) (exs : List Str) (c : Ctx) (k : Nat) (E : XK) (X : Cx), StOk exs c g k E X L → mSs p exs c ss = true → PSs X ss (tPS X.K L X.mg E F0 H0 (evSs g p))
  | .nil, ss, exs, c, k, E, X, ok, h => by
    cases ss with
    | nil => exact pssNil
    | cons _ _ => cases h
  | .cons a as, ss, exs, c, k, E, X, ok, h => by
    obtain ⟨s, r, rfl, h⟩ := qSeq_inv h
    obtain ⟨h1, h2⟩ := and2 h
    exact pssCons (sS e0 a s exs c k E X ok h1) (sSs e0 as r exs c k E X ok h2)
  | .frz i as, ss, exs, c, k, E, X, ok, h => PSs.imp (sSs e0 as ss exs c k E X ok h) fun B σ H h => frzStep h
  | .thk i ps as, ss, exs, c, k, E, X, ok, h => by
    by_cases q : g.lam = []
    · refine ⟨fun pins s σ H B I ⟨r, F, d, hr⟩ => ?_⟩
      have hr : ResF X.K L X.mg E F0 H0 F (if (g.lam.isEmpty || ps.isEmpty || decide (LIM < ps.length)) = true then .bad else evSs g as (r.set i (.thks ps))) B := hr
      rw [if_pos (by rw [q]; rfl)] at hr
      exact hr.elim
    · exact pssThk (ok.lx q) ok.cx ok.fn (fun ss h => sSs e0 as ss exs c k E X ok h) h
end
/-- THE RULE: a def whose text is that term keeps the promise of its run -/
theorem def_ok {P : Program} {w : World} {K : Frag} {mg : Str → Option Value} {base : Heap} {x qual : Str} {st : Stmt} {f : Addr} {fd : FuncData} {N ps : List Str} {k : Nat} {fns : List (Str × Nat)} {gls exs : List Str} {body : Ss} {m : List D → Out D}
    (Fn : Fun K x qual st f fd) (S : FnScope N ps (defScope st)) (G : Glob P w K mg base fns gls g k) (ex : ∀ x, x ∈ exs → ExcF K mg x) (cl : ∀ c n, c ∈ exs → n ∈ exs → ClsF K mg "DecodingError" c n) (hm : mSs body exs ⟨N, defScope st, fns, gls⟩ (defBody st) = true)
    (hr : ∀ ds, ds.length = ps.length → m ds ≠ .bad → runD g N.length body ds = m ds) (hlam : g.lam = []) :
    FnOk P w K mg base (L2.CX P w) (k + 1) f fd ps (spD K mg ps.length m) := by
  refine Fn.okX S (fun vs H Q E h => h.1) (fun cdv A outer s H vs Q E hroom h => ?_)
  obtain ⟨hl, F, ds, e0, dv, h⟩ := h
  have hdl : ds.length = ps.length := by rw [← dv.length]; exact hl
  have hNl : ps.length ≤ N.length := by
    have := congrArg List.length S.pre
    rw [List.length_take] at this
    omega
  have ok : StOk exs ⟨N, defScope st, fns, gls⟩ g k E (cxOf (L2.CX P w) P w K mg base N qual (defScope st) f cdv A outer s H E) Lx.no :=
    ⟨⟨rfl, S.nd, rfl, rfl, hroom, takes_of rfl rfl rfl rfl, G⟩, S.kind, fun _ => rfl, passes_of rfl, ex, rfl, rfl, cl, fun z => absurd hlam z⟩
  refine ⟨_, sSs (L := Lx.no) (F0 := F) (H0 := H) e0 body (defBody st) exs _ k E _ ok hm, ?_⟩
  refine ⟨ds.map .val ++ List.replicate (N.length - ds.length) .non, F, ?_, ?_⟩
  · have gv : ∀ i, (ds.map Slot.val ++ List.replicate (N.length - ds.length) Slot.non).getD i .non = match ds[i]? with
        | some d => .val d
        | none => .non := fun i => by
      rw [List.getD_eq_getElem?_getD]
      by_cases c : i < ds.length
      · rw [List.getElem?_append_left (by rw [List.length_map]; exact c), List.getElem?_map, List.getElem?_eq_getElem c]
        rfl
      · rw [List.getElem?_append_right (by rw [List.length_map]; omega), List.getElem?_eq_none (by omega : ds.length ≤ i)]
        by_cases c2 : i - (ds.map Slot.val).length < N.length - ds.length
        · rw [List.getElem?_replicate, if_pos c2]; rfl
        · rw [List.getElem?_replicate, if_neg c2]; rfl
    refine ⟨?_, e0, Same.refl H, fun _ _ _ => rfl, fun i d q => ?_, fun i es q => ?_, fun i j es fs a q _ _ _ => ?_, (fun i fs q => by
      rw [gv] at q
      cases p : ds[i]? <;> (rw [p] at q; cases q)), (fun p hp => nomatch hp), (fun p hp => nomatch hp), (fun z => absurd rfl z), fun i ps q => by
      rw [gv] at q
      cases p : ds[i]? <;> (rw [p] at q; cases q)⟩
    · unfold L2.start
      rw [List.length_append, List.length_append, List.length_map, List.length_map, List.length_replicate, List.length_replicate, dv.length]
    · rw [gv] at q
      cases p : ds[i]? with
      | none => rw [p] at q; cases q
      | some d' =>
        rw [p] at q
        cases q
        obtain ⟨v, h1, h2⟩ := dv.get p
        refine ⟨v, ?_, h2⟩
        unfold L2.start
        have hi : i < vs.length := (List.getElem?_eq_some_iff.mp h1).1
        rw [List.getElem?_append_left (by rw [List.length_map]; exact hi), List.getElem?_map, h1]
        rfl
    · rw [gv] at q
      cases p : ds[i]? <;> (rw [p] at q; cases q)
    · rw [gv] at q
      cases p : ds[i]? <;> (rw [p] at q; cases q)
  · have hb : m ds ≠ .bad := fun z => by rw [z] at h; exact h
    have hrun := hr ds hdl hb
    unfold runD at hrun
    generalize hfl : evSs g body (ds.map Slot.val ++ List.replicate (N.length - ds.length) Slot.non) = fl at hrun
    show ResF K Lx.no mg E F H F fl _
    cases fl with
    | ret d =>
      have e : Out.ok d = m ds := hrun
      rw [← e] at h
      exact fun v H' s dv => h v H' s dv
    | next r =>
      have e : Out.ok PyData.none = m ds := hrun
      rw [← e] at h
      exact fun σ' H' F' s d' => h .non H' d'.old .non
    | exc c =>
      have e : Out.exc c = m ds := hrun
      rw [← e] at h
      exact fun C H' hm s => h C H' hm s
    | brk r =>
      have e : Out.bad = m ds := hrun
      exact absurd e.symm hb
    | bad =>
      have e : Out.bad = m ds := hrun
      exact absurd e.symm hb
end BB

/-! ## the pure layer 15: what the top leaves, by names -/
namespace BB
open PySem PySem.Spec PyProof.Rows L2 He
mutual
def relD (K : Frag) : D → Value → Bool
  | .none, .none => true
  | .bool b, .bool c => b == c
  | .int i, .int j _ => decide (i = j)
  | .str x, .str y _ => decide (x = y)
  | .tuple ds, .ref a => (match K.lookup a with
    | some ⟨.type c, _, .seq its _, _⟩ => decide (c = "tuple") && (decide (its.size ≤ sizeLine) && relDs K ds its.toList)
    | _ => false)
  | _, _ => false
def relDs (K : Frag) : List D → List Value → Bool
  | [], [] => true
  | d :: ds, u :: us => relD K d u && relDs K ds us
  | _, _ => false
end
mutual
theorem relD_ok {K : Frag} : ∀ (d : D) (u : Value), relD K d u = true → ∃ v, RelV v u ∧ ∀ H, Dq K H v d
  | .none, u, h => by
    cases u with
    | none => exact ⟨.non, rfl, fun H => .non⟩
    | _ => cases h
  | .bool b, u, h => by
    cases u with
    | bool c =>
      have e : b = c := eq_of_beq (show (b == c) = true from h)
      subst e
      exact ⟨.bl b, rfl, fun H => .bl b⟩
    | _ => cases h
  | .int i, u, h => by
    cases u with
    | int j t =>
      have e : i = j := of_decide_eq_true h
      subst e
      exact ⟨.int i, ⟨t, rfl⟩, fun H => .int i⟩
    | _ => cases h
  | .str x, u, h => by
    cases u with
    | str y t =>
      have e : x = y := of_decide_eq_true h
      subst e
      exact ⟨.str x, ⟨t, rfl⟩, fun H => .str x⟩
    | _ => cases h
  | .list _, u, h => by cases u <;> cases h
  | .dict _, u, h => by cases u <;> cases h
  | .tuple ds, u, h => by
    cases u with
    | ref a =>
      have h : (match K.lookup a with
        | some ⟨.type c, _, .seq its _, _⟩ => decide (c = "tuple") && (decide (its.size ≤ sizeLine) && relDs K ds its.toList)
        | _ => false) = true := h
      cases q : K.lookup a with
      | none => rw [q] at h; cases h
      | some o =>
        obtain ⟨oc, od, dt, osl⟩ := o
        rw [q] at h
        cases oc with
        | type c =>
          cases dt with
          | seq its n =>
            obtain ⟨h1, h2⟩ := ba (show (decide (c = "tuple") && (decide (its.size ≤ sizeLine) && relDs K ds its.toList)) = true from h)
            obtain ⟨h3, h4⟩ := ba h2
            obtain ⟨vs, r, k⟩ := relDs_ok ds its.toList h4
            exact ⟨.ref a, rfl, fun H => .tup (.inr ⟨_, its, n, q, congrArg Value.type (of_decide_eq_true h1), rfl, of_decide_eq_true h3, r⟩) (k H)⟩
          | _ => cases h
        | _ => cases dt <;> cases h
    | _ => cases h
theorem relDs_ok {K : Frag} : ∀ (ds : List D) (us : List Value), relDs K ds us = true → ∃ vs, Vals vs us ∧ ∀ H, DqAll K H vs ds
  | [], [], _ => ⟨[], .nil, fun H => .nil⟩
  | [], _ :: _, h => by cases h
  | _ :: _, [], h => by cases h
  | d :: ds, u :: us, h => by
    obtain ⟨h1, h2⟩ := ba (show (relD K d u && relDs K ds us) = true from h)
    obtain ⟨v, r1, k1⟩ := relD_ok d u h1
    obtain ⟨vs, r2, k2⟩ := relDs_ok ds us h2
    exact ⟨v :: vs, .cons r1 r2, fun H => .cons (k1 H) (k2 H)⟩
end
/-- the module's name x bears the data d -/
def gloD (K : Frag) (x : Str) (d : D) : Bool := match PySem.W.nsIn K mainGlobals x with
  | some (some u) => relD K d u
  | _ => false
theorem gloD_ok {K : Frag} {h : Heap} {mg : Str → Option Value} (X : K.In h) (G : h.Ns mainGlobals mg) {x : Str} {d : D} (c : gloD K x d = true) : ∃ u v, mg x = some u ∧ RelV v u ∧ ∀ H, Dq K H v d := by
  unfold gloD at c
  cases e : PySem.W.nsIn K mainGlobals x with
  | none => rw [e] at c; cases c
  | some o =>
    rw [e] at c
    cases o with
    | none => cases c
    | some u =>
      obtain ⟨v, r, k⟩ := relD_ok d u c
      exact ⟨u, v, PySem.W.mg_of X G e, r, k⟩
/-- no list among the top's own objects -/
def noL (K : Frag) : Bool := K.all fun p => match p.2.cls with
  | .type c => !(c == "list")
  | _ => true
theorem mem_lk : ∀ {K : Frag} {a : Addr} {o : Obj}, K.lookup a = some o → (a, o) ∈ K
  | [], _, _, e => by cases e
  | (b, u) :: r, a, o, e => by
    rw [List.lookup_cons] at e
    cases q : (a == b) with
    | true =>
      rw [q] at e
      have e1 : u = o := Option.some.inj e
      rw [e1, eq_of_beq q]
      exact List.mem_cons_self
    | false =>
      rw [q] at e
      exact List.mem_cons_of_mem _ (mem_lk e)
theorem noL_ok {K : Frag} (h : noL K = true) {a : Addr} {o : Obj} (e : K.lookup a = some o) (c : o.cls = .type "list") : False := by
  have hm : (a, o) ∈ K := mem_lk e
  have q := List.all_eq_true.mp h (a, o) hm
  dsimp only at q
  rw [c] at q
  simp at q
/-! ### the Hook -/
structure Facts where
  glos : List (Str × D)
  frees : List Str
  excs : List Str
  isas : List (Str × Str × Bool)
  keeps : List Str
  more : List Fa := []
def excCB (K : Frag) (D : Addr) : Bool := eqO (PySem.W.findIn K (.ref D) "__getattribute__") (some (some (.builtin "BaseException.__getattribute__"))) && eqO (PySem.W.findIn K (.ref D) "__getattr__") (some none) && decide (PySem.W.subIn K (.ref D) (.type "BaseException") = some true) && PySem.W.hasDictIn K D && eqO (PySem.W.findIn K (.ref D) "__class__") (some (some (.builtin "object.__class__"))) && eqO (PySem.W.specialIn K (.builtin "object.__class__") "__get__") (some (some (.builtin "getset_descriptor.__get__"))) && decide (PySem.W.takesIn K (.builtin "object.__class__") = some true) && decide (PySem.W.mroIn K D (.type "object") = some true)
theorem excCB_ok {K : Frag} {D : Addr} (h : excCB K D = true) : ExcC K D := by
  unfold excCB at h
  obtain ⟨h, h8⟩ := ba h
  obtain ⟨h, h7⟩ := ba h
  obtain ⟨h, h6⟩ := ba h
  obtain ⟨h, h5⟩ := ba h
  obtain ⟨h, h4⟩ := ba h
  obtain ⟨h, h3⟩ := ba h
  obtain ⟨h1, h2⟩ := ba h
  exact ⟨eqO_ok h1, eqO_ok h2, of_decide_eq_true h3, h4, eqO_ok h5, eqO_ok h6, of_decide_eq_true h7, of_decide_eq_true h8⟩
/-- the classes of exceptions, told apart -/
def clsB (cs : List Str) (K : Frag) : Bool := cs.isEmpty || ((Fa.glo "DecodingError").ok K && (cs.all fun c => (Fa.glo c).ok K && (Fa.exm c "DecodingError" true).ok K && excCB K (ga K c)) && cs.all fun c => cs.all fun n => decide (PySem.W.kitOne K (.ref (ga K c)) (.ref (ga K n)) = some (decide (c = n))))
def Facts.ok0 (f : Facts) (K : Frag) : Bool := clsB f.excs K && noL K && (f.glos.all fun p => gloD K p.1 p.2) && (f.frees.all fun x => (Fa.free x).ok K) && (f.excs.all fun x => (Fa.glo x).ok K && (Fa.exc x).ok K) && (f.isas.all fun p => (Fa.exm p.1 p.2.1 p.2.2).ok K) && (f.keeps.all fun x => (Fa.glo x).ok K && (Fa.keep x).ok K)
def Facts.ok (f : Facts) (K : Frag) : Bool := f.ok0 K && f.more.all fun a => a.ok K
def obsB (f : Facts) (fn : List FnD) (K : Frag) : Al := (f.ok K && fn.all fun d => (Fa.code d.at_ d.qual).ok K, fn.map fun d => fnObs K d.at_)
def SaysB (f : Facts) (fn : List FnD) (K : Frag) : Prop := obsB f fn K = valE fn
def obsBG (n : Nat) (f : Facts) (fn : List FnD) (g : Addr → Option Obj) : Al := obsB f fn (frG g (asG g n))
def hookB (n : Nat) (f : Facts) (fn : List FnD) : PySem.W.Hook where
  α := Al
  obs := fun s => obsBG n f fn s.heap.get?
  val := fun _ => valE fn
  says := fun _ h => ∃ K : Frag, K.In h ∧ SaysB f fn K
  of := fun _ _ e => ⟨_, frG_in, e⟩
  keeps := fun _ _ _ ⟨K, hK, c⟩ k => ⟨K, PySem.W.Frag.In.keeps hK k, c⟩
theorem obsBG_eq {n : Nat} {f : Facts} {fn : List FnD} {g : Addr → Option Obj} {s : Shared} (h : ∀ a, g a = s.heap.get? a) : obsBG n f fn g = (hookB n f fn).obs s := by
  have e : g = s.heap.get? := funext h
  rw [e] <;> rfl
section
variable {f : Facts} {fn : List FnD} {K : Frag}
theorem SaysB.ok (c : SaysB f fn K) : f.ok0 K = true := (ba (ba (show (f.ok K && fn.all fun d => (Fa.code d.at_ d.qual).ok K) = true from congrArg (fun z : Al => z.1) c)).1).1
theorem SaysB.more (c : SaysB f fn K) {a : Fa} (h : a ∈ f.more) : a.ok K = true := List.all_eq_true.mp (ba (ba (show (f.ok K && fn.all fun d => (Fa.code d.at_ d.qual).ok K) = true from congrArg (fun z : Al => z.1) c)).1).2 a h
theorem SaysB.cls (c : SaysB f fn K) : clsB f.excs K = true := by
  have h := c.ok
  unfold Facts.ok0 at h
  obtain ⟨h, h6⟩ := ba h
  obtain ⟨h, h5⟩ := ba h
  obtain ⟨h, h4⟩ := ba h
  obtain ⟨h, h3⟩ := ba h
  obtain ⟨h, h2⟩ := ba h
  exact (ba h).1
theorem SaysB.parts (c : SaysB f fn K) : noL K = true ∧ (∀ p ∈ f.glos, gloD K p.1 p.2 = true) ∧ (∀ x ∈ f.frees, (Fa.free x).ok K = true) ∧ (∀ x ∈ f.excs, (Fa.glo x).ok K = true ∧ (Fa.exc x).ok K = true) ∧ (∀ p ∈ f.isas, (Fa.exm p.1 p.2.1 p.2.2).ok K = true) ∧ (∀ x ∈ f.keeps, (Fa.glo x).ok K = true ∧ (Fa.keep x).ok K = true) := by
  have h := c.ok
  unfold Facts.ok0 at h
  obtain ⟨h, h6⟩ := ba h
  obtain ⟨h, h5⟩ := ba h
  obtain ⟨h, h4⟩ := ba h
  obtain ⟨h, h3⟩ := ba h
  obtain ⟨h1, h2⟩ := ba h
  obtain ⟨_, h1⟩ := ba h1
  exact ⟨h1, fun p hp => List.all_eq_true.mp h2 p hp, fun x hx => List.all_eq_true.mp h3 x hx, fun x hx => ba (List.all_eq_true.mp h4 x hx), fun p hp => List.all_eq_true.mp h5 p hp, fun x hx => ba (List.all_eq_true.mp h6 x hx)⟩
theorem SaysB.def_ (c : SaysB f fn K) (i : Nat) {d : FnD} (h : fn[i]? = some d) :
    ∃ oc od osl kV doc pm an cdv ct, K.lookup (fAd K d.at_) = some ⟨oc, od, .func (PySem.W.fnOf d.name d.qual d.params d.body d.scope .none kV doc pm an cdv ct), osl⟩ ∧ PySem.W.codeIn K cdv d.qual = true := by
  have c2 := (ba (show (f.ok K && fn.all fun d => (Fa.code d.at_ d.qual).ok K) = true from congrArg (fun z : Al => z.1) c)).2
  have e : fn.map (fun d => fnObs K d.at_) = fn.map FnD.val := congrArg (fun z : Al => z.2) c
  have e2 : (fn.map fun d => fnObs K d.at_)[i]? = (fn.map FnD.val)[i]? := by rw [e]
  rw [List.getElem?_map, List.getElem?_map, h] at e2
  exact fn_ok (Option.some.inj e2) (List.all_eq_true.mp c2 d (List.mem_of_getElem? h))
/-- a def of the top as a datum -/
def fnD (x : Str) (st : Stmt) : FnD := ⟨(x, none), x, x, defArgs st, defBody st, defScope st⟩
/-- a method of the top's class C -/
def fnM (C m q : Str) (st : Stmt) : FnD := ⟨(C, some m), m, q, defArgs st, defBody st, defScope st⟩
theorem SaysB.meth_ (c : SaysB f fn K) (i : Nat) {C m q : Str} {st : Stmt} (e : fn[i]? = some (fnM C m q st)) (hk : Fa.meth C m ∈ f.more) : ∃ fd, Fun K m q st (ma K (ga K C) m) fd ∧ Meth K (ga K C) m (ma K (ga K C) m) := by
  obtain ⟨oc, od, osl, kV, doc, pm, an, cdv, ct, lk, hcd⟩ := c.def_ i e
  have k := meth_ok (c.more hk)
  exact ⟨_, fun_mk (st := st) lk hcd k.kp, k⟩
/-- .. as it stands: Fun, its name's value -/
theorem SaysB.fun_ {h : Heap} {mg : Str → Option Value} (c : SaysB f fn K) (X : K.In h) (G : h.Ns mainGlobals mg) (i : Nat) {x : Str} {st : Stmt} (e : fn[i]? = some (fnD x st)) (hk : x ∈ f.keeps) : ∃ fd, Fun K x x st (ga K x) fd ∧ mg x = some (.ref (ga K x)) := by
  obtain ⟨oc, od, osl, kV, doc, pm, an, cdv, ct, lk, hcd⟩ := c.def_ i e
  obtain ⟨_, _, _, _, _, k⟩ := c.parts
  obtain ⟨k1, k2⟩ := k x hk
  exact ⟨_, fun_mk (st := st) lk hcd (keep_ok k2), glo_ok X G k1⟩
theorem SaysB.exc_ {h : Heap} {mg : Str → Option Value} (c : SaysB f fn K) (X : K.In h) (G : h.Ns mainGlobals mg) {x : Str} (hx : x ∈ f.excs) : ExcF K mg x := by
  obtain ⟨_, _, _, k, _, _⟩ := c.parts
  obtain ⟨k1, k2⟩ := k x hx
  obtain ⟨q1, q2, q3, q4⟩ := exc_ok k2
  exact ⟨ga K x, glo_ok X G k1, q1, q2, q3, q4⟩
theorem SaysB.cls_ {h : Heap} {mg : Str → Option Value} (c : SaysB f fn K) (X : K.In h) (G : h.Ns mainGlobals mg) {x n : Str} (hx : x ∈ f.excs) (hn : n ∈ f.excs) : ClsF K mg "DecodingError" x n := by
  have q := c.cls
  unfold clsB at q
  rw [Bool.or_eq_true] at q
  rcases q with q | q
  · rw [List.isEmpty_iff] at q
    rw [q] at hx; cases hx
  · obtain ⟨q, q3⟩ := ba q
    obtain ⟨q1, q2⟩ := ba q
    obtain ⟨a, a3⟩ := ba (List.all_eq_true.mp q2 x hx)
    obtain ⟨a1, a2⟩ := ba a
    obtain ⟨b, _⟩ := ba (List.all_eq_true.mp q2 n hn)
    obtain ⟨b1, _⟩ := ba b
    have k := List.all_eq_true.mp (List.all_eq_true.mp q3 x hx) n hn
    exact ⟨_, _, _, glo_ok X G q1, glo_ok X G a1, glo_ok X G b1, exm_ok a2, excCB_ok a3, of_decide_eq_true k⟩
theorem SaysB.free_ {h : Heap} {mg : Str → Option Value} (c : SaysB f fn K) (X : K.In h) (G : h.Ns mainGlobals mg) {x : Str} (hx : x ∈ f.frees) : mg x = none := by
  obtain ⟨_, _, k, _⟩ := c.parts
  exact free_ok X G (k x hx)
theorem SaysB.glo_ {h : Heap} {mg : Str → Option Value} (c : SaysB f fn K) (X : K.In h) (G : h.Ns mainGlobals mg) {x : Str} {d : D} (hx : (x, d) ∈ f.glos) : ∃ u v, mg x = some u ∧ RelV v u ∧ ∀ H, Dq K H v d := by
  obtain ⟨_, k, _⟩ := c.parts
  exact gloD_ok X G (k (x, d) hx)
/-- the script as data -/
theorem SaysB.script (c : SaysB f fn K) {H : Hp} {a : Addr} {ns : List Int} (h : SqL K H a (ns.map V.int)) : Dq K H (.ref a) (.list (ns.map PyData.int)) := by
  have all : ∀ ns : List Int, DqAll K H (ns.map V.int) (ns.map PyData.int) := fun ns => by
    induction ns with
    | nil => exact .nil
    | cons n ns ih => exact .cons (.int n) ih
  rcases h with h | ⟨o, its, n, hk, hc, _⟩
  · exact .lst h (all ns)
  · exact (noL_ok c.parts.1 hk hc).elim
end
/-- arguments bind in order -/
theorem fun_binds {K : Frag} {x qual : Str} {st : Stmt} {f : Addr} {fd : FuncData} {ps : List Str} (F : Fun K x qual st f fd) (h : ∀ (kV doc pm : Value) (an : Option Addr) (cdv ct : Value) (us : List Value), us.length = ps.length → bindArgs (PySem.W.fnOf x qual (defArgs st) (defBody st) (defScope st) .none kV doc pm an cdv ct) ⟨us, []⟩ = pure (ps.zip us)) : Binds K fd ps [] := F.binds h
end BB

/-! ## the pure layer 16: a whole top -/
namespace BB
open PySem PySem.Spec PyProof.Rows L2 He
abbrev Cal := (Str × Nat) × (List D → Out D)
def sgL (cs : List Cal) (gs : List (Str × D)) : Sg := ⟨fun j => match cs[j]? with
  | some c => c.2
  | none => fun _ => .bad, fun j => match gs[j]? with
  | some c => c.2
  | none => .none, []⟩
section
variable {P : Program} {w : World} {K : Frag} {mg : Str → Option Value} {base : Heap}
def FOk (P : Program) (w : World) (K : Frag) (mg : Str → Option Value) (base : Heap) (x : Str) (n k : Nat) (m : List D → Out D) : Prop := ∃ f fd ps, FnOk P w K mg base (L2.CX P w) k f fd ps (spD K mg n m) ∧ mg x = some (.ref f) ∧ PySem.W.keepIn K (.ref f) = true ∧ Binds K fd ps []
theorem FOk.mono {x : Str} {n j k : Nat} {m : List D → Out D} (h : FOk P w K mg base x n j m) (l : j ≤ k) : FOk P w K mg base x n k m := let ⟨f, fd, ps, a, b, c, d⟩ := h; ⟨f, fd, ps, a.mono l, b, c, d⟩
def FOks (P : Program) (w : World) (K : Frag) (mg : Str → Option Value) (base : Heap) (k : Nat) (cs : List Cal) : Prop := ∀ p, p ∈ cs → FOk P w K mg base p.1.1 p.1.2 k p.2
theorem fo_nil {k : Nat} : FOks P w K mg base k [] := fun _ h => by cases h
theorem fo_cons {k j : Nat} {x : Str} {n : Nat} {m : List D → Out D} {cs : List Cal} (h : FOk P w K mg base x n j m) (t : FOks P w K mg base k cs) (l : j ≤ k := by decide) : FOks P w K mg base k (((x, n), m) :: cs) := fun p hp => by
  rcases List.mem_cons.mp hp with rfl | hp
  · exact h.mono l
  · exact t p hp
/-- what a top of plain data asks: the facts, and where they hold -/
structure Top (f : Facts) (fn : List FnD) (K : Frag) (mg : Str → Option Value) : Prop where
  c : SaysB f fn K
  ex : ∃ h : Heap, K.In h ∧ h.Ns mainGlobals mg
theorem glob_of {f : Facts} {fn : List FnD} {k : Nat} {cs : List Cal} {gs : List (Str × D)} (T : Top f fn K mg) (hc : FOks P w K mg base k cs) (hg : ∀ p, p ∈ gs → p ∈ f.glos) (hb : ∀ x, x ∈ blts → x ∈ f.frees) : Glob P w K mg base (cs.map (·.1)) (gs.map (·.1)) (sgL cs gs) k := by
  obtain ⟨h, X, G⟩ := T.ex
  refine ⟨fun j x n e => ?_, fun j x e => ?_, fun x hx => T.c.free_ X G (hb x hx)⟩
  · rw [List.getElem?_map] at e
    cases q : cs[j]? with
    | none => rw [q] at e; cases e
    | some p =>
      rw [q] at e
      have e : p.1 = (x, n) := Option.some.inj e
      have := hc p (List.mem_of_getElem? q)
      rw [e] at this
      have er : (sgL cs gs).fn j = p.2 := by
        show (match cs[j]? with
          | some c => c.2
          | none => fun _ => .bad) = p.2
        rw [q]
      rw [er]
      exact this
  · rw [List.getElem?_map] at e
    cases q : gs[j]? with
    | none => rw [q] at e; cases e
    | some p =>
      rw [q] at e
      have e : p.1 = x := Option.some.inj e
      have er : (sgL cs gs).gl j = p.2 := by
        show (match gs[j]? with
          | some c => c.2
          | none => .none) = p.2
        rw [q]
      rw [er]
      obtain ⟨x', d'⟩ := p
      cases e
      exact T.c.glo_ X G (hg (x', d') (List.mem_of_getElem? q))
/-- one def of the top -/
theorem def_rule {f : Facts} {fn : List FnD} {k : Nat} {cs : List Cal} {gs : List (Str × D)} {exs : List Str} {x : Str} {st : Stmt} {N ps : List Str} {body : Ss} (T : Top f fn K mg) (i : Nat) (e : fn[i]? = some (fnD x st)) (hk : x ∈ f.keeps) (S : FnScope N ps (defScope st))
    (hbind : ∀ (kV doc pm : Value) (an : Option Addr) (cdv ct : Value) (us : List Value), us.length = ps.length → bindArgs (PySem.W.fnOf x x (defArgs st) (defBody st) (defScope st) .none kV doc pm an cdv ct) ⟨us, []⟩ = pure (ps.zip us))
    (hc : FOks P w K mg base k cs) (hg : ∀ p, p ∈ gs → p ∈ f.glos) (hb : ∀ x, x ∈ blts → x ∈ f.frees) (hx : ∀ x, x ∈ exs → x ∈ f.excs) (hm : mSs body exs ⟨N, defScope st, cs.map (·.1), gs.map (·.1)⟩ (defBody st) = true) : FOk P w K mg base x ps.length (k + 1) (runD (sgL cs gs) N.length body) := by
  obtain ⟨h, X, G⟩ := T.ex
  obtain ⟨fd, F, hmg⟩ := T.c.fun_ X G i e hk
  exact ⟨_, fd, ps, def_ok F S (glob_of T hc hg hb) (fun x q => T.c.exc_ X G (hx x q)) (fun a b qa qb => T.c.cls_ X G (hx a qa) (hx b qb)) hm (fun _ _ _ => rfl) rfl, hmg, F.kp, F.binds hbind⟩
/-- a def that calls itself: the lowest level promises nothing -/
theorem bad_rule {f : Facts} {fn : List FnD} {k : Nat} {x : Str} {st : Stmt} {N ps : List Str} (T : Top f fn K mg) (i : Nat) (e : fn[i]? = some (fnD x st)) (hk : x ∈ f.keeps) (S : FnScope N ps (defScope st))
    (hbind : ∀ (kV doc pm : Value) (an : Option Addr) (cdv ct : Value) (us : List Value), us.length = ps.length → bindArgs (PySem.W.fnOf x x (defArgs st) (defBody st) (defScope st) .none kV doc pm an cdv ct) ⟨us, []⟩ = pure (ps.zip us)) :
    FOk P w K mg base x ps.length (k + 1) (fun _ => .bad) := by
  obtain ⟨h, X, G⟩ := T.ex
  obtain ⟨fd, F, hmg⟩ := T.c.fun_ X G i e hk
  refine ⟨_, fd, ps, ?_, hmg, F.kp, F.binds hbind⟩
  refine F.okX S (fun vs H Q E h => h.1) (fun cdv A outer s H vs Q E hroom h => ?_)
  obtain ⟨hl, F, ds, e0, dv, h⟩ := h
  exact h.elim
/-- the law's def: its function object, the promise over every base -/
theorem law_rule {f : Facts} {fn : List FnD} {k : Nat} {cs : List Cal} {gs : List (Str × D)} {exs : List Str} {x : Str} {st : Stmt} {N ps : List Str} {body : Ss} (T : Top f fn K mg) (i : Nat) (e : fn[i]? = some (fnD x st)) (hk : x ∈ f.keeps) (S : FnScope N ps (defScope st))
    (hbind : ∀ (kV doc pm : Value) (an : Option Addr) (cdv ct : Value) (us : List Value), us.length = ps.length → bindArgs (PySem.W.fnOf x x (defArgs st) (defBody st) (defScope st) .none kV doc pm an cdv ct) ⟨us, []⟩ = pure (ps.zip us))
    (hc : ∀ base, FOks P w K mg base k cs) (hg : ∀ p, p ∈ gs → p ∈ f.glos) (hb : ∀ x, x ∈ blts → x ∈ f.frees) (hx : ∀ x, x ∈ exs → x ∈ f.excs) (hm : mSs body exs ⟨N, defScope st, cs.map (·.1), gs.map (·.1)⟩ (defBody st) = true) :
    mg x = some (.ref (ga K x)) ∧ ∃ fd : FuncData, (∀ (s : Shared) (us : List Value), us.length = ps.length → BindsTo s fd ⟨us, []⟩ (ps.zip us)) ∧ ∀ base : Heap, FnOk P w K mg base (L2.CX P w) (k + 1) (ga K x) fd ps (spD K mg ps.length (runD (sgL cs gs) N.length body)) := by
  obtain ⟨h, X, G⟩ := T.ex
  obtain ⟨fd, F, hmg⟩ := T.c.fun_ X G i e hk
  refine ⟨hmg, fd, fun s us hl => ?_, fun base => def_ok F S (glob_of T (hc base) hg hb) (fun x q => T.c.exc_ X G (hx x q)) (fun a b qa qb => T.c.cls_ X G (hx a qa) (hx b qb)) hm (fun _ _ _ => rfl) rfl⟩
  obtain ⟨oc, od, kV, doc, pm, an, cdv, ct, osl, rfl, lk, hcd⟩ := F.ex
  exact .of_eq (hbind kV doc pm an cdv ct us hl)
/-- the law's own end -/
theorem law_end {f : Facts} {fn : List FnD} {m : List D → Out D} {ns : List Int} (c : SaysB f fn K) (hm : m [.list (ns.map PyData.int)] = .ok (.bool true)) {H : Hp} {a : Addr} (h : SqL K H a (ns.map V.int)) : spD K mg 1 m [.ref a] H (fun v _ => v = .bl true) fun _ _ _ => False := by
  refine ⟨rfl, H, [.list (ns.map PyData.int)], Same.refl H, .cons (c.script h) .nil, ?_⟩
  rw [hm]
  intro v H' s dv
  exact dq_bool dv
end
/-- a law: F gives the written part, the function object, the promise over every base -/
theorem walk_ofW {l : PySem.W.OpenLaw} {n k : Nat} {q : Program} {loose : List Str} {XP : (Str → Option Value) → Heap → Prop} {YP : World → Heap → Prop} {d : DefRec} {x : Str}
    (hn : l.most = some n) (hn2 : n ≤ sizeLine) (hdf : d.params.defaults = []) (hr : Room k callerA)
    (F : ∀ (w : World) (mg : Str → Option Value) (fa : Addr) (h : Heap), YP w h → h.Ns mainGlobals mg → mg d.name = some (.ref fa) →
      ∃ (K : PySem.W.Frag) (fd : FuncData) (sp : Sp), K.In h ∧ (∀ (s : Shared) (u : Value), BindsTo s fd ⟨[u], []⟩ [(x, u)]) ∧
        (∀ (H : Hp) (a : Addr) (ns : List Int), ns.length ≤ n → Only H → SqL K H a (ns.map V.int) → sp [.ref a] H (fun v _ => v = .bl true) fun _ _ _ => False) ∧
        ∀ base : Heap, K.In base → base.Ns mainGlobals mg → FnOk l.prog w K mg base (L2.CX l.prog w) k fa fd [x] sp) :
    PySem.W.WalkO q loose XP YP l.row.toRowW d [] (fun f vs => PySem.call f vs) := by
  refine Att.attach_call hn hdf fun w s_0 s_1 mg mb fa o pm cd doc a vs ns G Y ho hd hcd hmg hobj hints hlen hg => ?_
  obtain ⟨K, fd, sp, KX, hb, hsp, hF⟩ := F w mg fa _ Y G.T.g hmg
  refine law_call KX G.T.g G.T.b G.T.builtins G.T.nolimit hg hobj hints (Nat.le_trans hlen hn2) hr hF hb (fun H hO hS => hsp H a ns hlen hO hS) fun H e s' z => ?_
  obtain ⟨_, _, _, _, _, _, _, _, _, _, _, _, z⟩ := z
  exact z.elim
end BB

/-! ## lambdas 12: a top whose law makes lambdas -/
namespace BB
open PySem PySem.Spec PyProof.Rows L2 LamX He
/-! ### the names of a frame's cells -/
def cellNs (ns : List (Str × NameKind)) : List Str := match ns with
  | [] => []
  | (n, k) :: r => if k == .cell then n :: cellNs r else cellNs r
theorem cells_keys : ∀ (ns : List (Str × NameKind)) (n : Nat) (acc : List (Str × Addr)), (cellNs ns ++ acc.map (·.1)).Nodup → ((cellsFrom n ns acc).map (·.1)).Nodup
  | [], n, acc, h => h
  | (x, k) :: r, n, acc, h => by
    unfold cellsFrom
    unfold cellNs at h
    by_cases q : (k == .cell) = true
    · rw [if_pos q] at h ⊢
      refine cells_keys r (n + 1) ((x, n) :: acc) ?_
      rw [List.map_cons]
      have h' : (x :: (cellNs r ++ acc.map (·.1))).Nodup := h
      exact (List.perm_middle.nodup_iff).mpr h'
    · rw [if_neg q] at h ⊢
      exact cells_keys r n acc h
theorem lk_nodup {y : Str} {a : Addr} : ∀ {l : List (Str × Addr)}, (l.map (·.1)).Nodup → (y, a) ∈ l → l.lookup y = some a
  | [], _, h => by cases h
  | (z, b) :: l, nd, h => by
    rw [List.map_cons, List.nodup_cons] at nd
    rw [List.lookup_cons]
    rcases List.mem_cons.mp h with e | e
    · cases e; simp
    · have : (y == z) = false := by
        apply Bool.eq_false_iff.mpr
        intro q
        have q := eq_of_beq q
        subst q
        exact nd.1 (List.mem_map.mpr ⟨(y, a), e, rfl⟩)
      rw [this]
      exact lk_nodup nd.2 e
/-! ### the def -/
def spL (K : Frag) (T : List (Addr × Str)) (n : Nat) (m : List D → Out D) : Sp := fun vs H Q E => vs.length = n ∧ Tabs T H ∧ ∃ F ds, Same F H ∧ (∀ p ∈ T, F p.1 = none) ∧ DqAll K F vs ds ∧ ∃ d, m ds = .ok d ∧ ∀ v H', Dq K H' v d → Q v H'
def lamN (x : Str) : Str := x ++ ".<locals>." ++ "<lambda>"
theorem def_okL {P : Program} {w : World} {K : Frag} {mg : Str → Option Value} {base : Heap} {x : Str} {st : Stmt} {f : Addr} {fd : FuncData} {N ps : List Str} {k : Nat} {fns : List (Str × Nat)} {gls exs : List Str} {body : Ss} {g : Sg} {T : List (Addr × Str)} {c0 P0 : Addr}
    (Fn : Fun K x x st f fd) (S : FnScope N ps (defScope st)) (G : Glob P w K mg base fns gls g k) (ex : ∀ x, x ∈ exs → ExcF K mg x) (cl : ∀ c n, c ∈ exs → n ∈ exs → ClsF K mg "DecodingError" c n) (hm : mSs body exs ⟨N, defScope st, fns, gls⟩ (defBody st) = true)
    (hcn : (cellNs (defScope st).names).Nodup) (hc : fd.code = .ref c0) (TB : TabB base mg c0 P0) (hT : (P0, lamN x) ∈ T) (hu : ∀ p ∈ T, p.1 = P0 → p.2 = lamN x)
    (fs : ∃ j, Glob P w K mg base fns gls g j ∧
      (∃ f fd y1 y2, FnOk P w K mg base (L2.CX P w) k f fd [y1, y2] (spA P w K mg base (j + 1) g.lam) ∧ mg ("_law_all" : Str) = some (.ref f) ∧ PySem.W.keepIn K (.ref f) = true ∧ Binds K fd [y1, y2] []) ∧
      (∃ f fd y, FnOk P w K mg base (L2.CX P w) k f fd [y] (spR P w K mg base (j + 1) g.lam) ∧ mg ("_law_result" : Str) = some (.ref f) ∧ PySem.W.keepIn K (.ref f) = true ∧ Binds K fd [y] [])) :
    FnOk P w K mg base (L2.CX P w) (k + 1) f fd ps (spL K T ps.length (runD g N.length body)) := by
  obtain ⟨oc, od, kV, doc, pm, an, cdv, ct, osl, rfl, lk, hcd⟩ := Fn.ex
  have hc : cdv = .ref c0 := hc
  subst hc
  refine fn_of lk hcd S (fun vs H Q E h => h.1) (fun A outer s H vs Q E hroom h => ?_)
  obtain ⟨hl, tab, F, ds, e0, hF, dv, d, hd, hq⟩ := h
  have hdl : ds.length = ps.length := by rw [← dv.length]; exact hl
  have hNl : ps.length ≤ N.length := by
    have := congrArg List.length S.pre
    rw [List.length_take] at this
    omega
  generalize hX : cxOf (L2.CX P w) P w K mg base N x (defScope st) f (.ref c0) A outer s H E = X
  have X1 : X.prog = P ∧ X.w = w ∧ X.K = K ∧ X.mg = mg ∧ X.base = base ∧ X.N = N ∧ X.env.scope = defScope st := by rw [← hX]; exact ⟨rfl, rfl, rfl, rfl, rfl, rfl, rfl⟩
  have Xq : lamQ X = lamN x := by rw [← hX]; rfl
  have Xc : X.env.code = .ref c0 := by rw [← hX]; rfl
  have Xcell : CellsOk X := fun y a h => by
    rw [← hX] at h ⊢
    exact lk_nodup (cells_keys _ _ [] (by simpa using hcn)) h
  have Xst : StOk exs ⟨N, defScope st, fns, gls⟩ g k E X ⟨T, LamR X ⟨N, defScope st, fns, gls⟩, fun s h => h.mono s⟩ := by
    rw [← hX]
    refine ⟨⟨rfl, S.nd, rfl, rfl, hroom, takes_of rfl rfl rfl rfl, G⟩, S.kind, fun _ => rfl, passes_of rfl, ex, rfl, rfl, cl, fun _ => ?_⟩
    rw [hX]
    obtain ⟨rfl, rfl, rfl, rfl, rfl, _, _⟩ := X1
    exact ⟨Xcell, ⟨c0, P0, TB, Xc, by rw [Xq]; exact hT, by rw [Xq]; exact hu⟩, rfl, fs⟩
  refine ⟨_, sSs (F0 := fun _ => none) (H0 := fun _ => none) (fun _ _ z => by cases z) body (defBody st) exs _ k E X Xst hm, ?_⟩
  obtain ⟨rfl, rfl, rfl, rfl, rfl, _, _⟩ := X1
  refine ⟨ds.map .val ++ List.replicate (N.length - ds.length) .non, F, ?_, ?_⟩
  · have gv : ∀ i, (ds.map Slot.val ++ List.replicate (N.length - ds.length) Slot.non).getD i .non = match ds[i]? with
        | some d => .val d
        | none => .non := fun i => by
      rw [List.getD_eq_getElem?_getD]
      by_cases c : i < ds.length
      · rw [List.getElem?_append_left (by rw [List.length_map]; exact c), List.getElem?_map, List.getElem?_eq_getElem c]
        rfl
      · rw [List.getElem?_append_right (by rw [List.length_map]; omega), List.getElem?_eq_none (by omega : ds.length ≤ i)]
        by_cases c2 : i - (ds.map Slot.val).length < N.length - ds.length
        · rw [List.getElem?_replicate, if_pos c2]; rfl
        · rw [List.getElem?_replicate, if_neg c2]; rfl
    refine ⟨?_, e0, (fun _ _ z => by cases z), (fun _ _ z => by cases z), fun i d q => ?_, fun i es q => ?_, fun i j es fs a q _ _ _ => ?_, fun i fs q => ?_, tab, fun p hp => ⟨hF p hp, rfl⟩, (fun _ b φ z => by cases z), fun i ps q => ?_⟩
    · unfold L2.start
      rw [List.length_append, List.length_append, List.length_map, List.length_map, List.length_replicate, List.length_replicate, dv.length]
    · rw [gv] at q
      cases p : ds[i]? with
      | none => rw [p] at q; cases q
      | some d' =>
        rw [p] at q
        cases q
        obtain ⟨v, h1, h2⟩ := dv.get p
        refine ⟨v, ?_, h2⟩
        unfold L2.start
        have hi : i < vs.length := (List.getElem?_eq_some_iff.mp h1).1
        rw [List.getElem?_append_left (by rw [List.length_map]; exact hi), List.getElem?_map, h1]
        rfl
    · rw [gv] at q
      cases p : ds[i]? <;> (rw [p] at q; cases q)
    · rw [gv] at q
      cases p : ds[i]? <;> (rw [p] at q; cases q)
    · rw [gv] at q
      cases p : ds[i]? <;> (rw [p] at q; cases q)
    · rw [gv] at q
      cases p : ds[i]? <;> (rw [p] at q; cases q)
  · unfold runD at hd
    generalize hfl : evSs g body (ds.map Slot.val ++ List.replicate (N.length - ds.length) Slot.non) = fl at hd
    have vis : ∀ H' : Hp, grow (fun _ => none) (fun _ => none) H' = H' := fun H' => by funext b; rfl
    cases fl with
    | ret d' =>
      cases hd
      intro v H' _ dv
      rw [vis] at dv
      exact hq v H' dv
    | next r =>
      cases hd
      exact fun σ' H' F' _ _ => hq .non H' .non
    | exc c => cases hd
    | brk r => cases hd
    | bad => cases hd
end BB

/-! ## lambdas 13: the head and the rules of such a top -/
namespace BB
open PySem PySem.Spec PyProof.Rows L2 LamX He
def veB (ns : List Str) (K : Frag) : Bool := ns.all fun c => decide (PySem.W.kitOne K (.ref (ga K c)) (.type "ValueError") = some true)
structure SaysL (f : Facts) (fn : List FnD) (tf : List Defn) (ns : List Str) (h : Heap) (K : Frag) : Prop where
  c : SaysB f fn K
  ve : ∀ c, c ∈ ns → PySem.W.kitOne K (.ref (ga K c)) (.type "ValueError") = some true
  hd : ∀ p ∈ tf, PySem.W.codeHdIn K (cT K p).1 (cT K p).2 = true
  out : ∀ p ∈ tf, K.lookup (cT K p).2 = none
  empty : ∀ p ∈ tf, h.get? (cT K p).2 = some { cls := .none, data := .fields #[] }
abbrev AlL : Type := Al × Bool
def obsL (n : Nat) (f : Facts) (fn : List FnD) (tf : List Defn) (ns : List Str) (g : Addr → Option Obj) : AlL := (obsB f fn (frT g (asG g n)), veB ns (frT g (asG g n)) && tabsB g tf (frT g (asG g n)))
theorem saysL_of {n : Nat} {f : Facts} {fn : List FnD} {tf : List Defn} {ns : List Str} {h : Heap} (e : obsL n f fn tf ns h.get? = (valE fn, true)) : SaysL f fn tf ns h (frT h.get? (asG h.get? n)) := by
  have e1 : obsB f fn (frT h.get? (asG h.get? n)) = valE fn := congrArg (fun z : AlL => z.1) e
  have e2 : (veB ns (frT h.get? (asG h.get? n)) && tabsB h.get? tf (frT h.get? (asG h.get? n))) = true := congrArg (fun z : AlL => z.2) e
  obtain ⟨h1, h2⟩ := and2 e2
  have key : ∀ p ∈ tf, PySem.W.codeHdIn (frT h.get? (asG h.get? n)) (cT (frT h.get? (asG h.get? n)) p).1 (cT (frT h.get? (asG h.get? n)) p).2 = true ∧ ∃ o, h.get? (cT (frT h.get? (asG h.get? n)) p).2 = some o ∧ emptyTab o = true := fun p hp => by
    obtain ⟨k1, k2⟩ := and2 (List.all_eq_true.mp h2 p hp)
    refine ⟨k1, ?_⟩
    revert k2
    cases h.get? (cT (frT h.get? (asG h.get? n)) p).2 with
    | none => intro k2; cases k2
    | some o => exact fun k2 => ⟨o, rfl, k2⟩
  refine ⟨e1, fun c hc => of_decide_eq_true (List.all_eq_true.mp h1 c hc), fun p hp => (key p hp).1, fun p hp => ?_, fun p hp => ?_⟩
  · obtain ⟨_, o, q, z⟩ := key p hp
    exact frT_none q z
  · obtain ⟨_, o, q, z⟩ := key p hp
    rw [q, emptyTab_eq z]
def hookL (n : Nat) (f : Facts) (fn : List FnD) (tf : List Defn) (ns : List Str) : PySem.W.Hook where
  α := AlL
  obs := fun s => obsL n f fn tf ns s.heap.get?
  val := fun _ => (valE fn, true)
  says := fun _ h => ∃ K : Frag, K.In h ∧ SaysL f fn tf ns h K
  of := fun _ _ e => ⟨_, frT_in, saysL_of e⟩
  keeps := fun _ _ _ ⟨K, hK, c⟩ k => ⟨K, PySem.W.Frag.In.keeps hK k, ⟨c.c, c.ve, c.hd, c.out, fun p hp => k _ _ (c.empty p hp)⟩⟩
theorem obsL_eq {n : Nat} {f : Facts} {fn : List FnD} {tf : List Defn} {ns : List Str} {g : Addr → Option Obj} {s : Shared} (h : ∀ a, g a = s.heap.get? a) : obsL n f fn tf ns g = (hookL n f fn tf ns).obs s := by
  have e : g = s.heap.get? := funext h
  rw [e] <;> rfl
/-! ### rules -/
def sgT (cs : List Cal) (gs : List (Str × D)) (ns : List Str) : Sg := ⟨(sgL cs gs).fn, (sgL cs gs).gl, ns⟩
section
variable {P : Program} {w : World} {K : Frag} {mg : Str → Option Value} {base : Heap} {f : Facts} {fn : List FnD} {ns : List Str}
theorem class_rule {n0 n1 n2 n3 n4 m0 m1 : List Str} {x y1 y2 y3 : Str} {st : Stmt} (T : Top f fn K mg) (i : Nat) (e : fn[i]? = some (fnD x st)) (hk : x ∈ f.keeps) (S : FnScope [y1, y2, y3] [y1] (defScope st))
    (hbind : ∀ (kV doc pm : Value) (an : Option Addr) (cdv ct : Value) (us : List Value), us.length = [y1].length → bindArgs (PySem.W.fnOf x x (defArgs st) (defBody st) (defScope st) .none kV doc pm an cdv ct) ⟨us, []⟩ = pure ([y1].zip us))
    (hm : mKinds [y1, y2, y3] (defScope st) n0 n1 n2 n3 n4 m0 m1 (defBody st) = true) (hns : n0 ++ n1 ++ n2 ++ n3 ++ n4 = ns) (hx : ∀ c, c ∈ ns → c ∈ f.excs) (hv : ("ValueError" : Str) ∈ f.frees) (hi : Str.ofString "isinstance" ∈ f.frees)
    (ve : ∀ c, c ∈ ns → PySem.W.kitOne K (.ref (ga K c)) (.type "ValueError") = some true) (hnd : ns.Nodup) (hmm : m0 ++ m1 = ns) (hl : ns.length ≤ 100) : ClassOk P w K mg ns x (ga K x) := by
  obtain ⟨h, X, G⟩ := T.ex
  obtain ⟨fd, F, hmg⟩ := T.c.fun_ X G i e hk
  refine class_ok F hmg S (F.binds hbind) hm (T.c.free_ X G hi) hns (fun a b qa qb => T.c.cls_ X G (hx a qa) (hx b qb)) (T.c.free_ X G hv) (fun c C hc hC => ?_) hnd hmm hl
  obtain ⟨C', hC', _⟩ := T.c.exc_ X G (hx c hc)
  obtain ⟨_, _, _, k, _, _⟩ := T.c.parts
  have := glo_ok X G (k c (hx c hc)).1
  rw [hC] at this
  cases this
  exact ve c hc
theorem result_rule {x y1 y2 cl : Str} {st : Stmt} {k : Nat} {fC : Addr} (T : Top f fn K mg) (i : Nat) (e : fn[i]? = some (fnD x st)) (hk : x ∈ f.keeps) (S : FnScope [y1, y2] [y1] (defScope st))
    (hbind : ∀ (kV doc pm : Value) (an : Option Addr) (cdv ct : Value) (us : List Value), us.length = [y1].length → bindArgs (PySem.W.fnOf x x (defArgs st) (defBody st) (defScope st) .none kV doc pm an cdv ct) ⟨us, []⟩ = pure ([y1].zip us))
    (hm : mResult [y1, y2] (defScope st) cl (defBody st) = true) (hk1 : 1 ≤ k) (hx : ∀ c, c ∈ ns → c ∈ f.excs) (hC : ClassOk P w K mg ns cl fC) (hne : ns ≠ []) :
    ∃ f fd y, FnOk P w K mg base (L2.CX P w) (k + 1) f fd [y] (spR P w K mg base k ns) ∧ mg x = some (.ref f) ∧ PySem.W.keepIn K (.ref f) = true ∧ Binds K fd [y] [] := by
  obtain ⟨h, X, G⟩ := T.ex
  obtain ⟨fd, F, hmg⟩ := T.c.fun_ X G i e hk
  exact ⟨_, fd, y1, result_ok F S hm hk1 (fun a b qa qb => T.c.cls_ X G (hx a qa) (hx b qb)) hC hne, hmg, F.kp, F.binds hbind⟩
theorem all_rule {x y1 y2 y3 rs : Str} {st : Stmt} {k j : Nat} (T : Top f fn K mg) (i : Nat) (e : fn[i]? = some (fnD x st)) (hk : x ∈ f.keeps) (S : FnScope [y1, y2, y3] [y1, y2] (defScope st))
    (hbind : ∀ (kV doc pm : Value) (an : Option Addr) (cdv ct : Value) (us : List Value), us.length = [y1, y2].length → bindArgs (PySem.W.fnOf x x (defArgs st) (defBody st) (defScope st) .none kV doc pm an cdv ct) ⟨us, []⟩ = pure ([y1, y2].zip us))
    (hm : mAll [y1, y2, y3] (defScope st) rs (defBody st) = true) (hb : ∀ x, x ∈ blts → x ∈ f.frees) (hso : ∀ n ∈ ns, PyData.strOk n = true)
    (hR : ∃ f fd y, FnOk P w K mg base (L2.CX P w) k f fd [y] (spR P w K mg base j ns) ∧ mg rs = some (.ref f) ∧ PySem.W.keepIn K (.ref f) = true ∧ Binds K fd [y] []) :
    ∃ f fd y1 y2, FnOk P w K mg base (L2.CX P w) (k + 1) f fd [y1, y2] (spA P w K mg base j ns) ∧ mg x = some (.ref f) ∧ PySem.W.keepIn K (.ref f) = true ∧ Binds K fd [y1, y2] [] := by
  obtain ⟨h, X, G⟩ := T.ex
  obtain ⟨fd, F, hmg⟩ := T.c.fun_ X G i e hk
  obtain ⟨fR, fdR, yr, h1, h2, h3, h4⟩ := hR
  exact ⟨_, fd, y1, y2, all_ok F S hm (fun x hx => T.c.free_ X G (hb x hx)) h1 h2 h3 h4 hso, hmg, F.kp, F.binds hbind⟩
theorem res_mono {a b j : Nat} {x : Str} (h : ∃ f fd y, FnOk P w K mg base (L2.CX P w) a f fd [y] (spR P w K mg base j ns) ∧ mg x = some (.ref f) ∧ PySem.W.keepIn K (.ref f) = true ∧ Binds K fd [y] []) (l : a ≤ b) : ∃ f fd y, FnOk P w K mg base (L2.CX P w) b f fd [y] (spR P w K mg base j ns) ∧ mg x = some (.ref f) ∧ PySem.W.keepIn K (.ref f) = true ∧ Binds K fd [y] [] := let ⟨f, fd, y, h1, h2⟩ := h; ⟨f, fd, y, h1.mono l, h2⟩
/-- the law -/
theorem law_ruleL {k j : Nat} {cs : List Cal} {gs : List (Str × D)} {exs : List Str} {x : Str} {st : Stmt} {N ps : List Str} {body : Ss} (T : Top f fn K mg) (i : Nat) (e : fn[i]? = some (fnD x st)) (hk : x ∈ f.keeps) (S : FnScope N ps (defScope st))
    (hbind : ∀ (kV doc pm : Value) (an : Option Addr) (cdv ct : Value) (us : List Value), us.length = ps.length → bindArgs (PySem.W.fnOf x x (defArgs st) (defBody st) (defScope st) .none kV doc pm an cdv ct) ⟨us, []⟩ = pure (ps.zip us))
    (hc : ∀ base, FOks P w K mg base j cs) (hg : ∀ p, p ∈ gs → p ∈ f.glos) (hb : ∀ x, x ∈ blts → x ∈ f.frees) (hx : ∀ x, x ∈ exs → x ∈ f.excs) (hm : mSs body exs ⟨N, defScope st, cs.map (·.1), gs.map (·.1)⟩ (defBody st) = true) (hcn : (cellNs (defScope st).names).Nodup) (hjk : j ≤ k)
    (hA : ∀ base, ∃ f fd y1 y2, FnOk P w K mg base (L2.CX P w) k f fd [y1, y2] (spA P w K mg base (j + 1) ns) ∧ mg ("_law_all" : Str) = some (.ref f) ∧ PySem.W.keepIn K (.ref f) = true ∧ Binds K fd [y1, y2] [])
    (hR : ∀ base, ∃ f fd y, FnOk P w K mg base (L2.CX P w) k f fd [y] (spR P w K mg base (j + 1) ns) ∧ mg ("_law_result" : Str) = some (.ref f) ∧ PySem.W.keepIn K (.ref f) = true ∧ Binds K fd [y] []) :
    mg x = some (.ref (ga K x)) ∧ ∃ fd : FuncData, (∀ (s : Shared) (us : List Value), us.length = ps.length → BindsTo s fd ⟨us, []⟩ (ps.zip us)) ∧ ∀ base : Heap, TabB base mg (cT K (x, none)).1 (cT K (x, none)).2 →
      FnOk P w K mg base (L2.CX P w) (k + 1) (ga K x) fd ps (spL K [((cT K (x, none)).2, lamN x)] ps.length (runD (sgT cs gs ns) N.length body)) := by
  obtain ⟨h, X, G⟩ := T.ex
  obtain ⟨fd, F, hmg⟩ := T.c.fun_ X G i e hk
  have hcode : fd.code = .ref (cT K (x, none)).1 := by
    obtain ⟨oc, od, kV, doc, pm, an, cdv, ct, osl, rfl, lk, hcd⟩ := F.ex
    obtain ⟨c, rfl⟩ := codeIn_ref hcd
    show Value.ref c = .ref (codeOf K (x, none))
    rw [codeOf_eq (K := K) (p := (x, none)) lk rfl]
  have gl : ∀ base, Glob P w K mg base (cs.map (·.1)) (gs.map (·.1)) (sgT cs gs ns) j := fun base => by
    have q := glob_of (base := base) T (hc base) hg hb
    exact ⟨q.fn, q.gl, q.bl⟩
  have gk : ∀ base, Glob P w K mg base (cs.map (·.1)) (gs.map (·.1)) (sgT cs gs ns) k := fun base => by
    have q := glob_of (base := base) (k := k) T (fun p hp => (hc base p hp).mono hjk) hg hb
    exact ⟨q.fn, q.gl, q.bl⟩
  refine ⟨hmg, fd, fun s us hl => ?_, fun base TB => def_okL F S (gk base) (fun x q => T.c.exc_ X G (hx x q)) (fun a b qa qb => T.c.cls_ X G (hx a qa) (hx b qb)) hm hcn hcode TB (by simp) (fun p hp _ => ?_) ⟨j, gl base, hA base, hR base⟩⟩
  · obtain ⟨oc, od, kV, doc, pm, an, cdv, ct, osl, rfl, lk, hcd⟩ := F.ex
    exact .of_eq (hbind kV doc pm an cdv ct us hl)
  · simp at hp; rw [hp]
/-- the law's own end -/
theorem law_endL {m : List D → Out D} {xs : List Int} {P0 : Addr} {q : Str} (c : SaysB f fn K) (hm : m [.list (xs.map PyData.int)] = .ok (.bool true)) {H : Hp} {a : Addr} (hP : H P0 = some (.tbl #[])) (h : SqL K H a (xs.map V.int)) : spL K [(P0, q)] 1 m [.ref a] H (fun v _ => v = .bl true) fun _ _ _ => False := by
  refine ⟨rfl, fun p hp => ?_, fun b => if b = P0 then none else H b, [.list (xs.map PyData.int)], fun b o e => ?_, fun p hp => ?_, .cons ?_ .nil, .bool true, hm, fun v H' dv => dq_bool dv⟩
  · simp at hp; subst hp; exact TabS.nil hP
  · dsimp only at e
    split at e
    · cases e
    · exact e
  · simp at hp; subst hp; exact if_pos rfl
  · refine c.script ?_
    rcases h with h | h
    · left
      rcases h with h | ⟨o, h⟩
      · refine .inl ?_
        have ne : a ≠ P0 := fun z => by rw [z, hP] at h; cases h
        exact (if_neg ne).trans h
      · refine .inr ⟨o, ?_⟩
        have ne : a ≠ P0 := fun z => by rw [z, hP] at h; cases h
        exact (if_neg ne).trans h
    · exact .inr h
end
end BB

/-! ### texts that the laws share, as terms (printed by gen2.py): PG -/
namespace PG
open PySem PySem.Spec PyProof.Rows L2 BB He
def g_MAX_STRING : D := .int 60
def g_MAX_CODE : D := .int 1114111
def g_LEADS : D := .tuple [(.int 0), (.int 0), (.int 192), (.int 224), (.int 240), (.int 248)]
def g_LIMITS : D := .tuple [(.int 0), (.int 128), (.int 2048), (.int 65536), (.int 2097152)]
def g_FIRST_CONTINUATION : D := .int 128
def g_LAST_CONTINUATION : D := .int 191
def g_STEP : D := .int 64
def g_REPLACEMENT : D := .int (-1)
def g_REPLACEMENT_BYTES : D := .tuple [(.int 239), (.int 191), (.int 189)]
/-! #### is_int -/
def n_is_int : List Str := ["value", "least", "most"]
def p_is_int : List Str := ["value", "least", "most"]
def c_is_int : List Cal := []
def l_is_int : List (Str × D) := []
def e_is_int : List Str := []
def b_is_int : Ss :=
    (.cons (.ret (.bop true (.isi (.var 0) "int") (.cons (.not (.isi (.var 0) "bool")) (.cons (.chn .le .le (.var 1) (.var 0) (.var 2)) .nil))))
    .nil)
def r_is_int : List D → Out D := runD (sgL c_is_int l_is_int) 3 b_is_int
/-! #### is_byte -/
def n_is_byte : List Str := ["value"]
def p_is_byte : List Str := ["value"]
def c_is_byte : List Cal := [(("is_int", 3), r_is_int)]
def l_is_byte : List (Str × D) := []
def e_is_byte : List Str := []
def b_is_byte : Ss :=
    (.cons (.ret (.call 0 (.cons (.var 0) (.cons (.int 0) (.cons (.int 255) .nil)))))
    .nil)
def r_is_byte : List D → Out D := runD (sgL c_is_byte l_is_byte) 1 b_is_byte
/-! #### is_string -/
def n_is_string : List Str := ["candidate", "byte"]
def p_is_string : List Str := ["candidate"]
def c_is_string : List Cal := [(("is_byte", 1), r_is_byte)]
def l_is_string : List (Str × D) := [("MAX_STRING", g_MAX_STRING)]
def e_is_string : List Str := []
def b_is_string : Ss :=
    (.cons (.ret (.bop true (.isi (.var 0) "tuple") (.cons (.cmp .le (.blt .len (.cons (.var 0) .nil)) (.glob 0)) (.cons (.blt .all (.cons (.comp (.call 0 (.cons (.var 1) .nil)) (.one 1) (.seq (.var 0)) .none [1]) .nil)) .nil))))
    .nil)
def r_is_string : List D → Out D := runD (sgL c_is_string l_is_string) 2 b_is_string
/-! #### is_continuation -/
def n_is_continuation : List Str := ["byte"]
def p_is_continuation : List Str := ["byte"]
def c_is_continuation : List Cal := []
def l_is_continuation : List (Str × D) := [("FIRST_CONTINUATION", g_FIRST_CONTINUATION), ("LAST_CONTINUATION", g_LAST_CONTINUATION)]
def e_is_continuation : List Str := []
def b_is_continuation : Ss :=
    (.cons (.ret (.chn .le .le (.glob 0) (.var 0) (.glob 1)))
    .nil)
def r_is_continuation : List D → Out D := runD (sgL c_is_continuation l_is_continuation) 1 b_is_continuation
/-! #### announced -/
def n_announced : List Str := ["byte", "found", "size"]
def p_announced : List Str := ["byte"]
def c_announced : List Cal := []
def l_announced : List (Str × D) := [("FIRST_CONTINUATION", g_FIRST_CONTINUATION), ("LEADS", g_LEADS)]
def e_announced : List Str := []
def b_announced : Ss :=
    (.cons (.ife (.cmp .lt (.var 0) (.glob 0)) (.cons (.ret (.int 1))
    .nil) .nil)
    (.cons (.asg 1 (.comp (.var 2) (.one 2) (.seq (.tup (.cons (.int 2) (.cons (.int 3) (.cons (.int 4) .nil))))) (.some (.chn .le .lt (.ix (.glob 1) (.var 2)) (.var 0) (.ix (.glob 1) (.bin .add (.var 2) (.int 1))))) [2]))
    (.cons (.ret (.ite (.cmp .eq (.var 1) (.lst .nil)) (.int 0) (.ix (.var 1) (.int 0))))
    .nil)))
def r_announced : List D → Out D := runD (sgL c_announced l_announced) 3 b_announced
/-! #### is_sequence -/
def n_is_sequence : List Str := ["candidate", "byte"]
def p_is_sequence : List Str := ["candidate"]
def c_is_sequence : List Cal := [(("is_string", 1), r_is_string), (("announced", 1), r_announced), (("is_continuation", 1), r_is_continuation)]
def l_is_sequence : List (Str × D) := []
def e_is_sequence : List Str := []
def b_is_sequence : Ss :=
    (.cons (.ife (.bop false (.not (.call 0 (.cons (.var 0) .nil))) (.cons (.cmp .eq (.var 0) (.tup .nil)) (.cons (.cmp .ne (.call 1 (.cons (.ix (.var 0) (.int 0)) .nil)) (.blt .len (.cons (.var 0) .nil))) .nil))) (.cons (.ret (.bl false))
    .nil) .nil)
    (.cons (.ret (.blt .all (.cons (.comp (.call 2 (.cons (.var 1) .nil)) (.one 1) (.seq (.sl (.var 0) (.some (.int 1)) .none)) .none [1]) .nil)))
    .nil))
def r_is_sequence : List D → Out D := runD (sgL c_is_sequence l_is_sequence) 2 b_is_sequence
/-! #### value_from -/
def n_value_from : List Str := ["some", "value", "byte"]
def p_value_from : List Str := ["some"]
def c_value_from : List Cal := [(("announced", 1), r_announced)]
def l_value_from : List (Str × D) := [("LEADS", g_LEADS), ("STEP", g_STEP), ("FIRST_CONTINUATION", g_FIRST_CONTINUATION)]
def e_value_from : List Str := []
def b_value_from : Ss :=
    (.cons (.asg 1 (.bin .sub (.ix (.var 0) (.int 0)) (.ix (.glob 0) (.call 0 (.cons (.ix (.var 0) (.int 0)) .nil)))))
    (.cons (.forS (.one 2) (.seq (.sl (.var 0) (.some (.int 1)) .none)) (.cons (.asg 1 (.bin .sub (.bin .add (.bin .mul (.glob 1) (.var 1)) (.var 2)) (.glob 2)))
    .nil))
    (.cons (.ret (.var 1))
    .nil)))
def r_value_from : List D → Out D := runD (sgL c_value_from l_value_from) 3 b_value_from
/-! #### check_sequence -/
def n_check_sequence : List Str := ["value"]
def p_check_sequence : List Str := ["value"]
def c_check_sequence : List Cal := [(("is_sequence", 1), r_is_sequence)]
def l_check_sequence : List (Str × D) := []
def e_check_sequence : List Str := ["InvalidSequence"]
def b_check_sequence : Ss :=
    (.cons (.ife (.not (.call 0 (.cons (.var 0) .nil))) (.cons (.exc "InvalidSequence")
    .nil) .nil)
    .nil)
def r_check_sequence : List D → Out D := runD (sgL c_check_sequence l_check_sequence) 1 b_check_sequence
/-! #### value_of -/
def n_value_of : List Str := ["sequence"]
def p_value_of : List Str := ["sequence"]
def c_value_of : List Cal := [(("check_sequence", 1), r_check_sequence), (("value_from", 1), r_value_from)]
def l_value_of : List (Str × D) := []
def e_value_of : List Str := []
def b_value_of : Ss :=
    (.cons (.exp (.call 0 (.cons (.var 0) .nil)))
    (.cons (.ret (.call 1 (.cons (.var 0) .nil)))
    .nil))
def r_value_of : List D → Out D := runD (sgL c_value_of l_value_of) 1 b_value_of
/-! #### least_value -/
def n_least_value : List Str := ["size"]
def p_least_value : List Str := ["size"]
def c_least_value : List Cal := []
def l_least_value : List (Str × D) := [("LIMITS", g_LIMITS)]
def e_least_value : List Str := []
def b_least_value : Ss :=
    (.cons (.ret (.ix (.glob 0) (.bin .sub (.var 0) (.int 1))))
    .nil)
def r_least_value : List D → Out D := runD (sgL c_least_value l_least_value) 1 b_least_value
/-! #### is_overlong -/
def n_is_overlong : List Str := ["sequence"]
def p_is_overlong : List Str := ["sequence"]
def c_is_overlong : List Cal := [(("check_sequence", 1), r_check_sequence), (("value_from", 1), r_value_from), (("least_value", 1), r_least_value)]
def l_is_overlong : List (Str × D) := []
def e_is_overlong : List Str := []
def b_is_overlong : Ss :=
    (.cons (.exp (.call 0 (.cons (.var 0) .nil)))
    (.cons (.ret (.cmp .lt (.call 1 (.cons (.var 0) .nil)) (.call 2 (.cons (.blt .len (.cons (.var 0) .nil)) .nil))))
    .nil))
def r_is_overlong : List D → Out D := runD (sgL c_is_overlong l_is_overlong) 1 b_is_overlong
/-! #### is_code -/
def n_is_code : List Str := ["value"]
def p_is_code : List Str := ["value"]
def c_is_code : List Cal := [(("is_int", 3), r_is_int)]
def l_is_code : List (Str × D) := [("MAX_CODE", g_MAX_CODE)]
def e_is_code : List Str := []
def b_is_code : Ss :=
    (.cons (.ret (.call 0 (.cons (.var 0) (.cons (.int 0) (.cons (.glob 0) .nil)))))
    .nil)
def r_is_code : List D → Out D := runD (sgL c_is_code l_is_code) 1 b_is_code
/-! #### bytes_for -/
def n_bytes_for : List Str := ["code", "size", "found", "count"]
def p_bytes_for : List Str := ["code", "size"]
def c_bytes_for : List Cal := []
def l_bytes_for : List (Str × D) := [("FIRST_CONTINUATION", g_FIRST_CONTINUATION), ("STEP", g_STEP), ("LEADS", g_LEADS)]
def e_bytes_for : List Str := []
def b_bytes_for : Ss :=
    (.cons (.asg 2 (.tup .nil))
    (.cons (.forS (.one 3) (.rng1 (.bin .sub (.var 1) (.int 1))) (.cons (.asg 2 (.bin .add (.tup (.cons (.bin .add (.glob 0) (.bin .mod (.var 0) (.glob 1))) .nil)) (.var 2)))
    (.cons (.asg 0 (.bin .fdiv (.var 0) (.glob 1)))
    .nil)))
    (.cons (.ret (.bin .add (.tup (.cons (.bin .add (.ix (.glob 2) (.var 1)) (.var 0)) .nil)) (.var 2)))
    .nil)))
def r_bytes_for : List D → Out D := runD (sgL c_bytes_for l_bytes_for) 4 b_bytes_for
/-! #### sequence_for -/
def n_sequence_for : List Str := ["code", "size"]
def p_sequence_for : List Str := ["code", "size"]
def c_sequence_for : List Cal := [(("is_code", 1), r_is_code), (("is_int", 3), r_is_int), (("bytes_for", 2), r_bytes_for)]
def l_sequence_for : List (Str × D) := [("LIMITS", g_LIMITS)]
def e_sequence_for : List Str := ["InvalidCode", "InvalidNumber", "TooLarge"]
def b_sequence_for : Ss :=
    (.cons (.ife (.not (.call 0 (.cons (.var 0) .nil))) (.cons (.exc "InvalidCode")
    .nil) .nil)
    (.cons (.ife (.not (.call 1 (.cons (.var 1) (.cons (.int 1) (.cons (.int 4) .nil))))) (.cons (.exc "InvalidNumber")
    .nil) .nil)
    (.cons (.ife (.cmp .ge (.var 0) (.ix (.glob 0) (.var 1))) (.cons (.exc "TooLarge")
    .nil) .nil)
    (.cons (.ret (.call 2 (.cons (.var 0) (.cons (.var 1) .nil))))
    .nil))))
def r_sequence_for : List D → Out D := runD (sgL c_sequence_for l_sequence_for) 2 b_sequence_for
/-! #### short_length -/
def n_short_length : List Str := ["code", "size"]
def p_short_length : List Str := ["code"]
def c_short_length : List Cal := []
def l_short_length : List (Str × D) := [("LIMITS", g_LIMITS)]
def e_short_length : List Str := []
def b_short_length : Ss :=
    (.cons (.ret (.blt .min (.cons (.comp (.var 1) (.one 1) (.seq (.tup (.cons (.int 1) (.cons (.int 2) (.cons (.int 3) (.cons (.int 4) .nil)))))) (.some (.cmp .lt (.var 0) (.ix (.glob 0) (.var 1)))) [1]) .nil)))
    .nil)
def r_short_length : List D → Out D := runD (sgL c_short_length l_short_length) 2 b_short_length
/-! #### is_item -/
def n_is_item : List Str := ["value"]
def p_is_item : List Str := ["value"]
def c_is_item : List Cal := [(("is_code", 1), r_is_code), (("is_int", 3), r_is_int)]
def l_is_item : List (Str × D) := [("REPLACEMENT", g_REPLACEMENT), ("FIRST_CONTINUATION", g_FIRST_CONTINUATION)]
def e_is_item : List Str := []
def b_is_item : Ss :=
    (.cons (.ret (.bop false (.call 0 (.cons (.var 0) .nil)) (.cons (.call 1 (.cons (.var 0) (.cons (.glob 0) (.cons (.glob 0) .nil)))) (.cons (.call 1 (.cons (.var 0) (.cons (.neg (.int 255)) (.cons (.bin .sub (.int 0) (.glob 1)) .nil)))) .nil))))
    .nil)
def r_is_item : List D → Out D := runD (sgL c_is_item l_is_item) 1 b_is_item
/-! #### item_bytes -/
def n_item_bytes : List Str := ["item"]
def p_item_bytes : List Str := ["item"]
def c_item_bytes : List Cal := [(("bytes_for", 2), r_bytes_for), (("short_length", 1), r_short_length)]
def l_item_bytes : List (Str × D) := [("REPLACEMENT", g_REPLACEMENT), ("REPLACEMENT_BYTES", g_REPLACEMENT_BYTES)]
def e_item_bytes : List Str := []
def b_item_bytes : Ss :=
    (.cons (.ife (.cmp .eq (.var 0) (.glob 0)) (.cons (.ret (.glob 1))
    .nil) .nil)
    (.cons (.ret (.ite (.cmp .ge (.var 0) (.int 0)) (.call 0 (.cons (.var 0) (.cons (.call 1 (.cons (.var 0) .nil)) .nil))) (.tup (.cons (.bin .sub (.int 0) (.var 0)) .nil))))
    .nil))
def r_item_bytes : List D → Out D := runD (sgL c_item_bytes l_item_bytes) 1 b_item_bytes
/-! #### encode -/
def n_encode : List Str := ["items", "item", "found"]
def p_encode : List Str := ["items"]
def c_encode : List Cal := [(("is_item", 1), r_is_item), (("item_bytes", 1), r_item_bytes)]
def l_encode : List (Str × D) := [("MAX_STRING", g_MAX_STRING)]
def e_encode : List Str := ["InvalidItems", "TooLarge"]
def b_encode : Ss :=
    (.cons (.ife (.bop false (.not (.isi (.var 0) "list")) (.cons (.cmp .gt (.blt .len (.cons (.var 0) .nil)) (.glob 0)) (.cons (.not (.blt .all (.cons (.comp (.call 0 (.cons (.var 1) .nil)) (.one 1) (.seq (.var 0)) .none [1]) .nil))) .nil))) (.cons (.exc "InvalidItems")
    .nil) .nil)
    (.cons (.asg 2 (.tup .nil))
    (.cons (.forS (.one 1) (.seq (.var 0)) (.cons (.asg 2 (.bin .add (.var 2) (.call 1 (.cons (.var 1) .nil))))
    .nil))
    (.cons (.ife (.cmp .gt (.blt .len (.cons (.var 2) .nil)) (.glob 0)) (.cons (.exc "TooLarge")
    .nil) .nil)
    (.cons (.ret (.var 2))
    .nil)))))
def r_encode : List D → Out D := runD (sgL c_encode l_encode) 3 b_encode
def g_FIRST_SURROGATE : D := .int 55296
def g_LAST_SURROGATE : D := .int 57343
def g_NONE : D := .str "none"
def g_ZERO : D := .str "zero"
def g_ALL : D := .str "all"
def g_STOP : D := .str "stop"
def g_BYTE : D := .str "byte"
def g_PREFIX : D := .str "prefix"
def g_ANNOUNCED : D := .str "announced"
def g_RUN : D := .str "run"
def g_SKIP : D := .str "skip"
def g_KEEP : D := .str "keep"
def g_POLICIES : D := .tuple [(.str "stop"), (.str "byte"), (.str "prefix"), (.str "announced"), (.str "run"), (.str "skip"), (.str "keep")]
def g_ZERO_BYTES : D := .tuple [(.int 192), (.int 128)]
def g_CLASSES : D := .tuple [(.int 0), (.int 128), (.int 129), (.int 141), (.int 142), (.int 144), (.int 160), (.int 192), (.int 193), (.int 194), (.int 224), (.int 225), (.int 237), (.int 240), (.int 241), (.int 244), (.int 245), (.int 248)]
/-! #### is_decoder -/
def n_is_decoder : List Str := ["candidate", "longest", "overlong", "surrogates", "policy"]
def p_is_decoder : List Str := ["candidate"]
def c_is_decoder : List Cal := [(("is_int", 3), r_is_int)]
def l_is_decoder : List (Str × D) := [("NONE", g_NONE), ("ZERO", g_ZERO), ("ALL", g_ALL), ("POLICIES", g_POLICIES)]
def e_is_decoder : List Str := []
def b_is_decoder : Ss :=
    (.cons (.ife (.bop false (.not (.isi (.var 0) "tuple")) (.cons (.cmp .ne (.blt .len (.cons (.var 0) .nil)) (.int 4)) (.cons (.not (.call 0 (.cons (.ix (.var 0) (.int 0)) (.cons (.int 1) (.cons (.int 4) .nil))))) .nil))) (.cons (.ret (.bl false))
    .nil) .nil)
    (.cons (.unp [1, 2, 3, 4] (.var 0))
    (.cons (.ife (.bop false (.not (.isi (.var 2) "str")) (.cons (.cmp .notin (.var 2) (.tup (.cons (.glob 0) (.cons (.glob 1) (.cons (.glob 2) .nil))))) .nil)) (.cons (.ret (.bl false))
    .nil) .nil)
    (.cons (.ret (.bop true (.isi (.var 3) "bool") (.cons (.isi (.var 4) "str") (.cons (.cmp .isin (.var 4) (.glob 3)) .nil))))
    .nil))))
def r_is_decoder : List D → Out D := runD (sgL c_is_decoder l_is_decoder) 5 b_is_decoder
/-! #### check_decoder -/
def n_check_decoder : List Str := ["value"]
def p_check_decoder : List Str := ["value"]
def c_check_decoder : List Cal := [(("is_decoder", 1), r_is_decoder)]
def l_check_decoder : List (Str × D) := []
def e_check_decoder : List Str := ["InvalidDecoder"]
def b_check_decoder : Ss :=
    (.cons (.ife (.not (.call 0 (.cons (.var 0) .nil))) (.cons (.exc "InvalidDecoder")
    .nil) .nil)
    .nil)
def r_check_decoder : List D → Out D := runD (sgL c_check_decoder l_check_decoder) 1 b_check_decoder
/-! #### begins -/
def n_begins : List Str := ["decoder", "some", "longest", "overlong", "surrogates", "policy", "size", "byte", "missing", "low", "high"]
def p_begins : List Str := ["decoder", "some"]
def c_begins : List Cal := [(("announced", 1), r_announced), (("is_continuation", 1), r_is_continuation), (("value_from", 1), r_value_from), (("least_value", 1), r_least_value)]
def l_begins : List (Str × D) := [("ZERO", g_ZERO), ("ZERO_BYTES", g_ZERO_BYTES), ("FIRST_CONTINUATION", g_FIRST_CONTINUATION), ("LAST_CONTINUATION", g_LAST_CONTINUATION), ("ALL", g_ALL), ("MAX_CODE", g_MAX_CODE), ("FIRST_SURROGATE", g_FIRST_SURROGATE), ("LAST_SURROGATE", g_LAST_SURROGATE)]
def e_begins : List Str := []
def b_begins : Ss :=
    (.cons (.unp [2, 3, 4, 5] (.var 0))
    (.cons (.asg 6 (.call 0 (.cons (.ix (.var 1) (.int 0)) .nil)))
    (.cons (.ife (.bop false (.not (.chn .le .le (.blt .len (.cons (.var 1) .nil)) (.var 6) (.var 2))) (.cons (.not (.blt .all (.cons (.comp (.call 1 (.cons (.var 7) .nil)) (.one 7) (.seq (.sl (.var 1) (.some (.int 1)) .none)) .none [7]) .nil))) .nil)) (.cons (.ret (.bl false))
    .nil) .nil)
    (.cons (.ife (.bop true (.cmp .eq (.var 3) (.glob 0)) (.cons (.cmp .eq (.var 1) (.sl (.glob 1) .none (.some (.blt .len (.cons (.var 1) .nil))))) .nil)) (.cons (.ret (.bl true))
    .nil) .nil)
    (.cons (.asg 8 (.bin .sub (.var 6) (.blt .len (.cons (.var 1) .nil))))
    (.cons (.asg 9 (.call 2 (.cons (.bin .add (.var 1) (.bin .mul (.tup (.cons (.glob 2) .nil)) (.var 8))) .nil)))
    (.cons (.asg 10 (.call 2 (.cons (.bin .add (.var 1) (.bin .mul (.tup (.cons (.glob 3) .nil)) (.var 8))) .nil)))
    (.cons (.asg 9 (.blt .max (.cons (.var 9) (.cons (.ite (.cmp .eq (.var 3) (.glob 4)) (.int 0) (.call 3 (.cons (.var 6) .nil))) .nil))))
    (.cons (.asg 10 (.blt .min (.cons (.var 10) (.cons (.glob 5) .nil))))
    (.cons (.ret (.bop true (.cmp .le (.var 9) (.var 10)) (.cons (.bop false (.var 4) (.cons (.cmp .lt (.var 9) (.glob 6)) (.cons (.cmp .gt (.var 10) (.glob 7)) .nil))) .nil)))
    .nil))))))))))
def r_begins : List D → Out D := runD (sgL c_begins l_begins) 11 b_begins
/-! #### accepts -/
def n_accepts : List Str := ["decoder", "sequence"]
def p_accepts : List Str := ["decoder", "sequence"]
def c_accepts : List Cal := [(("begins", 2), r_begins)]
def l_accepts : List (Str × D) := []
def e_accepts : List Str := []
def b_accepts : Ss :=
    (.cons (.ret (.call 0 (.cons (.var 0) (.cons (.var 1) .nil))))
    .nil)
def r_accepts : List D → Out D := runD (sgL c_accepts l_accepts) 2 b_accepts
/-! #### is_valid -/
def n_is_valid : List Str := ["decoder", "sequence"]
def p_is_valid : List Str := ["decoder", "sequence"]
def c_is_valid : List Cal := [(("check_decoder", 1), r_check_decoder), (("check_sequence", 1), r_check_sequence), (("accepts", 2), r_accepts)]
def l_is_valid : List (Str × D) := []
def e_is_valid : List Str := []
def b_is_valid : Ss :=
    (.cons (.exp (.call 0 (.cons (.var 0) .nil)))
    (.cons (.exp (.call 1 (.cons (.var 1) .nil)))
    (.cons (.ret (.call 2 (.cons (.var 0) (.cons (.var 1) .nil))))
    .nil)))
def r_is_valid : List D → Out D := runD (sgL c_is_valid l_is_valid) 2 b_is_valid
/-! #### is_beginning -/
def n_is_beginning : List Str := ["decoder", "candidate"]
def p_is_beginning : List Str := ["decoder", "candidate"]
def c_is_beginning : List Cal := [(("check_decoder", 1), r_check_decoder), (("is_string", 1), r_is_string), (("begins", 2), r_begins)]
def l_is_beginning : List (Str × D) := []
def e_is_beginning : List Str := []
def b_is_beginning : Ss :=
    (.cons (.exp (.call 0 (.cons (.var 0) .nil)))
    (.cons (.ret (.bop true (.call 1 (.cons (.var 1) .nil)) (.cons (.cmp .ne (.var 1) (.tup .nil)) (.cons (.call 2 (.cons (.var 0) (.cons (.var 1) .nil))) .nil))))
    .nil))
def r_is_beginning : List D → Out D := runD (sgL c_is_beginning l_is_beginning) 2 b_is_beginning
/-! #### with_continuations -/
def n_with_continuations : List Str := ["some", "byte"]
def p_with_continuations : List Str := ["some"]
def c_with_continuations : List Cal := [(("is_continuation", 1), r_is_continuation)]
def l_with_continuations : List (Str × D) := [("CLASSES", g_CLASSES)]
def e_with_continuations : List Str := []
def b_with_continuations : Ss :=
    (.cons (.ret (.comp (.bin .add (.var 0) (.tup (.cons (.var 1) .nil))) (.one 1) (.seq (.glob 0)) (.some (.call 0 (.cons (.var 1) .nil))) [1]))
    .nil)
def r_with_continuations : List D → Out D := runD (sgL c_with_continuations l_with_continuations) 2 b_with_continuations
/-! #### all_sequences -/
def n_all_sequences : List Str := ["size", "found", "byte", "count", "some", "longer"]
def p_all_sequences : List Str := ["size"]
def c_all_sequences : List Cal := [(("announced", 1), r_announced), (("with_continuations", 1), r_with_continuations)]
def l_all_sequences : List (Str × D) := [("CLASSES", g_CLASSES)]
def e_all_sequences : List Str := []
def b_all_sequences : Ss :=
    (.cons (.asg 1 (.comp (.tup (.cons (.var 2) .nil)) (.one 2) (.seq (.glob 0)) (.some (.cmp .eq (.call 0 (.cons (.var 2) .nil)) (.var 0))) [2]))
    (.cons (.forS (.one 3) (.rng1 (.bin .sub (.var 0) (.int 1))) (.cons (.asg 1 (.comp2 (.var 5) (.one 4) (.seq (.var 1)) .none (.one 5) (.seq (.call 1 (.cons (.var 4) .nil))) .none [4, 5] [5]))
    .nil))
    (.cons (.ret (.var 1))
    .nil)))
def r_all_sequences : List D → Out D := runD (sgL c_all_sequences l_all_sequences) 6 b_all_sequences
/-! #### find_only_valid -/
def n_find_only_valid : List Str := ["one", "other", "size", "found", "row"]
def p_find_only_valid : List Str := ["one", "other"]
def c_find_only_valid : List Cal := [(("all_sequences", 1), r_all_sequences), (("accepts", 2), r_accepts)]
def l_find_only_valid : List (Str × D) := []
def e_find_only_valid : List Str := []
def b_find_only_valid : Ss :=
    (.cons (.forS (.one 2) (.rng2 (.int 1) (.bin .add (.ix (.var 0) (.int 0)) (.int 1))) (.cons (.asg 3 (.comp (.var 4) (.one 4) (.seq (.call 0 (.cons (.var 2) .nil))) (.some (.bop true (.call 1 (.cons (.var 0) (.cons (.var 4) .nil))) (.cons (.not (.call 1 (.cons (.var 1) (.cons (.var 4) .nil)))) .nil))) [4]))
    (.cons (.ife (.cmp .ne (.var 3) (.lst .nil)) (.cons (.ret (.ix (.var 3) (.int 0)))
    .nil) .nil)
    .nil)))
    (.cons (.ret .non)
    .nil))
def r_find_only_valid : List D → Out D := runD (sgL c_find_only_valid l_find_only_valid) 5 b_find_only_valid
/-! #### only_valid -/
def n_only_valid : List Str := ["one", "other"]
def p_only_valid : List Str := ["one", "other"]
def c_only_valid : List Cal := [(("check_decoder", 1), r_check_decoder), (("find_only_valid", 2), r_find_only_valid)]
def l_only_valid : List (Str × D) := []
def e_only_valid : List Str := []
def b_only_valid : Ss :=
    (.cons (.exp (.call 0 (.cons (.var 0) .nil)))
    (.cons (.exp (.call 0 (.cons (.var 1) .nil)))
    (.cons (.ret (.call 1 (.cons (.var 0) (.cons (.var 1) .nil))))
    .nil)))
def r_only_valid : List D → Out D := runD (sgL c_only_valid l_only_valid) 2 b_only_valid
/-! #### check_string -/
def n_check_string : List Str := ["value"]
def p_check_string : List Str := ["value"]
def c_check_string : List Cal := [(("is_string", 1), r_is_string)]
def l_check_string : List (Str × D) := []
def e_check_string : List Str := ["InvalidString"]
def b_check_string : Ss :=
    (.cons (.ife (.not (.call 0 (.cons (.var 0) .nil))) (.cons (.exc "InvalidString")
    .nil) .nil)
    .nil)
def r_check_string : List D → Out D := runD (sgL c_check_string l_check_string) 1 b_check_string
/-! #### good_size -/
def n_good_size : List Str := ["decoder", "rest", "size"]
def p_good_size : List Str := ["decoder", "rest"]
def c_good_size : List Cal := [(("announced", 1), r_announced), (("begins", 2), r_begins)]
def l_good_size : List (Str × D) := []
def e_good_size : List Str := []
def b_good_size : Ss :=
    (.cons (.asg 2 (.call 0 (.cons (.ix (.var 1) (.int 0)) .nil)))
    (.cons (.ret (.ite (.bop true (.chn .lt .le (.int 0) (.var 2) (.blt .len (.cons (.var 1) .nil))) (.cons (.call 1 (.cons (.var 0) (.cons (.sl (.var 1) .none (.some (.var 2))) .nil))) .nil)) (.var 2) (.int 0)))
    .nil))
def r_good_size : List D → Out D := runD (sgL c_good_size l_good_size) 3 b_good_size
/-! #### bad_size -/
def n_bad_size : List Str := ["decoder", "rest", "policy", "size"]
def p_bad_size : List Str := ["decoder", "rest"]
def c_bad_size : List Cal := [(("begins", 2), r_begins), (("announced", 1), r_announced), (("is_continuation", 1), r_is_continuation)]
def l_bad_size : List (Str × D) := [("STOP", g_STOP), ("PREFIX", g_PREFIX), ("ANNOUNCED", g_ANNOUNCED)]
def e_bad_size : List Str := []
def b_bad_size : Ss :=
    (.cons (.par false [2, 3] (.cons (.ix (.var 0) (.int 3)) (.cons (.int 1) .nil)))
    (.cons (.ife (.cmp .eq (.var 2) (.glob 0)) (.cons (.ret (.blt .len (.cons (.var 1) .nil)))
    .nil) .nil)
    (.cons (.ife (.cmp .eq (.var 2) (.glob 1)) (.cons (.whl (.bop true (.cmp .lt (.var 3) (.blt .len (.cons (.var 1) .nil))) (.cons (.call 0 (.cons (.var 0) (.cons (.sl (.var 1) .none (.some (.bin .add (.var 3) (.int 1)))) .nil))) .nil)) (.cons (.asg 3 (.bin .add (.var 3) (.int 1)))
    .nil))
    .nil) .nil)
    (.cons (.ife (.cmp .eq (.var 2) (.glob 2)) (.cons (.whl (.bop true (.cmp .lt (.var 3) (.blt .min (.cons (.blt .len (.cons (.var 1) .nil)) (.cons (.call 1 (.cons (.ix (.var 1) (.int 0)) .nil)) .nil)))) (.cons (.call 2 (.cons (.ix (.var 1) (.var 3)) .nil)) .nil)) (.cons (.asg 3 (.bin .add (.var 3) (.int 1)))
    .nil))
    .nil) .nil)
    (.cons (.ret (.var 3))
    .nil)))))
def r_bad_size : List D → Out D := runD (sgL c_bad_size l_bad_size) 4 b_bad_size
/-! #### find_pieces -/
def n_find_pieces : List Str := ["decoder", "string", "found", "place", "size"]
def p_find_pieces : List Str := ["decoder", "string"]
def c_find_pieces : List Cal := [(("good_size", 2), r_good_size), (("value_from", 1), r_value_from), (("bad_size", 2), r_bad_size)]
def l_find_pieces : List (Str × D) := [("REPLACEMENT", g_REPLACEMENT)]
def e_find_pieces : List Str := []
def b_find_pieces : Ss :=
    (.cons (.par true [2, 3] (.cons (.int 0) .nil))
    (.cons (.whl (.cmp .lt (.var 3) (.blt .len (.cons (.var 1) .nil))) (.cons (.asg 4 (.call 0 (.cons (.var 0) (.cons (.sl (.var 1) (.some (.var 3)) .none) .nil))))
    (.cons (.ife (.cmp .gt (.var 4) (.int 0)) (.cons (.app 2 (.tup (.cons (.var 3) (.cons (.var 4) (.cons (.call 1 (.cons (.sl (.var 1) (.some (.var 3)) (.some (.bin .add (.var 3) (.var 4)))) .nil)) .nil)))))
    .nil) (.cons (.asg 4 (.call 2 (.cons (.var 0) (.cons (.sl (.var 1) (.some (.var 3)) .none) .nil))))
    (.cons (.app 2 (.tup (.cons (.var 3) (.cons (.var 4) (.cons (.glob 0) .nil)))))
    .nil)))
    (.cons (.asg 3 (.bin .add (.var 3) (.var 4)))
    .nil))))
    (.cons (.ret (.var 2))
    .nil)))
def r_find_pieces : List D → Out D := runD (sgL c_find_pieces l_find_pieces) 5 b_find_pieces
/-! #### pieces -/
def n_pieces : List Str := ["decoder", "string"]
def p_pieces : List Str := ["decoder", "string"]
def c_pieces : List Cal := [(("check_decoder", 1), r_check_decoder), (("check_string", 1), r_check_string), (("find_pieces", 2), r_find_pieces)]
def l_pieces : List (Str × D) := []
def e_pieces : List Str := []
def b_pieces : Ss :=
    (.cons (.exp (.call 0 (.cons (.var 0) .nil)))
    (.cons (.exp (.call 1 (.cons (.var 1) .nil)))
    (.cons (.ret (.call 2 (.cons (.var 0) (.cons (.var 1) .nil))))
    .nil)))
def r_pieces : List D → Out D := runD (sgL c_pieces l_pieces) 2 b_pieces
/-! #### bad_items -/
def n_bad_items : List Str := ["policy", "byte", "after_bad"]
def p_bad_items : List Str := ["policy", "byte", "after_bad"]
def c_bad_items : List Cal := []
def l_bad_items : List (Str × D) := [("KEEP", g_KEEP), ("SKIP", g_SKIP), ("RUN", g_RUN), ("REPLACEMENT", g_REPLACEMENT)]
def e_bad_items : List Str := []
def b_bad_items : Ss :=
    (.cons (.ife (.cmp .eq (.var 0) (.glob 0)) (.cons (.ret (.lst (.cons (.bin .sub (.int 0) (.var 1)) .nil)))
    .nil) .nil)
    (.cons (.ret (.ite (.bop false (.cmp .eq (.var 0) (.glob 1)) (.cons (.bop true (.cmp .eq (.var 0) (.glob 2)) (.cons (.var 2) .nil)) .nil)) (.lst .nil) (.lst (.cons (.glob 3) .nil))))
    .nil))
def r_bad_items : List D → Out D := runD (sgL c_bad_items l_bad_items) 3 b_bad_items
/-! #### items_of -/
def n_items_of : List Str := ["decoder", "string", "after_bad", "found", "first", "size", "value"]
def p_items_of : List Str := ["decoder", "string", "after_bad"]
def c_items_of : List Cal := [(("find_pieces", 2), r_find_pieces), (("bad_items", 3), r_bad_items)]
def l_items_of : List (Str × D) := [("REPLACEMENT", g_REPLACEMENT)]
def e_items_of : List Str := []
def b_items_of : Ss :=
    (.cons (.asg 3 (.lst .nil))
    (.cons (.forS (.many [4, 5, 6]) (.seq (.call 0 (.cons (.var 0) (.cons (.var 1) .nil)))) (.cons (.asg 3 (.bin .add (.var 3) (.ite (.cmp .ne (.var 6) (.glob 0)) (.lst (.cons (.var 6) .nil)) (.call 1 (.cons (.ix (.var 0) (.int 3)) (.cons (.ix (.var 1) (.var 4)) (.cons (.var 2) .nil)))))))
    (.cons (.asg 2 (.cmp .eq (.var 6) (.glob 0)))
    .nil)))
    (.cons (.ret (.tup (.cons (.var 3) (.cons (.var 2) .nil))))
    .nil)))
def r_items_of : List D → Out D := runD (sgL c_items_of l_items_of) 7 b_items_of
/-! #### result_of -/
def n_result_of : List Str := ["decoder", "string", "found", "after_bad"]
def p_result_of : List Str := ["decoder", "string"]
def c_result_of : List Cal := [(("items_of", 3), r_items_of)]
def l_result_of : List (Str × D) := []
def e_result_of : List Str := []
def b_result_of : Ss :=
    (.cons (.unp [2, 3] (.call 0 (.cons (.var 0) (.cons (.var 1) (.cons (.bl false) .nil)))))
    (.cons (.ret (.var 2))
    .nil))
def r_result_of : List D → Out D := runD (sgL c_result_of l_result_of) 4 b_result_of
/-! #### decode -/
def n_decode : List Str := ["decoder", "string"]
def p_decode : List Str := ["decoder", "string"]
def c_decode : List Cal := [(("check_decoder", 1), r_check_decoder), (("check_string", 1), r_check_string), (("result_of", 2), r_result_of)]
def l_decode : List (Str × D) := []
def e_decode : List Str := []
def b_decode : Ss :=
    (.cons (.exp (.call 0 (.cons (.var 0) .nil)))
    (.cons (.exp (.call 1 (.cons (.var 1) .nil)))
    (.cons (.ret (.call 2 (.cons (.var 0) (.cons (.var 1) .nil))))
    .nil)))
def r_decode : List D → Out D := runD (sgL c_decode l_decode) 2 b_decode
/-! #### is_clean -/
def n_is_clean : List Str := ["decoder", "string", "first", "size", "value"]
def p_is_clean : List Str := ["decoder", "string"]
def c_is_clean : List Cal := [(("pieces", 2), r_pieces)]
def l_is_clean : List (Str × D) := [("REPLACEMENT", g_REPLACEMENT)]
def e_is_clean : List Str := []
def b_is_clean : Ss :=
    (.cons (.ret (.blt .all (.cons (.comp (.cmp .ne (.var 4) (.glob 0)) (.many [2, 3, 4]) (.seq (.call 0 (.cons (.var 0) (.cons (.var 1) .nil)))) .none [2, 3, 4]) .nil)))
    .nil)
def r_is_clean : List D → Out D := runD (sgL c_is_clean l_is_clean) 5 b_is_clean
/-! #### _wall -/
def n__wall : List Str := ["k"]
def p__wall : List Str := ["k"]
def c__wall : List Cal := []
def l__wall : List (Str × D) := []
def e__wall : List Str := []
def b__wall : Ss :=
    (.cons (.whl (.bl true) (.cons .pass
    .nil))
    .nil)
def r__wall : List D → Out D := runD (sgL c__wall l__wall) 1 b__wall
/-! #### is_open -/
def n_is_open : List Str := ["decoder", "rest", "byte"]
def p_is_open : List Str := ["decoder", "rest"]
def c_is_open : List Cal := [(("begins", 2), r_begins), (("announced", 1), r_announced), (("good_size", 2), r_good_size), (("is_continuation", 1), r_is_continuation)]
def l_is_open : List (Str × D) := [("ANNOUNCED", g_ANNOUNCED)]
def e_is_open : List Str := []
def b_is_open : Ss :=
    (.cons (.ife (.call 0 (.cons (.var 0) (.cons (.var 1) .nil))) (.cons (.ret (.cmp .lt (.blt .len (.cons (.var 1) .nil)) (.call 1 (.cons (.ix (.var 1) (.int 0)) .nil))))
    .nil) .nil)
    (.cons (.ife (.bop false (.cmp .ne (.ix (.var 0) (.int 3)) (.glob 0)) (.cons (.cmp .gt (.call 2 (.cons (.var 0) (.cons (.var 1) .nil))) (.int 0)) .nil)) (.cons (.ret (.bl false))
    .nil) .nil)
    (.cons (.ret (.bop true (.cmp .lt (.blt .len (.cons (.var 1) .nil)) (.call 1 (.cons (.ix (.var 1) (.int 0)) .nil))) (.cons (.blt .all (.cons (.comp (.call 3 (.cons (.var 2) .nil)) (.one 2) (.seq (.sl (.var 1) (.some (.int 1)) .none)) .none [2]) .nil)) .nil)))
    .nil)))
def r_is_open : List D → Out D := runD (sgL c_is_open l_is_open) 3 b_is_open
def g_POLICY_STRINGS : D := .tuple [(.tuple [(.int 128)]), (.tuple [(.int 128), (.int 0)]), (.tuple [(.int 128), (.int 128)]), (.tuple [(.int 225), (.int 128)]), (.tuple [(.int 245), (.int 128)])]
/-! #### plain_of -/
def n_plain_of : List Str := ["decoder", "longest", "overlong", "surrogates", "policy"]
def p_plain_of : List Str := ["decoder"]
def c_plain_of : List Cal := []
def l_plain_of : List (Str × D) := [("PREFIX", g_PREFIX), ("BYTE", g_BYTE), ("NONE", g_NONE)]
def e_plain_of : List Str := []
def b_plain_of : Ss :=
    (.cons (.unp [1, 2, 3, 4] (.var 0))
    (.cons (.ife (.cmp .lt (.var 1) (.int 3)) (.cons (.par false [3, 4] (.cons (.bl false) (.cons (.ite (.cmp .eq (.var 4) (.glob 0)) (.glob 1) (.var 4)) .nil)))
    .nil) .nil)
    (.cons (.ret (.tup (.cons (.var 1) (.cons (.ite (.cmp .eq (.var 1) (.int 1)) (.glob 2) (.var 2)) (.cons (.var 3) (.cons (.var 4) .nil))))))
    .nil)))
def r_plain_of : List D → Out D := runD (sgL c_plain_of l_plain_of) 5 b_plain_of
/-! #### plain -/
def n_plain : List Str := ["decoder"]
def p_plain : List Str := ["decoder"]
def c_plain : List Cal := [(("check_decoder", 1), r_check_decoder), (("plain_of", 1), r_plain_of)]
def l_plain : List (Str × D) := []
def e_plain : List Str := []
def b_plain : Ss :=
    (.cons (.exp (.call 0 (.cons (.var 0) .nil)))
    (.cons (.ret (.call 1 (.cons (.var 0) .nil)))
    .nil))
def r_plain : List D → Out D := runD (sgL c_plain l_plain) 1 b_plain
/-! #### check_two -/
def n_check_two : List Str := ["one", "other"]
def p_check_two : List Str := ["one", "other"]
def c_check_two : List Cal := [(("check_decoder", 1), r_check_decoder)]
def l_check_two : List (Str × D) := []
def e_check_two : List Str := []
def b_check_two : Ss :=
    (.cons (.exp (.call 0 (.cons (.var 0) .nil)))
    (.cons (.exp (.call 0 (.cons (.var 1) .nil)))
    .nil))
def r_check_two : List D → Out D := runD (sgL c_check_two l_check_two) 2 b_check_two
/-! #### are_equal -/
def n_are_equal : List Str := ["one", "other"]
def p_are_equal : List Str := ["one", "other"]
def c_are_equal : List Cal := [(("check_two", 2), r_check_two), (("plain_of", 1), r_plain_of)]
def l_are_equal : List (Str × D) := []
def e_are_equal : List Str := []
def b_are_equal : Ss :=
    (.cons (.exp (.call 0 (.cons (.var 0) (.cons (.var 1) .nil))))
    (.cons (.ret (.cmp .eq (.call 1 (.cons (.var 0) .nil)) (.call 1 (.cons (.var 1) .nil))))
    .nil))
def r_are_equal : List D → Out D := runD (sgL c_are_equal l_are_equal) 2 b_are_equal
/-! #### candidates -/
def n_candidates : List Str := ["one", "other", "found", "row", "size"]
def p_candidates : List Str := ["one", "other"]
def c_candidates : List Cal := [(("find_only_valid", 2), r_find_only_valid)]
def l_candidates : List (Str × D) := [("POLICY_STRINGS", g_POLICY_STRINGS)]
def e_candidates : List Str := []
def b_candidates : Ss :=
    (.cons (.asg 2 (.blt .list (.cons (.glob 0) .nil)))
    (.cons (.forS (.one 3) (.seq (.tup (.cons (.call 0 (.cons (.var 0) (.cons (.var 1) .nil))) (.cons (.call 0 (.cons (.var 1) (.cons (.var 0) .nil))) .nil)))) (.cons (.ife (.cmp .isnot (.var 3) .non) (.cons (.asg 2 (.bin .add (.var 2) (.comp (.sl (.var 3) .none (.some (.var 4))) (.one 4) (.rng2 (.int 2) (.bin .add (.blt .len (.cons (.var 3) .nil)) (.int 1))) .none [4])))
    .nil) .nil)
    .nil))
    (.cons (.ret (.srtL (.var 2)))
    .nil)))
def r_candidates : List D → Out D := runD (sgL c_candidates l_candidates) 5 b_candidates
/-! #### difference -/
def n_difference : List Str := ["one", "other", "found", "string"]
def p_difference : List Str := ["one", "other"]
def c_difference : List Cal := [(("check_two", 2), r_check_two), (("candidates", 2), r_candidates), (("result_of", 2), r_result_of)]
def l_difference : List (Str × D) := []
def e_difference : List Str := []
def b_difference : Ss :=
    (.cons (.exp (.call 0 (.cons (.var 0) (.cons (.var 1) .nil))))
    (.cons (.asg 2 (.comp (.var 3) (.one 3) (.seq (.call 1 (.cons (.var 0) (.cons (.var 1) .nil)))) (.some (.cmp .ne (.call 2 (.cons (.var 0) (.cons (.var 3) .nil))) (.call 2 (.cons (.var 1) (.cons (.var 3) .nil))))) [3]))
    (.cons (.ret (.ite (.cmp .ne (.var 2) (.lst .nil)) (.ix (.var 2) (.int 0)) .non))
    .nil)))
def r_difference : List D → Out D := runD (sgL c_difference l_difference) 4 b_difference
/-! #### is_difference -/
def n_is_difference : List Str := ["one", "other", "candidate"]
def p_is_difference : List Str := ["one", "other", "candidate"]
def c_is_difference : List Cal := [(("check_two", 2), r_check_two), (("is_string", 1), r_is_string), (("result_of", 2), r_result_of)]
def l_is_difference : List (Str × D) := []
def e_is_difference : List Str := []
def b_is_difference : Ss :=
    (.cons (.exp (.call 0 (.cons (.var 0) (.cons (.var 1) .nil))))
    (.cons (.ret (.bop true (.call 1 (.cons (.var 2) .nil)) (.cons (.cmp .ne (.call 2 (.cons (.var 0) (.cons (.var 2) .nil))) (.call 2 (.cons (.var 1) (.cons (.var 2) .nil)))) .nil)))
    .nil))
def r_is_difference : List D → Out D := runD (sgL c_is_difference l_is_difference) 3 b_is_difference
def g_MAX_CODES : D := .int 3
def g_BAD_BYTE : D := .tuple [(.int 255)]
/-! #### is_forbidden -/
def n_is_forbidden : List Str := ["value", "code", "one", "other"]
def p_is_forbidden : List Str := ["value"]
def c_is_forbidden : List Cal := [(("is_code", 1), r_is_code)]
def l_is_forbidden : List (Str × D) := [("MAX_CODES", g_MAX_CODES)]
def e_is_forbidden : List Str := []
def b_is_forbidden : Ss :=
    (.cons (.ife (.bop false (.not (.isi (.var 0) "tuple")) (.cons (.not (.chn .le .le (.int 1) (.blt .len (.cons (.var 0) .nil)) (.glob 0))) (.cons (.not (.blt .all (.cons (.comp (.call 0 (.cons (.var 1) .nil)) (.one 1) (.seq (.var 0)) .none [1]) .nil))) .nil))) (.cons (.ret (.bl false))
    .nil) .nil)
    (.cons (.ret (.blt .all (.cons (.comp (.cmp .lt (.var 2) (.var 3)) (.many [2, 3]) (.zip (.var 0) (.sl (.var 0) (.some (.int 1)) .none)) .none [2, 3]) .nil)))
    .nil))
def r_is_forbidden : List D → Out D := runD (sgL c_is_forbidden l_is_forbidden) 4 b_is_forbidden
/-! #### check_slip -/
def n_check_slip : List Str := ["sieve", "reader", "forbidden"]
def p_check_slip : List Str := ["sieve", "reader", "forbidden"]
def c_check_slip : List Cal := [(("check_decoder", 1), r_check_decoder), (("is_forbidden", 1), r_is_forbidden)]
def l_check_slip : List (Str × D) := []
def e_check_slip : List Str := ["InvalidCodes"]
def b_check_slip : Ss :=
    (.cons (.exp (.call 0 (.cons (.var 0) .nil)))
    (.cons (.exp (.call 0 (.cons (.var 1) .nil)))
    (.cons (.ife (.not (.call 1 (.cons (.var 2) .nil))) (.cons (.exc "InvalidCodes")
    .nil) .nil)
    .nil)))
def r_check_slip : List D → Out D := runD (sgL c_check_slip l_check_slip) 3 b_check_slip
/-! #### forms -/
def n_forms : List Str := ["codes", "reader", "found", "size", "code", "row"]
def p_forms : List Str := ["codes", "reader"]
def c_forms : List Cal := [(("bytes_for", 2), r_bytes_for), (("accepts", 2), r_accepts)]
def l_forms : List (Str × D) := [("LIMITS", g_LIMITS)]
def e_forms : List Str := []
def b_forms : Ss :=
    (.cons (.asg 2 (.lst .nil))
    (.cons (.forS (.one 3) (.seq (.tup (.cons (.int 1) (.cons (.int 2) (.cons (.int 3) (.cons (.int 4) .nil)))))) (.cons (.asg 2 (.bin .add (.var 2) (.comp (.call 0 (.cons (.var 4) (.cons (.var 3) .nil))) (.one 4) (.seq (.var 0)) (.some (.cmp .lt (.var 4) (.ix (.glob 0) (.var 3)))) [4])))
    .nil))
    (.cons (.ret (.comp (.var 5) (.one 5) (.seq (.var 2)) (.some (.call 1 (.cons (.var 1) (.cons (.var 5) .nil)))) [5]))
    .nil)))
def r_forms : List D → Out D := runD (sgL c_forms l_forms) 6 b_forms
/-! #### before_forms -/
def n_before_forms : List Str := ["sieve", "reader"]
def p_before_forms : List Str := ["sieve", "reader"]
def c_before_forms : List Cal := [(("find_only_valid", 2), r_find_only_valid)]
def l_before_forms : List (Str × D) := [("STOP", g_STOP), ("BAD_BYTE", g_BAD_BYTE)]
def e_before_forms : List Str := []
def b_before_forms : Ss :=
    (.cons (.ife (.cmp .ne (.ix (.var 0) (.int 3)) (.glob 0)) (.cons (.ret .non)
    .nil) .nil)
    (.cons (.ret (.ite (.cmp .eq (.ix (.var 1) (.int 3)) (.glob 0)) (.call 0 (.cons (.var 1) (.cons (.var 0) .nil))) (.glob 1)))
    .nil))
def r_before_forms : List D → Out D := runD (sgL c_before_forms l_before_forms) 2 b_before_forms
/-! #### find_slip -/
def n_find_slip : List Str := ["sieve", "reader", "forbidden", "good", "found", "row", "front"]
def p_find_slip : List Str := ["sieve", "reader", "forbidden"]
def c_find_slip : List Cal := [(("forms", 2), r_forms), (("accepts", 2), r_accepts), (("before_forms", 2), r_before_forms)]
def l_find_slip : List (Str × D) := []
def e_find_slip : List Str := []
def b_find_slip : Ss :=
    (.cons (.asg 3 (.call 0 (.cons (.var 2) (.cons (.var 1) .nil))))
    (.cons (.ownT 4 (.comp (.var 5) (.one 5) (.seq (.var 3)) (.some (.not (.call 1 (.cons (.var 0) (.cons (.var 5) .nil))))) [5]) 1)
    (.cons (.asg 6 (.call 2 (.cons (.var 0) (.cons (.var 1) .nil))))
    (.cons (.ife (.bop true (.cmp .isnot (.var 6) .non) (.cons (.cmp .ne (.var 3) (.lst .nil)) .nil)) (.cons (.app 4 (.bin .add (.var 6) (.ix (.var 3) (.int 0))))
    .nil) .nil)
    (.cons (.ret (.ite (.cmp .eq (.var 4) (.lst .nil)) .non (.minL (.var 4))))
    .nil)))))
def r_find_slip : List D → Out D := runD (sgL c_find_slip l_find_slip) 7 b_find_slip
/-! #### slip -/
def n_slip : List Str := ["sieve", "reader", "forbidden"]
def p_slip : List Str := ["sieve", "reader", "forbidden"]
def c_slip : List Cal := [(("check_slip", 3), r_check_slip), (("find_slip", 3), r_find_slip)]
def l_slip : List (Str × D) := []
def e_slip : List Str := []
def b_slip : Ss :=
    (.cons (.exp (.call 0 (.cons (.var 0) (.cons (.var 1) (.cons (.var 2) .nil)))))
    (.cons (.ret (.call 1 (.cons (.var 0) (.cons (.var 1) (.cons (.var 2) .nil)))))
    .nil))
def r_slip : List D → Out D := runD (sgL c_slip l_slip) 3 b_slip
/-! #### has_forbidden -/
def n_has_forbidden : List Str := ["decoder", "string", "forbidden", "item"]
def p_has_forbidden : List Str := ["decoder", "string", "forbidden"]
def c_has_forbidden : List Cal := [(("result_of", 2), r_result_of)]
def l_has_forbidden : List (Str × D) := []
def e_has_forbidden : List Str := []
def b_has_forbidden : Ss :=
    (.cons (.ret (.blt .any (.cons (.comp (.cmp .isin (.var 3) (.var 2)) (.one 3) (.seq (.call 0 (.cons (.var 0) (.cons (.var 1) .nil)))) .none [3]) .nil)))
    .nil)
def r_has_forbidden : List D → Out D := runD (sgL c_has_forbidden l_has_forbidden) 4 b_has_forbidden
/-! #### is_slip -/
def n_is_slip : List Str := ["sieve", "reader", "forbidden", "candidate"]
def p_is_slip : List Str := ["sieve", "reader", "forbidden", "candidate"]
def c_is_slip : List Cal := [(("check_slip", 3), r_check_slip), (("is_string", 1), r_is_string), (("has_forbidden", 3), r_has_forbidden)]
def l_is_slip : List (Str × D) := []
def e_is_slip : List Str := []
def b_is_slip : Ss :=
    (.cons (.exp (.call 0 (.cons (.var 0) (.cons (.var 1) (.cons (.var 2) .nil)))))
    (.cons (.ife (.bop false (.not (.call 1 (.cons (.var 3) .nil))) (.cons (.call 2 (.cons (.var 0) (.cons (.var 3) (.cons (.var 2) .nil)))) .nil)) (.cons (.ret (.bl false))
    .nil) .nil)
    (.cons (.ret (.call 2 (.cons (.var 1) (.cons (.var 3) (.cons (.var 2) .nil)))))
    .nil)))
def r_is_slip : List D → Out D := runD (sgL c_is_slip l_is_slip) 4 b_is_slip
/-! #### is_tight -/
def n_is_tight : List Str := ["sieve", "reader"]
def p_is_tight : List Str := ["sieve", "reader"]
def c_is_tight : List Cal := [(("check_decoder", 1), r_check_decoder), (("find_only_valid", 2), r_find_only_valid)]
def l_is_tight : List (Str × D) := [("STOP", g_STOP)]
def e_is_tight : List Str := []
def b_is_tight : Ss :=
    (.cons (.exp (.call 0 (.cons (.var 0) .nil)))
    (.cons (.exp (.call 0 (.cons (.var 1) .nil)))
    (.cons (.ret (.bop true (.cmp .is (.call 1 (.cons (.var 1) (.cons (.var 0) .nil))) .non) (.cons (.bop false (.cmp .ne (.ix (.var 0) (.int 3)) (.glob 0)) (.cons (.cmp .eq (.ix (.var 1) (.int 3)) (.glob 0)) .nil)) .nil)))
    .nil)))
def r_is_tight : List D → Out D := runD (sgL c_is_tight l_is_tight) 2 b_is_tight
/-! #### find_boundaries -/
def n_find_boundaries : List Str := ["decoder", "string", "first", "size", "value"]
def p_find_boundaries : List Str := ["decoder", "string"]
def c_find_boundaries : List Cal := [(("find_pieces", 2), r_find_pieces)]
def l_find_boundaries : List (Str × D) := []
def e_find_boundaries : List Str := []
def b_find_boundaries : Ss :=
    (.cons (.ret (.bin .add (.comp (.var 2) (.many [2, 3, 4]) (.seq (.call 0 (.cons (.var 0) (.cons (.var 1) .nil)))) .none [2, 3, 4]) (.lst (.cons (.blt .len (.cons (.var 1) .nil)) .nil))))
    .nil)
def r_find_boundaries : List D → Out D := runD (sgL c_find_boundaries l_find_boundaries) 5 b_find_boundaries
/-! #### boundaries -/
def n_boundaries : List Str := ["decoder", "string"]
def p_boundaries : List Str := ["decoder", "string"]
def c_boundaries : List Cal := [(("check_decoder", 1), r_check_decoder), (("check_string", 1), r_check_string), (("find_boundaries", 2), r_find_boundaries)]
def l_boundaries : List (Str × D) := []
def e_boundaries : List Str := []
def b_boundaries : Ss :=
    (.cons (.exp (.call 0 (.cons (.var 0) .nil)))
    (.cons (.exp (.call 1 (.cons (.var 1) .nil)))
    (.cons (.ret (.call 2 (.cons (.var 0) (.cons (.var 1) .nil))))
    .nil)))
def r_boundaries : List D → Out D := runD (sgL c_boundaries l_boundaries) 2 b_boundaries
/-! #### is_safe -/
def n_is_safe : List Str := ["decoder", "string", "place"]
def p_is_safe : List Str := ["decoder", "string", "place"]
def c_is_safe : List Cal := [(("result_of", 2), r_result_of)]
def l_is_safe : List (Str × D) := []
def e_is_safe : List Str := []
def b_is_safe : Ss :=
    (.cons (.ret (.cmp .eq (.bin .add (.call 0 (.cons (.var 0) (.cons (.sl (.var 1) .none (.some (.var 2))) .nil))) (.call 0 (.cons (.var 0) (.cons (.sl (.var 1) (.some (.var 2)) .none) .nil)))) (.call 0 (.cons (.var 0) (.cons (.var 1) .nil)))))
    .nil)
def r_is_safe : List D → Out D := runD (sgL c_is_safe l_is_safe) 3 b_is_safe
/-! #### safe_cuts -/
def n_safe_cuts : List Str := ["decoder", "string", "place"]
def p_safe_cuts : List Str := ["decoder", "string"]
def c_safe_cuts : List Cal := [(("check_decoder", 1), r_check_decoder), (("check_string", 1), r_check_string), (("find_boundaries", 2), r_find_boundaries), (("is_safe", 3), r_is_safe)]
def l_safe_cuts : List (Str × D) := []
def e_safe_cuts : List Str := []
def b_safe_cuts : Ss :=
    (.cons (.exp (.call 0 (.cons (.var 0) .nil)))
    (.cons (.exp (.call 1 (.cons (.var 1) .nil)))
    (.cons (.ret (.comp (.var 2) (.one 2) (.seq (.call 2 (.cons (.var 0) (.cons (.var 1) .nil)))) (.some (.call 3 (.cons (.var 0) (.cons (.var 1) (.cons (.var 2) .nil))))) [2]))
    .nil)))
def r_safe_cuts : List D → Out D := runD (sgL c_safe_cuts l_safe_cuts) 3 b_safe_cuts
def g_MOST_ANNOUNCED : D := .int 4
def g_LONG_BYTES : D := .tuple [(.tuple [(.int 65)]), (.tuple [(.int 194), (.int 128)]), (.tuple [(.int 225), (.int 128), (.int 128)]), (.tuple [(.int 241), (.int 128), (.int 128), (.int 128)])]
/-! #### find_meeting -/
def n_find_meeting : List Str := ["decoder", "string", "lost", "left", "place"]
def p_find_meeting : List Str := ["decoder", "string", "lost"]
def c_find_meeting : List Cal := [(("find_boundaries", 2), r_find_boundaries)]
def l_find_meeting : List (Str × D) := []
def e_find_meeting : List Str := []
def b_find_meeting : Ss :=
    (.cons (.asg 3 (.comp (.bin .add (.var 2) (.var 4)) (.one 4) (.seq (.call 0 (.cons (.var 0) (.cons (.sl (.var 1) (.some (.var 2)) .none) .nil)))) .none [4]))
    (.cons (.ret (.blt .min (.cons (.comp (.var 4) (.one 4) (.seq (.call 0 (.cons (.var 0) (.cons (.var 1) .nil)))) (.some (.cmp .isin (.var 4) (.var 3))) [4]) .nil)))
    .nil))
def r_find_meeting : List D → Out D := runD (sgL c_find_meeting l_find_meeting) 5 b_find_meeting
/-! #### meeting_place -/
def n_meeting_place : List Str := ["decoder", "string", "lost"]
def p_meeting_place : List Str := ["decoder", "string", "lost"]
def c_meeting_place : List Cal := [(("check_decoder", 1), r_check_decoder), (("check_string", 1), r_check_string), (("is_int", 3), r_is_int), (("find_meeting", 3), r_find_meeting)]
def l_meeting_place : List (Str × D) := []
def e_meeting_place : List Str := ["InvalidPlace"]
def b_meeting_place : Ss :=
    (.cons (.exp (.call 0 (.cons (.var 0) .nil)))
    (.cons (.exp (.call 1 (.cons (.var 1) .nil)))
    (.cons (.ife (.not (.call 2 (.cons (.var 2) (.cons (.int 0) (.cons (.blt .len (.cons (.var 1) .nil)) .nil))))) (.cons (.exc "InvalidPlace")
    .nil) .nil)
    (.cons (.ret (.call 3 (.cons (.var 0) (.cons (.var 1) (.cons (.var 2) .nil)))))
    .nil))))
def r_meeting_place : List D → Out D := runD (sgL c_meeting_place l_meeting_place) 3 b_meeting_place
/-! #### greatest_recovery -/
def n_greatest_recovery : List Str := ["decoder"]
def p_greatest_recovery : List Str := ["decoder"]
def c_greatest_recovery : List Cal := []
def l_greatest_recovery : List (Str × D) := [("ANNOUNCED", g_ANNOUNCED), ("MOST_ANNOUNCED", g_MOST_ANNOUNCED)]
def e_greatest_recovery : List Str := []
def b_greatest_recovery : Ss :=
    (.cons (.ret (.ite (.cmp .eq (.ix (.var 0) (.int 3)) (.glob 0)) (.bin .sub (.glob 1) (.int 1)) (.bin .sub (.ix (.var 0) (.int 0)) (.int 1))))
    .nil)
def r_greatest_recovery : List D → Out D := runD (sgL c_greatest_recovery l_greatest_recovery) 1 b_greatest_recovery
/-! #### most_recovery -/
def n_most_recovery : List Str := ["decoder"]
def p_most_recovery : List Str := ["decoder"]
def c_most_recovery : List Cal := [(("check_decoder", 1), r_check_decoder), (("greatest_recovery", 1), r_greatest_recovery)]
def l_most_recovery : List (Str × D) := [("STOP", g_STOP)]
def e_most_recovery : List Str := []
def b_most_recovery : Ss :=
    (.cons (.exp (.call 0 (.cons (.var 0) .nil)))
    (.cons (.ret (.ite (.cmp .ne (.ix (.var 0) (.int 3)) (.glob 0)) (.call 1 (.cons (.var 0) .nil)) .non))
    .nil))
def r_most_recovery : List D → Out D := runD (sgL c_most_recovery l_most_recovery) 1 b_most_recovery
/-! #### slowest -/
def n_slowest : List Str := ["decoder", "most"]
def p_slowest : List Str := ["decoder"]
def c_slowest : List Cal := [(("check_decoder", 1), r_check_decoder), (("greatest_recovery", 1), r_greatest_recovery)]
def l_slowest : List (Str × D) := [("STOP", g_STOP), ("LONG_BYTES", g_LONG_BYTES)]
def e_slowest : List Str := []
def b_slowest : Ss :=
    (.cons (.exp (.call 0 (.cons (.var 0) .nil)))
    (.cons (.ife (.cmp .eq (.ix (.var 0) (.int 3)) (.glob 0)) (.cons (.ret .non)
    .nil) .nil)
    (.cons (.asg 1 (.call 1 (.cons (.var 0) .nil)))
    (.cons (.ret (.ite (.cmp .gt (.var 1) (.int 0)) (.tup (.cons (.ix (.glob 1) (.var 1)) (.cons (.int 1) .nil))) (.tup (.cons (.tup .nil) (.cons (.int 0) .nil)))))
    .nil))))
def r_slowest : List D → Out D := runD (sgL c_slowest l_slowest) 2 b_slowest
/-! #### is_slowest -/
def n_is_slowest : List Str := ["decoder", "candidate", "string", "lost"]
def p_is_slowest : List Str := ["decoder", "candidate"]
def c_is_slowest : List Cal := [(("check_decoder", 1), r_check_decoder), (("is_string", 1), r_is_string), (("is_int", 3), r_is_int), (("find_meeting", 3), r_find_meeting), (("greatest_recovery", 1), r_greatest_recovery)]
def l_is_slowest : List (Str × D) := [("STOP", g_STOP)]
def e_is_slowest : List Str := []
def b_is_slowest : Ss :=
    (.cons (.exp (.call 0 (.cons (.var 0) .nil)))
    (.cons (.ife (.bop false (.cmp .eq (.ix (.var 0) (.int 3)) (.glob 0)) (.cons (.not (.isi (.var 1) "tuple")) (.cons (.cmp .ne (.blt .len (.cons (.var 1) .nil)) (.int 2)) (.cons (.not (.call 1 (.cons (.ix (.var 1) (.int 0)) .nil))) .nil)))) (.cons (.ret (.bl false))
    .nil) .nil)
    (.cons (.unp [2, 3] (.var 1))
    (.cons (.ret (.bop true (.call 2 (.cons (.var 3) (.cons (.int 0) (.cons (.blt .len (.cons (.var 2) .nil)) .nil)))) (.cons (.cmp .eq (.bin .sub (.call 3 (.cons (.var 0) (.cons (.var 2) (.cons (.var 3) .nil)))) (.var 3)) (.call 4 (.cons (.var 0) .nil))) .nil)))
    .nil))))
def r_is_slowest : List D → Out D := runD (sgL c_is_slowest l_is_slowest) 4 b_is_slowest
def g_SIZES : D := .tuple [(.int 1), (.int 2), (.int 3), (.int 4)]
/-! #### number_valid -/
def n_number_valid : List Str := ["decoder", "size", "longest", "overlong", "surrogates", "policy", "low", "high", "found"]
def p_number_valid : List Str := ["decoder", "size"]
def c_number_valid : List Cal := []
def l_number_valid : List (Str × D) := [("ALL", g_ALL), ("LIMITS", g_LIMITS), ("MAX_CODE", g_MAX_CODE), ("FIRST_SURROGATE", g_FIRST_SURROGATE), ("LAST_SURROGATE", g_LAST_SURROGATE), ("ZERO", g_ZERO)]
def e_number_valid : List Str := []
def b_number_valid : Ss :=
    (.cons (.unp [2, 3, 4, 5] (.var 0))
    (.cons (.ife (.cmp .gt (.var 1) (.var 2)) (.cons (.ret (.int 0))
    .nil) .nil)
    (.cons (.asg 6 (.ite (.cmp .eq (.var 3) (.glob 0)) (.int 0) (.ix (.glob 1) (.bin .sub (.var 1) (.int 1)))))
    (.cons (.asg 7 (.blt .min (.cons (.ix (.glob 1) (.var 1)) (.cons (.bin .add (.glob 2) (.int 1)) .nil))))
    (.cons (.asg 8 (.bin .sub (.var 7) (.var 6)))
    (.cons (.ife (.bop true (.not (.var 4)) (.cons (.chn .le .lt (.var 6) (.glob 3) (.var 7)) .nil)) (.cons (.asg 8 (.bin .sub (.var 8) (.bin .add (.bin .sub (.glob 4) (.glob 3)) (.int 1))))
    .nil) .nil)
    (.cons (.ret (.ite (.bop true (.cmp .eq (.var 3) (.glob 5)) (.cons (.cmp .eq (.var 1) (.int 2)) .nil)) (.bin .add (.var 8) (.int 1)) (.var 8)))
    .nil)))))))
def r_number_valid : List D → Out D := runD (sgL c_number_valid l_number_valid) 9 b_number_valid
/-! #### count_valid -/
def n_count_valid : List Str := ["decoder", "size"]
def p_count_valid : List Str := ["decoder", "size"]
def c_count_valid : List Cal := [(("check_decoder", 1), r_check_decoder), (("is_int", 3), r_is_int), (("number_valid", 2), r_number_valid)]
def l_count_valid : List (Str × D) := []
def e_count_valid : List Str := ["InvalidNumber"]
def b_count_valid : Ss :=
    (.cons (.exp (.call 0 (.cons (.var 0) .nil)))
    (.cons (.ife (.not (.call 1 (.cons (.var 1) (.cons (.int 1) (.cons (.int 4) .nil))))) (.cons (.exc "InvalidNumber")
    .nil) .nil)
    (.cons (.ret (.call 2 (.cons (.var 0) (.cons (.var 1) .nil))))
    .nil)))
def r_count_valid : List D → Out D := runD (sgL c_count_valid l_count_valid) 2 b_count_valid
/-! #### count_clean -/
def n_count_clean : List Str := ["decoder", "size", "numbers", "part", "counts", "number", "count"]
def p_count_clean : List Str := ["decoder", "size"]
def c_count_clean : List Cal := [(("check_decoder", 1), r_check_decoder), (("is_int", 3), r_is_int), (("number_valid", 2), r_number_valid)]
def l_count_clean : List (Str × D) := [("MAX_STRING", g_MAX_STRING), ("SIZES", g_SIZES)]
def e_count_clean : List Str := ["InvalidNumber"]
def b_count_clean : Ss :=
    (.cons (.exp (.call 0 (.cons (.var 0) .nil)))
    (.cons (.ife (.not (.call 1 (.cons (.var 1) (.cons (.int 0) (.cons (.glob 0) .nil))))) (.cons (.exc "InvalidNumber")
    .nil) .nil)
    (.cons (.asg 2 (.comp (.call 2 (.cons (.var 0) (.cons (.var 3) .nil))) (.one 3) (.seq (.glob 1)) .none [3]))
    (.cons (.own 4 (.cons (.int 1) .nil))
    (.cons (.whl (.cmp .le (.blt .len (.cons (.var 4) .nil)) (.var 1)) (.cons (.appS 4 (.blt .sum (.cons (.comp (.bin .mul (.var 5) (.var 6)) (.many [5, 6]) (.zip (.var 2) (.rev (.var 4))) .none [5, 6]) .nil)))
    .nil))
    (.cons (.ret (.ix (.var 4) (.var 1)))
    .nil))))))
def r_count_clean : List D → Out D := runD (sgL c_count_clean l_count_clean) 7 b_count_clean
/-! #### find_sequences -/
def n_find_sequences : List Str := ["decoder", "code", "found", "size", "sequence"]
def p_find_sequences : List Str := ["decoder", "code"]
def c_find_sequences : List Cal := [(("bytes_for", 2), r_bytes_for), (("accepts", 2), r_accepts)]
def l_find_sequences : List (Str × D) := [("SIZES", g_SIZES), ("LIMITS", g_LIMITS)]
def e_find_sequences : List Str := []
def b_find_sequences : Ss :=
    (.cons (.asg 2 (.comp (.call 0 (.cons (.var 1) (.cons (.var 3) .nil))) (.one 3) (.seq (.glob 0)) (.some (.cmp .lt (.var 1) (.ix (.glob 1) (.var 3)))) [3]))
    (.cons (.ret (.blt .sorted (.cons (.comp (.var 4) (.one 4) (.seq (.var 2)) (.some (.call 1 (.cons (.var 0) (.cons (.var 4) .nil)))) [4]) .nil)))
    .nil))
def r_find_sequences : List D → Out D := runD (sgL c_find_sequences l_find_sequences) 5 b_find_sequences
/-! #### sequences_for -/
def n_sequences_for : List Str := ["decoder", "code"]
def p_sequences_for : List Str := ["decoder", "code"]
def c_sequences_for : List Cal := [(("check_decoder", 1), r_check_decoder), (("is_code", 1), r_is_code), (("find_sequences", 2), r_find_sequences)]
def l_sequences_for : List (Str × D) := []
def e_sequences_for : List Str := ["InvalidCode"]
def b_sequences_for : Ss :=
    (.cons (.exp (.call 0 (.cons (.var 0) .nil)))
    (.cons (.ife (.not (.call 1 (.cons (.var 1) .nil))) (.cons (.exc "InvalidCode")
    .nil) .nil)
    (.cons (.ret (.call 2 (.cons (.var 0) (.cons (.var 1) .nil))))
    .nil)))
def r_sequences_for : List D → Out D := runD (sgL c_sequences_for l_sequences_for) 2 b_sequences_for
/-! #### count_strings -/
def n_count_strings : List Str := ["decoder", "codes", "code", "many"]
def p_count_strings : List Str := ["decoder", "codes"]
def c_count_strings : List Cal := [(("check_decoder", 1), r_check_decoder), (("is_code", 1), r_is_code), (("find_sequences", 2), r_find_sequences)]
def l_count_strings : List (Str × D) := [("MAX_STRING", g_MAX_STRING)]
def e_count_strings : List Str := ["InvalidItems"]
def b_count_strings : Ss :=
    (.cons (.exp (.call 0 (.cons (.var 0) .nil)))
    (.cons (.ife (.bop false (.not (.isi (.var 1) "list")) (.cons (.cmp .gt (.blt .len (.cons (.var 1) .nil)) (.glob 0)) (.cons (.not (.blt .all (.cons (.comp (.call 1 (.cons (.var 2) .nil)) (.one 2) (.seq (.var 1)) .none [2]) .nil))) .nil))) (.cons (.exc "InvalidItems")
    .nil) .nil)
    (.cons (.asg 3 (.int 1))
    (.cons (.forS (.one 2) (.seq (.var 1)) (.cons (.asg 3 (.bin .mul (.var 3) (.blt .len (.cons (.call 2 (.cons (.var 0) (.cons (.var 2) .nil))) .nil))))
    .nil))
    (.cons (.ret (.var 3))
    .nil)))))
def r_count_strings : List D → Out D := runD (sgL c_count_strings l_count_strings) 4 b_count_strings
def g_OVERLONG_ZERO : D := .tuple [(.int 192), (.int 128)]
/-! #### return_of -/
def n_return_of : List Str := ["decoder", "string", "found", "item"]
def p_return_of : List Str := ["decoder", "string"]
def c_return_of : List Cal := [(("result_of", 2), r_result_of), (("item_bytes", 1), r_item_bytes)]
def l_return_of : List (Str × D) := []
def e_return_of : List Str := []
def b_return_of : Ss :=
    (.cons (.asg 2 (.tup .nil))
    (.cons (.forS (.one 3) (.seq (.call 0 (.cons (.var 0) (.cons (.var 1) .nil)))) (.cons (.asg 2 (.bin .add (.var 2) (.call 1 (.cons (.var 3) .nil))))
    .nil))
    (.cons (.ret (.var 2))
    .nil)))
def r_return_of : List D → Out D := runD (sgL c_return_of l_return_of) 4 b_return_of
/-! #### returned -/
def n_returned : List Str := ["decoder", "string"]
def p_returned : List Str := ["decoder", "string"]
def c_returned : List Cal := [(("check_decoder", 1), r_check_decoder), (("check_string", 1), r_check_string), (("return_of", 2), r_return_of)]
def l_returned : List (Str × D) := []
def e_returned : List Str := []
def b_returned : Ss :=
    (.cons (.exp (.call 0 (.cons (.var 0) .nil)))
    (.cons (.exp (.call 1 (.cons (.var 1) .nil)))
    (.cons (.ret (.call 2 (.cons (.var 0) (.cons (.var 1) .nil))))
    .nil)))
def r_returned : List D → Out D := runD (sgL c_returned l_returned) 2 b_returned
/-! #### keeps_all -/
def n_keeps_all : List Str := ["decoder"]
def p_keeps_all : List Str := ["decoder"]
def c_keeps_all : List Cal := [(("plain_of", 1), r_plain_of)]
def l_keeps_all : List (Str × D) := [("KEEP", g_KEEP), ("NONE", g_NONE)]
def e_keeps_all : List Str := []
def b_keeps_all : Ss :=
    (.cons (.ret (.bop true (.cmp .eq (.ix (.var 0) (.int 3)) (.glob 0)) (.cons (.cmp .eq (.ix (.call 0 (.cons (.var 0) .nil)) (.int 1)) (.glob 1)) .nil)))
    .nil)
def r_keeps_all : List D → Out D := runD (sgL c_keeps_all l_keeps_all) 1 b_keeps_all
/-! #### is_lossless -/
def n_is_lossless : List Str := ["decoder"]
def p_is_lossless : List Str := ["decoder"]
def c_is_lossless : List Cal := [(("check_decoder", 1), r_check_decoder), (("keeps_all", 1), r_keeps_all)]
def l_is_lossless : List (Str × D) := []
def e_is_lossless : List Str := []
def b_is_lossless : Ss :=
    (.cons (.exp (.call 0 (.cons (.var 0) .nil)))
    (.cons (.ret (.call 1 (.cons (.var 0) .nil)))
    .nil))
def r_is_lossless : List D → Out D := runD (sgL c_is_lossless l_is_lossless) 1 b_is_lossless
/-! #### lost_string -/
def n_lost_string : List Str := ["decoder"]
def p_lost_string : List Str := ["decoder"]
def c_lost_string : List Cal := [(("check_decoder", 1), r_check_decoder), (("keeps_all", 1), r_keeps_all)]
def l_lost_string : List (Str × D) := [("KEEP", g_KEEP), ("OVERLONG_ZERO", g_OVERLONG_ZERO)]
def e_lost_string : List Str := []
def b_lost_string : Ss :=
    (.cons (.exp (.call 0 (.cons (.var 0) .nil)))
    (.cons (.ife (.call 1 (.cons (.var 0) .nil)) (.cons (.ret .non)
    .nil) .nil)
    (.cons (.ret (.ite (.cmp .eq (.ix (.var 0) (.int 3)) (.glob 0)) (.glob 1) (.tup (.cons (.int 128) .nil))))
    .nil)))
def r_lost_string : List D → Out D := runD (sgL c_lost_string l_lost_string) 1 b_lost_string
/-! #### is_lost_string -/
def n_is_lost_string : List Str := ["decoder", "candidate"]
def p_is_lost_string : List Str := ["decoder", "candidate"]
def c_is_lost_string : List Cal := [(("check_decoder", 1), r_check_decoder), (("is_string", 1), r_is_string), (("return_of", 2), r_return_of)]
def l_is_lost_string : List (Str × D) := []
def e_is_lost_string : List Str := []
def b_is_lost_string : Ss :=
    (.cons (.exp (.call 0 (.cons (.var 0) .nil)))
    (.cons (.ret (.bop true (.call 1 (.cons (.var 1) .nil)) (.cons (.cmp .ne (.call 2 (.cons (.var 0) (.cons (.var 1) .nil))) (.var 1)) .nil)))
    .nil))
def r_is_lost_string : List D → Out D := runD (sgL c_is_lost_string l_is_lost_string) 2 b_is_lost_string
/-! #### collision -/
def n_collision : List Str := ["decoder"]
def p_collision : List Str := ["decoder"]
def c_collision : List Cal := [(("check_decoder", 1), r_check_decoder), (("keeps_all", 1), r_keeps_all)]
def l_collision : List (Str × D) := [("KEEP", g_KEEP), ("OVERLONG_ZERO", g_OVERLONG_ZERO), ("SKIP", g_SKIP)]
def e_collision : List Str := []
def b_collision : Ss :=
    (.cons (.exp (.call 0 (.cons (.var 0) .nil)))
    (.cons (.ife (.call 1 (.cons (.var 0) .nil)) (.cons (.ret .non)
    .nil) .nil)
    (.cons (.ife (.cmp .eq (.ix (.var 0) (.int 3)) (.glob 0)) (.cons (.ret (.tup (.cons (.tup (.cons (.int 0) .nil)) (.cons (.glob 1) .nil))))
    .nil) .nil)
    (.cons (.ret (.ite (.cmp .eq (.ix (.var 0) (.int 3)) (.glob 2)) (.tup (.cons (.tup .nil) (.cons (.tup (.cons (.int 128) .nil)) .nil))) (.tup (.cons (.tup (.cons (.int 128) .nil)) (.cons (.tup (.cons (.int 129) .nil)) .nil)))))
    .nil))))
def r_collision : List D → Out D := runD (sgL c_collision l_collision) 1 b_collision
/-! #### is_collision -/
def n_is_collision : List Str := ["decoder", "candidate", "part", "one", "other"]
def p_is_collision : List Str := ["decoder", "candidate"]
def c_is_collision : List Cal := [(("check_decoder", 1), r_check_decoder), (("is_string", 1), r_is_string), (("result_of", 2), r_result_of)]
def l_is_collision : List (Str × D) := []
def e_is_collision : List Str := []
def b_is_collision : Ss :=
    (.cons (.exp (.call 0 (.cons (.var 0) .nil)))
    (.cons (.ife (.bop false (.not (.isi (.var 1) "tuple")) (.cons (.cmp .ne (.blt .len (.cons (.var 1) .nil)) (.int 2)) (.cons (.not (.blt .all (.cons (.comp (.call 1 (.cons (.var 2) .nil)) (.one 2) (.seq (.var 1)) .none [2]) .nil))) .nil))) (.cons (.ret (.bl false))
    .nil) .nil)
    (.cons (.unp [3, 4] (.var 1))
    (.cons (.ret (.bop true (.cmp .lt (.var 3) (.var 4)) (.cons (.cmp .eq (.call 2 (.cons (.var 0) (.cons (.var 3) .nil))) (.call 2 (.cons (.var 0) (.cons (.var 4) .nil)))) .nil)))
    .nil))))
def r_is_collision : List D → Out D := runD (sgL c_is_collision l_is_collision) 5 b_is_collision
/-! #### comes_back -/
def n_comes_back : List Str := ["decoder", "items"]
def p_comes_back : List Str := ["decoder", "items"]
def c_comes_back : List Cal := [(("check_decoder", 1), r_check_decoder), (("result_of", 2), r_result_of), (("encode", 1), r_encode)]
def l_comes_back : List (Str × D) := []
def e_comes_back : List Str := []
def b_comes_back : Ss :=
    (.cons (.exp (.call 0 (.cons (.var 0) .nil)))
    (.cons (.ret (.cmp .eq (.call 1 (.cons (.var 0) (.cons (.call 2 (.cons (.var 1) .nil)) .nil))) (.var 1)))
    .nil))
def r_comes_back : List D → Out D := runD (sgL c_comes_back l_comes_back) 2 b_comes_back
/-! #### shortened -/
def n_shortened : List Str := ["decoder", "string", "most", "place"]
def p_shortened : List Str := ["decoder", "string", "most"]
def c_shortened : List Cal := [(("check_decoder", 1), r_check_decoder), (("check_string", 1), r_check_string), (("is_int", 3), r_is_int), (("find_boundaries", 2), r_find_boundaries)]
def l_shortened : List (Str × D) := [("MAX_STRING", g_MAX_STRING)]
def e_shortened : List Str := ["InvalidNumber"]
def b_shortened : Ss :=
    (.cons (.exp (.call 0 (.cons (.var 0) .nil)))
    (.cons (.exp (.call 1 (.cons (.var 1) .nil)))
    (.cons (.ife (.not (.call 2 (.cons (.var 2) (.cons (.int 0) (.cons (.glob 0) .nil))))) (.cons (.exc "InvalidNumber")
    .nil) .nil)
    (.cons (.ret (.sl (.var 1) .none (.some (.blt .max (.cons (.comp (.var 3) (.one 3) (.seq (.call 3 (.cons (.var 0) (.cons (.var 1) .nil)))) (.some (.cmp .le (.var 3) (.var 2))) [3]) .nil)))))
    .nil))))
def r_shortened : List D → Out D := runD (sgL c_shortened l_shortened) 4 b_shortened
/-! #### check_clean -/
def n_check_clean : List Str := ["decoder", "string"]
def p_check_clean : List Str := ["decoder", "string"]
def c_check_clean : List Cal := [(("check_decoder", 1), r_check_decoder), (("check_string", 1), r_check_string), (("is_clean", 2), r_is_clean)]
def l_check_clean : List (Str × D) := []
def e_check_clean : List Str := ["NotClean"]
def b_check_clean : Ss :=
    (.cons (.exp (.call 0 (.cons (.var 0) .nil)))
    (.cons (.exp (.call 1 (.cons (.var 1) .nil)))
    (.cons (.ife (.not (.call 2 (.cons (.var 0) (.cons (.var 1) .nil)))) (.cons (.exc "NotClean")
    .nil) .nil)
    .nil)))
def r_check_clean : List D → Out D := runD (sgL c_check_clean l_check_clean) 2 b_check_clean
/-! #### piece_to -/
def n_piece_to : List Str := ["string", "place", "size"]
def p_piece_to : List Str := ["string", "place"]
def c_piece_to : List Cal := [(("announced", 1), r_announced), (("value_from", 1), r_value_from)]
def l_piece_to : List (Str × D) := []
def e_piece_to : List Str := []
def b_piece_to : Ss :=
    (.cons (.asg 2 (.int 1))
    (.cons (.whl (.cmp .ne (.call 0 (.cons (.ix (.var 0) (.bin .sub (.var 1) (.var 2))) .nil)) (.var 2)) (.cons (.asg 2 (.bin .add (.var 2) (.int 1)))
    .nil))
    (.cons (.ret (.tup (.cons (.bin .sub (.var 1) (.var 2)) (.cons (.var 2) (.cons (.call 1 (.cons (.sl (.var 0) (.some (.bin .sub (.var 1) (.var 2))) (.some (.var 1))) .nil)) .nil)))))
    .nil)))
def r_piece_to : List D → Out D := runD (sgL c_piece_to l_piece_to) 3 b_piece_to
/-! #### piece_before -/
def n_piece_before : List Str := ["decoder", "string", "place"]
def p_piece_before : List Str := ["decoder", "string", "place"]
def c_piece_before : List Cal := [(("check_clean", 2), r_check_clean), (("is_int", 3), r_is_int), (("find_boundaries", 2), r_find_boundaries), (("piece_to", 2), r_piece_to)]
def l_piece_before : List (Str × D) := []
def e_piece_before : List Str := ["InvalidPlace"]
def b_piece_before : Ss :=
    (.cons (.exp (.call 0 (.cons (.var 0) (.cons (.var 1) .nil))))
    (.cons (.ife (.bop false (.not (.call 1 (.cons (.var 2) (.cons (.int 1) (.cons (.blt .len (.cons (.var 1) .nil)) .nil))))) (.cons (.cmp .notin (.var 2) (.call 2 (.cons (.var 0) (.cons (.var 1) .nil)))) .nil)) (.cons (.exc "InvalidPlace")
    .nil) .nil)
    (.cons (.ret (.call 3 (.cons (.var 1) (.cons (.var 2) .nil))))
    .nil)))
def r_piece_before : List D → Out D := runD (sgL c_piece_before l_piece_before) 3 b_piece_before
/-! #### backwards -/
def n_backwards : List Str := ["decoder", "string", "found", "place"]
def p_backwards : List Str := ["decoder", "string"]
def c_backwards : List Cal := [(("check_clean", 2), r_check_clean), (("piece_to", 2), r_piece_to)]
def l_backwards : List (Str × D) := []
def e_backwards : List Str := []
def b_backwards : Ss :=
    (.cons (.exp (.call 0 (.cons (.var 0) (.cons (.var 1) .nil))))
    (.cons (.par true [2, 3] (.cons (.blt .len (.cons (.var 1) .nil)) .nil))
    (.cons (.whl (.cmp .gt (.var 3) (.int 0)) (.cons (.app 2 (.call 1 (.cons (.var 1) (.cons (.var 3) .nil))))
    (.cons (.asgS 3 (.ix (.ix (.var 2) (.neg (.int 1))) (.int 0)))
    .nil)))
    (.cons (.ret (.var 2))
    .nil))))
def r_backwards : List D → Out D := runD (sgL c_backwards l_backwards) 4 b_backwards
def g_SMALL : D := .str "0123456789abcdef"
def g_LARGE : D := .str "0123456789ABCDEF"
def g_BASE : D := .int 16
def g_CODE_DIGITS : D := .int 4
/-! #### digits -/
def n_digits : List Str := ["number", "least", "signs", "found"]
def p_digits : List Str := ["number", "least", "signs"]
def c_digits : List Cal := []
def l_digits : List (Str × D) := [("BASE", g_BASE)]
def e_digits : List Str := []
def b_digits : Ss :=
    (.cons (.asg 3 (.str ""))
    (.cons (.whl (.bop false (.cmp .gt (.var 0) (.int 0)) (.cons (.cmp .lt (.blt .len (.cons (.var 3) .nil)) (.var 1)) .nil)) (.cons (.asg 3 (.bin .add (.ix (.var 2) (.bin .mod (.var 0) (.glob 0))) (.var 3)))
    (.cons (.asg 0 (.bin .fdiv (.var 0) (.glob 0)))
    .nil)))
    (.cons (.ret (.var 3))
    .nil)))
def r_digits : List D → Out D := runD (sgL c_digits l_digits) 4 b_digits
/-! #### number_of -/
def n_number_of : List Str := ["text", "signs", "sign", "number"]
def p_number_of : List Str := ["text", "signs"]
def c_number_of : List Cal := []
def l_number_of : List (Str × D) := [("BASE", g_BASE)]
def e_number_of : List Str := []
def b_number_of : Ss :=
    (.cons (.ife (.bop false (.cmp .eq (.var 0) (.str "")) (.cons (.not (.blt .all (.cons (.comp (.cmp .isin (.var 2) (.var 1)) (.one 2) (.seq (.var 0)) .none [2]) .nil))) .nil)) (.cons (.ret .non)
    .nil) .nil)
    (.cons (.asg 3 (.int 0))
    (.cons (.forS (.one 2) (.seq (.var 0)) (.cons (.asg 3 (.bin .add (.bin .mul (.glob 0) (.var 3)) (.mth .index (.var 1) (.var 2))))
    .nil))
    (.cons (.ret (.var 3))
    .nil))))
def r_number_of : List D → Out D := runD (sgL c_number_of l_number_of) 4 b_number_of
/-! #### format_string -/
def n_format_string : List Str := ["string", "byte"]
def p_format_string : List Str := ["string"]
def c_format_string : List Cal := [(("check_string", 1), r_check_string), (("digits", 3), r_digits)]
def l_format_string : List (Str × D) := [("SMALL", g_SMALL)]
def e_format_string : List Str := []
def b_format_string : Ss :=
    (.cons (.exp (.call 0 (.cons (.var 0) .nil)))
    (.cons (.ret (.mth .join (.str " ") (.comp (.call 1 (.cons (.var 1) (.cons (.int 2) (.cons (.glob 0) .nil)))) (.one 1) (.seq (.var 0)) .none [1])))
    .nil))
def r_format_string : List D → Out D := runD (sgL c_format_string l_format_string) 2 b_format_string
/-! #### words -/
def n_words : List Str := ["text"]
def p_words : List Str := ["text"]
def c_words : List Cal := []
def l_words : List (Str × D) := []
def e_words : List Str := ["ParseError"]
def b_words : Ss :=
    (.cons (.ife (.not (.isi (.var 0) "str")) (.cons (.exc "ParseError")
    .nil) .nil)
    (.cons (.ret (.ite (.cmp .ne (.var 0) (.str "")) (.mth .split (.var 0) (.str " ")) (.lst .nil)))
    .nil))
def r_words : List D → Out D := runD (sgL c_words l_words) 1 b_words
/-! #### parse_string -/
def n_parse_string : List Str := ["text", "found", "numbers", "word"]
def p_parse_string : List Str := ["text"]
def c_parse_string : List Cal := [(("words", 1), r_words), (("number_of", 2), r_number_of)]
def l_parse_string : List (Str × D) := [("SMALL", g_SMALL), ("MAX_STRING", g_MAX_STRING)]
def e_parse_string : List Str := ["ParseError"]
def b_parse_string : Ss :=
    (.cons (.asg 1 (.call 0 (.cons (.var 0) .nil)))
    (.cons (.asg 2 (.comp (.call 1 (.cons (.var 3) (.cons (.glob 0) .nil))) (.one 3) (.seq (.var 1)) .none [3]))
    (.cons (.ife (.bop false (.cmp .gt (.blt .len (.cons (.var 1) .nil)) (.glob 1)) (.cons (.cmp .isin .non (.var 2)) (.cons (.not (.blt .all (.cons (.comp (.cmp .eq (.blt .len (.cons (.var 3) .nil)) (.int 2)) (.one 3) (.seq (.var 1)) .none [3]) .nil))) .nil))) (.cons (.exc "ParseError")
    .nil) .nil)
    (.cons (.ret (.blt .tuple (.cons (.var 2) .nil)))
    .nil))))
def r_parse_string : List D → Out D := runD (sgL c_parse_string l_parse_string) 4 b_parse_string
/-! #### format_item -/
def n_format_item : List Str := ["item"]
def p_format_item : List Str := ["item"]
def c_format_item : List Cal := [(("digits", 3), r_digits)]
def l_format_item : List (Str × D) := [("REPLACEMENT", g_REPLACEMENT), ("CODE_DIGITS", g_CODE_DIGITS), ("LARGE", g_LARGE)]
def e_format_item : List Str := []
def b_format_item : Ss :=
    (.cons (.ife (.cmp .eq (.var 0) (.glob 0)) (.cons (.ret (.str "?"))
    .nil) .nil)
    (.cons (.ret (.ite (.cmp .ge (.var 0) (.int 0)) (.bin .add (.str "U+") (.call 0 (.cons (.var 0) (.cons (.glob 1) (.cons (.glob 2) .nil))))) (.bin .add (.bin .add (.str "<") (.call 0 (.cons (.bin .sub (.int 0) (.var 0)) (.cons (.int 2) (.cons (.glob 2) .nil))))) (.str ">"))))
    .nil))
def r_format_item : List D → Out D := runD (sgL c_format_item l_format_item) 1 b_format_item
/-! #### format_items -/
def n_format_items : List Str := ["items", "item"]
def p_format_items : List Str := ["items"]
def c_format_items : List Cal := [(("is_item", 1), r_is_item), (("format_item", 1), r_format_item)]
def l_format_items : List (Str × D) := [("MAX_STRING", g_MAX_STRING)]
def e_format_items : List Str := ["InvalidItems"]
def b_format_items : Ss :=
    (.cons (.ife (.bop false (.not (.isi (.var 0) "list")) (.cons (.cmp .gt (.blt .len (.cons (.var 0) .nil)) (.glob 0)) (.cons (.not (.blt .all (.cons (.comp (.call 0 (.cons (.var 1) .nil)) (.one 1) (.seq (.var 0)) .none [1]) .nil))) .nil))) (.cons (.exc "InvalidItems")
    .nil) .nil)
    (.cons (.ret (.mth .join (.str " ") (.comp (.call 1 (.cons (.var 1) .nil)) (.one 1) (.seq (.var 0)) .none [1])))
    .nil))
def r_format_items : List D → Out D := runD (sgL c_format_items l_format_items) 2 b_format_items
/-! #### parse_item -/
def n_parse_item : List Str := ["word", "number", "item"]
def p_parse_item : List Str := ["word"]
def c_parse_item : List Cal := [(("number_of", 2), r_number_of), (("is_item", 1), r_is_item), (("format_item", 1), r_format_item)]
def l_parse_item : List (Str × D) := [("REPLACEMENT", g_REPLACEMENT), ("LARGE", g_LARGE), ("MAX_CODE", g_MAX_CODE)]
def e_parse_item : List Str := []
def b_parse_item : Ss :=
    (.cons (.ife (.cmp .eq (.var 0) (.str "?")) (.cons (.ret (.glob 0))
    .nil) .nil)
    (.cons (.asg 1 (.ite (.cmp .eq (.sl (.var 0) .none (.some (.int 2))) (.str "U+")) (.call 0 (.cons (.sl (.var 0) (.some (.int 2)) .none) (.cons (.glob 1) .nil))) (.call 0 (.cons (.sl (.var 0) (.some (.int 1)) (.some (.neg (.int 1)))) (.cons (.glob 1) .nil)))))
    (.cons (.ife (.bop false (.cmp .is (.var 1) .non) (.cons (.cmp .gt (.var 1) (.glob 2)) .nil)) (.cons (.ret .non)
    .nil) .nil)
    (.cons (.asg 2 (.ite (.cmp .eq (.sl (.var 0) .none (.some (.int 2))) (.str "U+")) (.var 1) (.bin .sub (.int 0) (.var 1))))
    (.cons (.ret (.ite (.bop true (.call 1 (.cons (.var 2) .nil)) (.cons (.cmp .eq (.call 2 (.cons (.var 2) .nil)) (.var 0)) .nil)) (.var 2) .non))
    .nil)))))
def r_parse_item : List D → Out D := runD (sgL c_parse_item l_parse_item) 3 b_parse_item
/-! #### parse_items -/
def n_parse_items : List Str := ["text", "found", "items", "word"]
def p_parse_items : List Str := ["text"]
def c_parse_items : List Cal := [(("words", 1), r_words), (("parse_item", 1), r_parse_item)]
def l_parse_items : List (Str × D) := [("MAX_STRING", g_MAX_STRING)]
def e_parse_items : List Str := ["ParseError"]
def b_parse_items : Ss :=
    (.cons (.asg 1 (.call 0 (.cons (.var 0) .nil)))
    (.cons (.asg 2 (.comp (.call 1 (.cons (.var 3) .nil)) (.one 3) (.seq (.var 1)) .none [3]))
    (.cons (.ife (.bop false (.cmp .gt (.blt .len (.cons (.var 1) .nil)) (.glob 0)) (.cons (.cmp .isin .non (.var 2)) .nil)) (.cons (.exc "ParseError")
    .nil) .nil)
    (.cons (.ret (.var 2))
    .nil))))
def r_parse_items : List D → Out D := runD (sgL c_parse_items l_parse_items) 4 b_parse_items
/-! #### is_good -/
def n_is_good : List Str := ["decoder", "some", "longest", "overlong", "surrogates", "policy"]
def p_is_good : List Str := ["decoder", "some"]
def c_is_good : List Cal := [(("is_sequence", 1), r_is_sequence), (("value_of", 1), r_value_of), (("is_overlong", 1), r_is_overlong)]
def l_is_good : List (Str × D) := []
def e_is_good : List Str := []
def b_is_good : Ss :=
    (.cons (.unp [2, 3, 4, 5] (.var 0))
    (.cons (.ife (.bop false (.not (.call 0 (.cons (.var 1) .nil))) (.cons (.cmp .gt (.blt .len (.cons (.var 1) .nil)) (.var 2)) (.cons (.cmp .gt (.call 1 (.cons (.var 1) .nil)) (.int 1114111)) .nil))) (.cons (.ret (.bl false))
    .nil) .nil)
    (.cons (.ife (.bop true (.call 2 (.cons (.var 1) .nil)) (.cons (.cmp .ne (.var 3) (.str "all")) (.cons (.not (.bop true (.cmp .eq (.var 3) (.str "zero")) (.cons (.cmp .eq (.var 1) (.tup (.cons (.int 192) (.cons (.int 128) .nil)))) .nil))) .nil))) (.cons (.ret (.bl false))
    .nil) .nil)
    (.cons (.ret (.bop false (.var 4) (.cons (.not (.chn .le .le (.int 55296) (.call 1 (.cons (.var 1) .nil)) (.int 57343))) .nil)))
    .nil))))
def r_is_good : List D → Out D := runD (sgL c_is_good l_is_good) 6 b_is_good
/-! #### can_be_good -/
def n_can_be_good : List Str := ["decoder", "some", "more", "byte"]
def p_can_be_good : List Str := ["decoder", "some"]
def q_can_be_good (r : List D → Out D) : List Cal := [(("is_good", 2), r_is_good), (("can_be_good", 2), r)]
def r_can_be_good_0 : List D → Out D := fun _ => .bad
def c_can_be_good : List Cal := q_can_be_good r_can_be_good_0
def l_can_be_good : List (Str × D) := []
def e_can_be_good : List Str := []
def b_can_be_good : Ss :=
    (.cons (.ife (.call 0 (.cons (.var 0) (.cons (.var 1) .nil))) (.cons (.ret (.bl true))
    .nil) .nil)
    (.cons (.ife (.cmp .ge (.blt .len (.cons (.var 1) .nil)) (.int 4)) (.cons (.ret (.bl false))
    .nil) .nil)
    (.cons (.asg 2 (.ite (.cmp .lt (.blt .len (.cons (.var 1) .nil)) (.int 3)) (.tup (.cons (.int 128) (.cons (.int 144) (.cons (.int 160) (.cons (.int 191) .nil))))) (.tup (.cons (.int 128) (.cons (.int 191) .nil)))))
    (.cons (.ret (.blt .any (.cons (.comp (.call 1 (.cons (.var 0) (.cons (.bin .add (.var 1) (.tup (.cons (.var 3) .nil))) .nil))) (.one 3) (.seq (.var 2)) .none [3]) .nil)))
    .nil))))
def r_can_be_good_1 : List D → Out D := runD (sgL (q_can_be_good r_can_be_good_0) l_can_be_good) 4 b_can_be_good
def r_can_be_good_2 : List D → Out D := runD (sgL (q_can_be_good r_can_be_good_1) l_can_be_good) 4 b_can_be_good
def r_can_be_good_3 : List D → Out D := runD (sgL (q_can_be_good r_can_be_good_2) l_can_be_good) 4 b_can_be_good
def r_can_be_good_4 : List D → Out D := runD (sgL (q_can_be_good r_can_be_good_3) l_can_be_good) 4 b_can_be_good
def r_can_be_good_5 : List D → Out D := runD (sgL (q_can_be_good r_can_be_good_4) l_can_be_good) 4 b_can_be_good
def r_can_be_good : List D → Out D := r_can_be_good_5
/-! #### announces -/
def n_announces : List Str := ["byte", "found"]
def p_announces : List Str := ["byte"]
def c_announces : List Cal := []
def l_announces : List (Str × D) := []
def e_announces : List Str := []
def b_announces : Ss :=
    (.cons (.asg 1 (.lst (.cons (.cmp .lt (.var 0) (.int 128)) (.cons (.chn .le .lt (.int 192) (.var 0) (.int 224)) (.cons (.chn .le .lt (.int 224) (.var 0) (.int 240)) (.cons (.chn .le .lt (.int 240) (.var 0) (.int 248)) .nil))))))
    (.cons (.ret (.ite (.cmp .isin (.bl true) (.var 1)) (.bin .add (.idx (.var 1) (.bl true)) (.int 1)) (.int 0)))
    .nil))
def r_announces : List D → Out D := runD (sgL c_announces l_announces) 2 b_announces
/-! #### bad_part -/
def n_bad_part : List Str := ["decoder", "rest", "policy", "sizes", "size", "some", "byte"]
def p_bad_part : List Str := ["decoder", "rest"]
def c_bad_part : List Cal := [(("can_be_good", 2), r_can_be_good), (("announces", 1), r_announces), (("is_continuation", 1), r_is_continuation)]
def l_bad_part : List (Str × D) := []
def e_bad_part : List Str := []
def b_bad_part : Ss :=
    (.cons (.asg 2 (.ix (.var 0) (.int 3)))
    (.cons (.ife (.cmp .eq (.var 2) (.str "stop")) (.cons (.ret (.blt .len (.cons (.var 1) .nil)))
    .nil) .nil)
    (.cons (.own 3 (.cons (.int 1) .nil))
    (.cons (.forS (.one 4) (.rng2 (.int 2) (.bin .add (.blt .min (.cons (.blt .len (.cons (.var 1) .nil)) (.cons (.int 4) .nil))) (.int 1))) (.cons (.asg 5 (.sl (.var 1) .none (.some (.var 4))))
    (.cons (.ife (.bop true (.cmp .eq (.var 2) (.str "prefix")) (.cons (.call 0 (.cons (.var 0) (.cons (.var 5) .nil))) .nil)) (.cons (.app 3 (.var 4))
    .nil) .nil)
    (.cons (.ife (.bop true (.cmp .eq (.var 2) (.str "announced")) (.cons (.cmp .le (.var 4) (.call 1 (.cons (.ix (.var 1) (.int 0)) .nil))) (.cons (.blt .all (.cons (.comp (.call 2 (.cons (.var 6) .nil)) (.one 6) (.seq (.sl (.var 5) (.some (.int 1)) .none)) .none [6]) .nil)) .nil))) (.cons (.app 3 (.var 4))
    .nil) .nil)
    .nil))))
    (.cons (.ret (.blt .max (.cons (.var 3) .nil)))
    .nil)))))
def r_bad_part : List D → Out D := runD (sgL c_bad_part l_bad_part) 7 b_bad_part
/-! #### naive_result -/
def n_naive_result : List Str := ["decoder", "string", "found", "place", "after_bad", "rest", "good", "size"]
def p_naive_result : List Str := ["decoder", "string"]
def c_naive_result : List Cal := [(("is_good", 2), r_is_good), (("value_of", 1), r_value_of), (("bad_part", 2), r_bad_part)]
def l_naive_result : List (Str × D) := [("REPLACEMENT", g_REPLACEMENT)]
def e_naive_result : List Str := []
def b_naive_result : Ss :=
    (.cons (.par true [2, 3, 4] (.cons (.int 0) (.cons (.bl false) .nil)))
    (.cons (.whl (.cmp .lt (.var 3) (.blt .len (.cons (.var 1) .nil))) (.cons (.asg 5 (.sl (.var 1) (.some (.var 3)) .none))
    (.cons (.asg 6 (.comp (.var 7) (.one 7) (.seq (.tup (.cons (.int 1) (.cons (.int 2) (.cons (.int 3) (.cons (.int 4) .nil)))))) (.some (.bop true (.cmp .le (.var 7) (.blt .len (.cons (.var 5) .nil))) (.cons (.call 0 (.cons (.var 0) (.cons (.sl (.var 5) .none (.some (.var 7))) .nil))) .nil))) [7]))
    (.cons (.ife (.cmp .ne (.var 6) (.lst .nil)) (.cons (.app 2 (.call 1 (.cons (.sl (.var 5) .none (.some (.ix (.var 6) (.int 0)))) .nil)))
    (.cons (.asg 3 (.bin .add (.var 3) (.ix (.var 6) (.int 0))))
    .nil)) (.cons (.ife (.cmp .eq (.ix (.var 0) (.int 3)) (.str "keep")) (.cons (.app 2 (.bin .sub (.int 0) (.ix (.var 5) (.int 0))))
    .nil) (.cons (.ife (.bop true (.cmp .ne (.ix (.var 0) (.int 3)) (.str "skip")) (.cons (.bop false (.cmp .ne (.ix (.var 0) (.int 3)) (.str "run")) (.cons (.not (.var 4)) .nil)) .nil)) (.cons (.app 2 (.glob 0))
    .nil) .nil)
    .nil))
    (.cons (.asg 3 (.bin .add (.var 3) (.call 2 (.cons (.var 0) (.cons (.var 5) .nil)))))
    .nil)))
    (.cons (.asg 4 (.cmp .eq (.var 6) (.lst .nil)))
    .nil)))))
    (.cons (.ret (.var 2))
    .nil)))
def r_naive_result : List D → Out D := runD (sgL c_naive_result l_naive_result) 8 b_naive_result
/-! #### naive_decode -/
def n_naive_decode : List Str := ["decoder", "string"]
def p_naive_decode : List Str := ["decoder", "string"]
def c_naive_decode : List Cal := [(("check_decoder", 1), r_check_decoder), (("check_string", 1), r_check_string), (("naive_result", 2), r_naive_result)]
def l_naive_decode : List (Str × D) := []
def e_naive_decode : List Str := []
def b_naive_decode : Ss :=
    (.cons (.exp (.call 0 (.cons (.var 0) .nil)))
    (.cons (.exp (.call 1 (.cons (.var 1) .nil)))
    (.cons (.ret (.call 2 (.cons (.var 0) (.cons (.var 1) .nil))))
    .nil)))
def r_naive_decode : List D → Out D := runD (sgL c_naive_decode l_naive_decode) 2 b_naive_decode
/-! #### naive_safe_cuts -/
def n_naive_safe_cuts : List Str := ["decoder", "string", "whole", "found", "place"]
def p_naive_safe_cuts : List Str := ["decoder", "string"]
def c_naive_safe_cuts : List Cal := [(("check_decoder", 1), r_check_decoder), (("check_string", 1), r_check_string), (("naive_result", 2), r_naive_result)]
def l_naive_safe_cuts : List (Str × D) := []
def e_naive_safe_cuts : List Str := []
def b_naive_safe_cuts : Ss :=
    (.cons (.exp (.call 0 (.cons (.var 0) .nil)))
    (.cons (.exp (.call 1 (.cons (.var 1) .nil)))
    (.cons (.asg 2 (.call 2 (.cons (.var 0) (.cons (.var 1) .nil))))
    (.cons (.own 3 .nil)
    (.cons (.forS (.one 4) (.rng1 (.bin .add (.blt .len (.cons (.var 1) .nil)) (.int 1))) (.cons (.ife (.cmp .eq (.bin .add (.call 2 (.cons (.var 0) (.cons (.sl (.var 1) .none (.some (.var 4))) .nil))) (.call 2 (.cons (.var 0) (.cons (.sl (.var 1) (.some (.var 4)) .none) .nil)))) (.var 2)) (.cons (.app 3 (.var 4))
    .nil) .nil)
    .nil))
    (.cons (.ret (.var 3))
    .nil))))))
def r_naive_safe_cuts : List D → Out D := runD (sgL c_naive_safe_cuts l_naive_safe_cuts) 5 b_naive_safe_cuts
end PG

/-! ### texts that the laws share, as terms (printed by gen2.py): LB -/
namespace LB
open PySem PySem.Spec PyProof.Rows L2 BB He PG
/-! #### _law_pick -/
def n__law_pick : List Str := ["script", "k", "many", "cell", "rest", "again", "drawn"]
def p__law_pick : List Str := ["script", "k", "many"]
def c__law_pick : List Cal := []
def l__law_pick : List (Str × D) := []
def e__law_pick : List Str := []
def b__law_pick : Ss :=
    (.cons (.asg 3 (.ite (.cmp .ne (.var 0) (.lst .nil)) (.ix (.var 0) (.bin .mod (.var 1) (.blt .len (.cons (.var 0) .nil)))) (.int 0)))
    (.cons (.par false [4, 5] (.cons (.bin .fdiv (.var 3) (.bin .pow (.int 10) (.int 18))) (.cons (.bin .fdiv (.var 1) (.blt .max (.cons (.blt .len (.cons (.var 0) .nil)) (.cons (.int 1) .nil)))) .nil)))
    (.cons (.whl (.bop true (.cmp .gt (.var 4) (.int 0)) (.cons (.cmp .gt (.var 5) (.int 0)) .nil)) (.cons (.par false [4, 5] (.cons (.bin .fdiv (.var 4) (.int 840)) (.cons (.bin .sub (.var 5) (.int 1)) .nil)))
    .nil))
    (.cons (.ife (.cmp .gt (.var 4) (.int 0)) (.cons (.ret (.bin .mod (.bin .mod (.var 4) (.int 840)) (.var 2)))
    .nil) .nil)
    (.cons (.asg 6 (.bin .mod (.bin .mul (.bin .add (.bin .mul (.var 3) (.int 31)) (.bin .mul (.int 6151) (.bin .add (.var 1) (.int 1)))) (.int 40692)) (.int 2147483399)))
    (.cons (.ret (.bin .mod (.bin .mod (.bin .add (.bin .mul (.var 6) (.var 6)) (.bin .fdiv (.var 6) (.int 31))) (.int 2147483629)) (.var 2)))
    .nil))))))
def r__law_pick : List D → Out D := runD (sgL c__law_pick l__law_pick) 7 b__law_pick
/-! #### _law_decoder -/
def n__law_decoder : List Str := ["script", "place", "longest", "overlong", "policy"]
def p__law_decoder : List Str := ["script", "place"]
def c__law_decoder : List Cal := [(("_law_pick", 3), r__law_pick)]
def l__law_decoder : List (Str × D) := []
def e__law_decoder : List Str := []
def b__law_decoder : Ss :=
    (.cons (.asg 2 (.ix (.tup (.cons (.int 4) (.cons (.int 3) (.cons (.int 2) (.cons (.int 4) (.cons (.int 1) (.cons (.int 3) .nil))))))) (.call 0 (.cons (.var 0) (.cons (.var 1) (.cons (.int 6) .nil))))))
    (.cons (.asg 3 (.ix (.tup (.cons (.str "none") (.cons (.str "all") (.cons (.str "zero") .nil)))) (.call 0 (.cons (.var 0) (.cons (.bin .add (.var 1) (.int 1)) (.cons (.int 3) .nil))))))
    (.cons (.asg 4 (.ix (.tup (.cons (.str "prefix") (.cons (.str "byte") (.cons (.str "announced") (.cons (.str "run") (.cons (.str "skip") (.cons (.str "keep") (.cons (.str "stop") .nil)))))))) (.call 0 (.cons (.var 0) (.cons (.bin .add (.var 1) (.int 2)) (.cons (.int 7) .nil))))))
    (.cons (.ret (.tup (.cons (.var 2) (.cons (.var 3) (.cons (.cmp .eq (.call 0 (.cons (.var 0) (.cons (.bin .add (.var 1) (.int 3)) (.cons (.int 2) .nil)))) (.int 0)) (.cons (.var 4) .nil))))))
    .nil))))
def r__law_decoder : List D → Out D := runD (sgL c__law_decoder l__law_decoder) 5 b__law_decoder
/-! #### _law_string -/
def n__law_string : List Str := ["script", "place", "most", "parts", "found", "i"]
def p__law_string : List Str := ["script", "place", "most"]
def c__law_string : List Cal := [(("_law_pick", 3), r__law_pick)]
def l__law_string : List (Str × D) := []
def e__law_string : List Str := []
def b__law_string : Ss :=
    (.cons (.own 3 (.cons (.tup (.cons (.int 65) .nil)) (.cons (.tup (.cons (.int 128) .nil)) (.cons (.tup (.cons (.int 191) (.cons (.int 255) .nil))) (.cons (.tup (.cons (.int 192) (.cons (.int 128) .nil))) (.cons (.tup (.cons (.int 192) (.cons (.int 175) .nil))) (.cons (.tup (.cons (.int 194) .nil)) (.cons (.tup (.cons (.int 194) (.cons (.int 128) .nil))) (.cons (.tup (.cons (.int 47) .nil)) (.cons (.tup (.cons (.int 224) (.cons (.int 128) (.cons (.int 175) .nil)))) .nil))))))))))
    (.cons (.ext 3 (.lst (.cons (.tup (.cons (.int 224) (.cons (.int 160) (.cons (.int 128) .nil)))) (.cons (.tup (.cons (.int 225) (.cons (.int 128) .nil))) (.cons (.tup (.cons (.int 237) (.cons (.int 160) (.cons (.int 128) .nil)))) (.cons (.tup (.cons (.int 237) (.cons (.int 159) (.cons (.int 191) .nil)))) (.cons (.tup (.cons (.int 239) (.cons (.int 191) (.cons (.int 189) .nil)))) (.cons (.tup (.cons (.int 240) .nil)) .nil))))))))
    (.cons (.ext 3 (.lst (.cons (.tup (.cons (.int 240) (.cons (.int 128) (.cons (.int 128) (.cons (.int 175) .nil))))) (.cons (.tup (.cons (.int 240) (.cons (.int 144) (.cons (.int 128) .nil)))) (.cons (.tup (.cons (.int 240) (.cons (.int 144) (.cons (.int 128) (.cons (.int 128) .nil))))) (.cons (.tup (.cons (.int 244) (.cons (.int 143) (.cons (.int 191) (.cons (.int 191) .nil))))) .nil))))))
    (.cons (.ext 3 (.lst (.cons (.tup (.cons (.int 244) (.cons (.int 144) (.cons (.int 128) (.cons (.int 128) .nil))))) (.cons (.tup (.cons (.int 247) (.cons (.int 191) (.cons (.int 191) (.cons (.int 191) .nil))))) (.cons (.tup (.cons (.int 255) .nil)) (.cons (.tup (.cons (.int 248) (.cons (.int 128) .nil))) (.cons (.tup (.cons (.int 223) (.cons (.int 191) .nil))) (.cons (.tup (.cons (.int 224) .nil)) (.cons (.tup (.cons (.int 0) .nil)) .nil)))))))))
    (.frz 3 (.cons (.asg 4 (.tup .nil))
    (.cons (.forS (.one 5) (.rng1 (.call 0 (.cons (.var 0) (.cons (.var 1) (.cons (.bin .add (.var 2) (.int 1)) .nil))))) (.cons (.asg 4 (.bin .add (.var 4) (.ix (.var 3) (.call 0 (.cons (.var 0) (.cons (.bin .add (.bin .add (.var 1) (.int 1)) (.var 5)) (.cons (.int 26) .nil)))))))
    .nil))
    (.cons (.ret (.var 4))
    .nil))))))))
def r__law_string : List D → Out D := runD (sgL c__law_string l__law_string) 6 b__law_string
/-! #### _law_lead -/
def n__law_lead : List Str := ["byte"]
def p__law_lead : List Str := ["byte"]
def c__law_lead : List Cal := []
def l__law_lead : List (Str × D) := []
def e__law_lead : List Str := []
def b__law_lead : Ss :=
    (.cons (.ife (.cmp .lt (.var 0) (.int 128)) (.cons (.ret (.int 1))
    .nil) .nil)
    (.cons (.ife (.bop false (.cmp .lt (.var 0) (.int 192)) (.cons (.cmp .gt (.var 0) (.int 247)) .nil)) (.cons (.ret (.int 0))
    .nil) .nil)
    (.cons (.ret (.ite (.cmp .lt (.var 0) (.int 224)) (.int 2) (.ite (.cmp .lt (.var 0) (.int 240)) (.int 3) (.int 4))))
    .nil)))
def r__law_lead : List D → Out D := runD (sgL c__law_lead l__law_lead) 1 b__law_lead
/-! #### _law_number -/
def n__law_number : List Str := ["row", "found", "byte"]
def p__law_number : List Str := ["row"]
def c__law_number : List Cal := []
def l__law_number : List (Str × D) := []
def e__law_number : List Str := []
def b__law_number : Ss :=
    (.cons (.asg 1 (.bin .sub (.ix (.var 0) (.int 0)) (.ix (.tup (.cons (.int 0) (.cons (.int 0) (.cons (.int 192) (.cons (.int 224) (.cons (.int 240) .nil)))))) (.blt .len (.cons (.var 0) .nil)))))
    (.cons (.forS (.one 2) (.seq (.sl (.var 0) (.some (.int 1)) .none)) (.cons (.asg 1 (.bin .sub (.bin .add (.bin .mul (.int 64) (.var 1)) (.var 2)) (.int 128)))
    .nil))
    (.cons (.ret (.var 1))
    .nil)))
def r__law_number : List D → Out D := runD (sgL c__law_number l__law_number) 3 b__law_number
/-! #### _law_valid -/
def n__law_valid : List Str := ["decoder", "row", "longest", "overlong", "surrogates", "policy", "byte", "number"]
def p__law_valid : List Str := ["decoder", "row"]
def c__law_valid : List Cal := [(("_law_lead", 1), r__law_lead), (("_law_number", 1), r__law_number)]
def l__law_valid : List (Str × D) := []
def e__law_valid : List Str := []
def b__law_valid : Ss :=
    (.cons (.unp [2, 3, 4, 5] (.var 0))
    (.cons (.ife (.bop false (.cmp .eq (.var 1) (.tup .nil)) (.cons (.cmp .ne (.call 0 (.cons (.ix (.var 1) (.int 0)) .nil)) (.blt .len (.cons (.var 1) .nil))) (.cons (.cmp .gt (.blt .len (.cons (.var 1) .nil)) (.var 2)) .nil))) (.cons (.ret (.bl false))
    .nil) .nil)
    (.cons (.ife (.blt .any (.cons (.comp (.bop false (.cmp .lt (.var 6) (.int 128)) (.cons (.cmp .gt (.var 6) (.int 191)) .nil)) (.one 6) (.seq (.sl (.var 1) (.some (.int 1)) .none)) .none [6]) .nil)) (.cons (.ret (.bl false))
    .nil) .nil)
    (.cons (.asg 7 (.call 1 (.cons (.var 1) .nil)))
    (.cons (.ife (.bop false (.cmp .gt (.var 7) (.int 1114111)) (.cons (.bop true (.cmp .le (.int 55296) (.var 7)) (.cons (.cmp .le (.var 7) (.int 57343)) (.cons (.not (.var 4)) .nil))) .nil)) (.cons (.ret (.bl false))
    .nil) .nil)
    (.cons (.ife (.bop false (.cmp .eq (.var 3) (.str "all")) (.cons (.bop true (.cmp .eq (.var 3) (.str "zero")) (.cons (.cmp .eq (.var 1) (.tup (.cons (.int 192) (.cons (.int 128) .nil)))) .nil)) .nil)) (.cons (.ret (.bl true))
    .nil) .nil)
    (.cons (.ret (.cmp .ge (.var 7) (.ix (.tup (.cons (.int 0) (.cons (.int 0) (.cons (.int 128) (.cons (.int 2048) (.cons (.int 65536) .nil)))))) (.blt .len (.cons (.var 1) .nil)))))
    .nil)))))))
def r__law_valid : List D → Out D := runD (sgL c__law_valid l__law_valid) 8 b__law_valid
/-! #### _law_begins -/
def n__law_begins : List Str := ["decoder", "some", "rows", "size", "row", "longer", "byte"]
def p__law_begins : List Str := ["decoder", "some"]
def c__law_begins : List Cal := [(("_law_valid", 2), r__law_valid)]
def l__law_begins : List (Str × D) := []
def e__law_begins : List Str := []
def b__law_begins : Ss :=
    (.cons (.asg 2 (.lst (.cons (.var 1) .nil)))
    (.cons (.forS (.one 3) (.rng2 (.blt .len (.cons (.var 1) .nil)) (.int 5)) (.cons (.ife (.blt .any (.cons (.comp (.call 0 (.cons (.var 0) (.cons (.var 4) .nil))) (.one 4) (.seq (.var 2)) .none [4]) .nil)) (.cons (.ret (.bl true))
    .nil) .nil)
    (.cons (.own 5 .nil)
    (.cons (.forS (.one 6) (.seq (.tup (.cons (.int 128) (.cons (.int 144) (.cons (.int 160) (.cons (.int 191) .nil)))))) (.cons (.ext 5 (.comp (.bin .add (.var 4) (.tup (.cons (.var 6) .nil))) (.one 4) (.seq (.var 2)) .none [4]))
    .nil))
    (.cons (.mov 2 5)
    .nil)))))
    (.cons (.ret (.bl false))
    .nil)))
def r__law_begins : List D → Out D := runD (sgL c__law_begins l__law_begins) 7 b__law_begins
/-! #### _law_pieces -/
def n__law_pieces : List Str := ["decoder", "string", "found", "place", "policy", "rest", "good", "size"]
def p__law_pieces : List Str := ["decoder", "string"]
def c__law_pieces : List Cal := [(("_law_valid", 2), r__law_valid), (("_law_begins", 2), r__law_begins), (("_law_lead", 1), r__law_lead), (("_law_number", 1), r__law_number)]
def l__law_pieces : List (Str × D) := []
def e__law_pieces : List Str := []
def b__law_pieces : Ss :=
    (.cons (.par true [2, 3, 4] (.cons (.int 0) (.cons (.ix (.var 0) (.int 3)) .nil)))
    (.cons (.whl (.cmp .lt (.var 3) (.blt .len (.cons (.var 1) .nil))) (.cons (.asg 5 (.sl (.var 1) (.some (.var 3)) (.some (.bin .add (.var 3) (.int 4)))))
    (.cons (.asg 6 (.comp (.var 7) (.one 7) (.rng2 (.int 1) (.bin .add (.blt .len (.cons (.var 5) .nil)) (.int 1))) (.some (.call 0 (.cons (.var 0) (.cons (.sl (.var 5) .none (.some (.var 7))) .nil)))) [7]))
    (.cons (.asg 7 (.ite (.cmp .ne (.var 6) (.lst .nil)) (.ix (.var 6) (.int 0)) (.int 1)))
    (.cons (.ife (.bop true (.cmp .eq (.var 6) (.lst .nil)) (.cons (.cmp .eq (.var 4) (.str "stop")) .nil)) (.cons (.asg 7 (.bin .sub (.blt .len (.cons (.var 1) .nil)) (.var 3)))
    .nil) .nil)
    (.cons (.whl (.bop true (.cmp .eq (.var 6) (.lst .nil)) (.cons (.cmp .eq (.var 4) (.str "prefix")) (.cons (.cmp .lt (.var 7) (.blt .len (.cons (.var 5) .nil))) (.cons (.call 1 (.cons (.var 0) (.cons (.sl (.var 5) .none (.some (.bin .add (.var 7) (.int 1)))) .nil))) .nil)))) (.cons (.asg 7 (.bin .add (.var 7) (.int 1)))
    .nil))
    (.cons (.whl (.bop true (.cmp .eq (.var 6) (.lst .nil)) (.cons (.cmp .eq (.var 4) (.str "announced")) (.cons (.cmp .lt (.var 7) (.blt .min (.cons (.blt .len (.cons (.var 5) .nil)) (.cons (.call 2 (.cons (.ix (.var 5) (.int 0)) .nil)) .nil)))) .nil))) (.cons (.ife (.bop false (.cmp .lt (.ix (.var 5) (.var 7)) (.int 128)) (.cons (.cmp .gt (.ix (.var 5) (.var 7)) (.int 191)) .nil)) (.cons .brk
    .nil) .nil)
    (.cons (.asg 7 (.bin .add (.var 7) (.int 1)))
    .nil)))
    (.cons (.app 2 (.tup (.cons (.var 3) (.cons (.var 7) (.cons (.ite (.cmp .ne (.var 6) (.lst .nil)) (.call 3 (.cons (.sl (.var 5) .none (.some (.var 7))) .nil)) (.neg (.int 1))) .nil)))))
    (.cons (.asg 3 (.bin .add (.var 3) (.var 7)))
    .nil)))))))))
    (.cons (.ret (.var 2))
    .nil)))
def r__law_pieces : List D → Out D := runD (sgL c__law_pieces l__law_pieces) 8 b__law_pieces
/-! #### _law_items -/
def n__law_items : List Str := ["decoder", "string", "found", "before", "policy", "place", "size", "number"]
def p__law_items : List Str := ["decoder", "string"]
def c__law_items : List Cal := [(("_law_pieces", 2), r__law_pieces)]
def l__law_items : List (Str × D) := []
def e__law_items : List Str := []
def b__law_items : Ss :=
    (.cons (.par true [2, 3, 4] (.cons (.int 0) (.cons (.ix (.var 0) (.int 3)) .nil)))
    (.cons (.forS (.many [5, 6, 7]) (.seq (.call 0 (.cons (.var 0) (.cons (.var 1) .nil)))) (.cons (.ife (.cmp .ge (.var 7) (.int 0)) (.cons (.app 2 (.var 7))
    .nil) (.cons (.ife (.cmp .eq (.var 4) (.str "keep")) (.cons (.app 2 (.bin .sub (.int 0) (.ix (.var 1) (.var 5))))
    .nil) (.cons (.ife (.bop true (.cmp .ne (.var 4) (.str "skip")) (.cons (.bop false (.cmp .ne (.var 4) (.str "run")) (.cons (.cmp .ge (.var 3) (.int 0)) .nil)) .nil)) (.cons (.app 2 (.neg (.int 1)))
    .nil) .nil)
    .nil))
    .nil))
    (.cons (.asg 3 (.var 7))
    .nil)))
    (.cons (.ret (.var 2))
    .nil)))
def r__law_items : List D → Out D := runD (sgL c__law_items l__law_items) 8 b__law_items
/-! #### _law_code -/
def n__law_code : List Str := ["script", "place", "codes"]
def p__law_code : List Str := ["script", "place"]
def c__law_code : List Cal := [(("_law_pick", 3), r__law_pick)]
def l__law_code : List (Str × D) := []
def e__law_code : List Str := []
def b__law_code : Ss :=
    (.cons (.asg 2 (.tup (.cons (.int 0) (.cons (.int 47) (.cons (.int 65) (.cons (.int 127) (.cons (.int 128) (.cons (.int 2047) (.cons (.int 2048) (.cons (.int 8364) (.cons (.int 55295) (.cons (.int 55296) (.cons (.int 57343) (.cons (.int 65533) (.cons (.int 65535) (.cons (.int 65536) (.cons (.int 128512) (.cons (.int 1114111) .nil))))))))))))))))))
    (.cons (.ret (.ix (.var 2) (.call 0 (.cons (.var 0) (.cons (.var 1) (.cons (.int 16) .nil))))))
    .nil))
def r__law_code : List D → Out D := runD (sgL c__law_code l__law_code) 3 b__law_code
/-! #### _law_spelled -/
def n__law_spelled : List Str := ["code", "size", "steps", "found", "i"]
def p__law_spelled : List Str := ["code", "size"]
def c__law_spelled : List Cal := []
def l__law_spelled : List (Str × D) := []
def e__law_spelled : List Str := []
def b__law_spelled : Ss :=
    (.cons (.ife (.cmp .ge (.var 0) (.ix (.tup (.cons (.int 0) (.cons (.int 128) (.cons (.int 2048) (.cons (.int 65536) (.cons (.int 2097152) .nil)))))) (.var 1))) (.cons (.ret .non)
    .nil) .nil)
    (.cons (.asg 2 (.tup (.cons (.int 1) (.cons (.int 64) (.cons (.int 4096) (.cons (.int 262144) .nil))))))
    (.cons (.asg 3 (.tup .nil))
    (.cons (.forS (.one 4) (.rng1 (.bin .sub (.var 1) (.int 1))) (.cons (.asg 3 (.bin .add (.tup (.cons (.bin .add (.int 128) (.bin .mod (.bin .fdiv (.var 0) (.ix (.var 2) (.var 4))) (.int 64))) .nil)) (.var 3)))
    .nil))
    (.cons (.ret (.bin .add (.tup (.cons (.bin .add (.ix (.tup (.cons (.int 0) (.cons (.int 0) (.cons (.int 192) (.cons (.int 224) (.cons (.int 240) .nil)))))) (.var 1)) (.bin .fdiv (.var 0) (.ix (.var 2) (.bin .sub (.var 1) (.int 1))))) .nil)) (.var 3)))
    .nil)))))
def r__law_spelled : List D → Out D := runD (sgL c__law_spelled l__law_spelled) 5 b__law_spelled
/-! #### _law_short -/
def n__law_short : List Str := ["code", "size", "found", "i"]
def p__law_short : List Str := ["code"]
def c__law_short : List Cal := []
def l__law_short : List (Str × D) := []
def e__law_short : List Str := []
def b__law_short : Ss :=
    (.cons (.asg 1 (.ite (.cmp .lt (.var 0) (.int 128)) (.int 1) (.ite (.cmp .lt (.var 0) (.int 2048)) (.int 2) (.ite (.cmp .lt (.var 0) (.int 65536)) (.int 3) (.int 4)))))
    (.cons (.asg 2 (.tup .nil))
    (.cons (.forS (.one 3) (.rng1 (.bin .sub (.var 1) (.int 1))) (.cons (.asg 2 (.bin .add (.tup (.cons (.bin .add (.int 128) (.bin .mod (.var 0) (.int 64))) .nil)) (.var 2)))
    (.cons (.asg 0 (.bin .fdiv (.var 0) (.int 64)))
    .nil)))
    (.cons (.ret (.bin .add (.tup (.cons (.bin .add (.ix (.tup (.cons (.int 0) (.cons (.int 0) (.cons (.int 192) (.cons (.int 224) (.cons (.int 240) .nil)))))) (.var 1)) (.var 0)) .nil)) (.var 2)))
    .nil))))
def r__law_short : List D → Out D := runD (sgL c__law_short l__law_short) 4 b__law_short
/-! #### _law_bytes -/
def n__law_bytes : List Str := ["items", "found", "item", "part"]
def p__law_bytes : List Str := ["items"]
def c__law_bytes : List Cal := [(("_law_short", 1), r__law_short)]
def l__law_bytes : List (Str × D) := []
def e__law_bytes : List Str := []
def b__law_bytes : Ss :=
    (.cons (.asg 1 (.tup .nil))
    (.cons (.forS (.one 2) (.seq (.var 0)) (.cons (.asg 3 (.tup (.cons (.int 239) (.cons (.int 191) (.cons (.int 189) .nil)))))
    (.cons (.ife (.cmp .ne (.var 2) (.neg (.int 1))) (.cons (.asg 3 (.ite (.cmp .lt (.var 2) (.int 0)) (.tup (.cons (.bin .sub (.int 0) (.var 2)) .nil)) (.call 0 (.cons (.var 2) .nil))))
    .nil) .nil)
    (.cons (.asg 1 (.bin .add (.var 1) (.var 3)))
    .nil))))
    (.cons (.ret (.var 1))
    .nil)))
def r__law_bytes : List D → Out D := runD (sgL c__law_bytes l__law_bytes) 4 b__law_bytes
/-! #### _law_shown -/
def n__law_shown : List Str := ["decoder", "lost", "both", "keep", "skip", "one", "other"]
def p__law_shown : List Str := ["decoder"]
def c__law_shown : List Cal := [(("lost_string", 1), r_lost_string), (("collision", 1), r_collision), (("is_string", 1), r_is_string), (("_law_bytes", 1), r__law_bytes), (("_law_items", 2), r__law_items), (("is_lost_string", 2), r_is_lost_string), (("is_collision", 2), r_is_collision)]
def l__law_shown : List (Str × D) := []
def e__law_shown : List Str := []
def b__law_shown : Ss :=
    (.cons (.par false [1, 2] (.cons (.call 0 (.cons (.var 0) .nil)) (.cons (.call 1 (.cons (.var 0) .nil)) .nil)))
    (.cons (.par false [3, 4] (.cons (.cmp .eq (.ix (.var 0) (.int 3)) (.str "keep")) (.cons (.cmp .eq (.ix (.var 0) (.int 3)) (.str "skip")) .nil)))
    (.cons (.ife (.bop false (.not (.call 2 (.cons (.var 1) .nil))) (.cons (.cmp .ne (.blt .len (.cons (.var 1) .nil)) (.ite (.var 3) (.int 2) (.int 1))) (.cons (.cmp .eq (.call 3 (.cons (.call 4 (.cons (.var 0) (.cons (.var 1) .nil))) .nil)) (.var 1)) .nil))) (.cons (.ret (.bl false))
    .nil) .nil)
    (.cons (.ife (.bop false (.cmp .isnot (.call 5 (.cons (.var 0) (.cons (.var 1) .nil))) (.bl true)) (.cons (.cmp .isnot (.call 6 (.cons (.var 0) (.cons (.var 2) .nil))) (.bl true)) .nil)) (.cons (.ret (.bl false))
    .nil) .nil)
    (.cons (.unp [5, 6] (.var 2))
    (.cons (.ife (.bop false (.not (.cmp .lt (.var 5) (.var 6))) (.cons (.cmp .ne (.call 4 (.cons (.var 0) (.cons (.var 5) .nil))) (.call 4 (.cons (.var 0) (.cons (.var 6) .nil)))) .nil)) (.cons (.ret (.bl false))
    .nil) .nil)
    (.cons (.ret (.cmp .eq (.bin .add (.blt .len (.cons (.var 5) .nil)) (.blt .len (.cons (.var 6) .nil))) (.ite (.var 3) (.int 3) (.ite (.var 4) (.int 1) (.int 2)))))
    .nil)))))))
def r__law_shown : List D → Out D := runD (sgL c__law_shown l__law_shown) 7 b__law_shown
/-! #### _law_next -/
def n__law_next : List Str := ["decoder", "now", "kind", "one", "two", "more", "places", "part", "count", "last"]
def p__law_next : List Str := ["decoder", "now", "kind", "one", "two", "more"]
def c__law_next : List Cal := [(("_law_pieces", 2), r__law_pieces), (("_law_short", 1), r__law_short)]
def l__law_next : List (Str × D) := []
def e__law_next : List Str := []
def b__law_next : Ss :=
    (.cons (.asg 6 (.bin .add (.comp (.ix (.var 7) (.int 0)) (.one 7) (.seq (.call 0 (.cons (.var 0) (.cons (.var 1) .nil)))) .none [7]) (.lst (.cons (.blt .len (.cons (.var 1) .nil)) .nil))))
    (.cons (.asg 8 (.bin .sub (.blt .len (.cons (.var 6) .nil)) (.int 1)))
    (.cons (.ife (.cmp .eq (.var 2) (.int 0)) (.cons (.ife (.bop false (.cmp .lt (.var 3) (.int 0)) (.cons (.cmp .gt (.var 3) (.var 8)) .nil)) (.cons (.ret (.str "InvalidPlace"))
    .nil) .nil)
    (.cons (.asg 1 (.bin .add (.bin .add (.sl (.var 1) .none (.some (.ix (.var 6) (.var 3)))) (.var 5)) (.sl (.var 1) (.some (.ix (.var 6) (.var 3))) .none)))
    .nil)) (.cons (.ife (.bop false (.cmp .lt (.var 3) (.int 0)) (.cons (.cmp .ge (.var 3) (.var 8)) .nil)) (.cons (.ret (.str "InvalidPlace"))
    .nil) .nil)
    (.cons (.ife (.bop true (.cmp .eq (.var 2) (.int 1)) (.cons (.bop false (.cmp .lt (.var 4) (.int 1)) (.cons (.cmp .gt (.bin .add (.var 3) (.var 4)) (.var 8)) .nil)) .nil)) (.cons (.ret (.str "InvalidNumber"))
    .nil) .nil)
    (.cons (.ife (.bop true (.cmp .eq (.var 2) (.int 2)) (.cons (.bop false (.cmp .lt (.var 4) (.int 0)) (.cons (.cmp .gt (.var 4) (.int 1114111)) .nil)) .nil)) (.cons (.ret (.str "InvalidCode"))
    .nil) .nil)
    (.cons (.asg 9 (.ix (.var 6) (.bin .add (.var 3) (.ite (.cmp .eq (.var 2) (.int 1)) (.var 4) (.int 1)))))
    (.cons (.asg 5 (.ite (.cmp .eq (.var 2) (.int 2)) (.call 1 (.cons (.var 4) .nil)) (.tup .nil)))
    (.cons (.asg 1 (.bin .add (.bin .add (.sl (.var 1) .none (.some (.ix (.var 6) (.var 3)))) (.var 5)) (.sl (.var 1) (.some (.var 9)) .none)))
    .nil)))))))
    (.cons (.ret (.ite (.cmp .le (.blt .len (.cons (.var 1) .nil)) (.int 60)) (.var 1) (.str "TooLarge")))
    .nil))))
def r__law_next : List D → Out D := runD (sgL c__law_next l__law_next) 10 b__law_next
/-! #### _law_sixteen -/
def n__law_sixteen : List Str := ["number", "least", "signs", "text"]
def p__law_sixteen : List Str := ["number", "least", "signs"]
def c__law_sixteen : List Cal := []
def l__law_sixteen : List (Str × D) := []
def e__law_sixteen : List Str := []
def b__law_sixteen : Ss :=
    (.cons (.asg 3 (.str ""))
    (.cons (.whl (.bop false (.cmp .gt (.var 0) (.int 0)) (.cons (.cmp .lt (.blt .len (.cons (.var 3) .nil)) (.var 1)) .nil)) (.cons (.asg 3 (.bin .add (.ix (.var 2) (.bin .mod (.var 0) (.int 16))) (.var 3)))
    (.cons (.asg 0 (.bin .fdiv (.var 0) (.int 16)))
    .nil)))
    (.cons (.ret (.var 3))
    .nil)))
def r__law_sixteen : List D → Out D := runD (sgL c__law_sixteen l__law_sixteen) 4 b__law_sixteen
/-! #### _law_written -/
def n__law_written : List Str := ["item"]
def p__law_written : List Str := ["item"]
def c__law_written : List Cal := [(("_law_sixteen", 3), r__law_sixteen)]
def l__law_written : List (Str × D) := []
def e__law_written : List Str := []
def b__law_written : Ss :=
    (.cons (.ife (.cmp .eq (.var 0) (.neg (.int 1))) (.cons (.ret (.str "?"))
    .nil) .nil)
    (.cons (.ife (.cmp .lt (.var 0) (.int 0)) (.cons (.ret (.bin .add (.bin .add (.str "<") (.call 0 (.cons (.bin .sub (.int 0) (.var 0)) (.cons (.int 2) (.cons (.str "0123456789ABCDEF") .nil))))) (.str ">")))
    .nil) .nil)
    (.cons (.ret (.bin .add (.str "U+") (.call 0 (.cons (.var 0) (.cons (.int 4) (.cons (.str "0123456789ABCDEF") .nil))))))
    .nil)))
def r__law_written : List D → Out D := runD (sgL c__law_written l__law_written) 1 b__law_written
end LB

/-! ### the law and its own defs as terms (printed by gen2.py) -/
namespace K72
open PySem PySem.Spec PyProof.Rows L2 BB He PG LB
def lns : List Str := ["InvalidDecoder", "InvalidString", "InvalidNumber", "InvalidPlace", "InvalidCode", "InvalidItems", "NotClean", "NothingToUndo", "ParseError", "TooLarge"]
/-! #### law -/
def n_law : List Str := ["script", "string", "items", "j", "kind", "byte", "text", "other", "item", "full", "bad", "value", "wrong"]
def p_law : List Str := ["script"]
def c_law : List Cal := [(("_law_string", 3), r__law_string), (("_law_pick", 3), r__law_pick), (("_law_code", 2), r__law_code), (("_law_sixteen", 3), r__law_sixteen), (("_law_written", 1), r__law_written), (("format_string", 1), r_format_string), (("parse_string", 1), r_parse_string), (("format_items", 1), r_format_items), (("parse_items", 1), r_parse_items)]
def l_law : List (Str × D) := []
def e_law : List Str := []
def b_law : Ss :=
    (.cons (.parL false [1, 2] (.cons (.call 0 (.cons (.var 0) (.cons (.int 0) (.cons (.int 8) .nil)))) .nil))
    (.cons (.forS (.one 3) (.rng1 (.call 1 (.cons (.var 0) (.cons (.int 20) (.cons (.int 7) .nil))))) (.cons (.par false [4, 5] (.cons (.call 1 (.cons (.var 0) (.cons (.bin .add (.int 21) (.var 3)) (.cons (.int 4) .nil)))) (.cons (.bin .add (.int 128) (.call 1 (.cons (.var 0) (.cons (.bin .add (.int 30) (.var 3)) (.cons (.int 128) .nil))))) .nil)))
    (.cons (.app 2 (.ite (.cmp .eq (.var 4) (.int 0)) (.neg (.int 1)) (.ite (.cmp .eq (.var 4) (.int 1)) (.bin .sub (.int 0) (.var 5)) (.call 2 (.cons (.var 0) (.cons (.bin .add (.int 40) (.var 3)) .nil))))))
    .nil)))
    (.frz 2 (.cons (.asg 6 (.mth .join (.str " ") (.comp (.call 3 (.cons (.var 5) (.cons (.int 2) (.cons (.str "0123456789abcdef") .nil)))) (.one 5) (.seq (.var 1)) .none [5])))
    (.cons (.asg 7 (.mth .join (.str " ") (.comp (.call 4 (.cons (.var 8) .nil)) (.one 8) (.seq (.var 2)) .none [8])))
    (.cons (.ife (.bop false (.cmp .ne (.call 5 (.cons (.var 1) .nil)) (.var 6)) (.cons (.cmp .ne (.call 6 (.cons (.var 6) .nil)) (.var 1)) .nil)) (.cons (.ret (.bl false))
    .nil) .nil)
    (.cons (.ife (.bop false (.cmp .ne (.call 7 (.cons (.var 2) .nil)) (.var 7)) (.cons (.cmp .ne (.call 8 (.cons (.var 7) .nil)) (.var 2)) .nil)) (.cons (.ret (.bl false))
    .nil) .nil)
    (.cons (.asg 9 (.bin .mul (.tup (.cons (.int 255) .nil)) (.int 60)))
    (.cons (.ife (.bop false (.cmp .ne (.call 6 (.cons (.call 5 (.cons (.var 9) .nil)) .nil)) (.var 9)) (.cons (.cmp .ne (.call 8 (.cons (.call 7 (.cons (.bin .mul (.lst (.cons (.neg (.int 1)) .nil)) (.int 60)) .nil)) .nil)) (.bin .mul (.lst (.cons (.neg (.int 1)) .nil)) (.int 60))) .nil)) (.cons (.ret (.bl false))
    .nil) .nil)
    (.cons (.own 10 (.cons .non (.cons (.int 5) (.cons (.str " ") (.cons (.bin .add (.var 6) (.str " ")) (.cons (.str " 41") (.cons (.str "4") (.cons (.str "411") (.cons (.str "4g") (.cons (.str "41  42") (.cons (.str "4A") (.cons (.str "41 42,") (.cons (.str "41\n") (.cons (.bin .add (.str "ff") (.bin .mul (.str " 00") (.int 60))) .nil))))))))))))))
    (.frz 10 (.cons (.forS (.one 11) (.seq (.var 10)) (.cons (.allA [(.l (.call 6 (.cons (.var 11) .nil)), "ParseError")])
    .nil))
    (.cons (.own 10 (.cons .non (.cons (.int 5) (.cons (.str " ") (.cons (.bin .add (.var 7) (.str " ")) (.cons (.str "U+41") (.cons (.str "U+00041") (.cons (.str "U+110000") (.cons (.str "u+0041") (.cons (.str "<7F>") (.cons (.str "<100>") (.cons (.str "<c8>") (.cons (.str "??") .nil)))))))))))))
    (.cons (.ext 10 (.lst (.cons (.str "<C8") (.cons (.str "U+") (.cons (.str "? ?  ?") (.cons (.str "-1") (.cons (.str "U+004g") (.cons (.str "<>") (.cons (.bin .add (.str "?") (.bin .mul (.str " ?") (.int 60))) .nil)))))))))
    (.frz 10 (.cons (.forS (.one 11) (.seq (.var 10)) (.cons (.allA [(.l (.call 8 (.cons (.var 11) .nil)), "ParseError")])
    .nil))
    (.cons (.asg 12 (.tup (.cons (.lst (.cons (.neg (.int 2)) .nil)) (.cons (.lst (.cons (.neg (.int 127)) .nil)) (.cons (.lst (.cons (.neg (.int 256)) .nil)) (.cons (.lst (.cons (.int 1114112) .nil)) (.cons (.tup (.cons (.int 65) .nil)) (.cons .non (.cons (.lst (.cons (.bl true) .nil)) (.cons (.lst (.cons (.str "a") .nil)) (.cons (.bin .mul (.lst (.cons (.int 65) .nil)) (.int 61)) .nil)))))))))))
    (.cons (.retA (.l (.call 7 (.cons (.ix (.var 12) (.call 1 (.cons (.var 0) (.cons (.int 52) (.cons (.int 9) .nil))))) .nil))) "InvalidItems")
    .nil))))))))))))))))))
def r_law : List D → Out D := runD (sgT c_law l_law lns) 13 b_law
end K72

/-! ## rules for reading the evaluator by simp -/
namespace BB
open PySem
section
variable (g : Sg)
@[simp] theorem evE_var (i : Nat) (r : Env) : evE g (.var i) r = rd r i := id rfl
@[simp] theorem evE_fld (i : Nat) (f : Str) (r : Env) : evE g (.fld i f) r = (r.getD i .non).fld f := id rfl
@[simp] theorem evE_glob (j : Nat) (r : Env) : evE g (.glob j) r = .ok (g.gl j) := id rfl
@[simp] theorem evE_int (i : Int) (r : Env) : evE g (.int i) r = .ok (.int i) := id rfl
@[simp] theorem evE_str (s : Str) (r : Env) : evE g (.str s) r = .ok (.str s) := id rfl
@[simp] theorem evE_bl (b : Bool) (r : Env) : evE g (.bl b) r = .ok (.bool b) := id rfl
@[simp] theorem evE_non (r : Env) : evE g .non r = .ok .none := id rfl
@[simp] theorem evE_tup (es : Es) (r : Env) : evE g (.tup es) r = (evEs g es r).bind fun ds => .ok (.tuple ds) := id rfl
@[simp] theorem evE_lst (es : Es) (r : Env) : evE g (.lst es) r = (evEs g es r).bind fun ds => .ok (.list ds) := id rfl
@[simp] theorem evE_bin (op : Bop) (a b : E) (r : Env) : evE g (.bin op a b) r = (evE g a r).bind fun x => (evE g b r).bind fun y => binD op x y := id rfl
@[simp] theorem evE_neg (a : E) (r : Env) : evE g (.neg a) r = (evE g a r).bind negD := id rfl
@[simp] theorem evE_not (a : E) (r : Env) : evE g (.not a) r = (evE g a r).bind fun x => (asB x).bind fun b => .ok (.bool (!b)) := id rfl
@[simp] theorem evE_bop (k : Bool) (e : E) (es : Es) (r : Env) : evE g (.bop k e es) r = (evE g e r).bind fun x => evB g k es r x := id rfl
@[simp] theorem evE_cmp (op : Cop) (a b : E) (r : Env) : evE g (.cmp op a b) r = (evE g a r).bind fun x => (evE g b r).bind fun y => cmpD op x y := id rfl
@[simp] theorem evE_chn (op op' : Cop) (a b c : E) (r : Env) : evE g (.chn op op' a b c) r = (evE g a r).bind fun x => (evE g b r).bind fun y => (cmpD op x y).bind fun k => (asB k).bind fun k =>
      if k = true then (evE g c r).bind fun z => cmpD op' y z else .ok (.bool false) := id rfl
@[simp] theorem evE_ite (t a b : E) (r : Env) : evE g (.ite t a b) r = (evE g t r).bind fun x => (asB x).bind fun k => if k = true then evE g a r else evE g b r := id rfl
@[simp] theorem evE_ix (a b : E) (r : Env) : evE g (.ix a b) r = (evE g a r).bind fun x => (evE g b r).bind fun y => ixD x y := id rfl
@[simp] theorem evE_sl (a : E) (lo hi : Eo) (r : Env) : evE g (.sl a lo hi) r = (evE g a r).bind fun x => (evO g lo r).bind fun l => (evO g hi r).bind fun h => slD l h x := id rfl
@[simp] theorem evE_rev (a : E) (r : Env) : evE g (.rev a) r = (evE g a r).bind revD := id rfl
@[simp] theorem evE_call (j : Nat) (es : Es) (r : Env) : evE g (.call j es) r = (evEs g es r).bind (g.fn j) := id rfl
@[simp] theorem evE_blt (f : Blt) (es : Es) (r : Env) : evE g (.blt f es) r = (evEs g es r).bind (bltD f) := id rfl
@[simp] theorem evE_isi (a : E) (T : String) (r : Env) : evE g (.isi a T) r = (evE g a r).bind fun x => if noDict x then .ok (.bool (isiD T x)) else .bad := id rfl
@[simp] theorem evE_mth (m : Mth) (a b : E) (r : Env) : evE g (.mth m a b) r = (evE g a r).bind fun x => (strOf x).bind fun s => (evE g b r).bind fun y => mthD m s y := id rfl
@[simp] theorem evE_idx (a b : E) (r : Env) : evE g (.idx a b) r = (evE g a r).bind fun x => (lsD x).bind fun ds => (evE g b r).bind fun y => idxD ds y := id rfl
@[simp] theorem evE_lrg (a b : E) (r : Env) : evE g (.lrg a b) r = (evE g a r).bind fun x => (evE g b r).bind fun y => (intOf x).bind fun i => (intOf y).bind fun j => (rngOf i j).bind fun ds => .ok (.list ds) := id rfl
@[simp] theorem evE_srtL (a : E) (r : Env) : evE g (.srtL a) r = (evE g a r).bind srtLD := id rfl
@[simp] theorem evE_minL (a : E) (r : Env) : evE g (.minL a) r = (evE g a r).bind minLD := id rfl
@[simp] theorem evE_pick (js : List Nat) (a : E) (es : Es) (r : Env) : evE g (.pick js a es) r = (evE g a r).bind fun x => (pickD js x).bind fun j => (evEs g es r).bind (g.fn j) := id rfl
@[simp] theorem evEs_nil (r : Env) : evEs g .nil r = .ok [] := id rfl
@[simp] theorem evEs_cons (e : E) (es : Es) (r : Env) : evEs g (.cons e es) r = (evE g e r).bind fun d => (evEs g es r).bind fun ds => .ok (d :: ds) := id rfl
@[simp] theorem evB_nil (k : Bool) (r : Env) (x : D) : evB g k .nil r x = .ok x := id rfl
@[simp] theorem evB_cons (k : Bool) (e : E) (es : Es) (r : Env) (x : D) : evB g k (.cons e es) r x = (asB x).bind fun b => if b = k then (evE g e r).bind fun y => evB g k es r y else .ok (.bool b) := id rfl
@[simp] theorem evO_none (r : Env) : evO g .none r = .ok none := id rfl
@[simp] theorem evO_some (e : E) (r : Env) : evO g (.some e) r = (evE g e r).bind partI := id rfl
@[simp] theorem evC_none (r : Env) : evC g .none r = .ok true := id rfl
@[simp] theorem evC_some (e : E) (r : Env) : evC g (.some e) r = (evE g e r).bind asB := id rfl
@[simp] theorem evI_seq (e : E) (r : Env) : evI g (.seq e) r = (evE g e r).bind seqOf := id rfl
@[simp] theorem evI_rng1 (a : E) (r : Env) : evI g (.rng1 a) r = (evE g a r).bind fun x => (intOf x).bind fun i => rngOf 0 i := id rfl
@[simp] theorem evI_rng2 (a b : E) (r : Env) : evI g (.rng2 a b) r = (evE g a r).bind fun x => (evE g b r).bind fun y => (intOf x).bind fun i => (intOf y).bind fun j => rngOf i j := id rfl
@[simp] theorem evI_zip (a b : E) (r : Env) : evI g (.zip a b) r = (evE g a r).bind fun x => (evE g b r).bind fun y => zipOf x y := id rfl
@[simp] theorem evI_enum (a : E) (r : Env) : evI g (.enum a) r = (evE g a r).bind enumOf := id rfl
/-- one step of a comprehension -/
def stepC (elt : E) (tg : Tg) (cnd : Eo) (r : Env) (x : D) : Out (List D) := match setTg tg x r with
      | some r1 => (evC g cnd r1).bind fun k => if k = true then (evE g elt r1).bind fun y => .ok [y] else .ok []
      | none => .bad
def stepC2 (elt : E) (tg : Tg) (cnd : Eo) (tg2 : Tg) (it2 : It) (cnd2 : Eo) (own2 : List Nat) (r : Env) (x : D) : Out (List D) := match setTg tg x r with
      | some r1 => (evC g cnd r1).bind fun k => if k = true then (evI g it2 r1).bind fun zs => compL (stepC g elt tg2 cnd2 (wipeE r1 own2)) zs
        else .ok []
      | none => .bad
@[simp] theorem evE_comp (elt : E) (tg : Tg) (it : It) (cnd : Eo) (own : List Nat) (r : Env) : evE g (.comp elt tg it cnd own) r = (evI g it r).bind fun xs => (compL (stepC g elt tg cnd (wipeE r own)) xs).noexc.bind fun ys => .ok (.list ys) := id rfl
@[simp] theorem evE_comp2 (elt : E) (tg : Tg) (it : It) (cnd : Eo) (tg2 : Tg) (it2 : It) (cnd2 : Eo) (own own2 : List Nat) (r : Env) : evE g (.comp2 elt tg it cnd tg2 it2 cnd2 own own2) r = (evI g it r).bind fun xs => (compL (stepC2 g elt tg cnd tg2 it2 cnd2 own2 (wipeE r own)) xs).noexc.bind fun ys => if ys.length ≤ LIM then .ok (.list ys) else .bad := id rfl
@[simp] theorem evSs_nil (r : Env) : evSs g .nil r = .next r := id rfl
@[simp] theorem evSs_cons (s : S) (ss : Ss) (r : Env) : evSs g (.cons s ss) r = match evS g s r with
    | .next r' => evSs g ss r'
    | f => f := id rfl
@[simp] theorem evSs_frz (i : Nat) (ss : Ss) (r : Env) : evSs g (.frz i ss) r = match r.getD i .non with
    | .own ds => evSs g ss (r.set i (.val (.list ds)))
    | _ => .bad := id rfl
@[simp] theorem evS_asg (i : Nat) (e : E) (r : Env) : evS g (.asg i e) r = (evE g e (hide r)).fl fun d => .next (r.set i (.val d)) := id rfl
@[simp] theorem evS_asgS (i : Nat) (e : E) (r : Env) : evS g (.asgS i e) r = (evE g e r).fl fun d => if scalar d then .next (r.set i (.val d)) else .bad := id rfl
@[simp] theorem evS_own (i : Nat) (es : Es) (r : Env) : evS g (.own i es) r = match evEs g es (hide r) with
    | .ok ds => .next (r.set i (.own ds))
    | .exc c => .exc c
    | .bad => .bad := id rfl
@[simp] theorem evS_mov (i j : Nat) (r : Env) : evS g (.mov i j) r = match r.getD j .non with
    | .own ds => .next ((r.set j (.val (.list ds))).set i (.val (.list ds)))
    | _ => .bad := id rfl
@[simp] theorem evS_unp (is : List Nat) (e : E) (r : Env) : evS g (.unp is e) r = (evE g e (hide r)).fl fun d => match setTg (.many is) d r with
    | some r' => .next r'
    | none => .bad := id rfl
@[simp] theorem evS_par (own : Bool) (is : List Nat) (es : Es) (r : Env) : evS g (.par own is es) r = match evEs g es (hide r) with
    | .ok ds => (match parR own is ds r with
      | some r' => .next r'
      | none => .bad)
    | .exc c => .exc c
    | .bad => .bad := id rfl
@[simp] theorem evS_parL (own : Bool) (is : List Nat) (es : Es) (r : Env) : evS g (.parL own is es) r = match evEs g es (hide r) with
    | .ok ds => (match parRL own is ds r with
      | some r' => .next r'
      | none => .bad)
    | .exc c => .exc c
    | .bad => .bad := id rfl
@[simp] theorem evS_retN (r : Env) : evS g .retN r = .ret .none := id rfl
@[simp] theorem evS_pass (r : Env) : evS g .pass r = .next r := id rfl
@[simp] theorem evS_app (i : Nat) (e : E) (r : Env) : evS g (.app i e) r = match r.getD i .non with
    | .own ds => (evE g e (hide r)).fl fun d => if ds.length < LIM then .next (r.set i (.own (ds ++ [d]))) else .bad
    | _ => .bad := id rfl
@[simp] theorem evS_appS (i : Nat) (e : E) (r : Env) : evS g (.appS i e) r = match r.getD i .non with
    | .own ds => (evE g e r).fl fun d => if scalar d && decide (ds.length < LIM) then .next (r.set i (.own (ds ++ [d]))) else .bad
    | _ => .bad := id rfl
@[simp] theorem evS_ext (i : Nat) (e : E) (r : Env) : evS g (.ext i e) r = match r.getD i .non with
    | .own ds => (evE g e (hide r)).fl fun d => (match d with
      | .list xs => if ds.length + xs.length ≤ LIM then .next (r.set i (.own (ds ++ xs))) else .bad
      | _ => .bad)
    | _ => .bad := id rfl
@[simp] theorem evS_cat (i : Nat) (e : E) (r : Env) : evS g (.cat i e) r = match r.getD i .non with
    | .own ds => (evE g e (hide r)).fl fun d => (match d with
      | .list xs => if ds.length + xs.length ≤ LIM then .next (r.set i (.own (ds ++ xs))) else .bad
      | _ => .bad)
    | _ => .bad := id rfl
@[simp] theorem evS_ownT (i : Nat) (e : E) (n : Nat) (r : Env) : evS g (.ownT i e n) r = (evE g e (hide r)).fl fun d => (match d with
    | .list xs => .next (r.set i (.own (xs.take n)))
    | _ => .bad) := id rfl
@[simp] theorem evS_parO (i : Nat) (is : List Nat) (es0 es : Es) (r : Env) : evS g (.parO i is es0 es) r = match evEs g es0 (hide r) with
    | .ok ds0 => (match evEs g es (hide r) with
      | .ok ds => (match setMany is ds (r.set i (.own ds0)) with
        | some r' => .next r'
        | none => .bad)
      | .exc c => .exc c
      | .bad => .bad)
    | .exc c => .exc c
    | .bad => .bad := id rfl
@[simp] theorem evS_ife (t : E) (a b : Ss) (r : Env) : evS g (.ife t a b) r = (evE g t r).fl fun d => (match d with
    | .bool true => evSs g a r
    | .bool false => evSs g b r
    | _ => .bad) := id rfl
def stepFo (tg : Tg) (b : Ss) (x : D) (r : Env) : Fl := match setTg tg x r with
      | some r' => evSs g b r'
      | none => .bad
@[simp] theorem evS_forS (tg : Tg) (it : It) (b : Ss) (r : Env) : evS g (.forS tg it b) r = match evI g it (hide r) with
    | .ok xs => forL (stepFo g tg b) xs r
    | .exc c => .exc c
    | .bad => .bad := id rfl
@[simp] theorem evS_whl (t : E) (b : Ss) (r : Env) : evS g (.whl t b) r = whileL (evE g t) (evSs g b) FUEL r := id rfl
@[simp] theorem evS_ret (e : E) (r : Env) : evS g (.ret e) r = (evE g e r).fl .ret := id rfl
@[simp] theorem evS_exc (c : Str) (r : Env) : evS g (.exc c) r = .exc c := id rfl
@[simp] theorem evS_brk (r : Env) : evS g .brk r = .brk r := id rfl
@[simp] theorem evS_tryx (b : Ss) (h : Hd) (r : Env) : evS g (.tryx b h) r = tryF h (evSs g b r) := id rfl
@[simp] theorem evS_exp (e : E) (r : Env) : evS g (.exp e) r = (evE g e r).fl fun _ => .next r := id rfl
end
/-- how a body's end reads as a result -/
def Fl.out : Fl → Out D
  | .ret d => .ok d
  | .next _ => .ok .none
  | .exc c => .exc c
  | _ => .bad
theorem runD_eq (g : Sg) (n : Nat) (b : Ss) (as : List D) : runD g n b as = (evSs g b (as.map .val ++ List.replicate (n - as.length) .non)).out := by
  unfold runD Fl.out
  cases evSs g b (as.map .val ++ List.replicate (n - as.length) .non) <;> rfl
@[simp] theorem out_ret (d : D) : (Fl.ret d).out = .ok d := id rfl
@[simp] theorem out_next (r : Env) : (Fl.next r).out = .ok .none := id rfl
@[simp] theorem out_exc (c : Str) : (Fl.exc c).out = .exc c := id rfl
@[simp] theorem get_val (d : D) : (Slot.val d).get = .ok d := id rfl
@[simp] theorem get_own (d : List D) : (Slot.own d).get = .ok (.list d) := id rfl
@[simp] theorem rd_zero (s : Slot) (r : Env) : rd (s :: r) 0 = s.get := id rfl
@[simp] theorem rd_succ (s : Slot) (r : Env) (n : Nat) : rd (s :: r) (n + 1) = rd r n := id rfl
@[simp] theorem hide_nil : hide [] = [] := id rfl
@[simp] theorem hide_cons (s : Slot) (r : Env) : hide (s :: r) = s.hide :: hide r := id rfl
@[simp] theorem hide_val (d : D) : (Slot.val d).hide = .val d := id rfl
@[simp] theorem hide_own (d : List D) : (Slot.own d).hide = .non := id rfl
@[simp] theorem hide_non : (Slot.non).hide = .non := id rfl
@[simp] theorem setTg_one (i : Nat) (d : D) (r : Env) : setTg (.one i) d r = some (r.set i (.val d)) := id rfl
@[simp] theorem setTg_many (is : List Nat) (ds : List D) (r : Env) : setTg (.many is) (.tuple ds) r = setMany is ds r := id rfl
@[simp] theorem setMany_nil (r : Env) : setMany [] [] r = some r := id rfl
@[simp] theorem setMany_cons (i : Nat) (is : List Nat) (d : D) (ds : List D) (r : Env) : setMany (i :: is) (d :: ds) r = setMany is ds (r.set i (.val d)) := id rfl
@[simp] theorem parR_f (is : List Nat) (ds : List D) (r : Env) : parR false is ds r = setMany is ds r := id rfl
@[simp] theorem parR_t (i : Nat) (is : List Nat) (ds : List D) (r : Env) : parR true (i :: is) ds r = setMany is ds (r.set i (.own [])) := id rfl
@[simp] theorem wipe_nil (r : Env) : wipeE r [] = r := id rfl
@[simp] theorem wipe_cons (r : Env) (v : Nat) (vs : List Nat) : wipeE r (v :: vs) = (wipeE r vs).set v .non := id rfl
@[simp] theorem asB_bool (b : Bool) : asB (.bool b) = .ok b := id rfl
@[simp] theorem partI_int (i : Int) : partI (.int i) = .ok (some i) := id rfl
@[simp] theorem intOf_int (i : Int) : intOf (.int i) = .ok i := id rfl
@[simp] theorem seqOf_list (xs : List D) : seqOf (.list xs) = .ok xs := id rfl
@[simp] theorem strOf_str (s : Str) : strOf (.str s) = .ok s := id rfl
@[simp] theorem seqOf_tuple (xs : List D) : seqOf (.tuple xs) = .ok xs := id rfl
@[simp] theorem binD_add : binD .add = addD := id rfl
@[simp] theorem binD_sub : binD .sub = subD := id rfl
@[simp] theorem binD_mul : binD .mul = mulD := id rfl
@[simp] theorem binD_fdiv : binD .fdiv = fdivD := id rfl
@[simp] theorem binD_mod : binD .mod = modD := id rfl
@[simp] theorem binD_pow : binD .pow = powD := id rfl
@[simp] theorem cmpD_eq : cmpD .eq = eqD := id rfl
@[simp] theorem cmpD_ne : cmpD .ne = neD := id rfl
@[simp] theorem cmpD_lt (i j : Int) : cmpD .lt (.int i) (.int j) = .ok (.bool (decide (i < j))) := id rfl
@[simp] theorem cmpD_le (i j : Int) : cmpD .le (.int i) (.int j) = .ok (.bool (decide (i ≤ j))) := id rfl
@[simp] theorem cmpD_gt (i j : Int) : cmpD .gt (.int i) (.int j) = .ok (.bool (decide (j < i))) := id rfl
@[simp] theorem cmpD_ge (i j : Int) : cmpD .ge (.int i) (.int j) = .ok (.bool (decide (j ≤ i))) := id rfl
@[simp] theorem cmpD_in : cmpD .isin = inD false := id rfl
@[simp] theorem cmpD_nin : cmpD .notin = inD true := id rfl
@[simp] theorem cmpD_is : cmpD .is = isD false := id rfl
@[simp] theorem cmpD_isn : cmpD .isnot = isD true := id rfl
@[simp] theorem add_int (i j : Int) : addD (.int i) (.int j) = .ok (.int (i + j)) := id rfl
theorem add_tup {xs ys : List D} (h : xs.length + ys.length ≤ 1000000) : addD (.tuple xs) (.tuple ys) = .ok (.tuple (xs ++ ys)) := by simp only [addD]; rw [if_pos h]
theorem add_list {xs ys : List D} (h : xs.length + ys.length ≤ 1000000) : addD (.list xs) (.list ys) = .ok (.list (xs ++ ys)) := by simp only [addD]; rw [if_pos h]
@[simp] theorem sub_int (i j : Int) : subD (.int i) (.int j) = .ok (.int (i - j)) := id rfl
@[simp] theorem mul_lit (n : Nat) (j : Int) (h : small (OfNat.ofNat n) = true) : mulD (.int (OfNat.ofNat n)) (.int j) = .ok (.int (OfNat.ofNat n * j)) := by simp [mulD, h]
theorem mul_int {i j : Int} (h : small i = true ∨ small j = true) : mulD (.int i) (.int j) = .ok (.int (i * j)) := by
  rcases h with h | h <;> simp [mulD, h]
@[simp] theorem mul_bool (i : Int) (b : Bool) : mulD (.int i) (.bool b) = .ok (.int (if b then i else 0)) := id rfl
theorem fdiv_int {i j : Int} (h : 0 < j) (h2 : j < 2 ^ 64) : fdivD (.int i) (.int j) = .ok (.int (i / j)) := by simp only [fdivD]; rw [if_pos ⟨h, h2⟩]
theorem mod_int {i j : Int} (h : 0 < j) : modD (.int i) (.int j) = .ok (.int (i % j)) := by simp only [modD]; rw [if_pos h]
@[simp] theorem len_list (xs : List D) : bltD .len [.list xs] = .ok (.int xs.length) := id rfl
@[simp] theorem len_tuple (xs : List D) : bltD .len [.tuple xs] = .ok (.int xs.length) := id rfl
@[simp] theorem list_list (xs : List D) : bltD .list [.list xs] = .ok (.list xs) := id rfl
@[simp] theorem list_tuple (xs : List D) : bltD .list [.tuple xs] = .ok (.list xs) := id rfl
@[simp] theorem tuple_list (xs : List D) : bltD .tuple [.list xs] = .ok (.tuple xs) := id rfl
@[simp] theorem tuple_tuple (xs : List D) : bltD .tuple [.tuple xs] = .ok (.tuple xs) := id rfl
@[simp] theorem max_int (i j : Int) : bltD .max [.int i, .int j] = .ok (.int (if j > i then j else i)) := id rfl
@[simp] theorem min_int (i j : Int) : bltD .min [.int i, .int j] = .ok (.int (if j < i then j else i)) := id rfl
/-- integers as data -/
def intL (ns : List Int) : List D := ns.map .int
def bools (bs : List Bool) : List D := bs.map .bool
@[simp] theorem intL_nil : intL [] = [] := id rfl
@[simp] theorem intL_cons (n : Int) (ns : List Int) : intL (n :: ns) = .int n :: intL ns := id rfl
@[simp] theorem intL_length (ns : List Int) : (intL ns).length = ns.length := by simp [intL]
@[simp] theorem asInts_intL (ns : List Int) : asInts (intL ns) = some ns := by
  induction ns with
  | nil => rfl
  | cons n r ih => simp [asInts, ih]
@[simp] theorem asBools_bools (bs : List Bool) : asBools (bools bs) = some bs := by
  induction bs with
  | nil => rfl
  | cons n r ih => rw [show bools (n :: r) = .bool n :: bools r from rfl, asBools, ih]; rfl
@[simp] theorem all_bools (bs : List Bool) : bltD .all [.list (bools bs)] = .ok (.bool (bs.all id)) := by simp [bltD]
@[simp] theorem any_bools (bs : List Bool) : bltD .any [.list (bools bs)] = .ok (.bool (bs.any id)) := by simp [bltD]
@[simp] theorem sum_intL (ns : List Int) : bltD .sum [.list (intL ns)] = .ok (.int ns.sum) := by simp [bltD]
/-! ### one statement after the other -/
section
variable {g : Sg} {s : S} {ss : Ss} {r r' : Env}
theorem ss_next (h : evS g s r = .next r') : evSs g (.cons s ss) r = evSs g ss r' := by rw [evSs_cons, h]
theorem ss_ret {d : D} (h : evS g s r = .ret d) : evSs g (.cons s ss) r = .ret d := by rw [evSs_cons, h]
theorem ss_exc {c : Str} (h : evS g s r = .exc c) : evSs g (.cons s ss) r = .exc c := by rw [evSs_cons, h]
theorem ss_brk (h : evS g s r = .brk r') : evSs g (.cons s ss) r = .brk r' := by rw [evSs_cons, h]
theorem asg_ok {i : Nat} {e : E} {d : D} (h : evE g e (hide r) = .ok d) : evS g (.asg i e) r = .next (r.set i (.val d)) := by rw [evS_asg, h]; rfl
theorem par_ok {is : List Nat} {es : Es} {ds : List D} (h : evEs g es (hide r) = .ok ds) (h2 : setMany is ds r = some r') : evS g (.par false is es) r = .next r' := by rw [evS_par, h]; simp [h2]
theorem unp_ok {is : List Nat} {e : E} {ds : List D} (h : evE g e (hide r) = .ok (.tuple ds)) (h2 : setMany is ds r = some r') : evS g (.unp is e) r = .next r' := by rw [evS_unp, h]; simp [h2]
theorem ife_t {t : E} {a b : Ss} (h : evE g t r = .ok (.bool true)) : evS g (.ife t a b) r = evSs g a r := by rw [evS_ife, h]; rfl
theorem ife_f {t : E} {a b : Ss} (h : evE g t r = .ok (.bool false)) : evS g (.ife t a b) r = evSs g b r := by rw [evS_ife, h]; rfl
theorem ret_ok {e : E} {d : D} (h : evE g e r = .ok d) : evS g (.ret e) r = .ret d := by rw [evS_ret, h]; rfl
theorem exp_ok {e : E} {d : D} (h : evE g e r = .ok d) : evS g (.exp e) r = .next r := by rw [evS_exp, h]; rfl
theorem for_ok {tg : Tg} {it : It} {b : Ss} {xs : List D} (h : evI g it (hide r) = .ok xs) : evS g (.forS tg it b) r = forL (stepFo g tg b) xs r := by rw [evS_forS, h]
end
/-! ### loops -/
theorem compL_ok {step : D → Out (List D)} {f : D → List D} : ∀ {xs : List D}, (∀ x ∈ xs, step x = .ok (f x)) → compL step xs = .ok (xs.flatMap f)
  | [], _ => rfl
  | x :: xs, h => by
    rw [compL, h x (by simp), Out.bind_ok, compL_ok (fun y hy => h y (by simp [hy])), Out.bind_ok]; rfl
theorem compL_map {α : Type} {step : D → Out (List D)} {q : α → D} {f : α → D} : ∀ {xs : List α}, (∀ x ∈ xs, step (q x) = .ok [f x]) → compL step (xs.map q) = .ok (xs.map f)
  | [], _ => rfl
  | x :: xs, h => by
    rw [List.map_cons, compL, h x (by simp), Out.bind_ok, compL_map (fun y hy => h y (by simp [hy])), Out.bind_ok]; rfl
theorem compL_filter {α : Type} {step : D → Out (List D)} {q : α → D} {p : α → Bool} {f : α → D} : ∀ {xs : List α}, (∀ x ∈ xs, step (q x) = .ok (if p x then [f x] else [])) → compL step (xs.map q) = .ok ((xs.filter p).map f)
  | [], _ => rfl
  | x :: xs, h => by
    rw [List.map_cons, compL, h x (by simp), Out.bind_ok, compL_filter (fun y hy => h y (by simp [hy])), Out.bind_ok]
    by_cases e : p x <;> simp [e]
theorem forL_fold {α σ : Type} {step : D → Env → Fl} {q : α → D} {env : σ → Env} {nx : σ → α → σ} : ∀ {xs : List α} {s : σ}, (∀ x ∈ xs, ∀ s, step (q x) (env s) = .next (env (nx s x))) → forL step (xs.map q) (env s) = .next (env (xs.foldl nx s))
  | [], _, _ => rfl
  | x :: xs, s, h => by
    rw [List.map_cons, forL, h x (by simp)]
    exact forL_fold (fun y hy => h y (by simp [hy]))
theorem forL_inv {α σ : Type} {step : D → Env → Fl} {q : α → D} {nx : σ → α → σ} (I : σ → Env → Prop) : ∀ {xs : List α} {s : σ} {r : Env}, (∀ x ∈ xs, ∀ s r, I s r → ∃ r', step (q x) r = .next r' ∧ I (nx s x) r') → I s r → ∃ r', forL step (xs.map q) r = .next r' ∧ I (xs.foldl nx s) r'
  | [], s, r, _, hi => ⟨r, rfl, hi⟩
  | x :: xs, s, r, h, hi => by
    obtain ⟨r1, h1, h2⟩ := h x (by simp) s r hi
    rw [List.map_cons, forL, h1]
    exact forL_inv I (fun y hy => h y (by simp [hy])) h2
theorem for_inv {α σ : Type} {g : Sg} {tg : Tg} {it : It} {b : Ss} {xs : List α} {q : α → D} {nx : σ → α → σ} (I : σ → Env → Prop) {s : σ} {r : Env} (hi : evI g it (hide r) = .ok (xs.map q)) (h : ∀ x ∈ xs, ∀ s r, I s r → ∃ r', stepFo g tg b (q x) r = .next r' ∧ I (nx s x) r') (h0 : I s r) : ∃ r', evS g (.forS tg it b) r = .next r' ∧ I (xs.foldl nx s) r' := by
  rw [for_ok hi]; exact forL_inv I h h0
theorem comp_map {α : Type} {g : Sg} {elt : E} {tg : Tg} {it : It} {cnd : Eo} {own : List Nat} {r : Env} {xs : List α} {q f : α → D} (hi : evI g it r = .ok (xs.map q)) (h : ∀ x ∈ xs, stepC g elt tg cnd (wipeE r own) (q x) = .ok [f x]) : evE g (.comp elt tg it cnd own) r = .ok (.list (xs.map f)) := by
  rw [evE_comp, hi, Out.bind_ok, compL_map h]; rfl
theorem comp_filter {α : Type} {g : Sg} {elt : E} {tg : Tg} {it : It} {cnd : Eo} {own : List Nat} {r : Env} {xs : List α} {q f : α → D} {p : α → Bool} (hi : evI g it r = .ok (xs.map q)) (h : ∀ x ∈ xs, stepC g elt tg cnd (wipeE r own) (q x) = .ok (if p x then [f x] else [])) : evE g (.comp elt tg it cnd own) r = .ok (.list ((xs.filter p).map f)) := by
  rw [evE_comp, hi, Out.bind_ok, compL_filter h]; rfl
theorem for_fold {α σ : Type} {g : Sg} {tg : Tg} {it : It} {b : Ss} {xs : List α} {q : α → D} (env : σ → Env) (nx : σ → α → σ) (s : σ) (hi : evI g it (hide (env s)) = .ok (xs.map q)) (h : ∀ x ∈ xs, ∀ s, stepFo g tg b (q x) (env s) = .next (env (nx s x))) : evS g (.forS tg it b) (env s) = .next (env (xs.foldl nx s)) := by
  rw [for_ok hi]; exact forL_fold h
/-- a loop that is unrolled -/
@[simp] theorem forL_nil (step : D → Env → Fl) (r : Env) : forL step [] r = .next r := id rfl
theorem forL_cons (step : D → Env → Fl) (x : D) (xs : List D) (r : Env) : forL step (x :: xs) r = match step x r with
    | .next r' => forL step xs r'
    | .brk r' => .next r'
    | f => f := rfl
/-- a while loop with a measure: `env` the state, `go` the test -/
theorem whileL_run {σ : Type} {test : Env → Out D} {body : Env → Fl} {env : σ → Env} {go : σ → Bool} {nx : σ → σ} {m : σ → Nat} (I : σ → Prop)
    (ht : ∀ s, I s → test (env s) = .ok (.bool (go s))) (hb : ∀ s, I s → go s = true → body (env s) = .next (env (nx s)) ∧ I (nx s) ∧ m (nx s) < m s) :
    ∀ (n : Nat) (s : σ), I s → m s < n → ∃ t, whileL test body n (env s) = .next (env t) ∧ go t = false ∧ I t
  | 0, s, _, h => by omega
  | n + 1, s, hi, h => by
    rw [whileL, ht s hi]
    cases e : go s with
    | false => exact ⟨s, rfl, e, hi⟩
    | true =>
      obtain ⟨h1, h2, h3⟩ := hb s hi e
      simp only [h1]
      exact whileL_run I ht hb n (nx s) h2 (by omega)
end BB

/-! ## plain data: comparing, places, ranges -/
namespace BB
open PySem
theorem canLayAll_iff : ∀ {ds : List D}, PyData.canLayAll0 ds = true ↔ ∀ d ∈ ds, PyData.canLay0 d = true
  | [] => by simp [PyData.canLayAll0]
  | d :: ds => by simp [PyData.canLayAll0, canLayAll_iff (ds := ds)]
theorem depthAll_le {n : Nat} : ∀ {ds : List D}, PyData.depthAll ds ≤ n ↔ ∀ d ∈ ds, PyData.depth d ≤ n
  | [] => by simp [PyData.depthAll]
  | d :: ds => by simp [PyData.depthAll, Nat.max_le, depthAll_le (ds := ds)]
/-- data without bool, dict and of small depth: compared as equal exactly when equal -/
def fit (n : Nat) : D → Prop
  | .none => True
  | .int _ => True
  | .str x => PyData.strOk x = true
  | .list xs => match n with
    | 0 => False
    | n + 1 => ∀ x ∈ xs, fit n x
  | .tuple xs => match n with
    | 0 => False
    | n + 1 => ∀ x ∈ xs, fit n x
  | _ => False
@[simp] theorem fit_none (n : Nat) : fit n .none := by cases n <;> simp [fit]
@[simp] theorem fit_int (n : Nat) (i : Int) : fit n (.int i) := by cases n <;> simp [fit]
@[simp] theorem fit_list (n : Nat) (xs : List D) : fit (n + 1) (.list xs) ↔ ∀ x ∈ xs, fit n x := by simp [fit]
@[simp] theorem fit_tuple (n : Nat) (xs : List D) : fit (n + 1) (.tuple xs) ↔ ∀ x ∈ xs, fit n x := by simp [fit]
theorem fit_canLay : ∀ (n : Nat) (d : D), fit n d → PyData.canLay0 d = true ∧ PyData.depth d ≤ n
  | n, .none, _ => by simp [PyData.canLay0, PyData.depth]
  | n, .int _, _ => by simp [PyData.canLay0, PyData.depth]
  | n, .str x, h => by cases n <;> simp_all [PyData.canLay0, PyData.depth, fit]
  | n, .bool _, h => by cases n <;> simp [fit] at h
  | n, .dict _, h => by cases n <;> simp [fit] at h
  | 0, .list _, h => by simp [fit] at h
  | 0, .tuple _, h => by simp [fit] at h
  | n + 1, .list xs, h => by
    have h := (fit_list n xs).mp h
    simp only [PyData.canLay0, PyData.depth, Nat.add_le_add_iff_right]
    exact ⟨canLayAll_iff.mpr fun d hd => (fit_canLay n d (h d hd)).1, depthAll_le.mpr fun d hd => (fit_canLay n d (h d hd)).2⟩
  | n + 1, .tuple xs, h => by
    have h := (fit_tuple n xs).mp h
    simp only [PyData.canLay0, PyData.depth, Nat.add_le_add_iff_right]
    exact ⟨canLayAll_iff.mpr fun d hd => (fit_canLay n d (h d hd)).1, depthAll_le.mpr fun d hd => (fit_canLay n d (h d hd)).2⟩
theorem shaped_fit {n : Nat} {d : D} (h : fit n d) (hn : n ≤ 64) : SeqAt.shaped d = true := by
  have := fit_canLay n d h
  simp [SeqAt.shaped, this.1]; omega
theorem eqvAll_fit {n : Nat} (ih : ∀ d e : D, fit n d → fit n e → (PyData.eqv d e = true ↔ d = e)) : ∀ xs ys : List D, (∀ x ∈ xs, fit n x) → (∀ y ∈ ys, fit n y) → (PyData.eqvAll xs ys = true ↔ xs = ys)
  | [], [], _, _ => by simp [PyData.eqvAll]
  | [], _ :: _, _, _ => by simp [PyData.eqvAll]
  | _ :: _, [], _, _ => by simp [PyData.eqvAll]
  | x :: xs, y :: ys, h, h' => by
    simp only [PyData.eqvAll, Bool.and_eq_true, List.cons.injEq]
    rw [ih x y (h x (by simp)) (h' y (by simp)), eqvAll_fit ih xs ys (fun z hz => h z (by simp [hz])) (fun z hz => h' z (by simp [hz]))]
theorem eqv_fit : ∀ (n : Nat) (d e : D), fit n d → fit n e → (PyData.eqv d e = true ↔ d = e)
  | 0, d, e, h, h' => by cases d <;> cases e <;> simp_all [fit, PyData.eqv]
  | n + 1, d, e, h, h' => by
    cases d <;> cases e <;> simp_all [fit, PyData.eqv]
    · exact eqvAll_fit (eqv_fit n) _ _ h h'
    · exact eqvAll_fit (eqv_fit n) _ _ h h'
theorem eq_fit {n : Nat} {d e : D} (h : fit n d) (h' : fit n e) (hn : n ≤ 64) : ∃ b : Bool, eqD d e = .ok (.bool b) ∧ neD d e = .ok (.bool (!b)) ∧ (b = true ↔ d = e) := by
  refine ⟨PyData.eqv d e, ?_, ?_, eqv_fit n d e h h'⟩
  · unfold eqD; rw [if_pos]; unfold cmpb; split
    · rfl
    · rw [shaped_fit h hn, shaped_fit h' hn]; rfl
  · unfold neD; rw [if_pos]; unfold cmpb; split
    · rfl
    · rw [shaped_fit h hn, shaped_fit h' hn]; rfl
theorem fit_intL {n : Nat} (ns : List Int) : ∀ x ∈ intL ns, fit n x := by
  intro x hx; obtain ⟨i, _, rfl⟩ := List.mem_map.mp hx; simp
theorem intL_inj {a b : List Int} : intL a = intL b ↔ a = b := by
  constructor
  · intro h
    induction a generalizing b with
    | nil => cases b with
      | nil => rfl
      | cons => simp at h
    | cons x a ih => cases b with
      | nil => simp at h
      | cons y b => simp only [intL_cons, List.cons.injEq, PyData.int.injEq] at h; rw [h.1, ih h.2]
  · intro h; rw [h]
theorem eq_ok {n : Nat} {d e : D} {p : Prop} [Decidable p] (h : fit n d) (h' : fit n e) (hn : n ≤ 64) (hp : d = e ↔ p) : eqD d e = .ok (.bool (decide p)) ∧ neD d e = .ok (.bool (!decide p)) := by
  obtain ⟨b, h1, h2, h3⟩ := eq_fit h h' hn
  have : b = decide p := by
    cases b <;> simp_all
  rw [h1, h2, this]; exact ⟨rfl, rfl⟩
@[simp] theorem eq_intS (i j : Int) : eqD (.int i) (.int j) = .ok (.bool (decide (i = j))) := (eq_ok (n := 0) (by simp) (by simp) (by decide) (by simp)).1
@[simp] theorem ne_intS (i j : Int) : neD (.int i) (.int j) = .ok (.bool (!decide (i = j))) := (eq_ok (n := 0) (by simp) (by simp) (by decide) (by simp)).2
theorem str_beq (x y : Str) : (x == y) = decide (x = y) := by
  by_cases h : x = y <;> simp [h]
@[simp] theorem eq_strS (x y : Str) : eqD (.str x) (.str y) = .ok (.bool (decide (x = y))) := by simp [eqD, cmpb, PyData.eqv, str_beq]
@[simp] theorem ne_strS (x y : Str) : neD (.str x) (.str y) = .ok (.bool (!decide (x = y))) := by simp [neD, cmpb, PyData.eqv, str_beq]
@[simp] theorem eq_listI (a b : List Int) : eqD (.list (intL a)) (.list (intL b)) = .ok (.bool (decide (a = b))) := (eq_ok (n := 1) (by simp; exact fit_intL a) (by simp; exact fit_intL b) (by decide) (by simp [intL_inj])).1
@[simp] theorem ne_listI (a b : List Int) : neD (.list (intL a)) (.list (intL b)) = .ok (.bool (!decide (a = b))) := (eq_ok (n := 1) (by simp; exact fit_intL a) (by simp; exact fit_intL b) (by decide) (by simp [intL_inj])).2
@[simp] theorem eq_tupI (a b : List Int) : eqD (.tuple (intL a)) (.tuple (intL b)) = .ok (.bool (decide (a = b))) := (eq_ok (n := 1) (by simp; exact fit_intL a) (by simp; exact fit_intL b) (by decide) (by simp [intL_inj])).1
@[simp] theorem ne_tupI (a b : List Int) : neD (.tuple (intL a)) (.tuple (intL b)) = .ok (.bool (!decide (a = b))) := (eq_ok (n := 1) (by simp; exact fit_intL a) (by simp; exact fit_intL b) (by decide) (by simp [intL_inj])).2
@[simp] theorem ne_listI0 (a : List Int) : neD (.list (intL a)) (.list []) = .ok (.bool (!decide (a = []))) := ne_listI a []
@[simp] theorem eq_tupI0 (a : List Int) : eqD (.tuple (intL a)) (.tuple []) = .ok (.bool (decide (a = []))) := eq_tupI a []
@[simp] theorem ne_tupI0 (a : List Int) : neD (.tuple (intL a)) (.tuple []) = .ok (.bool (!decide (a = []))) := ne_tupI a []
@[simp] theorem eq_listI0 (a : List Int) : eqD (.list (intL a)) (.list []) = .ok (.bool (decide (a = []))) := eq_listI a []
/-! ### places -/
theorem atI_nat {α : Type} (xs : List α) (i : Nat) (h : i < xs.length) : L2.atI xs (i : Int) = some xs[i] := by
  unfold L2.atI L2.ixN
  rw [if_pos (by omega), if_pos (by omega)]
  simp [List.getElem?_eq_getElem h]
theorem atI_pos {α : Type} {xs : List α} {i : Int} (h0 : 0 ≤ i) (h : i < xs.length) : L2.atI xs i = some (xs[i.toNat]'(by omega)) := by
  obtain ⟨n, rfl⟩ := Int.eq_ofNat_of_zero_le h0
  exact atI_nat xs n (by omega)
theorem ix_listI {ns : List Int} {i : Int} (h0 : 0 ≤ i) (h : i < ns.length) : ixD (.list (intL ns)) (.int i) = .ok (.int (ns[i.toNat]'(by omega))) := by
  simp only [ixD]
  rw [atI_pos h0 (by simpa using h)]
  simp [intL]
theorem ix_tupI {ns : List Int} {i : Int} (h0 : 0 ≤ i) (h : i < ns.length) : ixD (.tuple (intL ns)) (.int i) = .ok (.int (ns[i.toNat]'(by omega))) := by
  simp only [ixD]
  rw [atI_pos h0 (by simpa using h)]
  simp [intL]
theorem ix_tup {ds : List D} {i : Int} (h0 : 0 ≤ i) (h : i < ds.length) : ixD (.tuple ds) (.int i) = .ok (ds[i.toNat]'(by omega)) := by
  simp only [ixD]
  rw [atI_pos h0 h]
theorem ix_list {ds : List D} {i : Int} (h0 : 0 ≤ i) (h : i < ds.length) : ixD (.list ds) (.int i) = .ok (ds[i.toNat]'(by omega)) := by
  simp only [ixD]
  rw [atI_pos h0 h]
/-! ### slices of plain lists -/
theorem cut_from (xs : List D) (i : Nat) : cutD xs (some (i : Int)) none = xs.drop i := by
  unfold cutD
  rw [HT.sIx_nat, HT.sIx_none]
  by_cases h : i ≤ xs.length
  · rw [Nat.min_eq_left h, List.take_of_length_le (by simp)]
  · rw [Nat.min_eq_right (by omega), List.drop_eq_nil_of_le (Nat.le_refl _), List.drop_eq_nil_of_le (by omega), List.take_nil]
theorem cut_to (xs : List D) (j : Nat) : cutD xs none (some (j : Int)) = xs.take j := by
  unfold cutD
  rw [HT.sIx_nat, HT.sIx_none, List.drop_zero, Nat.sub_zero]
  by_cases h : j ≤ xs.length
  · rw [Nat.min_eq_left h]
  · rw [Nat.min_eq_right (by omega), List.take_of_length_le (Nat.le_refl _), List.take_of_length_le (by omega)]
theorem cut_ft (xs : List D) (i j : Nat) : cutD xs (some (i : Int)) (some (j : Int)) = (xs.drop i).take (j - i) := by
  unfold cutD
  rw [HT.sIx_nat, HT.sIx_nat]
  by_cases h : i ≤ xs.length
  · rw [Nat.min_eq_left h]
    by_cases h2 : j ≤ xs.length
    · rw [Nat.min_eq_left h2]
    · rw [Nat.min_eq_right (by omega), List.take_of_length_le (by simp), List.take_of_length_le (by simp; omega)]
  · rw [show min i xs.length = xs.length by omega, List.drop_eq_nil_of_le (Nat.le_refl _), List.drop_eq_nil_of_le (by omega : xs.length ≤ i), List.take_nil, List.take_nil]
theorem intL_drop (ns : List Int) (i : Nat) : (intL ns).drop i = intL (ns.drop i) := by simp [intL, List.map_drop]
theorem intL_take (ns : List Int) (i : Nat) : (intL ns).take i = intL (ns.take i) := by simp [intL, List.map_take]
theorem intL_append (a b : List Int) : intL a ++ intL b = intL (a ++ b) := by simp [intL]
theorem intL_reverse (a : List Int) : (intL a).reverse = intL a.reverse := by simp [intL, List.map_reverse]
/-! ### ranges -/
def rangeI (lo : Int) : Nat → List Int
  | 0 => []
  | n + 1 => lo :: rangeI (lo + 1) n
theorem rangeD_eq : ∀ (n : Nat) (lo : Int), rangeD lo n = intL (rangeI lo n)
  | 0, _ => rfl
  | n + 1, lo => by rw [rangeD, rangeI, intL_cons, rangeD_eq n]
theorem mem_rangeI {x : Int} : ∀ {n : Nat} {lo : Int}, x ∈ rangeI lo n ↔ lo ≤ x ∧ x < lo + n
  | 0, lo => by simp only [rangeI, List.not_mem_nil, false_iff]; omega
  | n + 1, lo => by simp [rangeI, mem_rangeI (n := n)]; omega
theorem rangeI_length : ∀ (n : Nat) (lo : Int), (rangeI lo n).length = n
  | 0, _ => rfl
  | n + 1, lo => by simp [rangeI, rangeI_length n]
theorem rangeI_get : ∀ (n : Nat) (lo : Int) (i : Nat), i < n → (rangeI lo n)[i]? = some (lo + i)
  | n + 1, lo, 0, _ => by simp [rangeI]
  | n + 1, lo, i + 1, h => by
    simp only [rangeI, List.getElem?_cons_succ]
    rw [rangeI_get n (lo + 1) i (by omega)]
    congr 1; omega
theorem rangeI_split {lo : Int} {n : Nat} {d rest : List Int} {x : Int} (h : rangeI lo n = d ++ x :: rest) : x = lo + d.length := by
  have hl := congrArg List.length h
  rw [rangeI_length] at hl
  simp at hl
  have := rangeI_get n lo d.length (by omega)
  rw [h] at this
  simpa using this
theorem rng_ok {a b : Int} (h : b - a ≤ 1000000) (h1 : -(2 ^ 60) ≤ a) (h2 : a ≤ 2 ^ 60) (h3 : -(2 ^ 60) ≤ b) (h4 : b ≤ 2 ^ 60) : rngOf a b = .ok (intL (rangeI a (b - a).toNat)) := by
  unfold rngOf
  rw [if_pos ⟨h, h1, h2, h3, h4⟩, rangeD_eq]
end BB

/-! ## decoders and rows of bytes as plain data -/
namespace BB
open PySem
structure Dc where
  l : Int
  o : Str
  s : Bool
  p : Str
  deriving DecidableEq
def Dc.D (d : Dc) : D := .tuple [.int d.l, .str d.o, .bool d.s, .str d.p]
def pols : List Str := ["stop", "byte", "prefix", "announced", "run", "skip", "keep"]
def ovls : List Str := ["none", "zero", "all"]
structure Dc.Ok (d : Dc) : Prop where
  l1 : 1 ≤ d.l
  l4 : d.l ≤ 4
  o : d.o ∈ ovls
  p : d.p ∈ pols
@[simp] theorem sne_none_zero : ((("none" : Str) = ("zero" : Str)) ↔ False) := by decide
@[simp] theorem sne_none_all : ((("none" : Str) = ("all" : Str)) ↔ False) := by decide
@[simp] theorem sne_zero_none : ((("zero" : Str) = ("none" : Str)) ↔ False) := by decide
@[simp] theorem sne_zero_all : ((("zero" : Str) = ("all" : Str)) ↔ False) := by decide
@[simp] theorem sne_all_none : ((("all" : Str) = ("none" : Str)) ↔ False) := by decide
@[simp] theorem sne_all_zero : ((("all" : Str) = ("zero" : Str)) ↔ False) := by decide
@[simp] theorem sne_stop_byte : ((("stop" : Str) = ("byte" : Str)) ↔ False) := by decide
@[simp] theorem sne_stop_prefix : ((("stop" : Str) = ("prefix" : Str)) ↔ False) := by decide
@[simp] theorem sne_stop_announced : ((("stop" : Str) = ("announced" : Str)) ↔ False) := by decide
@[simp] theorem sne_stop_run : ((("stop" : Str) = ("run" : Str)) ↔ False) := by decide
@[simp] theorem sne_stop_skip : ((("stop" : Str) = ("skip" : Str)) ↔ False) := by decide
@[simp] theorem sne_stop_keep : ((("stop" : Str) = ("keep" : Str)) ↔ False) := by decide
@[simp] theorem sne_byte_stop : ((("byte" : Str) = ("stop" : Str)) ↔ False) := by decide
@[simp] theorem sne_byte_prefix : ((("byte" : Str) = ("prefix" : Str)) ↔ False) := by decide
@[simp] theorem sne_byte_announced : ((("byte" : Str) = ("announced" : Str)) ↔ False) := by decide
@[simp] theorem sne_byte_run : ((("byte" : Str) = ("run" : Str)) ↔ False) := by decide
@[simp] theorem sne_byte_skip : ((("byte" : Str) = ("skip" : Str)) ↔ False) := by decide
@[simp] theorem sne_byte_keep : ((("byte" : Str) = ("keep" : Str)) ↔ False) := by decide
@[simp] theorem sne_prefix_stop : ((("prefix" : Str) = ("stop" : Str)) ↔ False) := by decide
@[simp] theorem sne_prefix_byte : ((("prefix" : Str) = ("byte" : Str)) ↔ False) := by decide
@[simp] theorem sne_prefix_announced : ((("prefix" : Str) = ("announced" : Str)) ↔ False) := by decide
@[simp] theorem sne_prefix_run : ((("prefix" : Str) = ("run" : Str)) ↔ False) := by decide
@[simp] theorem sne_prefix_skip : ((("prefix" : Str) = ("skip" : Str)) ↔ False) := by decide
@[simp] theorem sne_prefix_keep : ((("prefix" : Str) = ("keep" : Str)) ↔ False) := by decide
@[simp] theorem sne_announced_stop : ((("announced" : Str) = ("stop" : Str)) ↔ False) := by decide
@[simp] theorem sne_announced_byte : ((("announced" : Str) = ("byte" : Str)) ↔ False) := by decide
@[simp] theorem sne_announced_prefix : ((("announced" : Str) = ("prefix" : Str)) ↔ False) := by decide
@[simp] theorem sne_announced_run : ((("announced" : Str) = ("run" : Str)) ↔ False) := by decide
@[simp] theorem sne_announced_skip : ((("announced" : Str) = ("skip" : Str)) ↔ False) := by decide
@[simp] theorem sne_announced_keep : ((("announced" : Str) = ("keep" : Str)) ↔ False) := by decide
@[simp] theorem sne_run_stop : ((("run" : Str) = ("stop" : Str)) ↔ False) := by decide
@[simp] theorem sne_run_byte : ((("run" : Str) = ("byte" : Str)) ↔ False) := by decide
@[simp] theorem sne_run_prefix : ((("run" : Str) = ("prefix" : Str)) ↔ False) := by decide
@[simp] theorem sne_run_announced : ((("run" : Str) = ("announced" : Str)) ↔ False) := by decide
@[simp] theorem sne_run_skip : ((("run" : Str) = ("skip" : Str)) ↔ False) := by decide
@[simp] theorem sne_run_keep : ((("run" : Str) = ("keep" : Str)) ↔ False) := by decide
@[simp] theorem sne_skip_stop : ((("skip" : Str) = ("stop" : Str)) ↔ False) := by decide
@[simp] theorem sne_skip_byte : ((("skip" : Str) = ("byte" : Str)) ↔ False) := by decide
@[simp] theorem sne_skip_prefix : ((("skip" : Str) = ("prefix" : Str)) ↔ False) := by decide
@[simp] theorem sne_skip_announced : ((("skip" : Str) = ("announced" : Str)) ↔ False) := by decide
@[simp] theorem sne_skip_run : ((("skip" : Str) = ("run" : Str)) ↔ False) := by decide
@[simp] theorem sne_skip_keep : ((("skip" : Str) = ("keep" : Str)) ↔ False) := by decide
@[simp] theorem sne_keep_stop : ((("keep" : Str) = ("stop" : Str)) ↔ False) := by decide
@[simp] theorem sne_keep_byte : ((("keep" : Str) = ("byte" : Str)) ↔ False) := by decide
@[simp] theorem sne_keep_prefix : ((("keep" : Str) = ("prefix" : Str)) ↔ False) := by decide
@[simp] theorem sne_keep_announced : ((("keep" : Str) = ("announced" : Str)) ↔ False) := by decide
@[simp] theorem sne_keep_run : ((("keep" : Str) = ("run" : Str)) ↔ False) := by decide
@[simp] theorem sne_keep_skip : ((("keep" : Str) = ("skip" : Str)) ↔ False) := by decide
@[simp] theorem seq_none : ((("none" : Str) == ("none" : Str)) = true) := by decide
@[simp] theorem seq_zero : ((("zero" : Str) == ("zero" : Str)) = true) := by decide
@[simp] theorem seq_all : ((("all" : Str) == ("all" : Str)) = true) := by decide
@[simp] theorem seq_stop : ((("stop" : Str) == ("stop" : Str)) = true) := by decide
@[simp] theorem seq_byte : ((("byte" : Str) == ("byte" : Str)) = true) := by decide
@[simp] theorem seq_prefix : ((("prefix" : Str) == ("prefix" : Str)) = true) := by decide
@[simp] theorem seq_announced : ((("announced" : Str) == ("announced" : Str)) = true) := by decide
@[simp] theorem seq_run : ((("run" : Str) == ("run" : Str)) = true) := by decide
@[simp] theorem seq_skip : ((("skip" : Str) == ("skip" : Str)) = true) := by decide
@[simp] theorem seq_keep : ((("keep" : Str) == ("keep" : Str)) = true) := by decide
@[simp] theorem sbe_none_zero : ((("none" : Str) == ("zero" : Str)) = false) := by decide
@[simp] theorem sbe_none_all : ((("none" : Str) == ("all" : Str)) = false) := by decide
@[simp] theorem sbe_zero_none : ((("zero" : Str) == ("none" : Str)) = false) := by decide
@[simp] theorem sbe_zero_all : ((("zero" : Str) == ("all" : Str)) = false) := by decide
@[simp] theorem sbe_all_none : ((("all" : Str) == ("none" : Str)) = false) := by decide
@[simp] theorem sbe_all_zero : ((("all" : Str) == ("zero" : Str)) = false) := by decide
@[simp] theorem sbe_stop_byte : ((("stop" : Str) == ("byte" : Str)) = false) := by decide
@[simp] theorem sbe_stop_prefix : ((("stop" : Str) == ("prefix" : Str)) = false) := by decide
@[simp] theorem sbe_stop_announced : ((("stop" : Str) == ("announced" : Str)) = false) := by decide
@[simp] theorem sbe_stop_run : ((("stop" : Str) == ("run" : Str)) = false) := by decide
@[simp] theorem sbe_stop_skip : ((("stop" : Str) == ("skip" : Str)) = false) := by decide
@[simp] theorem sbe_stop_keep : ((("stop" : Str) == ("keep" : Str)) = false) := by decide
@[simp] theorem sbe_byte_stop : ((("byte" : Str) == ("stop" : Str)) = false) := by decide
@[simp] theorem sbe_byte_prefix : ((("byte" : Str) == ("prefix" : Str)) = false) := by decide
@[simp] theorem sbe_byte_announced : ((("byte" : Str) == ("announced" : Str)) = false) := by decide
@[simp] theorem sbe_byte_run : ((("byte" : Str) == ("run" : Str)) = false) := by decide
@[simp] theorem sbe_byte_skip : ((("byte" : Str) == ("skip" : Str)) = false) := by decide
@[simp] theorem sbe_byte_keep : ((("byte" : Str) == ("keep" : Str)) = false) := by decide
@[simp] theorem sbe_prefix_stop : ((("prefix" : Str) == ("stop" : Str)) = false) := by decide
@[simp] theorem sbe_prefix_byte : ((("prefix" : Str) == ("byte" : Str)) = false) := by decide
@[simp] theorem sbe_prefix_announced : ((("prefix" : Str) == ("announced" : Str)) = false) := by decide
@[simp] theorem sbe_prefix_run : ((("prefix" : Str) == ("run" : Str)) = false) := by decide
@[simp] theorem sbe_prefix_skip : ((("prefix" : Str) == ("skip" : Str)) = false) := by decide
@[simp] theorem sbe_prefix_keep : ((("prefix" : Str) == ("keep" : Str)) = false) := by decide
@[simp] theorem sbe_announced_stop : ((("announced" : Str) == ("stop" : Str)) = false) := by decide
@[simp] theorem sbe_announced_byte : ((("announced" : Str) == ("byte" : Str)) = false) := by decide
@[simp] theorem sbe_announced_prefix : ((("announced" : Str) == ("prefix" : Str)) = false) := by decide
@[simp] theorem sbe_announced_run : ((("announced" : Str) == ("run" : Str)) = false) := by decide
@[simp] theorem sbe_announced_skip : ((("announced" : Str) == ("skip" : Str)) = false) := by decide
@[simp] theorem sbe_announced_keep : ((("announced" : Str) == ("keep" : Str)) = false) := by decide
@[simp] theorem sbe_run_stop : ((("run" : Str) == ("stop" : Str)) = false) := by decide
@[simp] theorem sbe_run_byte : ((("run" : Str) == ("byte" : Str)) = false) := by decide
@[simp] theorem sbe_run_prefix : ((("run" : Str) == ("prefix" : Str)) = false) := by decide
@[simp] theorem sbe_run_announced : ((("run" : Str) == ("announced" : Str)) = false) := by decide
@[simp] theorem sbe_run_skip : ((("run" : Str) == ("skip" : Str)) = false) := by decide
@[simp] theorem sbe_run_keep : ((("run" : Str) == ("keep" : Str)) = false) := by decide
@[simp] theorem sbe_skip_stop : ((("skip" : Str) == ("stop" : Str)) = false) := by decide
@[simp] theorem sbe_skip_byte : ((("skip" : Str) == ("byte" : Str)) = false) := by decide
@[simp] theorem sbe_skip_prefix : ((("skip" : Str) == ("prefix" : Str)) = false) := by decide
@[simp] theorem sbe_skip_announced : ((("skip" : Str) == ("announced" : Str)) = false) := by decide
@[simp] theorem sbe_skip_run : ((("skip" : Str) == ("run" : Str)) = false) := by decide
@[simp] theorem sbe_skip_keep : ((("skip" : Str) == ("keep" : Str)) = false) := by decide
@[simp] theorem sbe_keep_stop : ((("keep" : Str) == ("stop" : Str)) = false) := by decide
@[simp] theorem sbe_keep_byte : ((("keep" : Str) == ("byte" : Str)) = false) := by decide
@[simp] theorem sbe_keep_prefix : ((("keep" : Str) == ("prefix" : Str)) = false) := by decide
@[simp] theorem sbe_keep_announced : ((("keep" : Str) == ("announced" : Str)) = false) := by decide
@[simp] theorem sbe_keep_run : ((("keep" : Str) == ("run" : Str)) = false) := by decide
@[simp] theorem sbe_keep_skip : ((("keep" : Str) == ("skip" : Str)) = false) := by decide
/-! ### the laws' own reading of rows (laws k50 to k78) -/
def lead (b : Int) : Int := if b < 128 then 1 else if b < 192 ∨ 247 < b then 0 else if b < 224 then 2 else if b < 240 then 3 else 4
def base : Nat → Int
  | 2 => 192
  | 3 => 224
  | 4 => 240
  | _ => 0
def numb : List Int → Int
  | [] => 0
  | b :: r => r.foldl (fun f c => 64 * f + c - 128) (b - base (r.length + 1))
def least : Nat → Int
  | 2 => 128
  | 3 => 2048
  | 4 => 65536
  | _ => 0
def vld (d : Dc) (row : List Int) : Bool := match row with
  | [] => false
  | b :: r =>
    if lead b ≠ row.length ∨ d.l < row.length then false
    else if r.any (fun c => decide (c < 128) || decide (191 < c)) then false
    else if 1114111 < numb row ∨ (55296 ≤ numb row ∧ numb row ≤ 57343 ∧ d.s = false) then false
    else if d.o = "all" ∨ (d.o = "zero" ∧ row = [192, 128]) then true
    else decide (least row.length ≤ numb row)
theorem lead_range (b : Int) : 0 ≤ lead b ∧ lead b ≤ 4 := by
  unfold lead; split <;> (try split) <;> (try split) <;> (try split) <;> omega
/-- all good decoders, for a policy -/
theorem Dc.Ok.cases {d : Dc} (h : d.Ok) : (d.l = 1 ∨ d.l = 2 ∨ d.l = 3 ∨ d.l = 4) ∧ (d.o = "none" ∨ d.o = "zero" ∨ d.o = "all") ∧ (d.s = true ∨ d.s = false) := by
  refine ⟨by have := h.l1; have := h.l4; omega, by simpa [ovls] using h.o, by cases d.s <;> simp⟩
end BB

/-! ## walking through a body with an aim -/
namespace BB
open PySem
structure W (P : Fl → Prop) (f : Fl) : Prop where
  to : P f
/-- the aim behind a statement: what is left, then P -/
def Kt (g : Sg) (ss : Ss) (P : Fl → Prop) : Fl → Prop
  | .next r => W P (evSs g ss r)
  | .ret d => P (.ret d)
  | .brk r => P (.brk r)
  | .exc c => P (.exc c)
  | .bad => False
section
variable {g : Sg} {ss : Ss} {r : Env} {P : Fl → Prop}
theorem W.nil (h : P (.next r)) : W P (evSs g .nil r) := ⟨h⟩
theorem W.nilK {ss2 : Ss} (h : W P (evSs g ss2 r)) : W (Kt g ss2 P) (evSs g .nil r) := ⟨h⟩
theorem W.cons {s : S} (h : W (Kt g ss P) (evS g s r)) : W P (evSs g (.cons s ss) r) := by
  obtain ⟨h⟩ := h
  revert h
  rw [evSs_cons]
  cases evS g s r <;> intro h <;> first | exact h | exact ⟨h⟩ | exact h.elim
theorem W.frz {i : Nat} {ds : List D} (h : r.getD i .non = .own ds) (k : W P (evSs g ss (r.set i (.val (.list ds))))) : W P (evSs g (.frz i ss) r) := by
  rw [evSs_frz, h]; exact k
theorem W.asg {i : Nat} {e : E} {d : D} (h : evE g e (hide r) = .ok d) (k : W P (evSs g ss (r.set i (.val d)))) : W P (evSs g (.cons (.asg i e) ss) r) := by
  rw [ss_next (asg_ok h)]; exact k
theorem W.asgS {i : Nat} {e : E} {d : D} (h : evE g e r = .ok d) (hs : scalar d = true) (k : W P (evSs g ss (r.set i (.val d)))) : W P (evSs g (.cons (.asgS i e) ss) r) := by
  rw [ss_next (r' := r.set i (.val d)) (by rw [evS_asgS, h]; simp [hs])]; exact k
theorem W.own {i : Nat} {es : Es} {ds : List D} (h : evEs g es (hide r) = .ok ds) (k : W P (evSs g ss (r.set i (.own ds)))) : W P (evSs g (.cons (.own i es) ss) r) := by
  rw [ss_next (r' := r.set i (.own ds)) (by rw [evS_own, h])]; exact k
theorem W.mov {i j : Nat} {ds : List D} (h : r.getD j .non = .own ds) (k : W P (evSs g ss ((r.set j (.val (.list ds))).set i (.val (.list ds))))) : W P (evSs g (.cons (.mov i j) ss) r) := by
  rw [ss_next (r' := (r.set j (.val (.list ds))).set i (.val (.list ds))) (by rw [evS_mov, h])]; exact k
theorem W.unp {is : List Nat} {e : E} {ds : List D} {r' : Env} (h : evE g e (hide r) = .ok (.tuple ds)) (h2 : setMany is ds r = some r') (k : W P (evSs g ss r')) : W P (evSs g (.cons (.unp is e) ss) r) := by
  rw [ss_next (unp_ok h h2)]; exact k
theorem W.par {own : Bool} {is : List Nat} {es : Es} {ds : List D} {r' : Env} (h : evEs g es (hide r) = .ok ds) (h2 : parR own is ds r = some r') (k : W P (evSs g ss r')) : W P (evSs g (.cons (.par own is es) ss) r) := by
  rw [ss_next (r' := r') (by rw [evS_par, h]; simp [h2])]; exact k
theorem W.app {i : Nat} {e : E} {d : D} {ds : List D} (h0 : r.getD i .non = .own ds) (h : evE g e (hide r) = .ok d) (hl : ds.length < LIM) (k : W P (evSs g ss (r.set i (.own (ds ++ [d]))))) : W P (evSs g (.cons (.app i e) ss) r) := by
  rw [ss_next (r' := r.set i (.own (ds ++ [d]))) (by rw [evS_app, h0]; simp only [h, Out.fl_ok]; rw [if_pos hl])]; exact k
theorem W.appS {i : Nat} {e : E} {d : D} {ds : List D} (h0 : r.getD i .non = .own ds) (h : evE g e r = .ok d) (hs : scalar d = true) (hl : ds.length < LIM) (k : W P (evSs g ss (r.set i (.own (ds ++ [d]))))) : W P (evSs g (.cons (.appS i e) ss) r) := by
  rw [ss_next (r' := r.set i (.own (ds ++ [d]))) (by rw [evS_appS, h0]; simp only [h, Out.fl_ok]; rw [if_pos (by simp [hs, hl])])]; exact k
theorem W.ext {i : Nat} {e : E} {xs ds : List D} (h0 : r.getD i .non = .own ds) (h : evE g e (hide r) = .ok (.list xs)) (hl : ds.length + xs.length ≤ LIM) (k : W P (evSs g ss (r.set i (.own (ds ++ xs))))) : W P (evSs g (.cons (.ext i e) ss) r) := by
  rw [ss_next (r' := r.set i (.own (ds ++ xs))) (by rw [evS_ext, h0]; simp only [h, Out.fl_ok]; rw [if_pos hl])]; exact k
theorem W.cat {i : Nat} {e : E} {xs ds : List D} (h0 : r.getD i .non = .own ds) (h : evE g e (hide r) = .ok (.list xs)) (hl : ds.length + xs.length ≤ LIM) (k : W P (evSs g ss (r.set i (.own (ds ++ xs))))) : W P (evSs g (.cons (.cat i e) ss) r) := by
  rw [ss_next (r' := r.set i (.own (ds ++ xs))) (by rw [evS_cat, h0]; simp only [h, Out.fl_ok]; rw [if_pos hl])]; exact k
theorem W.ownT {i : Nat} {e : E} {n : Nat} {xs : List D} (h : evE g e (hide r) = .ok (.list xs)) (k : W P (evSs g ss (r.set i (.own (xs.take n))))) : W P (evSs g (.cons (.ownT i e n) ss) r) := by
  rw [ss_next (r' := r.set i (.own (xs.take n))) (by rw [evS_ownT, h]; rfl)]; exact k
theorem W.parO {i : Nat} {is : List Nat} {es0 es : Es} {ds0 ds : List D} {r' : Env} (h0 : evEs g es0 (hide r) = .ok ds0) (h : evEs g es (hide r) = .ok ds) (h2 : setMany is ds (r.set i (.own ds0)) = some r') (k : W P (evSs g ss r')) : W P (evSs g (.cons (.parO i is es0 es) ss) r) := by
  rw [ss_next (r' := r') (by rw [evS_parO, h0]; simp only [h, h2])]; exact k
theorem W.ife {t : E} {a b : Ss} {k : Bool} (h : evE g t r = .ok (.bool k)) (h2 : W (Kt g ss P) (evSs g (if k = true then a else b) r)) : W P (evSs g (.cons (.ife t a b) ss) r) := by
  refine W.cons ?_
  cases k
  · rw [ife_f h]; exact h2
  · rw [ife_t h]; exact h2
theorem W.ifT {t : E} {a b : Ss} (h : evE g t r = .ok (.bool true)) (h2 : W (Kt g ss P) (evSs g a r)) : W P (evSs g (.cons (.ife t a b) ss) r) := W.ife h h2
theorem W.ifF {t : E} {a b : Ss} (h : evE g t r = .ok (.bool false)) (h2 : W (Kt g ss P) (evSs g b r)) : W P (evSs g (.cons (.ife t a b) ss) r) := W.ife h h2
/-- an if without else that is passed by -/
theorem W.ifN {t : E} {a : Ss} (h : evE g t r = .ok (.bool false)) (h2 : W P (evSs g ss r)) : W P (evSs g (.cons (.ife t a .nil) ss) r) := W.ife h (W.nilK (ss2 := ss) h2)
theorem W.ret {e : E} {d : D} (h : evE g e r = .ok d) (k : P (.ret d)) : W P (evSs g (.cons (.ret e) ss) r) := by
  rw [ss_ret (ret_ok h)]; exact ⟨k⟩
theorem W.retK {ss2 : Ss} {e : E} {d : D} (h : evE g e r = .ok d) (k : P (.ret d)) : W (Kt g ss2 P) (evSs g (.cons (.ret e) ss) r) := W.ret h k
theorem W.retN (k : P (.ret .none)) : W P (evSs g (.cons .retN ss) r) := ⟨k⟩
theorem W.exc {c : Str} (k : P (.exc c)) : W P (evSs g (.cons (.exc c) ss) r) := ⟨k⟩
theorem W.brk (k : P (.brk r)) : W P (evSs g (.cons .brk ss) r) := ⟨k⟩
theorem W.exp {e : E} {d : D} (h : evE g e r = .ok d) (k : W P (evSs g ss r)) : W P (evSs g (.cons (.exp e) ss) r) := by
  rw [ss_next (exp_ok h)]; exact k
theorem W.expX {e : E} {c : Str} (h : evE g e r = .exc c) (k : P (.exc c)) : W P (evSs g (.cons (.exp e) ss) r) := by
  rw [ss_exc (c := c) (by rw [evS_exp, h]; rfl)]; exact ⟨k⟩
/-- the aim of one turn of a for loop -/
def Ft (J : Env → Prop) (B : Env → Prop) (P : Fl → Prop) : Fl → Prop
  | .next r => J r
  | .brk r => B r
  | .ret d => P (.ret d)
  | .exc c => P (.exc c)
  | .bad => False
theorem W.forL_aux {α : Type} {step : D → Env → Fl} {q : α → D} (I : List α → Env → Prop) {P : Fl → Prop} {B : Env → Prop} (hB : ∀ r, B r → P (.next r)) : ∀ (xs done : List α) (r : Env),
    (∀ d x rest, done ++ xs = d ++ x :: rest → ∀ r, I d r → W (Ft (I (d ++ [x])) B P) (step (q x) r)) → I done r → (∀ r, I (done ++ xs) r → P (.next r)) → P (forL step (xs.map q) r)
  | [], done, r, _, hi, hk => hk r (by simpa using hi)
  | x :: xs, done, r, h, hi, hk => by
    have h1 := (h done x xs rfl r hi).to
    rw [List.map_cons, forL]
    revert h1
    cases step (q x) r with
    | next r1 =>
      intro h1
      exact W.forL_aux I hB xs (done ++ [x]) r1 (fun d y rest e => h d y rest (by simpa using e)) h1 (by simpa using hk)
    | brk r1 => intro h1; exact hB r1 h1
    | ret d => intro h1; exact h1
    | exc c => intro h1; exact h1
    | bad => intro h1; exact h1.elim
/-- a for loop: I, what holds when some items are done -/
theorem W.for {α : Type} {tg : Tg} {it : It} {b : Ss} {xs : List α} {q : α → D} (I : List α → Env → Prop) (hi : evI g it (hide r) = .ok (xs.map q)) (h0 : I [] r)
    (h : ∀ d x rest, xs = d ++ x :: rest → ∀ r, I d r → W (Ft (I (d ++ [x])) (fun r => W P (evSs g ss r)) P) (stepFo g tg b (q x) r)) (hk : ∀ r, I xs r → W P (evSs g ss r)) : W P (evSs g (.cons (.forS tg it b) ss) r) := by
  refine W.cons ?_
  rw [for_ok hi]
  refine ⟨?_⟩
  refine W.forL_aux (P := Kt g ss P) (B := fun r => W P (evSs g ss r)) I (fun r h => h) xs [] r ?_ h0 (fun r h => hk r (by simpa using h))
  intro d x rest e r hr
  have := (h d x rest (by simpa using e) r hr).to
  refine ⟨?_⟩
  revert this
  cases stepFo g tg b (q x) r <;> intro this <;> exact this
/-- the turn of a for loop whose target is one name -/
theorem W.turn {i : Nat} {b : Ss} {x : D} (h : W P (evSs g b (r.set i (.val x)))) : W P (stepFo g (.one i) b x r) := h
theorem W.turns {is : List Nat} {b : Ss} {ds : List D} {r' : Env} (h0 : setMany is ds r = some r') (h : W P (evSs g b r')) : W P (stepFo g (.many is) b (.tuple ds) r) := by
  refine ⟨?_⟩; unfold stepFo; rw [setTg_many, h0]; exact h.to
theorem W.while_aux {t : E} {b : Ss} {Q : Fl → Prop} (I : Nat → Env → Prop) (h : ∀ m r, I m r → ∃ k, evE g t r = .ok (.bool k) ∧ (k = true → W (Ft (fun r' => ∃ m', m' < m ∧ I m' r') (fun r' => Q (.next r')) Q) (evSs g b r)) ∧ (k = false → Q (.next r))) : ∀ (n m : Nat) (r : Env), I m r → m < n → Q (whileL (evE g t) (evSs g b) n r)
  | 0, m, r, _, hm => by omega
  | n + 1, m, r, hi, hm => by
    obtain ⟨k, h1, h2, h3⟩ := h m r hi
    rw [whileL, h1]
    cases k with
    | false => exact h3 rfl
    | true =>
      have h2 := (h2 rfl).to
      revert h2
      simp only
      cases evSs g b r with
      | next r1 =>
        intro h2
        obtain ⟨m', hm', hi'⟩ := h2
        exact W.while_aux I h n m' r1 hi' (by omega)
      | brk r1 => intro h2; exact h2
      | ret d => intro h2; exact h2
      | exc c => intro h2; exact h2
      | bad => intro h2; exact h2.elim
/-- a while loop: I m r, what holds before each test, m turns at most to come -/
theorem W.while {t : E} {b : Ss} {m0 : Nat} (I : Nat → Env → Prop) (hm : m0 < FUEL) (h0 : I m0 r)
    (h : ∀ m r, I m r → ∃ k, evE g t r = .ok (.bool k) ∧ (k = true → W (Ft (fun r' => ∃ m', m' < m ∧ I m' r') (fun r' => W P (evSs g ss r')) P) (evSs g b r)) ∧ (k = false → W P (evSs g ss r))) : W P (evSs g (.cons (.whl t b) ss) r) := by
  refine W.cons ?_
  rw [evS_whl]
  refine ⟨?_⟩
  refine W.while_aux (Q := Kt g ss P) I ?_ FUEL m0 r h0 hm
  intro m r hr
  obtain ⟨k, h1, h2, h3⟩ := h m r hr
  refine ⟨k, h1, fun e => ?_, h3⟩
  have := (h2 e).to
  refine ⟨?_⟩
  revert this
  cases evSs g b r <;> intro this <;> exact this
end
/-- a def: from its body's walk -/
theorem run_to {g : Sg} {n : Nat} {b : Ss} {as : List D} {P : Out D → Prop} (h : W (fun f => P f.out) (evSs g b (as.map .val ++ List.replicate (n - as.length) .non))) : P (runD g n b as) := by
  rw [runD_eq]; exact h.to
end BB

/-! ## joining branches -/
namespace BB
open PySem
/-- the aim of a part that goes on with J -/
def Nx (J : Env → Prop) : Fl → Prop
  | .next r => J r
  | _ => False
section
variable {g : Sg} {ss : Ss} {r : Env} {P : Fl → Prop}
theorem W.join {s : S} (J : Env → Prop) (h : W (Nx J) (evS g s r)) (k : ∀ r, J r → W P (evSs g ss r)) : W P (evSs g (.cons s ss) r) := by
  refine W.cons ⟨?_⟩
  obtain ⟨h⟩ := h
  revert h
  cases evS g s r <;> intro h <;> first | exact k _ h | exact h.elim
/-- an if, both of whose branches go on with J -/
theorem W.ifJ {t : E} {a b : Ss} {k : Bool} (J : Env → Prop) (h : evE g t r = .ok (.bool k)) (h1 : k = true → W (Nx J) (evSs g a r)) (h2 : k = false → W (Nx J) (evSs g b r)) (h3 : ∀ r, J r → W P (evSs g ss r)) : W P (evSs g (.cons (.ife t a b) ss) r) := by
  refine W.join J ?_ h3
  cases k
  · rw [ife_f h]; exact h2 rfl
  · rw [ife_t h]; exact h1 rfl
/-- an if whose branches go on with J, or leave -/
theorem W.ifR {t : E} {a b : Ss} {k : Bool} (J : Env → Prop) (h : evE g t r = .ok (.bool k)) (h1 : k = true → W (Ft J (fun _ => False) P) (evSs g a r)) (h2 : k = false → W (Ft J (fun _ => False) P) (evSs g b r)) (h3 : ∀ r, J r → W P (evSs g ss r)) : W P (evSs g (.cons (.ife t a b) ss) r) := by
  refine W.cons ⟨?_⟩
  have key : ∀ f : Fl, Ft J (fun _ => False) P f → Kt g ss P f := by
    intro f hf
    cases f with
    | next r => exact h3 r hf
    | brk r => exact hf.elim
    | bad => exact hf.elim
    | _ => exact hf
  cases k
  · rw [ife_f h]; exact key _ (h2 rfl).to
  · rw [ife_t h]; exact key _ (h1 rfl).to
theorem W.parL {own : Bool} {is : List Nat} {es : Es} {ds : List D} {r' : Env} (h : evEs g es (hide r) = .ok ds) (h2 : parRL own is ds r = some r') (k : W P (evSs g ss r')) : W P (evSs g (.cons (.parL own is es) ss) r) := by
  rw [ss_next (r' := r') (by rw [evS_parL, h]; simp [h2])]; exact k
/-- a try whose body is known -/
theorem W.tryx {b : Ss} {h : Hd} {f : Fl} (hb : evSs g b r = f) (k : W (Kt g ss P) (tryF h f)) : W P (evSs g (.cons (.tryx b h) ss) r) := by
  refine W.cons ?_
  rw [evS_tryx, hb]; exact k
/-- .. that is left by an exception that the clause tells -/
theorem W.tryX {b : Ss} {h : Hd} {c : Str} {d : D} (hb : evSs g b r = .exc c) (hh : hdEv h c = .ret d) (k : P (.ret d)) : W P (evSs g (.cons (.tryx b h) ss) r) := by
  refine W.tryx hb ⟨?_⟩
  show Kt g ss P (hdEv h c)
  rw [hh]; exact k
/-- .. that goes on -/
theorem W.tryN {b : Ss} {h : Hd} {r' : Env} (hb : evSs g b r = .next r') (k : W P (evSs g ss r')) : W P (evSs g (.cons (.tryx b h) ss) r) := W.tryx hb ⟨k⟩
end
end BB

/-! ## what the program's core computes, in plain terms -/
namespace BB
open PySem
def isI : D → Int → Int → Bool
  | .int i, a, b => decide (a ≤ i) && decide (i ≤ b)
  | _, _, _ => false
def Byts (s : List Int) : Prop := ∀ b ∈ s, 0 ≤ b ∧ b ≤ 255
theorem Byts.tail {b : Int} {r : List Int} (h : Byts (b :: r)) : Byts r := fun x hx => h x (by simp [hx])
theorem Byts.head {b : Int} {r : List Int} (h : Byts (b :: r)) : 0 ≤ b ∧ b ≤ 255 := h b (by simp)
theorem Byts.drop {s : List Int} (h : Byts s) (n : Nat) : Byts (s.drop n) := fun x hx => h x (List.mem_of_mem_drop hx)
theorem Byts.take {s : List Int} (h : Byts s) (n : Nat) : Byts (s.take n) := fun x hx => h x (List.mem_of_mem_take hx)
theorem Byts.app {s t : List Int} (h : Byts s) (h' : Byts t) : Byts (s ++ t) := fun x hx => by
  rcases List.mem_append.mp hx with e | e
  · exact h x e
  · exact h' x e
def isCb (b : Int) : Bool := decide (128 ≤ b) && decide (b ≤ 191)
def fold64 (r : List Int) (v : Int) : Int := r.foldl (fun f c => 64 * f + c - 128) v
/-- the value that a row stands for, by its first byte -/
def valu : List Int → Int
  | [] => 0
  | b :: r => fold64 r (b - base (lead b).toNat)
/-- the program's begins -/
def beg (d : Dc) : List Int → Bool
  | [] => false
  | b :: r =>
    let n := lead b
    if ¬ ((r.length : Int) + 1 ≤ n ∧ n ≤ d.l) ∨ r.all isCb = false then false
    else if d.o = "zero" ∧ b :: r = ([192, 128] : List Int).take (r.length + 1) then true
    else
      let m := n.toNat - (r.length + 1)
      let low := valu (b :: r ++ List.replicate m 128)
      let high := valu (b :: r ++ List.replicate m 191)
      let low := max low (if d.o = "all" then 0 else least n.toNat)
      let high := min high 1114111
      decide (low ≤ high) && (d.s || decide (low < 55296) || decide (57343 < high))
def gsz (d : Dc) : List Int → Nat
  | [] => 0
  | b :: r => if 0 < lead b ∧ lead b ≤ (r.length : Int) + 1 ∧ beg d ((b :: r).take (lead b).toNat) = true then (lead b).toNat else 0
/-- how far a row goes on beginning -/
def pfx (d : Dc) (rest : List Int) : Nat → Nat → Nat
  | 0, k => k
  | f + 1, k => if k < rest.length ∧ beg d (rest.take (k + 1)) = true then pfx d rest f (k + 1) else k
/-- how many continuation bytes stand at the beginning, at most m -/
def conts : Nat → List Int → Nat
  | m + 1, c :: r => if isCb c then conts m r + 1 else 0
  | _, _ => 0
def bsz (d : Dc) : List Int → Nat
  | [] => 1
  | b :: r =>
    if d.p = "stop" then r.length + 1
    else if d.p = "prefix" then pfx d (b :: r) 4 1
    else if d.p = "announced" then 1 + conts ((lead b).toNat - 1) r
    else 1
def szO (d : Dc) (s : List Int) : Nat := if 0 < gsz d s then gsz d s else bsz d s
def pval (d : Dc) (s : List Int) : Int := if 0 < gsz d s then valu (s.take (gsz d s)) else -1
def pcsN (d : Dc) : Nat → Nat → List Int → List (Nat × Nat × Int)
  | 0, _, _ => []
  | f + 1, p, s => match s with
    | [] => []
    | b :: r => (p, szO d (b :: r), pval d (b :: r)) :: pcsN d f (p + szO d (b :: r)) ((b :: r).drop (szO d (b :: r)))
def pcs (d : Dc) (p : Nat) (s : List Int) : List (Nat × Nat × Int) := pcsN d s.length p s
/-! ### sizes -/
theorem gsz_le (d : Dc) (s : List Int) : gsz d s ≤ s.length := by
  cases s with
  | nil => simp [gsz]
  | cons b r => simp only [gsz, List.length_cons]; split <;> omega
theorem pfx_len (d : Dc) (s : List Int) : ∀ f k, k ≤ s.length → k ≤ pfx d s f k ∧ pfx d s f k ≤ s.length
  | 0, k, h => by simp [pfx]; exact h
  | f + 1, k, h => by
    unfold pfx
    split
    · rename_i hh; have := pfx_len d s f (k + 1) (by omega); omega
    · omega
theorem conts_len : ∀ (m : Nat) (r : List Int), conts m r ≤ r.length
  | 0, r => by simp [conts]
  | m + 1, [] => by simp [conts]
  | m + 1, c :: r => by
    unfold conts
    have := conts_len m r
    split <;> simp <;> omega
theorem bsz_range (d : Dc) (b : Int) (r : List Int) : 1 ≤ bsz d (b :: r) ∧ bsz d (b :: r) ≤ r.length + 1 := by
  simp only [bsz]
  have h1 := pfx_len d (b :: r) 4 1 (by simp)
  have h2 := conts_len ((lead b).toNat - 1) r
  simp only [List.length_cons] at h1
  split
  · omega
  · split
    · omega
    · split <;> omega
theorem szO_range (d : Dc) (b : Int) (r : List Int) : 1 ≤ szO d (b :: r) ∧ szO d (b :: r) ≤ r.length + 1 := by
  unfold szO
  have h1 := gsz_le d (b :: r)
  have h2 := bsz_range d b r
  simp only [List.length_cons] at h1
  split <;> omega
theorem pcsN_more (d : Dc) : ∀ (f f' p : Nat) (s : List Int), s.length ≤ f → s.length ≤ f' → pcsN d f p s = pcsN d f' p s
  | 0, f', p, s, h, h' => by
    have : s = [] := List.length_eq_zero_iff.mp (by omega)
    subst this
    cases f' <;> rfl
  | f + 1, 0, p, s, h, h' => by
    have : s = [] := List.length_eq_zero_iff.mp (by omega)
    subst this
    rfl
  | f + 1, f' + 1, p, [], h, h' => rfl
  | f + 1, f' + 1, p, b :: r, h, h' => by
    have := szO_range d b r
    simp only [pcsN]
    rw [pcsN_more d f f']
    · simp only [List.length_drop, List.length_cons] at *; omega
    · simp only [List.length_drop, List.length_cons] at *; omega
theorem pcs_nil (d : Dc) (p : Nat) : pcs d p [] = [] := rfl
theorem pcs_cons (d : Dc) (p : Nat) (b : Int) (r : List Int) : pcs d p (b :: r) = (p, szO d (b :: r), pval d (b :: r)) :: pcs d (p + szO d (b :: r)) ((b :: r).drop (szO d (b :: r))) := by
  have := szO_range d b r
  unfold pcs
  simp only [List.length_cons, pcsN]
  rw [pcsN_more d r.length]
  · simp only [List.length_drop, List.length_cons] at *; omega
  · exact Nat.le_refl _
theorem pcsN_len (d : Dc) : ∀ (f p : Nat) (s : List Int), (pcsN d f p s).length ≤ f
  | 0, _, _ => by simp [pcsN]
  | f + 1, p, [] => by simp [pcsN]
  | f + 1, p, b :: r => by simp only [pcsN, List.length_cons]; have := pcsN_len d f (p + szO d (b :: r)) ((b :: r).drop (szO d (b :: r))); omega
theorem pcs_len (d : Dc) (p : Nat) (s : List Int) : (pcs d p s).length ≤ s.length := pcsN_len d _ _ _
def pcD (x : Nat × Nat × Int) : D := .tuple [.int x.1, .int x.2.1, .int x.2.2]
/-- items of a bad piece -/
def bitm (p : Str) (b : Int) (a : Bool) : List Int := if p = "keep" then [0 - b] else if p = "skip" ∨ (p = "run" ∧ a = true) then [] else [-1]
def its (d : Dc) (s : List Int) : List (Nat × Nat × Int) → Bool → List Int
  | [], _ => []
  | (p, _, v) :: r, a => (if v ≠ -1 then [v] else bitm d.p (s.getD p 0) a) ++ its d s r (decide (v = -1))
def aft : List (Nat × Nat × Int) → Bool → Bool
  | [], a => a
  | (_, _, v) :: r, _ => aft r (decide (v = -1))
def res (d : Dc) (s : List Int) : List Int := its d s (pcs d 0 s) false
theorem its_app (d : Dc) (s : List Int) : ∀ (x y : List (Nat × Nat × Int)) (a : Bool), its d s (x ++ y) a = its d s x a ++ its d s y (aft x a)
  | [], y, a => rfl
  | (p, n, v) :: x, y, a => by simp only [List.cons_append, its, aft]; rw [its_app d s x y]; simp
theorem aft_app : ∀ (x y : List (Nat × Nat × Int)) (a : Bool), aft (x ++ y) a = aft y (aft x a)
  | [], y, a => rfl
  | (p, n, v) :: x, y, a => by simp only [List.cons_append, aft]; exact aft_app x y _
theorem its_len (d : Dc) (s : List Int) : ∀ (x : List (Nat × Nat × Int)) (a : Bool), (its d s x a).length ≤ x.length
  | [], _ => by simp [its]
  | (p, n, v) :: x, a => by
    have := its_len d s x (decide (v = -1))
    simp only [its, bitm, List.length_append, List.length_cons]
    split
    · simp; omega
    · split
      · simp; omega
      · split <;> simp <;> omega
/-- each piece begins within the string -/
theorem pcsN_in (d : Dc) : ∀ (f p : Nat) (s : List Int) (x), x ∈ pcsN d f p s → p ≤ x.1 ∧ x.1 < p + s.length
  | 0, _, _, x, h => by simp [pcsN] at h
  | f + 1, p, [], x, h => by simp [pcsN] at h
  | f + 1, p, b :: r, x, h => by
    have hr := szO_range d b r
    simp only [pcsN, List.mem_cons] at h
    rcases h with rfl | h
    · simp
    · have := pcsN_in d f _ _ x h
      simp only [List.length_drop, List.length_cons] at *
      omega
theorem pcs_in {d : Dc} {p : Nat} {s : List Int} {x : Nat × Nat × Int} (h : x ∈ pcs d p s) : p ≤ x.1 ∧ x.1 < p + s.length := pcsN_in d _ _ _ x h
end BB

/-! ## beginnings and valid rows: the program's reading and the laws' own -/
namespace BB
open PySem
def smp : List Int := [128, 144, 160, 191]
def lrows (s : List Int) : Nat → List (List Int)
  | 0 => [s]
  | k + 1 => smp.flatMap fun b => (lrows s k).map (· ++ [b])
def lbeg (d : Dc) (s : List Int) : Bool := (List.range (5 - s.length)).any fun k => (lrows s k).any (vld d)
theorem mem_lrows (s : List Int) : ∀ (k : Nat) (x : List Int), x ∈ lrows s k ↔ ∃ t : List Int, t.length = k ∧ (∀ b ∈ t, b ∈ smp) ∧ x = s ++ t
  | 0, x => by
    simp only [lrows, List.mem_singleton]
    constructor
    · rintro rfl; exact ⟨[], rfl, by simp, by simp⟩
    · rintro ⟨t, h, _, rfl⟩; rw [List.length_eq_zero_iff.mp h]; simp
  | k + 1, x => by
    simp only [lrows, List.mem_flatMap, List.mem_map]
    constructor
    · rintro ⟨b, hb, y, hy, rfl⟩
      obtain ⟨t, h1, h2, rfl⟩ := (mem_lrows s k y).mp hy
      refine ⟨t ++ [b], by simp [h1], ?_, by simp⟩
      intro c hc
      rcases List.mem_append.mp hc with e | e
      · exact h2 c e
      · simp at e; rw [e]; exact hb
    · rintro ⟨t, h1, h2, rfl⟩
      have ht : t ≠ [] := by intro e; rw [e] at h1; simp at h1
      refine ⟨t.getLast ht, h2 _ (List.getLast_mem ht), s ++ t.dropLast, (mem_lrows s k _).mpr ⟨t.dropLast, by simp [h1], fun b hb => h2 b ((List.dropLast_sublist t).subset hb), rfl⟩, ?_⟩
      rw [List.append_assoc, List.dropLast_concat_getLast ht]
theorem smp_cont {b : Int} (h : b ∈ smp) : isCb b = true := by
  simp [smp] at h
  rcases h with rfl | rfl | rfl | rfl <;> decide
theorem isCb_iff {c : Int} : isCb c = true ↔ 128 ≤ c ∧ c ≤ 191 := by simp [isCb]
theorem fold_mono : ∀ (t : List Int) {V V' : Int}, V ≤ V' → fold64 t V ≤ fold64 t V'
  | [], _, _, h => h
  | c :: t, V, V', h => fold_mono t (by omega : 64 * V + c - 128 ≤ 64 * V' + c - 128)
theorem fold_low : ∀ (t : List Int) (V : Int), t.all isCb = true → fold64 (List.replicate t.length 128) V ≤ fold64 t V
  | [], V, _ => Int.le_refl _
  | c :: t, V, h => by
    simp only [List.all_cons, Bool.and_eq_true, isCb_iff] at h
    show fold64 (List.replicate t.length 128) (64 * V + 128 - 128) ≤ fold64 t (64 * V + c - 128)
    exact Int.le_trans (fold_mono _ (by omega)) (fold_low t _ h.2)
theorem fold_high : ∀ (t : List Int) (V : Int), t.all isCb = true → fold64 t V ≤ fold64 (List.replicate t.length 191) V
  | [], V, _ => Int.le_refl _
  | c :: t, V, h => by
    simp only [List.all_cons, Bool.and_eq_true, isCb_iff] at h
    show fold64 t (64 * V + c - 128) ≤ fold64 (List.replicate t.length 191) (64 * V + 191 - 128)
    exact Int.le_trans (fold_high t _ h.2) (fold_mono _ (by omega))
theorem fold_app (r t : List Int) (V : Int) : fold64 (r ++ t) V = fold64 t (fold64 r V) := by simp [fold64, List.foldl_append]
theorem fold_nonneg : ∀ (t : List Int) {V : Int}, 0 ≤ V → t.all isCb = true → 0 ≤ fold64 t V
  | [], _, h, _ => h
  | c :: t, V, h, h2 => by
    simp only [List.all_cons, Bool.and_eq_true, isCb_iff] at h2
    exact fold_nonneg t (by omega : 0 ≤ 64 * V + c - 128) h2.2
theorem lead_base {b : Int} (h : 0 ≤ b) (h1 : 0 < lead b) : 0 ≤ b - base (lead b).toNat := by
  unfold lead at *
  split
  · simp [base]; omega
  · split
    · rename_i h2 h3; simp [h2, h3] at h1
    · split
      · simp [base]; omega
      · split <;> simp [base] <;> omega
theorem numb_eq (b : Int) (r : List Int) (h : lead b = r.length + 1) : numb (b :: r) = valu (b :: r) := by
  simp only [numb, valu, fold64, h]
  rfl
/-- valid, in plain words -/
theorem vld_iff {d : Dc} {b : Int} {r : List Int} : vld d (b :: r) = true ↔ lead b = r.length + 1 ∧ lead b ≤ d.l ∧ r.all isCb = true ∧ valu (b :: r) ≤ 1114111 ∧ (d.s = true ∨ valu (b :: r) < 55296 ∨ 57343 < valu (b :: r)) ∧ (d.o = "all" ∨ (d.o = "zero" ∧ b :: r = [192, 128]) ∨ least (r.length + 1) ≤ valu (b :: r)) := by
  have hany : (r.any fun c => decide (c < 128) || decide (191 < c)) = !(r.all isCb) := by
    rw [List.any_eq_not_all_not]
    congr 2; funext c
    rw [Bool.eq_iff_iff]; simp [isCb]
  by_cases h1 : lead b = r.length + 1
  case neg => simp [vld, h1]
  rw [← numb_eq b r h1]
  generalize hN : numb (b :: r) = N
  by_cases h2 : d.l < r.length + 1
  · simp only [vld]
    rw [if_pos (by right; simpa using h2)]
    simp; omega
  simp only [vld, hN]
  rw [if_neg (by simp; omega), hany]
  cases h3 : r.all isCb
  · simp
  · simp only [Bool.not_true, Bool.false_eq_true, if_false, true_and]
    by_cases h4 : 1114111 < N ∨ (55296 ≤ N ∧ N ≤ 57343 ∧ d.s = false)
    · rw [if_pos h4]
      simp only [Bool.false_eq_true, false_iff]
      rintro ⟨_, _, h5, h6, _⟩
      rcases h4 with h4 | ⟨h4, h4', h4''⟩
      · omega
      · rcases h6 with h6 | h6 | h6
        · rw [h6] at h4''; cases h4''
        · omega
        · omega
    · rw [if_neg h4]
      simp only [not_or, not_and, Bool.not_eq_false] at h4
      have h5 : d.s = true ∨ N < 55296 ∨ 57343 < N := by
        by_cases a : 55296 ≤ N
        · by_cases c : N ≤ 57343
          · exact .inl (h4.2 a c)
          · exact .inr (.inr (by omega))
        · exact .inr (.inl (by omega))
      by_cases h6 : d.o = "all" ∨ (d.o = "zero" ∧ b :: r = [192, 128])
      · rw [if_pos h6]
        simp only [true_iff]
        refine ⟨h1, by omega, by omega, h5, ?_⟩
        rcases h6 with h6 | h6
        · exact .inl h6
        · exact .inr (.inl h6)
      · rw [if_neg h6]
        simp only [List.length_cons, decide_eq_true_eq]
        simp only [not_or] at h6
        constructor
        · intro h; exact ⟨h1, by omega, by omega, h5, .inr (.inr h)⟩
        · rintro ⟨_, _, _, _, h⟩
          rcases h with h | h | h
          · exact absurd h h6.1
          · exact absurd h h6.2
          · exact h
/-- beginnings, in plain words -/
theorem beg_iff {d : Dc} {b : Int} {r : List Int} : beg d (b :: r) = true ↔ ((r.length : Int) + 1 ≤ lead b ∧ lead b ≤ d.l) ∧ r.all isCb = true ∧ ((d.o = "zero" ∧ b :: r = ([192, 128] : List Int).take (r.length + 1)) ∨
    (max (valu (b :: r ++ List.replicate ((lead b).toNat - (r.length + 1)) 128)) (if d.o = "all" then 0 else least (lead b).toNat) ≤ min (valu (b :: r ++ List.replicate ((lead b).toNat - (r.length + 1)) 191)) 1114111 ∧
    (d.s = true ∨ max (valu (b :: r ++ List.replicate ((lead b).toNat - (r.length + 1)) 128)) (if d.o = "all" then 0 else least (lead b).toNat) < 55296 ∨ 57343 < min (valu (b :: r ++ List.replicate ((lead b).toNat - (r.length + 1)) 191)) 1114111))) := by
  simp only [beg]
  by_cases h1 : (r.length : Int) + 1 ≤ lead b ∧ lead b ≤ d.l
  case neg => rw [if_pos (.inl h1)]; simp only [h1, false_and]; simp
  cases h2 : r.all isCb
  · rw [if_pos (.inr rfl)]; simp
  rw [if_neg (by simp only [not_or, Classical.not_not]; exact ⟨h1, by decide⟩)]
  by_cases h3 : d.o = "zero" ∧ b :: r = ([192, 128] : List Int).take (r.length + 1)
  · rw [if_pos h3]; exact ⟨fun _ => ⟨h1, rfl, .inl h3⟩, fun _ => rfl⟩
  · rw [if_neg h3]
    simp only [Bool.and_eq_true, Bool.or_eq_true, decide_eq_true_eq, h1, h3, true_and, false_or, and_self, or_assoc]
/-- A: what begins a valid row, begins -/
theorem beg_of_vld {d : Dc} {b : Int} {r t : List Int} (hb : 0 ≤ b) (h : vld d (b :: r ++ t) = true) : beg d (b :: r) = true := by
  rw [List.cons_append, vld_iff] at h
  obtain ⟨h1, h2, h3, h4, h5, h6⟩ := h
  simp only [List.length_append, List.all_append, Bool.and_eq_true] at h1 h3
  have hm : (lead b).toNat - (r.length + 1) = t.length := by omega
  rw [beg_iff, hm]
  refine ⟨⟨by omega, h2⟩, h3.1, ?_⟩
  have hN : 0 ≤ valu (b :: (r ++ t)) := fold_nonneg _ (lead_base hb (by omega)) (by simp [List.all_append, h3])
  have e : ∀ u, valu (b :: r ++ u) = fold64 u (fold64 r (b - base (lead b).toNat)) := fun u => by simp only [List.cons_append, valu, fold_app]
  have e' : valu (b :: (r ++ t)) = fold64 t (fold64 r (b - base (lead b).toNat)) := e t
  have lo := fold_low t (fold64 r (b - base (lead b).toNat)) h3.2
  have hi := fold_high t (fold64 r (b - base (lead b).toNat)) h3.2
  rw [e, e]
  rw [e'] at h4 h5 h6 hN
  by_cases hz : d.o = "zero" ∧ b :: (r ++ t) = [192, 128]
  · left
    refine ⟨hz.1, ?_⟩
    rw [← hz.2, show b :: (r ++ t) = (b :: r) ++ t from rfl, List.take_left' (by simp)]
  · right
    have h6 : (if d.o = "all" then 0 else least (lead b).toNat) ≤ fold64 t (fold64 r (b - base (lead b).toNat)) := by
      split
      · exact hN
      · rename_i ha
        rcases h6 with h6 | h6 | h6
        · exact absurd h6 ha
        · exact absurd h6 hz
        · have : least (lead b).toNat = least ((r ++ t).length + 1) := congrArg least (by simp; omega)
          rw [this]; exact h6
    generalize (if d.o = "all" then 0 else least (lead b).toNat) = le at *
    refine ⟨by omega, ?_⟩
    rcases h5 with h5 | h5 | h5
    · exact .inl h5
    · exact .inr (.inl (by omega))
    · exact .inr (.inr (by omega))
end BB

namespace BB
open PySem
theorem lead_cases (b : Int) : lead b = 0 ∨ (lead b = 1 ∧ b < 128) ∨ (lead b = 2 ∧ 192 ≤ b ∧ b < 224) ∨ (lead b = 3 ∧ 224 ≤ b ∧ b < 240) ∨ (lead b = 4 ∧ 240 ≤ b ∧ b < 248) := by
  unfold lead
  split
  · right; left; omega
  · split
    · left; rfl
    · split
      · right; right; left; omega
      · split
        · right; right; right; left; omega
        · right; right; right; right; omega
/-- closing a row of a given form -/
theorem vld_mk {d : Dc} {b : Int} {r t : List Int} {n : Nat} (hn : lead b = n) (hr : r.length + 1 + t.length = n) (h : beg d (b :: r) = true) (ht : ∀ x ∈ t, x ∈ smp)
    (hz : d.o = "zero" → b :: r = ([192, 128] : List Int).take (r.length + 1) → b :: r ++ t = [192, 128])
    (hv : max (valu (b :: r ++ List.replicate t.length 128)) (if d.o = "all" then 0 else least n) ≤ min (valu (b :: r ++ List.replicate t.length 191)) 1114111 →
      (valu (b :: r ++ t) ≤ 1114111 ∧ (d.o = "all" ∨ least n ≤ valu (b :: r ++ t)) ∧ ((max (valu (b :: r ++ List.replicate t.length 128)) (if d.o = "all" then 0 else least n) < 55296 ∨ 57343 < min (valu (b :: r ++ List.replicate t.length 191)) 1114111) → valu (b :: r ++ t) < 55296 ∨ 57343 < valu (b :: r ++ t)))) :
    ∃ t, (∀ x ∈ t, x ∈ smp) ∧ (r.length : Int) + 1 + t.length = lead b ∧ vld d (b :: r ++ t) = true := by
  refine ⟨t, ht, by omega, ?_⟩
  rw [beg_iff] at h
  obtain ⟨⟨h1, h2⟩, h3, h4⟩ := h
  have hm : (lead b).toNat - (r.length + 1) = t.length := by omega
  have hnn : (lead b).toNat = n := by omega
  rw [hm, hnn] at h4
  have hall : (r ++ t).all isCb = true := by
    rw [List.all_append, h3, Bool.true_and, List.all_eq_true]
    exact fun x hx => smp_cont (ht x hx)
  rw [List.cons_append, vld_iff]
  refine ⟨by simp; omega, h2, hall, ?_⟩
  have hlen : (r ++ t).length + 1 = n := by simp; omega
  rw [hlen]
  rcases h4 with ⟨z1, z2⟩ | ⟨a1, a2⟩
  · have e := hz z1 z2
    rw [List.cons_append] at e
    rw [e]
    exact ⟨by decide, .inr (.inl (by decide)), .inr (.inl ⟨z1, rfl⟩)⟩
  · obtain ⟨v1, v2, v3⟩ := hv a1
    rw [List.cons_append] at v1 v2 v3
    refine ⟨v1, ?_, ?_⟩
    · rcases a2 with a2 | a2
      · exact .inl a2
      · exact .inr (v3 a2)
    · rcases v2 with v2 | v2
      · exact .inl v2
      · exact .inr (.inr v2)
theorem vld_of_beg {d : Dc} {b : Int} {r : List Int} (hb : 0 ≤ b) (h : beg d (b :: r) = true) : ∃ t, (∀ x ∈ t, x ∈ smp) ∧ (r.length : Int) + 1 + t.length = lead b ∧ vld d (b :: r ++ t) = true := by
  have hbi := beg_iff.mp h
  obtain ⟨⟨h1, h2⟩, h3, _⟩ := hbi
  have s128 : ∀ x ∈ ([128] : List Int), x ∈ smp := by decide
  have s2 : ∀ x ∈ ([128, 128] : List Int), x ∈ smp := by decide
  have s2' : ∀ x ∈ ([160, 128] : List Int), x ∈ smp := by decide
  have s3 : ∀ x ∈ ([128, 128, 128] : List Int), x ∈ smp := by decide
  have s3' : ∀ x ∈ ([144, 128, 128] : List Int), x ∈ smp := by decide
  have s0 : ∀ x ∈ ([] : List Int), x ∈ smp := by decide
  rcases lead_cases b with e | ⟨e, e1⟩ | ⟨e, e1, e2⟩ | ⟨e, e1, e2⟩ | ⟨e, e1, e2⟩
  · omega
  · match r, h, h1, h3 with
    | [], h, h1, h3 =>
      refine vld_mk (n := 1) (t := []) e rfl h s0 ?_ ?_
      · intro _ hh; simp at hh; omega
      · simp only [valu, e, fold64, base, least, List.length_nil, List.replicate, List.append_nil, List.foldl_nil, Int.toNat]; intro hh; split at hh <;> simp_all <;> omega
    | _ :: r, h, h1, h3 => simp only [List.length_cons] at h1; omega
  · match r, h, h1, h3 with
    | [], h, h1, h3 =>
      refine vld_mk (n := 2) (t := [128]) e rfl h s128 ?_ ?_
      · intro _ hh; simp at hh; simp [hh]
      · simp only [valu, e, fold64, base, least, List.length_cons, List.length_nil, List.replicate, List.cons_append, List.nil_append, List.foldl_cons, List.foldl_nil, Int.toNat]; intro hh; by_cases ha : d.o = "all" <;> simp only [ha, if_true, if_false, true_or, false_or, true_and] at hh ⊢ <;> omega
    | [c], h, h1, h3 =>
      refine vld_mk (n := 2) (t := []) e rfl h s0 ?_ ?_
      · intro _ hh; simpa using hh
      · simp only [valu, e, fold64, base, least, List.length_cons, List.length_nil, List.replicate, List.cons_append, List.nil_append, List.append_nil, List.foldl_cons, List.foldl_nil, Int.toNat]; intro hh; by_cases ha : d.o = "all" <;> simp only [ha, if_true, if_false, true_or, false_or, true_and] at hh ⊢ <;> omega
    | _ :: _ :: r, h, h1, h3 => simp only [List.length_cons] at h1; omega
  · match r, h, h1, h3 with
    | [], h, h1, h3 =>
      by_cases hV : b = 224 ∧ d.o ≠ "all"
      · refine vld_mk (n := 3) (t := [160, 128]) e rfl h s2' ?_ ?_
        · intro _ hh; simp at hh; omega
        · simp only [valu, e, fold64, base, least, List.length_cons, List.length_nil, List.replicate, List.cons_append, List.nil_append, List.foldl_cons, List.foldl_nil, Int.toNat]; intro hh; by_cases ha : d.o = "all" <;> simp only [ha, if_true, if_false, true_or, false_or, true_and] at hh ⊢ <;> omega
      · refine vld_mk (n := 3) (t := [128, 128]) e rfl h s2 ?_ ?_
        · intro _ hh; simp at hh; omega
        · simp only [valu, e, fold64, base, least, List.length_cons, List.length_nil, List.replicate, List.cons_append, List.nil_append, List.foldl_cons, List.foldl_nil, Int.toNat]; intro hh; by_cases ha : d.o = "all" <;> simp only [ha, if_true, if_false, true_or, false_or, true_and, ne_eq, not_true, not_false_iff, and_true, and_false] at hh hV ⊢ <;> omega
    | [c], h, h1, h3 =>
      refine vld_mk (n := 3) (t := [128]) e rfl h s128 ?_ ?_
      · intro _ hh; simp at hh; omega
      · simp only [valu, e, fold64, base, least, List.length_cons, List.length_nil, List.replicate, List.cons_append, List.nil_append, List.append_nil, List.foldl_cons, List.foldl_nil, Int.toNat]; intro hh; by_cases ha : d.o = "all" <;> simp only [ha, if_true, if_false, true_or, false_or, true_and] at hh ⊢ <;> omega
    | [c, f], h, h1, h3 =>
      refine vld_mk (n := 3) (t := []) e rfl h s0 ?_ ?_
      · intro _ hh; simp at hh
      · simp only [valu, e, fold64, base, least, List.length_cons, List.length_nil, List.replicate, List.cons_append, List.nil_append, List.append_nil, List.foldl_cons, List.foldl_nil, Int.toNat]; intro hh; by_cases ha : d.o = "all" <;> simp only [ha, if_true, if_false, true_or, false_or, true_and] at hh ⊢ <;> omega
    | _ :: _ :: _ :: r, h, h1, h3 => simp only [List.length_cons] at h1; omega
  · match r, h, h1, h3 with
    | [], h, h1, h3 =>
      by_cases hV : b = 240 ∧ d.o ≠ "all"
      · refine vld_mk (n := 4) (t := [144, 128, 128]) e rfl h s3' ?_ ?_
        · intro _ hh; simp at hh; omega
        · simp only [valu, e, fold64, base, least, List.length_cons, List.length_nil, List.replicate, List.cons_append, List.nil_append, List.foldl_cons, List.foldl_nil, Int.toNat]; intro hh; by_cases ha : d.o = "all" <;> simp only [ha, if_true, if_false, true_or, false_or, true_and] at hh ⊢ <;> omega
      · refine vld_mk (n := 4) (t := [128, 128, 128]) e rfl h s3 ?_ ?_
        · intro _ hh; simp at hh; omega
        · simp only [valu, e, fold64, base, least, List.length_cons, List.length_nil, List.replicate, List.cons_append, List.nil_append, List.foldl_cons, List.foldl_nil, Int.toNat]; intro hh; by_cases ha : d.o = "all" <;> simp only [ha, if_true, if_false, true_or, false_or, true_and, ne_eq, not_true, not_false_iff, and_true, and_false] at hh hV ⊢ <;> omega
    | [c], h, h1, h3 =>
      refine vld_mk (n := 4) (t := [128, 128]) e rfl h s2 ?_ ?_
      · intro _ hh; simp at hh; omega
      · simp only [valu, e, fold64, base, least, List.length_cons, List.length_nil, List.replicate, List.cons_append, List.nil_append, List.append_nil, List.foldl_cons, List.foldl_nil, Int.toNat]; intro hh; by_cases ha : d.o = "all" <;> simp only [ha, if_true, if_false, true_or, false_or, true_and] at hh ⊢ <;> omega
    | [c, f], h, h1, h3 =>
      refine vld_mk (n := 4) (t := [128]) e rfl h s128 ?_ ?_
      · intro _ hh; simp at hh
      · simp only [valu, e, fold64, base, least, List.length_cons, List.length_nil, List.replicate, List.cons_append, List.nil_append, List.append_nil, List.foldl_cons, List.foldl_nil, Int.toNat]; intro hh; by_cases ha : d.o = "all" <;> simp only [ha, if_true, if_false, true_or, false_or, true_and] at hh ⊢ <;> omega
    | [c, f, k], h, h1, h3 =>
      refine vld_mk (n := 4) (t := []) e rfl h s0 ?_ ?_
      · intro _ hh; simp at hh
      · simp only [valu, e, fold64, base, least, List.length_cons, List.length_nil, List.replicate, List.cons_append, List.nil_append, List.append_nil, List.foldl_cons, List.foldl_nil, Int.toNat]; intro hh; by_cases ha : d.o = "all" <;> simp only [ha, if_true, if_false, true_or, false_or, true_and] at hh ⊢ <;> omega
    | _ :: _ :: _ :: _ :: r, h, h1, h3 => simp only [List.length_cons] at h1; omega
/-- the law's own beginnings are the program's -/
theorem lbeg_eq {d : Dc} {s : List Int} (hs : Byts s) (h0 : s ≠ []) : lbeg d s = beg d s := by
  match s, h0 with
  | b :: r, _ =>
  rw [Bool.eq_iff_iff]
  unfold lbeg
  simp only [List.any_eq_true, List.mem_range]
  constructor
  · rintro ⟨k, hk, x, hx, hv⟩
    obtain ⟨t, _, _, rfl⟩ := (mem_lrows _ _ _).mp hx
    exact beg_of_vld hs.head.1 hv
  · intro h
    obtain ⟨t, h1, h2, h3⟩ := vld_of_beg hs.head.1 h
    have := lead_range b
    exact ⟨t.length, by simp only [List.length_cons]; omega, b :: r ++ t, (mem_lrows _ _ _).mpr ⟨t, rfl, h1, rfl⟩, h3⟩
/-- valid rows are the beginnings of full length -/
theorem vld_beg {d : Dc} {b : Int} {r : List Int} (hb : 0 ≤ b) : vld d (b :: r) = true ↔ lead b = r.length + 1 ∧ beg d (b :: r) = true := by
  constructor
  · intro h
    exact ⟨(vld_iff.mp h).1, beg_of_vld (t := []) hb (by simpa using h)⟩
  · rintro ⟨h1, h2⟩
    obtain ⟨t, _, h3, h4⟩ := vld_of_beg hb h2
    have : t = [] := List.length_eq_zero_iff.mp (by omega)
    rw [this] at h4; simpa using h4
end BB

/-! ## pieces and cuts -/
namespace BB
open PySem
theorem gsz_lead {d : Dc} {b : Int} {r : List Int} (h : 0 < gsz d (b :: r)) : (gsz d (b :: r) : Int) = lead b ∧ beg d ((b :: r).take (gsz d (b :: r))) = true := by
  simp only [gsz] at h ⊢
  split at h
  · rename_i hh; rw [if_pos hh]; exact ⟨by omega, hh.2.2⟩
  · omega
theorem valu_nonneg {d : Dc} {b : Int} {r : List Int} (hb : 0 ≤ b) (h : beg d (b :: r) = true) : 0 ≤ valu (b :: r) := by
  obtain ⟨⟨h1, _⟩, h3, _⟩ := beg_iff.mp h
  exact fold_nonneg r (lead_base hb (by omega)) h3
theorem pval_cases {d : Dc} {b : Int} {r : List Int} (hb : 0 ≤ b) : (0 < gsz d (b :: r) ∧ 0 ≤ pval d (b :: r)) ∨ (gsz d (b :: r) = 0 ∧ pval d (b :: r) = -1) := by
  by_cases h : 0 < gsz d (b :: r)
  · left
    refine ⟨h, ?_⟩
    obtain ⟨_, h2⟩ := gsz_lead h
    unfold pval
    rw [if_pos h]
    obtain ⟨n, hn⟩ : ∃ n, gsz d (b :: r) = n + 1 := ⟨gsz d (b :: r) - 1, by omega⟩
    rw [hn] at h2 ⊢
    exact valu_nonneg hb h2
  · right; unfold pval; rw [if_neg h]; exact ⟨by omega, rfl⟩
theorem pcsN_val {d : Dc} : ∀ (f p : Nat) (s : List Int), Byts s → ∀ x ∈ pcsN d f p s, x.2.2 = -1 ∨ 0 ≤ x.2.2
  | 0, _, _, _, x, h => by simp [pcsN] at h
  | f + 1, p, [], _, x, h => by simp [pcsN] at h
  | f + 1, p, b :: r, hs, x, h => by
    simp only [pcsN, List.mem_cons] at h
    rcases h with rfl | h
    · rcases pval_cases (d := d) (r := r) hs.head.1 with e | e
      · exact .inr e.2
      · exact .inl e.2
    · exact pcsN_val f _ _ (hs.drop _) x h
theorem pcs_val {d : Dc} {p : Nat} {s : List Int} (hs : Byts s) {x : Nat × Nat × Int} (h : x ∈ pcs d p s) : x.2.2 = -1 ∨ 0 ≤ x.2.2 := pcsN_val _ _ _ hs x h
def bnds (d : Dc) (s : List Int) : List Int := (pcs d 0 s).map (fun x => (x.1 : Int)) ++ [(s.length : Int)]
def safe (d : Dc) (s : List Int) (p : Nat) : Bool := decide (res d (s.take p) ++ res d (s.drop p) = res d s)
theorem bnds_mem {d : Dc} {s : List Int} {k : Int} (h : k ∈ bnds d s) : 0 ≤ k ∧ k ≤ s.length := by
  simp only [bnds, List.mem_append, List.mem_map, List.mem_singleton] at h
  rcases h with ⟨x, hx, rfl⟩ | rfl
  · have := pcs_in hx; omega
  · omega
theorem res_len (d : Dc) (s : List Int) : (res d s).length ≤ s.length := Nat.le_trans (its_len d s _ _) (pcs_len d 0 s)
end BB

/-! ## items without places; boundaries and cuts -/
namespace BB
open PySem
def itm (d : Dc) (a : Bool) (b : Int) (r : List Int) : List Int := if pval d (b :: r) ≠ -1 then [pval d (b :: r)] else bitm d.p b a
def bad (d : Dc) (s : List Int) : Bool := decide (pval d s = -1)
def rsN (d : Dc) : Nat → Bool → List Int → List Int
  | 0, _, _ => []
  | f + 1, a, s => match s with
    | [] => []
    | b :: r => itm d a b r ++ rsN d f (bad d (b :: r)) ((b :: r).drop (szO d (b :: r)))
def rs (d : Dc) (a : Bool) (s : List Int) : List Int := rsN d s.length a s
theorem rsN_more (d : Dc) : ∀ (f f' : Nat) (a : Bool) (s : List Int), s.length ≤ f → s.length ≤ f' → rsN d f a s = rsN d f' a s
  | 0, f', a, s, h, h' => by
    have : s = [] := List.length_eq_zero_iff.mp (by omega)
    subst this
    cases f' <;> rfl
  | f + 1, 0, a, s, h, h' => by
    have : s = [] := List.length_eq_zero_iff.mp (by omega)
    subst this
    rfl
  | f + 1, f' + 1, a, [], h, h' => rfl
  | f + 1, f' + 1, a, b :: r, h, h' => by
    have := szO_range d b r
    simp only [rsN]
    rw [rsN_more d f f']
    · simp only [List.length_drop, List.length_cons] at *; omega
    · simp only [List.length_drop, List.length_cons] at *; omega
@[simp] theorem rs_nil (d : Dc) (a : Bool) : rs d a [] = [] := rfl
theorem rs_cons (d : Dc) (a : Bool) (b : Int) (r : List Int) : rs d a (b :: r) = itm d a b r ++ rs d (bad d (b :: r)) ((b :: r).drop (szO d (b :: r))) := by
  have := szO_range d b r
  unfold rs
  simp only [List.length_cons, rsN]
  rw [rsN_more d r.length]
  · simp only [List.length_drop, List.length_cons] at *; omega
  · exact Nat.le_refl _
theorem its_rs (d : Dc) (S : List Int) : ∀ (n p : Nat) (a : Bool), S.length - p ≤ n → its d S (pcs d p (S.drop p)) a = rs d a (S.drop p)
  | 0, p, a, h => by rw [List.drop_eq_nil_of_le (by omega)]; rfl
  | n + 1, p, a, h => by
    by_cases hp : p < S.length
    · obtain ⟨b, r, hbr, hb⟩ : ∃ b r, S.drop p = b :: r ∧ S.getD p 0 = b := ⟨S[p], S.drop (p + 1), List.drop_eq_getElem_cons hp, by simp [List.getD_eq_getElem?_getD, hp]⟩
      have hz := szO_range d b r
      rw [hbr, pcs_cons, rs_cons]
      simp only [its]
      rw [hb]
      have hdd : (b :: r).drop (szO d (b :: r)) = S.drop (p + szO d (b :: r)) := by rw [← hbr, List.drop_drop]
      rw [hdd, its_rs d S n (p + szO d (b :: r)) _ (by omega)]
      rfl
    · rw [List.drop_eq_nil_of_le (by omega)]; rfl
theorem res_rs (d : Dc) (s : List Int) : res d s = rs d false s := by
  have := its_rs d s s.length 0 false (by omega)
  simpa [res] using this
/-! ### a piece does not look behind its end -/
theorem gsz_take {d : Dc} {b : Int} {r : List Int} {q : Nat} (hq : szO d (b :: r) ≤ q) : gsz d ((b :: r).take q) = gsz d (b :: r) := by
  have hz := szO_range d b r
  have hl := lead_range b
  obtain ⟨q, rfl⟩ : ∃ k, q = k + 1 := ⟨q - 1, by omega⟩
  rw [List.take_succ_cons]
  by_cases h : 0 < gsz d (b :: r)
  · have hs : szO d (b :: r) = gsz d (b :: r) := by unfold szO; rw [if_pos h]
    obtain ⟨h1, h2⟩ := gsz_lead h
    have hle := gsz_le d (b :: r)
    simp only [List.length_cons] at hle
    have ht : (b :: r.take q).take (lead b).toNat = (b :: r).take (lead b).toNat := by
      rw [← List.take_succ_cons, List.take_take, Nat.min_eq_left (by omega)]
    simp only [gsz]
    rw [ht, if_pos ⟨by omega, by simp; omega, by rw [show (lead b).toNat = gsz d (b :: r) by omega]; exact h2⟩, if_pos ⟨by omega, by omega, by rw [show (lead b).toNat = gsz d (b :: r) by omega]; exact h2⟩]
  · have h0 : gsz d (b :: r) = 0 := by omega
    rw [h0]
    simp only [gsz] at h0 ⊢
    split at h0
    · omega
    · rename_i hh
      rw [if_neg]
      rintro ⟨a1, a2, a3⟩
      have hql : (r.take q).length ≤ r.length := by simp; omega
      have hqq : (r.take q).length ≤ q := by simp; omega
      have ht : (b :: r.take q).take (lead b).toNat = (b :: r).take (lead b).toNat := by
        rw [← List.take_succ_cons, List.take_take, Nat.min_eq_left (by omega)]
      rw [ht] at a3
      exact hh ⟨a1, by omega, a3⟩
theorem pfx_take {d : Dc} {s : List Int} {q : Nat} : ∀ (f k : Nat), pfx d s f k ≤ q → pfx d (s.take q) f k = pfx d s f k
  | 0, k, h => rfl
  | f + 1, k, h => by
    unfold pfx at h ⊢
    by_cases c : k < s.length ∧ beg d (s.take (k + 1)) = true
    · rw [if_pos c] at h ⊢
      have hk := pfx_le' d s f (k + 1)
      rw [if_pos ⟨by simp; omega, by rw [List.take_take, Nat.min_eq_left (by omega)]; exact c.2⟩]
      exact pfx_take f (k + 1) h
    · rw [if_neg c]
      rw [if_neg]
      rintro ⟨a1, a2⟩
      simp only [List.length_take] at a1
      rw [List.take_take, Nat.min_eq_left (by omega)] at a2
      exact c ⟨by omega, a2⟩
where
  pfx_le' (d : Dc) (s : List Int) : ∀ f k, k ≤ pfx d s f k
  | 0, k => Nat.le_refl _
  | f + 1, k => by
    unfold pfx
    split
    · have := pfx_le' d s f (k + 1); omega
    · omega
theorem conts_take : ∀ (m q : Nat) (r : List Int), conts m r ≤ q → conts m (r.take q) = conts m r
  | 0, q, r, h => by simp [conts]
  | m + 1, q, [], h => by simp
  | m + 1, 0, c :: r, h => by
    simp only [conts] at h
    split at h
    · omega
    · rename_i hc; simp [conts, hc]
  | m + 1, q + 1, c :: r, h => by
    simp only [List.take_succ_cons, conts] at h ⊢
    by_cases hc : isCb c = true
    · rw [if_pos hc] at h ⊢
      rw [if_pos hc, conts_take m q r (by omega)]
    · rw [if_neg hc, if_neg hc]
theorem szO_take {d : Dc} {b : Int} {r : List Int} {q : Nat} (hq : szO d (b :: r) ≤ q) : szO d ((b :: r).take q) = szO d (b :: r) ∧ pval d ((b :: r).take q) = pval d (b :: r) := by
  have hz := szO_range d b r
  have hg := gsz_take hq
  have hgl := gsz_le d (b :: r)
  refine ⟨?_, ?_⟩
  · unfold szO at hq ⊢
    rw [hg]
    by_cases h : 0 < gsz d (b :: r)
    · rw [if_pos h, if_pos h]
    · rw [if_neg h] at hq ⊢
      rw [if_neg h]
      obtain ⟨q, rfl⟩ : ∃ k, q = k + 1 := ⟨q - 1, by have := bsz_range d b r; omega⟩
      rw [List.take_succ_cons]
      simp only [bsz] at hq ⊢
      split
      · rename_i e; rw [if_pos e] at hq; simp; omega
      · rename_i e1
        rw [if_neg e1] at hq
        split
        · rename_i e; rw [if_pos e] at hq
          rw [← List.take_succ_cons]; exact pfx_take 4 1 hq
        · rename_i e2
          rw [if_neg e2] at hq
          split
          · rename_i e; rw [if_pos e] at hq
            rw [conts_take _ _ _ (by omega)]
          · rfl
  · unfold pval
    rw [hg]
    by_cases h : 0 < gsz d (b :: r)
    · rw [if_pos h, if_pos h, List.take_take, Nat.min_eq_left]
      unfold szO at hq; rw [if_pos h] at hq; exact hq
    · rw [if_neg h, if_neg h]
/-! ### boundaries: Bd a s q a' -- from a (was the piece before bad) to a' -/
inductive Bd (d : Dc) : Bool → List Int → Nat → Bool → Prop
  | zero (a : Bool) (s : List Int) : Bd d a s 0 a
  | step (a : Bool) (b : Int) (r : List Int) (q : Nat) (a' : Bool) : Bd d (bad d (b :: r)) ((b :: r).drop (szO d (b :: r))) q a' → Bd d a (b :: r) (szO d (b :: r) + q) a'
inductive In (d : Dc) : Bool → List Int → Nat → Prop
  | here (a : Bool) (b : Int) (r : List Int) (j : Nat) : 0 < j → j < szO d (b :: r) → In d a (b :: r) j
  | step (a : Bool) (b : Int) (r : List Int) (q : Nat) : In d (bad d (b :: r)) ((b :: r).drop (szO d (b :: r))) q → In d a (b :: r) (szO d (b :: r) + q)
theorem bd_or_in (d : Dc) : ∀ (n : Nat) (a : Bool) (s : List Int) (q : Nat), s.length ≤ n → q ≤ s.length → (∃ a', Bd d a s q a') ∨ In d a s q
  | n, a, s, 0, _, _ => .inl ⟨a, .zero a s⟩
  | 0, a, s, q + 1, h, h' => by omega
  | n + 1, a, [], q + 1, h, h' => by simp at h'
  | n + 1, a, b :: r, q + 1, h, h' => by
    have hz := szO_range d b r
    simp only [List.length_cons] at h h'
    by_cases c : q + 1 < szO d (b :: r)
    · exact .inr (.here a b r _ (by omega) c)
    · rcases bd_or_in d n (bad d (b :: r)) ((b :: r).drop (szO d (b :: r))) (q + 1 - szO d (b :: r)) (by simp; omega) (by simp; omega) with ⟨a', e⟩ | e
      · have := Bd.step a b r _ a' e
        rw [show szO d (b :: r) + (q + 1 - szO d (b :: r)) = q + 1 by omega] at this
        exact .inl ⟨a', this⟩
      · have := In.step a b r _ e
        rw [show szO d (b :: r) + (q + 1 - szO d (b :: r)) = q + 1 by omega] at this
        exact .inr this
/-- the division of a string that is cut behind the first piece -/
theorem rs_take (d : Dc) (a : Bool) (b : Int) (r : List Int) (q : Nat) : rs d a ((b :: r).take (szO d (b :: r) + q)) = itm d a b r ++ rs d (bad d (b :: r)) (((b :: r).drop (szO d (b :: r))).take q) := by
  have hz := szO_range d b r
  obtain ⟨h1, h2⟩ := szO_take (d := d) (b := b) (r := r) (q := szO d (b :: r) + q) (by omega)
  obtain ⟨z, hz'⟩ : ∃ z, szO d (b :: r) + q = z + 1 := ⟨szO d (b :: r) + q - 1, by omega⟩
  rw [hz'] at h1 h2 ⊢
  rw [List.take_succ_cons] at h1 h2 ⊢
  rw [rs_cons, h1]
  have hi : itm d a b (r.take z) = itm d a b r := by unfold itm; rw [h2]
  have hb : bad d (b :: r.take z) = bad d (b :: r) := by unfold bad; rw [h2]
  rw [hi, hb]
  congr 2
  rw [← List.take_succ_cons, ← hz', List.drop_take]
  congr 1; omega
theorem rs_bd {d : Dc} {a : Bool} {s : List Int} {q : Nat} {a' : Bool} (h : Bd d a s q a') : rs d a (s.take q) ++ rs d a' (s.drop q) = rs d a s := by
  induction h with
  | zero a s => simp
  | step a b r q a' _ ih =>
    rw [rs_take, ← List.drop_drop, List.append_assoc, ih, rs_cons]
/-- what stands ahead of a piece matters only under the policy run -/
theorem rs_any {d : Dc} (a a' : Bool) (s : List Int) (h : d.p ≠ "run" ∨ s = [] ∨ bad d s = false ∨ a = a') : rs d a s = rs d a' s := by
  cases s with
  | nil => rfl
  | cons b r =>
    rw [rs_cons, rs_cons]
    congr 1
    unfold itm
    rcases h with h | h | h | h
    · simp [bitm, h]
    · cases h
    · have h : ¬ pval d (b :: r) = -1 := of_decide_eq_false h
      simp [h]
    · rw [h]
theorem rs_run {d : Dc} {b : Int} {r : List Int} (h : d.p = "run") (hb : bad d (b :: r) = true) : rs d false (b :: r) = -1 :: rs d true (b :: r) := by
  have hb' : pval d (b :: r) = -1 := of_decide_eq_true hb
  rw [rs_cons, rs_cons]
  simp [itm, hb', bitm, h]
/-- cuts at boundaries -/
theorem safe_bd {d : Dc} {s : List Int} {q : Nat} {a' : Bool} (h : Bd d false s q a') : safe d s q = !(decide (d.p = "run") && a' && !(s.drop q).isEmpty && bad d (s.drop q)) := by
  unfold safe
  rw [res_rs, res_rs, res_rs, ← rs_bd h]
  by_cases c : d.p = "run" ∧ a' = true ∧ s.drop q ≠ [] ∧ bad d (s.drop q) = true
  · obtain ⟨c1, c2, c3, c4⟩ := c
    cases hs : s.drop q with
    | nil => exact absurd hs c3
    | cons b r =>
      rw [hs] at c4
      rw [rs_run c1 c4, c2]
      simp only [c1, c4, decide_true, List.isEmpty_cons, Bool.not_false, Bool.and_true, Bool.not_true, decide_eq_false_iff_not]
      intro h
      have := congrArg List.length h
      simp at this
  · have : rs d false (s.drop q) = rs d a' (s.drop q) := by
      apply rs_any
      by_cases c1 : d.p = "run"
      · by_cases c2 : a' = true
        · by_cases c3 : s.drop q = []
          · exact .inr (.inl c3)
          · right; right; left
            rw [← Bool.not_eq_true]
            exact fun c4 => c ⟨c1, c2, c3, c4⟩
        · right; right; right
          cases a'
          · rfl
          · exact absurd rfl c2
      · exact .inl c1
    rw [this]
    simp only [decide_true]
    symm
    rw [Bool.not_eq_true', ← Bool.not_eq_true]
    simp only [Bool.and_eq_true, decide_eq_true_eq, Bool.not_eq_true', List.isEmpty_eq_false_iff]
    rintro ⟨⟨⟨c1, c2⟩, c3⟩, c4⟩
    exact c ⟨c1, c2, c3, c4⟩
end BB

/-! ## no safe cut inside a piece -/
namespace BB
open PySem
theorem lead_cont {c : Int} (h : isCb c = true) : lead c = 0 := by
  rw [isCb_iff] at h
  unfold lead
  rw [if_neg (by omega), if_pos (by omega)]
theorem gsz_cont {d : Dc} {c : Int} {r : List Int} (h : isCb c = true) : gsz d (c :: r) = 0 := by
  simp only [gsz, lead_cont h]
  rw [if_neg (by omega)]
theorem beg_cont {d : Dc} {c : Int} {r : List Int} (h : isCb c = true) : beg d (c :: r) = false := by
  rw [← Bool.not_eq_true, beg_iff, lead_cont h]
  rintro ⟨⟨h1, _⟩, _⟩
  omega
theorem bad_cont {d : Dc} {c : Int} {r : List Int} (h : isCb c = true) : bad d (c :: r) = true ∧ pval d (c :: r) = -1 := by
  have : pval d (c :: r) = -1 := by unfold pval; rw [gsz_cont h]; rfl
  exact ⟨decide_eq_true this, this⟩
theorem szO_cont {d : Dc} {c : Int} {r : List Int} (h : isCb c = true) (hp : d.p ≠ "stop") : szO d (c :: r) = 1 := by
  unfold szO
  rw [gsz_cont h]
  simp only [Nat.lt_irrefl, if_false, bsz, if_neg hp]
  split
  · unfold pfx
    rw [if_neg]
    rintro ⟨_, h2⟩
    rw [List.take_succ_cons, beg_cont h] at h2
    cases h2
  · split
    · rw [lead_cont h]; simp [conts]
    · rfl
theorem rs_cont {d : Dc} {a : Bool} {c : Int} {r : List Int} (h : isCb c = true) (hp : d.p ≠ "stop") : rs d a (c :: r) = bitm d.p c a ++ rs d true r := by
  rw [rs_cons, szO_cont h hp, (bad_cont h).1]
  unfold itm
  rw [(bad_cont h).2]
  rfl
/-- the bytes of a piece behind its first one -/
theorem piece_conts {d : Dc} {b : Int} {r : List Int} (hp : d.p ≠ "stop" ∨ 0 < gsz d (b :: r)) : (r.take (szO d (b :: r) - 1)).all isCb = true := by
  by_cases h : 0 < gsz d (b :: r)
  · have hs : szO d (b :: r) = gsz d (b :: r) := by unfold szO; rw [if_pos h]
    obtain ⟨_, h2⟩ := gsz_lead h
    rw [hs]
    obtain ⟨n, hn⟩ : ∃ n, gsz d (b :: r) = n + 1 := ⟨gsz d (b :: r) - 1, by omega⟩
    rw [hn] at h2 ⊢
    exact (beg_iff.mp h2).2.1
  · have hs : szO d (b :: r) = bsz d (b :: r) := by unfold szO; rw [if_neg h]
    rw [hs]
    have hp : d.p ≠ "stop" := by rcases hp with hp | hp; exact hp; exact absurd hp h
    simp only [bsz, if_neg hp]
    split
    · have key : ∀ f k, 1 ≤ k → (r.take (k - 1)).all isCb = true → (r.take (pfx d (b :: r) f k - 1)).all isCb = true := by
        intro f
        induction f with
        | zero => intro k _ hk; exact hk
        | succ f ih =>
          intro k k1 hk
          unfold pfx
          split
          · rename_i c
            apply ih (k + 1) (by omega)
            have := c.2
            rw [List.take_succ_cons] at this
            exact (beg_iff.mp this).2.1
          · exact hk
      exact key 4 1 (by omega) (by simp)
    · split
      · have key : ∀ m (r : List Int), (r.take (conts m r)).all isCb = true := by
          intro m
          induction m with
          | zero => intro r; simp [conts]
          | succ m ih =>
            intro r
            cases r with
            | nil => simp
            | cons c r =>
              simp only [conts]
              split
              · rename_i hc
                rw [List.take_succ_cons, List.all_cons, hc, ih r]; rfl
              · simp
        rw [Nat.add_sub_cancel_left]
        exact key _ r
      · simp
/-- first item negative, if there is one -/
def negF : List Int → Prop
  | [] => True
  | x :: _ => x < 0
theorem bitm_neg {p : Str} {b : Int} (hb : 0 < b) (a : Bool) : negF (bitm p b a) := by
  unfold bitm
  split
  · simp [negF]; omega
  · split
    · trivial
    · simp [negF]
theorem bitm_ne {p : Str} {b : Int} (h : p ≠ "skip") : bitm p b false ≠ [] := by
  unfold bitm
  split
  · simp
  · rw [if_neg (by simp [h])]; simp
/-- items of continuation bytes alone -/
theorem rs_conts_neg {d : Dc} (hp : d.p ≠ "stop") : ∀ (t : List Int) (a : Bool), t.all isCb = true → negF (rs d a t)
  | [], a, _ => by simp [negF]
  | c :: t, a, h => by
    simp only [List.all_cons, Bool.and_eq_true] at h
    rw [rs_cont h.1 hp]
    have hc := isCb_iff.mp h.1
    have h1 := bitm_neg (p := d.p) (b := c) (by omega) a
    cases e : bitm d.p c a with
    | nil => exact rs_conts_neg hp t true h.2
    | cons x y => rw [e] at h1; exact h1
theorem rs_conts_app {d : Dc} (hp : d.p ≠ "stop") : ∀ (t u : List Int) (a : Bool), t.all isCb = true → t ≠ [] → ∃ x : List Int, rs d a (t ++ u) = x ++ rs d true u ∧ (d.p = "skip" → x = []) ∧ ((d.p = "prefix" ∨ d.p = "announced") → x.length = t.length)
  | [], u, a, _, h => absurd rfl h
  | c :: t, u, a, h, _ => by
    simp only [List.all_cons, Bool.and_eq_true] at h
    rw [List.cons_append, rs_cont h.1 hp]
    have hb1 : d.p = "skip" → bitm d.p c a = [] := fun e => by simp [bitm, e]
    have hb2 : (d.p = "prefix" ∨ d.p = "announced") → (bitm d.p c a).length = 1 := fun e => by rcases e with e | e <;> simp [bitm, e]
    cases t with
    | nil => exact ⟨bitm d.p c a, rfl, hb1, fun e => by rw [hb2 e]; rfl⟩
    | cons c' t =>
      obtain ⟨x, h1, h2, h3⟩ := rs_conts_app hp (c' :: t) u true h.2 (by simp)
      refine ⟨bitm d.p c a ++ x, by rw [h1]; simp, fun e => by rw [hb1 e, h2 e]; rfl, fun e => ?_⟩
      rw [List.length_append, hb2 e, h3 e]; simp; omega
/-- a piece that is cut: its first part is bad -/
theorem gsz_cut {d : Dc} {b : Int} {r : List Int} {j : Nat} (h0 : 0 < j) (hj : j < szO d (b :: r)) : gsz d ((b :: r).take j) = 0 := by
  obtain ⟨j, rfl⟩ : ∃ k, j = k + 1 := ⟨j - 1, by omega⟩
  rw [List.take_succ_cons]
  have hl := lead_range b
  have hz := szO_range d b r
  have hlen : (r.take j).length = j := by simp; omega
  by_cases h : 0 < gsz d (b :: r)
  · have hs : szO d (b :: r) = gsz d (b :: r) := by unfold szO; rw [if_pos h]
    obtain ⟨h1, _⟩ := gsz_lead h
    simp only [gsz]
    rw [if_neg]
    rintro ⟨_, h3, _⟩
    rw [hlen] at h3
    omega
  · have h' : gsz d (b :: r) = 0 := by omega
    simp only [gsz] at h' ⊢
    rw [if_neg]
    rintro ⟨a1, a2, a3⟩
    rw [hlen] at a2
    have ht : (b :: r.take j).take (lead b).toNat = (b :: r).take (lead b).toNat := by
      rw [← List.take_succ_cons, List.take_take, Nat.min_eq_left (by omega)]
    rw [ht] at a3
    rw [if_pos ⟨a1, by omega, a3⟩] at h'
    omega
end BB

namespace BB
open PySem
theorem itm_ne {d : Dc} {a : Bool} {b : Int} {r : List Int} (h1 : d.p ≠ "skip") (h2 : d.p ≠ "run") : itm d a b r ≠ [] := by
  unfold itm bitm
  split
  · simp
  · split
    · simp
    · rw [if_neg (by simp [h1, h2])]; simp
theorem rs_ne {d : Dc} {a : Bool} {s : List Int} (hs : s ≠ []) (h1 : d.p ≠ "skip") (h2 : d.p ≠ "run") : rs d a s ≠ [] := by
  cases s with
  | nil => exact absurd rfl hs
  | cons b r => rw [rs_cons]; intro h; exact itm_ne h1 h2 (List.append_eq_nil_iff.mp h).1
theorem cut_here {d : Dc} {a : Bool} {b : Int} {r : List Int} {j : Nat} (hb : Byts (b :: r)) (h0 : 0 < j) (hj : j < szO d (b :: r)) : rs d a ((b :: r).take j) ++ rs d false ((b :: r).drop j) ≠ rs d a (b :: r) := by
  have hz := szO_range d b r
  have hg0 := gsz_cut h0 hj
  obtain ⟨j, rfl⟩ : ∃ k, j = k + 1 := ⟨j - 1, by omega⟩
  obtain ⟨z, hzz⟩ : ∃ z, szO d (b :: r) = z + 1 := ⟨szO d (b :: r) - 1, by omega⟩
  rw [List.take_succ_cons] at hg0 ⊢
  rw [List.drop_succ_cons]
  have hjl : j < r.length := by omega
  have hdr : r.drop j ≠ [] := by intro h; have := congrArg List.length h; simp at this; omega
  have hpv0 : pval d (b :: r.take j) = -1 := by unfold pval; rw [hg0]; rfl
  have hX : rs d a (b :: r.take j) = bitm d.p b a ++ rs d true ((b :: r.take j).drop (szO d (b :: r.take j))) := by
    rw [rs_cons]
    have : itm d a b (r.take j) = bitm d.p b a := by unfold itm; rw [hpv0]; rfl
    rw [this]
    have : bad d (b :: r.take j) = true := decide_eq_true hpv0
    rw [this]
  have hR : rs d a (b :: r) = itm d a b r ++ rs d (bad d (b :: r)) (r.drop z) := by rw [rs_cons, hzz, List.drop_succ_cons]
  by_cases hg : 0 < gsz d (b :: r)
  · -- a good piece is cut
    obtain ⟨hv0, hv⟩ : 0 ≤ pval d (b :: r) ∧ True := by
      rcases pval_cases (d := d) (r := r) hb.head.1 with e | e
      · exact ⟨e.2, trivial⟩
      · omega
    have hbad : bad d (b :: r) = false := decide_eq_false (by omega)
    have hitm : itm d a b r = [pval d (b :: r)] := by unfold itm; rw [if_pos (by omega)]
    rw [hR, hitm, hbad]
    have hconts := piece_conts (d := d) (b := b) (r := r) (.inr hg)
    rw [hzz, Nat.add_sub_cancel] at hconts
    have hbpos : 0 < b := by
      obtain ⟨h1, _⟩ := gsz_lead hg
      have hs : szO d (b :: r) = gsz d (b :: r) := by unfold szO; rw [if_pos hg]
      rcases lead_cases b with e | e | e | e | e <;> omega
    have ht1 : (r.take j).all isCb = true := by
      rw [List.all_eq_true] at hconts ⊢
      intro x hx
      apply hconts
      have : r.take j = (r.take z).take j := by rw [List.take_take, Nat.min_eq_left (by omega)]
      rw [this] at hx
      exact List.mem_of_mem_take hx
    have hneg : negF (rs d a (b :: r.take j)) := by
      rw [hX]
      have h1 := bitm_neg (p := d.p) hbpos a
      cases e : bitm d.p b a with
      | cons x y => rw [e] at h1; exact h1
      | nil =>
        have hns : d.p ≠ "stop" := by intro h; simp [bitm, h] at e
        rw [List.nil_append]
        apply rs_conts_neg hns
        obtain ⟨k, hk⟩ : ∃ k, szO d (b :: r.take j) = k + 1 := ⟨szO d (b :: r.take j) - 1, by have := szO_range d b (r.take j); omega⟩
        rw [hk, List.drop_succ_cons]
        rw [List.all_eq_true] at ht1 ⊢
        exact fun x hx => ht1 x (List.mem_of_mem_drop hx)
    cases hXe : rs d a (b :: r.take j) with
    | cons x y =>
      rw [hXe] at hneg
      intro h
      simp at h
      have : x < 0 := hneg
      omega
    | nil =>
      rw [List.nil_append]
      have hbe : bitm d.p b a = [] := by rw [hX] at hXe; exact (List.append_eq_nil_iff.mp hXe).1
      have hns : d.p ≠ "stop" := by intro h; simp [bitm, h] at hbe
      have hsplit : r.drop j = (r.take z).drop j ++ r.drop z := by
        conv => lhs; rw [← List.take_append_drop z r]
        rw [List.drop_append_of_le_length (by simp; omega)]
      have ht2 : ((r.take z).drop j).all isCb = true := by
        rw [List.all_eq_true] at hconts ⊢
        exact fun x hx => hconts x (List.mem_of_mem_drop hx)
      have ht2n : (r.take z).drop j ≠ [] := by intro h; have := congrArg List.length h; simp at this; omega
      by_cases hsk : d.p = "skip"
      · obtain ⟨x, h1, h2, _⟩ := rs_conts_app hns _ (r.drop z) false ht2 ht2n
        rw [hsplit, h1, h2 hsk, List.nil_append]
        rw [rs_any true false (r.drop z) (.inl (by rw [hsk]; decide))]
        intro h
        have := congrArg List.length h
        simp at this
      · cases he : r.drop j with
        | nil => exact absurd he hdr
        | cons c u =>
          have hc : isCb c = true := by
            rw [hsplit] at he
            cases hq : (r.take z).drop j with
            | nil => exact absurd hq ht2n
            | cons c' u' =>
              rw [hq] at he ht2
              simp only [List.cons_append, List.cons.injEq] at he
              rw [← he.1]
              simp only [List.all_cons, Bool.and_eq_true] at ht2
              exact ht2.1
          rw [rs_cont hc hns]
          have hcc := isCb_iff.mp hc
          have h1 := bitm_neg (p := d.p) (b := c) (by omega) false
          have h2 := bitm_ne (p := d.p) (b := c) hsk
          cases hbb : bitm d.p c false with
          | nil => exact absurd hbb h2
          | cons x y =>
            rw [hbb] at h1
            intro h
            simp at h
            have : x < 0 := h1
            omega
  · -- a bad piece is cut
    have hs : szO d (b :: r) = bsz d (b :: r) := by unfold szO; rw [if_neg hg]
    have hpv : pval d (b :: r) = -1 := by unfold pval; rw [if_neg hg]
    have hbad : bad d (b :: r) = true := decide_eq_true hpv
    have hpol : d.p = "stop" ∨ d.p = "prefix" ∨ d.p = "announced" := by
      by_cases e1 : d.p = "stop"
      · exact .inl e1
      · by_cases e2 : d.p = "prefix"
        · exact .inr (.inl e2)
        · by_cases e3 : d.p = "announced"
          · exact .inr (.inr e3)
          · exfalso
            rw [hs] at hj
            simp [bsz, e1, e2, e3] at hj
    have hn1 : d.p ≠ "skip" := by rcases hpol with e | e | e <;> rw [e] <;> decide
    have hn2 : d.p ≠ "run" := by rcases hpol with e | e | e <;> rw [e] <;> decide
    have hitm : itm d a b r = [-1] := by
      unfold itm; rw [hpv]
      rcases hpol with e | e | e <;> simp [bitm, e]
    rw [hR, hitm, hbad]
    have hXne := rs_ne (d := d) (a := a) (s := b :: r.take j) (by simp) hn1 hn2
    have hXl : 0 < (rs d a (b :: r.take j)).length := List.length_pos_iff.mpr hXne
    intro h
    have hlen := congrArg List.length h
    simp only [List.length_append, List.length_singleton] at hlen
    by_cases e1 : d.p = "stop"
    · have hzl : z = r.length := by
        have : szO d (b :: r) = r.length + 1 := by rw [hs]; simp [bsz, e1]
        omega
      have hYl : 0 < (rs d false (r.drop j)).length := List.length_pos_iff.mpr (rs_ne hdr hn1 hn2)
      rw [hzl, List.drop_length] at hlen
      simp at hlen
      omega
    · have hconts := piece_conts (d := d) (b := b) (r := r) (.inl e1)
      rw [hzz, Nat.add_sub_cancel] at hconts
      have hsplit : r.drop j = (r.take z).drop j ++ r.drop z := by
        conv => lhs; rw [← List.take_append_drop z r]
        rw [List.drop_append_of_le_length (by simp; omega)]
      have ht2 : ((r.take z).drop j).all isCb = true := by
        rw [List.all_eq_true] at hconts ⊢
        exact fun x hx => hconts x (List.mem_of_mem_drop hx)
      have ht2n : (r.take z).drop j ≠ [] := by intro h; have := congrArg List.length h; simp at this; omega
      obtain ⟨x, h1, _, h3⟩ := rs_conts_app e1 _ (r.drop z) false ht2 ht2n
      have hxl := h3 (by rcases hpol with e | e | e; exact absurd e e1; exact .inl e; exact .inr e)
      have htl : 0 < ((r.take z).drop j).length := List.length_pos_iff.mpr ht2n
      rw [hsplit, h1, List.length_append] at hlen
      omega
theorem cut_in {d : Dc} {a : Bool} {s : List Int} {q : Nat} (h : In d a s q) : Byts s → rs d a (s.take q) ++ rs d false (s.drop q) ≠ rs d a s := by
  induction h with
  | here a b r j h0 hj => exact fun hb => cut_here hb h0 hj
  | step a b r q _ ih =>
    intro hb h
    rw [rs_take, ← List.drop_drop, List.append_assoc, rs_cons] at h
    exact ih (hb.drop _) (List.append_cancel_left h)
theorem safe_in {d : Dc} {s : List Int} {q : Nat} (hs : Byts s) (h : In d false s q) : safe d s q = false := by
  unfold safe
  rw [res_rs, res_rs, res_rs]
  exact decide_eq_false (cut_in h hs)
end BB

/-! ## the boundaries as a list -/
namespace BB
open PySem
theorem sorted_eq : ∀ (x y : List Int), x.Pairwise (· < ·) → y.Pairwise (· < ·) → (∀ k, k ∈ x ↔ k ∈ y) → x = y
  | [], [], _, _, _ => rfl
  | [], b :: y, _, _, h => by have := (h b).mpr (by simp); simp at this
  | a :: x, [], _, _, h => by have := (h a).mp (by simp); simp at this
  | a :: x, b :: y, hx, hy, h => by
    rw [List.pairwise_cons] at hx hy
    have hab : a = b := by
      have h1 := (h a).mp (by simp)
      have h2 := (h b).mpr (by simp)
      simp only [List.mem_cons] at h1 h2
      rcases h1 with h1 | h1
      · exact h1
      · rcases h2 with h2 | h2
        · exact h2.symm
        · have := hx.1 b h2; have := hy.1 a h1; omega
    subst hab
    congr 1
    apply sorted_eq x y hx.2 hy.2
    intro k
    constructor
    · intro hk
      have := (h k).mp (by simp [hk])
      simp only [List.mem_cons] at this
      rcases this with e | e
      · have := hx.1 k hk; omega
      · exact e
    · intro hk
      have := (h k).mpr (by simp [hk])
      simp only [List.mem_cons] at this
      rcases this with e | e
      · have := hy.1 k hk; omega
      · exact e
theorem rangeI_sorted : ∀ (n : Nat) (lo : Int), (rangeI lo n).Pairwise (· < ·)
  | 0, lo => by simp [rangeI]
  | n + 1, lo => by
    rw [rangeI, List.pairwise_cons]
    exact ⟨fun k hk => by rw [mem_rangeI] at hk; omega, rangeI_sorted n _⟩
theorem pcsN_sorted (d : Dc) : ∀ (f p : Nat) (s : List Int), ((pcsN d f p s).map fun x => (x.1 : Int)).Pairwise (· < ·)
  | 0, _, _ => by simp [pcsN]
  | f + 1, p, [] => by simp [pcsN]
  | f + 1, p, b :: r => by
    have hz := szO_range d b r
    simp only [pcsN, List.map_cons, List.pairwise_cons]
    refine ⟨?_, pcsN_sorted d f _ _⟩
    intro k hk
    obtain ⟨x, hx, rfl⟩ := List.mem_map.mp hk
    have := pcsN_in d f _ _ x hx
    omega
theorem bnds_sorted (d : Dc) (s : List Int) : (bnds d s).Pairwise (· < ·) := by
  unfold bnds
  rw [List.pairwise_append]
  refine ⟨pcsN_sorted d _ _ _, by simp, ?_⟩
  intro k hk m hm
  obtain ⟨x, hx, rfl⟩ := List.mem_map.mp hk
  have := pcs_in hx
  simp at hm
  omega
theorem bnds_range (d : Dc) (s : List Int) (P : Int → Bool) (h : ∀ k : Int, 0 ≤ k → k ≤ s.length → P k = true → k ∈ bnds d s) : (bnds d s).filter P = (rangeI 0 (s.length + 1)).filter P := by
  apply sorted_eq
  · exact (bnds_sorted d s).sublist List.filter_sublist
  · exact (rangeI_sorted _ _).sublist List.filter_sublist
  · intro k
    simp only [List.mem_filter, mem_rangeI]
    constructor
    · rintro ⟨h1, h2⟩
      have := bnds_mem h1
      exact ⟨by omega, h2⟩
    · rintro ⟨h1, h2⟩
      exact ⟨h k (by omega) (by omega) h2, h2⟩
/-- boundaries are places of pieces -/
theorem bd_mem {d : Dc} {a : Bool} {s : List Int} {q : Nat} {a' : Bool} (h : Bd d a s q a') : ∀ p, q < s.length → p + q ∈ (pcs d p s).map (·.1) := by
  induction h with
  | zero a s =>
    intro p hq
    cases s with
    | nil => simp at hq
    | cons b r => rw [pcs_cons]; simp
  | step a b r q a' _ ih =>
    intro p hq
    have hz := szO_range d b r
    rw [pcs_cons, List.map_cons]
    have := ih (p + szO d (b :: r)) (by simp only [List.length_drop, List.length_cons] at *; omega)
    rw [Nat.add_assoc] at this
    exact List.mem_cons_of_mem _ this
end BB

/-! ## more of plain data -/
namespace BB
open PySem
theorem asBools_map {α : Type} (p : α → Bool) : ∀ xs : List α, asBools (xs.map fun x => PyData.bool (p x)) = some (xs.map p)
  | [] => rfl
  | x :: xs => by rw [List.map_cons, asBools, asBools_map p xs]; rfl
theorem any_map {α : Type} (p : α → Bool) (xs : List α) : bltD .any [.list (xs.map fun x => .bool (p x))] = .ok (.bool (xs.any p)) := by
  simp only [bltD, asBools_map]
  simp [List.any_map, Function.comp_def]
theorem all_map {α : Type} (p : α → Bool) (xs : List α) : bltD .all [.list (xs.map fun x => .bool (p x))] = .ok (.bool (xs.all p)) := by
  simp only [bltD, asBools_map]
  simp [List.all_map, Function.comp_def]
theorem eqv_int (i j : Int) : PyData.eqv (.int i) (.int j) = decide (i = j) := by
  have := eqv_fit 0 (.int i) (.int j) (by simp) (by simp)
  rw [Bool.eq_iff_iff, this]; simp
theorem scal_intL (ns : List Int) : (intL ns).all scalar = true := by simp [intL, scalar]
theorem any_intL (i : Int) (ns : List Int) : ((intL ns).any fun y => PyData.eqv y (.int i)) = decide (i ∈ ns) := by
  rw [Bool.eq_iff_iff]
  simp [intL, eqv_int]
@[simp] theorem in_listI (neg : Bool) (i : Int) (ns : List Int) : inD neg (.int i) (.list (intL ns)) = .ok (.bool (decide (i ∈ ns) != neg)) := by
  simp only [inD]
  rw [if_pos (by simp [inb, scalar, scal_intL]), any_intL]
@[simp] theorem in_tupI (neg : Bool) (i : Int) (ns : List Int) : inD neg (.int i) (.tuple (intL ns)) = .ok (.bool (decide (i ∈ ns) != neg)) := by
  simp only [inD]
  rw [if_pos (by simp [inb, scalar, scal_intL]), any_intL]
theorem zipD_map {α β : Type} (q : α → D) (q' : β → D) : ∀ (xs : List α) (ys : List β), zipD (xs.map q) (ys.map q') = (xs.zip ys).map fun p => .tuple [q p.1, q' p.2]
  | [], _ => by simp [zipD]
  | _ :: _, [] => by simp [zipD]
  | x :: xs, y :: ys => by simp [zipD, zipD_map q q' xs ys]
theorem zip_list {α β : Type} (q : α → D) (q' : β → D) (xs : List α) (ys : List β) (h : xs.length ≤ 1000000) : zipOf (.list (xs.map q)) (.list (ys.map q')) = .ok ((xs.zip ys).map fun p => .tuple [q p.1, q' p.2]) := by
  simp only [zipOf, List.length_map]; rw [if_pos h, zipD_map]
theorem zip_tup {α β : Type} (q : α → D) (q' : β → D) (xs : List α) (ys : List β) (h : xs.length ≤ 1000000) : zipOf (.tuple (xs.map q)) (.tuple (ys.map q')) = .ok ((xs.zip ys).map fun p => .tuple [q p.1, q' p.2]) := by
  simp only [zipOf, List.length_map]; rw [if_pos h, zipD_map]
theorem enumD_map {α : Type} (q : α → D) : ∀ (xs : List α) (i : Int), enumD i (xs.map q) = (((rangeI i xs.length).zip xs).map fun p => .tuple [.int p.1, q p.2])
  | [], _ => by simp [enumD]
  | x :: xs, i => by simp [enumD, rangeI, enumD_map q xs]
@[simp] theorem eq_boolS (a b : Bool) : eqD (.bool a) (.bool b) = .ok (.bool (decide (a = b))) := by cases a <;> cases b <;> simp [eqD, cmpb, SeqAt.shaped, PyData.canLay0, PyData.depth, PyData.eqv]
@[simp] theorem ne_boolS (a b : Bool) : neD (.bool a) (.bool b) = .ok (.bool (!decide (a = b))) := by cases a <;> cases b <;> simp [neD, cmpb, SeqAt.shaped, PyData.canLay0, PyData.depth, PyData.eqv]
theorem fit_pcD (x : Nat × Nat × Int) : fit 1 (pcD x) := by simp [pcD]
theorem pcD_inj {x y : Nat × Nat × Int} (h : pcD x = pcD y) : x = y := by
  obtain ⟨a, b, c⟩ := x; obtain ⟨a', b', c'⟩ := y
  simp [pcD] at h
  simp; omega
theorem map_inj {α β : Type} {f : α → β} (hf : ∀ x y, f x = f y → x = y) : ∀ {xs ys : List α}, xs.map f = ys.map f ↔ xs = ys
  | [], [] => by simp
  | [], _ :: _ => by simp
  | _ :: _, [] => by simp
  | x :: xs, y :: ys => by
    simp only [List.map_cons, List.cons.injEq, map_inj hf (xs := xs)]
    exact ⟨fun h => ⟨hf _ _ h.1, h.2⟩, fun h => ⟨congrArg f h.1, h.2⟩⟩
theorem eqne_map {α : Type} [DecidableEq α] {f : α → D} {n : Nat} (hn : n + 1 ≤ 64) (hfit : ∀ x, fit n (f x)) (hf : ∀ x y, f x = f y → x = y) (xs ys : List α) : eqD (.list (xs.map f)) (.list (ys.map f)) = .ok (.bool (decide (xs = ys))) ∧ neD (.list (xs.map f)) (.list (ys.map f)) = .ok (.bool (!decide (xs = ys))) := by
  refine eq_ok (n := n + 1) ?_ ?_ hn (by rw [PyData.list.injEq, map_inj hf])
  · simp only [fit_list]; intro x hx; obtain ⟨y, _, rfl⟩ := List.mem_map.mp hx; exact hfit y
  · simp only [fit_list]; intro x hx; obtain ⟨y, _, rfl⟩ := List.mem_map.mp hx; exact hfit y
@[simp] theorem eq_pcs (xs ys : List (Nat × Nat × Int)) : eqD (.list (xs.map pcD)) (.list (ys.map pcD)) = .ok (.bool (decide (xs = ys))) := (eqne_map (by decide) fit_pcD (fun _ _ => pcD_inj) xs ys).1
@[simp] theorem ne_pcs (xs ys : List (Nat × Nat × Int)) : neD (.list (xs.map pcD)) (.list (ys.map pcD)) = .ok (.bool (!decide (xs = ys))) := (eqne_map (by decide) fit_pcD (fun _ _ => pcD_inj) xs ys).2
/-! ### neighbours among the pieces -/
theorem zip_bd {d : Dc} : ∀ (n : Nat) (s : List Int) (p : Nat) (a : Bool), s.length ≤ n → ∀ x y, (x, y) ∈ (pcs d p s).zip ((pcs d p s).drop 1) → ∃ q, y.1 = p + q ∧ q < s.length ∧ Bd d a s q (decide (x.2.2 = -1)) ∧ y.2.2 = pval d (s.drop q)
  | 0, s, p, a, h, x, y, hm => by
    have : s = [] := List.length_eq_zero_iff.mp (by omega)
    subst this; simp [pcs_nil] at hm
  | n + 1, [], p, a, h, x, y, hm => by simp [pcs_nil] at hm
  | n + 1, b :: r, p, a, h, x, y, hm => by
    have hz := szO_range d b r
    rw [pcs_cons] at hm
    generalize hrest : (b :: r).drop (szO d (b :: r)) = rest at hm
    have hrl : rest.length = r.length + 1 - szO d (b :: r) := by rw [← hrest]; simp
    cases rest with
    | nil => simp [pcs_nil] at hm
    | cons b' r' =>
      simp only [List.length_cons] at hrl h
      simp only [List.drop_one, List.tail_cons] at hm
      have hIH := fun x y => zip_bd (d := d) n (b' :: r') (p + szO d (b :: r)) (bad d (b :: r)) (by simp only [List.length_cons]; omega) x y
      rw [pcs_cons d (p + szO d (b :: r)) b' r'] at hm hIH
      simp only [List.drop_one, List.tail_cons] at hIH
      rw [List.zip_cons_cons, List.mem_cons] at hm
      rcases hm with hm | hm
      · simp only [Prod.mk.injEq] at hm
        obtain ⟨rfl, rfl⟩ := hm
        refine ⟨szO d (b :: r), rfl, by simp only [List.length_cons]; omega, ?_, by simp only [hrest]⟩
        have := Bd.step a b r 0 _ (Bd.zero (d := d) (bad d (b :: r)) ((b :: r).drop (szO d (b :: r))))
        exact this
      · obtain ⟨q, h1, h2, h3, h4⟩ := hIH x y hm
        simp only [List.length_cons] at h2
        refine ⟨szO d (b :: r) + q, by omega, by simp only [List.length_cons]; omega, ?_, ?_⟩
        · exact Bd.step a b r q _ (by rw [hrest]; exact h3)
        · rw [h4, ← hrest, List.drop_drop]
theorem safe_mem {d : Dc} {s : List Int} (hs : Byts s) (k : Int) (h0 : 0 ≤ k) (h1 : k ≤ s.length) (h : safe d s k.toNat = true) : k ∈ bnds d s := by
  unfold bnds
  rcases bd_or_in d s.length false s k.toNat (Nat.le_refl _) (by omega) with ⟨a', hb⟩ | hi
  · by_cases e : k = s.length
    · simp [e]
    · have := bd_mem hb 0 (by omega)
      obtain ⟨x, hx, e⟩ := List.mem_map.mp this
      refine List.mem_append.mpr (.inl (List.mem_map.mpr ⟨x, hx, by omega⟩))
  · rw [safe_in hs hi] at h; cases h
/-- safe cuts by all places and by the boundaries -/
theorem safe_all {d : Dc} {s : List Int} (hs : Byts s) : (bnds d s).filter (fun k => safe d s k.toNat) = (rangeI 0 (s.length + 1)).filter fun k => safe d s k.toNat := bnds_range d s _ fun k h0 h1 h => safe_mem hs k h0 h1 h
@[simp] theorem res_nil (d : Dc) : res d [] = [] := rfl
theorem safe_zero (d : Dc) (s : List Int) : safe d s 0 = true := by simp [safe]
theorem safe_end (d : Dc) (s : List Int) : safe d s s.length = true := by simp [safe]
theorem safe_zip {d : Dc} {s : List Int} {x y : Nat × Nat × Int} (h : (x, y) ∈ (pcs d 0 s).zip ((pcs d 0 s).drop 1)) : safe d s y.1 = !(decide (d.p = "run") && (decide (x.2.2 = -1) && decide (y.2.2 = -1))) ∧ y.1 < s.length := by
  obtain ⟨q, h1, h2, h3, h4⟩ := zip_bd s.length s 0 false (Nat.le_refl _) x y h
  rw [Nat.zero_add] at h1
  rw [h1, safe_bd h3, h4]
  have : ((s.drop q).isEmpty) = false := by
    cases e : s.drop q with
    | nil => simp at e; omega
    | cons => rfl
  rw [this]
  simp [bad, Bool.and_assoc, h2]
end BB

/-! ## lost bytes: where two divisions meet -/
namespace BB
open PySem
theorem minI_some : ∀ {xs : List Int}, xs ≠ [] → ∃ m, minI xs = some m ∧ m ∈ xs ∧ ∀ x ∈ xs, m ≤ x
  | [], h => absurd rfl h
  | [x], _ => ⟨x, rfl, by simp, by simp⟩
  | x :: y :: r, _ => by
    obtain ⟨m, h1, h2, h3⟩ := minI_some (xs := y :: r) (by simp)
    refine ⟨if x ≤ m then x else m, ?_, ?_, ?_⟩
    · rw [minI, h1]
    · split
      · simp
      · exact List.mem_cons_of_mem _ h2
    · intro z hz
      rcases List.mem_cons.mp hz with rfl | hz
      · split <;> omega
      · have := h3 z hz; split <;> omega
theorem maxI_some : ∀ {xs : List Int}, xs ≠ [] → ∃ m, maxI xs = some m ∧ m ∈ xs ∧ ∀ x ∈ xs, x ≤ m
  | [], h => absurd rfl h
  | [x], _ => ⟨x, rfl, by simp, by simp⟩
  | x :: y :: r, _ => by
    obtain ⟨m, h1, h2, h3⟩ := maxI_some (xs := y :: r) (by simp)
    refine ⟨if x ≥ m then x else m, ?_, ?_, ?_⟩
    · rw [maxI, h1]
    · split
      · simp
      · exact List.mem_cons_of_mem _ h2
    · intro z hz
      rcases List.mem_cons.mp hz with rfl | hz
      · split <;> omega
      · have := h3 z hz; split <;> omega
theorem min_ok {xs : List Int} {m : Int} (h : minI xs = some m) : bltD .min [.list (intL xs)] = .ok (.int m) := by
  simp [bltD, h]
theorem max_ok {xs : List Int} {m : Int} (h : maxI xs = some m) : bltD .max [.list (intL xs)] = .ok (.int m) := by
  simp [bltD, h]
theorem pcsN_shift (d : Dc) (k : Nat) : ∀ (f p : Nat) (s : List Int), (pcsN d f p s).map (fun x => (k + x.1, x.2)) = pcsN d f (k + p) s
  | 0, _, _ => rfl
  | f + 1, p, [] => rfl
  | f + 1, p, b :: r => by
    simp only [pcsN, List.map_cons]
    rw [pcsN_shift d k f, Nat.add_assoc]
theorem pcs_shift (d : Dc) (k p : Nat) (s : List Int) : (pcs d p s).map (fun x => (k + x.1, x.2)) = pcs d (k + p) s := pcsN_shift d k _ _ _
theorem pcs_from {d : Dc} : ∀ (n : Nat) (t : List Int) (p m : Nat), t.length ≤ n → (m ∈ (pcs d p t).map (·.1) ∨ m = p + t.length) → (pcs d p t).filter (fun x => decide (m ≤ x.1)) = pcs d m (t.drop (m - p))
  | n, [], p, m, _, h => by simp [pcs_nil]
  | 0, b :: r, p, m, hn, h => by simp at hn
  | n + 1, b :: r, p, m, hn, h => by
    have hz := szO_range d b r
    by_cases e : m = p
    · subst e
      rw [Nat.sub_self, List.drop_zero, List.filter_eq_self]
      intro x hx
      have := pcs_in hx
      simp; omega
    · rw [pcs_cons] at h ⊢
      simp only [List.map_cons, List.mem_cons, List.length_cons] at h hn
      have hm : m ∈ (pcs d (p + szO d (b :: r)) ((b :: r).drop (szO d (b :: r)))).map (·.1) ∨ m = p + szO d (b :: r) + ((b :: r).drop (szO d (b :: r))).length := by
        rcases h with (h | h) | h
        · exact absurd h e
        · exact .inl h
        · right; simp; omega
      have hge : p + szO d (b :: r) ≤ m := by
        rcases hm with h | h
        · obtain ⟨x, hx, rfl⟩ := List.mem_map.mp h
          exact (pcs_in hx).1
        · omega
      rw [List.filter_cons_of_neg (by simp; omega), pcs_from n _ _ m (by simp; omega) hm, List.drop_drop]
      congr 2; omega
/-- the boundaries of what is left, counted in the whole string -/
def lft (d : Dc) (s : List Int) (p : Nat) : List Int := (pcs d p (s.drop p)).map (fun x => (x.1 : Int)) ++ [(s.length : Int)]
theorem lft_eq (d : Dc) (s : List Int) (p : Nat) (h : p ≤ s.length) : (bnds d (s.drop p)).map (fun k => (p : Int) + k) = lft d s p := by
  unfold bnds lft
  have := pcs_shift d p 0 (s.drop p)
  rw [Nat.add_zero] at this
  rw [← this]
  simp only [List.map_append, List.map_map, List.map_cons, List.map_nil, List.length_drop, Function.comp_def, Int.natCast_add]
  congr 2; omega
theorem lft_mem {d : Dc} {s : List Int} {p : Nat} {k : Int} (hp : p ≤ s.length) (h : k ∈ lft d s p) : (p : Int) ≤ k ∧ k ≤ s.length := by
  unfold lft at h
  rcases List.mem_append.mp h with h | h
  · obtain ⟨x, hx, rfl⟩ := List.mem_map.mp h
    have := pcs_in hx
    simp only [List.length_drop] at this
    omega
  · simp at h; omega
def meetL (d : Dc) (s : List Int) (p : Nat) : List Int := (bnds d s).filter fun k => decide (k ∈ lft d s p)
def meet (d : Dc) (s : List Int) (p : Nat) : Int := (minI (meetL d s p)).getD 0
theorem meetL_end (d : Dc) (s : List Int) (p : Nat) : (s.length : Int) ∈ meetL d s p := by
  simp [meetL, bnds, lft]
theorem meet_spec (d : Dc) (s : List Int) (p : Nat) : minI (meetL d s p) = some (meet d s p) ∧ meet d s p ∈ meetL d s p ∧ ∀ x ∈ meetL d s p, meet d s p ≤ x := by
  obtain ⟨m, h1, h2, h3⟩ := minI_some (List.ne_nil_of_mem (meetL_end d s p))
  unfold meet
  rw [h1]
  exact ⟨rfl, h2, h3⟩
theorem meet_range {d : Dc} {s : List Int} {p : Nat} (hp : p ≤ s.length) : (p : Int) ≤ meet d s p ∧ meet d s p ≤ s.length := by
  have := (meet_spec d s p).2.1
  exact lft_mem hp (by simpa using (List.mem_filter.mp this).2)
/-- from the meeting place on both divisions are the same -/
theorem meet_same {d : Dc} {s : List Int} {p m : Nat} (hp : p ≤ s.length) (hm : meet d s p = m) : (pcs d 0 s).filter (fun x => decide (m ≤ x.1)) = (pcs d p (s.drop p)).filter fun x => decide (m ≤ x.1) := by
  have h := (meet_spec d s p).2.1
  rw [hm] at h
  obtain ⟨h1, h2⟩ := List.mem_filter.mp h
  have hr := meet_range (d := d) hp
  rw [hm] at hr
  have a1 : m ∈ (pcs d 0 s).map (·.1) ∨ m = 0 + s.length := by
    unfold bnds at h1
    rcases List.mem_append.mp h1 with h | h
    · obtain ⟨x, hx, e⟩ := List.mem_map.mp h
      exact .inl (List.mem_map.mpr ⟨x, hx, by omega⟩)
    · simp at h; right; omega
  have a2 : m ∈ (pcs d p (s.drop p)).map (·.1) ∨ m = p + (s.drop p).length := by
    have h2 : (m : Int) ∈ lft d s p := by simpa using h2
    unfold lft at h2
    rcases List.mem_append.mp h2 with h | h
    · obtain ⟨x, hx, e⟩ := List.mem_map.mp h
      exact .inl (List.mem_map.mpr ⟨x, hx, by omega⟩)
    · simp at h; right; simp; omega
  rw [pcs_from s.length s 0 m (Nat.le_refl _) a1, pcs_from s.length _ p m (by simp) a2, List.drop_drop]
  congr 2; omega
/-! ### how far the meeting place may be -/
def mxr (d : Dc) : Int := if d.p = "announced" then 3 else d.l - 1
theorem conts_most : ∀ (m : Nat) (r : List Int), conts m r ≤ m
  | 0, r => by simp [conts]
  | m + 1, [] => by simp [conts]
  | m + 1, c :: r => by
    unfold conts
    have := conts_most m r
    split <;> omega
theorem beg_l {d : Dc} {s : List Int} (h : beg d s = true) : (s.length : Int) ≤ d.l ∧ s ≠ [] := by
  cases s with
  | nil => simp [beg] at h
  | cons b r =>
    have := (beg_iff.mp h).1
    refine ⟨by simp only [List.length_cons]; omega, by simp⟩
theorem pfx_l {d : Dc} {s : List Int} (h1 : 1 ≤ d.l) : ∀ (f k : Nat), (k : Int) ≤ d.l → ((pfx d s f k : Nat) : Int) ≤ d.l
  | 0, k, h => by simpa [pfx] using h
  | f + 1, k, h => by
    unfold pfx
    split
    · rename_i hh
      refine pfx_l h1 f (k + 1) ?_
      have := (beg_l hh.2).1
      simp only [List.length_take] at this
      omega
    · exact h
theorem szO_most {d : Dc} (hd : d.Ok) {b : Int} {r : List Int} (hp : d.p ≠ "stop") : (szO d (b :: r) : Int) ≤ mxr d + 1 := by
  have hl1 := hd.l1
  have hl4 := hd.l4
  unfold szO
  split
  · rename_i h
    obtain ⟨h1, h2⟩ := gsz_lead h
    have := (beg_l h2).1
    have hle := gsz_le d (b :: r)
    simp only [List.length_take] at this
    unfold mxr; split <;> omega
  · simp only [bsz, if_neg hp]
    have h2 := conts_most ((lead b).toNat - 1) r
    have := lead_range b
    have hpf := pfx_l (s := b :: r) hl1 4 1 (by omega)
    unfold mxr
    split
    · rename_i e; rw [if_neg (by rw [e]; decide)]; omega
    · split <;> rename_i e
      · omega
      · omega
theorem bd_conts {d : Dc} (hp : d.p ≠ "stop") : ∀ (u w : List Int) (a : Bool), u.all isCb = true → ∃ a', Bd d a (u ++ w) u.length a'
  | [], w, a, _ => ⟨a, .zero a w⟩
  | c :: u, w, a, h => by
    simp only [List.all_cons, Bool.and_eq_true] at h
    obtain ⟨a', hb⟩ := bd_conts hp u w (bad d (c :: (u ++ w))) h.2
    have hz := szO_cont (r := u ++ w) h.1 hp
    have := Bd.step a c (u ++ w) u.length a' (by rw [hz]; exact hb)
    rw [hz] at this
    refine ⟨a', ?_⟩
    rw [List.length_cons, Nat.add_comm]
    exact this
theorem in_rec {d : Dc} (hd : d.Ok) (hp : d.p ≠ "stop") {a : Bool} {s : List Int} {p : Nat} (h : In d a s p) : ∃ e, p < e ∧ e ≤ s.length ∧ (e : Int) - p ≤ mxr d ∧ (∃ a', Bd d a s e a') ∧ ∃ a'', Bd d false (s.drop p) (e - p) a'' := by
  induction h with
  | here a b r j h0 hj =>
    have hz := szO_range d b r
    have hm := szO_most hd (b := b) (r := r) hp
    have hc := piece_conts (d := d) (b := b) (r := r) (.inl hp)
    refine ⟨szO d (b :: r), hj, by simp only [List.length_cons]; omega, by omega, ⟨_, Bd.step a b r 0 _ (Bd.zero _ _)⟩, ?_⟩
    have e : (b :: r).drop j = (r.take (szO d (b :: r) - 1)).drop (j - 1) ++ r.drop (szO d (b :: r) - 1) := by
      have h1 : (b :: r).drop j = r.drop (j - 1) := by
        cases j with
        | zero => omega
        | succ j => simp
      rw [h1]
      have h2 : r = r.take (szO d (b :: r) - 1) ++ r.drop (szO d (b :: r) - 1) := (List.take_append_drop _ _).symm
      conv => lhs; rw [h2]
      rw [List.drop_append, show j - 1 - (r.take (szO d (b :: r) - 1)).length = 0 by simp; omega, List.drop_zero]
    have hall : ((r.take (szO d (b :: r) - 1)).drop (j - 1)).all isCb = true := by
      rw [List.all_eq_true] at hc ⊢
      exact fun x hx => hc x (List.mem_of_mem_drop hx)
    obtain ⟨a'', hb⟩ := bd_conts hp _ (r.drop (szO d (b :: r) - 1)) false hall
    refine ⟨a'', ?_⟩
    rw [e]
    have hl : ((r.take (szO d (b :: r) - 1)).drop (j - 1)).length = szO d (b :: r) - j := by simp; omega
    rw [hl] at hb
    exact hb
  | step a b r q _ ih =>
    obtain ⟨e, h1, h2, h3, ⟨a', h4⟩, ⟨a'', h5⟩⟩ := ih
    have hz := szO_range d b r
    simp only [List.length_drop, List.length_cons] at h2
    refine ⟨szO d (b :: r) + e, by omega, by simp only [List.length_cons]; omega, by omega, ⟨a', Bd.step a b r e a' h4⟩, ⟨a'', ?_⟩⟩
    rw [List.drop_drop] at h5
    rw [show szO d (b :: r) + e - (szO d (b :: r) + q) = e - q by omega]
    exact h5
theorem bd_bnds {d : Dc} {a : Bool} {s : List Int} {q : Nat} {a' : Bool} (h : Bd d a s q a') (hq : q ≤ s.length) : (q : Int) ∈ bnds d s := by
  unfold bnds
  by_cases e : q = s.length
  · simp [e]
  · have := bd_mem h 0 (by omega)
    obtain ⟨x, hx, e⟩ := List.mem_map.mp this
    exact List.mem_append.mpr (.inl (List.mem_map.mpr ⟨x, hx, by omega⟩))
theorem bd_lft {d : Dc} {a : Bool} {s : List Int} {p q : Nat} {a' : Bool} (h : Bd d a (s.drop p) q a') (hq : p + q ≤ s.length) : ((p + q : Nat) : Int) ∈ lft d s p := by
  unfold lft
  by_cases e : p + q = s.length
  · simp [← e]
  · have := bd_mem h p (by simp; omega)
    obtain ⟨x, hx, e⟩ := List.mem_map.mp this
    exact List.mem_append.mpr (.inl (List.mem_map.mpr ⟨x, hx, by omega⟩))
theorem mxr_nonneg {d : Dc} (hd : d.Ok) : 0 ≤ mxr d := by
  have := hd.l1; unfold mxr; split <;> omega
theorem meet_most {d : Dc} (hd : d.Ok) (hp : d.p ≠ "stop") {s : List Int} {p : Nat} (h : p ≤ s.length) : meet d s p - p ≤ mxr d := by
  have hm := (meet_spec d s p).2.2
  have h0 := mxr_nonneg hd
  rcases bd_or_in d s.length false s p (Nat.le_refl _) h with ⟨a', hb⟩ | hi
  · have := hm p (List.mem_filter.mpr ⟨bd_bnds hb h, by
      have := bd_lft (d := d) (s := s) (p := p) (Bd.zero false _) (by omega)
      simpa using this⟩)
    omega
  · obtain ⟨e, h1, h2, h3, ⟨a', h4⟩, ⟨a'', h5⟩⟩ := in_rec hd hp hi
    have h6 := bd_lft h5 (by omega)
    rw [show p + (e - p) = e by omega] at h6
    have := hm e (List.mem_filter.mpr ⟨bd_bnds h4 h2, by simpa using h6⟩)
    omega
theorem Byts.nil : Byts [] := by intro b hb; cases hb
/-- the slowest strings -/
def longB : List (List Int) := [[65], [194, 128], [225, 128, 128], [241, 128, 128, 128]]
def slowS (d : Dc) : List Int := if 0 < mxr d then longB.getD (mxr d).toNat [] else []
def slowP (d : Dc) : Nat := if 0 < mxr d then 1 else 0
theorem slow_all : ∀ l ∈ ([1, 2, 3, 4] : List Int), ∀ o ∈ ovls, ∀ s ∈ [true, false], ∀ p ∈ pols, p ≠ "stop" → meet ⟨l, o, s, p⟩ (slowS ⟨l, o, s, p⟩) (slowP ⟨l, o, s, p⟩) - slowP ⟨l, o, s, p⟩ = mxr ⟨l, o, s, p⟩ := by decide +kernel
theorem slow_ok {d : Dc} (hd : d.Ok) (hp : d.p ≠ "stop") : meet d (slowS d) (slowP d) - slowP d = mxr d := by
  obtain ⟨l, o, s, p⟩ := d
  exact slow_all l (by have := hd.l1; have := hd.l4; simp; simp at *; omega) o hd.o s (by cases s <;> simp) p hd.p hp
theorem slow_len (d : Dc) : Byts (slowS d) ∧ (slowS d).length ≤ 4 ∧ (0 ≤ mxr d → mxr d ≤ 3 → slowP d ≤ (slowS d).length) := by
  have hb : ∀ x ∈ longB, x.length ≤ 4 ∧ x.length ≥ 1 ∧ ∀ b ∈ x, 0 ≤ b ∧ b ≤ 255 := by decide
  unfold slowS slowP
  split
  · by_cases e : (mxr d).toNat < 4
    · have hg : longB.getD (mxr d).toNat [] ∈ longB := by
        rw [List.getD_eq_getElem?_getD, List.getElem?_eq_getElem (show (mxr d).toNat < longB.length from e)]
        exact List.getElem_mem _
      obtain ⟨h1, h2, h3⟩ := hb _ hg
      exact ⟨h3, h1, fun _ _ => h2⟩
    · have hg : longB.getD (mxr d).toNat [] = [] := by
        rw [List.getD_eq_getElem?_getD, List.getElem?_eq_none (show longB.length ≤ (mxr d).toNat by simp only [longB, List.length_cons, List.length_nil]; omega)]
        rfl
      rw [hg]
      exact ⟨Byts.nil, by simp, fun h1 h2 => by omega⟩
  · exact ⟨Byts.nil, by simp, fun _ _ => by simp⟩
end BB

/-! ## bytes of items; lossless decoders -/
namespace BB
open PySem
def shortL (c : Int) : Nat := if c < 128 then 1 else if c < 2048 then 2 else if c < 65536 then 3 else 4
theorem shortL_range (c : Int) : 1 ≤ shortL c ∧ shortL c ≤ 4 := by
  unfold shortL; split
  · omega
  · split
    · omega
    · split <;> omega
def bst : Nat → Int → List Int → List Int × Int
  | 0, c, f => (f, c)
  | k + 1, c, f => bst k (c / 64) ((128 + c % 64) :: f)
theorem bst_succ : ∀ (k : Nat) (c : Int) (f : List Int), bst (k + 1) c f = ((128 + (bst k c f).2 % 64) :: (bst k c f).1, (bst k c f).2 / 64)
  | 0, c, f => rfl
  | k + 1, c, f => by rw [bst, bst_succ k]; rfl
theorem bst_len : ∀ (k : Nat) (c : Int) (f : List Int), (bst k c f).1.length = f.length + k
  | 0, c, f => rfl
  | k + 1, c, f => by rw [bst, bst_len k]; simp; omega
def bfor (c : Int) (n : Nat) : List Int := (base n + (bst (n - 1) c []).2) :: (bst (n - 1) c []).1
theorem bfor_len (c : Int) (n : Nat) (h : 1 ≤ n) : (bfor c n).length = n := by
  unfold bfor; rw [List.length_cons, bst_len]; simp; omega
def itb (x : Int) : List Int := if x = -1 then [239, 191, 189] else if 0 ≤ x then bfor x (shortL x) else [0 - x]
theorem itb_len (x : Int) : 1 ≤ (itb x).length ∧ (itb x).length ≤ 4 := by
  unfold itb
  split
  · simp
  · split
    · rw [bfor_len _ _ (shortL_range x).1]; exact shortL_range x
    · simp
theorem flat_len : ∀ (xs : List Int), (xs.flatMap itb).length ≤ 4 * xs.length ∧ xs.length ≤ (xs.flatMap itb).length
  | [] => by simp
  | x :: xs => by
    have := flat_len xs
    have := itb_len x
    simp only [List.flatMap_cons, List.length_append, List.length_cons]
    omega
/-- the bytes of a string's result -/
def retn (d : Dc) (s : List Int) : List Int := (res d s).flatMap itb
def keepsB (d : Dc) : Bool := decide (d.p = "keep") && (decide (d.o = "none") || decide (d.l = 1))
/-! ### valid rows give their bytes back -/
theorem beg_ascii {d : Dc} (hd : d.Ok) {b : Int} (h0 : 0 ≤ b) (h1 : b < 128) : beg d [b] = true := by
  have hl : lead b = 1 := by unfold lead; rw [if_pos h1]
  refine (beg_iff).mpr ⟨⟨by simp [hl], by rw [hl]; exact hd.l1⟩, rfl, .inr ?_⟩
  have hv : ∀ x : Int, valu ([b] ++ List.replicate ((lead b).toNat - ([] : List Int).length - 1) x) = b := by
    intro x; simp [hl, valu, fold64, base]
  simp only [hl, valu, fold64, base, least, List.length_nil, List.replicate, List.append_nil, List.foldl_nil, Int.toNat]
  have e0 : ∀ x : Int, List.replicate (1 - (0 + 1)) x = [] := fun x => rfl
  simp only [e0, List.cons_append, List.nil_append, List.append_nil, List.foldl_nil, hl, Int.toNat, base]
  split <;> omega
theorem gsz_ascii {d : Dc} (hd : d.Ok) {b : Int} {r : List Int} (h0 : 0 ≤ b) (h1 : b < 128) : gsz d (b :: r) = 1 := by
  have hl : lead b = 1 := by unfold lead; rw [if_pos h1]
  simp only [gsz, hl]
  have : ((b :: r).take (1 : Int).toNat) = [b] := rfl
  rw [this, beg_ascii hd h0 h1, if_pos]
  · rfl
  · exact ⟨by omega, by omega, rfl⟩
theorem gsz_vld {d : Dc} {b : Int} {r : List Int} (hb : 0 ≤ b) (h : 0 < gsz d (b :: r)) : vld d ((b :: r).take (gsz d (b :: r))) = true ∧ (gsz d (b :: r) : Int) = lead b := by
  obtain ⟨h1, h2⟩ := gsz_lead h
  have hle := gsz_le d (b :: r)
  obtain ⟨n, hn⟩ : ∃ n, gsz d (b :: r) = n + 1 := ⟨gsz d (b :: r) - 1, by omega⟩
  rw [hn] at h1 h2 hle ⊢
  rw [List.take_succ_cons] at h2 ⊢
  simp only [List.length_cons] at hle
  exact ⟨(vld_beg hb).mpr ⟨by simp only [List.length_take]; omega, h2⟩, h1⟩
theorem itb_row {b : Int} {r : List Int} (hb : 0 ≤ b) (h1 : lead b = r.length + 1) (h2 : r.all isCb = true) (h3 : least (r.length + 1) ≤ valu (b :: r)) (h4 : valu (b :: r) ≤ 1114111) : itb (valu (b :: r)) = b :: r := by
  have hn : 0 ≤ valu (b :: r) := by
    have : 0 ≤ least (r.length + 1) := by
      match r.length + 1 with
      | 0 => decide
      | 1 => decide
      | 2 => decide
      | 3 => decide
      | 4 => decide
      | n + 5 => simp [least]
    omega
  unfold itb
  rw [if_neg (by omega), if_pos hn]
  rcases lead_cases b with e | ⟨e, e1⟩ | ⟨e, e1, e2⟩ | ⟨e, e1, e2⟩ | ⟨e, e1, e2⟩
  · omega
  · match r, h1, h2, h3 with
    | [], _, _, _ => 
      simp only [valu, e, fold64, base, List.foldl_nil, Int.toNat] at *
      have : shortL (b - 0) = 1 := by unfold shortL; rw [if_pos (by omega)]
      rw [this]; simp [bfor, bst, base]
    | _ :: r, h, _, _ => simp only [List.length_cons] at h; omega
  · match r, h1, h2, h3 with
    | [c], _, h2, h3 =>
      simp only [List.all_cons, List.all_nil, Bool.and_true, isCb_iff] at h2
      simp only [valu, e, fold64, base, least, List.foldl_cons, List.foldl_nil, List.length_cons, List.length_nil, Int.toNat] at *
      have : shortL (64 * (b - 192) + c - 128) = 2 := by unfold shortL; rw [if_neg (by omega), if_pos (by omega)]
      rw [this]
      simp only [bfor, bst, base, List.cons.injEq, and_true]
      omega
    | [], h, _, _ => simp at h; omega
    | _ :: _ :: r, h, _, _ => simp only [List.length_cons] at h; omega
  · match r, h1, h2, h3 with
    | [c, f], _, h2, h3 =>
      simp only [List.all_cons, List.all_nil, Bool.and_true, Bool.and_eq_true, isCb_iff] at h2
      simp only [valu, e, fold64, base, least, List.foldl_cons, List.foldl_nil, List.length_cons, List.length_nil, Int.toNat] at *
      have : shortL (64 * (64 * (b - 224) + c - 128) + f - 128) = 3 := by unfold shortL; rw [if_neg (by omega), if_neg (by omega), if_pos (by omega)]
      rw [this]
      simp only [bfor, bst, base, List.cons.injEq, and_true]
      omega
    | [], h, _, _ => simp at h; omega
    | [_], h, _, _ => simp at h; omega
    | _ :: _ :: _ :: r, h, _, _ => simp only [List.length_cons] at h; omega
  · match r, h1, h2, h3 with
    | [c, f, k], _, h2, h3 =>
      simp only [List.all_cons, List.all_nil, Bool.and_true, Bool.and_eq_true, isCb_iff] at h2
      simp only [valu, e, fold64, base, least, List.foldl_cons, List.foldl_nil, List.length_cons, List.length_nil, Int.toNat] at *
      have : shortL (64 * (64 * (64 * (b - 240) + c - 128) + f - 128) + k - 128) = 4 := by unfold shortL; rw [if_neg (by omega), if_neg (by omega), if_neg (by omega)]
      rw [this]
      simp only [bfor, bst, base, List.cons.injEq, and_true]
      omega
    | [], h, _, _ => simp at h; omega
    | [_], h, _, _ => simp at h; omega
    | [_, _], h, _, _ => simp at h; omega
    | _ :: _ :: _ :: _ :: r, h, _, _ => simp only [List.length_cons] at h; omega
theorem vld_back {d : Dc} (hk : d.o = "none" ∨ d.l = 1) {b : Int} {r : List Int} (hb : 0 ≤ b) (h : vld d (b :: r) = true) : itb (valu (b :: r)) = b :: r := by
  obtain ⟨h1, h2, h3, h4, h5, h6⟩ := vld_iff.mp h
  refine itb_row hb h1 h3 ?_ h4
  rcases hk with hk | hk
  · rcases h6 with h6 | h6 | h6
    · rw [hk] at h6; exact absurd h6 (by decide)
    · rw [hk] at h6; exact absurd h6.1 (by decide)
    · exact h6
  · have : r.length = 0 := by omega
    rw [this]
    have : r = [] := List.length_eq_zero_iff.mp this
    subst this
    have h1 : lead b = 1 := by simpa using h1
    simp [least, valu, h1, base, fold64]; omega
theorem retn_rs {d : Dc} (hd : d.Ok) (hp : d.p = "keep") (hk : d.o = "none" ∨ d.l = 1) : ∀ (n : Nat) (s : List Int) (a : Bool), s.length ≤ n → Byts s → (rs d a s).flatMap itb = s
  | n, [], a, _, _ => by simp
  | 0, b :: r, a, h, _ => by simp at h
  | n + 1, b :: r, a, h, hs => by
    have hz := szO_range d b r
    simp only [List.length_cons] at h
    rw [rs_cons, List.flatMap_append, retn_rs hd hp hk n _ _ (by simp; omega) (hs.drop _)]
    have key : (itm d a b r).flatMap itb = (b :: r).take (szO d (b :: r)) := by
      by_cases hg : 0 < gsz d (b :: r)
      · obtain ⟨hv, hlead⟩ := gsz_vld hs.head.1 hg
        have hsz : szO d (b :: r) = gsz d (b :: r) := by unfold szO; rw [if_pos hg]
        have hpv : pval d (b :: r) = valu ((b :: r).take (gsz d (b :: r))) := by unfold pval; rw [if_pos hg]
        have hpc := pval_cases (d := d) (b := b) (r := r) hs.head.1
        have hne : pval d (b :: r) ≠ -1 := by
          rcases hpc with hpc | hpc
          · omega
          · omega
        rw [itm, if_pos hne, hsz, hpv]
        obtain ⟨m, hm⟩ : ∃ m, gsz d (b :: r) = m + 1 := ⟨gsz d (b :: r) - 1, by omega⟩
        rw [hm, List.take_succ_cons] at hv ⊢
        simp only [List.flatMap_cons, List.flatMap_nil, List.append_nil]
        exact vld_back hk hs.head.1 hv
      · have hpv : pval d (b :: r) = -1 := by unfold pval; rw [if_neg hg]
        have hsz : szO d (b :: r) = 1 := by
          unfold szO; rw [if_neg hg]
          simp [bsz, hp]
        have hb : 128 ≤ b := by
          by_cases hb : b < 128
          · rw [gsz_ascii hd hs.head.1 hb] at hg; omega
          · omega
        rw [itm, if_neg (by simp [hpv]), hsz]
        simp only [bitm, hp, if_true, List.flatMap_cons, List.flatMap_nil, List.append_nil, List.take_succ_cons, List.take_zero]
        unfold itb
        rw [if_neg (by omega), if_neg (by omega)]
        simp
    rw [key, List.take_append_drop]
theorem lossless {d : Dc} (hd : d.Ok) (hk : keepsB d = true) {s : List Int} (hs : Byts s) : retn d s = s := by
  simp only [keepsB, Bool.and_eq_true, Bool.or_eq_true, decide_eq_true_eq] at hk
  unfold retn
  rw [res_rs]
  exact retn_rs hd hk.1 hk.2 s.length s false (Nat.le_refl _) hs
/-! ### items are what they must be -/
def okItm (x : Int) : Prop := x = -1 ∨ (-255 ≤ x ∧ x ≤ -128) ∨ (0 ≤ x ∧ x ≤ 1114111)
theorem itm_ok {d : Dc} (hd : d.Ok) {a : Bool} {b : Int} {r : List Int} (hs : Byts (b :: r)) : ∀ x ∈ itm d a b r, okItm x ∧ (x = -1 → d.p ≠ "keep") := by
  intro x hx
  unfold itm at hx
  split at hx
  · rename_i hne
    have hpc := pval_cases (d := d) (b := b) (r := r) hs.head.1
    have hg : 0 < gsz d (b :: r) := by
      rcases hpc with h | h
      · exact h.1
      · exact absurd h.2 hne
    obtain ⟨hv, hlead⟩ := gsz_vld hs.head.1 hg
    obtain ⟨m, hm⟩ : ∃ m, gsz d (b :: r) = m + 1 := ⟨gsz d (b :: r) - 1, by omega⟩
    rw [hm, List.take_succ_cons] at hv
    have h4 := (vld_iff.mp hv).2.2.2.1
    have hpv : pval d (b :: r) = valu (b :: r.take m) := by unfold pval; rw [if_pos hg, hm, List.take_succ_cons]
    simp at hx
    rw [hx]
    refine ⟨.inr (.inr ⟨by omega, by rw [hpv]; exact h4⟩), fun h => absurd h hne⟩
  · rename_i hne
    have hpv : pval d (b :: r) = -1 := by simpa using hne
    have hb : 128 ≤ b := by
      by_cases hb : b < 128
      · have hg := gsz_ascii hd (r := r) hs.head.1 hb
        have hpc := pval_cases (d := d) (b := b) (r := r) hs.head.1
        omega
      · omega
    have hb2 := hs.head.2
    unfold bitm at hx
    split at hx
    · simp at hx; rw [hx]; exact ⟨.inr (.inl (by omega)), fun h => by omega⟩
    · rename_i hk
      split at hx
      · simp at hx
      · simp at hx; rw [hx]; exact ⟨.inl rfl, fun _ => hk⟩
theorem rs_ok {d : Dc} (hd : d.Ok) : ∀ (n : Nat) (s : List Int) (a : Bool), s.length ≤ n → Byts s → ∀ x ∈ rs d a s, okItm x ∧ (x = -1 → d.p ≠ "keep")
  | n, [], a, _, _ => by simp
  | 0, b :: r, a, h, _ => by simp at h
  | n + 1, b :: r, a, h, hs => by
    have hz := szO_range d b r
    simp only [List.length_cons] at h
    rw [rs_cons]
    intro x hx
    rcases List.mem_append.mp hx with hx | hx
    · exact itm_ok hd hs x hx
    · exact rs_ok hd n _ _ (by simp; omega) (hs.drop _) x hx
theorem res_items {d : Dc} (hd : d.Ok) {s : List Int} (hs : Byts s) : ∀ x ∈ res d s, okItm x ∧ (x = -1 → d.p ≠ "keep") := by
  rw [res_rs]; exact rs_ok hd s.length s false (Nat.le_refl _) hs
/-! ### what shows that a decoder is not lossless -/
def lostS (d : Dc) : List Int := if d.p = "keep" then [192, 128] else [128]
def collA (d : Dc) : List Int := if d.p = "keep" then [0] else if d.p = "skip" then [] else [128]
def collB (d : Dc) : List Int := if d.p = "keep" then [192, 128] else if d.p = "skip" then [128] else [129]
theorem lost_all : ∀ l ∈ ([1, 2, 3, 4] : List Int), ∀ o ∈ ovls, ∀ s ∈ [true, false], ∀ p ∈ pols, keepsB ⟨l, o, s, p⟩ = false → retn ⟨l, o, s, p⟩ (lostS ⟨l, o, s, p⟩) ≠ lostS ⟨l, o, s, p⟩ ∧ HT.lexLt (collA ⟨l, o, s, p⟩) (collB ⟨l, o, s, p⟩) = true ∧ res ⟨l, o, s, p⟩ (collA ⟨l, o, s, p⟩) = res ⟨l, o, s, p⟩ (collB ⟨l, o, s, p⟩) := by decide +kernel
theorem lost_ok {d : Dc} (hd : d.Ok) (h : keepsB d = false) : retn d (lostS d) ≠ lostS d ∧ HT.lexLt (collA d) (collB d) = true ∧ res d (collA d) = res d (collB d) := by
  obtain ⟨l, o, s, p⟩ := d
  exact lost_all l (by have := hd.l1; have := hd.l4; simp; simp at *; omega) o hd.o s (by cases s <;> simp) p hd.p h
theorem retn_65 {d : Dc} (hd : d.Ok) : retn d [65] = [65] := by
  have hall : ∀ l ∈ ([1, 2, 3, 4] : List Int), ∀ o ∈ ovls, ∀ s ∈ [true, false], ∀ p ∈ pols, retn ⟨l, o, s, p⟩ [65] = [65] := by decide +kernel
  obtain ⟨l, o, s, p⟩ := d
  exact hall l (by have := hd.l1; have := hd.l4; simp; simp at *; omega) o hd.o s (by cases s <;> simp) p hd.p
theorem lt_tupI (a b : List Int) : ltD (.tuple (intL a)) (.tuple (intL b)) = .ok (.bool (HT.lexLt a b)) := by simp [ltD]
end BB

/-! ## sequences that are valid for one decoder only -/
namespace BB
open PySem
def heads : Nat → List (List Int)
  | 1 => [[0]]
  | 2 => [[192], [193], [194]]
  | 3 => [[224], [225], [237]]
  | 4 => [[240], [241], [244], [245]]
  | _ => []
def conB : List Int := [128, 129, 141, 142, 144, 160]
def ext (rows : List (List Int)) : List (List Int) := rows.flatMap fun s => conB.map fun b => s ++ [b]
def extN : Nat → List (List Int) → List (List Int)
  | 0, rows => rows
  | k + 1, rows => extN k (ext rows)
theorem extN_succ : ∀ (k : Nat) (rows : List (List Int)), extN (k + 1) rows = ext (extN k rows)
  | 0, rows => rfl
  | k + 1, rows => by rw [extN, extN_succ k]; rfl
def allq (n : Nat) : List (List Int) := extN (n - 1) (heads n)
theorem ext_len (rows : List (List Int)) : (ext rows).length = 6 * rows.length := by
  unfold ext
  induction rows with
  | nil => rfl
  | cons r rows ih => simp only [List.flatMap_cons, List.length_append, List.length_map, List.length_cons, ih]; simp only [conB, List.length_cons, List.length_nil]; omega
theorem extN_len : ∀ (k : Nat) (rows : List (List Int)), (extN k rows).length = 6 ^ k * rows.length
  | 0, rows => by simp [extN]
  | k + 1, rows => by rw [extN_succ, ext_len, extN_len k, Nat.pow_succ]; simp [Nat.mul_comm, Nat.mul_left_comm]
theorem mem_ext {rows : List (List Int)} {x : List Int} : x ∈ ext rows ↔ ∃ s ∈ rows, ∃ b ∈ conB, x = s ++ [b] := by
  simp only [ext, List.mem_flatMap, List.mem_map]
  constructor
  · rintro ⟨s, hs, b, hb, rfl⟩; exact ⟨s, hs, b, hb, rfl⟩
  · rintro ⟨s, hs, b, hb, rfl⟩; exact ⟨s, hs, b, hb, rfl⟩
theorem extN_shape (P : List Int → Prop) (hP : ∀ s, P s → ∀ b ∈ conB, P (s ++ [b])) : ∀ (k : Nat) (rows : List (List Int)), (∀ s ∈ rows, P s) → ∀ s ∈ extN k rows, P s
  | 0, rows, h => h
  | k + 1, rows, h => extN_shape P hP k (ext rows) fun s hs => by
    obtain ⟨t, ht, b, hb, rfl⟩ := mem_ext.mp hs
    exact hP t (h t ht) b hb
theorem conB_byte {b : Int} (h : b ∈ conB) : 128 ≤ b ∧ b ≤ 191 := by
  simp [conB] at h; omega
theorem heads_ok (n : Nat) : ∀ s ∈ heads n, s ≠ [] ∧ Byts s ∧ s.length = 1 := by
  have h : ∀ s ∈ heads 1 ++ heads 2 ++ heads 3 ++ heads 4, s ≠ [] ∧ (∀ b ∈ s, (0 : Int) ≤ b ∧ b ≤ 255) ∧ s.length = 1 := by decide
  intro s hs
  match n, hs with
  | 1, hs => exact h s (by simp [hs])
  | 2, hs => exact h s (by simp [hs])
  | 3, hs => exact h s (by simp [hs])
  | 4, hs => exact h s (by simp [hs])
  | 0, hs => simp [heads] at hs
  | n + 5, hs => simp [heads] at hs
theorem allq_ok (n : Nat) : ∀ s ∈ allq n, s ≠ [] ∧ Byts s := by
  refine extN_shape (fun s => s ≠ [] ∧ Byts s) ?_ _ _ (fun s hs => ⟨(heads_ok n s hs).1, (heads_ok n s hs).2.1⟩)
  rintro s ⟨h1, h2⟩ b hb
  refine ⟨by simp, h2.app ?_⟩
  intro c hc
  simp at hc
  have := conB_byte hb
  omega
theorem extN_rowlen : ∀ (k : Nat) (rows : List (List Int)) (l : Nat), (∀ s ∈ rows, s.length = l) → ∀ s ∈ extN k rows, s.length = l + k
  | 0, rows, l, h => h
  | k + 1, rows, l, h => by
    intro s hs
    have := extN_rowlen k (ext rows) (l + 1) (fun s hs => by
      obtain ⟨t, ht, b, hb, rfl⟩ := mem_ext.mp hs
      simp [h t ht]) s hs
    omega
theorem allq_len {n : Nat} {s : List Int} (h1 : 1 ≤ n) (h : s ∈ allq n) : s.length = n := by
  have := extN_rowlen (n - 1) (heads n) 1 (fun s hs => (heads_ok n s hs).2.2) s h
  omega
/-- the first of the shortest rows that are valid for d only -/
def onlF (d e : Dc) (n : Nat) : List (List Int) := (allq n).filter fun s => beg d s && !beg e s
def onlR (d e : Dc) : List Nat → Option (List Int)
  | [] => none
  | n :: r => match onlF d e n with
    | [] => onlR d e r
    | s :: _ => some s
def szs (d : Dc) : List Nat := (List.range d.l.toNat).map (· + 1)
def onl (d e : Dc) : Option (List Int) := onlR d e (szs d)
theorem onlR_some {d e : Dc} : ∀ {ns : List Nat} {s : List Int}, onlR d e ns = some s → ∃ n ∈ ns, s ∈ onlF d e n
  | [], s, h => by cases h
  | n :: r, s, h => by
    unfold onlR at h
    split at h
    · obtain ⟨m, hm, hs⟩ := onlR_some h
      exact ⟨m, by simp [hm], hs⟩
    · rename_i t u heq
      cases h
      exact ⟨n, by simp, by rw [heq]; simp⟩
theorem onlR_none {d e : Dc} : ∀ {ns : List Nat}, onlR d e ns = none → ∀ n ∈ ns, onlF d e n = []
  | [], _, n, hn => by simp at hn
  | m :: r, h, n, hn => by
    unfold onlR at h
    split at h
    · rename_i heq
      rcases List.mem_cons.mp hn with rfl | hn
      · exact heq
      · exact onlR_none h n hn
    · cases h
theorem allq_lead {n : Nat} (h1 : 1 ≤ n) (h4 : n ≤ 4) : ∀ s ∈ allq n, ∃ b r, s = b :: r ∧ lead b = n := by
  have hh : ∀ s ∈ heads n, ∃ b, s = [b] ∧ lead b = n := by
    have : n = 1 ∨ n = 2 ∨ n = 3 ∨ n = 4 := by omega
    rcases this with rfl | rfl | rfl | rfl <;> simp [heads, lead]
  refine extN_shape (fun s => ∃ b r, s = b :: r ∧ lead b = n) ?_ _ _ (fun s hs => by obtain ⟨b, rfl, h⟩ := hh s hs; exact ⟨b, [], rfl, h⟩)
  rintro s ⟨b, r, rfl, h⟩ c _
  exact ⟨b, r ++ [c], rfl, h⟩
/-- beginnings of full length are valid rows -/
theorem allq_beg {d : Dc} {n : Nat} {s : List Int} (h1 : 1 ≤ n) (h4 : n ≤ 4) (h : s ∈ allq n) : beg d s = vld d s := by
  obtain ⟨b, r, rfl, hl⟩ := allq_lead h1 h4 s h
  have hlen := allq_len h1 h
  have hb := (allq_ok n _ h).2.head.1
  rw [Bool.eq_iff_iff, vld_beg hb]
  simp only [List.length_cons] at hlen
  constructor
  · intro hh; exact ⟨by omega, hh⟩
  · intro hh; exact hh.2
theorem szs_mem {d : Dc} {n : Nat} (hd : d.Ok) : n ∈ szs d ↔ 1 ≤ n ∧ (n : Int) ≤ d.l := by
  have := hd.l1
  simp only [szs, List.mem_map, List.mem_range]
  constructor
  · rintro ⟨k, hk, rfl⟩; omega
  · rintro ⟨h1, h2⟩; exact ⟨n - 1, by omega, by omega⟩
theorem onl_some {d e : Dc} (hd : d.Ok) {s : List Int} (h : onl d e = some s) : vld d s = true ∧ vld e s = false ∧ Byts s ∧ s ≠ [] ∧ s.length ≤ 4 ∧ (s.length : Int) ≤ d.l := by
  obtain ⟨n, hn, hs⟩ := onlR_some h
  rw [szs_mem hd] at hn
  have hl4 := hd.l4
  obtain ⟨h1, h2⟩ := List.mem_filter.mp hs
  rw [allq_beg (d := d) hn.1 (by omega) h1, allq_beg (d := e) hn.1 (by omega) h1] at h2
  simp at h2
  have := allq_ok n s h1
  have hlen := allq_len hn.1 h1
  exact ⟨h2.1, h2.2, this.2, this.1, by omega, by omega⟩
/-- what tells two decoders' sequences apart -/
def wits : List (List Int) := [[194, 128], [225, 128, 128], [241, 128, 128, 128], [237, 160, 128], [192, 128], [192, 129]]
theorem wits_in : [194, 128] ∈ allq 2 ∧ [192, 128] ∈ allq 2 ∧ [192, 129] ∈ allq 2 ∧ [225, 128, 128] ∈ allq 3 ∧ [237, 160, 128] ∈ allq 3 ∧ [241, 128, 128, 128] ∈ allq 4 := by decide +kernel
theorem onl_none {d e : Dc} (hd : d.Ok) (he : e.Ok) (h : onl d e = none) {s : List Int} (hs : Byts s) (hv : vld d s = true) : vld e s = true := by
  have hnone := onlR_none h
  have use : ∀ (n : Nat) (w : List Int), 1 ≤ n → n ≤ 4 → (n : Int) ≤ d.l → w ∈ allq n → vld d w = true → vld e w = true := by
    intro n w h1 h4 hl hw hvw
    have := hnone n ((szs_mem hd).mpr ⟨h1, hl⟩)
    rw [← Bool.not_eq_false]
    intro hf
    have hm : w ∈ onlF d e n := by
      refine List.mem_filter.mpr ⟨hw, ?_⟩
      rw [allq_beg (d := d) h1 h4 hw, allq_beg (d := e) h1 h4 hw, hvw, hf]; rfl
    rw [this] at hm; simp at hm
  obtain ⟨w1, w2, w3, w4, w5, w6⟩ := wits_in
  have l194 : lead 194 = 2 := by decide
  have l225 : lead 225 = 3 := by decide
  have l241 : lead 241 = 4 := by decide
  have l237 : lead 237 = 3 := by decide
  have l192 : lead 192 = 2 := by decide
  cases s with
  | nil => simp [vld] at hv
  | cons b r =>
    obtain ⟨h1, h2, h3, h4, h5, h6⟩ := vld_iff.mp hv
    have hlr := lead_range b
    have hel1 := he.l1
    -- the length
    have hlen : lead b ≤ e.l := by
      by_cases hc : lead b ≤ e.l
      · exact hc
      · exfalso
        have hcases : lead b = 2 ∨ lead b = 3 ∨ lead b = 4 := by omega
        rcases hcases with hc2 | hc2 | hc2
        · have := (vld_iff.mp (use 2 [194, 128] (by omega) (by omega) (by omega) w1 (vld_iff.mpr ⟨by decide, by rw [l194]; omega, by decide, by decide, .inr (.inl (by decide)), .inr (.inr (by decide))⟩))).2.1
          omega
        · have := (vld_iff.mp (use 3 [225, 128, 128] (by omega) (by omega) (by omega) w4 (vld_iff.mpr ⟨by decide, by rw [l225]; omega, by decide, by decide, .inr (.inl (by decide)), .inr (.inr (by decide))⟩))).2.1
          omega
        · have := (vld_iff.mp (use 4 [241, 128, 128, 128] (by omega) (by omega) (by omega) w6 (vld_iff.mpr ⟨by decide, by rw [l241]; omega, by decide, by decide, .inr (.inr (by decide)), .inr (.inr (by decide))⟩))).2.1
          omega
    refine vld_iff.mpr ⟨h1, hlen, h3, h4, ?_, ?_⟩
    · -- surrogates
      rcases h5 with h5 | h5
      · by_cases hsur : 55296 ≤ valu (b :: r) ∧ valu (b :: r) ≤ 57343
        · -- then at least three bytes
          have h3b : 3 ≤ lead b := by
            by_cases hc : 3 ≤ lead b
            · exact hc
            · exfalso
              rcases lead_cases b with e1 | ⟨e1, e2⟩ | ⟨e1, e2, e3⟩ | ⟨e1, e2, e3⟩ | ⟨e1, e2, e3⟩
              · omega
              · have : r = [] := List.length_eq_zero_iff.mp (by omega)
                subst this
                simp [valu, e1, base, fold64] at hsur; omega
              · match r, h1, h3 with
                | [c], _, h3 =>
                  simp only [List.all_cons, List.all_nil, Bool.and_true, isCb_iff] at h3
                  simp [valu, e1, base, fold64] at hsur; omega
                | [], h1, _ => simp at h1; omega
                | _ :: _ :: _, h1, _ => simp only [List.length_cons] at h1; omega
              · omega
              · omega
          have hw := use 3 [237, 160, 128] (by omega) (by omega) (by omega) w5 (vld_iff.mpr ⟨by decide, by rw [l237]; omega, by decide, by decide, .inl h5, .inr (.inr (by decide))⟩)
          have := (vld_iff.mp hw).2.2.2.2.1
          rcases this with h | h | h
          · exact .inl h
          · exact absurd h (by decide)
          · exact absurd h (by decide)
        · right; omega
      · exact .inr h5
    · -- overlong
      by_cases hov : least (r.length + 1) ≤ valu (b :: r)
      · exact .inr (.inr hov)
      · rcases h6 with h6 | h6 | h6
        · -- all: at least two bytes
          have h2b : 2 ≤ lead b := by
            by_cases hc : 2 ≤ lead b
            · exact hc
            · exfalso
              have hlz : r.length = 0 := by omega
              have : r = [] := List.length_eq_zero_iff.mp hlz
              subst this
              have h1 : lead b = 1 := by simpa using h1
              apply hov
              simp [least, valu, h1, base, fold64]; exact hs.head.1
          have hw := use 2 [192, 129] (by omega) (by omega) (by omega) w3 (vld_iff.mpr ⟨by decide, by rw [l192]; omega, by decide, by decide, .inr (.inl (by decide)), .inl h6⟩)
          have := (vld_iff.mp hw).2.2.2.2.2
          rcases this with h | h | h
          · exact .inl h
          · exact absurd h.2 (by decide)
          · exact absurd h (by decide)
        · have hw := use 2 [192, 128] (by omega) (by omega) (by
            have : lead b = 2 := by have := h6.2; simp at this; rw [this.1]; decide
            omega) w2 (by rw [← h6.2]; exact hv)
          have := (vld_iff.mp hw).2.2.2.2.2
          rcases this with h | h | h
          · exact .inl h
          · exact .inr (.inl ⟨h.1, h6.2⟩)
          · exact absurd h (by decide)
        · exact absurd h6 hov
end BB

/-! ## rows of valid sequences; cutting between pieces -/
namespace BB
open PySem
def okP (x : Nat × Nat × Int) : Bool := !decide (x.2.2 = -1)
/-- a row with as many bytes as its first one announces -/
def Full (s : List Int) : Prop := ∃ b r, s = b :: r ∧ lead b = r.length + 1 ∧ Byts s
theorem vld_full {d : Dc} {s : List Int} (h : vld d s = true) (hs : Byts s) : Full s := by
  cases s with
  | nil => simp [vld] at h
  | cons b r => exact ⟨b, r, rfl, (vld_iff.mp h).1, hs⟩
theorem gsz_row {d : Dc} {s : List Int} (h : Full s) (t : List Int) : gsz d (s ++ t) = if vld d s = true then s.length else 0 := by
  obtain ⟨b, r, rfl, hl, hs⟩ := h
  have hv := vld_beg (d := d) (r := r) hs.head.1
  rw [List.cons_append]
  simp only [gsz]
  have ht : (b :: (r ++ t)).take (lead b).toNat = b :: r := by
    rw [show (lead b).toNat = r.length + 1 by omega, List.take_succ_cons, List.take_left' rfl]
  rw [ht]
  by_cases hb : beg d (b :: r) = true
  · rw [if_pos ⟨by omega, by simp; omega, hb⟩, if_pos (hv.mpr ⟨hl, hb⟩)]
    simp; omega
  · rw [if_neg (fun hh => hb hh.2.2), if_neg (fun hh => hb (hv.mp hh).2)]
theorem row_good {d : Dc} {b : Int} {r : List Int} (hs : Byts (b :: r)) (hv : vld d (b :: r) = true) (t : List Int) : szO d (b :: (r ++ t)) = r.length + 1 ∧ pval d (b :: (r ++ t)) = valu (b :: r) ∧ 0 ≤ valu (b :: r) := by
  have hf := vld_full hv hs
  have hg := gsz_row (d := d) hf t
  rw [if_pos hv, List.cons_append] at hg
  simp only [List.length_cons] at hg
  refine ⟨?_, ?_, ?_⟩
  · unfold szO; rw [if_pos (by omega), hg]
  · unfold pval; rw [if_pos (by omega), hg, List.take_succ_cons, List.take_left' rfl]
  · exact valu_nonneg hs.head.1 ((vld_beg hs.head.1).mp hv).2
theorem row_bad {d : Dc} {b : Int} {r : List Int} (hf : Full (b :: r)) (hv : vld d (b :: r) = false) (t : List Int) : pval d (b :: (r ++ t)) = -1 := by
  have hg := gsz_row (d := d) hf t
  rw [hv, List.cons_append] at hg
  simp at hg
  unfold pval; rw [if_neg (by omega)]
theorem pcs_all_shift (d : Dc) (k p : Nat) (s : List Int) : (pcs d (k + p) s).all okP = (pcs d p s).all okP := by
  rw [← pcs_shift, List.all_map]; rfl
theorem clean_rows {d : Dc} : ∀ (rows : List (List Int)) (p : Nat), (∀ s ∈ rows, Full s) → (pcs d p rows.flatten).all okP = rows.all (vld d)
  | [], p, _ => by simp [pcs_nil]
  | row :: rows, p, h => by
    obtain ⟨b, r, rfl, hl, hs⟩ := h row (by simp)
    rw [List.flatten_cons, List.cons_append, pcs_cons, List.all_cons, List.all_cons]
    cases hv : vld d (b :: r)
    · have := row_bad (d := d) ⟨b, r, rfl, hl, hs⟩ hv rows.flatten
      simp [okP, this]
    · obtain ⟨h1, h2, h3⟩ := row_good hs hv rows.flatten
      have ih := clean_rows (d := d) rows (p + (r.length + 1)) (fun s hs => h s (by simp [hs]))
      rw [h1, h2, List.drop_succ_cons, List.drop_left' rfl, ih]
      simp [okP]; omega
theorem rs_rows {d : Dc} : ∀ (rows : List (List Int)) (a : Bool), (∀ s ∈ rows, vld d s = true ∧ Byts s) → rs d a rows.flatten = rows.map valu
  | [], a, _ => by simp
  | row :: rows, a, h => by
    obtain ⟨hv, hs⟩ := h row (by simp)
    cases row with
    | nil => simp [vld] at hv
    | cons b r =>
      obtain ⟨h1, h2, h3⟩ := row_good hs hv rows.flatten
      rw [List.flatten_cons, List.cons_append, rs_cons, h1, List.drop_succ_cons, List.drop_left' rfl, rs_rows rows _ (fun s hs => h s (by simp [hs]))]
      rw [itm, if_pos (by rw [h2]; omega), h2]
      simp
theorem res_rows {d : Dc} (rows : List (List Int)) (h : ∀ s ∈ rows, vld d s = true ∧ Byts s) : res d rows.flatten = rows.map valu := by
  rw [res_rs]; exact rs_rows rows false h
/-! ### cutting -/
theorem mem_bd {d : Dc} : ∀ (n : Nat) (s : List Int) (p : Nat) (a : Bool), s.length ≤ n → ∀ x ∈ pcs d p s, ∃ q a', x.1 = p + q ∧ q < s.length ∧ Bd d a s q a' ∧ x.2.1 = szO d (s.drop q) ∧ x.2.2 = pval d (s.drop q)
  | n, [], p, a, _, x, hx => by simp [pcs_nil] at hx
  | 0, b :: r, p, a, h, x, hx => by simp at h
  | n + 1, b :: r, p, a, h, x, hx => by
    have hz := szO_range d b r
    simp only [List.length_cons] at h
    rw [pcs_cons, List.mem_cons] at hx
    rcases hx with rfl | hx
    · exact ⟨0, a, rfl, by simp, Bd.zero _ _, rfl, rfl⟩
    · obtain ⟨q, a', h1, h2, h3, h4, h5⟩ := mem_bd n _ _ (bad d (b :: r)) (by simp; omega) x hx
      simp only [List.length_drop, List.length_cons] at h2
      rw [List.drop_drop] at h4 h5
      exact ⟨szO d (b :: r) + q, a', by omega, by simp only [List.length_cons]; omega, Bd.step a b r q a' h3, h4, h5⟩
theorem pcs_take {d : Dc} : ∀ (n : Nat) (t : List Int) (p m : Nat), t.length ≤ n → (m ∈ (pcs d p t).map (·.1) ∨ m = p + t.length) → pcs d p (t.take (m - p)) = (pcs d p t).filter fun x => decide (x.1 < m)
  | n, [], p, m, _, h => by simp [pcs_nil]
  | 0, b :: r, p, m, hn, h => by simp at hn
  | n + 1, b :: r, p, m, hn, h => by
    have hz := szO_range d b r
    by_cases e : m = p
    · subst e
      rw [Nat.sub_self, List.take_zero, pcs_nil]
      symm
      rw [List.filter_eq_nil_iff]
      intro x hx
      have := pcs_in hx
      simp; omega
    · rw [pcs_cons] at h
      simp only [List.map_cons, List.mem_cons, List.length_cons] at h hn
      have hm : m ∈ (pcs d (p + szO d (b :: r)) ((b :: r).drop (szO d (b :: r)))).map (·.1) ∨ m = p + szO d (b :: r) + ((b :: r).drop (szO d (b :: r))).length := by
        rcases h with (h | h) | h
        · exact absurd h e
        · exact .inl h
        · right; simp; omega
      have hge : p + szO d (b :: r) ≤ m := by
        rcases hm with h | h
        · obtain ⟨x, hx, rfl⟩ := List.mem_map.mp h
          exact (pcs_in hx).1
        · omega
      have ih := pcs_take (d := d) n _ _ m (by simp; omega) hm
      obtain ⟨s1, s2⟩ := szO_take (d := d) (b := b) (r := r) (q := m - p) (by omega)
      obtain ⟨j, hj⟩ : ∃ j, m - p = j + 1 := ⟨m - p - 1, by omega⟩
      rw [pcs_cons d p b r, List.filter_cons_of_pos (by simp; omega), ← ih]
      rw [hj, List.take_succ_cons] at s1 s2 ⊢
      rw [pcs_cons, s1, s2]
      congr 1
      rw [show m - (p + szO d (b :: r)) = j + 1 - szO d (b :: r) by omega]
      rw [← List.take_succ_cons, ← List.drop_take]
theorem filter_split {α : Type} (f : α → Nat) (q : Nat) : ∀ (l : List α), (l.map fun x => (f x : Int)).Pairwise (· < ·) → l.filter (fun x => decide (f x < q)) ++ l.filter (fun x => decide (q ≤ f x)) = l
  | [], _ => rfl
  | x :: l, h => by
    rw [List.map_cons, List.pairwise_cons] at h
    by_cases c : f x < q
    · rw [List.filter_cons_of_pos (by simpa using c), List.filter_cons_of_neg (by simp; omega), List.cons_append, filter_split f q l h.2]
    · have h1 : l.filter (fun x => decide (f x < q)) = [] := by
        rw [List.filter_eq_nil_iff]
        intro y hy
        have := h.1 (f y) (List.mem_map.mpr ⟨y, hy, rfl⟩)
        simp; omega
      have h2 : l.filter (fun x => decide (q ≤ f x)) = l := by
        rw [List.filter_eq_self]
        intro y hy
        have := h.1 (f y) (List.mem_map.mpr ⟨y, hy, rfl⟩)
        simp; omega
      rw [List.filter_cons_of_neg (by simpa using c), List.filter_cons_of_pos (by simp; omega), h1, h2]; rfl
theorem eqv_str (x y : Str) : PyData.eqv (.str x) (.str y) = decide (x = y) := by
  rw [PyData.eqv, str_beq]
theorem in_strs (neg : Bool) (x : Str) (ys : List Str) : inD neg (.str x) (.tuple (ys.map PyData.str)) = .ok (.bool (decide (x ∈ ys) != neg)) := by
  simp only [inD]
  rw [if_pos (by simp [inb, scalar])]
  congr 3
  rw [Bool.eq_iff_iff]
  simp [eqv_str]
end BB

/-! ## texts as lists of codes -/
namespace BB
open PySem
/-- a text by its codes -/
abbrev Tx (l : List Nat) : Str := SX.S l
def smallS : List Nat := [48, 49, 50, 51, 52, 53, 54, 55, 56, 57, 97, 98, 99, 100, 101, 102]
def largeS : List Nat := [48, 49, 50, 51, 52, 53, 54, 55, 56, 57, 65, 66, 67, 68, 69, 70]
theorem small_S : ("0123456789abcdef" : Str) = Tx smallS := by decide +kernel
theorem large_S : ("0123456789ABCDEF" : Str) = Tx largeS := by decide +kernel
/-- the last k signs of a number to the base 16 -/
def hx (sg : List Nat) : Nat → Nat → List Nat
  | 0, _ => []
  | k + 1, n => sg.getD (n / 16 ^ k % 16) 0 :: hx sg k n
theorem hx_len (sg : List Nat) : ∀ k n, (hx sg k n).length = k
  | 0, _ => rfl
  | k + 1, n => by simp [hx, hx_len sg k]
theorem toList_S (a : List Nat) : (Tx a).cps.toList = a := by simp [Tx, SX.S]
theorem ix_S {sg : List Nat} {i : Nat} (h : i < sg.length) (hl : sg.length ≤ 1000) : ixD (.str (Tx sg)) (.int i) = .ok (.str (Tx [sg.getD i 0])) := by
  simp only [ixD]
  rw [if_pos (by rw [SX.S_len]; simp only [LIM]; omega), atI_nat sg i h]
  simp [List.getD_eq_getElem?_getD, h]
theorem add_S {a b : List Nat} (h : a.length + b.length ≤ 1000000) : addD (.str (Tx a)) (.str (Tx b)) = .ok (.str (Tx (a ++ b))) := by
  simp only [addD, SX.S_len]
  rw [if_pos h, SX.S_cat]
theorem len_S {a : List Nat} (h : a.length ≤ 1000000) : bltD .len [.str (Tx a)] = .ok (.int a.length) := by
  simp only [bltD, SX.S_len]
  rw [if_pos h]
theorem seq_S {a : List Nat} (h : a.length ≤ 1000000) : seqOf (.str (Tx a)) = .ok (a.map fun c => .str (Tx [c])) := by
  simp only [seqOf, SX.S_len]
  rw [if_pos h]
theorem in_S (a : List Nat) (c : Nat) : inD false (.str (Tx [c])) (.str (Tx a)) = .ok (.bool (decide (c ∈ a))) := by
  simp only [inD, SX.in_one]
  simp
theorem eq_S (a b : List Nat) : eqD (.str (Tx a)) (.str (Tx b)) = .ok (.bool (decide (a = b))) ∧ neD (.str (Tx a)) (.str (Tx b)) = .ok (.bool (!decide (a = b))) := by
  have : PyData.eqv (.str (Tx a)) (.str (Tx b)) = decide (a = b) := by
    rw [eqv_str]
    congr 1
    exact propext ⟨SX.S_inj, fun e => by rw [e]⟩
  simp [eqD, neD, cmpb, this]
theorem idx_small : ∀ c ∈ smallS, Builtin.Str.occurrences (Tx smallS) (Tx [c]) 0 (Tx smallS).length 1 = [smallS.idxOf c] := by decide +kernel
theorem idx_large : ∀ c ∈ largeS, Builtin.Str.occurrences (Tx largeS) (Tx [c]) 0 (Tx largeS).length 1 = [largeS.idxOf c] := by decide +kernel
/-- the signs of numbers: sixteen, each once -/
structure Sg16 (sg : List Nat) : Prop where
  len : sg.length = 16
  idx : ∀ c ∈ sg, Builtin.Str.occurrences (Tx sg) (Tx [c]) 0 (Tx sg).length 1 = [sg.idxOf c]
  nd : ∀ n < 16, sg.idxOf (sg.getD n 0) = n ∧ sg.getD n 0 ∈ sg
theorem sg_small : Sg16 smallS := ⟨rfl, idx_small, by decide⟩
theorem sg_large : Sg16 largeS := ⟨rfl, idx_large, by decide⟩
def numO (sg a : List Nat) : Option Int := if a ≠ [] ∧ (a.all fun c => decide (c ∈ sg)) = true then some ((a.foldl (fun n c => 16 * n + sg.idxOf c) 0 : Nat) : Int) else none
def optD : Option Int → D
  | none => .none
  | some i => .int i
theorem fold_hx {sg : List Nat} (h : Sg16 sg) (n : Nat) : ∀ k v, (hx sg k n).foldl (fun n c => 16 * n + sg.idxOf c) v = 16 ^ k * v + n % 16 ^ k
  | 0, v => by simp [hx, Nat.mod_one]
  | k + 1, v => by
    rw [hx, List.foldl_cons, fold_hx h n k, (h.nd _ (Nat.mod_lt _ (by decide))).1, Nat.mod_pow_succ, Nat.pow_succ, Nat.mul_add, Nat.mul_assoc]
    omega
theorem hx_in {sg : List Nat} (h : Sg16 sg) (n : Nat) : ∀ k, ∀ c ∈ hx sg k n, c ∈ sg
  | 0, c, hc => by cases hc
  | k + 1, c, hc => by
    rw [hx, List.mem_cons] at hc
    rcases hc with rfl | hc
    · exact (h.nd _ (Nat.mod_lt _ (by decide))).2
    · exact hx_in h n k c hc
theorem numO_hx {sg : List Nat} (h : Sg16 sg) {n k : Nat} (hk : 1 ≤ k) (hn : n < 16 ^ k) : numO sg (hx sg k n) = some (n : Int) := by
  unfold numO
  rw [if_pos ⟨fun e => by have := congrArg List.length e; rw [hx_len] at this; simp at this; omega, List.all_eq_true.mpr fun c hc => decide_eq_true (hx_in h n k c hc)⟩, fold_hx h n k 0, Nat.mod_eq_of_lt hn]
  simp
/-! ### join, split -/
def joinT (ws : List (List Nat)) : List Nat := TL.joinL [32] ws
theorem asStrs_map : ∀ ws : List (List Nat), asStrs (ws.map fun w => PyData.str (Tx w)) = some (ws.map Tx)
  | [] => rfl
  | w :: ws => by simp [asStrs, asStrs_map ws]
theorem sp_S : (" " : Str) = Tx [32] := by decide +kernel
theorem join_ok {ws : List (List Nat)} (h : (ws.map (·.length)).sum + ws.length ≤ 1000000) : mthD .join (Tx [32]) (.list (ws.map fun w => .str (Tx w))) = .ok (.str (Tx (joinT ws))) := by
  simp only [mthD, asStrs_map]
  have e : ((ws.map Tx).map (·.length)) = ws.map (·.length) := SX.lens ws
  rw [e, if_pos (by rw [SX.S_len]; simp; exact h)]
  have := SX.join_S [32] ws
  exact congrArg (fun z => Out.ok (PyData.str z)) this
def splT (a : List Nat) : List (List Nat) := TL.spl [32] 0 [] a
theorem split_ok {a : List Nat} (h : a.length ≤ 1000000) : mthD .split (Tx a) (.str (Tx [32])) = .ok (.list ((splT a).map fun w => .str (Tx w))) := by
  simp only [mthD, SX.S_len]
  rw [if_pos ⟨by simp, h⟩, SX.split_S (by simp) (by decide)]
  simp only [List.map_map]
  rfl
theorem splT_join {ws : List (List Nat)} (h0 : ws ≠ []) (h : ∀ w ∈ ws, 32 ∉ w) : splT (joinT ws) = ws := TL.spl_join h0 h
theorem joinT_len : ∀ ws : List (List Nat), (joinT ws).length ≤ (ws.map (·.length)).sum + ws.length
  | [] => by simp [joinT, TL.joinL]
  | [w] => by simp [joinT, TL.joinL]
  | w :: v :: ws => by
    have := joinT_len (v :: ws)
    simp only [joinT, TL.joinL, List.length_append, List.map_cons, List.sum_cons, List.length_cons] at this ⊢
    simp
    omega
def wordsT (a : List Nat) : List (List Nat) := if a = [] then [] else splT a
theorem wordsT_join {ws : List (List Nat)} (h : ∀ w ∈ ws, w ≠ [] ∧ 32 ∉ w) : wordsT (joinT ws) = ws := by
  cases ws with
  | nil => rfl
  | cons w ws =>
    unfold wordsT
    have hw := (h w (by simp)).1
    rw [if_neg, splT_join (by simp) fun v hv => (h v hv).2]
    intro e
    cases ws with
    | nil => simp [joinT, TL.joinL] at e; exact hw e
    | cons v ws => simp [joinT, TL.joinL] at e
end BB

namespace PG
open PySem BB PG
theorem digits_ok {sg : List Nat} (h : sg.length = 16) {n L w : Nat} (hw : n < 16 ^ w) (hL : L ≤ w) (hw2 : w = L ∨ 16 ^ (w - 1) ≤ n) (hw3 : w ≤ 60) : r_digits [.int n, .int L, .str (Tx sg)] = .ok (.str (Tx (hx sg w n))) := by
  unfold r_digits
  refine run_to (P := fun o => o = _) ?_
  unfold b_digits
  have g0 : (sgL c_digits l_digits).gl 0 = .int 16 := rfl
  generalize sgL c_digits l_digits = g at g0
  refine W.asg (d := .str (Tx [])) (by simp; rfl) ?_
  refine W.while (m0 := w) (fun m e => ∃ k, k + m = w ∧ e = [.val (.int ((n / 16 ^ k : Nat) : Int)), .val (.int L), .val (.str (Tx sg)), .val (.str (Tx (hx sg k n)))]) (by unfold FUEL; omega) ⟨0, by omega, by simp [hx]⟩ ?_
  rintro m e ⟨k, hk, rfl⟩
  have hkl := hx_len sg k n
  refine ⟨decide (0 < m), ?_, ?_, ?_⟩
  · simp only [evE_bop, evE_cmp, evE_var, evE_int, evE_blt, evEs_cons, evEs_nil, rd_succ, rd_zero, get_val, Out.bind_ok, evB_cons, evB_nil, len_S (show (hx sg k n).length ≤ 1000000 by omega), hkl]
    have key : (0 < n / 16 ^ k ∨ k < L) ↔ 0 < m := by
      constructor
      · rintro (h1 | h1)
        · apply Nat.pos_of_ne_zero
          intro hm
          have hkw : k = w := by omega
          rw [hkw, Nat.div_eq_of_lt hw] at h1
          omega
        · omega
      · intro hm
        by_cases hkL : k < L
        · exact .inr hkL
        · exact .inl (Nat.div_pos (Nat.le_trans (Nat.pow_le_pow_right (by decide) (show k ≤ w - 1 by omega)) (by rcases hw2 with e | e; omega; exact e)) (Nat.pow_pos (by decide)))
    generalize n / 16 ^ k = q at key
    have key2 : decide (0 < m) = (decide (0 < q) || decide (k < L)) := by
      rw [Bool.eq_iff_iff]
      simp [key]
    rw [key2]
    by_cases h0 : 0 < q
    · have h0' : (0 : Int) < q := by omega
      simp [h0, h0']
    · have h0' : q = 0 := by omega
      subst h0'
      simp
  · intro hm
    have hm : 0 < m := by simpa using hm
    have hmod : (((n / 16 ^ k : Nat) : Int) % 16) = ((n / 16 ^ k % 16 : Nat) : Int) := by simp
    refine W.asg (d := .str (Tx (hx sg (k + 1) n))) (by
      simp only [evE_bin, evE_ix, evE_var, evE_glob, g0, hide_cons, hide_val, hide_nil, rd_succ, rd_zero, get_val, Out.bind_ok, binD_mod, modD, binD_add]
      rw [if_pos (by decide), Out.bind_ok, hmod, ix_S (by have := Nat.mod_lt (n / 16 ^ k) (show 16 > 0 by decide); omega) (by omega), Out.bind_ok, add_S (by simp; omega)]
      rfl) ?_
    refine W.asg (d := .int ((n / 16 ^ (k + 1) : Nat) : Int)) (by
      simp only [evE_bin, evE_var, evE_glob, g0, hide_cons, hide_val, hide_nil, List.set_cons_succ, List.set_cons_zero, rd_succ, rd_zero, get_val, Out.bind_ok, binD_fdiv, fdivD]
      rw [if_pos (by decide), Nat.pow_succ, ← Nat.div_div_eq_div_mul]
      simp) ?_
    exact W.nil ⟨m - 1, by omega, k + 1, by omega, rfl⟩
  · intro hm
    have hm : m = 0 := by simpa using hm
    have hkw : k = w := by omega
    subst hkw
    exact W.ret (d := .str (Tx (hx sg k n))) (by simp) rfl
theorem number_of_ok {sg : List Nat} (h : Sg16 sg) (a : List Nat) (ha : a.length ≤ 1000) : r_number_of [.str (Tx a), .str (Tx sg)] = .ok (optD (numO sg a)) := by
  unfold r_number_of
  refine run_to (P := fun o => o = _) ?_
  unfold b_number_of
  have g0 : (sgL c_number_of l_number_of).gl 0 = .int 16 := rfl
  generalize sgL c_number_of l_number_of = g at g0
  have e0 : (("" : Str)) = Tx [] := by decide +kernel
  refine W.ife (k := !decide (a ≠ [] ∧ (a.all fun c => decide (c ∈ sg)) = true)) ?_ ?_
  · rw [evE_bop, evE_cmp]
    simp only [evE_var, evE_str, List.map_cons, List.map_nil, List.cons_append, rd_succ, rd_zero, get_val, Out.bind_ok, cmpD_eq, e0, (eq_S _ _).1, evB_cons, asB_bool]
    by_cases h0 : a = []
    · subst h0; simp
    · simp only [h0, decide_false, if_true]
      rw [evE_not, evE_blt, evEs_cons, comp_map (xs := a) (q := fun c => .str (Tx [c])) (f := fun c => .bool (decide (c ∈ sg))) (by simp [seq_S (show a.length ≤ 1000000 by omega)]) (fun c _ => by simp [stepC, in_S])]
      simp only [Out.bind_ok, evEs_nil, all_map, asB_bool, evB_nil]
      congr 2
      rw [Bool.eq_iff_iff]
      simp [h0]
  · unfold numO
    by_cases hc : a ≠ [] ∧ (a.all fun c => decide (c ∈ sg)) = true
    · rw [if_pos hc]
      rw [decide_eq_true hc]
      simp only [Bool.not_true, Bool.false_eq_true, if_false]
      refine W.nilK ?_
      refine W.asg (d := .int 0) (by simp) ?_
      refine W.for (xs := a) (q := fun c => .str (Tx [c])) (fun dn e => ∃ s2, e = [.val (.str (Tx a)), .val (.str (Tx sg)), s2, .val (.int ((dn.foldl (fun n c => 16 * n + sg.idxOf c) 0 : Nat) : Int))]) (by simp [seq_S (show a.length ≤ 1000000 by omega)]) ⟨_, rfl⟩ ?_ ?_
      · rintro dn c rest hx e ⟨s2, rfl⟩
        have hm : c ∈ sg := of_decide_eq_true (List.all_eq_true.mp hc.2 c (by rw [hx]; simp))
        refine W.turn ?_
        refine W.asg (d := .int (((dn ++ [c]).foldl (fun n c => 16 * n + sg.idxOf c) 0 : Nat) : Int)) (by
          simp only [evE_bin, evE_mth, evE_var, evE_glob, g0, hide_cons, hide_val, hide_nil, List.set_cons_succ, List.set_cons_zero, rd_succ, rd_zero, get_val, Out.bind_ok, strOf_str, mthD, h.idx c hm, binD_add, binD_mul]
          simp [mulD, small]) ?_
        exact W.nil ⟨_, rfl⟩
      · rintro e ⟨s2, rfl⟩
        exact W.ret (d := .int ((a.foldl (fun n c => 16 * n + sg.idxOf c) 0 : Nat) : Int)) (by simp) rfl
    · rw [if_neg hc]
      rw [decide_eq_false hc]
      simp only [Bool.not_false, if_true]
      exact W.retK (d := .none) (by simp) rfl
end PG

namespace PG
open PySem BB PG
theorem is_int_ok (d : D) (a b : Int) (h : noDict d = true) : r_is_int [d, .int a, .int b] = .ok (.bool (isI d a b)) := by
  unfold r_is_int
  rw [runD_eq]
  unfold b_is_int
  cases d with
  | int i => by_cases h1 : a ≤ i <;> simp [noDict, isiD, isI, h1]
  | dict kvs => simp [noDict] at h
  | _ => simp [noDict, isiD, isI]
end PG

namespace PG
open PySem BB PG
theorem is_byte_ok (d : D) (h : noDict d = true) : r_is_byte [d] = .ok (.bool (isI d 0 255)) := by
  unfold r_is_byte
  rw [runD_eq]
  unfold b_is_byte
  have fn0 : (sgL c_is_byte l_is_byte).fn 0 = r_is_int := rfl
  simp [fn0, is_int_ok d 0 255 h]
theorem is_string_good {s : List Int} (h : Byts s) (hl : s.length ≤ 60) : r_is_string [.tuple (intL s)] = .ok (.bool true) := by
  unfold r_is_string
  rw [runD_eq]
  unfold b_is_string
  have fn0 : (sgL c_is_string l_is_string).fn 0 = r_is_byte := rfl
  have g0 : (sgL c_is_string l_is_string).gl 0 = .int 60 := rfl
  generalize sgL c_is_string l_is_string = g at fn0 g0
  have hc : evE g (.comp (.call 0 (.cons (.var 1) .nil)) (.one 1) (.seq (.var 0)) .none [1]) [.val (.tuple (intL s)), .non] = .ok (.list (bools (s.map fun _ => true))) := by
    rw [comp_map (xs := s) (q := PyData.int) (f := fun _ => PyData.bool true) rfl (fun x hx => by
      have := h x hx
      simp [stepC, fn0, is_byte_ok (.int x) rfl, isI, this])]
    simp [bools]
  simp [-evE_comp, hc, noDict, isiD, g0, show (s.length : Int) ≤ 60 by omega]
theorem check_string_good {s : List Int} (h : Byts s) (hl : s.length ≤ 60) : r_check_string [.tuple (intL s)] = .ok .none := by
  unfold r_check_string
  rw [runD_eq]
  unfold b_check_string
  have fn0 : (sgL c_check_string l_check_string).fn 0 = r_is_string := rfl
  simp [fn0, is_string_good h hl]
theorem is_continuation_ok (b : Int) : r_is_continuation [.int b] = .ok (.bool (isCb b)) := by
  unfold r_is_continuation
  rw [runD_eq]
  unfold b_is_continuation
  have g0 : (sgL c_is_continuation l_is_continuation).gl 0 = .int 128 := rfl
  have g1 : (sgL c_is_continuation l_is_continuation).gl 1 = .int 191 := rfl
  by_cases h : 128 ≤ b <;> simp [g0, g1, isCb, h]
theorem announced_ok (b : Int) : r_announced [.int b] = .ok (.int (lead b)) := by
  unfold r_announced
  rw [runD_eq]
  unfold b_announced
  have g0 : (sgL c_announced l_announced).gl 0 = .int 128 := rfl
  have g1 : (sgL c_announced l_announced).gl 1 = .tuple [.int 0, .int 0, .int 192, .int 224, .int 240, .int 248] := rfl
  generalize sgL c_announced l_announced = g at g0 g1
  unfold lead
  by_cases h1 : b < 128
  · simp [g0, h1]
  have e2 : ixD (.tuple [.int 0, .int 0, .int 192, .int 224, .int 240, .int 248]) (.int 2) = .ok (.int 192) := rfl
  have e3 : ixD (.tuple [.int 0, .int 0, .int 192, .int 224, .int 240, .int 248]) (.int 3) = .ok (.int 224) := rfl
  have e4 : ixD (.tuple [.int 0, .int 0, .int 192, .int 224, .int 240, .int 248]) (.int 4) = .ok (.int 240) := rfl
  have e5 : ixD (.tuple [.int 0, .int 0, .int 192, .int 224, .int 240, .int 248]) (.int 5) = .ok (.int 248) := rfl
  have hc : evE g (.comp (.var 2) (.one 2) (.seq (.tup (.cons (.int 2) (.cons (.int 3) (.cons (.int 4) .nil))))) (.some (.chn .le .lt (.ix (.glob 1) (.var 2)) (.var 0) (.ix (.glob 1) (.bin .add (.var 2) (.int 1))))) [2]) [.val (.int b), .non, .non] = .ok (.list (intL (if b < 192 ∨ 247 < b then [] else if b < 224 then [2] else if b < 240 then [3] else [4]))) := by
    simp only [evE_comp, evI_seq, evE_tup, evEs_cons, evEs_nil, evE_int, Out.bind_ok, seqOf_tuple, compL, stepC, setTg_one, wipe_cons, wipe_nil, List.set_cons_succ, List.set_cons_zero, evC_some, evE_chn, evE_ix, evE_glob, g1, evE_var, rd_succ, rd_zero, get_val, evE_bin, binD_add, add_int, e2, e3, e4, e5, cmpD_le, cmpD_lt, asB_bool]
    simp only [show (2 : Int) + 1 = 3 from rfl, show (3 : Int) + 1 = 4 from rfl, show (4 : Int) + 1 = 5 from rfl, e3, e4, e5, Out.bind_ok, cmpD_lt, asB_bool]
    by_cases a1 : b < 192
    · simp [show ¬ (192 ≤ b) by omega, show ¬ (224 ≤ b) by omega, show ¬ (240 ≤ b) by omega, a1]
    by_cases a2 : b < 224
    · simp [show (192 ≤ b) by omega, show ¬ (224 ≤ b) by omega, show ¬ (240 ≤ b) by omega, a2, show ¬ (247 < b) by omega, a1]
    by_cases a3 : b < 240
    · simp [show (192 ≤ b) by omega, show (224 ≤ b) by omega, show ¬ (240 ≤ b) by omega, a2, a3, show ¬ (247 < b) by omega, a1]
    by_cases a4 : b < 248
    · simp [show (192 ≤ b) by omega, show (224 ≤ b) by omega, show (240 ≤ b) by omega, a2, a3, a4, show ¬ (247 < b) by omega, a1]
    · simp [show (192 ≤ b) by omega, show (224 ≤ b) by omega, show (240 ≤ b) by omega, a2, a3, a4, show (247 < b) by omega, a1]
  rw [ss_next (r' := [.val (.int b), .non, .non]) (by rw [ife_f (by simp [g0, h1])]; rfl)]
  rw [ss_next (asg_ok (by exact hc))]
  rw [if_neg h1]
  by_cases a1 : b < 192 ∨ 247 < b
  · have hq := eq_listI [] []
    simp only [intL_nil] at hq
    simp [a1, hq]
  · rw [if_neg a1, if_neg a1]
    by_cases a2 : b < 224
    · have hq := eq_listI [2] []
      simp only [intL_nil, intL_cons] at hq
      simp [a2, hq]; rfl
    · by_cases a3 : b < 240
      · have hq := eq_listI [3] []
        simp only [intL_nil, intL_cons] at hq
        simp [a2, a3, hq]; rfl
      · have hq := eq_listI [4] []
        simp only [intL_nil, intL_cons] at hq
        simp [a2, a3, hq]; rfl
theorem base_ix {n : Int} (h0 : 0 ≤ n) (h4 : n ≤ 4) : ixD (.tuple [.int 0, .int 0, .int 192, .int 224, .int 240, .int 248]) (.int n) = .ok (.int (base n.toNat)) := by
  rcases (by omega : n = 0 ∨ n = 1 ∨ n = 2 ∨ n = 3 ∨ n = 4) with rfl | rfl | rfl | rfl | rfl <;> rfl
theorem value_from_ok (b : Int) (r : List Int) : r_value_from [.tuple (intL (b :: r))] = .ok (.int (valu (b :: r))) := by
  unfold r_value_from
  refine run_to (P := fun o => o = _) ?_
  unfold b_value_from
  have fn0 : (sgL c_value_from l_value_from).fn 0 = r_announced := rfl
  have g0 : (sgL c_value_from l_value_from).gl 0 = .tuple [.int 0, .int 0, .int 192, .int 224, .int 240, .int 248] := rfl
  have g1 : (sgL c_value_from l_value_from).gl 1 = .int 64 := rfl
  have g2 : (sgL c_value_from l_value_from).gl 2 = .int 128 := rfl
  generalize sgL c_value_from l_value_from = g at fn0 g0 g1 g2
  have h0 : ixD (.tuple (.int b :: intL r)) (.int 0) = .ok (.int b) := ix_tupI (ns := b :: r) (i := 0) (by omega) (by simp)
  have hl := lead_range b
  have hs : cutD (.int b :: intL r) (some 1) none = intL r := by
    have := cut_from (.int b :: intL r) 1
    simpa using this
  refine W.asg (d := .int (b - base (lead b).toNat)) (by simp [h0, fn0, announced_ok, g0, base_ix hl.1 hl.2]) ?_
  refine W.for (xs := r) (q := PyData.int) (fun dn e => ∃ s2, e = [.val (.tuple (intL (b :: r))), .val (.int (fold64 dn (b - base (lead b).toNat))), s2]) (by simp [slD, hs]; rfl) ⟨_, rfl⟩ ?_ ?_
  · rintro dn x rest hx e ⟨s2, rfl⟩
    refine W.turn ?_
    refine W.asg (d := .int (fold64 (dn ++ [x]) (b - base (lead b).toNat))) (by simp [g1, g2, mulD, small, fold64]) ?_
    exact W.nil ⟨_, rfl⟩
  · rintro e ⟨s2, rfl⟩
    exact W.ret (d := .int (fold64 r (b - base (lead b).toNat))) (by simp) rfl
theorem least_value_ok (n : Int) (h1 : 1 ≤ n) (h4 : n ≤ 4) : r_least_value [.int n] = .ok (.int (least n.toNat)) := by
  rcases (by omega : n = 1 ∨ n = 2 ∨ n = 3 ∨ n = 4) with rfl | rfl | rfl | rfl <;> rfl
end PG

namespace PG
open PySem BB PG
/-- a string, by its data -/
def isStr : D → Bool
  | .tuple xs => decide (xs.length ≤ 60) && xs.all fun x => isI x 0 255
  | _ => false
def plainD : D → Bool
  | .dict _ => false
  | .tuple xs => xs.all noDict
  | _ => true
theorem is_string_ok (d : D) (h : plainD d = true) : r_is_string [d] = .ok (.bool (isStr d)) := by
  unfold r_is_string
  rw [runD_eq]
  unfold b_is_string
  have fn0 : (sgL c_is_string l_is_string).fn 0 = r_is_byte := rfl
  have g0 : (sgL c_is_string l_is_string).gl 0 = .int 60 := rfl
  generalize sgL c_is_string l_is_string = g at fn0 g0
  cases d with
  | tuple xs =>
    simp only [plainD, List.all_eq_true] at h
    have hc : evE g (.comp (.call 0 (.cons (.var 1) .nil)) (.one 1) (.seq (.var 0)) .none [1]) [.val (.tuple xs), .non] = .ok (.list (xs.map fun x => .bool (isI x 0 255))) := by
      rw [comp_map (xs := xs) (q := id) (f := fun x => PyData.bool (isI x 0 255)) (by simp) (fun x hx => by
        simp [stepC, fn0, is_byte_ok x (h x hx)])]
    by_cases hl : xs.length ≤ 60
    · simp [-evE_comp, hc, noDict, isiD, g0, show (xs.length : Int) ≤ 60 by omega, isStr, hl, all_map]
    · simp [-evE_comp, hc, noDict, isiD, g0, show ¬ (xs.length : Int) ≤ 60 by omega, isStr, hl]
  | dict kvs => simp [plainD] at h
  | _ => simp [noDict, isiD, isStr]
theorem check_string_bad (d : D) (h : plainD d = true) (hs : isStr d = false) : r_check_string [d] = .exc "InvalidString" := by
  unfold r_check_string
  rw [runD_eq]
  unfold b_check_string
  have fn0 : (sgL c_check_string l_check_string).fn 0 = r_is_string := rfl
  simp [fn0, is_string_ok d h, hs]
end PG

namespace PG
open PySem BB PG
def fmtS (s : List Int) : List Nat := joinT (s.map fun b => hx smallS 2 b.toNat)
theorem sum_len {α : Type} (f : α → List Nat) (k : Nat) : ∀ (l : List α), (∀ x ∈ l, (f x).length ≤ k) → ((l.map f).map (·.length)).sum ≤ k * l.length
  | [], _ => by simp
  | x :: l, h => by
    have := sum_len f k l (fun y hy => h y (by simp [hy]))
    have h1 := h x (by simp)
    simp only [List.map_cons, List.sum_cons, List.length_cons, Nat.mul_add]
    omega
theorem format_string_ok {s : List Int} (hs : Byts s) (hl : s.length ≤ 60) : r_format_string [.tuple (intL s)] = .ok (.str (Tx (fmtS s))) := by
  unfold r_format_string
  refine run_to (P := fun o => o = _) ?_
  unfold b_format_string
  have fn0 : (sgL c_format_string l_format_string).fn 0 = r_check_string := rfl
  have fn1 : (sgL c_format_string l_format_string).fn 1 = r_digits := rfl
  have g0 : (sgL c_format_string l_format_string).gl 0 = .str "0123456789abcdef" := rfl
  generalize sgL c_format_string l_format_string = g at fn0 fn1 g0
  refine W.exp (d := .none) (by simp [fn0, check_string_good hs hl]) ?_
  refine W.ret (d := .str (Tx (fmtS s))) ?_ rfl
  rw [evE_mth, comp_map (xs := s) (q := PyData.int) (f := fun b => .str (Tx (hx smallS 2 b.toNat))) (by simp; rfl) (fun b hb => by
    obtain ⟨b0, b1⟩ := hs b hb
    have := digits_ok (sg := smallS) rfl (n := b.toNat) (L := 2) (w := 2) (by omega) (by omega) (.inl rfl) (by omega)
    rw [show ((b.toNat : Nat) : Int) = b by omega] at this
    have this : r_digits [.int b, .int 2, .str (Tx smallS)] = .ok (.str (Tx (hx smallS 2 b.toNat))) := this
    simp only [stepC, g0, small_S]
    simp [stepC, g0, small_S, fn1, this])]
  simp only [evE_str, Out.bind_ok, strOf_str, sp_S]
  have := join_ok (ws := s.map fun b => hx smallS 2 b.toNat) (by
    have := sum_len (fun b : Int => hx smallS 2 b.toNat) 2 s (fun x _ => by rw [hx_len]; omega)
    simp only [List.length_map] at this ⊢
    omega)
  rw [List.map_map] at this
  exact this
theorem words_ok {a : List Nat} (h : a.length ≤ 1000000) : r_words [.str (Tx a)] = .ok (.list ((wordsT a).map fun w => .str (Tx w))) := by
  unfold r_words
  refine run_to (P := fun o => o = _) ?_
  unfold b_words
  generalize sgL c_words l_words = g
  have e0 : (("" : Str)) = Tx [] := by decide +kernel
  refine W.ifN (by simp [noDict, isiD]) ?_
  refine W.ret (d := .list ((wordsT a).map fun w => .str (Tx w))) ?_ rfl
  rw [evE_ite, evE_cmp]
  simp only [evE_var, evE_str, List.map_cons, List.map_nil, List.cons_append, rd_succ, rd_zero, get_val, Out.bind_ok, cmpD_ne, e0, (eq_S _ _).2, asB_bool, evE_mth, strOf_str, sp_S, split_ok h]
  unfold wordsT
  by_cases h0 : a = [] <;> simp [h0]
theorem words_bad {d : D} (h : noDict d = true) (hs : isiD "str" d = false) : r_words [d] = .exc "ParseError" := by
  unfold r_words
  refine run_to (P := fun o => o = _) ?_
  unfold b_words
  generalize sgL c_words l_words = g
  refine W.ifT (by simp [h, hs]) ?_
  exact W.exc rfl
end PG

namespace PG
open PySem BB PG
/-- the numbers of words, None where a word is none -/
def numsT (ws : List (List Nat)) : List (Option Int) := ws.map (numO smallS)
def badP (ws : List (List Nat)) : Bool := decide (60 < ws.length) || decide (none ∈ numsT ws) || !(ws.all fun w => decide (w.length = 2))
theorem any_optD : ∀ l : List (Option Int), ((l.map optD).any fun y => PyData.eqv y .none) = decide (none ∈ l)
  | [] => by simp
  | x :: l => by
    rw [List.map_cons, List.any_cons, any_optD l]
    cases x <;> simp [optD, PyData.eqv]
theorem scal_optD (l : List (Option Int)) : (l.map optD).all scalar = true := by
  rw [List.all_map, List.all_eq_true]
  intro x _
  cases x <;> rfl
theorem splT_len : ∀ (a acc : List Nat), ∀ w ∈ TL.spl [32] 0 acc a, w.length ≤ acc.length + a.length
  | [], acc, w, h => by
    rw [TL.spl_nil] at h
    simp at h
    subst h
    simp
  | c :: r, acc, w, h => by
    cases hp : TL.pre [32] (c :: r) with
    | true =>
      rw [TL.spl_hit hp, List.mem_cons] at h
      rcases h with rfl | h
      · simp
      · have := splT_len r [] w h
        simp at this ⊢
        omega
    | false =>
      rw [TL.spl_miss hp] at h
      have := splT_len r (acc ++ [c]) w h
      simp at this ⊢
      omega
theorem parse_string_ok {a : List Nat} (h : a.length ≤ 1000) : r_parse_string [.str (Tx a)] = if badP (wordsT a) = true then .exc "ParseError" else .ok (.tuple ((numsT (wordsT a)).map optD)) := by
  have hw : ∀ w ∈ wordsT a, w.length ≤ 1000 := fun w hm => by
    unfold wordsT at hm
    split at hm
    · cases hm
    · have := splT_len a [] w hm
      simp at this
      omega
  unfold r_parse_string
  refine run_to (P := fun o => o = _) ?_
  unfold b_parse_string
  have fn0 : (sgL c_parse_string l_parse_string).fn 0 = r_words := rfl
  have fn1 : (sgL c_parse_string l_parse_string).fn 1 = r_number_of := rfl
  have g0 : (sgL c_parse_string l_parse_string).gl 0 = .str "0123456789abcdef" := rfl
  have g1 : (sgL c_parse_string l_parse_string).gl 1 = .int 60 := rfl
  generalize sgL c_parse_string l_parse_string = g at fn0 fn1 g0 g1
  show W _ (evSs g _ [.val (.str (Tx a)), .non, .non, .non])
  refine W.asg (d := .list ((wordsT a).map fun w => .str (Tx w))) (by simp [fn0, words_ok (show a.length ≤ 1000000 by omega)]) ?_
  generalize wordsT a = ws at hw
  refine W.asg (d := .list ((numsT ws).map optD)) (by
    rw [comp_map (xs := ws) (q := fun w => .str (Tx w)) (f := fun w => optD (numO smallS w)) (by simp) (fun w hm => by
      have := number_of_ok sg_small w (hw w hm)
      simp [stepC, g0, small_S, fn1, this])]
    simp [numsT, List.map_map, Function.comp_def]) ?_
  refine W.ife (k := badP ws) ?_ ?_
  · rw [evE_bop, evE_cmp]
    simp only [evE_blt, evEs_cons, evEs_nil, evE_var, evE_glob, g1, List.map_cons, List.map_nil, List.cons_append, List.set_cons_succ, List.set_cons_zero, rd_succ, rd_zero, get_val, Out.bind_ok]
    unfold badP
    by_cases h1 : 60 < ws.length
    · have h1' : (60 : Int) < ws.length := by omega
      simp [h1, h1']
    · have h1' : ¬ (60 : Int) < ws.length := by omega
      have hin : inD false .none (.list ((numsT ws).map optD)) = .ok (.bool (decide (none ∈ numsT ws))) := by
        simp only [inD]
        rw [if_pos (by simp only [inb, scal_optD]; rfl), any_optD]
        simp
      have hall : evE g (.not (.blt .all (.cons (.comp (.cmp .eq (.blt .len (.cons (.var 3) .nil)) (.int 2)) (.one 3) (.seq (.var 1)) .none [3]) .nil))) [.val (.str (Tx a)), .val (.list (ws.map fun w => .str (Tx w))), .val (.list ((numsT ws).map optD)), .non] = .ok (.bool (!(ws.all fun w => decide (w.length = 2)))) := by
        rw [evE_not, evE_blt, evEs_cons, comp_map (xs := ws) (q := fun w => .str (Tx w)) (f := fun w => .bool (decide (w.length = 2))) (by simp) (fun w hm => by
          have h2 := len_S (show w.length ≤ 1000000 by have := hw w hm; omega)
          have h3 : ((w.length : Int) = 2) ↔ w.length = 2 := by omega
          simp [stepC, h2, h3])]
        simp only [Out.bind_ok, evEs_nil, all_map, asB_bool]
      have hlen : bltD .len [.list (ws.map fun w => PyData.str (Tx w))] = .ok (.int ws.length) := by simp
      rw [hlen]
      simp only [Out.bind_ok, cmpD_gt, cmpI, h1', decide_false, evB_cons, evB_nil, asB_bool, Bool.false_eq_true, if_false, if_true, evE_cmp, evE_non, evE_var, rd_succ, rd_zero, get_val, cmpD_in, hin, h1, Bool.false_or]
      cases h2 : decide (none ∈ numsT ws)
      · simp only [if_true]
        refine (congrArg (fun z => Out.bind z _) hall).trans ?_
        rfl
      · rfl
  · cases badP ws
    · refine W.nilK ?_
      exact W.ret (d := .tuple ((numsT ws).map optD)) (by simp) rfl
    · exact W.exc rfl
end PG

namespace PG
open PySem BB PG
theorem is_code_ok (d : D) (h : noDict d = true) : r_is_code [d] = .ok (.bool (isI d 0 1114111)) := by
  unfold r_is_code
  rw [runD_eq]
  unfold b_is_code
  have fn0 : (sgL c_is_code l_is_code).fn 0 = r_is_int := rfl
  have g0 : (sgL c_is_code l_is_code).gl 0 = .int 1114111 := rfl
  simp [fn0, g0, is_int_ok d 0 1114111 h]
def isItm (x : D) : Bool := isI x 0 1114111 || isI x (-1) (-1) || isI x (-255) (-128)
theorem is_item_ok (d : D) (h : noDict d = true) : r_is_item [d] = .ok (.bool (isItm d)) := by
  unfold r_is_item
  rw [runD_eq]
  unfold b_is_item
  have fn0 : (sgL c_is_item l_is_item).fn 0 = r_is_code := rfl
  have fn1 : (sgL c_is_item l_is_item).fn 1 = r_is_int := rfl
  have g0 : (sgL c_is_item l_is_item).gl 0 = .int (-1) := rfl
  have g1 : (sgL c_is_item l_is_item).gl 1 = .int 128 := rfl
  generalize sgL c_is_item l_is_item = g at fn0 fn1 g0 g1
  have h3 := is_int_ok d (-255) (-128) h
  cases e1 : isI d 0 1114111 <;> cases e2 : isI d (-1) (-1) <;> simp [fn0, fn1, g0, g1, is_code_ok d h, is_int_ok d (-1) (-1) h, h3, e1, e2, isItm, negD]
theorem okItm_isItm {x : Int} (h : okItm x) : isItm (.int x) = true := by
  unfold okItm at h
  simp [isItm, isI]
  omega
theorem bytes_for_ok (c : Int) (n : Nat) (h1 : 1 ≤ n) (h4 : n ≤ 4) : r_bytes_for [.int c, .int n] = .ok (.tuple (intL (bfor c n))) := by
  unfold r_bytes_for
  refine run_to (P := fun o => o = _) ?_
  unfold b_bytes_for
  have g0 : (sgL c_bytes_for l_bytes_for).gl 0 = .int 128 := rfl
  have g1 : (sgL c_bytes_for l_bytes_for).gl 1 = .int 64 := rfl
  have g2 : (sgL c_bytes_for l_bytes_for).gl 2 = .tuple [.int 0, .int 0, .int 192, .int 224, .int 240, .int 248] := rfl
  generalize sgL c_bytes_for l_bytes_for = g at g0 g1 g2
  refine W.asg (d := .tuple []) rfl ?_
  refine W.for (xs := rangeI 0 (n - 1)) (q := PyData.int) (fun dn e => ∃ s3, e = [.val (.int (bst dn.length c []).2), .val (.int n), .val (.tuple (intL (bst dn.length c []).1)), s3]) ?_ ⟨_, rfl⟩ ?_ ?_
  · simp only [evI_rng1, evE_bin, evE_var, evE_int, List.map_cons, List.map_nil, List.cons_append, List.nil_append, List.set_cons_succ, List.set_cons_zero, hide_cons, hide_val, rd_succ, rd_zero, get_val, Out.bind_ok, binD_sub, sub_int, intOf_int]
    rw [rng_ok (by omega) (by omega) (by omega) (by omega) (by omega), show ((n : Int) - 1 - 0).toNat = n - 1 by omega]
    rfl
  · rintro dn x rest hx e ⟨s3, rfl⟩
    have hdl := congrArg List.length hx
    simp only [rangeI_length, List.length_append, List.length_cons] at hdl
    have hbl := bst_len dn.length c []
    refine W.turn ?_
    refine W.asg (d := .tuple (intL (bst (dn.length + 1) c []).1)) (by
      rw [bst_succ]
      simp [g0, g1, mod_int]
      rw [add_tup (by simp [hbl]; omega)]
      rfl) ?_
    refine W.asg (d := .int (bst (dn.length + 1) c []).2) (by
      rw [bst_succ]
      simp [g1, fdiv_int]) ?_
    refine W.nil ⟨.val (.int x), ?_⟩
    simp
  · rintro e ⟨s3, rfl⟩
    rw [rangeI_length]
    have hbl := bst_len (n - 1) c []
    have hb := base_ix (n := n) (by omega) (by omega)
    refine W.ret (d := .tuple (intL (bfor c n))) ?_ rfl
    simp [g2, hb]
    rw [add_tup (by simp [hbl]; omega)]
    simp [bfor]
theorem short_length_ok (c : Int) (h : c < 2097152) : r_short_length [.int c] = .ok (.int (shortL c)) := by
  unfold r_short_length
  refine run_to (P := fun o => o = _) ?_
  unfold b_short_length
  have g0 : (sgL c_short_length l_short_length).gl 0 = .tuple [.int 0, .int 128, .int 2048, .int 65536, .int 2097152] := rfl
  generalize sgL c_short_length l_short_length = g at g0
  refine W.ret (d := .int (shortL c)) ?_ rfl
  have hix : ∀ k : Int, k = 1 ∨ k = 2 ∨ k = 3 ∨ k = 4 → ixD (.tuple [.int 0, .int 128, .int 2048, .int 65536, .int 2097152]) (.int k) = .ok (.int (if k = 1 then 128 else if k = 2 then 2048 else if k = 3 then 65536 else 2097152)) := by
    rintro k (rfl | rfl | rfl | rfl) <;> rfl
  rw [evE_blt, evEs_cons, comp_filter (xs := [1, 2, 3, 4]) (q := PyData.int) (f := PyData.int) (p := fun k => decide (c < if k = 1 then 128 else if k = 2 then 2048 else if k = 3 then 65536 else 2097152)) rfl (fun k hk => by
    have := hix k (by simpa using hk)
    by_cases hc : c < if k = 1 then 128 else if k = 2 then 2048 else if k = 3 then 65536 else 2097152
    · simp [stepC, g0, this, hc]
    · simp [stepC, g0, this, hc])]
  simp only [Out.bind_ok, evEs_nil]
  refine min_ok ?_
  by_cases h1 : c < 128
  · have a1 : c < 2048 := by omega
    have a2 : c < 65536 := by omega
    simp [h1, a1, a2, h, shortL, List.filter_cons, minI]
  · by_cases h2 : c < 2048
    · have a2 : c < 65536 := by omega
      simp [h1, h2, a2, h, shortL, List.filter_cons, minI]
    · by_cases h3 : c < 65536
      · simp [h1, h2, h3, h, shortL, List.filter_cons, minI]
      · simp [h1, h2, h3, h, shortL, List.filter_cons, minI]
theorem item_bytes_ok (x : Int) (h : x < 2097152) : r_item_bytes [.int x] = .ok (.tuple (intL (itb x))) := by
  unfold r_item_bytes
  refine run_to (P := fun o => o = _) ?_
  unfold b_item_bytes
  have fn0 : (sgL c_item_bytes l_item_bytes).fn 0 = r_bytes_for := rfl
  have fn1 : (sgL c_item_bytes l_item_bytes).fn 1 = r_short_length := rfl
  have g0 : (sgL c_item_bytes l_item_bytes).gl 0 = .int (-1) := rfl
  have g1 : (sgL c_item_bytes l_item_bytes).gl 1 = .tuple [.int 239, .int 191, .int 189] := rfl
  generalize sgL c_item_bytes l_item_bytes = g at fn0 fn1 g0 g1
  have hr := shortL_range x
  by_cases e : x = -1
  · refine W.ifT (by simp [g0, e]) ?_
    exact W.retK (d := .tuple [.int 239, .int 191, .int 189]) (by simp [g1]) (by simp [itb, e])
  · refine W.ifN (by simp [g0, e]) ?_
    refine W.ret (d := .tuple (intL (itb x))) ?_ rfl
    by_cases h0 : 0 ≤ x
    · simp [h0, fn0, fn1, short_length_ok x h, bytes_for_ok x (shortL x) hr.1 hr.2, itb, e]
    · simp [h0, itb, e]
/-- encode: good items -/
theorem encode_ok (xs : List Int) (h : ∀ x ∈ xs, okItm x) (hl : xs.length ≤ 60) : r_encode [.list (intL xs)] = if (xs.flatMap itb).length ≤ 60 then .ok (.tuple (intL (xs.flatMap itb))) else .exc "TooLarge" := by
  unfold r_encode
  refine run_to (P := fun o => o = _) ?_
  unfold b_encode
  have fn0 : (sgL c_encode l_encode).fn 0 = r_is_item := rfl
  have fn1 : (sgL c_encode l_encode).fn 1 = r_item_bytes := rfl
  have g0 : (sgL c_encode l_encode).gl 0 = .int 60 := rfl
  generalize sgL c_encode l_encode = g at fn0 fn1 g0
  refine W.ifN (by
    have hc : evE g (.comp (.call 0 (.cons (.var 1) .nil)) (.one 1) (.seq (.var 0)) .none [1]) [.val (.list (intL xs)), .non, .non] = .ok (.list (xs.map fun _ => .bool true)) := by
      rw [comp_map (xs := xs) (q := PyData.int) (f := fun _ => PyData.bool true) rfl (fun x hx => by
        simp [stepC, fn0, is_item_ok (.int x) rfl, okItm_isItm (h x hx)])]
    have ha := all_map (fun _ : Int => true) xs
    simp [-evE_comp, hc, noDict, isiD, g0, show ¬ (60 < (xs.length : Int)) by omega, ha]) ?_
  refine W.asg (d := .tuple []) rfl ?_
  refine W.for (xs := xs) (q := PyData.int) (fun dn e => ∃ s1, e = [.val (.list (intL xs)), s1, .val (.tuple (intL (dn.flatMap itb)))]) rfl ⟨_, rfl⟩ ?_ ?_
  · rintro dn x rest hx e ⟨s1, rfl⟩
    have hm : x ∈ xs := by rw [hx]; simp
    have hlt : x < 2097152 := by have := h x hm; unfold okItm at this; omega
    have hdl := congrArg List.length hx
    simp only [List.length_append, List.length_cons] at hdl
    have f1 := flat_len dn
    have f2 := itb_len x
    refine W.turn ?_
    refine W.asg (d := .tuple (intL ((dn ++ [x]).flatMap itb))) (by
      simp [fn1, item_bytes_ok x hlt]
      rw [add_tup (by simp only [intL_length]; omega), intL_append]) ?_
    exact W.nil ⟨_, rfl⟩
  · rintro e ⟨s1, rfl⟩
    have f1 := flat_len xs
    by_cases hle : (xs.flatMap itb).length ≤ 60
    · refine W.ifN (by simp [g0, -List.length_flatMap]; omega) ?_
      exact W.ret (d := .tuple (intL (xs.flatMap itb))) (by simp) (by simp [-List.length_flatMap, hle])
    · refine W.ifT (by simp [g0, -List.length_flatMap]; omega) ?_
      exact W.exc (by simp [Kt, -List.length_flatMap, hle])
end PG

namespace PG
open PySem BB PG
def wd (n : Nat) : Nat := if n < 65536 then 4 else if n < 1048576 then 5 else 6
def wit (x : Int) : List Nat := if x = -1 then [63] else if 0 ≤ x then [85, 43] ++ hx largeS (wd x.toNat) x.toNat else [60] ++ hx largeS 2 (-x).toNat ++ [62]
theorem wd_ok {n : Nat} (h : n ≤ 1114111) : n < 16 ^ wd n ∧ 4 ≤ wd n ∧ (wd n = 4 ∨ 16 ^ (wd n - 1) ≤ n) ∧ wd n ≤ 6 := by
  unfold wd
  split
  · exact ⟨by omega, by omega, .inl rfl, by omega⟩
  · split
    · exact ⟨by omega, by omega, .inr (by omega), by omega⟩
    · exact ⟨by omega, by omega, .inr (by omega), by omega⟩
theorem format_item_ok {x : Int} (h : okItm x) : r_format_item [.int x] = .ok (.str (Tx (wit x))) := by
  unfold r_format_item
  refine run_to (P := fun o => o = _) ?_
  unfold b_format_item
  have fn0 : (sgL c_format_item l_format_item).fn 0 = r_digits := rfl
  have g0 : (sgL c_format_item l_format_item).gl 0 = .int (-1) := rfl
  have g1 : (sgL c_format_item l_format_item).gl 1 = .int 4 := rfl
  have g2 : (sgL c_format_item l_format_item).gl 2 = .str "0123456789ABCDEF" := rfl
  generalize sgL c_format_item l_format_item = g at fn0 g0 g1 g2
  show W _ (evSs g _ [.val (.int x)])
  have q1 : (("?" : Str)) = Tx [63] := by decide +kernel
  have q2 : (("U+" : Str)) = Tx [85, 43] := by decide +kernel
  have q3 : (("<" : Str)) = Tx [60] := by decide +kernel
  have q4 : ((">" : Str)) = Tx [62] := by decide +kernel
  unfold wit
  by_cases h1 : x = -1
  · subst h1
    refine W.ifT (by simp [g0]) ?_
    exact W.retK (d := .str (Tx [63])) (by simp [q1]) rfl
  · refine W.ifN (by simp [g0, h1]) ?_
    rw [if_neg h1]
    by_cases h2 : 0 ≤ x
    · rw [if_pos h2]
      have hx1 : x ≤ 1114111 := by rcases h with h | h | h <;> omega
      obtain ⟨w1, w2, w3, w4⟩ := wd_ok (n := x.toNat) (by omega)
      have := digits_ok (sg := largeS) rfl (L := 4) w1 w2 w3 (by omega)
      rw [show ((x.toNat : Nat) : Int) = x by omega] at this
      have this : r_digits [.int x, .int 4, .str (Tx largeS)] = _ := this
      refine W.ret (d := .str (Tx ([85, 43] ++ hx largeS (wd x.toNat) x.toNat))) ?_ rfl
      have ha := add_S (a := [85, 43]) (b := hx largeS (wd x.toNat) x.toNat) (by rw [hx_len]; simp; omega)
      simp only [evE_ite, evE_cmp, evE_var, evE_int, rd_zero, get_val, Out.bind_ok, cmpD_ge, cmpI, h2, decide_true, asB_bool, if_true, evE_bin, evE_str, evE_call, evEs_cons, evEs_nil, evE_glob, g1, g2, fn0, large_S, this, q2, binD_add, ha]
    · rw [if_neg h2]
      have hx1 : -255 ≤ x := by rcases h with h | h | h <;> omega
      have := digits_ok (sg := largeS) rfl (n := (-x).toNat) (L := 2) (w := 2) (by omega) (by omega) (.inl rfl) (by omega)
      rw [show (((-x).toNat : Nat) : Int) = 0 - x by omega] at this
      have this : r_digits [.int (0 - x), .int 2, .str (Tx largeS)] = _ := this
      refine W.ret (d := .str (Tx ([60] ++ hx largeS 2 (-x).toNat ++ [62]))) ?_ rfl
      have ha := add_S (a := [60]) (b := hx largeS 2 (-x).toNat) (by rw [hx_len]; simp)
      have hb := add_S (a := [60] ++ hx largeS 2 (-x).toNat) (b := [62]) (by rw [List.length_append, hx_len]; simp)
      simp only [evE_ite, evE_cmp, evE_var, evE_int, rd_zero, get_val, Out.bind_ok, cmpD_ge, cmpI, h2, decide_false, asB_bool, Bool.false_eq_true, if_false, evE_bin, evE_str, evE_call, evEs_cons, evEs_nil, evE_glob, g2, fn0, large_S, binD_sub, sub_int, this, q3, q4, binD_add, ha, hb]
theorem wit_len (x : Int) : (wit x).length ≤ 8 := by
  unfold wit wd
  split
  · simp
  · split
    · simp only [List.length_append, hx_len]
      split
      · simp
      · split <;> simp
    · simp [hx_len]
theorem format_items_ok {xs : List Int} (h : ∀ x ∈ xs, okItm x) (hl : xs.length ≤ 60) : r_format_items [.list (intL xs)] = .ok (.str (Tx (joinT (xs.map wit)))) := by
  unfold r_format_items
  refine run_to (P := fun o => o = _) ?_
  unfold b_format_items
  have fn0 : (sgL c_format_items l_format_items).fn 0 = r_is_item := rfl
  have fn1 : (sgL c_format_items l_format_items).fn 1 = r_format_item := rfl
  have g0 : (sgL c_format_items l_format_items).gl 0 = .int 60 := rfl
  generalize sgL c_format_items l_format_items = g at fn0 fn1 g0
  show W _ (evSs g _ [.val (.list (intL xs)), .non])
  refine W.ifN ?_ ?_
  · have hcomp : evE g (.comp (.call 0 (.cons (.var 1) .nil)) (.one 1) (.seq (.var 0)) .none [1]) [.val (.list (intL xs)), .non] = .ok (.list (xs.map fun _ => .bool true)) := by
      rw [comp_map (xs := xs) (q := PyData.int) (f := fun x => .bool true) (by simp; rfl) (fun x hx => by
        simp [stepC, fn0, is_item_ok (.int x) rfl, okItm_isItm (h x hx)])]
    have h1 : ¬ (60 : Int) < xs.length := by omega
    have hall := all_map (fun _ : Int => true) xs
    simp only [evE_bop, evE_not, evE_isi, evE_var, rd_zero, get_val, Out.bind_ok, noDict, isiD, if_true, asB_bool, evB_cons, evB_nil, evE_cmp, evE_blt, evEs_cons, evEs_nil, len_list, intL_length, evE_glob, g0, cmpD_gt, cmpI, h1, decide_false, hcomp, hall]
    simp
  · refine W.ret (d := .str (Tx (joinT (xs.map wit)))) ?_ rfl
    rw [evE_mth, comp_map (xs := xs) (q := PyData.int) (f := fun x => .str (Tx (wit x))) (by simp; rfl) (fun x hx => by
      simp [stepC, fn1, format_item_ok (h x hx)])]
    simp only [evE_str, Out.bind_ok, strOf_str, sp_S]
    have := join_ok (ws := xs.map wit) (by
      have := sum_len wit 8 xs (fun x _ => wit_len x)
      simp only [List.length_map] at this ⊢
      omega)
    rw [List.map_map] at this
    exact this
end PG

/-! ## slices of texts -/
namespace BB
open PySem
theorem sl_to {a : List Nat} (h : a.length ≤ 1000000) (j : Nat) : slD none (some (j : Int)) (.str (Tx a)) = .ok (.str (Tx (a.take j))) := by
  simp only [slD, SX.S_len]
  rw [if_pos h]
  simp only [L2.cutS, SX.S_len]
  rw [HT.sIx_nat, HT.sIx_none, List.drop_zero, Nat.sub_zero]
  congr 3
  by_cases h : j ≤ a.length
  · rw [Nat.min_eq_left h]
  · rw [Nat.min_eq_right (by omega), List.take_of_length_le (Nat.le_refl _), List.take_of_length_le (by omega)]
theorem sl_from {a : List Nat} (h : a.length ≤ 1000000) (i : Nat) : slD (some (i : Int)) none (.str (Tx a)) = .ok (.str (Tx (a.drop i))) := by
  simp only [slD, SX.S_len]
  rw [if_pos h]
  simp only [L2.cutS, SX.S_len]
  rw [HT.sIx_nat, HT.sIx_none]
  congr 3
  by_cases h : i ≤ a.length
  · rw [Nat.min_eq_left h, List.take_of_length_le (by simp)]
  · rw [Nat.min_eq_right (by omega), List.drop_eq_nil_of_le (Nat.le_refl _), List.drop_eq_nil_of_le (by omega), List.take_nil]
theorem sl_mid {a : List Nat} (h : a.length ≤ 1000000) : slD (some 1) (some (-1)) (.str (Tx a)) = .ok (.str (Tx ((a.drop 1).take (a.length - 2)))) := by
  simp only [slD, SX.S_len]
  rw [if_pos h]
  simp only [L2.cutS, SX.S_len]
  have e1 : HT.sIx a.length 0 (some 1) = min 1 a.length := HT.sIx_nat _ _ 1
  have e2 : HT.sIx a.length a.length (some (-1)) = a.length - 1 := by
    unfold HT.sIx
    simp
    try omega
  rw [e1, e2]
  congr 3
  by_cases h : 1 ≤ a.length
  · rw [Nat.min_eq_left h]
    congr 1
  · have : a = [] := List.length_eq_zero_iff.mp (by omega)
    subst this
    simp
end BB

namespace PG
open PySem BB PG
def upT (w : List Nat) : Bool := decide (w.take 2 = [85, 43])
def prN (w : List Nat) : Option Int := if upT w = true then numO largeS (w.drop 2) else numO largeS ((w.drop 1).take (w.length - 2))
def prI (w : List Nat) (n : Int) : Int := if upT w = true then n else 0 - n
def prs (w : List Nat) : Option Int := if w = [63] then some (-1) else match prN w with
  | none => none
  | some n => if 1114111 < n then none else if isItm (.int (prI w n)) = true ∧ wit (prI w n) = w then some (prI w n) else none
theorem isItm_okItm {x : Int} (h : isItm (.int x) = true) : okItm x := by
  simp only [isItm, isI, Bool.or_eq_true, Bool.and_eq_true, decide_eq_true_eq] at h
  unfold okItm
  omega
theorem parse_item_ok (w : List Nat) (h : w.length ≤ 1000) : r_parse_item [.str (Tx w)] = .ok (optD (prs w)) := by
  unfold r_parse_item
  refine run_to (P := fun o => o = _) ?_
  unfold b_parse_item
  have fn0 : (sgL c_parse_item l_parse_item).fn 0 = r_number_of := rfl
  have fn1 : (sgL c_parse_item l_parse_item).fn 1 = r_is_item := rfl
  have fn2 : (sgL c_parse_item l_parse_item).fn 2 = r_format_item := rfl
  have g0 : (sgL c_parse_item l_parse_item).gl 0 = .int (-1) := rfl
  have g1 : (sgL c_parse_item l_parse_item).gl 1 = .str "0123456789ABCDEF" := rfl
  have g2 : (sgL c_parse_item l_parse_item).gl 2 = .int 1114111 := rfl
  generalize sgL c_parse_item l_parse_item = g at fn0 fn1 fn2 g0 g1 g2
  show W _ (evSs g _ [.val (.str (Tx w)), .non, .non])
  have q1 : (("?" : Str)) = Tx [63] := by decide +kernel
  have q2 : (("U+" : Str)) = Tx [85, 43] := by decide +kernel
  have hl : w.length ≤ 1000000 := by omega
  have t2 := sl_to hl 2
  have f2 := sl_from hl 2
  have m1 := sl_mid hl
  have t2 : slD none (some 2) (.str (Tx w)) = .ok (.str (Tx (w.take 2))) := t2
  have f2 : slD (some 2) none (.str (Tx w)) = .ok (.str (Tx (w.drop 2))) := f2
  have n1 := number_of_ok sg_large (w.drop 2) (by simp; omega)
  have n2 := number_of_ok sg_large ((w.drop 1).take (w.length - 2)) (by simp; omega)
  unfold prs
  by_cases h1 : w = [63]
  · subst h1
    refine W.ifT (by simp only [evE_cmp, evE_var, evE_str, rd_zero, get_val, Out.bind_ok, cmpD_eq, q1, (eq_S _ _).1]; rfl) ?_
    exact W.retK (d := .int (-1)) (by simp [g0]) rfl
  · refine W.ifN (by simp only [evE_cmp, evE_var, evE_str, rd_zero, get_val, Out.bind_ok, cmpD_eq, q1, (eq_S _ _).1, h1, decide_false]) ?_
    rw [if_neg h1]
    have hup : ∀ e : BB.Env, e.getD 0 .non = .val (.str (Tx w)) → evE g (.cmp .eq (.sl (.var 0) .none (.some (.int 2))) (.str "U+")) e = .ok (.bool (upT w)) := by
      intro e he
      have hr : rd e 0 = .ok (.str (Tx w)) := by unfold rd; rw [he]; rfl
      simp only [evE_cmp, evE_sl, evE_var, hr, evO_none, evO_some, evE_int, evE_str, Out.bind_ok, partI_int, t2, cmpD_eq, q2, (eq_S _ _).1]
      rfl
    refine W.asg (d := optD (prN w)) (by
      rw [evE_ite, hup _ rfl]
      simp only [Out.bind_ok, asB_bool]
      unfold prN
      cases upT w
      · simp only [Bool.false_eq_true, if_false, evE_call, evEs_cons, evEs_nil, evE_sl, evO_some, evE_int, evE_neg, evE_var, evE_glob, g1, large_S, hide_cons, hide_val, rd_zero, get_val, Out.bind_ok, partI_int, negD, m1, fn0, n2]
      · simp only [if_true, evE_call, evEs_cons, evEs_nil, evE_sl, evO_some, evO_none, evE_int, evE_var, evE_glob, g1, large_S, hide_cons, hide_val, rd_zero, get_val, Out.bind_ok, partI_int, f2, fn0, n1]) ?_
    cases prN w with
    | none =>
      refine W.ifT (by simp [optD, isD, isC]) ?_
      exact W.retK (d := .none) (by simp) rfl
    | some n =>
      refine W.ife (k := decide (1114111 < n)) (by simp [optD, isD, isC, g2]) ?_
      by_cases h2 : 1114111 < n
      · simp only [h2, decide_true, if_true]
        exact W.retK (d := .none) (by simp) rfl
      · simp only [h2, decide_false, Bool.false_eq_true, if_false]
        refine W.nilK ?_
        refine W.asg (d := .int (prI w n)) (by
          rw [evE_ite, hup _ rfl]
          simp only [Out.bind_ok, asB_bool]
          unfold prI
          cases upT w <;> simp [optD]) ?_
        have hi := is_item_ok (.int (prI w n)) rfl
        refine W.ret (d := optD (if isItm (.int (prI w n)) = true ∧ wit (prI w n) = w then some (prI w n) else none)) ?_ rfl
        rw [evE_ite, evE_bop]
        simp only [evE_call, evEs_cons, evEs_nil, evE_var, List.set_cons_succ, List.set_cons_zero, rd_succ, rd_zero, get_val, Out.bind_ok, fn1, hi, evB_cons, asB_bool]
        cases h3 : isItm (.int (prI w n))
        · simp [optD]
        · simp only [if_true, evE_cmp, evE_call, evEs_cons, evEs_nil, evE_var, List.set_cons_succ, List.set_cons_zero, rd_succ, rd_zero, get_val, Out.bind_ok, fn2, format_item_ok (isItm_okItm h3), cmpD_eq, (eq_S _ _).1, evB_nil, asB_bool, true_and]
          by_cases h4 : wit (prI w n) = w <;> simp [h4, optD]
end PG

namespace PG
open PySem BB PG
theorem wordsT_len {a : List Nat} (h : a.length ≤ 1000) : ∀ w ∈ wordsT a, w.length ≤ 1000 := fun w hm => by
  unfold wordsT at hm
  split at hm
  · cases hm
  · have := splT_len a [] w hm
    simp at this
    omega
def itsT (ws : List (List Nat)) : List (Option Int) := ws.map prs
def badI (ws : List (List Nat)) : Bool := decide (60 < ws.length) || decide (none ∈ itsT ws)
theorem parse_items_ok {a : List Nat} (h : a.length ≤ 1000) : r_parse_items [.str (Tx a)] = if badI (wordsT a) = true then .exc "ParseError" else .ok (.list ((itsT (wordsT a)).map optD)) := by
  have hw := wordsT_len h
  unfold r_parse_items
  refine run_to (P := fun o => o = _) ?_
  unfold b_parse_items
  have fn0 : (sgL c_parse_items l_parse_items).fn 0 = r_words := rfl
  have fn1 : (sgL c_parse_items l_parse_items).fn 1 = r_parse_item := rfl
  have g1 : (sgL c_parse_items l_parse_items).gl 0 = .int 60 := rfl
  generalize sgL c_parse_items l_parse_items = g at fn0 fn1 g1
  show W _ (evSs g _ [.val (.str (Tx a)), .non, .non, .non])
  refine W.asg (d := .list ((wordsT a).map fun w => .str (Tx w))) (by simp [fn0, words_ok (show a.length ≤ 1000000 by omega)]) ?_
  generalize wordsT a = ws at hw
  refine W.asg (d := .list ((itsT ws).map optD)) (by
    rw [comp_map (xs := ws) (q := fun w => .str (Tx w)) (f := fun w => optD (prs w)) (by simp) (fun w hm => by
      simp [stepC, fn1, parse_item_ok w (hw w hm)])]
    simp [itsT, List.map_map, Function.comp_def]) ?_
  refine W.ife (k := badI ws) ?_ ?_
  · rw [evE_bop, evE_cmp]
    have hlen : bltD .len [.list (ws.map fun w => PyData.str (Tx w))] = .ok (.int ws.length) := by simp
    have hin : inD false .none (.list ((itsT ws).map optD)) = .ok (.bool (decide (none ∈ itsT ws))) := by
      simp only [inD]
      rw [if_pos (by simp only [inb, scal_optD]; rfl), any_optD]
      simp
    have h1 : ((60 : Int) < ws.length) ↔ 60 < ws.length := by omega
    simp only [evE_blt, evEs_cons, evEs_nil, evE_var, evE_glob, g1, List.set_cons_succ, List.set_cons_zero, rd_succ, rd_zero, get_val, Out.bind_ok, hlen, cmpD_gt, cmpI, evB_cons, evB_nil, asB_bool, evE_cmp, evE_non, cmpD_in, hin, h1]
    unfold badI
    cases decide (60 < ws.length) <;> simp
  · cases badI ws
    · refine W.nilK ?_
      exact W.ret (d := .list ((itsT ws).map optD)) (by simp) rfl
    · exact W.exc rfl
theorem parse_string_bad {d : D} (h : noDict d = true) (hs : isiD "str" d = false) : r_parse_string [d] = .exc "ParseError" := by
  unfold r_parse_string
  have fn0 : (sgL c_parse_string l_parse_string).fn 0 = r_words := rfl
  rw [runD_eq]
  unfold b_parse_string
  generalize sgL c_parse_string l_parse_string = g at fn0
  rw [ss_exc (c := "ParseError") (by simp [evS, hide, Slot.hide, fn0, words_bad h hs])]
  rfl
theorem parse_items_bad {d : D} (h : noDict d = true) (hs : isiD "str" d = false) : r_parse_items [d] = .exc "ParseError" := by
  unfold r_parse_items
  have fn0 : (sgL c_parse_items l_parse_items).fn 0 = r_words := rfl
  rw [runD_eq]
  unfold b_parse_items
  generalize sgL c_parse_items l_parse_items = g at fn0
  rw [ss_exc (c := "ParseError") (by simp [evS, hide, Slot.hide, fn0, words_bad h hs])]
  rfl
end PG

namespace PG
open PySem BB PG
theorem not32 {sg : List Nat} (h : Sg16 sg) (h32 : 32 ∉ sg) (n k : Nat) : 32 ∉ hx sg k n := fun hm => h32 (hx_in h n k 32 hm)
theorem words_fmt {s : List Int} : wordsT (fmtS s) = s.map fun b => hx smallS 2 b.toNat := by
  unfold fmtS
  rw [wordsT_join]
  intro w hw
  rw [List.mem_map] at hw
  obtain ⟨b, _, rfl⟩ := hw
  refine ⟨fun e => ?_, not32 sg_small (by decide) _ _⟩
  have := congrArg List.length e
  rw [hx_len] at this
  simp at this
theorem nums_fmt {s : List Int} (hs : Byts s) : numsT (s.map fun b => hx smallS 2 b.toNat) = s.map some := by
  unfold numsT
  rw [List.map_map]
  apply List.map_congr_left
  intro b hb
  obtain ⟨b0, b1⟩ := hs b hb
  simp only [Function.comp_def]
  rw [numO_hx sg_small (by omega) (by omega), show ((b.toNat : Nat) : Int) = b by omega]
theorem badP_fmt {s : List Int} (hs : Byts s) (hl : s.length ≤ 60) : badP (s.map fun b => hx smallS 2 b.toNat) = false := by
  unfold badP
  rw [nums_fmt hs]
  have h1 : ¬ 60 < s.length := by omega
  simp [h1, hx_len]
theorem fmtS_len {s : List Int} (hl : s.length ≤ 60) : (fmtS s).length ≤ 180 := by
  unfold fmtS
  have h1 := joinT_len (s.map fun b => hx smallS 2 b.toNat)
  have h2 := sum_len (fun b : Int => hx smallS 2 b.toNat) 2 s (fun x _ => by rw [hx_len]; omega)
  simp only [List.length_map] at h1 h2
  omega
theorem parse_fmt {s : List Int} (hs : Byts s) (hl : s.length ≤ 60) : r_parse_string [.str (Tx (fmtS s))] = .ok (.tuple (intL s)) := by
  rw [parse_string_ok (by have := fmtS_len hl; omega), words_fmt, badP_fmt hs hl, nums_fmt hs]
  simp [List.map_map, Function.comp_def, optD, intL]
theorem prs_wit {x : Int} (h : okItm x) : prs (wit x) = some x := by
  by_cases h1 : x = -1
  · subst h1; rfl
  · by_cases h2 : 0 ≤ x
    · have hx1 : x ≤ 1114111 := by rcases h with h | h | h <;> omega
      obtain ⟨w1, w2, w3, w4⟩ := wd_ok (n := x.toNat) (by omega)
      have hw : wit x = 85 :: 43 :: hx largeS (wd x.toNat) x.toNat := by unfold wit; rw [if_neg h1, if_pos h2]; rfl
      have hu : upT (wit x) = true := by rw [hw]; simp [upT]
      have hn : prN (wit x) = some x := by
        unfold prN
        rw [hu, if_pos rfl, hw]
        show numO largeS (hx largeS (wd x.toNat) x.toNat) = _
        rw [numO_hx sg_large (by omega) w1, show ((x.toNat : Nat) : Int) = x by omega]
      have hi : prI (wit x) x = x := by unfold prI; rw [hu]; rfl
      unfold prs
      rw [if_neg (by rw [hw]; simp), hn]
      simp only [hi]
      rw [if_neg (by omega), if_pos ⟨okItm_isItm h, trivial⟩]
    · have hx1 : -255 ≤ x := by rcases h with h | h | h <;> omega
      have hw : wit x = 60 :: (hx largeS 2 (-x).toNat ++ [62]) := by unfold wit; rw [if_neg h1, if_neg h2]; rfl
      have hu : upT (wit x) = false := by rw [hw]; simp [upT, hx]
      have hn : prN (wit x) = some (-x) := by
        unfold prN
        rw [hu, if_neg (by decide), hw]
        show numO largeS ((hx largeS 2 (-x).toNat ++ [62]).take ((hx largeS 2 (-x).toNat ++ [62]).length + 1 - 2)) = _
        rw [List.length_append, hx_len]
        show numO largeS ((hx largeS 2 (-x).toNat ++ [62]).take 2) = _
        rw [List.take_append_of_le_length (by rw [hx_len]; omega), List.take_of_length_le (by rw [hx_len]; omega), numO_hx sg_large (by omega) (by omega), show (((-x).toNat : Nat) : Int) = -x by omega]
      have hi : prI (wit x) (-x) = x := by unfold prI; rw [hu]; simp
      unfold prs
      rw [if_neg (by rw [hw]; simp), hn]
      simp only [hi]
      rw [if_neg (by omega), if_pos ⟨okItm_isItm h, trivial⟩]
theorem words_wit {xs : List Int} (h : ∀ x ∈ xs, okItm x) : wordsT (joinT (xs.map wit)) = xs.map wit := by
  rw [wordsT_join]
  intro w hw
  rw [List.mem_map] at hw
  obtain ⟨x, hx1, rfl⟩ := hw
  have n32 := not32 sg_large (by decide)
  unfold wit
  split
  · exact ⟨by simp, by decide⟩
  · split
    · exact ⟨by simp, by simp [n32]⟩
    · exact ⟨by simp, by simp [n32]⟩
theorem parse_wit {xs : List Int} (h : ∀ x ∈ xs, okItm x) (hl : xs.length ≤ 60) : r_parse_items [.str (Tx (joinT (xs.map wit)))] = .ok (.list (intL xs)) := by
  have hi : itsT (xs.map wit) = xs.map some := by
    unfold itsT
    rw [List.map_map]
    apply List.map_congr_left
    intro x hx1
    exact prs_wit (h x hx1)
  have hb : badI (xs.map wit) = false := by
    unfold badI
    rw [hi]
    have h1 : ¬ 60 < xs.length := by omega
    simp [h1]
  have h1 := joinT_len (xs.map wit)
  have h2 := sum_len wit 8 xs (fun x _ => wit_len x)
  simp only [List.length_map] at h1 h2
  rw [parse_items_ok (by omega), words_wit h, hb, hi]
  simp [List.map_map, Function.comp_def, optD, intL]
end PG

namespace PG
open PySem BB PG
theorem nil_spl : ∀ (a acc : List Nat), [] ∈ TL.spl [32] 0 acc (a ++ [32])
  | [], acc => by
    rw [List.nil_append, TL.spl_hit (by decide)]
    simp [TL.spl_nil]
  | c :: r, acc => by
    rw [List.cons_append]
    cases hp : TL.pre [32] (c :: (r ++ [32])) with
    | true =>
      rw [TL.spl_hit hp]
      exact List.mem_cons_of_mem _ (nil_spl r [])
    | false =>
      rw [TL.spl_miss hp]
      exact nil_spl r (acc ++ [c])
theorem nil_words (a : List Nat) : [] ∈ wordsT (a ++ [32]) := by
  unfold wordsT
  rw [if_neg (by simp)]
  exact nil_spl a []
theorem string_bad {a : List Nat} (hl : a.length ≤ 1000) (h : badP (wordsT a) = true) : r_parse_string [.str (Tx a)] = .exc "ParseError" := by
  rw [parse_string_ok hl, if_pos h]
theorem items_bad {a : List Nat} (hl : a.length ≤ 1000) (h : badI (wordsT a) = true) : r_parse_items [.str (Tx a)] = .exc "ParseError" := by
  rw [parse_items_ok hl, if_pos h]
theorem string_sp {a : List Nat} (hl : a.length ≤ 900) : r_parse_string [.str (Tx (a ++ [32]))] = .exc "ParseError" := by
  refine string_bad (by simp; omega) ?_
  have : none ∈ numsT (wordsT (a ++ [32])) := List.mem_map.mpr ⟨[], nil_words a, rfl⟩
  simp [badP, this]
theorem items_sp {a : List Nat} (hl : a.length ≤ 900) : r_parse_items [.str (Tx (a ++ [32]))] = .exc "ParseError" := by
  refine items_bad (by simp; omega) ?_
  have : none ∈ itsT (wordsT (a ++ [32])) := List.mem_map.mpr ⟨[], nil_words a, by decide +kernel⟩
  simp [badI, this]
end PG

namespace PG
open PySem BB PG
theorem string_lit (z : Str) (h : (decide (z.length ≤ 1000) && badP (wordsT z.cps.toList)) = true) : r_parse_string [.str z] = .exc "ParseError" := by
  rw [Bool.and_eq_true, decide_eq_true_eq] at h
  have e : Tx z.cps.toList = z := SX.S_tl z
  have := string_bad (a := z.cps.toList) (by simpa [Str.length] using h.1) h.2
  rw [e] at this
  exact this
theorem items_lit (z : Str) (h : (decide (z.length ≤ 1000) && badI (wordsT z.cps.toList)) = true) : r_parse_items [.str z] = .exc "ParseError" := by
  rw [Bool.and_eq_true, decide_eq_true_eq] at h
  have e : Tx z.cps.toList = z := SX.S_tl z
  have := items_bad (a := z.cps.toList) (by simpa [Str.length] using h.1) h.2
  rw [e] at this
  exact this
end PG

namespace PG
open PySem BB PG
theorem format_items_no {d : D} (h : noDict d = true) (hs : isiD "list" d = false) : r_format_items [d] = .exc "InvalidItems" := by
  unfold r_format_items
  refine run_to (P := fun o => o = _) ?_
  unfold b_format_items
  generalize sgL c_format_items l_format_items = g
  show W _ (evSs g _ [.val d, .non])
  refine W.ifT (by simp [h, hs]) ?_
  exact W.exc rfl
theorem format_items_bad {ds : List D} (h : ∀ d ∈ ds, noDict d = true) (hb : (decide (60 < ds.length) || !(ds.all isItm)) = true) : r_format_items [.list ds] = .exc "InvalidItems" := by
  unfold r_format_items
  refine run_to (P := fun o => o = _) ?_
  unfold b_format_items
  have fn0 : (sgL c_format_items l_format_items).fn 0 = r_is_item := rfl
  have g0 : (sgL c_format_items l_format_items).gl 0 = .int 60 := rfl
  generalize sgL c_format_items l_format_items = g at fn0 g0
  show W _ (evSs g _ [.val (.list ds), .non])
  refine W.ifT ?_ (W.exc rfl)
  have hcomp : evE g (.comp (.call 0 (.cons (.var 1) .nil)) (.one 1) (.seq (.var 0)) .none [1]) [.val (.list ds), .non] = .ok (.list (ds.map fun d => .bool (isItm d))) := by
    rw [comp_map (xs := ds) (q := id) (f := fun d => .bool (isItm d)) (by simp) (fun x hx => by
      simp [stepC, fn0, is_item_ok x (h x hx)])]
  have hall := all_map isItm ds
  have hlen : bltD .len [.list ds] = .ok (.int ds.length) := rfl
  have h1 : ((60 : Int) < ds.length) ↔ 60 < ds.length := by omega
  simp only [evE_bop, evE_not, evE_isi, evE_var, rd_zero, get_val, Out.bind_ok, noDict, isiD, if_true, asB_bool, evB_cons, evB_nil, evE_cmp, evE_blt, evEs_cons, evEs_nil, hlen, evE_glob, g0, cmpD_gt, cmpI, h1, hcomp, hall]
  revert hb
  cases decide (60 < ds.length) <;> cases ds.all isItm <;> simp
end PG

namespace LB
open PySem BB PG LB
theorem pick_cell (ns : List Int) (k : Int) : ∃ c : Int, ((neD (PyData.list (intL ns)) (PyData.list [])).bind fun x =>
                    (asB x).bind fun k_1 =>
                      if k_1 = true then
                        (modD (PyData.int k) (PyData.int ↑ns.length)).bind fun y => ixD (PyData.list (intL ns)) y
                      else Out.ok (PyData.int 0)) = .ok (.int c) := by
  rw [ne_listI0]
  by_cases h : ns = []
  · exact ⟨0, by simp [h]⟩
  · have hl : 0 < ns.length := List.length_pos_iff.mpr h
    have h0 := Int.emod_nonneg k (b := (ns.length : Int)) (by omega)
    have h1 := Int.emod_lt_of_pos k (b := (ns.length : Int)) (by omega)
    have h2 := ix_listI h0 h1
    refine ⟨ns[(k % (ns.length : Int)).toNat]'(by omega), ?_⟩
    simp only [Out.bind_ok, asB_bool, h, decide_false, Bool.not_false, if_true]
    rw [mod_int (by omega), Out.bind_ok, h2]
theorem pick_ok (ns : List Int) (k many : Int) (hn : ns.length ≤ 63) (hk : 0 ≤ k) (hk2 : k < 10000) (hm : 0 < many) : ∃ m : Int, 0 ≤ m ∧ m < many ∧ r__law_pick [.list (intL ns), .int k, .int many] = .ok (.int m) := by
  obtain ⟨c, hc⟩ := pick_cell ns k
  unfold r__law_pick
  rw [runD_eq]
  unfold b__law_pick
  generalize sgL c__law_pick l__law_pick = g
  have hp : powD (.int 10) (.int 18) = .ok (.int 1000000000000000000) := by simp [powD, small]
  have hf : fdivD (.int c) (.int 1000000000000000000) = .ok (.int (c / 1000000000000000000)) := fdiv_int (by decide) (by decide)
  generalize hL : (if (1 : Int) > ns.length then (1 : Int) else ns.length) = L
  have hL0 : 0 < L := by split at hL <;> omega
  have hL2 : L < 2 ^ 64 := by split at hL <;> omega
  have hf2 : fdivD (.int k) (.int L) = .ok (.int (k / L)) := fdiv_int hL0 hL2
  rw [ss_next (asg_ok (d := .int c) (by simp [-ne_listI0, hc]))]
  rw [ss_next (par_ok (ds := [.int (c / 1000000000000000000), .int (k / L)]) (by simp [hp, hL, hf, hf2]) rfl)]
  have hw := whileL_run (σ := Int × Int) (test := evE g ((E.bop true (E.cmp Cop.gt (E.var 4) (E.int 0))
                        (Es.cons (E.cmp Cop.gt (E.var 5) (E.int 0)) Es.nil))))
        (body := evSs g (Ss.cons
                        (S.par false [4, 5]
                          (Es.cons (E.bin Bop.fdiv (E.var 4) (E.int 840))
                            (Es.cons (E.bin Bop.sub (E.var 5) (E.int 1)) Es.nil)))
                        Ss.nil))
        (env := fun s => [.val (.list (intL ns)), .val (.int k), .val (.int many), .val (.int c), .val (.int s.1), .val (.int s.2), .non])
        (go := fun s => decide (0 < s.1) && decide (0 < s.2)) (nx := fun s => (s.1 / 840, s.2 - 1)) (m := fun s => s.2.toNat)
        (fun s => True) (fun s _ => by by_cases h1 : 0 < s.1 <;> by_cases h2 : 0 < s.2 <;> simp [h1, h2])
        (fun s _ h => by
          simp only [Bool.and_eq_true, decide_eq_true_eq] at h
          refine ⟨?_, trivial, by omega⟩
          rw [ss_next (par_ok (ds := [.int (s.1 / 840), .int (s.2 - 1)]) (by simp [fdiv_int]) rfl)]
          rfl) FUEL (c / 1000000000000000000, k / L) trivial (by
            have : k / L ≤ k := Int.ediv_le_self _ hk
            show (k / L).toNat < 100000
            omega)
  obtain ⟨⟨a, b⟩, hw, -⟩ := hw
  rw [ss_next (by rw [evS_whl]; exact hw)]
  by_cases ha : 0 < a
  · refine ⟨a % 840 % many, Int.emod_nonneg _ (by omega), Int.emod_lt_of_pos _ hm, ?_⟩
    rw [ss_ret (by rw [ife_t (by simp [ha])]; rw [ss_ret (ret_ok (d := .int (a % 840 % many)) (by simp [mod_int, hm]))])]
    rfl
  · rw [ss_next (r' := [.val (.list (intL ns)), .val (.int k), .val (.int many), .val (.int c), .val (.int a), .val (.int b), .non]) (by rw [ife_f (by simp [ha])]; rfl)]
    generalize hd : (c * 31 + 6151 * (k + 1)) * 40692 % 2147483399 = d
    have hd0 : 0 ≤ d ∧ d < 2147483399 := by subst hd; exact ⟨Int.emod_nonneg _ (by decide), Int.emod_lt_of_pos _ (by decide)⟩
    rw [ss_next (asg_ok (d := .int d) (by
      simp
      rw [mul_int (.inr (by decide)), Out.bind_ok, mul_lit 6151 _ (by decide), Out.bind_ok, add_int, Out.bind_ok, mul_int (.inr (by decide)), Out.bind_ok, mod_int (by decide), hd]))]
    refine ⟨(d * d + d / 31) % 2147483629 % many, Int.emod_nonneg _ (by omega), Int.emod_lt_of_pos _ hm, ?_⟩
    rw [ss_ret (ret_ok (d := .int ((d * d + d / 31) % 2147483629 % many)) (by
      simp
      rw [mul_int (.inr (small_iff.mpr (by omega))), Out.bind_ok, fdiv_int (by decide) (by decide), Out.bind_ok, add_int, Out.bind_ok, mod_int (by decide), Out.bind_ok, mod_int hm]))]
    rfl
end LB

namespace LB
open PySem BB PG LB
theorem law_sixteen_ok {sg : List Nat} (h : sg.length = 16) {n L w : Nat} (hw : n < 16 ^ w) (hL : L ≤ w) (hw2 : w = L ∨ 16 ^ (w - 1) ≤ n) (hw3 : w ≤ 60) : r__law_sixteen [.int n, .int L, .str (Tx sg)] = .ok (.str (Tx (hx sg w n))) := by
  unfold r__law_sixteen
  refine run_to (P := fun o => o = _) ?_
  unfold b__law_sixteen
  generalize sgL c__law_sixteen l__law_sixteen = g
  refine W.asg (d := .str (Tx [])) (by simp; rfl) ?_
  refine W.while (m0 := w) (fun m e => ∃ k, k + m = w ∧ e = [.val (.int ((n / 16 ^ k : Nat) : Int)), .val (.int L), .val (.str (Tx sg)), .val (.str (Tx (hx sg k n)))]) (by unfold FUEL; omega) ⟨0, by omega, by simp [hx]⟩ ?_
  rintro m e ⟨k, hk, rfl⟩
  have hkl := hx_len sg k n
  refine ⟨decide (0 < m), ?_, ?_, ?_⟩
  · simp only [evE_bop, evE_cmp, evE_var, evE_int, evE_blt, evEs_cons, evEs_nil, rd_succ, rd_zero, get_val, Out.bind_ok, evB_cons, evB_nil, len_S (show (hx sg k n).length ≤ 1000000 by omega), hkl]
    have key : (0 < n / 16 ^ k ∨ k < L) ↔ 0 < m := by
      constructor
      · rintro (h1 | h1)
        · apply Nat.pos_of_ne_zero
          intro hm
          have hkw : k = w := by omega
          rw [hkw, Nat.div_eq_of_lt hw] at h1
          omega
        · omega
      · intro hm
        by_cases hkL : k < L
        · exact .inr hkL
        · exact .inl (Nat.div_pos (Nat.le_trans (Nat.pow_le_pow_right (by decide) (show k ≤ w - 1 by omega)) (by rcases hw2 with e | e; omega; exact e)) (Nat.pow_pos (by decide)))
    generalize n / 16 ^ k = q at key
    have key2 : decide (0 < m) = (decide (0 < q) || decide (k < L)) := by
      rw [Bool.eq_iff_iff]
      simp [key]
    rw [key2]
    by_cases h0 : 0 < q
    · have h0' : (0 : Int) < q := by omega
      simp [h0, h0']
    · have h0' : q = 0 := by omega
      subst h0'
      simp
  · intro hm
    have hm : 0 < m := by simpa using hm
    have hmod : (((n / 16 ^ k : Nat) : Int) % 16) = ((n / 16 ^ k % 16 : Nat) : Int) := by simp
    refine W.asg (d := .str (Tx (hx sg (k + 1) n))) (by
      simp only [evE_bin, evE_ix, evE_var, evE_int, hide_cons, hide_val, hide_nil, rd_succ, rd_zero, get_val, Out.bind_ok, binD_mod, modD, binD_add]
      rw [if_pos (by decide), Out.bind_ok, hmod, ix_S (by have := Nat.mod_lt (n / 16 ^ k) (show 16 > 0 by decide); omega) (by omega), Out.bind_ok, add_S (by simp; omega)]
      rfl) ?_
    refine W.asg (d := .int ((n / 16 ^ (k + 1) : Nat) : Int)) (by
      simp only [evE_bin, evE_var, evE_int, hide_cons, hide_val, hide_nil, List.set_cons_succ, List.set_cons_zero, rd_succ, rd_zero, get_val, Out.bind_ok, binD_fdiv, fdivD]
      rw [if_pos (by decide), Nat.pow_succ, ← Nat.div_div_eq_div_mul]
      simp) ?_
    exact W.nil ⟨m - 1, by omega, k + 1, by omega, rfl⟩
  · intro hm
    have hm : m = 0 := by simpa using hm
    have hkw : k = w := by omega
    subst hkw
    exact W.ret (d := .str (Tx (hx sg k n))) (by simp) rfl
theorem law_written_ok {x : Int} (h : okItm x) : r__law_written [.int x] = .ok (.str (Tx (wit x))) := by
  unfold r__law_written
  refine run_to (P := fun o => o = _) ?_
  unfold b__law_written
  have fn0 : (sgL c__law_written l__law_written).fn 0 = r__law_sixteen := rfl
  generalize sgL c__law_written l__law_written = g at fn0
  show W _ (evSs g _ [.val (.int x)])
  have q1 : (("?" : Str)) = Tx [63] := by decide +kernel
  have q2 : (("U+" : Str)) = Tx [85, 43] := by decide +kernel
  have q3 : (("<" : Str)) = Tx [60] := by decide +kernel
  have q4 : ((">" : Str)) = Tx [62] := by decide +kernel
  unfold wit
  by_cases h1 : x = -1
  · subst h1
    refine W.ifT (by simp [negD]) ?_
    exact W.retK (d := .str (Tx [63])) (by simp [q1]) rfl
  · refine W.ifN (by simp [negD, h1]) ?_
    rw [if_neg h1]
    by_cases h2 : 0 ≤ x
    · have h2' : ¬ x < 0 := by omega
      refine W.ifN (by simp [h2']) ?_
      rw [if_pos h2]
      have hx1 : x ≤ 1114111 := by rcases h with h | h | h <;> omega
      obtain ⟨w1, w2, w3, w4⟩ := wd_ok (n := x.toNat) (by omega)
      have := law_sixteen_ok (sg := largeS) rfl (L := 4) w1 w2 w3 (by omega)
      rw [show ((x.toNat : Nat) : Int) = x by omega] at this
      have this : r__law_sixteen [.int x, .int 4, .str (Tx largeS)] = _ := this
      refine W.ret (d := .str (Tx ([85, 43] ++ hx largeS (wd x.toNat) x.toNat))) ?_ rfl
      have ha := add_S (a := [85, 43]) (b := hx largeS (wd x.toNat) x.toNat) (by rw [hx_len]; simp; omega)
      simp only [evE_var, evE_int, rd_zero, get_val, Out.bind_ok, evE_bin, evE_str, evE_call, evEs_cons, evEs_nil, fn0, large_S, this, q2, binD_add, ha]
    · have h2' : x < 0 := by omega
      refine W.ifT (by simp [h2']) ?_
      rw [if_neg h2]
      have hx1 : -255 ≤ x := by rcases h with h | h | h <;> omega
      have := law_sixteen_ok (sg := largeS) rfl (n := (-x).toNat) (L := 2) (w := 2) (by omega) (by omega) (.inl rfl) (by omega)
      rw [show (((-x).toNat : Nat) : Int) = 0 - x by omega] at this
      have this : r__law_sixteen [.int (0 - x), .int 2, .str (Tx largeS)] = _ := this
      refine W.retK (d := .str (Tx ([60] ++ hx largeS 2 (-x).toNat ++ [62]))) ?_ rfl
      have ha := add_S (a := [60]) (b := hx largeS 2 (-x).toNat) (by rw [hx_len]; simp)
      have hb := add_S (a := [60] ++ hx largeS 2 (-x).toNat) (b := [62]) (by rw [List.length_append, hx_len]; simp)
      simp only [evE_var, evE_int, rd_zero, get_val, Out.bind_ok, evE_bin, evE_str, evE_call, evEs_cons, evEs_nil, fn0, large_S, binD_sub, sub_int, this, q3, q4, binD_add, ha, hb]
end LB

namespace LB
open PySem BB PG LB
def partsL : List (List Int) := [[65], [128], [191, 255], [192, 128], [192, 175], [194], [194, 128], [47], [224, 128, 175], [224, 160, 128], [225, 128], [237, 160, 128], [237, 159, 191], [239, 191, 189], [240], [240, 128, 128, 175], [240, 144, 128], [240, 144, 128, 128], [244, 143, 191, 191], [244, 144, 128, 128], [247, 191, 191, 191], [255], [248, 128], [223, 191], [224], [0]]
theorem parts_ok : ∀ p ∈ partsL, p.length ≤ 4 ∧ ∀ b ∈ p, 0 ≤ b ∧ b ≤ 255 := by decide
theorem law_string_ok (ns : List Int) (k most : Nat) (hn : ns.length ≤ 63) (hk : k + most < 5000) (hm : most ≤ 15) : ∃ s : List Int, Byts s ∧ s.length ≤ 4 * most ∧ r__law_string [.list (intL ns), .int k, .int most] = .ok (.tuple (intL s)) := by
  obtain ⟨n, n0, n1, hpn⟩ := pick_ok ns k (most + 1) hn (by omega) (by omega) (by omega)
  obtain ⟨n, rfl⟩ := Int.eq_ofNat_of_zero_le n0
  suffices h : ∃ s : List Int, (Byts s ∧ s.length ≤ 4 * most) ∧ r__law_string [.list (intL ns), .int k, .int most] = .ok (.tuple (intL s)) by
    obtain ⟨s, h1, h2⟩ := h; exact ⟨s, h1.1, h1.2, h2⟩
  unfold r__law_string
  refine run_to (P := fun o => ∃ s : List Int, (Byts s ∧ s.length ≤ 4 * most) ∧ o = .ok (.tuple (intL s))) ?_
  unfold b__law_string
  have fn0 : (sgL c__law_string l__law_string).fn 0 = r__law_pick := rfl
  generalize sgL c__law_string l__law_string = g at fn0
  refine W.own rfl ?_
  refine W.ext rfl rfl (by decide) ?_
  refine W.ext rfl rfl (by decide) ?_
  refine W.ext rfl rfl (by decide) ?_
  refine W.frz (ds := partsL.map fun p => .tuple (intL p)) rfl ?_
  refine W.asg (d := .tuple []) rfl ?_
  refine W.for (xs := rangeI 0 n) (q := PyData.int) (fun dn e => ∃ (s : List Int) (s5 : BB.Slot), Byts s ∧ s.length ≤ 4 * dn.length ∧ e = [.val (.list (intL ns)), .val (.int k), .val (.int most), .val (.list (partsL.map fun p => .tuple (intL p))), .val (.tuple (intL s)), s5]) ?_ ⟨[], .non, fun b hb => (by cases hb), by simp, rfl⟩ ?_ ?_
  · simp only [evI_rng1, evE_call, evEs_cons, evE_var, evE_bin, evE_int, hide_cons, hide_val, hide_non, hide_nil, List.set_cons_succ, List.set_cons_zero, List.map_cons, List.map_nil, List.cons_append, List.nil_append, List.length_cons, List.length_nil, rd_succ, rd_zero, get_val, Out.bind_ok, binD_add, add_int, evEs_nil, fn0, hpn, intOf_int]
    rw [rng_ok (by omega) (by omega) (by omega) (by omega) (by omega)]
    simp [intL]
  · rintro dn x rest hx e ⟨s, s5, hs, hsl, rfl⟩
    have hxe : x = 0 + dn.length := rangeI_split hx
    have hdl : dn.length < n := by
      have := congrArg List.length hx
      simp [rangeI_length] at this; omega
    obtain ⟨m, m0, m1, hpm⟩ := pick_ok ns (k + 1 + x) 26 hn (by omega) (by omega) (by omega)
    have hlen : partsL.length = 26 := rfl
    have hix := ix_list (ds := partsL.map fun p => .tuple (intL p)) (i := m) m0 (by simp [hlen]; omega)
    have hmem : partsL[m.toNat]'(by omega) ∈ partsL := List.getElem_mem _
    obtain ⟨pl, pb⟩ := parts_ok _ hmem
    simp only [List.getElem_map] at hix
    refine W.turn ?_
    refine W.asg (d := .tuple (intL (s ++ partsL[m.toNat]'(by omega)))) (by
      simp only [evE_bin, evE_ix, evE_call, evEs_cons, evE_var, evE_int, hide_cons, hide_val, hide_non, hide_nil, List.set_cons_succ, List.set_cons_zero, rd_succ, rd_zero, get_val, Out.bind_ok, binD_add, add_int, evEs_nil, fn0, hpm, hix]
      rw [add_tup (by simp; omega), intL_append]) ?_
    refine W.nil ⟨_, _, hs.app pb, by simp; omega, rfl⟩
  · rintro e ⟨s, s5, hs, hsl, rfl⟩
    rw [rangeI_length] at hsl
    exact W.ret (d := .tuple (intL s)) (by simp) ⟨s, ⟨hs, by omega⟩, rfl⟩
end LB

namespace LB
open PySem BB PG LB
def codesL : List Int := [0, 47, 65, 127, 128, 2047, 2048, 8364, 55295, 55296, 57343, 65533, 65535, 65536, 128512, 1114111]
theorem codes_ok : ∀ c ∈ codesL, 0 ≤ c ∧ c ≤ 1114111 := by decide
theorem law_code_ok (ns : List Int) (k : Int) (hn : ns.length ≤ 63) (hk : 0 ≤ k) (hk2 : k < 9000) : ∃ c : Int, 0 ≤ c ∧ c ≤ 1114111 ∧ r__law_code [.list (intL ns), .int k] = .ok (.int c) := by
  obtain ⟨m, m0, m1, hm⟩ := pick_ok ns k 16 hn hk (by omega) (by omega)
  have hl : codesL.length = 16 := rfl
  have hix := ix_tupI (ns := codesL) (i := m) m0 (by omega)
  have hmm : m.toNat < codesL.length := by omega
  obtain ⟨h1, h2⟩ := codes_ok _ (List.getElem_mem hmm)
  refine ⟨codesL[m.toNat]'hmm, h1, h2, ?_⟩
  unfold r__law_code
  refine run_to (P := fun o => o = _) ?_
  unfold b__law_code
  have fn0 : (sgL c__law_code l__law_code).fn 0 = r__law_pick := rfl
  generalize sgL c__law_code l__law_code = g at fn0
  refine W.asg (d := .tuple (intL codesL)) (by simp [codesL]) ?_
  refine W.ret (d := .int (codesL[m.toNat]'hmm)) ?_ rfl
  simp only [evE_ix, evE_var, evE_call, evEs_cons, evEs_nil, evE_int, List.map_cons, List.map_nil, List.cons_append, List.set_cons_succ, List.set_cons_zero, rd_succ, rd_zero, get_val, Out.bind_ok, fn0, hm]
  exact hix
end LB

/-! ## walking over lambdas -/
namespace BB
open PySem
variable {g : Sg} {ss : Ss} {r : Env} {P : Fl → Prop}
theorem W.thk {i : Nat} {ps : List E} (hl : g.lam.isEmpty = false) (hp : ps.isEmpty = false) (hn : ps.length ≤ LIM) (k : W P (evSs g ss (r.set i (.thks ps)))) : W P (evSs g (.thk i ps ss) r) := by
  refine ⟨?_⟩
  rw [evSs, if_neg (by simp [hl, hp]; omega)]
  exact k.to
theorem W.allA {ts : List (Ta × Str)} (h0 : ts.isEmpty = false) (h : ts.all (allT g r) = true) (k : W P (evSs g ss r)) : W P (evSs g (.cons (.allA ts) ss) r) := by
  refine W.cons ⟨?_⟩
  rw [evS, if_pos (by simp only [h0, h, Bool.not_false, Bool.and_self])]
  exact k
theorem W.retA {t : Ta} {n : Str} (h : allT g r (t, n) = true) (k : P (.ret (.bool true))) : W P (evSs g (.cons (.retA t n) ss) r) := by
  refine W.cons ⟨?_⟩
  rw [evS, if_pos h]
  exact k
theorem W.asgR {i : Nat} {p : E} {d : D} (hl : g.lam.isEmpty = false) (h : resT g.lam (evE g p (hide r)) = .ok d) (k : W P (evSs g ss (r.set i (.val d)))) : W P (evSs g (.cons (.asgR i p) ss) r) := by
  refine W.cons ⟨?_⟩
  rw [evS, if_neg (by simp [hl]), h]
  exact k
theorem allT_l {p : E} {n : Str} (hn : g.lam.contains n = true) (h : evE g p (hide r) = .exc n) : allT g r (.l p, n) = true := by
  unfold allT
  simp [taE, isX, h] at *
  exact hn
theorem allT_v {i : Nat} {ps : List E} {n : Str} (hn : g.lam.contains n = true) (hi : r.getD i .non = .thks ps) (hp : ps.isEmpty = false) (h : ∀ p ∈ ps, evE g p (hide r) = .exc n) : allT g r (.v i, n) = true := by
  unfold allT
  have : taE r (.v i) = ps := by simp only [taE, hi]
  simp only [this, hn, hp, Bool.not_false, Bool.and_self, Bool.true_and, List.all_eq_true]
  intro p hp
  rw [h p hp]
  simp [isX]
theorem idx_listI {ns : List Int} {i : Int} (h : i ∈ ns) : ∃ j, ∃ hj : j < ns.length, ns[j] = i ∧ idxD (intL ns) (.int i) = .ok (.int j) := by
  have hs : SeqAt.shaped (.list (intL ns)) = true := shaped_fit (n := 1) (by simp; exact fit_intL ns) (by decide)
  have hs2 : SeqAt.shaped (.int i) = true := shaped_fit (n := 1) (by simp) (by decide)
  unfold idxD
  rw [if_pos (by rw [hs, hs2]; rfl)]
  cases e : (intL ns).findIdx? fun z => PyData.eqv z (.int i) with
  | none =>
    rw [List.findIdx?_eq_none_iff] at e
    have := e (.int i) (by simp only [intL, List.mem_map]; exact ⟨i, h, rfl⟩)
    rw [eqv_int] at this
    simp at this
  | some j =>
    rw [List.findIdx?_eq_some_iff_getElem] at e
    obtain ⟨hj, h1, _⟩ := e
    have hj' : j < ns.length := by rw [intL_length] at hj; exact hj
    refine ⟨j, hj', ?_, rfl⟩
    simp only [intL, List.getElem_map, eqv_int] at h1
    exact of_decide_eq_true h1
theorem ix_lastL (xs : List D) (x : D) : ixD (.list (xs ++ [x])) (.int (-1)) = .ok x := by
  simp only [ixD]
  have : L2.atI (xs ++ [x]) (-1) = some x := by
    simp only [L2.atI, L2.ixN, List.length_append, List.length_singleton]
    rw [if_neg (by omega)]
    simp
    have : (-1 + ((xs.length : Int) + 1)) = (xs.length : Int) := by omega
    rw [if_pos (by omega)]
    simp [this]
  rw [this]
end BB

namespace K72
open PySem BB PG LB K72
theorem texts_bad {g : Sg} (fn6 : g.fn 6 = r_parse_string) {e : BB.Env} {x : D} (h : r_parse_string [x] = .exc "ParseError") (he : (hide e).getD 11 .non = .val x) : evE g (.call 6 (.cons (.var 11) .nil)) (hide e) = .exc "ParseError" := by
  have hr : rd (hide e) 11 = .ok x := by unfold rd; rw [he]; rfl
  simp only [evE_call, evEs_cons, evEs_nil, evE_var, hr, Out.bind_ok, fn6, h]
theorem items_badE {g : Sg} (fn8 : g.fn 8 = r_parse_items) {e : BB.Env} {x : D} (h : r_parse_items [x] = .exc "ParseError") (he : (hide e).getD 11 .non = .val x) : evE g (.call 8 (.cons (.var 11) .nil)) (hide e) = .exc "ParseError" := by
  have hr : rd (hide e) 11 = .ok x := by unfold rd; rw [he]; rfl
  simp only [evE_call, evEs_cons, evEs_nil, evE_var, hr, Out.bind_ok, fn8, h]
theorem law_ok (ns : List Int) (hn : ns.length ≤ 63) : r_law [.list (intL ns)] = .ok (.bool true) := by
  unfold r_law
  refine run_to (P := fun o => o = _) ?_
  unfold b_law
  have fn0 : (sgT c_law l_law lns).fn 0 = r__law_string := rfl
  have fn1 : (sgT c_law l_law lns).fn 1 = r__law_pick := rfl
  have fn2 : (sgT c_law l_law lns).fn 2 = r__law_code := rfl
  have fn3 : (sgT c_law l_law lns).fn 3 = r__law_sixteen := rfl
  have fn4 : (sgT c_law l_law lns).fn 4 = r__law_written := rfl
  have fn5 : (sgT c_law l_law lns).fn 5 = r_format_string := rfl
  have fn6 : (sgT c_law l_law lns).fn 6 = r_parse_string := rfl
  have fn7 : (sgT c_law l_law lns).fn 7 = r_format_items := rfl
  have fn8 : (sgT c_law l_law lns).fn 8 = r_parse_items := rfl
  have hlam : (sgT c_law l_law lns).lam = lns := rfl
  generalize sgT c_law l_law lns = g at fn0 fn1 fn2 fn3 fn4 fn5 fn6 fn7 fn8 hlam
  show W _ (evSs g _ [.val (.list (intL ns)), .non, .non, .non, .non, .non, .non, .non, .non, .non, .non, .non, .non])
  obtain ⟨s, hs, hl, hss⟩ := law_string_ok ns 0 8 hn (by omega) (by omega)
  have hss : r__law_string [.list (intL ns), .int 0, .int 8] = _ := hss
  refine W.parL (ds := [.tuple (intL s)]) (by simp [hide, Slot.hide, fn0, hss]) rfl ?_
  obtain ⟨m, hm0, hm1, hmm⟩ := pick_ok ns 20 7 hn (by omega) (by omega) (by omega)
  refine W.for (xs := rangeI 0 m.toNat) (q := PyData.int) (fun dn e => ∃ s3 s4 s5 xs, (∀ x ∈ xs, okItm x) ∧ xs.length = dn.length ∧ e = [.val (.list (intL ns)), .val (.tuple (intL s)), .own (intL xs), s3, s4, s5, .non, .non, .non, .non, .non, .non, .non]) ?_ ⟨_, _, _, [], by simp, rfl, rfl⟩ ?_ ?_
  · simp [hide, Slot.hide, fn1, hmm]
    rw [rng_ok (by omega) (by omega) (by omega) (by omega) (by omega), show (m - 0).toNat = m.toNat by omega]
    rfl
  · rintro dn j rest hx e ⟨s3, s4, s5, xs, hxs, hxl, rfl⟩
    have hj : j ∈ rangeI 0 m.toNat := by rw [hx]; simp
    rw [mem_rangeI] at hj
    have hdl := congrArg List.length hx
    simp only [rangeI_length, List.length_append, List.length_cons] at hdl
    obtain ⟨k, k0, k1, hk⟩ := pick_ok ns (21 + j) 4 hn (by omega) (by omega) (by omega)
    obtain ⟨b, b0, b1, hb⟩ := pick_ok ns (30 + j) 128 hn (by omega) (by omega) (by omega)
    obtain ⟨c, c0, c1, hc⟩ := law_code_ok ns (40 + j) hn (by omega) (by omega)
    refine W.turn ?_
    refine W.par (ds := [.int k, .int (128 + b)]) (by simp [hide, Slot.hide, fn1, hk, hb]) rfl ?_
    refine W.app rfl (d := .int (if k = 0 then -1 else if k = 1 then 0 - (128 + b) else c)) (by
      by_cases h0 : k = 0
      · simp [hide, Slot.hide, h0, negD]
      · by_cases h1 : k = 1
        · simp [hide, Slot.hide, h1]
        · simp [hide, Slot.hide, h0, h1, fn2, hc]) (by simp only [intL_length, LIM]; omega) ?_
    refine W.nil ⟨.val (.int j), .val (.int k), .val (.int (128 + b)), xs ++ [if k = 0 then -1 else if k = 1 then 0 - (128 + b) else c], ?_, by simp [hxl], by rw [← intL_append]; rfl⟩
    intro x hx1
    rw [List.mem_append, List.mem_singleton] at hx1
    rcases hx1 with hx1 | rfl
    · exact hxs x hx1
    · unfold okItm
      split
      · omega
      · split <;> omega
  · rintro e ⟨s3, s4, s5, xs, hxs, hxl, rfl⟩
    rw [rangeI_length] at hxl
    refine W.frz rfl ?_
    refine W.asg (d := .str (Tx (fmtS s))) (by
      rw [evE_mth, comp_map (xs := s) (q := PyData.int) (f := fun b => .str (Tx (hx smallS 2 b.toNat))) (by simp [hide, Slot.hide]; rfl) (fun b hb => by
        obtain ⟨b0, b1⟩ := hs b hb
        have := law_sixteen_ok (sg := smallS) rfl (n := b.toNat) (L := 2) (w := 2) (by omega) (by omega) (.inl rfl) (by omega)
        rw [show ((b.toNat : Nat) : Int) = b by omega] at this
        have this : r__law_sixteen [.int b, .int 2, .str (Tx smallS)] = .ok (.str (Tx (hx smallS 2 b.toNat))) := this
        simp [stepC, hide, Slot.hide, small_S, fn3, this])]
      simp only [evE_str, Out.bind_ok, strOf_str, sp_S]
      have := join_ok (ws := s.map fun b => hx smallS 2 b.toNat) (by
        have := sum_len (fun b : Int => hx smallS 2 b.toNat) 2 s (fun x _ => by rw [hx_len]; omega)
        simp only [List.length_map] at this ⊢
        omega)
      rw [List.map_map] at this
      exact this) ?_
    refine W.asg (d := .str (Tx (joinT (xs.map wit)))) (by
      rw [evE_mth, comp_map (xs := xs) (q := PyData.int) (f := fun x => .str (Tx (wit x))) (by simp [hide, Slot.hide]; rfl) (fun x hx => by
        simp [stepC, hide, Slot.hide, fn4, law_written_ok (hxs x hx)])]
      simp only [evE_str, Out.bind_ok, strOf_str, sp_S]
      have := join_ok (ws := xs.map wit) (by
        have := sum_len wit 8 xs (fun x _ => wit_len x)
        simp only [List.length_map] at this ⊢
        omega)
      rw [List.map_map] at this
      exact this) ?_
    refine W.ifN (by
      simp only [evE_bop, evE_cmp, evE_call, evEs_cons, evEs_nil, evE_var, List.set_cons_succ, List.set_cons_zero, rd_succ, rd_zero, get_val, Out.bind_ok, fn5, fn6, format_string_ok hs (show s.length ≤ 60 by omega), parse_fmt hs (show s.length ≤ 60 by omega), cmpD_ne, (eq_S _ _).2, ne_tupI, evB_cons, evB_nil, asB_bool]
      simp) ?_
    refine W.ifN (by
      simp only [evE_bop, evE_cmp, evE_call, evEs_cons, evEs_nil, evE_var, List.set_cons_succ, List.set_cons_zero, rd_succ, rd_zero, get_val, Out.bind_ok, fn7, fn8, format_items_ok hxs (show xs.length ≤ 60 by omega), parse_wit hxs (show xs.length ≤ 60 by omega), cmpD_ne, (eq_S _ _).2, ne_listI, evB_cons, evB_nil, asB_bool]
      simp) ?_
    have hf : Byts (List.replicate 60 255) := fun b hb => by rw [List.eq_of_mem_replicate hb]; omega
    have hr : ∀ x ∈ List.replicate 60 (-1 : Int), okItm x := fun x hx => by rw [List.eq_of_mem_replicate hx]; exact .inl rfl
    have r1 : mulD (.tuple [.int 255]) (.int 60) = .ok (.tuple (intL (List.replicate 60 255))) := rfl
    have r2 : mulD (.list [.int (-1)]) (.int 60) = .ok (.list (intL (List.replicate 60 (-1)))) := rfl
    refine W.asg (d := .tuple (intL (List.replicate 60 255))) (by simp only [evE_bin, evE_tup, evEs_cons, evEs_nil, evE_int, Out.bind_ok, binD_mul, r1]) ?_
    refine W.ifN (by
      simp only [evE_bop, evE_cmp, evE_call, evEs_cons, evEs_nil, evE_var, evE_bin, evE_lst, evE_neg, evE_int, negD, List.set_cons_succ, List.set_cons_zero, rd_succ, rd_zero, get_val, Out.bind_ok, binD_mul, r2, fn5, fn6, fn7, fn8, format_string_ok hf (by decide), parse_fmt hf (by decide), format_items_ok hr (by decide), parse_wit hr (by decide), cmpD_ne, ne_tupI, ne_listI, evB_cons, evB_nil, asB_bool]
      simp) ?_
    have hfl := fmtS_len (s := s) (by omega)
    have a1 := add_S (a := fmtS s) (b := [32]) (by simp; omega)
    have z1 : ∃ z : Str, binD .mul (.str " 00") (.int 60) = .ok (.str z) ∧ ∃ y : Str, binD .add (.str "ff") (.str z) = .ok (.str y) ∧ r_parse_string [.str y] = .exc "ParseError" := ⟨_, rfl, _, rfl, string_lit _ (by decide +kernel)⟩
    obtain ⟨z, hz, y, hy, hyb⟩ := z1
    have hb1 : ∀ d ∈ ([.none, .int 5, .str " ", .str (Tx (fmtS s ++ [32])), .str " 41", .str "4", .str "411", .str "4g", .str "41  42", .str "4A", .str "41 42,", .str "41\n", .str y] : List D), r_parse_string [d] = .exc "ParseError" := by
      intro d hd
      simp only [List.mem_cons, List.not_mem_nil, or_false] at hd
      rcases hd with rfl | rfl | rfl | rfl | rfl | rfl | rfl | rfl | rfl | rfl | rfl | rfl | rfl
      · exact parse_string_bad rfl rfl
      · exact parse_string_bad rfl rfl
      · exact string_lit _ (by decide +kernel)
      · exact string_sp (by omega)
      all_goals first | exact hyb | exact string_lit _ (by decide +kernel)
    refine W.own (ds := [.none, .int 5, .str " ", .str (Tx (fmtS s ++ [32])), .str " 41", .str "4", .str "411", .str "4g", .str "41  42", .str "4A", .str "41 42,", .str "41\n", .str y]) (by
      have a1 : binD .add (.str (Tx (fmtS s))) (.str " ") = .ok (.str (Tx (fmtS s ++ [32]))) := by rw [sp_S]; exact a1
      simp only [evEs_cons, evEs_nil, evE_non, evE_int, evE_str, evE_bin, evE_var, hide_cons, hide_val, hide_nil, List.set_cons_succ, List.set_cons_zero, rd_succ, rd_zero, get_val, Out.bind_ok, a1, hz, hy]) ?_
    refine W.frz rfl ?_
    refine W.for (xs := ([.none, .int 5, .str " ", .str (Tx (fmtS s ++ [32])), .str " 41", .str "4", .str "411", .str "4g", .str "41  42", .str "4A", .str "41 42,", .str "41\n", .str y] : List D)) (q := id) (fun dn e => ∃ s10 s11, e = [.val (.list (intL ns)), .val (.tuple (intL s)), .val (.list (intL xs)), s3, s4, s5, .val (.str (Tx (fmtS s))), .val (.str (Tx (joinT (xs.map wit)))), .non, .val (.tuple (intL (List.replicate 60 255))), s10, s11, .non]) (by simp [hide, Slot.hide]) ⟨_, _, rfl⟩ ?_ ?_
    · rintro dn d rest hx e ⟨s10, s11, rfl⟩
      have hd := hb1 d (by rw [hx]; simp)
      refine W.turn ?_
      refine W.allA rfl ?_ (W.nil ⟨_, _, rfl⟩)
      simp only [List.all_cons, List.all_nil, Bool.and_true]
      refine allT_l (by rw [hlam]; decide) ?_
      exact texts_bad fn6 hd (by simp [hide, Slot.hide])
    · rintro e ⟨s10, s11, rfl⟩
      have hjl : (joinT (xs.map wit)).length ≤ 900 := by
        have h1 := joinT_len (xs.map wit)
        have h2 := sum_len wit 8 xs (fun x _ => wit_len x)
        simp only [List.length_map] at h1 h2
        omega
      have a2 : binD .add (.str (Tx (joinT (xs.map wit)))) (.str " ") = .ok (.str (Tx (joinT (xs.map wit) ++ [32]))) := by rw [sp_S]; exact add_S (by simp; omega)
      have z2 : ∃ z : Str, binD .mul (.str " ?") (.int 60) = .ok (.str z) ∧ ∃ y : Str, binD .add (.str "?") (.str z) = .ok (.str y) ∧ r_parse_items [.str y] = .exc "ParseError" := ⟨_, rfl, _, rfl, items_lit _ (by decide +kernel)⟩
      obtain ⟨z', hz', y', hy', hyb'⟩ := z2
      have hb2 : ∀ d ∈ ([.none, .int 5, .str " ", .str (Tx (joinT (xs.map wit) ++ [32])), .str "U+41", .str "U+00041", .str "U+110000", .str "u+0041", .str "<7F>", .str "<100>", .str "<c8>", .str "??", .str "<C8", .str "U+", .str "? ?  ?", .str "-1", .str "U+004g", .str "<>", .str y'] : List D), r_parse_items [d] = .exc "ParseError" := by
        intro d hd
        simp only [List.mem_cons, List.not_mem_nil, or_false] at hd
        rcases hd with rfl | rfl | rfl | rfl | rfl | rfl | rfl | rfl | rfl | rfl | rfl | rfl | rfl | rfl | rfl | rfl | rfl | rfl | rfl
        · exact parse_items_bad rfl rfl
        · exact parse_items_bad rfl rfl
        · exact items_lit _ (by decide +kernel)
        · exact items_sp hjl
        all_goals first | exact hyb' | exact items_lit _ (by decide +kernel)
      refine W.own (ds := [.none, .int 5, .str " ", .str (Tx (joinT (xs.map wit) ++ [32])), .str "U+41", .str "U+00041", .str "U+110000", .str "u+0041", .str "<7F>", .str "<100>", .str "<c8>", .str "??"]) (by
        simp only [evEs_cons, evEs_nil, evE_non, evE_int, evE_str, evE_bin, evE_var, hide_cons, hide_val, hide_nil, List.set_cons_succ, List.set_cons_zero, rd_succ, rd_zero, get_val, Out.bind_ok, a2]) ?_
      refine W.ext rfl (xs := [.str "<C8", .str "U+", .str "? ?  ?", .str "-1", .str "U+004g", .str "<>", .str y']) (by
        simp only [evE_lst, evEs_cons, evEs_nil, evE_int, evE_str, evE_bin, Out.bind_ok, hz', hy']) (by show 12 + 7 ≤ 1000000; omega) ?_
      refine W.frz rfl ?_
      refine W.for (xs := ([.none, .int 5, .str " ", .str (Tx (joinT (xs.map wit) ++ [32])), .str "U+41", .str "U+00041", .str "U+110000", .str "u+0041", .str "<7F>", .str "<100>", .str "<c8>", .str "??", .str "<C8", .str "U+", .str "? ?  ?", .str "-1", .str "U+004g", .str "<>", .str y'] : List D)) (q := id) (fun dn e => ∃ s10 s11, e = [.val (.list (intL ns)), .val (.tuple (intL s)), .val (.list (intL xs)), s3, s4, s5, .val (.str (Tx (fmtS s))), .val (.str (Tx (joinT (xs.map wit)))), .non, .val (.tuple (intL (List.replicate 60 255))), s10, s11, .non]) (by simp [hide, Slot.hide]) ⟨_, _, rfl⟩ ?_ ?_
      · rintro dn d rest hx e ⟨s10, s11, rfl⟩
        have hd := hb2 d (by rw [hx]; simp)
        refine W.turn ?_
        refine W.allA rfl ?_ (W.nil ⟨_, _, rfl⟩)
        simp only [List.all_cons, List.all_nil, Bool.and_true]
        refine allT_l (by rw [hlam]; decide) ?_
        exact items_badE fn8 hd (by simp [hide, Slot.hide])
      · rintro e ⟨s10, s11, rfl⟩
        have r3 : mulD (.list [.int 65]) (.int 61) = .ok (.list (intL (List.replicate 61 65))) := rfl
        obtain ⟨q, q0, q1, hq⟩ := pick_ok ns 52 9 hn (by omega) (by omega) (by omega)
        have hw : ∀ d ∈ ([.list [.int (-2)], .list [.int (-127)], .list [.int (-256)], .list [.int 1114112], .tuple [.int 65], .none, .list [.bool true], .list [.str "a"], .list (intL (List.replicate 61 65))] : List D), r_format_items [d] = .exc "InvalidItems" := by
          intro d hd
          simp only [List.mem_cons, List.not_mem_nil, or_false] at hd
          rcases hd with rfl | rfl | rfl | rfl | rfl | rfl | rfl | rfl | rfl
          · exact format_items_bad (by decide) (by decide)
          · exact format_items_bad (by decide) (by decide)
          · exact format_items_bad (by decide) (by decide)
          · exact format_items_bad (by decide) (by decide)
          · exact format_items_no rfl rfl
          · exact format_items_no rfl rfl
          · exact format_items_bad (by decide) (by decide)
          · exact format_items_bad (by decide) (by decide)
          · exact format_items_bad (fun d hd => by rw [intL, List.mem_map] at hd; obtain ⟨i, _, rfl⟩ := hd; rfl) (by simp [intL_length])
        refine W.asg (d := .tuple [.list [.int (-2)], .list [.int (-127)], .list [.int (-256)], .list [.int 1114112], .tuple [.int 65], .none, .list [.bool true], .list [.str "a"], .list (intL (List.replicate 61 65))]) (by
          simp only [evE_tup, evE_lst, evEs_cons, evEs_nil, evE_neg, evE_int, evE_non, evE_bl, evE_str, evE_bin, binD_mul, negD, Out.bind_ok, r3]) ?_
        refine W.retA ?_ rfl
        refine allT_l (by rw [hlam]; decide) ?_
        simp only [evE_call, evEs_cons, evEs_nil, evE_ix, evE_var, evE_int, hide_cons, hide_val, hide_nil, List.set_cons_succ, List.set_cons_zero, rd_succ, rd_zero, get_val, Out.bind_ok, fn1, fn7]
        simp [hide, Slot.hide, hq]
        rw [ix_tup q0 (by simpa using q1)]
        simp only [Out.bind_ok]
        exact hw _ (List.getElem_mem _)
end K72

/-! ### the text of the law as terms (printed by gen2.py) -/
namespace K72
open PySem PySem.Spec PyProof.Rows L2 BB He PG LB
def topS (i : Nat) : Stmt := PySem.Challenge.pw_badbytes_k72_formats.main.body.getD i (.Pass ⟨0, 0, 0, 0⟩)
abbrev st_is_int : Stmt := topS 17
theorem sc_is_int : FnScope n_is_int p_is_int (defScope st_is_int) := ⟨rfl, rfl, rfl, by decide +kernel, rfl, by decide +kernel, by decide +kernel⟩
theorem bi_is_int : ∀ (kV doc pm : Value) (an : Option Addr) (cdv ct : Value) (us : List Value), us.length = p_is_int.length → bindArgs (PySem.W.fnOf "is_int" "is_int" (defArgs st_is_int) (defBody st_is_int) (defScope st_is_int) .none kV doc pm an cdv ct) ⟨us, []⟩ = pure (p_is_int.zip us) := fun _ _ _ _ _ _ us hl => match us, hl with | [_, _, _], _ => rfl
theorem ms_is_int : mSs b_is_int e_is_int ⟨n_is_int, defScope st_is_int, c_is_int.map (·.1), l_is_int.map (·.1)⟩ (defBody st_is_int) = true := by decide +kernel
abbrev st_is_byte : Stmt := topS 18
theorem sc_is_byte : FnScope n_is_byte p_is_byte (defScope st_is_byte) := ⟨rfl, rfl, rfl, by decide +kernel, rfl, by decide +kernel, by decide +kernel⟩
theorem bi_is_byte : ∀ (kV doc pm : Value) (an : Option Addr) (cdv ct : Value) (us : List Value), us.length = p_is_byte.length → bindArgs (PySem.W.fnOf "is_byte" "is_byte" (defArgs st_is_byte) (defBody st_is_byte) (defScope st_is_byte) .none kV doc pm an cdv ct) ⟨us, []⟩ = pure (p_is_byte.zip us) := fun _ _ _ _ _ _ us hl => match us, hl with | [_], _ => rfl
theorem ms_is_byte : mSs b_is_byte e_is_byte ⟨n_is_byte, defScope st_is_byte, c_is_byte.map (·.1), l_is_byte.map (·.1)⟩ (defBody st_is_byte) = true := by decide +kernel
abbrev st_is_string : Stmt := topS 19
theorem sc_is_string : FnScope n_is_string p_is_string (defScope st_is_string) := ⟨rfl, rfl, rfl, by decide +kernel, rfl, by decide +kernel, by decide +kernel⟩
theorem bi_is_string : ∀ (kV doc pm : Value) (an : Option Addr) (cdv ct : Value) (us : List Value), us.length = p_is_string.length → bindArgs (PySem.W.fnOf "is_string" "is_string" (defArgs st_is_string) (defBody st_is_string) (defScope st_is_string) .none kV doc pm an cdv ct) ⟨us, []⟩ = pure (p_is_string.zip us) := fun _ _ _ _ _ _ us hl => match us, hl with | [_], _ => rfl
theorem ms_is_string : mSs b_is_string e_is_string ⟨n_is_string, defScope st_is_string, c_is_string.map (·.1), l_is_string.map (·.1)⟩ (defBody st_is_string) = true := by decide +kernel
abbrev st_is_code : Stmt := topS 20
theorem sc_is_code : FnScope n_is_code p_is_code (defScope st_is_code) := ⟨rfl, rfl, rfl, by decide +kernel, rfl, by decide +kernel, by decide +kernel⟩
theorem bi_is_code : ∀ (kV doc pm : Value) (an : Option Addr) (cdv ct : Value) (us : List Value), us.length = p_is_code.length → bindArgs (PySem.W.fnOf "is_code" "is_code" (defArgs st_is_code) (defBody st_is_code) (defScope st_is_code) .none kV doc pm an cdv ct) ⟨us, []⟩ = pure (p_is_code.zip us) := fun _ _ _ _ _ _ us hl => match us, hl with | [_], _ => rfl
theorem ms_is_code : mSs b_is_code e_is_code ⟨n_is_code, defScope st_is_code, c_is_code.map (·.1), l_is_code.map (·.1)⟩ (defBody st_is_code) = true := by decide +kernel
abbrev st_is_item : Stmt := topS 21
theorem sc_is_item : FnScope n_is_item p_is_item (defScope st_is_item) := ⟨rfl, rfl, rfl, by decide +kernel, rfl, by decide +kernel, by decide +kernel⟩
theorem bi_is_item : ∀ (kV doc pm : Value) (an : Option Addr) (cdv ct : Value) (us : List Value), us.length = p_is_item.length → bindArgs (PySem.W.fnOf "is_item" "is_item" (defArgs st_is_item) (defBody st_is_item) (defScope st_is_item) .none kV doc pm an cdv ct) ⟨us, []⟩ = pure (p_is_item.zip us) := fun _ _ _ _ _ _ us hl => match us, hl with | [_], _ => rfl
theorem ms_is_item : mSs b_is_item e_is_item ⟨n_is_item, defScope st_is_item, c_is_item.map (·.1), l_is_item.map (·.1)⟩ (defBody st_is_item) = true := by decide +kernel
abbrev st_check_string : Stmt := topS 23
theorem sc_check_string : FnScope n_check_string p_check_string (defScope st_check_string) := ⟨rfl, rfl, rfl, by decide +kernel, rfl, by decide +kernel, by decide +kernel⟩
theorem bi_check_string : ∀ (kV doc pm : Value) (an : Option Addr) (cdv ct : Value) (us : List Value), us.length = p_check_string.length → bindArgs (PySem.W.fnOf "check_string" "check_string" (defArgs st_check_string) (defBody st_check_string) (defScope st_check_string) .none kV doc pm an cdv ct) ⟨us, []⟩ = pure (p_check_string.zip us) := fun _ _ _ _ _ _ us hl => match us, hl with | [_], _ => rfl
theorem ms_check_string : mSs b_check_string e_check_string ⟨n_check_string, defScope st_check_string, c_check_string.map (·.1), l_check_string.map (·.1)⟩ (defBody st_check_string) = true := by decide +kernel
abbrev st_digits : Stmt := topS 29
theorem sc_digits : FnScope n_digits p_digits (defScope st_digits) := ⟨rfl, rfl, rfl, by decide +kernel, rfl, by decide +kernel, by decide +kernel⟩
theorem bi_digits : ∀ (kV doc pm : Value) (an : Option Addr) (cdv ct : Value) (us : List Value), us.length = p_digits.length → bindArgs (PySem.W.fnOf "digits" "digits" (defArgs st_digits) (defBody st_digits) (defScope st_digits) .none kV doc pm an cdv ct) ⟨us, []⟩ = pure (p_digits.zip us) := fun _ _ _ _ _ _ us hl => match us, hl with | [_, _, _], _ => rfl
theorem ms_digits : mSs b_digits e_digits ⟨n_digits, defScope st_digits, c_digits.map (·.1), l_digits.map (·.1)⟩ (defBody st_digits) = true := by decide +kernel
abbrev st_number_of : Stmt := topS 30
theorem sc_number_of : FnScope n_number_of p_number_of (defScope st_number_of) := ⟨rfl, rfl, rfl, by decide +kernel, rfl, by decide +kernel, by decide +kernel⟩
theorem bi_number_of : ∀ (kV doc pm : Value) (an : Option Addr) (cdv ct : Value) (us : List Value), us.length = p_number_of.length → bindArgs (PySem.W.fnOf "number_of" "number_of" (defArgs st_number_of) (defBody st_number_of) (defScope st_number_of) .none kV doc pm an cdv ct) ⟨us, []⟩ = pure (p_number_of.zip us) := fun _ _ _ _ _ _ us hl => match us, hl with | [_, _], _ => rfl
theorem ms_number_of : mSs b_number_of e_number_of ⟨n_number_of, defScope st_number_of, c_number_of.map (·.1), l_number_of.map (·.1)⟩ (defBody st_number_of) = true := by decide +kernel
abbrev st_format_string : Stmt := topS 31
theorem sc_format_string : FnScope n_format_string p_format_string (defScope st_format_string) := ⟨rfl, rfl, rfl, by decide +kernel, rfl, by decide +kernel, by decide +kernel⟩
theorem bi_format_string : ∀ (kV doc pm : Value) (an : Option Addr) (cdv ct : Value) (us : List Value), us.length = p_format_string.length → bindArgs (PySem.W.fnOf "format_string" "format_string" (defArgs st_format_string) (defBody st_format_string) (defScope st_format_string) .none kV doc pm an cdv ct) ⟨us, []⟩ = pure (p_format_string.zip us) := fun _ _ _ _ _ _ us hl => match us, hl with | [_], _ => rfl
theorem ms_format_string : mSs b_format_string e_format_string ⟨n_format_string, defScope st_format_string, c_format_string.map (·.1), l_format_string.map (·.1)⟩ (defBody st_format_string) = true := by decide +kernel
abbrev st_words : Stmt := topS 32
theorem sc_words : FnScope n_words p_words (defScope st_words) := ⟨rfl, rfl, rfl, by decide +kernel, rfl, by decide +kernel, by decide +kernel⟩
theorem bi_words : ∀ (kV doc pm : Value) (an : Option Addr) (cdv ct : Value) (us : List Value), us.length = p_words.length → bindArgs (PySem.W.fnOf "words" "words" (defArgs st_words) (defBody st_words) (defScope st_words) .none kV doc pm an cdv ct) ⟨us, []⟩ = pure (p_words.zip us) := fun _ _ _ _ _ _ us hl => match us, hl with | [_], _ => rfl
theorem ms_words : mSs b_words e_words ⟨n_words, defScope st_words, c_words.map (·.1), l_words.map (·.1)⟩ (defBody st_words) = true := by decide +kernel
abbrev st_parse_string : Stmt := topS 33
theorem sc_parse_string : FnScope n_parse_string p_parse_string (defScope st_parse_string) := ⟨rfl, rfl, rfl, by decide +kernel, rfl, by decide +kernel, by decide +kernel⟩
theorem bi_parse_string : ∀ (kV doc pm : Value) (an : Option Addr) (cdv ct : Value) (us : List Value), us.length = p_parse_string.length → bindArgs (PySem.W.fnOf "parse_string" "parse_string" (defArgs st_parse_string) (defBody st_parse_string) (defScope st_parse_string) .none kV doc pm an cdv ct) ⟨us, []⟩ = pure (p_parse_string.zip us) := fun _ _ _ _ _ _ us hl => match us, hl with | [_], _ => rfl
theorem ms_parse_string : mSs b_parse_string e_parse_string ⟨n_parse_string, defScope st_parse_string, c_parse_string.map (·.1), l_parse_string.map (·.1)⟩ (defBody st_parse_string) = true := by decide +kernel
abbrev st_format_item : Stmt := topS 34
theorem sc_format_item : FnScope n_format_item p_format_item (defScope st_format_item) := ⟨rfl, rfl, rfl, by decide +kernel, rfl, by decide +kernel, by decide +kernel⟩
theorem bi_format_item : ∀ (kV doc pm : Value) (an : Option Addr) (cdv ct : Value) (us : List Value), us.length = p_format_item.length → bindArgs (PySem.W.fnOf "format_item" "format_item" (defArgs st_format_item) (defBody st_format_item) (defScope st_format_item) .none kV doc pm an cdv ct) ⟨us, []⟩ = pure (p_format_item.zip us) := fun _ _ _ _ _ _ us hl => match us, hl with | [_], _ => rfl
theorem ms_format_item : mSs b_format_item e_format_item ⟨n_format_item, defScope st_format_item, c_format_item.map (·.1), l_format_item.map (·.1)⟩ (defBody st_format_item) = true := by decide +kernel
abbrev st_format_items : Stmt := topS 35
theorem sc_format_items : FnScope n_format_items p_format_items (defScope st_format_items) := ⟨rfl, rfl, rfl, by decide +kernel, rfl, by decide +kernel, by decide +kernel⟩
theorem bi_format_items : ∀ (kV doc pm : Value) (an : Option Addr) (cdv ct : Value) (us : List Value), us.length = p_format_items.length → bindArgs (PySem.W.fnOf "format_items" "format_items" (defArgs st_format_items) (defBody st_format_items) (defScope st_format_items) .none kV doc pm an cdv ct) ⟨us, []⟩ = pure (p_format_items.zip us) := fun _ _ _ _ _ _ us hl => match us, hl with | [_], _ => rfl
theorem ms_format_items : mSs b_format_items e_format_items ⟨n_format_items, defScope st_format_items, c_format_items.map (·.1), l_format_items.map (·.1)⟩ (defBody st_format_items) = true := by decide +kernel
abbrev st_parse_item : Stmt := topS 36
theorem sc_parse_item : FnScope n_parse_item p_parse_item (defScope st_parse_item) := ⟨rfl, rfl, rfl, by decide +kernel, rfl, by decide +kernel, by decide +kernel⟩
theorem bi_parse_item : ∀ (kV doc pm : Value) (an : Option Addr) (cdv ct : Value) (us : List Value), us.length = p_parse_item.length → bindArgs (PySem.W.fnOf "parse_item" "parse_item" (defArgs st_parse_item) (defBody st_parse_item) (defScope st_parse_item) .none kV doc pm an cdv ct) ⟨us, []⟩ = pure (p_parse_item.zip us) := fun _ _ _ _ _ _ us hl => match us, hl with | [_], _ => rfl
theorem ms_parse_item : mSs b_parse_item e_parse_item ⟨n_parse_item, defScope st_parse_item, c_parse_item.map (·.1), l_parse_item.map (·.1)⟩ (defBody st_parse_item) = true := by decide +kernel
abbrev st_parse_items : Stmt := topS 37
theorem sc_parse_items : FnScope n_parse_items p_parse_items (defScope st_parse_items) := ⟨rfl, rfl, rfl, by decide +kernel, rfl, by decide +kernel, by decide +kernel⟩
theorem bi_parse_items : ∀ (kV doc pm : Value) (an : Option Addr) (cdv ct : Value) (us : List Value), us.length = p_parse_items.length → bindArgs (PySem.W.fnOf "parse_items" "parse_items" (defArgs st_parse_items) (defBody st_parse_items) (defScope st_parse_items) .none kV doc pm an cdv ct) ⟨us, []⟩ = pure (p_parse_items.zip us) := fun _ _ _ _ _ _ us hl => match us, hl with | [_], _ => rfl
theorem ms_parse_items : mSs b_parse_items e_parse_items ⟨n_parse_items, defScope st_parse_items, c_parse_items.map (·.1), l_parse_items.map (·.1)⟩ (defBody st_parse_items) = true := by decide +kernel
abbrev st__law_pick : Stmt := topS 39
theorem sc__law_pick : FnScope n__law_pick p__law_pick (defScope st__law_pick) := ⟨rfl, rfl, rfl, by decide +kernel, rfl, by decide +kernel, by decide +kernel⟩
theorem bi__law_pick : ∀ (kV doc pm : Value) (an : Option Addr) (cdv ct : Value) (us : List Value), us.length = p__law_pick.length → bindArgs (PySem.W.fnOf "_law_pick" "_law_pick" (defArgs st__law_pick) (defBody st__law_pick) (defScope st__law_pick) .none kV doc pm an cdv ct) ⟨us, []⟩ = pure (p__law_pick.zip us) := fun _ _ _ _ _ _ us hl => match us, hl with | [_, _, _], _ => rfl
theorem ms__law_pick : mSs b__law_pick e__law_pick ⟨n__law_pick, defScope st__law_pick, c__law_pick.map (·.1), l__law_pick.map (·.1)⟩ (defBody st__law_pick) = true := by decide +kernel
abbrev st__law_string : Stmt := topS 40
theorem sc__law_string : FnScope n__law_string p__law_string (defScope st__law_string) := ⟨rfl, rfl, rfl, by decide +kernel, rfl, by decide +kernel, by decide +kernel⟩
theorem bi__law_string : ∀ (kV doc pm : Value) (an : Option Addr) (cdv ct : Value) (us : List Value), us.length = p__law_string.length → bindArgs (PySem.W.fnOf "_law_string" "_law_string" (defArgs st__law_string) (defBody st__law_string) (defScope st__law_string) .none kV doc pm an cdv ct) ⟨us, []⟩ = pure (p__law_string.zip us) := fun _ _ _ _ _ _ us hl => match us, hl with | [_, _, _], _ => rfl
theorem ms__law_string : mSs b__law_string e__law_string ⟨n__law_string, defScope st__law_string, c__law_string.map (·.1), l__law_string.map (·.1)⟩ (defBody st__law_string) = true := by decide +kernel
abbrev st__law_code : Stmt := topS 41
theorem sc__law_code : FnScope n__law_code p__law_code (defScope st__law_code) := ⟨rfl, rfl, rfl, by decide +kernel, rfl, by decide +kernel, by decide +kernel⟩
theorem bi__law_code : ∀ (kV doc pm : Value) (an : Option Addr) (cdv ct : Value) (us : List Value), us.length = p__law_code.length → bindArgs (PySem.W.fnOf "_law_code" "_law_code" (defArgs st__law_code) (defBody st__law_code) (defScope st__law_code) .none kV doc pm an cdv ct) ⟨us, []⟩ = pure (p__law_code.zip us) := fun _ _ _ _ _ _ us hl => match us, hl with | [_, _], _ => rfl
theorem ms__law_code : mSs b__law_code e__law_code ⟨n__law_code, defScope st__law_code, c__law_code.map (·.1), l__law_code.map (·.1)⟩ (defBody st__law_code) = true := by decide +kernel
abbrev st__law_class : Stmt := topS 42
def n__law_class : List Str := ["error", "kinds", "names"]
def p__law_class : List Str := ["error"]
theorem sc__law_class : FnScope n__law_class p__law_class (defScope st__law_class) := ⟨rfl, rfl, rfl, by decide +kernel, rfl, by decide +kernel, by decide +kernel⟩
theorem bi__law_class : ∀ (kV doc pm : Value) (an : Option Addr) (cdv ct : Value) (us : List Value), us.length = p__law_class.length → bindArgs (PySem.W.fnOf "_law_class" "_law_class" (defArgs st__law_class) (defBody st__law_class) (defScope st__law_class) .none kV doc pm an cdv ct) ⟨us, []⟩ = pure (p__law_class.zip us) := fun _ _ _ _ _ _ us hl => match us, hl with | [_], _ => rfl
theorem mk__law_class : mKinds n__law_class (defScope st__law_class) ["InvalidDecoder", "InvalidString"] ["InvalidNumber", "InvalidPlace"] ["InvalidCode", "InvalidItems"] ["NotClean", "NothingToUndo"] ["ParseError", "TooLarge"] ["InvalidDecoder", "InvalidString", "InvalidNumber", "InvalidPlace", "InvalidCode"] ["InvalidItems", "NotClean", "NothingToUndo", "ParseError", "TooLarge"] (defBody st__law_class) = true := by decide +kernel
abbrev st__law_result : Stmt := topS 43
def n__law_result : List Str := ["call", "error"]
def p__law_result : List Str := ["call"]
theorem sc__law_result : FnScope n__law_result p__law_result (defScope st__law_result) := ⟨rfl, rfl, rfl, by decide +kernel, rfl, by decide +kernel, by decide +kernel⟩
theorem bi__law_result : ∀ (kV doc pm : Value) (an : Option Addr) (cdv ct : Value) (us : List Value), us.length = p__law_result.length → bindArgs (PySem.W.fnOf "_law_result" "_law_result" (defArgs st__law_result) (defBody st__law_result) (defScope st__law_result) .none kV doc pm an cdv ct) ⟨us, []⟩ = pure (p__law_result.zip us) := fun _ _ _ _ _ _ us hl => match us, hl with | [_], _ => rfl
theorem mk__law_result : mResult n__law_result (defScope st__law_result) "_law_class" (defBody st__law_result) = true := by decide +kernel
abbrev st__law_all : Stmt := topS 44
def n__law_all : List Str := ["calls", "name", "call"]
def p__law_all : List Str := ["calls", "name"]
theorem sc__law_all : FnScope n__law_all p__law_all (defScope st__law_all) := ⟨rfl, rfl, rfl, by decide +kernel, rfl, by decide +kernel, by decide +kernel⟩
theorem bi__law_all : ∀ (kV doc pm : Value) (an : Option Addr) (cdv ct : Value) (us : List Value), us.length = p__law_all.length → bindArgs (PySem.W.fnOf "_law_all" "_law_all" (defArgs st__law_all) (defBody st__law_all) (defScope st__law_all) .none kV doc pm an cdv ct) ⟨us, []⟩ = pure (p__law_all.zip us) := fun _ _ _ _ _ _ us hl => match us, hl with | [_, _], _ => rfl
theorem mk__law_all : mAll n__law_all (defScope st__law_all) "_law_result" (defBody st__law_all) = true := by decide +kernel
abbrev st__law_sixteen : Stmt := topS 45
theorem sc__law_sixteen : FnScope n__law_sixteen p__law_sixteen (defScope st__law_sixteen) := ⟨rfl, rfl, rfl, by decide +kernel, rfl, by decide +kernel, by decide +kernel⟩
theorem bi__law_sixteen : ∀ (kV doc pm : Value) (an : Option Addr) (cdv ct : Value) (us : List Value), us.length = p__law_sixteen.length → bindArgs (PySem.W.fnOf "_law_sixteen" "_law_sixteen" (defArgs st__law_sixteen) (defBody st__law_sixteen) (defScope st__law_sixteen) .none kV doc pm an cdv ct) ⟨us, []⟩ = pure (p__law_sixteen.zip us) := fun _ _ _ _ _ _ us hl => match us, hl with | [_, _, _], _ => rfl
theorem ms__law_sixteen : mSs b__law_sixteen e__law_sixteen ⟨n__law_sixteen, defScope st__law_sixteen, c__law_sixteen.map (·.1), l__law_sixteen.map (·.1)⟩ (defBody st__law_sixteen) = true := by decide +kernel
abbrev st__law_written : Stmt := topS 46
theorem sc__law_written : FnScope n__law_written p__law_written (defScope st__law_written) := ⟨rfl, rfl, rfl, by decide +kernel, rfl, by decide +kernel, by decide +kernel⟩
theorem bi__law_written : ∀ (kV doc pm : Value) (an : Option Addr) (cdv ct : Value) (us : List Value), us.length = p__law_written.length → bindArgs (PySem.W.fnOf "_law_written" "_law_written" (defArgs st__law_written) (defBody st__law_written) (defScope st__law_written) .none kV doc pm an cdv ct) ⟨us, []⟩ = pure (p__law_written.zip us) := fun _ _ _ _ _ _ us hl => match us, hl with | [_], _ => rfl
theorem ms__law_written : mSs b__law_written e__law_written ⟨n__law_written, defScope st__law_written, c__law_written.map (·.1), l__law_written.map (·.1)⟩ (defBody st__law_written) = true := by decide +kernel
abbrev st_law : Stmt := topS 47
theorem sc_law : FnScope n_law p_law (defScope st_law) := ⟨rfl, rfl, rfl, by decide +kernel, rfl, by decide +kernel, by decide +kernel⟩
theorem bi_law : ∀ (kV doc pm : Value) (an : Option Addr) (cdv ct : Value) (us : List Value), us.length = p_law.length → bindArgs (PySem.W.fnOf "law" "law" (defArgs st_law) (defBody st_law) (defScope st_law) .none kV doc pm an cdv ct) ⟨us, []⟩ = pure (p_law.zip us) := fun _ _ _ _ _ _ us hl => match us, hl with | [_], _ => rfl
theorem ms_law : mSs b_law e_law ⟨n_law, defScope st_law, c_law.map (·.1), l_law.map (·.1)⟩ (defBody st_law) = true := by decide +kernel
/-! #### the head -/
def kp0 : List Str := ["is_int", "is_byte", "is_string", "is_code", "is_item", "check_string", "digits", "number_of", "format_string", "words", "parse_string", "format_item", "format_items", "parse_item", "parse_items", "_law_pick", "_law_string", "_law_code", "_law_class", "_law_result", "_law_all", "_law_sixteen", "_law_written", "law"]
def facts : Facts := { glos := [("MAX_STRING", g_MAX_STRING), ("MAX_CODE", g_MAX_CODE), ("FIRST_CONTINUATION", g_FIRST_CONTINUATION), ("REPLACEMENT", g_REPLACEMENT), ("SMALL", g_SMALL), ("LARGE", g_LARGE), ("BASE", g_BASE), ("CODE_DIGITS", g_CODE_DIGITS)], frees := ["ValueError", "len", "all", "any", "max", "min", "sum", "list", "tuple", "sorted", "range", "zip", "enumerate", "isinstance", "int", "bool", "str"], excs := ["InvalidString", "ParseError", "InvalidItems", "InvalidDecoder", "InvalidNumber", "InvalidPlace", "InvalidCode", "NotClean", "NothingToUndo", "TooLarge"], isas := [], keeps := kp0 }
def fnL : List FnD := [fnD "is_int" st_is_int, fnD "is_byte" st_is_byte, fnD "is_string" st_is_string, fnD "is_code" st_is_code, fnD "is_item" st_is_item, fnD "check_string" st_check_string, fnD "digits" st_digits, fnD "number_of" st_number_of, fnD "format_string" st_format_string, fnD "words" st_words, fnD "parse_string" st_parse_string, fnD "format_item" st_format_item, fnD "format_items" st_format_items, fnD "parse_item" st_parse_item, fnD "parse_items" st_parse_items, fnD "_law_pick" st__law_pick, fnD "_law_string" st__law_string, fnD "_law_code" st__law_code, fnD "_law_class" st__law_class, fnD "_law_result" st__law_result, fnD "_law_all" st__law_all, fnD "_law_sixteen" st__law_sixteen, fnD "_law_written" st__law_written, fnD "law" st_law]
section
variable {P : Program} {w : World} {K : Frag} {mg : Str → Option Value} {base : Heap}
theorem blf : ∀ x, x ∈ blts → x ∈ facts.frees := by decide +kernel
theorem ok_is_int (T : Top facts fnL K mg) : FOk P w K mg base "is_int" 3 1 r_is_int := def_rule (k := 0) T 0 rfl (by decide +kernel) sc_is_int bi_is_int fo_nil (fun p hp => by cases hp) blf (by decide +kernel) ms_is_int
theorem ok_is_byte (T : Top facts fnL K mg) : FOk P w K mg base "is_byte" 1 2 r_is_byte := def_rule (k := 1) T 1 rfl (by decide +kernel) sc_is_byte bi_is_byte (fo_cons (ok_is_int T) fo_nil) (fun p hp => by cases hp) blf (by decide +kernel) ms_is_byte
theorem ok_is_string (T : Top facts fnL K mg) : FOk P w K mg base "is_string" 1 3 r_is_string := def_rule (k := 2) T 2 rfl (by decide +kernel) sc_is_string bi_is_string (fo_cons (ok_is_byte T) fo_nil) ((by intro p hp; simp only [l_is_string, List.mem_cons, List.not_mem_nil, or_false] at hp; simp only [facts, List.mem_cons]; rcases hp with rfl <;> simp)) blf (by decide +kernel) ms_is_string
theorem ok_is_code (T : Top facts fnL K mg) : FOk P w K mg base "is_code" 1 2 r_is_code := def_rule (k := 1) T 3 rfl (by decide +kernel) sc_is_code bi_is_code (fo_cons (ok_is_int T) fo_nil) ((by intro p hp; simp only [l_is_code, List.mem_cons, List.not_mem_nil, or_false] at hp; simp only [facts, List.mem_cons]; rcases hp with rfl <;> simp)) blf (by decide +kernel) ms_is_code
theorem ok_is_item (T : Top facts fnL K mg) : FOk P w K mg base "is_item" 1 3 r_is_item := def_rule (k := 2) T 4 rfl (by decide +kernel) sc_is_item bi_is_item (fo_cons (ok_is_code T) (fo_cons (ok_is_int T) fo_nil)) ((by intro p hp; simp only [l_is_item, List.mem_cons, List.not_mem_nil, or_false] at hp; simp only [facts, List.mem_cons]; rcases hp with rfl | rfl <;> simp)) blf (by decide +kernel) ms_is_item
theorem ok_check_string (T : Top facts fnL K mg) : FOk P w K mg base "check_string" 1 4 r_check_string := def_rule (k := 3) T 5 rfl (by decide +kernel) sc_check_string bi_check_string (fo_cons (ok_is_string T) fo_nil) (fun p hp => by cases hp) blf (by decide +kernel) ms_check_string
theorem ok_digits (T : Top facts fnL K mg) : FOk P w K mg base "digits" 3 1 r_digits := def_rule (k := 0) T 6 rfl (by decide +kernel) sc_digits bi_digits fo_nil ((by intro p hp; simp only [l_digits, List.mem_cons, List.not_mem_nil, or_false] at hp; simp only [facts, List.mem_cons]; rcases hp with rfl <;> simp)) blf (by decide +kernel) ms_digits
theorem ok_number_of (T : Top facts fnL K mg) : FOk P w K mg base "number_of" 2 1 r_number_of := def_rule (k := 0) T 7 rfl (by decide +kernel) sc_number_of bi_number_of fo_nil ((by intro p hp; simp only [l_number_of, List.mem_cons, List.not_mem_nil, or_false] at hp; simp only [facts, List.mem_cons]; rcases hp with rfl <;> simp)) blf (by decide +kernel) ms_number_of
theorem ok_format_string (T : Top facts fnL K mg) : FOk P w K mg base "format_string" 1 5 r_format_string := def_rule (k := 4) T 8 rfl (by decide +kernel) sc_format_string bi_format_string (fo_cons (ok_check_string T) (fo_cons (ok_digits T) fo_nil)) ((by intro p hp; simp only [l_format_string, List.mem_cons, List.not_mem_nil, or_false] at hp; simp only [facts, List.mem_cons]; rcases hp with rfl <;> simp)) blf (by decide +kernel) ms_format_string
theorem ok_words (T : Top facts fnL K mg) : FOk P w K mg base "words" 1 1 r_words := def_rule (k := 0) T 9 rfl (by decide +kernel) sc_words bi_words fo_nil (fun p hp => by cases hp) blf (by decide +kernel) ms_words
theorem ok_parse_string (T : Top facts fnL K mg) : FOk P w K mg base "parse_string" 1 2 r_parse_string := def_rule (k := 1) T 10 rfl (by decide +kernel) sc_parse_string bi_parse_string (fo_cons (ok_words T) (fo_cons (ok_number_of T) fo_nil)) ((by intro p hp; simp only [l_parse_string, List.mem_cons, List.not_mem_nil, or_false] at hp; simp only [facts, List.mem_cons]; rcases hp with rfl | rfl <;> simp)) blf (by decide +kernel) ms_parse_string
theorem ok_format_item (T : Top facts fnL K mg) : FOk P w K mg base "format_item" 1 2 r_format_item := def_rule (k := 1) T 11 rfl (by decide +kernel) sc_format_item bi_format_item (fo_cons (ok_digits T) fo_nil) ((by intro p hp; simp only [l_format_item, List.mem_cons, List.not_mem_nil, or_false] at hp; simp only [facts, List.mem_cons]; rcases hp with rfl | rfl | rfl <;> simp)) blf (by decide +kernel) ms_format_item
theorem ok_format_items (T : Top facts fnL K mg) : FOk P w K mg base "format_items" 1 4 r_format_items := def_rule (k := 3) T 12 rfl (by decide +kernel) sc_format_items bi_format_items (fo_cons (ok_is_item T) (fo_cons (ok_format_item T) fo_nil)) ((by intro p hp; simp only [l_format_items, List.mem_cons, List.not_mem_nil, or_false] at hp; simp only [facts, List.mem_cons]; rcases hp with rfl <;> simp)) blf (by decide +kernel) ms_format_items
theorem ok_parse_item (T : Top facts fnL K mg) : FOk P w K mg base "parse_item" 1 4 r_parse_item := def_rule (k := 3) T 13 rfl (by decide +kernel) sc_parse_item bi_parse_item (fo_cons (ok_number_of T) (fo_cons (ok_is_item T) (fo_cons (ok_format_item T) fo_nil))) ((by intro p hp; simp only [l_parse_item, List.mem_cons, List.not_mem_nil, or_false] at hp; simp only [facts, List.mem_cons]; rcases hp with rfl | rfl | rfl <;> simp)) blf (by decide +kernel) ms_parse_item
theorem ok_parse_items (T : Top facts fnL K mg) : FOk P w K mg base "parse_items" 1 5 r_parse_items := def_rule (k := 4) T 14 rfl (by decide +kernel) sc_parse_items bi_parse_items (fo_cons (ok_words T) (fo_cons (ok_parse_item T) fo_nil)) ((by intro p hp; simp only [l_parse_items, List.mem_cons, List.not_mem_nil, or_false] at hp; simp only [facts, List.mem_cons]; rcases hp with rfl <;> simp)) blf (by decide +kernel) ms_parse_items
theorem ok__law_pick (T : Top facts fnL K mg) : FOk P w K mg base "_law_pick" 3 1 r__law_pick := def_rule (k := 0) T 15 rfl (by decide +kernel) sc__law_pick bi__law_pick fo_nil (fun p hp => by cases hp) blf (by decide +kernel) ms__law_pick
theorem ok__law_string (T : Top facts fnL K mg) : FOk P w K mg base "_law_string" 3 2 r__law_string := def_rule (k := 1) T 16 rfl (by decide +kernel) sc__law_string bi__law_string (fo_cons (ok__law_pick T) fo_nil) (fun p hp => by cases hp) blf (by decide +kernel) ms__law_string
theorem ok__law_code (T : Top facts fnL K mg) : FOk P w K mg base "_law_code" 2 2 r__law_code := def_rule (k := 1) T 17 rfl (by decide +kernel) sc__law_code bi__law_code (fo_cons (ok__law_pick T) fo_nil) (fun p hp => by cases hp) blf (by decide +kernel) ms__law_code
theorem ok__law_sixteen (T : Top facts fnL K mg) : FOk P w K mg base "_law_sixteen" 3 1 r__law_sixteen := def_rule (k := 0) T 21 rfl (by decide +kernel) sc__law_sixteen bi__law_sixteen fo_nil (fun p hp => by cases hp) blf (by decide +kernel) ms__law_sixteen
theorem ok__law_written (T : Top facts fnL K mg) : FOk P w K mg base "_law_written" 1 2 r__law_written := def_rule (k := 1) T 22 rfl (by decide +kernel) sc__law_written bi__law_written (fo_cons (ok__law_sixteen T) fo_nil) (fun p hp => by cases hp) blf (by decide +kernel) ms__law_written
theorem ok__law_class (T : Top facts fnL K mg) (ve : ∀ c, c ∈ lns → PySem.W.kitOne K (.ref (ga K c)) (.type "ValueError") = some true) : ClassOk P w K mg lns "_law_class" (ga K "_law_class") := class_rule T 18 rfl (by decide +kernel) sc__law_class bi__law_class mk__law_class rfl (by decide +kernel) (by decide +kernel) (by decide +kernel) ve (by decide +kernel) rfl (by decide +kernel)
theorem ok__law_result (T : Top facts fnL K mg) (ve : ∀ c, c ∈ lns → PySem.W.kitOne K (.ref (ga K c)) (.type "ValueError") = some true) : ∃ f fd y, FnOk P w K mg base (L2.CX P w) 7 f fd [y] (spR P w K mg base 6 lns) ∧ mg ("_law_result" : Str) = some (.ref f) ∧ PySem.W.keepIn K (.ref f) = true ∧ Binds K fd [y] [] := result_rule (k := 6) T 19 rfl (by decide +kernel) sc__law_result bi__law_result mk__law_result (by decide) (by decide +kernel) (ok__law_class T ve) (by decide)
theorem ok__law_all (T : Top facts fnL K mg) (ve : ∀ c, c ∈ lns → PySem.W.kitOne K (.ref (ga K c)) (.type "ValueError") = some true) : ∃ f fd y1 y2, FnOk P w K mg base (L2.CX P w) 8 f fd [y1, y2] (spA P w K mg base 6 lns) ∧ mg ("_law_all" : Str) = some (.ref f) ∧ PySem.W.keepIn K (.ref f) = true ∧ Binds K fd [y1, y2] [] := all_rule (k := 7) (j := 6) T 20 rfl (by decide +kernel) sc__law_all bi__law_all mk__law_all blf (by decide +kernel) (ok__law_result T ve)
theorem ok_top (T : Top facts fnL K mg) (ve : ∀ c, c ∈ lns → PySem.W.kitOne K (.ref (ga K c)) (.type "ValueError") = some true) : mg "law" = some (.ref (ga K "law")) ∧ ∃ fd : FuncData, (∀ (s : Shared) (us : List Value), us.length = p_law.length → BindsTo s fd ⟨us, []⟩ (p_law.zip us)) ∧ ∀ base : Heap, LamX.TabB base mg (cT K ("law", none)).1 (cT K ("law", none)).2 → FnOk P w K mg base (L2.CX P w) 9 (ga K "law") fd p_law (spL K [((cT K ("law", none)).2, lamN "law")] 1 r_law) := law_ruleL (k := 8) (j := 5) T 23 rfl (by decide +kernel) sc_law bi_law (fun base => (fo_cons (ok__law_string T) (fo_cons (ok__law_pick T) (fo_cons (ok__law_code T) (fo_cons (ok__law_sixteen T) (fo_cons (ok__law_written T) (fo_cons (ok_format_string T) (fo_cons (ok_parse_string T) (fo_cons (ok_format_items T) (fo_cons (ok_parse_items T) fo_nil)))))))))) (fun p hp => by cases hp) blf (by decide +kernel) ms_law (by decide +kernel) (by decide) (fun base => ok__law_all T ve) (fun base => res_mono (ok__law_result T ve) (by decide))
end
abbrev R : PySem.W.OpenRow := PySem.W.OpenLaw.row PySem.Challenge.rw_badbytes_k72_formats
abbrev tf : List He.Defn := [("law", none)]
abbrev hk : PySem.W.Hook := hookL 5 facts fnL tf lns
def ob (s : PySem.W.SharedT) : BB.AlL := obsL 5 facts fnL tf lns (HandSHeadRun.getT s)
theorem ob_eq (s : PySem.W.SharedT) : ob s = hk.obs s.abs := obsL_eq (HandSHeadRun.getT_eq s)
def lo0 : List Str := ["DecodingError", "InvalidCode", "InvalidNumber", "TooLarge", "InvalidItems", "InvalidDecoder", "InvalidString", "InvalidPlace", "NotClean", "NothingToUndo", "ParseError", "MAX_STRING", "MAX_CODE", "FIRST_CONTINUATION", "REPLACEMENT", "is_int", "is_byte", "is_string", "is_code", "is_item", "check_string", "SMALL", "LARGE", "BASE", "CODE_DIGITS", "digits", "number_of", "format_string", "words", "parse_string"]
def lo1 : List Str := ["format_item", "format_items", "parse_item", "parse_items", "_law_pick", "_law_string", "_law_code", "_law_class", "_law_result", "_law_all", "_law_sixteen", "_law_written"]
def loose : List Str := lo0 ++ lo1
def STEPS : Nat := 60000
def LAWAT : Nat := 47
def LEVEL : Nat := 9
set_option maxHeartbeats 0 in
theorem run (w : World) : HandSHeadRun.RunEq R (PySem.W.view R.prog [LAWAT]) hk ob STEPS loose w := by
  intro os
  kernel_rfl
end K72
open PySem PySem.W PySem.Calls PyProof.Rows in
set_option maxHeartbeats 0 in
theorem K72.law_holds (hlaw : ∀ ns : List Int, ns.length ≤ 63 → K72.r_law [.list (ns.map PyData.int)] = .ok (.bool true)) : PySem.Challenge.rw_badbytes_k72_formats.Holds := by
  w_on; o_law
  refine HandSHeadRun.head_any (r := OpenLaw.row PySem.Challenge.rw_badbytes_k72_formats) (q := view (OpenLaw.row PySem.Challenge.rw_badbytes_k72_formats).prog [K72.LAWAT]) (H := K72.hk) (ob := K72.ob) (M := K72.STEPS) (loose := K72.loose) (d := HandSHeadRun.topDef (OpenLaw.row PySem.Challenge.rw_badbytes_k72_formats).prog K72.LAWAT) (kwd := []) K72.ob_eq
    (by kernel_rfl) (fun s => by kernel_rfl) K72.run (by kernel_rfl) (by kernel_rfl) (by kernel_rfl) (by rfl) (by first | assumption | decide +kernel) (by decide +kernel) ⟨rfl, rfl, rfl, rfl, rfl, by decide +kernel⟩ ?hw ?hc
  case hw => w_witness2
  case hc =>
    refine LamX.walk_ofTsE (l := PySem.Challenge.rw_badbytes_k72_formats) (n := 63) (k := K72.LEVEL) (CX := fun w => L2.CX (PySem.Challenge.rw_badbytes_k72_formats).prog w) (x := "script") rfl (by decide) (by kernel_rfl) ⟨rfl, by decide, by decide⟩ ?F ?G
    case G => exact fun w H s e s' z => by obtain ⟨_, _, _, _, _, _, _, _, _, _, _, _, z⟩ := z; exact z.elim
    case F =>
      intro w mg fa h Y G hmg0
      obtain ⟨K, KX, c⟩ := Y
      have hmg : mg ("law" : PySem.Str) = some (.ref fa) := by
        have e : (HandSHeadRun.topDef (OpenLaw.row PySem.Challenge.rw_badbytes_k72_formats).prog K72.LAWAT).name = ("law" : PySem.Str) := by kernel_rfl
        rw [← e]
        exact hmg0
      obtain ⟨e, fd, hb, hF⟩ := K72.ok_top (P := (PySem.Challenge.rw_badbytes_k72_formats).prog) (w := w) ⟨c.c, h, KX, G⟩ c.ve
      have e := hmg.symm.trans e
      cases e
      refine ⟨K, KX, fd, [He.cT K ("law", none)], BB.spL K [((He.cT K ("law", none)).2, BB.lamN "law")] 1 K72.r_law, fun p hp => ?_, fun p hp => ?_, fun p hp => ?_, fun s u => hb s [u] rfl, fun H a ns hl _ hT hS => BB.law_endL c.c (hlaw ns hl) (hT (He.cT K ("law", none)) (by simp)) hS, fun base _ _ TB => hF base (TB (He.cT K ("law", none)) (by simp))⟩
      · simp at hp; subst hp; exact c.empty _ (by simp)
      · simp at hp; subst hp; exact c.out _ (by simp)
      · simp at hp; subst hp; exact PySem.W.codeHd_of_K KX (c.hd _ (by simp))

theorem PySem.Challenge.cw_badbytes_k72_formats_holds : PySem.Challenge.rw_badbytes_k72_formats.Holds := by
  exact K72.law_holds K72.law_ok
