import PyProof.Rows.All
import Wide.All
import OpenK.AllK
import Wide.FinOn
import HandS.ForMost
import HandS.Property
import HandS.FStr
import HandS.IsInst
import HandS.TupAny
import HandS.Deep
import HandS.Dict
import HandS.Lambda
import HandS.HotCalls
import HandS.ExcIs
import HandS.ExcField
import HandS.ExcInit
import HandS.SetFor
import KE.KRevSl
import HandS.SortRule
import HandS.SortInts
import PyProof.InstNe
import KE.KCallOwn
import KE.KOpsOwn
import HandS.Zip
import KE.GoesMore
import HandS.Style
import HandS.EndBits
import HandS.FStrTup
import PySem.Challenge.RW_fewblocks_k04_blocks_refused
set_option Elab.async false
set_option linter.all false
set_option maxRecDepth 100000
set_option maxHeartbeats 4000000
/-! Dn, part A: data, the small language, what it means. -/
namespace Dn
open PySem L2

/-- data, without the heap. cell n: a mutable thing, by its number in the store -/
inductive D where
  | non | bl (b : Bool) | int (i : Int) | str (s : Str)
  | tup (l : List D) | lst (l : List D) | ro (l : List D)
  | obj (c : Nat) (l : List D) | cell (n : Nat) | emp | dkt (ks : List Int) (v : Int)
  deriving Inhabited

inductive MO where
  | lst (l : List D) | ins (c : Nat) (fs : List (Nat × D))
abbrev Mem := List MO
abbrev En := List (Option D)

inductive Bop | add | sub | mul | fdiv | mod | pow | or_ | and_
inductive Cop | eq | ne | lt | le | gt | ge | is_ | isn | in_ | nin
inductive TyK | int | bool | str | tup | lst | cls (c : Nat)
inductive Blt | len | abs | int_ | divmod | sum | max2 | min2 | maxl | minl | tuple | list | sorted | all | any | str | repr | bool
inductive Mth | join | split | partition | append
inductive ItK | val | range1 | range2 | enum | zip

/-- expressions; nil and cons make rows of them -/
inductive IR where
  | nil | cons (a r : IR)
  | var (i : Nat) | cst (d : D) | glob (g : Nat)
  | bin (op : Bop) (a b : IR) | neg (a : IR) | not (a : IR)
  | cmp (op : Cop) (a b : IR) | cmp2 (op op' : Cop) (a b c : IR)
  | and (a b : IR) | or (a b : IR) | ite (c a b : IR)
  | tup (l : IR) | lst (k : Bool) (l : IR)
  | idx (a i : IR) | slice (a lo hi : IR) | rev (a : IR) | stp (a : IR) (b : Bool)
  | attr (a : IR) (f : Nat) | isin (a : IR) (t : TyK)
  | call (f : Nat) (ks : List Nat) (l lk : IR) | make (c : Nat) (ks : List Nat) (l lk : IR)
  | blt (b : Blt) (l : IR) | meth (m : Mth) (o l : IR) | ometh (f : Nat) (ks : List Nat) (o l lk : IR)
  | fstr (l : IR) | fmt (a : IR)
  | comp (k : Bool) (t : List Nat) (tk : Bool) (it : ItK) (src cond e : IR)
  | comp2 (k : Bool) (t : List Nat) (tk : Bool) (it : ItK) (src : IR) (t' : List Nat) (tk' : Bool) (it' : ItK) (src' cond e : IR)
  | caught (e : IR)
  | dict0 | dict1 (ks : List Int) (v : Int)

/-- targets: a name, an item, an attribute, a row of them -/
inductive TG where
  | v (i : Nat) | ix (o i : IR) | fld (o : IR) (f : Nat) | tup (l : TG) | nil | cons (a r : TG)

inductive SR where
  | nil | seq (a r : SR)
  | pass | ret0 | ret (e : IR) | ex (e : IR) | asg (t : TG) (e : IR) | par (is : List Nat) (l : IR)
  | iff (c : IR) (a b : SR) | loop (t : TG) (it : ItK) (src : IR) (b : SR) | while_ (c : IR) (b : SR)
  | never | brk | cnt | raise (c : Nat) (l : IR)

structure ClsD where
  flds : List Nat
  init : Nat
  props : List (Nat × Nat) := []
  meths : List (Nat × Nat) := []
  eqf : Option Nat := none
  strf : Option Nat := none
  reprf : Option Nat := none
  orf : Option Nat := none
  andf : Option Nat := none
  subf : Option Nat := none
  inf : Option Nat := none
structure FnD where
  np : Nat
  ns : Nat
  dflt : List D := []
  keep : Bool := false
  lam : Bool := false
  body : SR
/-- an own exception class: its fields, its number in the law's list -/
structure XcD where
  flds : List Nat
  sort : Int
structure Tab where
  fns : List FnD
  cls : List ClsD
  globs : List D
  xcs : List XcD := []
/-- an exception: its class, its fields -/
abbrev Xn := Nat × List D

abbrev Rs (α : Type) := Option (α × Mem)
def bnd {α β : Type} (m : Rs α) (k : α → Mem → Rs β) : Rs β := match m with
  | none => none
  | some (a, M) => k a M
@[simp] theorem bnd_some {α β : Type} (a : α) (M : Mem) (k : α → Mem → Rs β) : bnd (some (a, M)) k = k a M := rfl
@[simp] theorem bnd_none {α β : Type} (k : α → Mem → Rs β) : bnd (none : Rs α) k = none := rfl
def lft {α : Type} (o : Option α) (M : Mem) : Rs α := match o with
  | none => none
  | some a => some (a, M)
@[simp] theorem lft_some {α : Type} (a : α) (M : Mem) : lft (some a) M = some (a, M) := rfl
@[simp] theorem lft_none {α : Type} (M : Mem) : lft (none : Option α) M = none := rfl

/-! ### data: no cell from n on; as the library's data -/
mutual
def below (n : Nat) : D → Bool
  | .tup l => belowL n l
  | .lst l => belowL n l
  | .ro l => belowL n l
  | .obj _ l => belowL n l
  | .cell i => decide (i < n)
  | .non | .bl _ | .int _ | .str _ | .emp | .dkt _ _ => true
def belowL (n : Nat) : List D → Bool
  | [] => true
  | x :: r => below n x && belowL n r
end
mutual
def toPy : D → Option PyData
  | .non => some .none
  | .bl b => some (.bool b)
  | .int i => some (.int i)
  | .str s => some (.str s)
  | .tup l => (toPyL l).map .tuple
  | .lst l => (toPyL l).map .list
  | .ro l => (toPyL l).map .list
  | .obj _ _ => none
  | .cell _ => none
  | .emp => none
  | .dkt _ _ => none
def toPyL : List D → Option (List PyData)
  | [] => some []
  | x :: r => match toPy x with
    | none => none
    | some a => (toPyL r).map (a :: ·)
end
/-! the same with dicts: to be shown only -/
mutual
def toPyR : D → Option PyData
  | .non => some .none
  | .bl b => some (.bool b)
  | .int i => some (.int i)
  | .str s => some (.str s)
  | .tup l => (toPyRL l).map .tuple
  | .lst l => (toPyRL l).map .list
  | .ro l => (toPyRL l).map .list
  | .obj _ _ => none
  | .cell _ => none
  | .emp => some (.dict [])
  | .dkt ks v => some (.dict [(.tuple (ks.map .int), .int v)])
def toPyRL : List D → Option (List PyData)
  | [] => some []
  | x :: r => match toPyR x with
    | none => none
    | some a => (toPyRL r).map (a :: ·)
end
mutual
theorem toPyR_of : ∀ {d : D} {p : PyData}, toPy d = some p → toPyR d = some p
  | .non, _, h => h
  | .bl _, _, h => h
  | .int _, _, h => h
  | .str _, _, h => h
  | .tup l, p, h => by
    simp only [toPy] at h
    cases q : toPyL l with
    | none => rw [q] at h; cases h
    | some ps => rw [q] at h; simp only [toPyR, toPyRL_of q]; exact h
  | .lst l, p, h => by
    simp only [toPy] at h
    cases q : toPyL l with
    | none => rw [q] at h; cases h
    | some ps => rw [q] at h; simp only [toPyR, toPyRL_of q]; exact h
  | .ro l, p, h => by
    simp only [toPy] at h
    cases q : toPyL l with
    | none => rw [q] at h; cases h
    | some ps => rw [q] at h; simp only [toPyR, toPyRL_of q]; exact h
  | .obj _ _, _, h => by simp only [toPy] at h; cases h
  | .cell _, _, h => by simp only [toPy] at h; cases h
  | .emp, _, h => by simp only [toPy] at h; cases h
  | .dkt _ _, _, h => by simp only [toPy] at h; cases h
theorem toPyRL_of : ∀ {l : List D} {ps : List PyData}, toPyL l = some ps → toPyRL l = some ps
  | [], _, h => h
  | x :: r, ps, h => by
    simp only [toPyL] at h
    cases q : toPy x with
    | none => rw [q] at h; cases h
    | some a =>
      rw [q] at h
      simp only at h
      cases q2 : toPyL r with
      | none => rw [q2] at h; cases h
      | some as =>
        rw [q2] at h
        simp only [toPyRL, toPyR_of q, toPyRL_of q2]
        exact h
end
def mbelow (n : Nat) : MO → Bool
  | .lst l => belowL n l
  | .ins _ fs => belowL n (fs.map (·.2))

/-- the items of what is walked by a list, a tuple, a cell's list -/
def seqD (M : Mem) : D → Option (List D)
  | .tup l => some l
  | .lst l => some l
  | .ro l => some l
  | .cell n => match M[n]? with
    | some (.lst l) => some l
    | _ => none
  | _ => none
/-- the items of what may be walked in a loop (no cell: that may change) -/
def itemsD : D → Option (List D)
  | .tup l => some l
  | .lst l => some l
  | .ro l => some l
  | .str s => some (s.cps.toList.map fun c => .str ⟨#[c]⟩)
  | _ => none
def truD (M : Mem) : D → Option Bool
  | .non => some false
  | .bl b => some b
  | .int i => some (i != 0)
  | .str s => some (!s.cps.toList.isEmpty)
  | .obj _ _ => some true
  | d => (seqD M d).map fun l => !l.isEmpty
def boolsD : List D → Option (List Bool)
  | [] => some []
  | .bl b :: r => (boolsD r).map (b :: ·)
  | _ => none
def intsD : List D → Option (List Int)
  | [] => some []
  | .int i :: r => (intsD r).map (i :: ·)
  | _ => none
def strsD : List D → Option (List Str)
  | [] => some []
  | .str s :: r => (strsD r).map (s :: ·)
  | _ => none
def pairsD : List D → Option (List (Int × Int))
  | [] => some []
  | .tup [.int i, .int j] :: r => (pairsD r).map ((i, j) :: ·)
  | _ => none
def ltP (p q : Int × Int) : Bool := if p.1 = q.1 then decide (p.2 < q.2) else decide (p.1 < q.1)
def insP (x : Int × Int) : List (Int × Int) → List (Int × Int)
  | [] => [x]
  | y :: r => if ltP y x then y :: insP x r else x :: y :: r
def sortP : List (Int × Int) → List (Int × Int)
  | [] => []
  | x :: r => insP x (sortP r)
def insI (x : Int) : List Int → List Int
  | [] => [x]
  | y :: r => if y < x then y :: insI x r else x :: y :: r
def sortI : List Int → List Int
  | [] => []
  | x :: r => insI x (sortI r)
def sortD (l : List D) : Option (List D) := match intsD l with
  | some ns => some ((sortI ns).map .int)
  | none => (pairsD l).map fun ps => (sortP ps).map fun p => .tup [.int p.1, .int p.2]
def maxI : List Int → Option Int
  | [] => none
  | [x] => some x
  | x :: r => (maxI r).map fun m => if x < m then m else x
def minI : List Int → Option Int
  | [] => none
  | [x] => some x
  | x :: r => (minI r).map fun m => if m < x then m else x
def atD (l : List D) (i : Int) : Option D := L2.atI l i
def cutD (l : List D) (lo hi : Option Int) : List D := (l.drop (HT.sIx l.length 0 lo)).take (HT.sIx l.length l.length hi - HT.sIx l.length 0 lo)
def toStr (i : Int) : Str := Str.ofString (toString i)
end Dn

set_option Elab.async false
set_option linter.all false
set_option maxRecDepth 100000
set_option maxHeartbeats 4000000
/-! Dn, part B: what the small language means. -/
namespace Dn
open PySem L2

structure Cfg where
  T : Tab
  cf : Nat → List D → Mem → Rs D
  wf : Nat
  cx : Nat → List D → Mem → Rs Xn

def lstD (M : Mem) : D → Option (List D)
  | .lst l => some l
  | .cell n => match M[n]? with
    | some (.lst l) => some l
    | _ => none
  | _ => none
def derefD (M : Mem) : D → D
  | .cell n => match M[n]? with
    | some (.lst l) => .lst l
    | _ => .cell n
  | d => d
def fitL {α : Type} (n : Nat) (a : α) : Option α := if n ≤ sizeLine then some a else none
def mulOk (i j : Int) : Bool := (decide (-(2 ^ 64) < i) && decide (i < 2 ^ 64)) || (decide (-(2 ^ 64) < j) && decide (j < 2 ^ 64))
def binD (op : Bop) (x y : D) (M : Mem) : Option D :=
  match op with
  | .add => match x, y with
    | .int i, .int j => some (.int (i + j))
    | .str a, .str b => fitL (a.length + b.length) (.str (a ++ b))
    | .tup a, .tup b => fitL (a.length + b.length) (.tup (a ++ b))
    | x, y => match lstD M x, lstD M y with
      | some a, some b => fitL (a.length + b.length) (.lst (a ++ b))
      | _, _ => none
  | .sub => match x, y with
    | .int i, .int j => some (.int (i - j))
    | _, _ => none
  | .mul => match x, y with
    | .int i, .int j => if mulOk i j = true then some (.int (i * j)) else none
    | _, _ => none
  | .fdiv => match x, y with
    | .int i, .int j => if 0 < j ∧ j < 1073741824 then some (.int (i / j)) else none
    | _, _ => none
  | .mod => match x, y with
    | .int i, .int j => if 0 < j then some (.int (i % j)) else none
    | _, _ => none
  | .pow => match x, y with
    | .int i, .int j => if 0 ≤ j ∧ j ≤ 1000000 ∧ i.natAbs < 2 ^ 64 then some (.int (i ^ j.toNat)) else none
    | _, _ => none
  | .or_ => none
  | .and_ => none
def eqD (M : Mem) (x y : D) : Option Bool := match toPy (derefD M x), toPy (derefD M y) with
  | some a, some b => if a.depth ≤ 64 ∧ b.depth ≤ 64 then some (PyData.eqv a b) else none
  | _, _ => none
def inD (M : Mem) (x y : D) : Option Bool := match x, y with
  | .str a, .str b => match a.cps.toList with
    | [c] => some (decide (c ∈ b.cps.toList))
    | _ => some (!(Builtin.Str.occurrences b a 0 b.length 1).isEmpty)
  | x, y => match toPy (derefD M x), toPy (derefD M y) with
    | some d, some (.list ds) => if d.depth ≤ 64 ∧ PyData.depthAll ds ≤ 63 then some (ds.any fun z => PyData.eqv z d) else none
    | some d, some (.tuple ds) => if d.depth ≤ 64 ∧ PyData.depthAll ds ≤ 63 then some (ds.any fun z => PyData.eqv z d) else none
    | _, _ => none
def ltD (x y : D) : Option Bool := match x, y with
  | .int i, .int j => some (decide (i < j))
  | .str a, .str b => some (decide (a.cps.toList < b.cps.toList))
  | _, _ => none
def leD (x y : D) : Option Bool := match x, y with
  | .int i, .int j => some (decide (i ≤ j))
  | .str a, .str b => some (!decide (b.cps.toList < a.cps.toList))
  | _, _ => none
def isNon : D → Bool
  | .non => true
  | _ => false
def cmpD (op : Cop) (x y : D) (M : Mem) : Option Bool := match op with
  | .eq => eqD M x y
  | .ne => (eqD M x y).map (!·)
  | .lt => ltD x y
  | .gt => ltD y x
  | .le => leD x y
  | .ge => leD y x
  | .is_ => if isNon y = true then some (isNon x) else none
  | .isn => if isNon y = true then some (!isNon x) else none
  | .in_ => inD M x y
  | .nin => (inD M x y).map (!·)
/-- a mutable instance is asked nothing -/
def isinOk (M : Mem) : D → Bool
  | .cell n => match M[n]? with
    | some (.lst _) => true
    | _ => false
  | _ => true
def asB : Rs D → Rs Bool := fun r => bnd r fun d M => match d with
  | .bl b => some (b, M)
  | _ => none
def eqfOf (T : Tab) : D → Option Nat
  | .obj c _ => (T.cls[c]?).bind (·.eqf)
  | _ => none
def infOf (T : Tab) : D → Option Nat
  | .obj c _ => (T.cls[c]?).bind (·.inf)
  | _ => none
/-- a comparison's answer -/
def cmpC (C : Cfg) (op : Cop) (x y : D) (M : Mem) : Rs Bool := match op with
  | .eq => match eqfOf C.T x with
    | some f => if isinOk M y = true then asB (C.cf f [x, y] M) else none
    | none => lft (cmpD op x y M) M
  | .ne => match eqfOf C.T x with
    | some f => if isinOk M y = true then bnd (asB (C.cf f [x, y] M)) fun b M => some (!b, M) else none
    | none => lft (cmpD op x y M) M
  | .in_ => match infOf C.T y with
    | some f => asB (C.cf f [y, x] M)
    | none => lft (cmpD op x y M) M
  | .nin => match infOf C.T y with
    | some f => bnd (asB (C.cf f [y, x] M)) fun b M => some (!b, M)
    | none => lft (cmpD op x y M) M
  | _ => lft (cmpD op x y M) M
def bopf (k : ClsD) : Bop → Option Nat
  | .or_ => k.orf
  | .and_ => k.andf
  | .sub => k.subf
  | _ => none
def bopOf (T : Tab) (op : Bop) : D → Option Nat
  | .obj c _ => (T.cls[c]?).bind fun k => bopf k op
  | _ => none
/-- a right operand of the same class or of none of the text's classes -/
def rightOk (M : Mem) (x y : D) : Bool := match x, y with
  | .obj c _, .obj c' _ => c == c'
  | _, y => isinOk M y
def binC (C : Cfg) (op : Bop) (x y : D) (M : Mem) : Rs D := match bopOf C.T op x with
  | some f => if rightOk M x y = true then C.cf f [x, y] M else none
  | none => lft (binD op x y M) M
def rowTo (lo : Int) (n : Nat) : List D := (List.range n).map fun i => .int (lo + (i : Nat))
def enumFrom (k : Nat) : List D → List D
  | [] => []
  | x :: r => .tup [.int (k : Nat), x] :: enumFrom (k + 1) r
def zipD : List D → List D → List D
  | x :: r, y :: q => .tup [x, y] :: zipD r q
  | _, _ => []
/-- what a loop walks: these things; a cell's list, of this length all the while -/
inductive Src where
  | st (l : List D) | cl (n len : Nat)
def rowD : D → Option (List D)
  | .tup l => some l
  | .lst l => some l
  | .ro l => some l
  | _ => none
def itD (it : ItK) (xs : List D) (M : Mem) : Option Src := match it, xs with
  | .val, [.cell n] => match M[n]? with
    | some (.lst l) => some (.cl n l.length)
    | _ => none
  | .val, [d] => (itemsD d).map .st
  | .range1, [.int n] => if n ≤ 16777216 ∧ -(2 ^ 62) ≤ n then some (.st (rowTo 0 n.toNat)) else none
  | .range2, [.int a, .int b] => if b - a ≤ 16777216 then some (.st (rowTo a (b - a).toNat)) else none
  | .enum, [d] => (rowD d).map fun l => .st (enumFrom 0 l)
  | .zip, [.tup l, .tup m] => some (.st (zipD l m))
  | .zip, [.tup _, _] => none
  | .zip, [_, .tup _] => none
  | .zip, [d, e] => match rowD d, rowD e with
    | some l, some m => some (.st (zipD l m))
    | _, _ => none
  | _, _ => none
def cellAt (n len i : Nat) (M : Mem) : Option D := match M[n]? with
  | some (.lst l) => if l.length = len then l[i]? else none
  | _ => none
def thunks : Src → List (Mem → Option D)
  | .st l => l.map fun d _ => some d
  | .cl n len => (List.range len).map (cellAt n len)
def finM (q : Src) (M : Mem) : Bool := match q with
  | .st _ => true
  | .cl n len => match M[n]? with
    | some (.lst l) => decide (l.length = len)
    | _ => false
def wipeE (s : En) : List Nat → En
  | [] => s
  | v :: vs => (wipeE s vs).set v none
def setAll (s : En) : List Nat → List D → Option En
  | [], [] => some s
  | i :: is, x :: xs => if i < s.length then setAll (s.set i (some x)) is xs else none
  | _, _ => none
def bindT (t : List Nat) (tk : Bool) (x : D) (s : En) : Option En := if tk = true then (match x with
    | .tup xs => setAll s t xs
    | _ => none) else setAll s t [x]
def compS (f : D → Mem → Rs (List D)) : List D → Mem → Rs (List D)
  | [], M => some ([], M)
  | x :: r, M => bnd (f x M) fun zs M => bnd (compS f r M) fun ys M => some (zs ++ ys, M)
def compT (f : D → Mem → Rs (List D)) (fin : Mem → Bool) : List (Mem → Option D) → Mem → Rs (List D)
  | [], M => if fin M = true then some ([], M) else none
  | t :: r, M => bnd (lft (t M) M) fun x M => bnd (f x M) fun zs M => bnd (compT f fin r M) fun ys M => some (zs ++ ys, M)
def compGo (f : D → Mem → Rs (List D)) (q : Src) (M : Mem) : Rs (List D) := match q with
  | .st l => compS f l M
  | .cl _ _ => compT f (finM q) (thunks q) M
theorem compS_eq (f : D → Mem → Rs (List D)) : ∀ (l : List D) (M : Mem), compS f l M = compT f (fun _ => true) (l.map fun d _ => some d) M
  | [], _ => rfl
  | x :: r, M => by
    simp only [compS, List.map_cons, compT, lft_some, bnd_some, compS_eq f r]
theorem compGo_eq (f : D → Mem → Rs (List D)) (q : Src) (M : Mem) : compGo f q M = compT f (finM q) (thunks q) M := by
  cases q with
  | st l => exact compS_eq f l M
  | cl n len => rfl
def newL (k : Bool) (l : List D) (M : Mem) : Rs D := if k = true then some (.cell M.length, M ++ [.lst l]) else some (.lst l, M)
def isNil : IR → Bool
  | .nil => true
  | _ => false
def fldIx (f : Nat) : List Nat → List D → Option D
  | g :: gs, x :: xs => if g = f then some x else fldIx f gs xs
  | _, _ => none
def attrC (C : Cfg) (d : D) (f : Nat) (M : Mem) : Rs D := match d with
  | .obj c l => match C.T.cls[c]? with
    | none => none
    | some k => match fldIx f k.flds l with
      | some x => some (x, M)
      | none => match k.props.lookup f with
        | some g => C.cf g [d] M
        | none => none
  | .cell n => match M[n]? with
    | some (.ins c fs) => match C.T.cls[c]? with
      | some k => if (fs.all fun p => k.flds.contains p.1) = true then lft (fs.lookup f) M else none
      | none => none
    | _ => none
  | _ => none
/-- the arguments in the parameters' order: the written ones, those by name (ks: their places), the defaults -/
def arr {α : Type} (np : Nat) (dfl : List α) (ks : List Nat) (xs : List α) : Option (List α) :=
  if ks.length ≤ xs.length then (List.range np).mapM fun j => if j < xs.length - ks.length then xs[j]? else match ks.idxOf? j with
    | some p => xs[xs.length - ks.length + p]?
    | none => if np ≤ j + dfl.length then dfl[j + dfl.length - np]? else none
  else none
def argsC (C : Cfg) (f : Nat) (ks : List Nat) (xs : List D) : Option (List D) := match C.T.fns[f]? with
  | some g => arr g.np g.dflt ks xs
  | none => none
def callC (C : Cfg) (f : Nat) (ks : List Nat) (xs : List D) (M : Mem) : Rs D := match argsC C f ks xs with
  | some ys => C.cf f ys M
  | none => none
def callXC (C : Cfg) (f : Nat) (ks : List Nat) (xs : List D) (M : Mem) : Rs Xn := match argsC C f ks xs with
  | some ys => C.cx f ys M
  | none => none
def methOf (T : Tab) (f : Nat) : D → Option Nat
  | .obj c _ => (T.cls[c]?).bind fun k => k.meths.lookup f
  | _ => none
def methC (C : Cfg) (f : Nat) (ks : List Nat) (d : D) (xs : List D) (M : Mem) : Rs D := match methOf C.T f d with
  | some g => callC C g ks (d :: xs) M
  | none => none
def methXC (C : Cfg) (f : Nat) (ks : List Nat) (d : D) (xs : List D) (M : Mem) : Rs Xn := match methOf C.T f d with
  | some g => callXC C g ks (d :: xs) M
  | none => none
/-- an exception leaves a def: the cells of its own go -/
def exitX (n : Nat) (x : Xn) (M : Mem) : Rs Xn := if M.length = n then some (x, M) else
  if belowL n x.2 = true ∧ (M.take n).all (mbelow n) = true ∧ n ≤ M.length then some (x, M.take n) else none
def mkXC (C : Cfg) (c : Nat) (ks : List Nat) (xs : List D) (M : Mem) : Rs Xn := match C.T.cls[c]? with
  | none => none
  | some k => bnd (callXC C k.init ks (.cell M.length :: xs) (M ++ [.ins c []])) fun x M' => exitX M.length x M'
def binXC (C : Cfg) (op : Bop) (x y : D) (M : Mem) : Rs Xn := match bopOf C.T op x with
  | some f => if rightOk M x y = true then C.cx f [x, y] M else none
  | none => none
def isinD (M : Mem) (x : D) : TyK → Bool
  | .int => match x with
    | .int _ => true
    | .bl _ => true
    | _ => false
  | .bool => match x with
    | .bl _ => true
    | _ => false
  | .str => match x with
    | .str _ => true
    | _ => false
  | .tup => match x with
    | .tup _ => true
    | _ => false
  | .lst => match x with
    | .lst _ => true
    | .ro _ => true
    | .cell n => match M[n]? with
      | some (.lst _) => true
      | _ => false
    | _ => false
  | .cls c => match x with
    | .obj d _ => c == d
    | _ => false
def reprD (M : Mem) (d : D) : Option D := match toPy (derefD M d) with
  | some p => if p.showable = true ∧ p.depth ≤ 60 ∧ p.shown.length ≤ sizeLine then some (.str p.shown) else none
  | none => match toPyR (derefD M d) with
    | some p => if p.showable = true ∧ p.depth ≤ 60 ∧ p.shown.length ≤ sizeLine then some (.str p.shown) else none
    | none => none
theorem reprD_inv {M : Mem} {d r : D} (h : reprD M d = some r) : ∃ p, toPyR (derefD M d) = some p ∧ p.showable = true ∧ p.depth ≤ 60 ∧ p.shown.length ≤ sizeLine ∧ r = .str p.shown := by
  unfold reprD at h
  split at h
  · rename_i p q
    split at h
    · rename_i hh; cases h; exact ⟨p, toPyR_of q, hh.1, hh.2.1, hh.2.2, rfl⟩
    · cases h
  · split at h
    · rename_i p q
      split at h
      · rename_i hh; cases h; exact ⟨p, q, hh.1, hh.2.1, hh.2.2, rfl⟩
      · cases h
    · cases h
theorem reprD_is {M : Mem} {d : D} {p : PyData} (h : toPyR (derefD M d) = some p) (h1 : p.showable = true) (h2 : p.depth ≤ 60) (h3 : p.shown.length ≤ sizeLine) : reprD M d = some (.str p.shown) := by
  unfold reprD
  split
  · rename_i p' q
    rw [toPyR_of q] at h
    cases h
    rw [if_pos ⟨h1, h2, h3⟩]
  · rw [h]
    simp only
    rw [if_pos ⟨h1, h2, h3⟩]
def strD : D → Option D
  | .str s => some (.str s)
  | .int i => if i.natAbs.log2 < 1920 then some (.str (toStr i)) else none
  | _ => none
def absI (i : Int) : Int := if i < 0 then -i else i
def lenB (M : Mem) : List D → Option D
  | [.str s] => some (.int (s.length : Nat))
  | [d] => (seqD M d).map fun l => .int (l.length : Nat)
  | _ => none
def absB : List D → Option D
  | [.int i] => some (.int (absI i))
  | _ => none
def intB : List D → Option D
  | [.int i] => some (.int i)
  | [.bl b] => some (.int (if b then 1 else 0))
  | [.str s] => if s.length ≤ 640 then (PySem.intText? s).map .int else none
  | _ => none
def divmodB : List D → Option D
  | [.int i, .int j] => if 0 < j ∧ j < 1073741824 then some (.tup [.int (i / j), .int (i % j)]) else none
  | _ => none
def sumB (M : Mem) : List D → Option D
  | [.tup _] => none
  | [d] => (seqD M d).bind fun l => (intsD l).map fun ns => .int ns.sum
  | _ => none
def max2B : List D → Option D
  | [.int i, .int j] => some (.int (if j > i then j else i))
  | _ => none
def min2B : List D → Option D
  | [.int i, .int j] => some (.int (if j < i then j else i))
  | _ => none
def maxB (M : Mem) : List D → Option D
  | [d] => (lstD M d).bind fun l => (intsD l).bind fun ns => (maxI ns).map .int
  | _ => none
def minB (M : Mem) : List D → Option D
  | [d] => (lstD M d).bind fun l => (intsD l).bind fun ns => (minI ns).map .int
  | _ => none
def tupleB (M : Mem) : List D → Option D
  | [d] => (seqD M d).map .tup
  | _ => none
def listB (M : Mem) : List D → Option D
  | [d] => (seqD M d).map .lst
  | _ => none
def sortedB (M : Mem) : List D → Option D
  | [d] => (seqD M d).bind fun l => (sortD l).map .lst
  | _ => none
def allB (M : Mem) : List D → Option D
  | [d] => (lstD M d).bind fun l => (boolsD l).map fun bs => .bl (bs.all id)
  | _ => none
def anyB (M : Mem) : List D → Option D
  | [d] => (lstD M d).bind fun l => (boolsD l).map fun bs => .bl (bs.any id)
  | _ => none
def strB : List D → Option D
  | [d] => strD d
  | _ => none
def reprB (M : Mem) : List D → Option D
  | [d] => reprD M d
  | _ => none
def boolB (M : Mem) : List D → Option D
  | [d] => (truD M d).map .bl
  | _ => none
def bltD (b : Blt) (xs : List D) (M : Mem) : Option D := match b with
  | .len => lenB M xs
  | .abs => absB xs
  | .int_ => intB xs
  | .divmod => divmodB xs
  | .sum => sumB M xs
  | .max2 => max2B xs
  | .min2 => min2B xs
  | .maxl => maxB M xs
  | .minl => minB M xs
  | .tuple => tupleB M xs
  | .list => listB M xs
  | .sorted => sortedB M xs
  | .all => allB M xs
  | .any => anyB M xs
  | .str => strB xs
  | .repr => reprB M xs
  | .bool => boolB M xs
def asS : Rs D → Rs D := fun r => bnd r fun d M => match d with
  | .str s => some (.str s, M)
  | _ => none
def strfOf (T : Tab) : D → Option Nat
  | .obj c _ => (T.cls[c]?).bind (·.strf)
  | _ => none
def reprfOf (T : Tab) : D → Option Nat
  | .obj c _ => (T.cls[c]?).bind (·.reprf)
  | _ => none
def bltC (C : Cfg) (b : Blt) (xs : List D) (M : Mem) : Rs D := match b, xs with
  | .str, [d] => match strfOf C.T d with
    | some f => asS (C.cf f [d] M)
    | none => lft (bltD .str [d] M) M
  | .repr, [d] => match reprfOf C.T d with
    | some f => asS (C.cf f [d] M)
    | none => lft (bltD .repr [d] M) M
  | b, xs => lft (bltD b xs M) M
def mthC (m : Mth) (x : D) (xs : List D) (M : Mem) : Rs D := match m, x, xs with
  | .join, .str a, [d] => match seqD M d with
    | some l => match strsD l with
      | some ys => if (ys.map fun x => x.length).sum + ys.length * a.length ≤ 16777216 then some (.str (Txt.join a ys), M) else none
      | none => none
    | none => none
  | .split, .str a, [.str b] => if (b.length == 0) = false ∧ a.length + 2 ≤ sizeLine then some (.lst ((Txt.split a b).map .str), M) else none
  | .partition, .str a, [.str b] => if (b.length == 0) = false then some (.tup [.str (Txt.partition a b).1, .str (Txt.partition a b).2.1, .str (Txt.partition a b).2.2], M) else none
  | .append, .cell n, [d] => match M[n]? with
    | some (.lst l) => if l.length < sizeLine then some (.non, M.set n (.lst (l ++ [d]))) else none
    | _ => none
  | _, _, _ => none
/-- what a method's object is, ahead of the arguments -/
def preM (m : Mth) (x : D) (M : Mem) : Bool := match m, x with
  | .append, .cell n => match M[n]? with
    | some (.lst _) => true
    | _ => false
  | .append, _ => false
  | _, _ => true
def catS : List Str → Str → Option Str
  | [], acc => some acc
  | y :: r, acc => if (acc ++ y).length ≤ sizeLine then catS r (acc ++ y) else none
def partI : D → Option (Option Int)
  | .int i => some (some i)
  | _ => none
def sliceD (M : Mem) (d : D) (lo hi : Option Int) : Option D := match d with
  | .tup l => some (.tup (cutD l lo hi))
  | .str s => some (.str (cutS s lo hi))
  | .ro l => some (.lst (cutD l lo hi))
  | d => (lstD M d).map fun l => .lst (cutD l lo hi)
def revD (M : Mem) (d : D) : Option D := match d with
  | .tup l => some (.tup l.reverse)
  | d => (lstD M d).map fun l => .lst l.reverse
/-- every other element, from the first or (true) the second one -/
def other {α : Type} : Bool → List α → List α
  | _, [] => []
  | false, x :: r => x :: other true r
  | true, _ :: r => other false r
def stpD (b : Bool) : D → Option D
  | .tup l => some (.tup (other b l))
  | _ => none
def idxD (M : Mem) (x i : D) : Option D := match i with
  | .int i => match x with
    | .str s => (L2.atI s.cps.toList i).map fun c => .str ⟨#[c]⟩
    | x => (seqD M x).bind fun l => atD l i
  | _ => none
def mkC (C : Cfg) (c : Nat) (ks : List Nat) (xs : List D) (M : Mem) : Rs D := match C.T.cls[c]? with
  | none => none
  | some k => bnd (callC C k.init ks (.cell M.length :: xs) (M ++ [.ins c []])) fun r M' => match r, M'[M.length]? with
    | .non, some (.ins c' fs) => if c' = c ∧ fs.map (·.1) = k.flds ∧ M'.length = M.length + 1 ∧ belowL M.length (fs.map (·.2)) = true ∧ (M'.take M.length).all (mbelow M.length) = true then
        some (.obj c (fs.map (·.2)), M'.take M.length) else none
    | _, _ => none

/-- what the law's catcher tells of an exception -/
def toldX (C : Cfg) (x : Xn) (M : Mem) : Rs D := match C.T.xcs[x.1]?, x.2 with
  | some k, [g] => lft ((reprD M g).map fun r => .tup [.str (Str.ofString "error"), .int k.sort, r]) M
  | _, _ => none
mutual
def ev (C : Cfg) : IR → En → Mem → Rs D
  | .var i, s, M => match s[i]? with
    | some (some d) => some (d, M)
    | _ => none
  | .cst d, _, M => some (d, M)
  | .glob g, _, M => lft C.T.globs[g]? M
  | .bin op a b, s, M => bnd (ev C a s M) fun x M => bnd (ev C b s M) fun y M => binC C op x y M
  | .neg a, s, M => bnd (ev C a s M) fun x M => match x with
    | .int i => some (.int (-i), M)
    | _ => none
  | .not a, s, M => bnd (ev C a s M) fun x M => lft ((truD M x).map fun b => .bl (!b)) M
  | .cmp op a b, s, M => bnd (ev C a s M) fun x M => bnd (ev C b s M) fun y M => bnd (cmpC C op x y M) fun t M => some (.bl t, M)
  | .cmp2 op op' a b c, s, M => bnd (ev C a s M) fun x M => bnd (ev C b s M) fun y M => bnd (lft (cmpD op x y M) M) fun t M =>
      if t = true then bnd (ev C c s M) fun z M => lft ((cmpD op' y z M).map .bl) M else some (.bl false, M)
  | .and a b, s, M => bnd (ev C a s M) fun x M => bnd (lft (truD M x) M) fun t M => if t = true then ev C b s M else some (x, M)
  | .or a b, s, M => bnd (ev C a s M) fun x M => bnd (lft (truD M x) M) fun t M => if t = true then some (x, M) else ev C b s M
  | .ite c a b, s, M => bnd (ev C c s M) fun x M => bnd (lft (truD M x) M) fun t M => if t = true then ev C a s M else ev C b s M
  | .tup l, s, M => bnd (evs C l s M) fun xs M => lft (fitL xs.length (.tup xs)) M
  | .lst k l, s, M => bnd (evs C l s M) fun xs M => bnd (lft (fitL xs.length xs) M) fun xs M => newL k xs M
  | .idx a i, s, M => bnd (ev C a s M) fun x M => bnd (ev C i s M) fun y M => lft (idxD M x y) M
  | .slice a lo hi, s, M => bnd (ev C a s M) fun x M =>
      bnd (if isNil lo = true then some (none, M) else bnd (ev C lo s M) fun d M => lft (partI d) M) fun l M =>
      bnd (if isNil hi = true then some (none, M) else bnd (ev C hi s M) fun d M => lft (partI d) M) fun h M => lft (sliceD M x l h) M
  | .rev a, s, M => bnd (ev C a s M) fun x M => lft (revD M x) M
  | .stp a b, s, M => bnd (ev C a s M) fun x M => lft (stpD b x) M
  | .attr a f, s, M => bnd (ev C a s M) fun x M => attrC C x f M
  | .isin a t, s, M => bnd (ev C a s M) fun x M => if isinOk M x = true then some (.bl (isinD M x t), M) else none
  | .call f ks l lk, s, M => bnd (evs C l s M) fun xs M => bnd (evs C lk s M) fun ys M => callC C f ks (xs ++ ys) M
  | .make c ks l lk, s, M => bnd (evs C l s M) fun xs M => bnd (evs C lk s M) fun ys M => mkC C c ks (xs ++ ys) M
  | .blt b l, s, M => bnd (evs C l s M) fun xs M => bltC C b xs M
  | .meth m o l, s, M => bnd (ev C o s M) fun x M => if preM m x M = true then bnd (evs C l s M) fun xs M => mthC m x xs M else none
  | .ometh f ks o l lk, s, M => bnd (ev C o s M) fun x M => bnd (evs C l s M) fun xs M => bnd (evs C lk s M) fun ys M => methC C f ks x (xs ++ ys) M
  | .fstr l, s, M => bnd (evs C l s M) fun xs M => lft (((strsD xs).bind fun ys => catS ys Str.empty).map .str) M
  | .fmt a, s, M => bnd (ev C a s M) fun x M => lft (strD x) M
  | .comp k t tk it src cond e, s, M => bnd (evs C src s M) fun xs M => bnd (lft (itD it xs M) M) fun q M =>
      bnd (compGo (fun x M => bnd (lft (bindT t tk x (wipeE s t)) M) fun s' M =>
        bnd (if isNil cond = true then some (true, M) else bnd (ev C cond s' M) fun d M => lft (truD M d) M) fun b M =>
          if b = true then bnd (ev C e s' M) fun y M => some ([y], M) else some ([], M)) q M) fun ys M => newL k ys M
  | .comp2 k t tk it src t' tk' it' src' cond e, s, M => bnd (evs C src s M) fun xs M => bnd (lft (itD it xs M) M) fun q M =>
      bnd (compGo (fun x M => bnd (lft (bindT t tk x (wipeE s (t ++ t'))) M) fun s' M =>
        bnd (evs C src' s' M) fun xs M => bnd (lft (itD it' xs M) M) fun q' M =>
        compGo (fun x M => bnd (lft (bindT t' tk' x (wipeE s' t')) M) fun s'' M =>
        bnd (if isNil cond = true then some (true, M) else bnd (ev C cond s'' M) fun d M => lft (truD M d) M) fun b M =>
          if b = true then bnd (ev C e s'' M) fun y M => some ([y], M) else some ([], M)) q' M) q M) fun ys M =>
      bnd (lft (fitL ys.length ys) M) fun ys M => newL k ys M
  | .caught e, s, M => match evX C e s M with
      | some (x, M') => toldX C x M'
      | none => bnd (ev C e s M) fun d M => bnd (bltC C .repr [d] M) fun r M => some (.tup [.str (Str.ofString "back"), r], M)
  | .dict0, _, M => some (.emp, M)
  | .dict1 ks v, _, M => some (.dkt ks v, M)
  | .nil, _, _ => none
  | .cons _ _, _, _ => none
def evX (C : Cfg) : IR → En → Mem → Rs Xn
  | .call f ks l lk, s, M => bnd (evs C l s M) fun xs M => bnd (evs C lk s M) fun ys M => callXC C f ks (xs ++ ys) M
  | .make c ks l lk, s, M => bnd (evs C l s M) fun xs M => bnd (evs C lk s M) fun ys M => mkXC C c ks (xs ++ ys) M
  | .ometh f ks o l lk, s, M => bnd (ev C o s M) fun x M => bnd (evs C l s M) fun xs M => bnd (evs C lk s M) fun ys M => methXC C f ks x (xs ++ ys) M
  | .bin op a b, s, M => bnd (ev C a s M) fun x M => bnd (ev C b s M) fun y M => binXC C op x y M
  | _, _, _ => none
def evs (C : Cfg) : IR → En → Mem → Rs (List D)
  | .nil, _, M => some ([], M)
  | .cons a r, s, M => bnd (ev C a s M) fun x M => bnd (evs C r s M) fun xs M => some (x :: xs, M)
  | _, _, _ => none
end

/-! ### statements -/
inductive Fl where
  | nx (s : En) | rt (d : D) | bk (s : En) | ct (s : En)
def setIxD (o i x : D) (M : Mem) : Option Mem := match o, i with
  | .cell n, .int i => match M[n]? with
    | some (.lst l) => match L2.ixN l.length i with
      | some j => some (M.set n (.lst (l.set j x)))
      | none => none
    | _ => none
  | _, _ => none
def putN (f : Nat) (x : D) : List (Nat × D) → List (Nat × D)
  | [] => [(f, x)]
  | (g, y) :: r => if g = f then (g, x) :: r else (g, y) :: putN f x r
def setFldD (T : Tab) (o : D) (f : Nat) (x : D) (M : Mem) : Option Mem := match o with
  | .cell n => match M[n]? with
    | some (.ins c fs) => match T.cls[c]? with
      | some k => if (fs.all fun p => k.flds.contains p.1) = true ∧ k.flds.contains f = true ∧ fs.length < 900 then some (M.set n (.ins c (putN f x fs))) else none
      | none => none
    | _ => none
  | _ => none
mutual
def asgT (C : Cfg) : TG → D → En → Mem → Rs En
  | .v i, x, s, M => if i < s.length then some (s.set i (some x), M) else none
  | .ix o i, x, s, M => bnd (ev C o s M) fun a M => bnd (ev C i s M) fun j M => match setIxD a j x M with
    | some M => some (s, M)
    | none => none
  | .fld o f, x, s, M => bnd (ev C o s M) fun a M => match setFldD C.T a f x M with
    | some M => some (s, M)
    | none => none
  | .tup l, x, s, M => match x with
    | .tup xs => asgTs C l xs s M
    | _ => none
  | .nil, _, _, _ => none
  | .cons _ _, _, _, _ => none
def asgTs (C : Cfg) : TG → List D → En → Mem → Rs En
  | .nil, xs, s, M => match xs with
    | [] => some (s, M)
    | _ => none
  | .cons a r, xs, s, M => match xs with
    | x :: xs => bnd (asgT C a x s M) fun s M => asgTs C r xs s M
    | _ => none
  | _, _, _, _ => none
end
def forS (body : D → En → Mem → Rs Fl) : List D → En → Mem → Rs Fl
  | [], s, M => some (.nx s, M)
  | x :: r, s, M => bnd (body x s M) fun f M => match f with
    | .nx s' => forS body r s' M
    | .ct s' => forS body r s' M
    | .bk s' => some (.nx s', M)
    | .rt d => some (.rt d, M)
def forT (body : D → En → Mem → Rs Fl) (fin : Mem → Bool) : List (Mem → Option D) → En → Mem → Rs Fl
  | [], s, M => if fin M = true then some (.nx s, M) else none
  | t :: r, s, M => bnd (lft (t M) M) fun x M => bnd (body x s M) fun f M => match f with
    | .nx s' => forT body fin r s' M
    | .ct s' => forT body fin r s' M
    | .bk s' => some (.nx s', M)
    | .rt d => some (.rt d, M)
def forGo (body : D → En → Mem → Rs Fl) (q : Src) (s : En) (M : Mem) : Rs Fl := match q with
  | .st l => forS body l s M
  | .cl _ _ => forT body (finM q) (thunks q) s M
theorem forS_eq (body : D → En → Mem → Rs Fl) : ∀ (l : List D) (s : En) (M : Mem), forS body l s M = forT body (fun _ => true) (l.map fun d _ => some d) s M
  | [], _, _ => rfl
  | x :: r, s, M => by
    simp only [forS, List.map_cons, forT, lft_some, bnd_some, forS_eq body r]
theorem forGo_eq (body : D → En → Mem → Rs Fl) (q : Src) (s : En) (M : Mem) : forGo body q s M = forT body (finM q) (thunks q) s M := by
  cases q with
  | st l => exact forS_eq body l s M
  | cl n len => rfl
def whGo (c : En → Mem → Rs Bool) (body : En → Mem → Rs Fl) : Nat → En → Mem → Rs Fl
  | 0, _, _ => none
  | n + 1, s, M => bnd (c s M) fun t M => if t = true then bnd (body s M) fun f M => match f with
    | .nx s' => whGo c body n s' M
    | .ct s' => whGo c body n s' M
    | .bk s' => some (.nx s', M)
    | .rt d => some (.rt d, M) else some (.nx s, M)
def evS (C : Cfg) : SR → En → Mem → Rs Fl
  | .nil, s, M => some (.nx s, M)
  | .seq a r, s, M => bnd (evS C a s M) fun f M => match f with
    | .nx s' => evS C r s' M
    | f => some (f, M)
  | .pass, s, M => some (.nx s, M)
  | .ret0, _, M => some (.rt .non, M)
  | .ret e, s, M => bnd (ev C e s M) fun d M => some (.rt d, M)
  | .ex e, s, M => bnd (ev C e s M) fun _ M => some (.nx s, M)
  | .asg t e, s, M => bnd (ev C e s M) fun d M => bnd (asgT C t d s M) fun s' M => some (.nx s', M)
  | .par is l, s, M => bnd (evs C l s M) fun xs M => bnd (lft (setAll s is xs) M) fun s' M => some (.nx s', M)
  | .iff c a b, s, M => bnd (ev C c s M) fun x M => bnd (lft (truD M x) M) fun t M => if t = true then evS C a s M else evS C b s M
  | .loop t it src b, s, M => bnd (evs C src s M) fun xs M => bnd (lft (itD it xs M) M) fun q M =>
      forGo (fun x s M => bnd (asgT C t x s M) fun s' M => evS C b s' M) q s M
  | .while_ c b, s, M => whGo (fun s M => bnd (ev C c s M) fun x M => lft (truD M x) M) (fun s M => evS C b s M) C.wf s M
  | .never, _, _ => none
  | .brk, s, M => some (.bk s, M)
  | .cnt, s, M => some (.ct s, M)
  | .raise _ _, _, _ => none
/-- a loop that an exception leaves -/
def forX (body : D → En → Mem → Rs Fl) (bodyX : D → En → Mem → Rs Xn) : List (Mem → Option D) → En → Mem → Rs Xn
  | [], _, _ => none
  | t :: r, s, M => bnd (lft (t M) M) fun x M => match bodyX x s M with
    | some e => some e
    | none => bnd (body x s M) fun f M => match f with
      | .nx s' => forX body bodyX r s' M
      | .ct s' => forX body bodyX r s' M
      | _ => none
def evSX (C : Cfg) : SR → En → Mem → Rs Xn
  | .seq a r, s, M => match evSX C a s M with
    | some x => some x
    | none => bnd (evS C a s M) fun f M => match f with
      | .nx s' => evSX C r s' M
      | _ => none
  | .ret e, s, M => evX C e s M
  | .ex e, s, M => evX C e s M
  | .iff c a b, s, M => bnd (ev C c s M) fun x M => bnd (lft (truD M x) M) fun t M => if t = true then evSX C a s M else evSX C b s M
  | .loop t it src b, s, M => bnd (evs C src s M) fun xs M => bnd (lft (itD it xs M) M) fun q M =>
      forX (fun x s M => bnd (asgT C t x s M) fun s' M => evS C b s' M) (fun x s M => bnd (asgT C t x s M) fun s' M => evSX C b s' M) (thunks q) s M
  | .raise c l, s, M => bnd (evs C l s M) fun fs M => match C.T.xcs[c]? with
    | some k => if fs.length = k.flds.length then some ((c, fs), M) else none
    | none => none
  | _, _, _ => none

/-! ### defs -/
def frzD (M : Mem) (n : Nat) : D → D
  | .cell i => if n ≤ i then derefD M (.cell i) else .cell i
  | d => d
def exitF (n : Nat) (d : D) (M : Mem) : Rs D := if M.length = n then some (d, M) else
  if below n (frzD M n d) = true ∧ (M.take n).all (mbelow n) = true ∧ n ≤ M.length then some (frzD M n d, M.take n) else none
def outOf : Fl → Option D
  | .nx _ => some .non
  | .rt d => some d
  | _ => none
def runF (T : Tab) (cf : Nat → List D → Mem → Rs D) (cx : Nat → List D → Mem → Rs Xn) (wf : Nat) (f : FnD) (xs : List D) (M : Mem) : Rs D :=
  if xs.length = f.np then
    bnd (evS ⟨T, cf, wf, cx⟩ f.body (xs.map some ++ List.replicate (f.ns - f.np) none) M) fun r M' => match outOf r with
      | none => none
      | some d => if f.keep = true then some (d, M') else exitF M.length d M'
  else none
def runX (T : Tab) (cf : Nat → List D → Mem → Rs D) (cx : Nat → List D → Mem → Rs Xn) (wf : Nat) (f : FnD) (xs : List D) (M : Mem) : Rs Xn :=
  if xs.length = f.np then
    bnd (evSX ⟨T, cf, wf, cx⟩ f.body (xs.map some ++ List.replicate (f.ns - f.np) none) M) fun x M' => exitX M.length x M'
  else none
mutual
def callF (T : Tab) (wf : Nat) : Nat → Nat → List D → Mem → Rs D
  | 0, _, _, _ => none
  | n + 1, i, xs, M => match T.fns[i]? with
    | none => none
    | some f => runF T (callF T wf n) (callX T wf n) wf f xs M
def callX (T : Tab) (wf : Nat) : Nat → Nat → List D → Mem → Rs Xn
  | 0, _, _, _ => none
  | n + 1, i, xs, M => match T.fns[i]? with
    | none => none
    | some f => runX T (callF T wf n) (callX T wf n) wf f xs M
end
end Dn

set_option Elab.async false
set_option linter.all false
set_option maxRecDepth 100000
set_option maxHeartbeats 4000000
/-! Dn, part C: what stands for what. -/
namespace Dn
open PySem L2

def sOk (s : Str) : Prop := s.length ≤ sizeLine ∧ s.cps.all (fun c => decide (c < 0x110000)) = true
/-- the program's own things by number: addresses, names, tables -/
structure Gd where
  K : PySem.W.Frag
  ca : Nat → Addr
  fa : Nat → Addr
  fnm : Nat → Str
  nf : Nat
  T : Tab
  tabs : List (Addr × Str) := []
  cods : List (Addr × Addr) := []
  xa : Nat → Addr := fun _ => 0
def Gd.flds (G : Gd) (c : Nat) : List Nat := ((G.T.cls[c]?).map (·.flds)).getD []
def nmd (G : Gd) (fs : List Nat) (vs : List V) : List (Str × V) := (fs.map G.fnm).zip vs
section
variable (G : Gd) (ρ : List Addr) (H : Hp)
mutual
inductive Rep : D → V → Prop
  | non : Rep .non .non
  | bl (b : Bool) : Rep (.bl b) (.bl b)
  | int (i : Int) : Rep (.int i) (.int i)
  | str {s : Str} : sOk s → Rep (.str s) (.str s)
  | tup {l : List D} {a : Addr} {vs : List V} : a ∉ ρ → H a = some (.tup vs) → RepL l vs → Rep (.tup l) (.ref a)
  | tup0 {a : Addr} : (∀ H', SqT G.K H' a []) → Rep (.tup []) (.ref a)
  | lst {l : List D} {a : Addr} {vs : List V} : a ∉ ρ → H a = some (.lst vs) → RepL l vs → Rep (.lst l) (.ref a)
  | ro {l : List D} {a : Addr} {vs : List V} : ((a ∉ ρ ∧ ∃ o, H a = some (.frz o (.lst vs))) ∨ ∀ H', SqL G.K H' a vs) → RepL l vs → Rep (.ro l) (.ref a)
  | obj {c : Nat} {l : List D} {a dx : Addr} {vs : List V} : a ∉ ρ → H a = some (.ins (G.ca c) dx (nmd G (G.flds c) vs)) → (c < G.T.cls.length ∧ l.length = (G.flds c).length) → RepL l vs → Rep (.obj c l) (.ref a)
  | cell {n : Nat} {a : Addr} : ρ[n]? = some a → Rep (.cell n) (.ref a)
  | emp {a : Addr} : a ∉ ρ → H a = some (.dK []) → Rep .emp (.ref a)
  | dkt {a : Addr} {ks : List Int} {v : Int} : a ∉ ρ → H a = some (.dT [(ks.map Sum.inl, .int v)]) → Rep (.dkt ks v) (.ref a)
inductive RepL : List D → List V → Prop
  | nil : RepL [] []
  | cons {d : D} {v : V} {ds : List D} {vs : List V} : Rep d v → RepL ds vs → RepL (d :: ds) (v :: vs)
end
end
section
variable {G : Gd} {ρ ρ' : List Addr} {H H' : Hp}
theorem RepL.len : ∀ {l : List D} {vs : List V}, RepL G ρ H l vs → l.length = vs.length
  | _, _, .nil => rfl
  | _, _, .cons _ r => by simp [RepL.len r]
theorem RepL.app : ∀ {l m : List D} {vs us : List V}, RepL G ρ H l vs → RepL G ρ H m us → RepL G ρ H (l ++ m) (vs ++ us)
  | _, _, _, _, .nil, h => h
  | _, _, _, _, .cons d r, h => .cons d (RepL.app r h)
theorem RepL.get : ∀ {l : List D} {vs : List V} {i : Nat} {d : D}, RepL G ρ H l vs → l[i]? = some d → ∃ v, vs[i]? = some v ∧ Rep G ρ H d v
  | _, _, i, _, .nil, h => by simp at h
  | _, _, 0, _, .cons x r, h => by simp at h; subst h; exact ⟨_, rfl, x⟩
  | _, _, i + 1, _, .cons x r, h => by
    obtain ⟨v, e, q⟩ := RepL.get (i := i) r (by simpa using h)
    exact ⟨v, by simpa using e, q⟩
theorem RepL.get' {l : List D} {vs : List V} {i : Nat} {v : V} (r : RepL G ρ H l vs) (h : vs[i]? = some v) : ∃ d, l[i]? = some d ∧ Rep G ρ H d v := by
  have hl := r.len
  have hi : i < l.length := by
    have := (List.getElem?_eq_some_iff.mp h).1
    omega
  obtain ⟨w, e, q⟩ := r.get (List.getElem?_eq_getElem hi)
  rw [h] at e
  cases e
  exact ⟨_, List.getElem?_eq_getElem hi, q⟩
theorem RepL.take : ∀ {l : List D} {vs : List V} (n : Nat), RepL G ρ H l vs → RepL G ρ H (l.take n) (vs.take n)
  | _, _, 0, _ => .nil
  | _, _, _ + 1, .nil => .nil
  | _, _, n + 1, .cons d r => .cons d (RepL.take n r)
theorem RepL.drop : ∀ {l : List D} {vs : List V} (n : Nat), RepL G ρ H l vs → RepL G ρ H (l.drop n) (vs.drop n)
  | _, _, 0, h => h
  | _, _, _ + 1, .nil => .nil
  | _, _, n + 1, .cons _ r => RepL.drop n r
theorem RepL.other : ∀ {b : Bool} {l : List D} {vs : List V}, RepL G ρ H l vs → RepL G ρ H (Dn.other b l) (Dn.other b vs)
  | false, _, _, .nil => .nil
  | true, _, _, .nil => .nil
  | false, _, _, .cons x r => .cons x (RepL.other (b := true) r)
  | true, _, _, .cons _ r => RepL.other (b := false) r
theorem RepL.rev {l : List D} {vs : List V} (r : RepL G ρ H l vs) : RepL G ρ H l.reverse vs.reverse := by
  induction l generalizing vs with
  | nil => cases r; exact .nil
  | cons d l ih =>
    cases r with
    | cons h r =>
      rw [List.reverse_cons, List.reverse_cons]
      exact (ih r).app (.cons h .nil)
theorem RepL.set : ∀ {l : List D} {vs : List V} {d : D} {v : V} (i : Nat), RepL G ρ H l vs → Rep G ρ H d v → RepL G ρ H (l.set i d) (vs.set i v)
  | _, _, _, _, _, .nil, _ => .nil
  | _, _, _, _, 0, .cons _ r, h => .cons h r
  | _, _, _, _, i + 1, .cons x r, h => .cons x (RepL.set i r h)
theorem RepL.mem : ∀ {l : List D} {vs : List V} {v : V}, RepL G ρ H l vs → v ∈ vs → ∃ d ∈ l, Rep G ρ H d v
  | _, _, _, .nil, h => by cases h
  | _, _, _, .cons x r, h => by
    rcases List.mem_cons.mp h with rfl | h
    · exact ⟨_, List.mem_cons_self, x⟩
    · obtain ⟨d, hd, q⟩ := RepL.mem r h
      exact ⟨d, List.mem_cons_of_mem _ hd, q⟩

/-- no table of code objects -/
def NoTb (o : HO) : Prop := ∀ ps, o ≠ .tbl ps
/-- nothing at a, or a table -/
def Fre (H : Hp) (a : Addr) : Prop := ∀ o, H a = some o → ¬ NoTb o
theorem Fre.of {H : Hp} {a : Addr} (h : H a = none) : Fre H a := fun o e => by rw [h] at e; cases e
/-- from one moment to a later one: cells are added, what is no cell stays -/
structure Ex (ρ : List Addr) (H : Hp) (ρ' : List Addr) (H' : Hp) : Prop where
  pre : ρ <+: ρ'
  keep : ∀ a o, H a = some o → a ∉ ρ → NoTb o → H' a = some o
  new : ∀ a ∈ ρ', a ∈ ρ ∨ Fre H a
  there : ∀ a, Fre H' a → Fre H a
theorem Ex.refl : Ex ρ H ρ H := ⟨List.prefix_refl _, fun _ _ h _ _ => h, fun _ h => .inl h, fun _ h => h⟩
theorem Ex.stay (x : Ex ρ H ρ' H') {a : Addr} {o : HO} (h : H a = some o) (n : a ∉ ρ) (nt : NoTb o := by (intro _ z; cases z)) : H' a = some o ∧ a ∉ ρ' := by
  refine ⟨x.keep a o h n nt, fun m => ?_⟩
  rcases x.new a m with z | z
  · exact n z
  · exact z o h nt
theorem Ex.trans {ρ2 : List Addr} {H2 : Hp} (x : Ex ρ H ρ' H') (y : Ex ρ' H' ρ2 H2) : Ex ρ H ρ2 H2 := by
  refine ⟨x.pre.trans y.pre, fun a o h n nt => ?_, fun a m => ?_, fun a h => x.there a (y.there a h)⟩
  · obtain ⟨h1, n1⟩ := x.stay h n nt
    exact y.keep a o h1 n1 nt
  · rcases y.new a m with z | z
    · exact x.new a z
    · exact .inr (x.there a z)
theorem Ex.cell (x : Ex ρ H ρ' H') {n : Nat} {a : Addr} (h : ρ[n]? = some a) : ρ'[n]? = some a := by
  obtain ⟨t, rfl⟩ := x.pre
  have hn := (List.getElem?_eq_some_iff.mp h).1
  rw [List.getElem?_append_left hn]
  exact h
theorem Ex.sql (x : Ex ρ H ρ' H') {K : PySem.W.Frag} {a : Addr} {vs : List V} (h : SqL K H a vs) (n : a ∉ ρ) : SqL K H' a vs := by
  rcases h with (h | ⟨o, h⟩) | h
  · exact .inl (.inl (x.keep _ _ h n (by intro _ z; cases z)))
  · exact .inl (.inr ⟨o, x.keep _ _ h n (by intro _ z; cases z)⟩)
  · exact .inr h
mutual
theorem Rep.ext (x : Ex ρ H ρ' H') : ∀ {d : D} {v : V}, Rep G ρ H d v → Rep G ρ' H' d v
  | _, _, .non => .non
  | _, _, .bl b => .bl b
  | _, _, .int i => .int i
  | _, _, .str h => .str h
  | _, _, .tup n h r => .tup (x.stay h n).2 (x.stay h n).1 (RepL.ext x r)
  | _, _, .tup0 h => .tup0 h
  | _, _, .lst n h r => .lst (x.stay h n).2 (x.stay h n).1 (RepL.ext x r)
  | _, _, .ro h r => .ro (h.elim (fun ⟨n, o, e⟩ => .inl ⟨(x.stay e n).2, o, (x.stay e n).1⟩) .inr) (RepL.ext x r)
  | _, _, .obj n h e r => .obj (x.stay h n).2 (x.stay h n).1 e (RepL.ext x r)
  | _, _, .cell h => .cell (x.cell h)
  | _, _, .emp n h => .emp (x.stay h n).2 (x.stay h n).1
  | _, _, .dkt n h => .dkt (x.stay h n).2 (x.stay h n).1
theorem RepL.ext (x : Ex ρ H ρ' H') : ∀ {l : List D} {vs : List V}, RepL G ρ H l vs → RepL G ρ' H' l vs
  | _, _, .nil => .nil
  | _, _, .cons h r => .cons (Rep.ext x h) (RepL.ext x r)
end
theorem tup_rep {l : List D} {v : V} (h : Rep G ρ H (.tup l) v) : ∃ a vs, v = .ref a ∧ SqT G.K H a vs ∧ RepL G ρ H l vs := by
  cases h with
  | tup n h r => exact ⟨_, _, rfl, .of h, r⟩
  | tup0 h => exact ⟨_, _, rfl, h H, .nil⟩
/-- what a cell's address holds -/
def MRep (G : Gd) (ρ : List Addr) (H : Hp) (a : Addr) : MO → Prop
  | .lst l => ∃ vs, H a = some (.lst vs) ∧ RepL G ρ H l vs
  | .ins c fs => ∃ dx vs, H a = some (.ins (G.ca c) dx (nmd G (fs.map (·.1)) vs)) ∧ RepL G ρ H (fs.map (·.2)) vs
structure SRel (G : Gd) (ρ : List Addr) (H : Hp) (M : Mem) : Prop where
  len : ρ.length = M.length
  nd : ρ.Nodup
  at_ : ∀ (n : Nat) (a : Addr) (o : MO), ρ[n]? = some a → M[n]? = some o → MRep G ρ H a o
  tb : ∀ p ∈ G.tabs, p.1 ∉ ρ ∧ LamX.TabS H p.1 p.2
structure ERel (G : Gd) (ρ : List Addr) (H : Hp) (s : En) (σ : St) : Prop where
  len : s.length = σ.length
  at_ : ∀ (i : Nat) (d : D), s[i]? = some (some d) → ∃ v, σ[i]? = some (some v) ∧ Rep G ρ H d v
theorem ERel.ext {s : En} {σ : St} (e : ERel G ρ H s σ) (x : Ex ρ H ρ' H') : ERel G ρ' H' s σ :=
  ⟨e.len, fun i d h => let ⟨v, h1, h2⟩ := e.at_ i d h; ⟨v, h1, h2.ext x⟩⟩
theorem ERel.set {s : En} {σ : St} {d : D} {v : V} (e : ERel G ρ H s σ) (i : Nat) (h : Rep G ρ H d v) : ERel G ρ H (s.set i (some d)) (σ.set i (some v)) := by
  refine ⟨by simp [e.len], fun j d' hj => ?_⟩
  by_cases q : i = j
  · subst q
    have hi : i < s.length := by
      have := (List.getElem?_eq_some_iff.mp hj).1
      simpa using this
    rw [List.getElem?_set_self hi] at hj
    cases hj
    exact ⟨v, by rw [List.getElem?_set_self (by rw [← e.len]; exact hi)], h⟩
  · rw [List.getElem?_set_ne q] at hj
    obtain ⟨w, h1, h2⟩ := e.at_ j d' hj
    exact ⟨w, by rw [List.getElem?_set_ne q]; exact h1, h2⟩
theorem ERel.clear {s : En} {σ : St} (e : ERel G ρ H s σ) (i : Nat) : ERel G ρ H (s.set i none) (σ.set i none) := by
  refine ⟨by simp [e.len], fun j d' hj => ?_⟩
  by_cases q : i = j
  · subst q
    by_cases hi : i < s.length
    · rw [List.getElem?_set_self hi] at hj
      cases hj
    · rw [List.getElem?_eq_none (by simpa using hi)] at hj
      cases hj
  · rw [List.getElem?_set_ne q] at hj
    obtain ⟨w, h1, h2⟩ := e.at_ j d' hj
    exact ⟨w, by rw [List.getElem?_set_ne q]; exact h1, h2⟩
theorem MRep.ext {a : Addr} {o : MO} (x : Ex ρ H ρ' H') (h : MRep G ρ H a o) (e : H' a = H a) : MRep G ρ' H' a o := by
  cases o with
  | lst l =>
    obtain ⟨vs, h1, h2⟩ := h
    exact ⟨vs, e.trans h1, h2.ext x⟩
  | ins c fs =>
    obtain ⟨dx, vs, h1, h2⟩ := h
    exact ⟨dx, vs, e.trans h1, h2.ext x⟩
theorem SRel.some_at {M : Mem} (r : SRel G ρ H M) {a : Addr} (m : a ∈ ρ) : ∃ o, H a = some o := by
  obtain ⟨n, hn⟩ := List.getElem?_of_mem m
  have hl : n < M.length := by
    have := (List.getElem?_eq_some_iff.mp hn).1
    rw [r.len] at this
    exact this
  have q := r.at_ n a _ hn (List.getElem?_eq_getElem hl)
  revert q
  cases M[n] with
  | lst l => rintro ⟨vs, h, _⟩; exact ⟨_, h⟩
  | ins c fs => rintro ⟨dx, vs, h, _⟩; exact ⟨_, h⟩
/-- a new thing that is no cell -/
theorem Ex.laid {p : Addr} {o : HO} (h : H p = none) : Ex ρ H ρ (upd H p o) := by
  refine ⟨List.prefix_refl _, fun a u e _ _ => ?_, fun _ m => .inl m, fun a e => ?_⟩
  · rw [upd_ne (ne_of_none e h)]; exact e
  · by_cases q : a = p
    · subst q; exact .of h
    · intro u hu; exact e u (by rw [upd_ne q]; exact hu)
theorem SRel.laid {M : Mem} (r : SRel G ρ H M) {p : Addr} {o : HO} (h : H p = none) : SRel G ρ (upd H p o) M := by
  refine ⟨r.len, r.nd, fun n a u hn hm => (r.at_ n a u hn hm).ext (Ex.laid h) ?_, fun t ht => ⟨(r.tb t ht).1, (r.tb t ht).2.ext fun b u e => by rw [upd_ne (ne_of_none e h)]; exact e⟩⟩
  obtain ⟨q, hq⟩ := r.some_at (List.mem_of_getElem? hn)
  rw [upd_ne (ne_of_none hq h)]
theorem SRel.notIn {M : Mem} (r : SRel G ρ H M) {p : Addr} (h : H p = none) : p ∉ ρ := fun m => by
  obtain ⟨o, e⟩ := r.some_at m
  rw [h] at e; cases e
/-- a new cell -/
theorem Ex.newCell {p : Addr} {o : HO} (h : H p = none) : Ex ρ H (ρ ++ [p]) (upd H p o) := by
  refine ⟨List.prefix_append _ _, fun a u e _ _ => ?_, fun a m => ?_, fun a e => ?_⟩
  · rw [upd_ne (ne_of_none e h)]; exact e
  · rcases List.mem_append.mp m with m | m
    · exact .inl m
    · have : a = p := by simpa using m
      subst this; exact .inr (.of h)
  · by_cases q : a = p
    · subst q; exact .of h
    · intro u hu; exact e u (by rw [upd_ne q]; exact hu)
theorem SRel.newCell {M : Mem} (r : SRel G ρ H M) {p : Addr} {o : HO} {u : MO} (h : H p = none) (hu : MRep G (ρ ++ [p]) (upd H p o) p u) : SRel G (ρ ++ [p]) (upd H p o) (M ++ [u]) := by
  have np := r.notIn h
  refine ⟨by simp [r.len], ?_, fun n a w hn hm => ?_, fun t ht => ⟨fun m => ?_, (r.tb t ht).2.ext fun b u e => by rw [upd_ne (ne_of_none e h)]; exact e⟩⟩
  rotate_left 2
  · rcases List.mem_append.mp m with m | m
    · exact (r.tb t ht).1 m
    · have e : t.1 = p := by simpa using m
      obtain ⟨ps, h1, _⟩ := (r.tb t ht).2
      rw [e, h] at h1; cases h1
  · rw [List.nodup_append]
    refine ⟨r.nd, by simp, fun a ha b hb => ?_⟩
    have : b = p := by simpa using hb
    subst this
    intro e; subst e; exact np ha
  · by_cases q : n < ρ.length
    · rw [List.getElem?_append_left q] at hn
      rw [List.getElem?_append_left (by rw [← r.len]; exact q)] at hm
      refine (r.at_ n a w hn hm).ext (Ex.newCell h) ?_
      obtain ⟨z, hz⟩ := r.some_at (List.mem_of_getElem? hn)
      rw [upd_ne (ne_of_none hz h)]
    · have hl := (List.getElem?_eq_some_iff.mp hn).1
      have e : n = ρ.length := by simp at hl; omega
      subst e
      rw [List.getElem?_append_right (Nat.le_refl _)] at hn
      rw [r.len, List.getElem?_append_right (Nat.le_refl _)] at hm
      simp at hn hm
      subst hn; subst hm
      exact hu
/-- a cell is written -/
theorem Ex.write {a : Addr} {o : HO} (m : a ∈ ρ) (nt : NoTb o := by (intro _ z; cases z)) : Ex ρ H ρ (upd H a o) := by
  refine ⟨List.prefix_refl _, fun b u e n _ => ?_, fun _ m => .inl m, fun b e => ?_⟩
  · have nb : b ≠ a := fun z => n (by rw [z]; exact m)
    rw [upd_ne nb]; exact e
  · by_cases q : b = a
    · subst q; exact absurd nt (e o upd_same)
    · intro u hu; exact e u (by rw [upd_ne q]; exact hu)
theorem MRep.noTb {a : Addr} {o : HO} {u : MO} (h : MRep G ρ (upd H a o) a u) : NoTb o := by
  cases u with
  | lst l => obtain ⟨vs, h1, _⟩ := h; rw [upd_same] at h1; cases h1; intro _ z; cases z
  | ins c fs => obtain ⟨dx, vs, h1, _⟩ := h; rw [upd_same] at h1; cases h1; intro _ z; cases z
theorem nodup_at {ρ : List Addr} (nd : ρ.Nodup) {m n : Nat} {a : Addr} (h : ρ[m]? = some a) (h' : ρ[n]? = some a) : m = n := by
  obtain ⟨hm, e⟩ := List.getElem?_eq_some_iff.mp h
  obtain ⟨hn, e'⟩ := List.getElem?_eq_some_iff.mp h'
  exact (List.getElem_inj nd).mp (e.trans e'.symm)
theorem SRel.write {M : Mem} (r : SRel G ρ H M) {n : Nat} {a : Addr} {o : HO} {u : MO} (hn : ρ[n]? = some a) (hu : MRep G ρ (upd H a o) a u) : SRel G ρ (upd H a o) (M.set n u) := by
  refine ⟨by simp [r.len], r.nd, fun m b w hm hw => ?_, fun t ht => ⟨(r.tb t ht).1, ?_⟩⟩
  rotate_left 1
  · have ma := List.mem_of_getElem? hn
    have na : t.1 ≠ a := fun e => (r.tb t ht).1 (by rw [e]; exact ma)
    obtain ⟨ps, h1, h2, h3⟩ := (r.tb t ht).2
    refine ⟨ps, by rw [upd_ne na]; exact h1, h2, fun pos cv hc => ?_⟩
    obtain ⟨c, e1, e2⟩ := h3 pos cv hc
    refine ⟨c, e1, ?_⟩
    have nc : c ≠ a := fun e => by
      have hl : n < M.length := by
        have := (List.getElem?_eq_some_iff.mp hn).1
        rw [r.len] at this; exact this
      have q := r.at_ n a _ hn (List.getElem?_eq_getElem hl)
      rw [e] at e2
      revert q
      cases M[n] with
      | lst l => rintro ⟨vs, hh, _⟩; rw [hh] at e2; unfold LamX.CodeO at e2; cases e2
      | ins c fs => rintro ⟨dx, vs, hh, _⟩; rw [hh] at e2; unfold LamX.CodeO at e2; cases e2
    rw [upd_ne nc]; exact e2
  by_cases q : n = m
  · subst q
    rw [hn] at hm; cases hm
    have hl : n < M.length := by
      have := (List.getElem?_eq_some_iff.mp hn).1
      rw [r.len] at this; exact this
    rw [List.getElem?_set_self hl] at hw
    cases hw
    exact hu
  · rw [List.getElem?_set_ne q] at hw
    refine (r.at_ m b w hm hw).ext (Ex.write (List.mem_of_getElem? hn) hu.noTb) ?_
    rw [upd_ne]
    intro e; subst e
    exact q (nodup_at r.nd hn hm)
/-- the address of a cell -/
theorem SRel.cell {M : Mem} (r : SRel G ρ H M) {n : Nat} {o : MO} (h : M[n]? = some o) : ∃ a, ρ[n]? = some a ∧ MRep G ρ H a o := by
  have hl := (List.getElem?_eq_some_iff.mp h).1
  rw [← r.len] at hl
  exact ⟨_, List.getElem?_eq_getElem hl, r.at_ n _ o (List.getElem?_eq_getElem hl) h⟩
/-- behind a step: Q of every value that stands for d -/
def Pst (G : Gd) (ρ : List Addr) (H : Hp) (M' : Mem) (d : D) (Q : VK) : Prop := ∀ v ρ' H', Ex ρ H ρ' H' → SRel G ρ' H' M' → Rep G ρ' H' d v → Q v H'
theorem Pst.ext {M' : Mem} {d : D} {Q : VK} (p : Pst G ρ H M' d Q) (x : Ex ρ H ρ' H') : Pst G ρ' H' M' d Q := fun v ρ2 H2 y r h => p v ρ2 H2 (x.trans y) r h
end
end Dn

set_option Elab.async false
set_option linter.all false
set_option maxRecDepth 100000
set_option maxHeartbeats 4000000
/-! Dn, part D: operations on values. -/
namespace Dn
open PySem L2
section
variable {G : Gd} {ρ ρ' : List Addr} {H H' : Hp} {M : Mem} {Q : VK} {l : List D} {vs : List V} {d : D} {v : V}
theorem Pst.here (p : Pst G ρ H M d Q) (r : SRel G ρ H M) (h : Rep G ρ H d v) : Q v H := p v ρ H Ex.refl r h
theorem Pst.tup (p : Pst G ρ H M (.tup l) Q) (r : SRel G ρ H M) (rl : RepL G ρ H l vs) (q : Addr) (hq : H q = none) : Q (.ref q) (upd H q (.tup vs)) :=
  p _ ρ _ (Ex.laid hq) (r.laid hq) (.tup (r.notIn hq) upd_same (rl.ext (Ex.laid hq)))
theorem Pst.lst (p : Pst G ρ H M (.lst l) Q) (r : SRel G ρ H M) (rl : RepL G ρ H l vs) (q : Addr) (hq : H q = none) : Q (.ref q) (upd H q (.lst vs)) :=
  p _ ρ _ (Ex.laid hq) (r.laid hq) (.lst (r.notIn hq) upd_same (rl.ext (Ex.laid hq)))
theorem Pst.emp (p : Pst G ρ H M .emp Q) (r : SRel G ρ H M) (q : Addr) (hq : H q = none) : Q (.ref q) (upd H q (.dK [])) :=
  p _ ρ _ (Ex.laid hq) (r.laid hq) (.emp (r.notIn hq) upd_same)

theorem lstD_rep (r : SRel G ρ H M) (h : Rep G ρ H d v) (e : lstD M d = some l) : ∃ a vs, v = .ref a ∧ H a = some (.lst vs) ∧ RepL G ρ H l vs := by
  cases h with
  | lst n h rl => cases e; exact ⟨_, _, rfl, h, rl⟩
  | cell hn =>
    simp only [lstD] at e
    split at e
    · rename_i l' hm
      cases e
      obtain ⟨a', ha, vs, h1, h2⟩ := r.cell hm
      rw [hn] at ha; cases ha
      exact ⟨_, _, rfl, h1, h2⟩
    · cases e
  | _ => cases e
theorem seqD_rep (r : SRel G ρ H M) (h : Rep G ρ H d v) (e : seqD M d = some l) : ∃ a vs, v = .ref a ∧ (SqL G.K H a vs ∨ SqT G.K H a vs) ∧ RepL G ρ H l vs := by
  cases h with
  | tup n h rl => cases e; exact ⟨_, _, rfl, .inr (.of h), rl⟩
  | tup0 h => cases e; exact ⟨_, _, rfl, .inr (h H), .nil⟩
  | lst n h rl => cases e; exact ⟨_, _, rfl, .inl (.of h), rl⟩
  | ro h rl =>
    cases e
    exact ⟨_, _, rfl, .inl (h.elim (fun ⟨_, o, e⟩ => .inl (.inr ⟨o, e⟩)) fun h => h H), rl⟩
  | cell hn =>
    simp only [seqD] at e
    split at e
    · rename_i l' hm
      cases e
      obtain ⟨a', ha, vs, h1, h2⟩ := r.cell hm
      rw [hn] at ha; cases ha
      exact ⟨_, _, rfl, .inl (.of h1), h2⟩
    · cases e
  | _ => cases e

/-! ### arithmetic -/
def opOf : Bop → Operator
  | .add => .Add
  | .sub => .Sub
  | .mul => .Mult
  | .fdiv => .FloorDiv
  | .mod => .Mod
  | .pow => .Pow
  | .or_ => .BitOr
  | .and_ => .BitAnd
def rBin (G : Gd) (op : Bop) : R2 := fun x y H Q => ∃ ρ M dx dy d, SRel G ρ H M ∧ Rep G ρ H dx x ∧ Rep G ρ H dy y ∧ binD op dx dy M = some d ∧ Pst G ρ H M d Q
theorem fitL_some {α : Type} {n : Nat} {a b : α} (h : fitL n a = some b) : n ≤ sizeLine ∧ a = b := by
  unfold fitL at h
  split at h
  · rename_i q; cases h; exact ⟨q, rfl⟩
  · cases h
theorem sOk_app {a b : Str} (ha : sOk a) (hb : sOk b) (h : a.length + b.length ≤ sizeLine) : sOk (a ++ b) := by
  refine ⟨by rw [Str.length_append]; exact h, ?_⟩
  show (a.cps ++ b.cps).all _ = true
  rw [Array.all_append, ha.2, hb.2]
  rfl
theorem add_inv {x y d : D} {M : Mem} (h : binD .add x y M = some d) : (∃ i j, x = .int i ∧ y = .int j ∧ d = .int (i + j)) ∨
    (∃ a b, x = .str a ∧ y = .str b ∧ a.length + b.length ≤ sizeLine ∧ d = .str (a ++ b)) ∨
    (∃ a b, x = .tup a ∧ y = .tup b ∧ a.length + b.length ≤ sizeLine ∧ d = .tup (a ++ b)) ∨
    (∃ a b, lstD M x = some a ∧ lstD M y = some b ∧ a.length + b.length ≤ sizeLine ∧ d = .lst (a ++ b)) := by
  simp only [binD] at h
  split at h
  · cases h; exact .inl ⟨_, _, rfl, rfl, rfl⟩
  · obtain ⟨h1, h2⟩ := fitL_some h; exact .inr (.inl ⟨_, _, rfl, rfl, h1, h2.symm⟩)
  · obtain ⟨h1, h2⟩ := fitL_some h; exact .inr (.inr (.inl ⟨_, _, rfl, rfl, h1, h2.symm⟩))
  · split at h
    · rename_i e1 e2
      obtain ⟨h1, h2⟩ := fitL_some h; exact .inr (.inr (.inr ⟨_, _, e1, e2, h1, h2.symm⟩))
    · cases h
theorem mulOk_c {i j : Int} (h : mulOk i j = true) : CMul i j := by
  simp only [mulOk, Bool.or_eq_true, Bool.and_eq_true, decide_eq_true_eq] at h
  exact h
theorem op_bin {X : Cx} (hK : X.K = G.K) (op : Bop) : OpR X (binaryOp (opOf op)) (rBin G op) := by
  intro pins s σ H x y v u Q I rx ry h
  obtain ⟨ρ, M, dx, dy, d, r, hx, hy, e, p⟩ := h
  cases op with
  | add =>
    rcases add_inv e with ⟨i, j, rfl, rfl, rfl⟩ | ⟨a, b, rfl, rfl, hl, rfl⟩ | ⟨a, b, rfl, rfl, hl, rfl⟩ | ⟨a, b, e1, e2, hl, rfl⟩
    · cases hx; cases hy
      exact op_add pins s σ H _ _ v u Q I rx ry ⟨i, j, rfl, rfl, p.here r (.int _)⟩
    · cases hx with
      | str ha =>
        cases hy with
        | str hb => exact op_add_str pins s σ H _ _ v u Q I rx ry ⟨a, b, rfl, rfl, hl, p.here r (.str (sOk_app ha hb hl))⟩
    · obtain ⟨a1, v1, rfl, h1, r1⟩ := tup_rep hx
      obtain ⟨a2, v2, rfl, h2, r2⟩ := tup_rep hy
      rw [← hK] at h1 h2
      refine op_catA pins s σ H _ _ v u Q I rx ry ⟨_, _, _, _, rfl, rfl, h1, h2, by rw [← r1.len, ← r2.len]; exact hl, fun e0 => ?_, fun _ e0 => ?_, fun _ _ q hq => p.tup r (r1.app r2) q hq⟩
      · subst e0
        cases r1
        exact p.here r hy
      · subst e0
        cases r2
        rw [List.append_nil] at p
        exact p.here r hx
    · obtain ⟨a1, v1, rfl, h1, r1⟩ := lstD_rep r hx e1
      obtain ⟨a2, v2, rfl, h2, r2⟩ := lstD_rep r hy e2
      exact op_cat pins s σ H _ _ v u Q I rx ry ⟨_, _, _, _, rfl, rfl, h1, h2, by rw [← r1.len, ← r2.len]; exact hl, fun q hq => p.lst r (r1.app r2) q hq⟩
  | sub =>
    simp only [binD] at e
    split at e
    · cases e; cases hx; cases hy
      exact op_sub pins s σ H _ _ v u Q I rx ry ⟨_, _, rfl, rfl, p.here r (.int _)⟩
    · cases e
  | mul =>
    simp only [binD] at e
    split at e
    · split at e
      · rename_i q
        cases e; cases hx; cases hy
        exact op_mul pins s σ H _ _ v u Q I rx ry ⟨_, _, rfl, rfl, mulOk_c q, p.here r (.int _)⟩
      · cases e
    · cases e
  | fdiv =>
    simp only [binD] at e
    split at e
    · split at e
      · rename_i q
        cases e; cases hx; cases hy
        exact op_fdiv pins s σ H _ _ v u Q I rx ry ⟨_, _, rfl, rfl, q, p.here r (.int _)⟩
      · cases e
    · cases e
  | mod =>
    simp only [binD] at e
    split at e
    · split at e
      · rename_i q
        cases e; cases hx; cases hy
        exact op_mod pins s σ H _ _ v u Q I rx ry ⟨_, _, rfl, rfl, q, p.here r (.int _)⟩
      · cases e
    · cases e
  | pow =>
    simp only [binD] at e
    split at e
    · split at e
      · rename_i q
        cases e; cases hx; cases hy
        exact op_pow pins s σ H _ _ v u Q I rx ry ⟨_, _, rfl, rfl, q, p.here r (.int _)⟩
      · cases e
    · cases e
  | or_ => cases e
  | and_ => cases e
end

/-! ### data as the library's data -/
section
variable {G : Gd} {ρ : List Addr} {H : Hp} {M : Mem}
mutual
theorem toPy_dp : ∀ {d : D} {v : V} {p : PyData}, Rep G ρ H d v → toPy d = some p → Dp G.K H v p ∧ p.canLay0 = true
  | _, _, p, .non, e => by
    simp only [toPy] at e; cases e
    exact ⟨.non, by simp [PyData.canLay0]⟩
  | _, _, p, .bl b, e => by
    simp only [toPy] at e; cases e
    exact ⟨.bl b, by simp [PyData.canLay0]⟩
  | _, _, p, .int i, e => by
    simp only [toPy] at e; cases e
    exact ⟨.int i, by simp [PyData.canLay0]⟩
  | _, _, p, .str h, e => by
    simp only [toPy] at e; cases e
    exact ⟨.str _, by simp only [PyData.canLay0]; exact h.2⟩
  | .tup l, _, p, .tup n h r, e => by
    simp only [toPy] at e
    cases q : toPyL l with
    | none => rw [q] at e; cases e
    | some ps =>
      rw [q] at e; cases e
      obtain ⟨h1, h2⟩ := toPyL_dp r q
      exact ⟨.tup (.of h) h1, by simp only [PyData.canLay0]; exact h2⟩
  | _, _, p, .tup0 h, e => by
    simp only [toPy, toPyL, Option.map_some] at e
    cases e
    exact ⟨.tup (h H) .nil, by simp only [PyData.canLay0, PyData.canLayAll0]⟩
  | .lst l, _, p, .lst n h r, e => by
    simp only [toPy] at e
    cases q : toPyL l with
    | none => rw [q] at e; cases e
    | some ps =>
      rw [q] at e; cases e
      obtain ⟨h1, h2⟩ := toPyL_dp r q
      exact ⟨.lst (.of h) h1, by simp only [PyData.canLay0]; exact h2⟩
  | .ro l, _, p, .ro h r, e => by
    simp only [toPy] at e
    cases q : toPyL l with
    | none => rw [q] at e; cases e
    | some ps =>
      rw [q] at e; cases e
      obtain ⟨h1, h2⟩ := toPyL_dp r q
      exact ⟨.lst (h.elim (fun ⟨_, o, e⟩ => .inl (.inr ⟨o, e⟩)) fun h => h H) h1, by simp only [PyData.canLay0]; exact h2⟩
  | .obj _ _, _, _, .obj _ _ _ _, e => by simp only [toPy] at e; cases e
  | .cell _, _, _, .cell _, e => by simp only [toPy] at e; cases e
  | .emp, _, _, .emp _ _, e => by simp only [toPy] at e; cases e
  | .dkt _ _, _, _, .dkt _ _, e => by simp only [toPy] at e; cases e
theorem toPyL_dp : ∀ {l : List D} {vs : List V} {ps : List PyData}, RepL G ρ H l vs → toPyL l = some ps → DpAll G.K H vs ps ∧ PyData.canLayAll0 ps = true
  | _, _, _, .nil, e => by
    simp only [toPyL] at e; cases e
    exact ⟨.nil, by simp [PyData.canLayAll0]⟩
  | d :: l, _, ps, .cons h r, e => by
    simp only [toPyL] at e
    cases q : toPy d with
    | none => rw [q] at e; cases e
    | some p =>
      rw [q] at e
      simp only at e
      cases q2 : toPyL l with
      | none => rw [q2] at e; cases e
      | some ps =>
        rw [q2] at e; cases e
        obtain ⟨h1, h2⟩ := toPy_dp h q
        obtain ⟨h3, h4⟩ := toPyL_dp r q2
        exact ⟨.cons h1 h3, by simp only [PyData.canLayAll0, h2, h4]; rfl⟩
end
/-- what a cell's list reads as -/
theorem deref_dp {d : D} {v : V} {p : PyData} (r : SRel G ρ H M) (h : Rep G ρ H d v) (e : toPy (derefD M d) = some p) : Dp G.K H v p ∧ p.canLay0 = true := by
  cases d with
  | cell n =>
    simp only [derefD] at e
    split at e
    · rename_i l hm
      obtain ⟨a, ha, vs, h1, h2⟩ := r.cell hm
      cases h with
      | cell hn =>
        rw [hn] at ha; cases ha
        simp only [toPy] at e
        cases q : toPyL l with
        | none => rw [q] at e; cases e
        | some ps =>
          rw [q] at e; cases e
          obtain ⟨h3, h4⟩ := toPyL_dp h2 q
          exact ⟨.lst (.of h1) h3, by simp only [PyData.canLay0]; exact h4⟩
    · simp only [toPy] at e; cases e
  | _ => exact toPy_dp h e
end
section
variable {G : Gd} {X : Cx}
def rCmp (G : Gd) (op : Cop) : R2 := fun x y H Q => ∃ ρ M dx dy b, SRel G ρ H M ∧ Rep G ρ H dx x ∧ Rep G ρ H dy y ∧ cmpD op dx dy M = some b ∧ Q (.bl b) H
def copOf : Cop → CmpOp
  | .eq => .Eq
  | .ne => .NotEq
  | .lt => .Lt
  | .le => .LtE
  | .gt => .Gt
  | .ge => .GtE
  | .is_ => .Is
  | .isn => .IsNot
  | .in_ => .In
  | .nin => .NotIn
theorem shaped_of {p : PyData} (h : p.canLay0 = true) (hd : p.depth ≤ 64) : SeqAt.shaped p = true := by
  show (p.canLay0 && decide (p.depth ≤ 64)) = true
  rw [h, decide_eq_true hd]
  rfl
theorem eqD_inv {M : Mem} {x y : D} {b : Bool} (h : eqD M x y = some b) : ∃ p q, toPy (derefD M x) = some p ∧ toPy (derefD M y) = some q ∧ p.depth ≤ 64 ∧ q.depth ≤ 64 ∧ b = PyData.eqv p q := by
  simp only [eqD] at h
  split at h
  · rename_i p q e1 e2
    split at h
    · rename_i hh; cases h; exact ⟨p, q, e1, e2, hh.1, hh.2, rfl⟩
    · cases h
  · cases h
theorem inD_inv {M : Mem} {x y : D} {b : Bool} (h : inD M x y = some b) : (∃ a z c, x = .str a ∧ y = .str z ∧ a.cps.toList = [c] ∧ b = decide (c ∈ z.cps.toList)) ∨
    (∃ a z, x = .str a ∧ y = .str z ∧ b = (!(Builtin.Str.occurrences z a 0 z.length 1).isEmpty)) ∨
    (∃ p ps, toPy (derefD M x) = some p ∧ toPy (derefD M y) = some (.list ps) ∧ p.depth ≤ 64 ∧ PyData.depthAll ps ≤ 63 ∧ b = ps.any fun z => PyData.eqv z p) ∨
    (∃ p ps, toPy (derefD M x) = some p ∧ toPy (derefD M y) = some (.tuple ps) ∧ p.depth ≤ 64 ∧ PyData.depthAll ps ≤ 63 ∧ b = ps.any fun z => PyData.eqv z p) := by
  simp only [inD] at h
  split at h
  · split at h
    · rename_i c hc; cases h; exact .inl ⟨_, _, c, rfl, rfl, hc, rfl⟩
    · cases h; exact .inr (.inl ⟨_, _, rfl, rfl, rfl⟩)
  · split at h
    · rename_i p ps e1 e2
      split at h
      · rename_i hh; cases h; exact .inr (.inr (.inl ⟨p, ps, e1, e2, hh.1, hh.2, rfl⟩))
      · cases h
    · rename_i p ps e1 e2
      split at h
      · rename_i hh; cases h; exact .inr (.inr (.inr ⟨p, ps, e1, e2, hh.1, hh.2, rfl⟩))
      · cases h
    · cases h
theorem ltD_inv {x y : D} {b : Bool} (h : ltD x y = some b) : (∃ i j, x = .int i ∧ y = .int j ∧ b = decide (i < j)) ∨ ∃ i j, x = .str i ∧ y = .str j ∧ b = decide (i.cps.toList < j.cps.toList) := by
  simp only [ltD] at h
  split at h
  · cases h; exact .inl ⟨_, _, rfl, rfl, rfl⟩
  · cases h; exact .inr ⟨_, _, rfl, rfl, rfl⟩
  · cases h
theorem leD_inv {x y : D} {b : Bool} (h : leD x y = some b) : (∃ i j, x = .int i ∧ y = .int j ∧ b = decide (i ≤ j)) ∨ ∃ i j, x = .str i ∧ y = .str j ∧ b = !decide (j.cps.toList < i.cps.toList) := by
  simp only [leD] at h
  split at h
  · cases h; exact .inl ⟨_, _, rfl, rfl, rfl⟩
  · cases h; exact .inr ⟨_, _, rfl, rfl, rfl⟩
  · cases h
theorem isNon_rep {ρ : List Addr} {H : Hp} {d : D} {v : V} (h : Rep G ρ H d v) : isNon d = decide (v = .non) := by
  cases h <;> simp [isNon]
theorem sign1 {a : Str} {c : Nat} (h : a.cps.toList = [c]) : a = ⟨#[c]⟩ := by
  apply Str.ext'
  apply Array.toList_inj.mp
  rw [h]
theorem op_cmp (hK : X.K = G.K) (hu : X.A.units + 65 < cLine) (op : Cop) : OpR X (compareOp (copOf op)) (rCmp G op) := by
  intro pins s σ H x y v u Q I rx ry h
  obtain ⟨ρ, M, dx, dy, b, r, hx, hy, e, q⟩ := h
  have hu' : X.A.units + 64 < cLine := by omega
  have inn : ∀ {x y : V} {v u : Value} {dx dy : D} {b : Bool} {Q : VK} (neg : Bool), RelV x v → RelV y u → Rep G ρ H dx x → Rep G ρ H dy y → inD M dx dy = some b → Q (.bl (if neg = true then !b else b)) H →
      wpAny (model X.prog X.w) X.A (compareOp (if neg = true then .NotIn else .In) v u) (EP X pins σ Q) X.xe s := by
    intro x y v u dx dy b Q neg rx ry hx hy e q
    rcases inD_inv e with ⟨a, z, c, rfl, rfl, hc, rfl⟩ | ⟨a, z, rfl, rfl, rfl⟩ | ⟨p, ps, e1, e2, d1, d2, rfl⟩ | ⟨p, ps, e1, e2, d1, d2, rfl⟩
    · cases hx; cases hy
      have := sign1 hc
      subst this
      cases neg with
      | true => exact op_notIn_sign pins s σ H _ _ v u Q I rx ry ⟨c, z, rfl, rfl, q⟩
      | false => exact op_in_sign pins s σ H _ _ v u Q I rx ry ⟨c, z, rfl, rfl, q⟩
    · cases hx; cases hy
      cases neg with
      | true => exact op_notin_str pins s σ H _ _ v u Q I rx ry ⟨a, z, rfl, rfl, q⟩
      | false => exact op_in_str pins s σ H _ _ v u Q I rx ry ⟨a, z, rfl, rfl, q⟩
    · obtain ⟨p1, c1⟩ := deref_dp r hx e1
      obtain ⟨p2, c2⟩ := deref_dp r hy e2
      rw [← hK] at p1 p2
      have s1 := shaped_of c1 d1
      have s2 : SeqAt.shaped (.list ps) = true := shaped_of c2 (by simp only [PyData.depth]; omega)
      cases neg with
      | true => exact op_notInD hu pins s σ H _ _ v u Q I rx ry ⟨p, ps, p1, p2, s1, s2, q⟩
      | false => exact op_inD hu pins s σ H _ _ v u Q I rx ry ⟨p, ps, p1, p2, s1, s2, q⟩
    · obtain ⟨p1, c1⟩ := deref_dp r hx e1
      obtain ⟨p2, c2⟩ := deref_dp r hy e2
      rw [← hK] at p1 p2
      have s1 := shaped_of c1 d1
      have s2 : SeqAt.shaped (.tuple ps) = true := shaped_of c2 (by simp only [PyData.depth]; omega)
      obtain ⟨as, r1⟩ := Dp.reads I p x v p1 rx
      obtain ⟨bs, r2⟩ := Dp.reads I (.tuple ps) y u p2 ry
      have room := PyProof.Rows.room_in_shaped (xs := ps) s1 hu
      cases neg with
      | true => exact SeqAt.notIn_tuple_reads r2 r1 (SeqAt.canLay_of_shaped s2) (SeqAt.canLay_of_shaped s1) room ⟨.bl _, H, I, rfl, q⟩
      | false => exact SeqAt.in_tuple_reads r2 r1 (SeqAt.canLay_of_shaped s2) (SeqAt.canLay_of_shaped s1) room ⟨.bl _, H, I, rfl, q⟩
  cases op with
  | eq =>
    obtain ⟨p, p', e1, e2, d1, d2, rfl⟩ := eqD_inv e
    obtain ⟨p1, c1⟩ := deref_dp r hx e1
    obtain ⟨p2, c2⟩ := deref_dp r hy e2
    rw [← hK] at p1 p2
    exact op_eqD hu' pins s σ H _ _ v u Q I rx ry ⟨p, p', p1, p2, shaped_of c1 d1, shaped_of c2 d2, q⟩
  | ne =>
    simp only [cmpD, Option.map_eq_some_iff] at e
    obtain ⟨b', e, rfl⟩ := e
    obtain ⟨p, p', e1, e2, d1, d2, rfl⟩ := eqD_inv e
    obtain ⟨p1, c1⟩ := deref_dp r hx e1
    obtain ⟨p2, c2⟩ := deref_dp r hy e2
    rw [← hK] at p1 p2
    exact op_neD hu' pins s σ H _ _ v u Q I rx ry ⟨p, p', p1, p2, shaped_of c1 d1, shaped_of c2 d2, q⟩
  | lt =>
    rcases ltD_inv e with ⟨i, j, rfl, rfl, rfl⟩ | ⟨i, j, rfl, rfl, rfl⟩
    · cases hx; cases hy; exact op_lt pins s σ H _ _ v u Q I rx ry ⟨i, j, rfl, rfl, q⟩
    · cases hx; cases hy; exact op_lt_str pins s σ H _ _ v u Q I rx ry ⟨i, j, rfl, rfl, q⟩
  | gt =>
    rcases ltD_inv e with ⟨i, j, rfl, rfl, rfl⟩ | ⟨i, j, rfl, rfl, rfl⟩
    · cases hx; cases hy; exact op_gt pins s σ H _ _ v u Q I rx ry ⟨j, i, rfl, rfl, q⟩
    · cases hx; cases hy; exact op_gt_str pins s σ H _ _ v u Q I rx ry ⟨j, i, rfl, rfl, q⟩
  | le =>
    rcases leD_inv e with ⟨i, j, rfl, rfl, rfl⟩ | ⟨i, j, rfl, rfl, rfl⟩
    · cases hx; cases hy; exact op_le pins s σ H _ _ v u Q I rx ry ⟨i, j, rfl, rfl, q⟩
    · cases hx; cases hy; exact op_le_str pins s σ H _ _ v u Q I rx ry ⟨i, j, rfl, rfl, q⟩
  | ge =>
    rcases leD_inv e with ⟨i, j, rfl, rfl, rfl⟩ | ⟨i, j, rfl, rfl, rfl⟩
    · cases hx; cases hy; exact op_ge pins s σ H _ _ v u Q I rx ry ⟨j, i, rfl, rfl, q⟩
    · cases hx; cases hy; exact op_ge_str pins s σ H _ _ v u Q I rx ry ⟨j, i, rfl, rfl, q⟩
  | is_ =>
    simp only [cmpD] at e
    split at e
    · rename_i hn
      cases e
      rw [isNon_rep hy] at hn
      rw [isNon_rep hx] at q
      exact op_isN pins s σ H _ _ v u Q I rx ry ⟨of_decide_eq_true hn, q⟩
    · cases e
  | isn =>
    simp only [cmpD] at e
    split at e
    · rename_i hn
      cases e
      rw [isNon_rep hy] at hn
      rw [isNon_rep hx] at q
      exact op_notN pins s σ H _ _ v u Q I rx ry ⟨of_decide_eq_true hn, q⟩
    · cases e
  | in_ => exact inn false rx ry hx hy e q
  | nin =>
    simp only [cmpD, Option.map_eq_some_iff] at e
    obtain ⟨b', e, rfl⟩ := e
    exact inn true rx ry hx hy e q
end
end Dn

set_option Elab.async false
set_option linter.all false
set_option maxRecDepth 100000
set_option maxHeartbeats 4000000
/-! Dn, part E: truth, items, slices. -/
namespace Dn
open PySem PySem.Spec PyProof.Rows L2
/-- what the text's top has made of a class -/
structure CF (G : Gd) (c : Nat) (k : ClsD) : Prop where
  ic : PySem.W.findIn G.K (.ref (G.ca c)) "__class__" = some (some (.builtin "object.__class__"))
  mo : PySem.W.mroIn G.K (G.ca c) (.type "object") = some true
  kt : ∀ a ∈ (["NoneType", "bool", "int", "str", "tuple", "list", "dict"] : List String), PySem.W.kitOne G.K (.type a) (.ref (G.ca c)) = some false
  kf : ∀ b ∈ (["int", "bool", "str", "tuple", "list"] : List String), PySem.W.kitOne G.K (.ref (G.ca c)) (.type b) = some false
  kc : ∀ c', c' < G.T.cls.length → PySem.W.kitOne G.K (.ref (G.ca c')) (.ref (G.ca c)) = some (c == c')
  nb1 : ∀ a ∈ (["NoneType", "bool", "int", "str", "tuple", "list", "dict"] : List String), PySem.W.notFirst G.K (G.ca c) (.type a) = true
  nb2 : ∀ c', c' < G.T.cls.length → PySem.W.notFirst G.K (G.ca c) (.ref (G.ca c')) = true
  cl : Cls G.K (G.ca c)
  nb : PySem.W.findIn G.K (.ref (G.ca c)) "__bool__" = some none
  nl : PySem.W.findIn G.K (.ref (G.ca c)) "__len__" = some none
  nf : ∀ f ∈ k.flds, NoAttr G.K (G.ca c) (G.fnm f)
section
variable {G : Gd} {ρ : List Addr} {H : Hp} {M : Mem} {X : Cx}
theorem Rep.cls {c : Nat} {l : List D} {v : V} (h : Rep G ρ H (.obj c l) v) : ∃ k, G.T.cls[c]? = some k ∧ c < G.T.cls.length := by
  cases h with
  | obj n h e r => exact ⟨_, List.getElem?_eq_getElem e.1, e.1⟩
def rTru (G : Gd) : V → Hp → (Bool → Hp → Prop) → Prop := fun x H Q => ∃ ρ M d b, SRel G ρ H M ∧ Rep G ρ H d x ∧ truD M d = some b ∧ Q b H
theorem empty_len (s : Str) : (!s.cps.toList.isEmpty) = ((s.length : Int) != 0) := by
  have e : s.length = s.cps.toList.length := by simp [Str.length]
  rw [e]
  cases s.cps.toList with
  | nil => rfl
  | cons a l =>
    have : ((((a :: l).length : Nat) : Int) != 0) = true := by
      simp only [bne_iff_ne, ne_eq, List.length_cons]
      omega
    rw [this]; rfl
theorem isEmpty_rep {l : List D} {vs : List V} (r : RepL G ρ H l vs) : (!l.isEmpty) = !vs.isEmpty := by
  cases r <;> rfl
theorem tru_all (hK : X.K = G.K) (hC : ∀ c k, G.T.cls[c]? = some k → CF G c k) : TruR X (rTru G) := by
  intro pins s σ H x v Q I rx h
  obtain ⟨ρ, M, d, b, r, hx, e, q⟩ := h
  have seq : ∀ {l : List D}, seqD M d = some l → b = (!l.isEmpty) → wpAny (model X.prog X.w) X.A (truthy v) (TP X pins σ Q) X.xe s := by
    intro l hl hb
    obtain ⟨a, vs, rfl, hh, rl⟩ := seqD_rep r hx hl
    rw [← hK] at hh
    rw [isEmpty_rep rl] at hb
    refine tru_ok pins s σ H _ v Q I rx ⟨b, ?_, q⟩
    rcases hh with hh | hh
    · exact .inl ⟨vs, hh, hb⟩
    · exact .inr (.inl ⟨vs, hh, hb⟩)
  cases d with
  | non => cases hx; simp only [truD] at e; cases e; exact tru_ok pins s σ H _ v Q I rx ⟨_, rfl, q⟩
  | bl z => cases hx; simp only [truD] at e; cases e; exact tru_ok pins s σ H _ v Q I rx ⟨_, rfl, q⟩
  | int i => cases hx; simp only [truD] at e; cases e; exact tru_ok pins s σ H _ v Q I rx ⟨_, rfl, q⟩
  | str z =>
    cases hx with
    | str hz =>
      simp only [truD] at e; cases e
      exact tru_ok pins s σ H _ v Q I rx ⟨_, ⟨hz.1, empty_len z⟩, q⟩
  | tup l => simp only [truD, seqD, Option.map_some] at e; cases e; exact seq rfl rfl
  | lst l => simp only [truD, seqD, Option.map_some] at e; cases e; exact seq rfl rfl
  | ro l => simp only [truD, seqD, Option.map_some] at e; cases e; exact seq rfl rfl
  | cell n =>
    simp only [truD] at e
    cases hs : seqD M (.cell n) with
    | none => rw [hs] at e; cases e
    | some l => rw [hs] at e; cases e; exact seq hs rfl
  | emp => simp only [truD, seqD, Option.map_none] at e; cases e
  | dkt ks v => simp only [truD, seqD, Option.map_none] at e; cases e
  | obj c l =>
    simp only [truD] at e; cases e
    obtain ⟨k, hk, _⟩ := hx.cls
    cases hx with
    | obj n h e2 rl =>
      have C := hC _ k hk
      cases rx
      obtain ⟨mA, O, _⟩ := ins_get I.hok h
      obtain ⟨od, J, _⟩ := O.look
      obtain ⟨m, F⟩ := I.fr
      have kin := I.ok.mod.kin
      rw [hK] at kin
      exact PySem.W.truthy_K0 F kin J C.nb C.nl ⟨H, I, q⟩

def rNeg (G : Gd) : V → Hp → VK → Prop := rU fun i => .int (-i)

theorem ro_rep {l : List D} {v : V} (h : Rep G ρ H (.ro l) v) : ∃ a vs, v = .ref a ∧ SqL G.K H a vs ∧ RepL G ρ H l vs := by
  cases h with
  | ro h rl => exact ⟨_, _, rfl, h.elim (fun ⟨_, o, e⟩ => .inl (.inr ⟨o, e⟩)) fun h => h H, rl⟩
/-! ### items -/
def rIdx (G : Gd) : R2 := fun x y H Q => ∃ ρ M dx dy d, SRel G ρ H M ∧ Rep G ρ H dx x ∧ Rep G ρ H dy y ∧ idxD M dx dy = some d ∧ Pst G ρ H M d Q
theorem atI_rep {l : List D} {vs : List V} {i : Int} {d : D} (r : RepL G ρ H l vs) (h : atD l i = some d) : ∃ v, atI vs i = some v ∧ Rep G ρ H d v := by
  unfold atD atI at h
  unfold atI
  rw [← r.len]
  cases e : ixN l.length i with
  | none => rw [e] at h; cases h
  | some j =>
    rw [e] at h
    exact r.get (i := j) h
theorem sOk1 {c : Nat} (h : c < 0x110000) : sOk ⟨#[c]⟩ := by
  refine ⟨by show 1 ≤ sizeLine; rw [sizeLine_eq]; omega, ?_⟩
  simp [h]
theorem sOk_mem {s : Str} (h : sOk s) {c : Nat} (m : c ∈ s.cps.toList) : c < 0x110000 := by
  have := Array.all_eq_true'.mp h.2 c (by simpa using m)
  simpa using this
theorem ix_all (hK : X.K = G.K) : IxR X (rIdx G) := by
  intro value slice pins s σ H x y v u Q I rx ry h hs
  obtain ⟨ρ, M, dx, dy, d, r, hx, hy, e, p⟩ := h
  cases dy with
  | int i =>
    cases hy
    simp only [idxD] at e
    have seq : (seqD M dx).bind (fun l => atD l i) = some d → wpAny (model X.prog X.w) X.A (subscriptTail value slice v u) (EP X pins σ Q) X.xe s := by
      intro e
      cases hl : seqD M dx with
      | none => rw [hl] at e; cases e
      | some l =>
        rw [hl] at e
        simp only [Option.bind_some] at e
        obtain ⟨a, vs, rfl, hh, rl⟩ := seqD_rep r hx hl
        obtain ⟨w, hw, rw'⟩ := atI_rep rl e
        rw [← hK] at hh
        refine ix_seq value slice pins s σ H _ _ v u Q I rx ry ?_ hs
        rcases hh with hh | hh
        · exact .inl ⟨a, vs, i, w, rfl, rfl, hh, hw, p.here r rw'⟩
        · exact .inr (.inl ⟨a, vs, i, w, rfl, rfl, hh, hw, p.here r rw'⟩)
    cases dx with
    | str z =>
      cases hx with
      | str hz =>
        simp only [Option.map_eq_some_iff] at e
        obtain ⟨c, hc, rfl⟩ := e
        refine ix_str value slice pins s σ H _ _ v u Q I rx ry ⟨z, i, c, rfl, rfl, hz.1, hc, p.here r (.str (sOk1 (sOk_mem hz ?_)))⟩ hs
        obtain ⟨j, _, h2, _⟩ := atI_get hc
        exact List.mem_of_getElem? h2
    | _ => exact seq e
  | _ => cases e

/-! ### slices -/
def rSl (G : Gd) : V → Option Int → Option Int → Hp → VK → Prop := fun x lo hi H Q => ∃ ρ M dx d, SRel G ρ H M ∧ Rep G ρ H dx x ∧ sliceD M dx lo hi = some d ∧ Pst G ρ H M d Q
theorem cut_rep {l : List D} {vs : List V} (r : RepL G ρ H l vs) (lo hi : Option Int) : RepL G ρ H (cutD l lo hi) (cutV vs lo hi) := by
  unfold cutD cutV
  rw [← r.len]
  exact (r.drop _).take _
theorem cut_whole {l : List D} {lo hi : Option Int} (h : HT.sIx l.length 0 lo = 0 ∧ HT.sIx l.length l.length hi = l.length) : cutD l lo hi = l := by
  unfold cutD
  rw [h.1, h.2]
  simp
theorem sOk_sub {s t : Str} (h : sOk s) (hl : t.length ≤ s.length) (hm : ∀ c ∈ t.cps.toList, c ∈ s.cps.toList) : sOk t := by
  refine ⟨Nat.le_trans hl h.1, ?_⟩
  rw [Array.all_eq_true']
  intro c hc
  have := sOk_mem h (hm c (by simpa using hc))
  simpa using this
theorem sOk_cut {s : Str} (h : sOk s) (lo hi : Option Int) : sOk (cutS s lo hi) := by
  refine sOk_sub h (cutS_length s lo hi) fun c hc => ?_
  unfold cutS at hc
  simp only at hc
  exact List.mem_of_mem_drop (List.mem_of_mem_take (by simpa using hc))
theorem sl_all (hK : X.K = G.K) : SlR X (rSl G) := by
  intro pins s σ H x v vl vu lo hi sl Q I rx hs pl pu h
  obtain ⟨ρ, M, dx, d, r, hx, e, p⟩ := h
  have lst : (lstD M dx).map (fun l => D.lst (cutD l lo hi)) = some d → ∃ T id, typeLookup (.type T) "__getitem__" = pure (some (.builtin id)) ∧ s.TypeIs v T ∧ wpAny (model X.prog X.w) X.A (getItem v (.ref sl)) (EP X pins σ Q) X.xe s := by
    intro e
    cases hl : lstD M dx with
    | none => rw [hl] at e; cases e
    | some l =>
      rw [hl] at e; cases e
      obtain ⟨a, vs, rfl, hh, rl⟩ := lstD_rep r hx hl
      exact sl_list pins s σ H _ v vl vu lo hi sl Q I rx hs pl pu ⟨a, vs, rfl, SqL.of hh, p.lst r (cut_rep rl lo hi)⟩
  cases dx with
  | tup l =>
    simp only [sliceD] at e; cases e
    obtain ⟨a, us, rfl, h, rl⟩ := tup_rep hx
    rw [← hK] at h
    refine sl_tupA pins s σ H _ v vl vu lo hi sl Q I rx hs pl pu ⟨_, _, rfl, h, fun hw => ?_, fun hw => p.tup r (cut_rep rl lo hi)⟩
    rw [← rl.len] at hw
    rw [cut_whole hw] at p
    exact p.here r hx
  | str z =>
    simp only [sliceD] at e; cases e
    cases hx with
    | str hz => exact sl_str pins s σ H _ v vl vu lo hi sl Q I rx hs pl pu ⟨z, rfl, hz.1, p.here r (.str (sOk_cut hz lo hi))⟩
  | ro l =>
    simp only [sliceD] at e; cases e
    obtain ⟨a, vs, rfl, hh, rl⟩ := ro_rep hx
    rw [← hK] at hh
    exact sl_list pins s σ H _ v vl vu lo hi sl Q I rx hs pl pu ⟨a, vs, rfl, hh, p.lst r (cut_rep rl lo hi)⟩
  | lst l => exact lst e
  | cell n => exact lst e
  | _ => cases e

/-! ### x[::-1] -/
theorem rev_places (n : Nat) : Builtin.Slice.sliceAdjust none none (-1) (n : Int) = ((n : Int) - 1, -1) := rfl
theorem rev_many (n : Nat) : Builtin.Slice.slicePlaces ((n : Int) - 1) (-1) (-1) = n := by
  unfold Builtin.Slice.slicePlaces
  rw [if_neg (by omega)]
  by_cases h : (n : Int) - 1 > -1
  · rw [if_pos h]
    have e : ((n : Int) - 1 - -1 - 1) / (- -1) + 1 = n := by
      rw [show (- -1 : Int) = 1 from rfl, Int.ediv_one]; omega
    rw [e]; simp
  · rw [if_neg h]; simp; omega
theorem applied_rev {prog : Program} {w : World} {A : Around} {E : Value → Shared → Prop} {s : Shared} {sl : Addr} {t : Tok} {n : Nat} {Q : Int × Int × Nat → Shared → Prop} (hs : s.heap.IsSliceOf sl .none .none (.int (-1) t))
    (h : Q ((n : Int) - 1, -1, n) s) : wpAny (model prog w) A (Builtin.Slice.sliceApplied (.ref sl) (pure (n : Int))) Q E s := by
  obtain ⟨os, g1, g2, g3⟩ := id hs
  unfold Builtin.Slice.sliceApplied Builtin.Slice.sliceFields
  refine wpAny_bind (wpAny_bind (wpAny_field g1 g3 (x := .none) rfl (wpAny_bind (wpAny_field g1 g3 (x := .none) rfl (wpAny_bind (wpAny_field g1 g3 (x := .int (-1) t) rfl (wpAny_pure ?_)))))))
  refine wpAny_bind (slicePart_int ?_)
  show wpAny _ _ (if ((-1 : Int) == 0) = true then _ else _) _ _ s
  rw [if_neg (by decide)]
  refine wpAny_bind (slicePart_none (wpAny_bind (slicePart_none (wpAny_bind (wpAny_pure ?_)))))
  show wpAny _ _ (match Builtin.Slice.sliceAdjust none none (-1) (n : Int) with | (lo, hi) => pure (lo, (-1 : Int), Builtin.Slice.slicePlaces lo hi (-1))) _ _ s
  rw [rev_places]
  show wpAny _ _ (pure ((n : Int) - 1, (-1 : Int), Builtin.Slice.slicePlaces ((n : Int) - 1) (-1) (-1))) _ _ s
  rw [rev_many]
  exact wpAny_pure h
theorem fm_congr {α β : Type} {f g : α → Option β} : ∀ {l : List α}, (∀ k ∈ l, f k = g k) → l.filterMap f = l.filterMap g
  | [], _ => rfl
  | a :: l, h => by
    rw [List.filterMap_cons, List.filterMap_cons, h a List.mem_cons_self, fm_congr fun k hk => h k (List.mem_cons_of_mem _ hk)]
theorem pick_rev (xs : Array Value) : ((List.range xs.size).filterMap fun (k : Nat) => xs[((xs.size : Int) - 1 + (k : Int) * -1).toNat]?).toArray = xs.toList.reverse.toArray := by
  congr 1
  have e : ∀ k ∈ List.range xs.size, (fun (k : Nat) => xs[((xs.size : Int) - 1 + (k : Int) * -1).toNat]?) k = (fun (k : Nat) => xs.toList.reverse[k]?) k := by
    intro k hk
    have hk := List.mem_range.mp hk
    show xs[((xs.size : Int) - 1 + (k : Int) * -1).toNat]? = xs.toList.reverse[k]?
    have e1 : ((xs.size : Int) - 1 + (k : Int) * -1).toNat = xs.size - 1 - k := by omega
    rw [e1, List.getElem?_reverse (by simpa using hk)]
    simp
  rw [fm_congr e]
  have hl : xs.size = xs.toList.reverse.length := by simp
  rw [hl]
  generalize xs.toList.reverse = l
  induction l with
  | nil => rfl
  | cons a l ih =>
    rw [List.length_cons, List.range_succ_eq_map, List.filterMap_cons]
    simp only [List.getElem?_cons_zero, List.filterMap_map]
    congr 1
theorem get_rev {prog : Program} {w : World} {A : Around} {E : Value → Shared → Prop} {s : Shared} {t sl : Addr} {tk : Tok} {items : Array Value} {Q : Value → Shared → Prop} (ht : IsTup s.heap t items) (hs : s.heap.IsSliceOf sl .none .none (.int (-1) tk))
    (h : Q (.ref s.heap.objs.size) { s with heap := s.heap.push { cls := .type "tuple", data := .seq items.toList.reverse.toArray } })
    (hsz : items.size ≤ sizeLine) : wpAny (model prog w) A (getItem (.ref t) (.ref sl)) Q E s := by
  have fits : sizeOk (.seq items.toList.reverse.toArray) := by
    show items.toList.reverse.toArray.size ≤ sizeLine
    simpa using hsz
  obtain ⟨os, g1, g2, g3⟩ := id hs
  have hTs : s.TypeIs (.ref sl) "slice" := ⟨os, g1, g2⟩
  unfold getItem
  try with_reducible refine wpAny_holding ?_
  first | refine wpAny_bind (wpAny_pure ?_) | skip
  refine wpAny_bind (wpAny_sequenceKey ht.typeIs (by decide) ?_)
  refine wpAny_bind (wpAny_callSpecial?_slot (name := Str.ofString "__getitem__") ht.typeIs PyProof.Rows.slot_tuple_getitem
    (wpAny_call_entry PyProof.Rows.slot_tuple_getitem ht.typeIs entry_tuple_getitem ?_ (args_tuple_getitem _ _)))
  show wpAny _ _ (Builtin.Tuple.tupleItemsOf (.ref t) >>= _) _ _ s
  refine wpAny_bind (tupleItemsOf_ ht ?_)
  refine wpAny_bind (wpAny_typeOf hTs ?_)
  rw [if_pos (by decide)]
  refine wpAny_bind (applied_rev hs ?_)
  have hno : ¬ (((items.size : Int) - 1 == 0 && (-1 : Int) == 1 && items.size == items.size) = true) := by
    intro q
    rw [Bool.and_eq_true, Bool.and_eq_true] at q
    exact absurd (eq_of_beq q.1.2) (by decide)
  show wpAny _ _ (if ((items.size : Int) - 1 == 0 && (-1 : Int) == 1 && items.size == items.size) = true then _ else _) _ _ s
  rw [if_neg hno, pick_rev]
  first
    | exact wpAny_bind (m := Builtin.Tuple.tupleExact _) (wpAny_newObj_type (wpAny_pure ⟨_, rfl, wpAny_pure h⟩) fits)
    | exact wpAny_bind (m := Builtin.Tuple.tupleExact _) (wpAny_newObj_type (wpAny_bind (wpAny_pure (wpAny_pure ⟨_, rfl, wpAny_pure h⟩))) fits)
    | exact wpAny_bind (wpAny_bind (m := Builtin.Tuple.tupleExact _) (wpAny_newObj_type (wpAny_pure (wpAny_pure ⟨_, rfl, wpAny_pure h⟩)) fits))
    | exact wpAny_bind (wpAny_bind (m := Builtin.Tuple.tupleExact _) (wpAny_newObj_type (wpAny_pure ⟨_, rfl, wpAny_pure h⟩) fits))
def tRev (G : Gd) (te : TE) : TE := fun σ H Q => te σ H fun x H1 => ∃ ρ M dx d, SRel G ρ H1 M ∧ Rep G ρ H1 dx x ∧ revD M dx = some d ∧ Pst G ρ H1 M d Q
theorem pe_rev (hK : X.K = G.K) {e : Expr} {te : TE} {k : Nat} {p1 p2 p3 pos : Pos} (he : PE X e te) : PE X (.Subscript e (.Slice none none (some (.UnaryOp .USub (.Constant (.int 1) k p1) p2)) p3) pos) (tRev G te) := by
  refine ⟨fun pins s σ H Q I h => ?_⟩
  refine Subscript_ (thn (he.run pins s σ H _ I h) fun v s1 ⟨x, H1, I1, r1, q1⟩ => ?_)
  obtain ⟨ρ, M, dx, d, r, hx, e1, p⟩ := q1
  have hst : PO X (some (.UnaryOp .USub (.Constant (.int 1) k p1) p2)) (tPart (tUn (rU fun i => .int (-i)) (tC (.int 1)))) := po_some (pe_un un_neg pe_int)
  refine wpAny_Slice (thn (po_none.run pins s1 σ H1 (fun o H2 => o = none ∧ H2 = H1) I1 ⟨rfl, rfl⟩) fun vl s2 ⟨l, H2, I2, pl, el, e2⟩ => ?_)
  subst el e2
  refine thn (po_none.run pins s2 σ H2 (fun o H3 => o = none ∧ H3 = H2) I2 ⟨rfl, rfl⟩) fun vu s3 ⟨u, H3, I3, pu, eu, e3⟩ => ?_
  subst eu e3
  refine thn (hst.run pins s3 σ H3 (fun o H4 => o = some (-1) ∧ H4 = H3) I3 ⟨1, rfl, -1, rfl, rfl, rfl⟩) fun vs s4 ⟨o, H4, I4, ps, eo, e4⟩ => ?_
  subst eo e4
  have I5 : Inv X pins σ H4 { s4 with heap := s4.heap.push { cls := .type "slice", data := .fields #[vl, vu, vs] } } := I4.kept (t' := s4.toks) fun b ob q => Heap.get?_push_of_some _ q
  show wpAny (model X.prog X.w) X.A (subscriptTail e (.Slice none none (some (.UnaryOp .USub (.Constant (.int 1) k p1) p2)) p3) v (.ref s4.heap.objs.size)) (EP X pins σ Q) X.xe { s4 with heap := s4.heap.push { cls := .type "slice", data := .fields #[vl, vu, vs] } }
  have lst : (lstD M dx).map (fun l => D.lst l.reverse) = some d → wpAny (model X.prog X.w) X.A (subscriptTail e (.Slice none none (some (.UnaryOp .USub (.Constant (.int 1) k p1) p2)) p3) v (.ref s4.heap.objs.size)) (EP X pins σ Q) X.xe { s4 with heap := s4.heap.push { cls := .type "slice", data := .fields #[vl, vu, vs] } } := by
    intro e1
    cases hl : lstD M dx with
    | none => rw [hl] at e1; cases e1
    | some l =>
      rw [hl] at e1; cases e1
      obtain ⟨a, us, rfl, hh, rl⟩ := lstD_rep r hx hl
      cases r1
      obtain ⟨its, rv, ht, hz⟩ := I5.list (SqL.of hh)
      have hlen := rv.length
      refine tail_any (ops := [.ref a, .ref s4.heap.objs.size]) ht.isList.typeIs (PySem.slot_list_getitem.lookup) ?_ (by with_unfolding_all rfl)
      refine wpAny_getItem_list_slice ht.isList (Heap.IsSliceOf.new _ vl vu vs) pl pu ps (by decide) ?_ (by rw [List.size_toArray]; omega)
      rw [PySem.W.krv_pick]
      refine ⟨.ref _, _, I5.laid (t' := s4.toks) (o := .lst us.reverse) (fun b ob q => Heap.get?_push_of_some _ q) (Nat.le_refl _) ?_, rfl, p.lst r rl.rev _ (I5.hok.fresh (Nat.le_refl _))⟩
      exact ⟨by rw [List.length_reverse]; exact hz, _, 0, rv.reverse, Heap.get?_push_size _ rfl⟩
  cases dx with
  | tup l =>
    simp only [revD] at e1; cases e1
    obtain ⟨a, us, rfl, h, rl⟩ := tup_rep hx
    rw [← hK] at h
    cases r1
    obtain ⟨its, rv, ht, hz⟩ := I5.tuple h
    have hlen := rv.length
    cases pl
    cases pu
    cases ps with
    | int _ tk =>
      refine tail_any (ops := [_, .ref s4.heap.objs.size]) ht.typeIs (PyProof.Rows.slot_tuple_getitem.lookup) ?_ (by with_unfolding_all rfl)
      refine get_rev ht (Heap.IsSliceOf.new ..) ?_ (by rw [List.size_toArray]; omega)
      refine ⟨.ref _, _, I5.laid (t' := s4.toks) (fun b ob q => Heap.get?_push_of_some _ q) (Nat.le_refl _) ?_, rfl, p.tup r rl.rev _ (I5.hok.fresh (Nat.le_refl _))⟩
      exact ⟨by rw [List.length_reverse]; exact hz, _, rv.reverse, IsTup.new ..⟩
  | lst l => exact lst e1
  | cell n => exact lst e1
  | _ => cases e1
end

/-! ### x[::2], x[1::2] -/
section
variable {X : Cx} {G : Gd}
theorem Vals.other : ∀ {b : Bool} {vs : List V} {us : List Value}, Vals vs us → Vals (Dn.other b vs) (Dn.other b us)
  | false, _, _, .nil => .nil
  | true, _, _, .nil => .nil
  | false, _, _, .cons x r => .cons x (Vals.other (b := true) r)
  | true, _, _, .cons _ r => Vals.other (b := false) r
theorem other_len {α : Type} : ∀ (b : Bool) (l : List α), (other b l).length = (l.length + 1 - b.toNat) / 2
  | false, [] => by simp [other]
  | true, [] => by simp [other]
  | false, x :: r => by
    show (x :: other true r).length = _
    rw [List.length_cons, other_len true r, List.length_cons]
    show (r.length + 1 - 1) / 2 + 1 = (r.length + 1 + 1 - 0) / 2
    omega
  | true, x :: r => by
    show (other false r).length = _
    rw [other_len false r, List.length_cons]
    show (r.length + 1 - 0) / 2 = (r.length + 1 + 1 - 1) / 2
    omega
theorem other_get {α : Type} : ∀ (b : Bool) (l : List α) (k : Nat), (other b l)[k]? = l[b.toNat + 2 * k]?
  | false, [], k => by simp [other]
  | true, [], k => by simp [other]
  | false, x :: r, 0 => rfl
  | false, x :: r, k + 1 => by
    show (x :: other true r)[k + 1]? = (x :: r)[0 + 2 * (k + 1)]?
    rw [List.getElem?_cons_succ, other_get true r k, show 0 + 2 * (k + 1) = (1 + 2 * k) + 1 by omega, List.getElem?_cons_succ]
    rfl
  | true, x :: r, k => by
    show (other false r)[k]? = (x :: r)[1 + 2 * k]?
    rw [other_get false r k, show 1 + 2 * k = (0 + 2 * k) + 1 by omega, List.getElem?_cons_succ]
    rfl
theorem range_get {α : Type} (l : List α) : ((List.range l.length).filterMap fun k => l[k]?) = l := by
  induction l with
  | nil => rfl
  | cons a l ih =>
    rw [List.length_cons, List.range_succ_eq_map, List.filterMap_cons]
    simp only [List.getElem?_cons_zero, List.filterMap_map]
    congr 1
/-- where it begins, what stands for it in the slice -/
def lowI (b : Bool) : Option Int := if b then some 1 else none
theorem stp_places (b : Bool) (n : Nat) : Builtin.Slice.sliceAdjust (lowI b) none 2 (n : Int) = (((min b.toNat n : Nat) : Int), (n : Int)) := by
  cases b
  · show (((0 : Int), (n : Int)) : Int × Int) = (((min 0 n : Nat) : Int), (n : Int))
    rw [Nat.zero_min]
    rfl
  · show (((if (1 : Int) < 0 then max ((1 : Int) + n) 0 else min 1 (n : Int)), (n : Int)) : Int × Int) = (((min 1 n : Nat) : Int), (n : Int))
    rw [if_neg (by decide)]
    have : (min 1 (n : Int)) = ((min 1 n : Nat) : Int) := by omega
    rw [this]
theorem stp_many (b : Bool) (n : Nat) : Builtin.Slice.slicePlaces ((min b.toNat n : Nat) : Int) (n : Int) 2 = (n + 1 - b.toNat) / 2 := by
  unfold Builtin.Slice.slicePlaces
  rw [if_pos (by decide)]
  have hb : b.toNat ≤ 1 := by cases b <;> decide
  by_cases h : ((min b.toNat n : Nat) : Int) < (n : Int)
  · rw [if_pos h]
    omega
  · rw [if_neg h]
    have : n ≤ b.toNat := by omega
    simp
    omega
theorem pick_stp (b : Bool) (xs : Array Value) : ((List.range ((xs.size + 1 - b.toNat) / 2)).filterMap fun (k : Nat) => xs[(((min b.toNat xs.size : Nat) : Int) + (k : Int) * 2).toNat]?).toArray = (other b xs.toList).toArray := by
  congr 1
  have hb : b.toNat ≤ 1 := by cases b <;> decide
  have e : ∀ k ∈ List.range ((xs.size + 1 - b.toNat) / 2), (fun (k : Nat) => xs[(((min b.toNat xs.size : Nat) : Int) + (k : Int) * 2).toNat]?) k = (fun (k : Nat) => (other b xs.toList)[k]?) k := by
    intro k hk
    have hk := List.mem_range.mp hk
    show xs[(((min b.toNat xs.size : Nat) : Int) + (k : Int) * 2).toNat]? = (other b xs.toList)[k]?
    rw [other_get, show (((min b.toNat xs.size : Nat) : Int) + (k : Int) * 2).toNat = b.toNat + 2 * k by omega]
    simp
  rw [fm_congr e]
  have hl : (xs.size + 1 - b.toNat) / 2 = (other b xs.toList).length := by rw [other_len]; simp
  rw [hl, range_get]
theorem applied_stp {prog : Program} {w : World} {A : Around} {E : Value → Shared → Prop} {s : Shared} {sl : Addr} {t : Tok} {n : Nat} {b : Bool} {vl : Value} {Q : Int × Int × Nat → Shared → Prop} (hl : IsPart vl (lowI b)) (hs : s.heap.IsSliceOf sl vl .none (.int 2 t))
    (h : Q (((min b.toNat n : Nat) : Int), 2, (n + 1 - b.toNat) / 2) s) : wpAny (model prog w) A (Builtin.Slice.sliceApplied (.ref sl) (pure (n : Int))) Q E s := by
  obtain ⟨os, g1, g2, g3⟩ := id hs
  unfold Builtin.Slice.sliceApplied Builtin.Slice.sliceFields
  refine wpAny_bind (wpAny_bind (wpAny_field g1 g3 (x := vl) rfl (wpAny_bind (wpAny_field g1 g3 (x := .none) rfl (wpAny_bind (wpAny_field g1 g3 (x := .int 2 t) rfl (wpAny_pure ?_)))))))
  refine wpAny_bind (slicePart_int ?_)
  show wpAny _ _ (if ((2 : Int) == 0) = true then _ else _) _ _ s
  rw [if_neg (by decide)]
  have go : wpAny (model prog w) A (pure (((min b.toNat n : Nat) : Int), (2 : Int), Builtin.Slice.slicePlaces ((min b.toNat n : Nat) : Int) (n : Int) 2)) Q E s := by
    rw [stp_many]
    exact wpAny_pure h
  refine wpAny_bind (HT.slicePart_ hl (wpAny_bind (slicePart_none (wpAny_bind (wpAny_pure ?_)))))
  show wpAny _ _ (match Builtin.Slice.sliceAdjust (lowI b) none 2 (n : Int) with | (lo, hi) => pure (lo, (2 : Int), Builtin.Slice.slicePlaces lo hi 2)) _ _ s
  rw [stp_places]
  exact go
theorem get_stp {prog : Program} {w : World} {A : Around} {E : Value → Shared → Prop} {s : Shared} {t sl : Addr} {tk : Tok} {items : Array Value} {b : Bool} {vl : Value} {Q : Value → Shared → Prop} (hl : IsPart vl (lowI b)) (ht : IsTup s.heap t items) (hs : s.heap.IsSliceOf sl vl .none (.int 2 tk))
    (h : Q (.ref s.heap.objs.size) { s with heap := s.heap.push { cls := .type "tuple", data := .seq (other b items.toList).toArray } })
    (hsz : items.size ≤ sizeLine) : wpAny (model prog w) A (getItem (.ref t) (.ref sl)) Q E s := by
  have fits : sizeOk (.seq (other b items.toList).toArray) := by
    show (other b items.toList).toArray.size ≤ sizeLine
    rw [List.size_toArray, other_len, Array.length_toList]
    omega
  obtain ⟨os, g1, g2, g3⟩ := id hs
  have hTs : s.TypeIs (.ref sl) "slice" := ⟨os, g1, g2⟩
  unfold getItem
  try with_reducible refine wpAny_holding ?_
  first | refine wpAny_bind (wpAny_pure ?_) | skip
  refine wpAny_bind (wpAny_sequenceKey ht.typeIs (by decide) ?_)
  refine wpAny_bind (wpAny_callSpecial?_slot (name := Str.ofString "__getitem__") ht.typeIs PyProof.Rows.slot_tuple_getitem
    (wpAny_call_entry PyProof.Rows.slot_tuple_getitem ht.typeIs entry_tuple_getitem ?_ (args_tuple_getitem _ _)))
  show wpAny _ _ (Builtin.Tuple.tupleItemsOf (.ref t) >>= _) _ _ s
  refine wpAny_bind (tupleItemsOf_ ht ?_)
  refine wpAny_bind (wpAny_typeOf hTs ?_)
  rw [if_pos (by decide)]
  refine wpAny_bind (applied_stp hl hs ?_)
  have hno : ¬ ((((min b.toNat items.size : Nat) : Int) == 0 && (2 : Int) == 1 && (items.size + 1 - b.toNat) / 2 == items.size) = true) := by
    intro q
    rw [Bool.and_eq_true, Bool.and_eq_true] at q
    exact absurd (eq_of_beq q.1.2) (by decide)
  show wpAny _ _ (if (((min b.toNat items.size : Nat) : Int) == 0 && (2 : Int) == 1 && (items.size + 1 - b.toNat) / 2 == items.size) = true then _ else _) _ _ s
  rw [if_neg hno, pick_stp]
  first
    | exact wpAny_bind (m := Builtin.Tuple.tupleExact _) (wpAny_newObj_type (wpAny_pure ⟨_, rfl, wpAny_pure h⟩) fits)
    | exact wpAny_bind (m := Builtin.Tuple.tupleExact _) (wpAny_newObj_type (wpAny_bind (wpAny_pure (wpAny_pure ⟨_, rfl, wpAny_pure h⟩))) fits)
    | exact wpAny_bind (wpAny_bind (m := Builtin.Tuple.tupleExact _) (wpAny_newObj_type (wpAny_pure (wpAny_pure ⟨_, rfl, wpAny_pure h⟩)) fits))
    | exact wpAny_bind (wpAny_bind (m := Builtin.Tuple.tupleExact _) (wpAny_newObj_type (wpAny_pure ⟨_, rfl, wpAny_pure h⟩) fits))
def tStp (G : Gd) (b : Bool) (te : TE) : TE := fun σ H Q => te σ H fun x H1 => ∃ ρ M dx d, SRel G ρ H1 M ∧ Rep G ρ H1 dx x ∧ stpD b dx = some d ∧ Pst G ρ H1 M d Q
theorem pe_stp (hK : X.K = G.K) {b : Bool} {e : Expr} {lo : Option Expr} {te : TE} {tl : TO} {k : Nat} {p1 p3 pos : Pos} (he : PE X e te) (hl : PO X lo tl) (hlt : ∀ σ H, tl σ H fun o H2 => o = lowI b ∧ H2 = H) : PE X (.Subscript e (.Slice lo none (some (.Constant (.int 2) k p1)) p3) pos) (tStp G b te) := by
  refine ⟨fun pins s σ H Q I h => ?_⟩
  refine Subscript_ (thn (he.run pins s σ H _ I h) fun v s1 ⟨x, H1, I1, r1, q1⟩ => ?_)
  obtain ⟨ρ, M, dx, d, r, hx, e1, p⟩ := q1
  have hst : PO X (some (.Constant (.int 2) k p1)) (tPart (tC (.int 2))) := po_some pe_int
  refine wpAny_Slice (thn (hl.run pins s1 σ H1 (fun o H2 => o = lowI b ∧ H2 = H1) I1 (hlt σ H1)) fun vl s2 ⟨l, H2, I2, pl, el, e2⟩ => ?_)
  subst el e2
  refine thn (po_none.run pins s2 σ H2 (fun o H3 => o = none ∧ H3 = H2) I2 ⟨rfl, rfl⟩) fun vu s3 ⟨u, H3, I3, pu, eu, e3⟩ => ?_
  subst eu e3
  refine thn (hst.run pins s3 σ H3 (fun o H4 => o = some 2 ∧ H4 = H3) I3 ⟨2, rfl, rfl, rfl⟩) fun vs s4 ⟨o, H4, I4, ps, eo, e4⟩ => ?_
  subst eo e4
  have I5 : Inv X pins σ H4 { s4 with heap := s4.heap.push { cls := .type "slice", data := .fields #[vl, vu, vs] } } := I4.kept (t' := s4.toks) fun b ob q => Heap.get?_push_of_some _ q
  show wpAny (model X.prog X.w) X.A (subscriptTail e (.Slice lo none (some (.Constant (.int 2) k p1)) p3) v (.ref s4.heap.objs.size)) (EP X pins σ Q) X.xe { s4 with heap := s4.heap.push { cls := .type "slice", data := .fields #[vl, vu, vs] } }
  cases dx with
  | tup l =>
    simp only [stpD] at e1; cases e1
    obtain ⟨a, us, rfl, h, rl⟩ := tup_rep hx
    rw [← hK] at h
    cases r1
    obtain ⟨its, rv, ht, hz⟩ := I5.tuple h
    have hlen := rv.length
    cases pu
    cases ps with
    | int _ tk =>
      refine tail_any (ops := [_, .ref s4.heap.objs.size]) ht.typeIs (PyProof.Rows.slot_tuple_getitem.lookup) ?_ (by with_unfolding_all rfl)
      refine get_stp (b := b) pl ht (Heap.IsSliceOf.new ..) ?_ (by rw [List.size_toArray]; omega)
      refine ⟨.ref _, _, I5.laid (t' := s4.toks) (fun b ob q => Heap.get?_push_of_some _ q) (Nat.le_refl _) ?_, rfl, p.tup r rl.other _ (I5.hok.fresh (Nat.le_refl _))⟩
      exact ⟨by rw [other_len]; omega, _, Vals.other rv, IsTup.new ..⟩
  | _ => cases e1
end
end Dn

set_option Elab.async false
set_option linter.all false
set_option maxRecDepth 100000
set_option maxHeartbeats 4000000
/-! Dn, part F: sorted of lists and tuples of pairs or of ints. -/
namespace Dn
open PySem PySem.Spec PyProof.Rows L2 SrtO
section
variable {prog : Program} {w : World} {A : Around} {E : Value → Shared → Prop} {s : Shared}
def afterC (h : Heap) (vs : List Value) : Heap := (h.push (seqObj "list" #[] 0)).update h.objs.size (Obj.mapSeq (· ++ vs.toArray))
theorem collect_tup {l : Addr} {vs : List Value} {Q : List Value → Shared → Prop} (hl : IsTup s.heap l vs.toArray) (q : Q vs { s with heap := afterC s.heap vs }) (z : vs.length ≤ sizeLine) :
    wpAny (model prog w) A (collect (.ref l)) Q E s := by
  obtain ⟨o, g1, g2, n, g3⟩ := id hl
  have g4 : (s.heap.push (seqObj "list" #[] 0)).get? l = some o := Heap.get?_push_of_some _ g1
  have new : (s.heap.push (seqObj "list" #[] 0)).get? s.heap.objs.size = some (seqObj "list" #[] 0) := Heap.get?_push_size _ rfl
  unfold collect
  refine wpAny_bind (wpAny_runValue (codeAny_builtin entry_proto_collect' ?_)); show wpAny _ _ (do again (.builtin "list.__iadd__" ⟨[← newList [], .ref l], []⟩)) _ _ s
  refine wpAny_bind (wpAny_newList (wpAny_pure ⟨Code.quiet_builtin _ (by decide +kernel), codeAny_builtin entry_list_iadd' ?_⟩)); show wpAny _ _ (Builtin.List.listExtendWith (.ref s.heap.objs.size) (.ref l) (.ref s.heap.objs.size)) _ _ { s with heap := s.heap.push (seqObj "list" #[] 0) }
  unfold Builtin.List.listExtendWith
  refine wpAny_bind (wpAny_typeOf (T := "tuple") ⟨o, g4, g2⟩ ?_)
  rw [if_pos (by rw [show (Value.type "tuple" == Value.type "tuple") = true from rfl]; simp)]
  refine wpAny_bind (listItems_at g4 g3 (wpAny_bind (listItems_at (xs := #[]) (n := 0) new rfl ?_)))
  rw [if_neg (by simp)]
  refine wpAny_bind (listUpdate_at (xs := #[]) (n := 0) new rfl (wpAny_pure ?_) (Nat.zero_le _) (by show (#[] ++ vs.toArray).size ≤ sizeLine + 1; simp only [Array.size_append, List.size_toArray, List.length_nil]; omega))
  show wpAny (model prog w) A (do
      let ob ← load s.heap.objs.size; match ob.data with
      | .seq us _ => pure us.toList
      | _ => unsupported "internal:collect") Q E { s with heap := afterC s.heap vs }
  refine wpAny_bind (wpAny_load (get?_update_seq new _) ?_)
  show wpAny _ _ (pure ((#[] : Array Value) ++ vs.toArray).toList) Q E _
  have e : ((#[] : Array Value) ++ vs.toArray).toList = vs := by simp
  rw [e]
  exact wpAny_pure q
theorem sortedT_ord {l : Addr} {vs : List Value} {ltv : Value → Value → Bool} {Q : Value → Shared → Prop} (O : Swo ltv) (hl : IsTup s.heap l vs.toArray) (z : vs.length ≤ sizeLine)
    (ok : 2 ≤ vs.length → ∀ (h₁ : Heap) (a : Addr), h₁.get? a = some (seqObj "list" vs.toArray 0) → (∀ b o, s.heap.get? b = some o → b ≠ a ∧ h₁.get? b = some o) → SortableO prog w A.in1.in1 { s with heap := h₁ } a vs ltv)
    (q : ∀ out : List Value, Srtd ltv out → Stb ltv out vs → Q (.ref (s.heap.objs.size + 1)) { s with heap := sortedAll s.heap vs out.toArray }) :
    wpAny (model prog w) A (call (.builtin "sorted") [.ref l]) Q E s := by
  refine Calls.call_function_entry kind_sorted plain_sorted entry_sorted (args_sorted1 _) ?_; unfold Builtin.«sorted»
  refine wpAny_bind (m := checkCount "sorted" 1 1 _) (wpAny_pure (wpAny_bind (collect_tup hl (wpAny_bind (wpAny_newList ?_ z)) z)))
  have e1 : (afterC s.heap vs).objs.size = s.heap.objs.size + 1 := by unfold afterC; rw [Heap.size_update, size_push']
  have e2 : ((afterC s.heap vs).push (seqObj "list" vs.toArray 0)).get? (s.heap.objs.size + 1) = some (seqObj "list" vs.toArray 0) := by
    rw [← e1]; exact Heap.get?_push_size _ rfl
  have old : ∀ b o, s.heap.get? b = some o → b ≠ s.heap.objs.size + 1 ∧ ((afterC s.heap vs).push (seqObj "list" vs.toArray 0)).get? b = some o := fun b o g => by
    have lt : b < s.heap.objs.size := Heap.lt_size g
    refine ⟨Nat.ne_of_lt (Nat.lt_succ_of_lt lt), Heap.get?_push_of_some _ ?_⟩
    unfold afterC
    rw [Heap.get?_update_ne _ _ _ _ (Nat.ne_of_lt lt)]; exact Heap.get?_push_of_some _ g
  show wpAny _ _ _ _ _ { s with heap := (afterC s.heap vs).push (seqObj "list" vs.toArray 0) }
  rw [e1]
  refine wpAny_bind (wpAny_holding (wpAny_call_entry slot_list_sort ⟨_, e2, rfl⟩ entry_list_sort (list_sort_ord O e2 z (fun h2 => ok h2 _ _ e2 old) fun out g1 g2 => ⟨_, rfl, ?_⟩) (args_list_sort _)))
  exact wpAny_pure ⟨_, rfl, q out g1 g2⟩
end
section
variable {X : Cx}
def kOf (H : Hp) : V → Int × Int
  | .ref t => match H t with
    | some (.tup [.int i, .int j]) => (i, j)
    | _ => (0, 0)
  | _ => (0, 0)
def PairAt (H : Hp) (x : V) : Prop := ∃ t i j, x = .ref t ∧ H t = some (.tup [.int i, .int j])
theorem kOf_at {H : Hp} {x : V} (h : PairAt H x) : ∃ t, x = V.ref t ∧ H t = some (.tup [.int (kOf H x).1, .int (kOf H x).2]) := by
  obtain ⟨t, i, j, rfl, e⟩ := h
  refine ⟨t, rfl, ?_⟩
  unfold kOf
  simp only [e]
/-- sorted of a tuple of pairs -/
theorem sortedT_pairs : CallR X (.builtin "sorted") (fun xs H Q => ∃ a vs, xs = [.ref a] ∧ SqT X.K H a vs ∧ (∀ x ∈ vs, PairAt H x) ∧
    ∀ ys p, Srtd (L2.ltP (kOf H)) ys → Stb (L2.ltP (kOf H)) ys vs → H p = none → Q (.ref p) (upd H p (.lst ys))) := by
  intro pins s σ H xs us Q I r h
  obtain ⟨a, vs, rfl, hs, hx, q⟩ := h
  obtain ⟨its, rv, ht, z⟩ := I.tuple hs
  obtain ⟨u, rfl, ru⟩ := vals1 r
  cases ru
  have z' : its.length ≤ sizeLine := by rw [← rv.length]; exact z
  obtain ⟨b1, b2⟩ := refs_back rv fun x m => by
    obtain ⟨t, i, j, e, _⟩ := hx x m
    exact ⟨t, e⟩
  have prs : ∀ v ∈ its, Srt.IsPair s.heap v (kOf H (backV v)).1 (kOf H (backV v)).2 := fun v hv => by
    obtain ⟨t, rfl⟩ := b2 v hv
    have hm : V.ref t ∈ vs := by rw [b1]; exact List.mem_map.mpr ⟨_, hv, rfl⟩
    obtain ⟨t', e, g⟩ := kOf_at (hx _ hm)
    cases e
    obtain ⟨_, its2, r2, o, g1, g2, n, g3⟩ := I.hok _ _ g
    obtain ⟨u1, u2, rfl, ri, rj⟩ := vals2 r2
    obtain ⟨t1, rfl⟩ := ri; obtain ⟨t2, rfl⟩ := rj
    exact ⟨t, o, t1, t2, n, rfl, g1, g2, g3⟩
  refine sortedT_ord (swo_lex fun u => kOf H (backV u)) ht z' (fun h2 h₁ a' ha kk => ?_) fun out g1 g2 => ?_
  · refine pairs_sortableO (s := { s with heap := h₁ }) (by omega) (fun v hm => (prs v hm).keeps fun b o e _ => (kk b o e).2) fun o e => ?_
    have e' : some o = some (seqObj "list" its.toArray 0) := e.symm.trans ha
    cases e'; intro c; exact absurd (Value.type.inj c) (by decide)
  · have b3 : ∀ u ∈ out, ∃ a, u = Value.ref a := fun u hu => b2 u (g2.perm.mem_iff.mp hu)
    obtain ⟨n, hn⟩ := PyProof.Rows.sortedAll_at s.heap its out.toArray
    have g3 : Stb (L2.ltP (kOf H)) (out.map backV) vs := by rw [b1]; exact Stb.map (ltP_swo (kOf H)) backV g2
    refine ⟨.ref _, upd H (s.heap.objs.size + 1) (.lst (out.map backV)), I.laid (t' := s.toks) (fun _ _ => PyProof.Rows.sortedAll_old) (Nat.le_succ _) ⟨by rw [g3.len]; exact z, out, n, vals_back b3, hn⟩, rfl, q _ _ (srtd_map g1) g3 (I.hok.fresh (Nat.le_succ _))⟩
/-- sorted of a tuple of ints -/
theorem sortedT_ints : CallR X (.builtin "sorted") (fun xs H Q => ∃ (a : Addr) (ns : List Int), xs = [.ref a] ∧ SqT X.K H a (ns.map V.int) ∧
    ∀ (ns' : List Int) (p : Addr), ns'.Perm ns → ns'.Pairwise (· ≤ ·) → H p = none → Q (.ref p) (upd H p (.lst (ns'.map V.int)))) := by
  intro pins s σ H xs us Q I r h
  obtain ⟨a, ns, rfl, hs, q⟩ := h
  obtain ⟨its, rv, ht, z⟩ := I.tuple hs
  rw [Vals.ref1 r]
  have hi := rv.ints
  refine sortedT_ord swo_int ht (by rw [← rv.length]; exact z) (fun h2 h₁ a' _ _ => ints_sortable hi h2) fun out g1 g2 => ?_
  obtain ⟨k1, k2, k3⟩ := ints_out hi g1 g2
  obtain ⟨n, hn⟩ := PyProof.Rows.sortedAll_at s.heap its out.toArray
  have z2 : ((out.map iv).map V.int).length ≤ sizeLine := by
    rw [List.length_map, k2.length_eq]; rw [List.length_map] at z; exact z
  exact ⟨.ref _, upd H (s.heap.objs.size + 1) (.lst ((out.map iv).map V.int)), I.laid (t' := s.toks) (fun _ _ => PyProof.Rows.sortedAll_old) (Nat.le_succ _) ⟨z2, out, n, vals_of_ints k1, hn⟩, rfl, q _ _ k2 k3 (I.hok.fresh (Nat.le_succ _))⟩
end

/-! ### the sorts in plain Lean -/
theorem insI_perm (x : Int) : ∀ l, (insI x l).Perm (x :: l)
  | [] => List.Perm.refl _
  | y :: r => by
    unfold insI
    split
    · exact ((insI_perm x r).cons y).trans (List.Perm.swap x y r)
    · exact List.Perm.refl _
theorem sortI_perm : ∀ l, (sortI l).Perm l
  | [] => List.Perm.refl _
  | x :: r => (insI_perm x (sortI r)).trans ((sortI_perm r).cons x)
theorem insI_srt (x : Int) : ∀ l, l.Pairwise (· ≤ ·) → (insI x l).Pairwise (· ≤ ·)
  | [], _ => List.pairwise_singleton _ _
  | y :: r, h => by
    obtain ⟨h1, h2⟩ := List.pairwise_cons.mp h
    unfold insI
    split
    · rename_i q
      refine List.pairwise_cons.mpr ⟨fun z hz => ?_, insI_srt x r h2⟩
      rcases List.mem_cons.mp ((insI_perm x r).mem_iff.mp hz) with rfl | hz
      · exact Int.le_of_lt q
      · exact h1 z hz
    · rename_i q
      refine List.pairwise_cons.mpr ⟨fun z hz => ?_, h⟩
      rcases List.mem_cons.mp hz with rfl | hz
      · omega
      · have := h1 z hz; omega
theorem sortI_srt : ∀ l, (sortI l).Pairwise (· ≤ ·)
  | [] => List.Pairwise.nil
  | x :: r => insI_srt x _ (sortI_srt r)
theorem srtI_uniq {l m : List Int} (p : l.Perm m) (h : l.Pairwise (· ≤ ·)) (h' : m.Pairwise (· ≤ ·)) : l = m :=
  p.eq_of_pairwise (fun a b _ _ h1 h2 => by omega) h h'
def leP (p q : Int × Int) : Prop := ltP q p = false
theorem ltP_lex (p q : Int × Int) : ltP p q = lexB p q := rfl
theorem insP_perm (x : Int × Int) : ∀ l, (insP x l).Perm (x :: l)
  | [] => List.Perm.refl _
  | y :: r => by
    unfold insP
    split
    · exact ((insP_perm x r).cons y).trans (List.Perm.swap x y r)
    · exact List.Perm.refl _
theorem sortP_perm : ∀ l, (sortP l).Perm l
  | [] => List.Perm.refl _
  | x :: r => (insP_perm x (sortP r)).trans ((sortP_perm r).cons x)
theorem leP_iff {p q : Int × Int} : leP p q ↔ p.1 < q.1 ∨ (p.1 = q.1 ∧ p.2 ≤ q.2) := by
  unfold leP
  rw [ltP_lex, lexB_no]
  omega
theorem insP_srt (x : Int × Int) : ∀ l, l.Pairwise leP → (insP x l).Pairwise leP
  | [], _ => List.pairwise_singleton _ _
  | y :: r, h => by
    obtain ⟨h1, h2⟩ := List.pairwise_cons.mp h
    unfold insP
    split
    · rename_i q
      rw [ltP_lex, lexB_iff] at q
      refine List.pairwise_cons.mpr ⟨fun z hz => ?_, insP_srt x r h2⟩
      rcases List.mem_cons.mp ((insP_perm x r).mem_iff.mp hz) with rfl | hz
      · rw [leP_iff]; omega
      · exact h1 z hz
    · rename_i q
      have q : ltP y x = false := by simpa using q
      refine List.pairwise_cons.mpr ⟨fun z hz => ?_, h⟩
      rcases List.mem_cons.mp hz with rfl | hz
      · exact q
      · have e1 := leP_iff.mp (h1 z hz)
        have e2 : leP x y := q
        rw [leP_iff] at e2 ⊢
        omega
theorem sortP_srt : ∀ l, (sortP l).Pairwise leP
  | [] => List.Pairwise.nil
  | x :: r => insP_srt x _ (sortP_srt r)
theorem srtP_uniq {l m : List (Int × Int)} (p : l.Perm m) (h : l.Pairwise leP) (h' : m.Pairwise leP) : l = m :=
  p.eq_of_pairwise (fun a b _ _ h1 h2 => by
    rw [leP_iff] at h1 h2
    exact Prod.ext (by omega) (by omega)) h h'

/-! ### sorted, on data -/
section
variable {G : Gd} {ρ : List Addr} {H : Hp} {M : Mem} {X : Cx}
theorem intsD_rep : ∀ {l : List D} {vs : List V} {ns : List Int}, RepL G ρ H l vs → intsD l = some ns → vs = ns.map V.int
  | _, _, ns, .nil, e => by simp only [intsD] at e; cases e; rfl
  | .int i :: l, _, ns, .cons h r, e => by
    simp only [intsD, Option.map_eq_some_iff] at e
    obtain ⟨ms, e, rfl⟩ := e
    cases h
    rw [intsD_rep r e]; rfl
  | .non :: l, _, ns, .cons h r, e => by simp [intsD] at e
  | .bl _ :: l, _, ns, .cons h r, e => by simp [intsD] at e
  | .str _ :: l, _, ns, .cons h r, e => by simp [intsD] at e
  | .tup _ :: l, _, ns, .cons h r, e => by simp [intsD] at e
  | .lst _ :: l, _, ns, .cons h r, e => by simp [intsD] at e
  | .ro _ :: l, _, ns, .cons h r, e => by simp [intsD] at e
  | .obj _ _ :: l, _, ns, .cons h r, e => by simp [intsD] at e
  | .cell _ :: l, _, ns, .cons h r, e => by simp [intsD] at e
theorem rep_ints (ns : List Int) : RepL G ρ H (ns.map .int) (ns.map V.int) := by
  induction ns with
  | nil => exact .nil
  | cons n ns ih => exact .cons (.int n) ih
def tupP (p : Int × Int) : D := .tup [.int p.1, .int p.2]
theorem pairsD_eq : ∀ {l : List D} {ps : List (Int × Int)}, pairsD l = some ps → l = ps.map tupP := by
  intro l
  induction l with
  | nil => intro ps e; simp only [pairsD] at e; cases e; rfl
  | cons d l ih =>
    intro ps e
    unfold pairsD at e
    split at e
    · rename_i h; cases h
    · rename_i h
      cases h
      simp only [Option.map_eq_some_iff] at e
      obtain ⟨qs, e, rfl⟩ := e
      rw [ih e]; rfl
    · cases e
theorem tupP_at {p : Int × Int} {v : V} (h : Rep G ρ H (tupP p) v) : PairAt H v ∧ kOf H v = p := by
  cases h with
  | tup n h r =>
    cases r with
    | cons r1 r =>
      cases r1
      cases r with
      | cons r2 r =>
        cases r2
        cases r
        refine ⟨⟨_, _, _, rfl, h⟩, ?_⟩
        unfold kOf
        simp only [h]
theorem pairs_at : ∀ {ps : List (Int × Int)} {vs : List V}, RepL G ρ H (ps.map tupP) vs → (∀ x ∈ vs, PairAt H x) ∧ vs.map (kOf H) = ps ∧ ∀ x ∈ vs, Rep G ρ H (tupP (kOf H x)) x
  | [], _, .nil => ⟨fun x m => (by cases m), rfl, fun x m => (by cases m)⟩
  | p :: ps, _, .cons h r => by
    obtain ⟨h1, h2⟩ := tupP_at h
    obtain ⟨g1, g2, g3⟩ := pairs_at r
    refine ⟨fun x m => ?_, by rw [List.map_cons, h2, g2], fun x m => ?_⟩
    · rcases List.mem_cons.mp m with rfl | m
      · exact h1
      · exact g1 x m
    · rcases List.mem_cons.mp m with rfl | m
      · rw [h2]; exact h
      · exact g3 x m
theorem rep_pairs {ys : List V} (h : ∀ x ∈ ys, Rep G ρ H (tupP (kOf H x)) x) : RepL G ρ H ((ys.map (kOf H)).map tupP) ys := by
  induction ys with
  | nil => exact .nil
  | cons y ys ih => exact .cons (h y List.mem_cons_self) (ih fun x m => h x (List.mem_cons_of_mem _ m))
theorem cr_sorted (hK : X.K = G.K) : CallR X (.builtin "sorted") (fun xs H Q => ∃ ρ M dx x l l', xs = [x] ∧ SRel G ρ H M ∧ Rep G ρ H dx x ∧ seqD M dx = some l ∧ sortD l = some l' ∧ Pst G ρ H M (.lst l') Q) := by
  intro pins s σ H xs us Q I r h
  obtain ⟨ρ, M, dx, x, l, l', rfl, sr, hx, e1, e2, p⟩ := h
  obtain ⟨a, vs, rfl, hh, rl⟩ := seqD_rep sr hx e1
  rw [← hK] at hh
  unfold sortD at e2
  split at e2
  · rename_i ns e3
    cases e2
    have ev := intsD_rep rl e3
    subst ev
    have fin : ∀ (ns' : List Int) (q : Addr), ns'.Perm ns → ns'.Pairwise (· ≤ ·) → H q = none → Q (.ref q) (upd H q (.lst (ns'.map V.int))) := fun ns' q h1 h2 h3 => by
      have e : ns' = sortI ns := srtI_uniq (h1.trans (sortI_perm ns).symm) h2 (sortI_srt ns)
      subst e
      exact p.lst sr (rep_ints _) q h3
    rcases hh with hh | hh
    · exact cr_sortedI pins s σ H _ us Q I r ⟨a, ns, rfl, hh, fin⟩
    · exact sortedT_ints pins s σ H _ us Q I r ⟨a, ns, rfl, hh, fin⟩
  · simp only [Option.map_eq_some_iff] at e2
    obtain ⟨ps, e2, rfl⟩ := e2
    have el := pairsD_eq e2
    subst el
    obtain ⟨g1, g2, g3⟩ := pairs_at rl
    have fin : ∀ ys q, Srtd (L2.ltP (kOf H)) ys → Stb (L2.ltP (kOf H)) ys vs → H q = none → Q (.ref q) (upd H q (.lst ys)) := fun ys q h1 h2 h3 => by
      have e : ys.map (kOf H) = sortP ps := by
        refine srtP_uniq ?_ ?_ (sortP_srt ps)
        · rw [← g2]
          exact (h2.perm.map _).trans (sortP_perm _).symm
        · exact List.pairwise_map.mpr (h1.imp fun {x y} h => h)
      have rr := rep_pairs fun x m => g3 x (h2.perm.mem_iff.mp m)
      rw [e] at rr
      exact p.lst sr rr q h3
    rcases hh with hh | hh
    · exact cr_sortedPO pins s σ H _ us Q I r ⟨a, vs, kOf H, rfl, hh, fun x m => kOf_at (g1 x m), fin⟩
    · exact sortedT_pairs pins s σ H _ us Q I r ⟨a, vs, rfl, hh, g1, fin⟩
end
end Dn

set_option Elab.async false
set_option linter.all false
set_option maxRecDepth 100000
set_option maxHeartbeats 4000000
/-! Dn, part G: texts; built-in functions on data. -/
namespace Dn
open PySem PySem.Spec PyProof.Rows L2
/-! ### texts that stay good -/
def cOk (s : Str) : Prop := ∀ c ∈ s.cps.toList, c < 0x110000
theorem cOk_iff {s : Str} : cOk s ↔ s.cps.all (fun c => decide (c < 0x110000)) = true := by
  rw [Array.all_eq_true']
  constructor
  · intro h c hc; exact decide_eq_true (h c (by simpa using hc))
  · intro h c hc; exact of_decide_eq_true (h c (by simpa using hc))
theorem sOk.c {s : Str} (h : sOk s) : cOk s := cOk_iff.mpr h.2
theorem sOk_of {s : Str} (h : cOk s) (hl : s.length ≤ sizeLine) : sOk s := ⟨hl, cOk_iff.mp h⟩
theorem cOk_app {a b : Str} (ha : cOk a) (hb : cOk b) : cOk (a ++ b) := by
  intro c hc
  have hc : c ∈ (a.cps ++ b.cps).toList := hc
  rw [Array.toList_append] at hc
  exact (List.mem_append.mp hc).elim (ha c) (hb c)
theorem cOk_of (s : String) : cOk (Str.ofString s) := by
  intro c hc
  rw [Str.ofString_eq_toList] at hc
  have hc : c ∈ s.toList.map Char.toNat := by simpa using hc
  obtain ⟨ch, _, rfl⟩ := List.mem_map.mp hc
  have h := ch.valid
  simp only [UInt32.isValidChar, Nat.isValidChar] at h
  show ch.val.toNat < _
  omega
theorem cOk_empty : cOk Str.empty := fun c hc => by
  have : c ∈ ([] : List Nat) := hc
  cases this
theorem cOk_join {sep : Str} (hs : cOk sep) : ∀ {ys : List Str}, (∀ y ∈ ys, cOk y) → cOk (Str.join sep ys)
  | [], _ => cOk_empty
  | [x], h => h x List.mem_cons_self
  | x :: y :: r, h => cOk_app (cOk_app (h x List.mem_cons_self) hs) (cOk_join hs fun z hz => h z (List.mem_cons_of_mem _ hz))
theorem cOk_sub {x : Str} (h : cOk x) (i j : Nat) : cOk (Builtin.Str.strSub x i j) := by
  intro c hc
  have e := TL.tl_strSub x i j
  have hc : c ∈ TL.tl (Builtin.Str.strSub x i j) := hc
  rw [e] at hc
  exact h c (List.mem_of_mem_drop (List.mem_of_mem_take hc))
theorem cOk_split {x y : Str} (h : cOk x) : ∀ z ∈ Txt.split x y, cOk z := by
  intro z hz
  unfold Txt.split at hz
  split at hz
  · have : z = x := by simpa using hz
    rw [this]; exact h
  · split at hz
    · have : z = x := by simpa using hz
      rw [this]; exact h
    · unfold Builtin.Str.partsBetween at hz
      simp only at hz
      obtain ⟨⟨i, j⟩, _, rfl⟩ := List.mem_map.mp hz
      exact cOk_sub h i j
theorem sub_len (x : Str) (i j : Nat) : (Builtin.Str.strSub x i j).length ≤ x.length := by
  rw [TL.len_tl, TL.len_tl, TL.tl_strSub]
  simp
  omega
theorem len_split {x y : Str} : ∀ z ∈ Txt.split x y, z.length ≤ x.length := by
  intro z hz
  unfold Txt.split at hz
  split at hz
  · have : z = x := by simpa using hz
    rw [this]; exact Nat.le_refl _
  · split at hz
    · have : z = x := by simpa using hz
      rw [this]; exact Nat.le_refl _
    · unfold Builtin.Str.partsBetween at hz
      simp only at hz
      obtain ⟨⟨i, j⟩, _, rfl⟩ := List.mem_map.mp hz
      exact sub_len x i j
theorem hex_lt {n c : Nat} (h : c ∈ (Nat.toDigits 16 n).map Char.toNat) : c < 0x110000 := by
  obtain ⟨ch, _, rfl⟩ := List.mem_map.mp h
  have h := ch.valid
  simp only [UInt32.isValidChar, Nat.isValidChar] at h
  show ch.val.toNat < _
  omega
theorem reprChar_lt {q c : Nat} (hq : q < 0x110000) (hc : c < 0x110000) : ∀ z ∈ Builtin.Str.reprChar q c, z < 0x110000 := by
  intro z hz
  unfold Builtin.Str.reprChar at hz
  simp only at hz
  have two : ∀ {a b : Nat}, z ∈ [a, b] → a < 0x110000 → b < 0x110000 → z < 0x110000 := fun h ha hb => by
    simp only [List.mem_cons, List.not_mem_nil, or_false] at h
    omega
  have hx : ∀ {a b w : Nat}, z ∈ [a, b] ++ (List.replicate (w - ((Nat.toDigits 16 c).map Char.toNat).length) 48 ++ (Nat.toDigits 16 c).map Char.toNat) → a < 0x110000 → b < 0x110000 → z < 0x110000 := fun h ha hb => by
    rcases List.mem_append.mp h with h | h
    · exact two h ha hb
    · rcases List.mem_append.mp h with h | h
      · have := List.eq_of_mem_replicate h
        omega
      · exact hex_lt h
  split at hz
  · exact two hz (by omega) hc
  · split at hz
    · exact two hz (by omega) (by omega)
    · split at hz
      · exact two hz (by omega) (by omega)
      · split at hz
        · exact two hz (by omega) (by omega)
        · split at hz
          · have : z = c := by simpa using hz
            omega
          · split at hz
            · exact hx hz (by omega) (by omega)
            · split at hz
              · exact hx hz (by omega) (by omega)
              · exact hx hz (by omega) (by omega)
theorem cOk_repr {x : Str} (h : cOk x) : cOk (reprText x) := by
  have hq : reprQuote x < 0x110000 := by unfold reprQuote; split <;> omega
  intro c hc
  unfold reprText at hc
  have hc : c ∈ ((x.cps.foldl (fun out c => out ++ (Builtin.Str.reprChar (reprQuote x) c).toArray) #[reprQuote x]).push (reprQuote x)).toList := hc
  rw [Array.toList_push, ← Array.foldl_toList] at hc
  have key : ∀ (l : List Nat) (acc : Array Nat), (∀ z ∈ acc.toList, z < 0x110000) → (∀ z ∈ l, z < 0x110000) → ∀ z ∈ (l.foldl (fun out c => out ++ (Builtin.Str.reprChar (reprQuote x) c).toArray) acc).toList, z < 0x110000 := by
    intro l
    induction l with
    | nil => intro acc ha _ z hz; exact ha z hz
    | cons a l ih =>
      intro acc ha hl z hz
      refine ih _ (fun y hy => ?_) (fun y hy => hl y (List.mem_cons_of_mem _ hy)) z hz
      rw [Array.toList_append] at hy
      rcases List.mem_append.mp hy with hy | hy
      · exact ha y hy
      · exact reprChar_lt hq (hl a List.mem_cons_self) y (by simpa using hy)
  rcases List.mem_append.mp hc with hc | hc
  · exact key _ _ (fun z hz => by have : z = reprQuote x := by simpa using hz
                                  omega) h c hc
  · have : c = reprQuote x := by simpa using hc
    omega
theorem cOk_textFrom : ∀ (ts : List Str) (k : Nat) (acc : Str), cOk acc → (∀ t ∈ ts, cOk t) → cOk (textFrom k acc ts)
  | [], _, _, h, _ => h
  | t :: ts, k, acc, h, ht => by
    unfold textFrom
    exact cOk_textFrom ts _ _ (cOk_app (cOk_app h (cOk_of _)) (ht t List.mem_cons_self)) fun z hz => ht z (List.mem_cons_of_mem _ hz)
mutual
theorem cOk_shown : ∀ {p : PyData}, p.canLay0 = true → cOk p.shown
  | .none, _ => by simp only [PyData.shown]; exact cOk_of _
  | .bool b, _ => by simp only [PyData.shown]; cases b <;> exact cOk_of _
  | .int i, _ => by simp only [PyData.shown]; exact cOk_of _
  | .str x, h => by
    simp only [PyData.canLay0] at h
    simp only [PyData.shown]
    exact cOk_repr (cOk_iff.mpr h)
  | .list xs, h => by
    simp only [PyData.canLay0] at h
    simp only [PyData.shown]
    unfold listText
    exact cOk_app (cOk_textFrom _ _ _ (cOk_of _) (cOk_shownL h)) (cOk_of _)
  | .tuple xs, h => by
    simp only [PyData.canLay0] at h
    simp only [PyData.shown]
    unfold tupleText
    exact cOk_app (cOk_app (cOk_of _) (cOk_join (cOk_of _) (cOk_shownL h))) (cOk_of _)
  | .dict _, h => by simp [PyData.canLay0] at h
theorem cOk_shownL : ∀ {ps : List PyData}, PyData.canLayAll0 ps = true → ∀ t ∈ PyData.shownAll ps, cOk t
  | [], _, t, h => by simp [PyData.shownAll] at h
  | p :: ps, h, t, ht => by
    simp only [PyData.canLayAll0, Bool.and_eq_true] at h
    simp only [PyData.shownAll] at ht
    rcases List.mem_cons.mp ht with rfl | ht
    · exact cOk_shown h.1
    · exact cOk_shownL h.2 t ht
end
theorem toStr_ok {i : Int} (h : i.natAbs.log2 < 1920) : sOk (toStr i) := sOk_of (cOk_of _) (int_text_fits h)

/-! ### built-in functions on data -/
def bltV : Blt → Value
  | .len => .builtin "len"
  | .abs => .builtin "abs"
  | .int_ => .type "int"
  | .divmod => .builtin "divmod"
  | .sum => .builtin "sum"
  | .max2 => .builtin "max"
  | .min2 => .builtin "min"
  | .maxl => .builtin "max"
  | .minl => .builtin "min"
  | .tuple => .type "tuple"
  | .list => .type "list"
  | .sorted => .builtin "sorted"
  | .all => .builtin "all"
  | .any => .builtin "any"
  | .str => .type "str"
  | .repr => .builtin "repr"
  | .bool => .type "bool"
def rBlt (G : Gd) (b : Blt) : List V → Hp → VK → Prop := fun xs H Q => ∃ ρ M ds d, SRel G ρ H M ∧ RepL G ρ H ds xs ∧ bltD b ds M = some d ∧ Pst G ρ H M d Q
section
variable {G : Gd} {ρ : List Addr} {H : Hp} {M : Mem} {X : Cx}
theorem repL1 {d : D} {vs : List V} (r : RepL G ρ H [d] vs) : ∃ v, vs = [v] ∧ Rep G ρ H d v := by
  cases r with
  | cons h r => cases r; exact ⟨_, rfl, h⟩
theorem repL2 {d e : D} {vs : List V} (r : RepL G ρ H [d, e] vs) : ∃ v u, vs = [v, u] ∧ Rep G ρ H d v ∧ Rep G ρ H e u := by
  cases r with
  | cons h r =>
    obtain ⟨u, rfl, h2⟩ := repL1 r
    exact ⟨_, u, rfl, h, h2⟩
theorem boolsD_rep : ∀ {l : List D} {vs : List V} {bs : List Bool}, RepL G ρ H l vs → boolsD l = some bs → vs = bs.map V.bl := by
  intro l
  induction l with
  | nil => intro vs bs r e; cases r; simp only [boolsD] at e; cases e; rfl
  | cons d l ih =>
    intro vs bs r e
    unfold boolsD at e
    split at e
    · rename_i h; cases h
    · rename_i h
      cases h
      simp only [Option.map_eq_some_iff] at e
      obtain ⟨cs, e, rfl⟩ := e
      cases r with
      | cons h r =>
        cases h
        rw [ih r e]; rfl
    · cases e
theorem strsD_rep : ∀ {l : List D} {vs : List V} {bs : List Str}, RepL G ρ H l vs → strsD l = some bs → vs = bs.map V.str ∧ ∀ y ∈ bs, sOk y := by
  intro l
  induction l with
  | nil => intro vs bs r e; cases r; simp only [strsD] at e; cases e; exact ⟨rfl, fun y m => (by cases m)⟩
  | cons d l ih =>
    intro vs bs r e
    unfold strsD at e
    split at e
    · rename_i h; cases h
    · rename_i h
      cases h
      simp only [Option.map_eq_some_iff] at e
      obtain ⟨cs, e, rfl⟩ := e
      cases r with
      | cons h r =>
        cases h with
        | str hs =>
          obtain ⟨h1, h2⟩ := ih r e
          rw [h1]
          refine ⟨rfl, fun y m => ?_⟩
          rcases List.mem_cons.mp m with rfl | m
          · exact hs
          · exact h2 y m
    · cases e
theorem maxI_is : ∀ {ns : List Int} {m : Int}, maxI ns = some m → m ∈ ns ∧ ∀ y ∈ ns, y ≤ m
  | [], _, e => by cases e
  | [x], m, e => by
    simp only [maxI] at e; cases e
    exact ⟨List.mem_cons_self, fun y hy => by have : y = x := by simpa using hy
                                              omega⟩
  | x :: y :: r, m, e => by
    simp only [maxI, Option.map_eq_some_iff] at e
    obtain ⟨k, e, rfl⟩ := e
    obtain ⟨h1, h2⟩ := maxI_is (ns := y :: r) (by simpa only [maxI] using e)
    by_cases q : x < k
    · rw [if_pos q]
      refine ⟨List.mem_cons_of_mem _ h1, fun z hz => ?_⟩
      rcases List.mem_cons.mp hz with rfl | hz
      · omega
      · exact h2 z hz
    · rw [if_neg q]
      refine ⟨List.mem_cons_self, fun z hz => ?_⟩
      rcases List.mem_cons.mp hz with rfl | hz
      · omega
      · have := h2 z hz; omega
theorem minI_is : ∀ {ns : List Int} {m : Int}, minI ns = some m → m ∈ ns ∧ ∀ y ∈ ns, m ≤ y
  | [], _, e => by cases e
  | [x], m, e => by
    simp only [minI] at e; cases e
    exact ⟨List.mem_cons_self, fun y hy => by have : y = x := by simpa using hy
                                              omega⟩
  | x :: y :: r, m, e => by
    simp only [minI, Option.map_eq_some_iff] at e
    obtain ⟨k, e, rfl⟩ := e
    obtain ⟨h1, h2⟩ := minI_is (ns := y :: r) (by simpa only [minI] using e)
    by_cases q : k < x
    · rw [if_pos q]
      refine ⟨List.mem_cons_of_mem _ h1, fun z hz => ?_⟩
      rcases List.mem_cons.mp hz with rfl | hz
      · omega
      · exact h2 z hz
    · rw [if_neg q]
      refine ⟨List.mem_cons_self, fun z hz => ?_⟩
      rcases List.mem_cons.mp hz with rfl | hz
      · omega
      · have := h2 z hz; omega
theorem refD {v : V} {a : Addr} (e : v = V.ref a) : v = V.ref a := e
theorem toStr_rep {i : Int} (h : i.natAbs.log2 < 1920) : Rep G ρ H (.str (toStr i)) (.str (toString i)) := .str (toStr_ok h)
/-- the same code one step deeper -/
abbrev up1 (X : Cx) : Cx := { X with A := X.A.in1 }
theorem ok_up1 {X : Cx} (ok : X.Ok) : (up1 X).Ok :=
  ⟨ok.mod, ok.kind, ok.glob, ok.blt, ok.above, ok.inj, ok.has, ok.cab, ok.hd, ok.frames, ok.stk, ok.exf, ok.bs, ok.bsz, ok.noex, ok.exfs, ok.funs, ok.frf⟩
theorem ok_down1 {X : Cx} (ok : (up1 X).Ok) : X.Ok :=
  ⟨ok.mod, ok.kind, ok.glob, ok.blt, ok.above, ok.inj, ok.has, ok.cab, ok.hd, ok.frames, ok.stk, ok.exf, ok.bs, ok.bsz, ok.noex, ok.exfs, ok.funs, ok.frf⟩
theorem inv_up1 {pins : List (Addr × Obj)} {σ : L2.St} {s : Shared} (I : Inv X pins σ H s) : Inv (up1 X) pins σ H s := ⟨ok_up1 I.ok, I.os, I.bare, I.base, I.loc, I.cell, I.free, I.freeC, I.pin, I.hok, I.len⟩
theorem inv_down1 {pins : List (Addr × Obj)} {σ : L2.St} {s : Shared} (I : Inv (up1 X) pins σ H s) : Inv X pins σ H s := ⟨ok_down1 I.ok, I.os, I.bare, I.base, I.loc, I.cell, I.free, I.freeC, I.pin, I.hok, I.len⟩
theorem bool_meets (prog : Program) (w : World) (x : Value) : MeetsIn prog w (Builtin.«bool.__new__» ⟨[.type "bool", x], []⟩)
    (fun A R s => wpAny (model prog w) A.in1 (truthy x) (fun b s' => R (.ok (.ret (.bool b))) s') (fun e s' => R (.error e) s') s) := by
  intro A R s h
  have f1 := F.conv_sub_bool
  unfold Builtin.«bool.__new__»
  refine wpAny_bind (m := isType (.type "bool")) (wpAny_pure ?_)
  show wpAny _ _ (isSubtype (.type "bool") (.type "bool") >>= _) _ _ s
  rw [f1]
  refine wpAny_bind (wpAny_pure ?_)
  show wpAny _ _ (someArgs "bool" 0 1 { pos := [x], kw := [] } >>= _) _ _ s
  refine wpAny_bind (m := someArgs "bool" 0 1 _) (wpAny_pure ?_)
  exact wpAny_bind (wpAny_mono h (fun b s' q => wpAny_pure q) fun _ _ q => q)
/-! data that is shown: as Dp, with the empty dict -/
mutual
inductive Dq (K : PySem.W.Frag) (H : Hp) : V → PyData → Prop
  | non : Dq K H .non .none
  | bl (b : Bool) : Dq K H (.bl b) (.bool b)
  | int (i : Int) : Dq K H (.int i) (.int i)
  | str {s : Str} : sOk s → Dq K H (.str s) (.str s)
  | lst {a : Addr} {vs : List V} {ps : List PyData} : SqL K H a vs → DqAll K H vs ps → Dq K H (.ref a) (.list ps)
  | tup {a : Addr} {vs : List V} {ps : List PyData} : SqT K H a vs → DqAll K H vs ps → Dq K H (.ref a) (.tuple ps)
  | emp {a : Addr} : H a = some (.dK []) → Dq K H (.ref a) (.dict [])
  | dkt {a : Addr} {ks : List Int} {v : Int} : H a = some (.dT [(ks.map Sum.inl, .int v)]) → Dq K H (.ref a) (.dict [(.tuple (ks.map .int), .int v)])
inductive DqAll (K : PySem.W.Frag) (H : Hp) : List V → List PyData → Prop
  | nil : DqAll K H [] []
  | cons {v : V} {p : PyData} {vs : List V} {ps : List PyData} : Dq K H v p → DqAll K H vs ps → DqAll K H (v :: vs) (p :: ps)
end
mutual
theorem toPyR_dq : ∀ {d : D} {v : V} {p : PyData}, Rep G ρ H d v → toPyR d = some p → Dq G.K H v p
  | _, _, p, .non, e => by simp only [toPyR] at e; cases e; exact .non
  | _, _, p, .bl b, e => by simp only [toPyR] at e; cases e; exact .bl b
  | _, _, p, .int i, e => by simp only [toPyR] at e; cases e; exact .int i
  | _, _, p, .str h, e => by simp only [toPyR] at e; cases e; exact .str h
  | .tup l, _, p, .tup n h r, e => by
    simp only [toPyR] at e
    cases q : toPyRL l with
    | none => rw [q] at e; cases e
    | some ps => rw [q] at e; cases e; exact .tup (.of h) (toPyRL_dq r q)
  | _, _, p, .tup0 h, e => by
    simp only [toPyR, toPyRL, Option.map_some] at e
    cases e
    exact .tup (h H) .nil
  | .lst l, _, p, .lst n h r, e => by
    simp only [toPyR] at e
    cases q : toPyRL l with
    | none => rw [q] at e; cases e
    | some ps => rw [q] at e; cases e; exact .lst (.of h) (toPyRL_dq r q)
  | .ro l, _, p, .ro h r, e => by
    simp only [toPyR] at e
    cases q : toPyRL l with
    | none => rw [q] at e; cases e
    | some ps => rw [q] at e; cases e; exact .lst (h.elim (fun ⟨_, o, e⟩ => .inl (.inr ⟨o, e⟩)) fun h => h H) (toPyRL_dq r q)
  | .obj _ _, _, _, .obj _ _ _ _, e => by simp only [toPyR] at e; cases e
  | .cell _, _, _, .cell _, e => by simp only [toPyR] at e; cases e
  | .emp, _, _, .emp _ h, e => by simp only [toPyR] at e; cases e; exact .emp h
  | .dkt _ _, _, _, .dkt _ h, e => by simp only [toPyR] at e; cases e; exact .dkt h
theorem toPyRL_dq : ∀ {l : List D} {vs : List V} {ps : List PyData}, RepL G ρ H l vs → toPyRL l = some ps → DqAll G.K H vs ps
  | _, _, _, .nil, e => by simp only [toPyRL] at e; cases e; exact .nil
  | d :: l, _, ps, .cons h r, e => by
    simp only [toPyRL] at e
    cases q : toPyR d with
    | none => rw [q] at e; cases e
    | some p =>
      rw [q] at e
      simp only at e
      cases q2 : toPyRL l with
      | none => rw [q2] at e; cases e
      | some ps => rw [q2] at e; cases e; exact .cons (toPyR_dq h q) (toPyRL_dq r q2)
end
theorem deref_dq {d : D} {v : V} {p : PyData} (r : SRel G ρ H M) (h : Rep G ρ H d v) (e : toPyR (derefD M d) = some p) : Dq G.K H v p := by
  cases d with
  | cell n =>
    simp only [derefD] at e
    split at e
    · rename_i l hm
      obtain ⟨a, ha, vs, h1, h2⟩ := r.cell hm
      cases h with
      | cell hn =>
        rw [hn] at ha; cases ha
        simp only [toPyR] at e
        cases q : toPyRL l with
        | none => rw [q] at e; cases e
        | some ps => rw [q] at e; cases e; exact .lst (.of h1) (toPyRL_dq h2 q)
    · simp only [toPyR] at e; cases e
  | _ => exact toPyR_dq h e
/-- a row of ints, shown -/
theorem shown_ints : ∀ ks : List Int, PyData.shownAll (ks.map .int) = ks.map fun i => (toString i : Str)
  | [] => by simp only [List.map_nil, PyData.shownAll]
  | k :: ks => by simp only [List.map_cons, PyData.shownAll, PyData.shown, shown_ints ks]
theorem dkt_cOk (ks : List Int) (v : Int) : cOk (dictText [tupleText (PyData.shownAll (ks.map .int)) ++ ": " ++ (toString v : Str)]) := by
  have h1 : ∀ t ∈ PyData.shownAll (ks.map .int), cOk t := fun t ht => by
    rw [shown_ints] at ht
    obtain ⟨i, _, rfl⟩ := List.mem_map.mp ht
    exact cOk_of _
  have h2 : cOk (tupleText (PyData.shownAll (ks.map .int)) ++ ": " ++ (toString v : Str)) := by
    refine cOk_app (cOk_app ?_ (cOk_of _)) (cOk_of _)
    unfold tupleText
    exact cOk_app (cOk_app (cOk_of _) (cOk_join (cOk_of _) h1)) (cOk_of _)
  unfold dictText
  exact cOk_app (cOk_app (cOk_of _) (cOk_join (cOk_of _) fun t ht => by rw [List.mem_singleton] at ht; subst ht; exact h2)) (cOk_of _)
theorem depth_intsG : ∀ ks : List Int, PyData.depthAll (ks.map .int) = 0
  | [] => by simp only [List.map_nil, PyData.depthAll]
  | k :: ks => by simp only [List.map_cons, PyData.depthAll, PyData.depth, depth_intsG ks]; rfl
theorem ints_all {prog : Program} {w : World} {h : Heap} : ∀ (ks : List Int) {us : List Value}, Vals (ks.map V.int) us → PyData.showableAll (ks.map .int) = true → (∃ as, ReadsAll h us (ks.map .int) as) ∧ ReprAllK prog w [] h 0 us (PyData.shownAll (ks.map .int))
  | [], us, r, _ => by
    cases r
    simp only [List.map_nil, PyData.shownAll]
    exact ⟨⟨_, .nil⟩, .nil⟩
  | k :: ks, us, r, hs => by
    simp only [List.map_cons] at r hs ⊢
    cases r with
    | cons r rs =>
      simp only [PyData.showableAll, Bool.and_eq_true] at hs
      obtain ⟨⟨as, q1⟩, q2⟩ := ints_all (h := h) ks rs hs.2
      obtain ⟨t, rfl⟩ := r
      refine ⟨⟨_, .cons (.int k t) q1⟩, ?_⟩
      simp only [PyData.shownAll, PyData.shown]
      exact .cons (.of_is (ReprIs.int t (by simpa [PyData.showable] using hs.1)) _ _ _) q2
theorem kV_ints (ks : List Int) : (ks.map (Sum.inl : Int → Key)).map kV = ks.map V.int := by
  rw [List.map_map]; rfl
/-- a dict with one key, a tuple of ints -/
theorem dkt_rep {pins : List (Addr × Obj)} {σ : L2.St} {s : Shared} {a : Addr} {ks : List Int} {v : Int} (I : Inv X pins σ H s) (e : H a = some (.dT [(ks.map Sum.inl, .int v)])) (hs : PyData.showable (.dict [(.tuple (ks.map .int), .int v)]) = true) :
    (∃ as, Reads s.heap (.ref a) (.dict [(.tuple (ks.map .int), .int v)]) as) ∧ ∃ o es n b, s.heap.get? a = some o ∧ o.cls = .type "dict" ∧ o.data = .dict es n ∧ (a == sysModules) = false ∧ ReadAtMost s.heap 1 [b] ∧ a ∉ [b] ∧ ReprEntriesK X.prog X.w [b] s.heap 1 es.toList [tupleText (PyData.shownAll (ks.map .int)) ++ ": " ++ (toString v : Str)] := by
  obtain ⟨_, hd, xs, rel, o, es, n, h1, h2, h3, h4, _, _⟩ := dt_of I.hok e
  cases rel with
  | @cons p0 q0 ps0 qs0 r0 rel =>
    cases rel
    obtain ⟨q1, b, w⟩ := q0
    obtain ⟨_, eb, rv⟩ := r0
    simp only at eb rv
    rw [kV_ints] at eb
    obtain ⟨its, rvs, ⟨ob, g1, g2, m, g3⟩, _⟩ := I.tuple (.of eb)
    simp only [PyData.showable, PyData.showableKv, Bool.and_eq_true] at hs
    obtain ⟨⟨as, rd⟩, rk⟩ := ints_all (prog := X.prog) (w := X.w) (h := s.heap) ks rvs hs.1.1
    obtain ⟨t, rfl⟩ := rv
    have rb : Reads s.heap (.ref b) (.tuple (ks.map .int)) as := .tuple g1 g2 g3 rd
    have he : es.toList = [⟨(tupleKind (mixKind X.prog X.w)).hash q1, .ref b, .int v t⟩] := h4
    have rd2 : Reads s.heap (.ref a) (.dict [(.tuple (ks.map .int), .int v)]) _ := .dict h1 h2.1 h3 (by rw [he]; exact .cons rb .nil) (by rw [he]; exact .cons (.int v t) .nil)
    have am : ReadAtMost s.heap 1 [b] := fun c hc => by
      rw [List.mem_singleton] at hc
      subst hc
      exact ⟨_, _, rb, by simp only [PyData.depth, depth_intsG]; omega⟩
    have ne : a ∉ [b] := fun hm => by
      rw [List.mem_singleton] at hm
      subst hm
      rw [g1] at h1
      cases h1
      have this := h2.1
      rw [g2] at this
      injection this with this
      exact absurd this (by decide)
    refine ⟨⟨_, rd2⟩, o, es, n, b, h1, h2.1, h3, hd, am, ne, ?_⟩
    rw [he]
    refine .cons ?_ ?_ .nil
    · exact ReprK.tuple (d := 0) g1 g2 g3 (List.not_mem_nil) (by simpa using rk)
    · have i := ReprIs.int (prog := X.prog) (w := X.w) (a := v) t (by simpa [PyData.showable] using hs.1.2)
      exact .of_is i _ _ _
theorem dict_nil {P : Program} {w : World} {h : Heap} {a : Addr} (d : h.DictOf (mixKind P w) a []) : ∃ o n, h.get? a = some o ∧ o.cls = .type "dict" ∧ o.data = .dict #[] n := by
  obtain ⟨o, es, n, h1, h2, h3, _, pr, _⟩ := d
  have hl := pr.length
  have : es = #[] := by
    apply Array.toList_inj.mp
    exact List.eq_nil_of_length_eq_zero hl
  subst this
  exact ⟨o, n, h1, h2.1, h3⟩
theorem dictText_nil : cOk (dictText []) := by
  unfold dictText
  exact cOk_app (cOk_app (cOk_of _) cOk_empty) (cOk_of _)
mutual
theorem Dq.cOk {K : PySem.W.Frag} : ∀ {v : V} {p : PyData}, Dq K H v p → cOk p.shown
  | _, _, .non => by simp only [PyData.shown]; exact cOk_of _
  | _, _, .bl b => by simp only [PyData.shown]; cases b <;> exact cOk_of _
  | _, _, .int i => by simp only [PyData.shown]; exact cOk_of _
  | _, _, .str h => by simp only [PyData.shown]; exact cOk_repr h.c
  | _, _, .lst _ h => by
    simp only [PyData.shown]
    unfold listText
    exact cOk_app (cOk_textFrom _ _ _ (cOk_of _) (DqAll.cOk h)) (cOk_of _)
  | _, _, .tup _ h => by
    simp only [PyData.shown]
    unfold tupleText
    exact cOk_app (cOk_app (cOk_of _) (cOk_join (cOk_of _) (DqAll.cOk h))) (cOk_of _)
  | _, _, .emp _ => by simp only [PyData.shown, PyData.shownKv]; exact dictText_nil
  | _, _, .dkt _ => by simp only [PyData.shown, PyData.shownKv]; exact dkt_cOk _ _
theorem DqAll.cOk {K : PySem.W.Frag} : ∀ {vs : List V} {ps : List PyData}, DqAll K H vs ps → ∀ t ∈ PyData.shownAll ps, Dn.cOk t
  | _, _, .nil, t, h => by simp [PyData.shownAll] at h
  | _, _, .cons h r, t, ht => by
    simp only [PyData.shownAll] at ht
    rcases List.mem_cons.mp ht with rfl | ht
    · exact Dq.cOk h
    · exact DqAll.cOk r t ht
end
section
variable {pins : List (Addr × Obj)} {σ : L2.St} {s : Shared}
mutual
theorem Dq.rep (I : Inv X pins σ H s) : ∀ {v : V} {p : PyData} {u : Value}, Dq X.K H v p → RelV v u → p.showable = true → p.shown.length ≤ sizeLine →
    (∃ as, Reads s.heap u p as) ∧ ∃ bs, ReadAtMost s.heap p.depth bs ∧ ReprK X.prog X.w bs s.heap p.depth u p.shown
  | _, _, _, .non, r, _, _ => by
    cases r
    exact ⟨⟨_, .none⟩, [], (fun _ h => nomatch h), by simp only [PyData.shown]; exact .of_is ReprIs.none _ _ _⟩
  | _, _, _, .bl b, r, _, _ => by
    cases r
    exact ⟨⟨_, .bool b⟩, [], (fun _ h => nomatch h), by simp only [PyData.shown]; exact .of_is (ReprIs.bool b) _ _ _⟩
  | _, _, _, .int i, r, hs, _ => by
    obtain ⟨t, rfl⟩ := r
    exact ⟨⟨_, .int i t⟩, [], (fun _ h => nomatch h), by simp only [PyData.shown]; exact .of_is (ReprIs.int t (by simpa [PyData.showable] using hs)) _ _ _⟩
  | _, _, _, .str (s := x) _, r, _, hz => by
    obtain ⟨t, rfl⟩ := r
    exact ⟨⟨_, .str x t⟩, [], (fun _ h => nomatch h), by simp only [PyData.shown]; exact .of_is (ReprIs.str x t (by simpa only [PyData.shown] using hz)) _ _ _⟩
  | _, _, _, .lst (a := a) (ps := ps) hl h, r, hs, hz => by
    cases r
    have hz' : (listText (PyData.shownAll ps)).length ≤ sizeLine := by simpa only [PyData.shown] using hz
    obtain ⟨its, rv, ⟨o, n, h1, h2, _, h3⟩, _⟩ := I.list hl
    obtain ⟨⟨as, rd⟩, bs, hb, hk⟩ := DqAll.rep I h rv (by simpa [PyData.showable] using hs) (fun t ht => Nat.le_trans (listText_mem_le ht) hz')
    have r : Reads s.heap (.ref a) (.list ps) _ := .list h1 h2 h3 rd
    have hna : a ∉ bs := not_mem_of_deeper r (by simp only [PyData.depth]; omega) hb
    refine ⟨⟨_, r⟩, a :: bs, ReadAtMost.cons r (by simp only [PyData.depth]; omega) hb, ?_⟩
    simp only [PyData.depth, PyData.shown]
    cases its with
    | nil =>
      cases rd
      simp only [PyData.shownAll, listText_nil]
      exact ReprK.listEmpty h1 h2 h3
    | cons x l => exact ReprK.list h1 h2 h3 hna (by simpa using hk.length_eq) (fun i y e => hk.item i y (by simpa using e))
  | _, _, _, .tup (a := a) (ps := ps) hl h, r, hs, hz => by
    cases r
    have hz' : (tupleText (PyData.shownAll ps)).length ≤ sizeLine := by simpa only [PyData.shown] using hz
    obtain ⟨its, rv, ⟨o, h1, h2, n, h3⟩, _⟩ := I.tuple hl
    obtain ⟨⟨as, rd⟩, bs, hb, hk⟩ := DqAll.rep I h rv (by simpa [PyData.showable] using hs) (fun t ht => Nat.le_trans (tupleText_mem_le ht) hz')
    have r : Reads s.heap (.ref a) (.tuple ps) _ := .tuple h1 h2 h3 rd
    have hna : a ∉ bs := not_mem_of_deeper r (by simp only [PyData.depth]; omega) hb
    refine ⟨⟨_, r⟩, a :: bs, ReadAtMost.cons r (by simp only [PyData.depth]; omega) hb, ?_⟩
    simp only [PyData.depth, PyData.shown]
    exact ReprK.tuple h1 h2 h3 hna hk
  | _, _, _, .emp (a := a) e, r, hs, hz => by
    cases r
    obtain ⟨z, hd, vs0, r0, dd⟩ := dk_of I.hok e
    cases r0
    obtain ⟨o, n, h1, h2, h3⟩ := dict_nil dd
    have r : Reads s.heap (.ref a) (.dict []) _ := .dict h1 h2 h3 .nil .nil
    refine ⟨⟨_, r⟩, [a], ReadAtMost.cons (n := 0) r (Nat.zero_le _) (fun _ h => nomatch h), ?_⟩
    simp only [PyData.depth, PyData.shown, PyData.shownKv, PyData.depthKv]
    exact ReprK.dict h1 h2 h3 hd (fun h => nomatch h) .nil
  | _, _, _, .dkt (a := a) (ks := ks) (v := v) e, r, hs, hz => by
    cases r
    obtain ⟨⟨as, rd⟩, o, es, n, b, h1, h2, h3, hd, am, ne, ek⟩ := dkt_rep I e hs
    have hdp : (PyData.dict [(.tuple (ks.map .int), .int v)]).depth = 2 := by
      simp only [PyData.depth, PyData.depthKv, depth_intsG]; rfl
    refine ⟨⟨as, rd⟩, [a, b], ?_, ?_⟩
    · have := ReadAtMost.cons rd (by rw [hdp]; omega) am
      exact this
    · rw [hdp]
      simp only [PyData.shown, PyData.shownKv]
      exact ReprK.dict h1 h2 h3 hd ne ek
theorem DqAll.rep (I : Inv X pins σ H s) : ∀ {vs : List V} {ps : List PyData} {us : List Value}, DqAll X.K H vs ps → Vals vs us → PyData.showableAll ps = true → (∀ t ∈ PyData.shownAll ps, t.length ≤ sizeLine) →
    (∃ as, ReadsAll s.heap us ps as) ∧ ∃ bs, ReadAtMost s.heap (PyData.depthAll ps) bs ∧ ReprAllK X.prog X.w bs s.heap (PyData.depthAll ps) us (PyData.shownAll ps)
  | _, _, _, .nil, r, _, _ => by
    cases r
    exact ⟨⟨_, .nil⟩, [], (fun _ h => nomatch h), by simp only [PyData.shownAll]; exact .nil⟩
  | _, _, _, .cons (p := p) (ps := ps) h hr, r, hs, hz => by
    cases r with
    | cons r rs =>
    have hs' : p.showable = true ∧ PyData.showableAll ps = true := by simpa [PyData.showableAll] using hs
    obtain ⟨⟨as1, q1⟩, b1, hb1, k1⟩ := Dq.rep I h r hs'.1 (hz _ (by simp only [PyData.shownAll]; exact List.mem_cons_self ..))
    obtain ⟨⟨as2, q2⟩, b2, hb2, k2⟩ := DqAll.rep I hr rs hs'.2 (fun t ht => hz t (by simp only [PyData.shownAll]; exact List.mem_cons_of_mem _ ht))
    refine ⟨⟨_, .cons q1 q2⟩, b1 ++ b2, ?_, ?_⟩
    · simp only [PyData.depthAll]
      exact (hb1.mono (Nat.le_max_left _ _)).append (hb2.mono (Nat.le_max_right _ _))
    · simp only [PyData.depthAll, PyData.shownAll]
      exact .cons ((k1.more fun b hb => List.mem_append_left _ hb).level_le (Nat.le_max_left _ _)) (k2.more_le (fun b hb => List.mem_append_right _ hb) (Nat.le_max_right _ _))
end
end
theorem reprD_rep {pins : List (Addr × Obj)} {σ : L2.St} {s : Shared} {Q : VK} {d d' : D} {v : V} {u : Value} (hK : X.K = G.K) (hg : X.A.guards = some []) (hu : X.A.units + 64 < cLine) (I : Inv X pins σ H s) (sr : SRel G ρ H M) (rx : RelV v u)
    (hd : Rep G ρ H d v) (e : reprD M d = some d') (p : Pst G ρ H M d' Q) : wpAny (model X.prog X.w) X.A (call (.builtin "repr") [u]) (EP X pins σ Q) X.xe s := by
  obtain ⟨q, hq, h1, h2, h3, rfl⟩ := reprD_inv e
  have dq := deref_dq sr hd hq
  rw [← hK] at dq
  have ok : sOk q.shown := sOk_of dq.cOk h3
  have fin : ∀ (tk : Nat) (t : Tok), EP X pins σ Q (.str q.shown t) { s with toks := tk } := fun tk t => ⟨.str q.shown, H, I.tok tk, ⟨t, rfl⟩, p.here sr (.str ok)⟩
  have don : ∀ (h' : Heap) (t : Tok) (tk : Nat), (∀ b o, s.heap.get? b = some o → h'.get? b = some o) → EP X pins σ Q (.str q.shown t) { s with heap := h', toks := tk } := fun h' t tk kk => ⟨.str _, H, I.kept (t' := tk) kk, ⟨t, rfl⟩, p.here sr (.str ok)⟩
  cases dq with
  | non =>
    cases rx
    exact PySem.P.repr_of_none (by simpa only [PyData.shown] using fin _ _)
  | bl b =>
    cases rx
    exact PySem.P.repr_of_bool (by simpa only [PyData.shown] using fin _ _)
  | int i =>
    obtain ⟨t, rfl⟩ := rx
    simp only [PyData.showable, decide_eq_true_eq] at h1
    exact PySem.P.repr_of_int h1 (by simpa only [PyData.shown] using fin _ _)
  | str x =>
    obtain ⟨t, rfl⟩ := rx
    simp only [PyData.shown] at h3
    exact PySem.P.repr_of_str (by simpa only [PyData.shown] using fin _ _) h3
  | @lst a vs ps hl h =>
    cases rx
    obtain ⟨its, rv, ⟨o, n, e1, e2, _, e3⟩, _⟩ := I.list hl
    simp only [PyData.shown] at h3 don
    simp only [PyData.depth] at h2
    obtain ⟨⟨as, rd⟩, bs, hb, hk⟩ := DqAll.rep I h rv (by simpa [PyData.showable] using h1) (fun t ht => Nat.le_trans (listText_mem_le ht) h3)
    have hna : a ∉ bs := not_mem_of_deeper (.list e1 e2 e3 rd) (by simp only [PyData.depth]; omega) hb
    refine call_repr_slot (by omega) ⟨o, e1, e2⟩ F.slot_list_repr.toG ?_
    cases its with
    | nil =>
      cases rd
      simp only [PyData.shownAll, listText_nil] at don
      exact call_list_repr_empty ⟨o, e1, e2⟩ e1 e3 ⟨_, _, rfl, don s.heap _ _ fun _ _ e => e⟩
    | cons x l =>
      exact call_list_reprK e1 e2 e3 hna (by simpa using hk.length_eq) (fun i y e => hk.item i y (by simpa using e)) hg (fun b _ => Clear.nil b) (by show X.A.units + 1 + (PyData.depthAll ps + 1) < cLine; omega) (fun _ _ e => e) (fun h' u tk kk => ⟨_, _, rfl, don h' u tk kk⟩) h3
  | @tup a vs ps hl h =>
    cases rx
    obtain ⟨its, rv, ⟨o, e1, e2, n, e3⟩, _⟩ := I.tuple hl
    simp only [PyData.shown] at h3 don
    simp only [PyData.depth] at h2
    obtain ⟨⟨as, rd⟩, bs, hb, hk⟩ := DqAll.rep I h rv (by simpa [PyData.showable] using h1) (fun t ht => Nat.le_trans (tupleText_mem_le ht) h3)
    have hna : a ∉ bs := not_mem_of_deeper (.tuple e1 e2 e3 rd) (by simp only [PyData.depth]; omega) hb
    refine call_repr_slot (by omega) ⟨o, e1, e2⟩ F.slot_tuple_repr ?_
    exact call_tuple_reprK e1 e2 e3 hna hk hg (fun b _ => Clear.nil b) (by show X.A.units + 1 + (PyData.depthAll ps + 1) < cLine; omega) (fun _ _ e => e) (fun h' u tk kk => ⟨_, _, rfl, don h' u tk kk⟩) h3
  | @emp a hh =>
    cases rx
    obtain ⟨z, hd, vs0, r0, dd⟩ := dk_of I.hok hh
    cases r0
    obtain ⟨o, n, e1, e2, e3⟩ := dict_nil dd
    simp only [PyData.shown, PyData.shownKv] at h3 don
    refine call_repr_slot (by omega) ⟨o, e1, e2⟩ F.slot_dict_repr ?_
    exact call_dict_reprK (as := []) (d := 0) e1 e2 e3 hd List.not_mem_nil .nil hg (fun b _ => Clear.nil b) (by show X.A.units + 1 + (0 + 1) < cLine; omega) (fun _ _ e => e) (fun h' u tk kk => ⟨_, _, rfl, don h' u tk kk⟩) h3
  | @dkt a ks v hh =>
    cases rx
    obtain ⟨_, o, es, n, b, e1, e2, e3, hd, am, ne, ek⟩ := dkt_rep I hh h1
    simp only [PyData.shown, PyData.shownKv] at h3 don
    refine call_repr_slot (by omega) ⟨o, e1, e2⟩ F.slot_dict_repr ?_
    exact call_dict_reprK (d := 1) e1 e2 e3 hd ne ek hg (fun b _ => Clear.nil b) (by show X.A.units + 1 + (1 + 1) < cLine; omega) (fun _ _ e => e) (fun h' u tk kk => ⟨_, _, rfl, don h' u tk kk⟩) h3
theorem blt_all (hK : X.K = G.K) (hc : X.calm = true) (hg : X.A.guards = some []) (hu : X.A.units + 64 < cLine) (hC : ∀ c k, G.T.cls[c]? = some k → CF G c k) (b : Blt) : CallR X (bltV b) (rBlt G b) := by
  intro pins s σ H xs us Q I rx h
  obtain ⟨ρ, M, ds, d, r, rl, e, p⟩ := h
  cases b with
  | len =>
    simp only [bltD, lenB] at e
    split at e
    · cases e
      obtain ⟨v, rfl, hd⟩ := repL1 rl
      cases hd with
      | str hs => exact call_len pins s σ H _ us Q I rx ⟨_, _, rfl, ⟨hs.1, rfl⟩, p.here r (.int _)⟩
    · obtain ⟨v, rfl, hd⟩ := repL1 rl
      simp only [Option.map_eq_some_iff] at e
      obtain ⟨l, e, rfl⟩ := e
      obtain ⟨a, vs, rfl, hh, rl⟩ := seqD_rep r hd e
      rw [← hK] at hh
      rw [rl.len] at p
      refine call_len pins s σ H _ us Q I rx ⟨_, vs.length, rfl, ?_, p.here r (.int _)⟩
      rcases hh with hh | hh
      · exact .inl ⟨vs, hh, rfl⟩
      · exact .inr ⟨vs, hh, rfl⟩
    · cases e
  | abs =>
    simp only [bltD, absB] at e
    split at e
    · cases e
      obtain ⟨v, rfl, hd⟩ := repL1 rl
      cases hd
      exact call_abs pins s σ H _ us Q I rx ⟨_, rfl, p.here r (.int _)⟩
    · cases e
  | int_ =>
    simp only [bltD, intB] at e
    split at e
    · cases e
      obtain ⟨v, rfl, hd⟩ := repL1 rl
      cases hd
      exact call_int1 pins s σ H _ us Q I rx (.inl ⟨_, rfl, p.here r (.int _)⟩)
    · cases e
      obtain ⟨v, rfl, hd⟩ := repL1 rl
      cases hd
      exact call_int1 pins s σ H _ us Q I rx (.inr ⟨_, rfl, p.here r (.int _)⟩)
    · split at e
      · rename_i hl
        obtain ⟨v, rfl, hd⟩ := repL1 rl
        simp only [Option.map_eq_some_iff] at e
        obtain ⟨n, e, rfl⟩ := e
        cases hd
        exact call_int_str pins s σ H _ us Q I rx ⟨_, n, rfl, e, hl, p.here r (.int _)⟩
      · cases e
    · cases e
  | divmod =>
    simp only [bltD, divmodB] at e
    split at e
    · split at e
      · rename_i hl
        cases e
        obtain ⟨v, u, rfl, h1, h2⟩ := repL2 rl
        cases h1; cases h2
        exact call_divmod pins s σ H _ us Q I rx ⟨_, _, rfl, hl, fun q hq => p.tup r (.cons (.int _) (.cons (.int _) .nil)) q hq⟩
      · cases e
    · cases e
  | sum =>
    simp only [bltD, sumB] at e
    split at e
    · cases e
    · rename_i dx nt
      obtain ⟨v, rfl, hd⟩ := repL1 rl
      simp only [Option.bind_eq_some_iff, Option.map_eq_some_iff] at e
      obtain ⟨l, e, ns, e2, rfl⟩ := e
      have hs : ∃ a, v = .ref a ∧ SqL X.K H a (ns.map V.int) := by
        cases dx with
        | tup l' => exact absurd rfl (nt l')
        | ro l' =>
          obtain ⟨a, vs, rfl, hh, rl⟩ := ro_rep hd
          cases e
          rw [intsD_rep rl e2, ← hK] at hh
          exact ⟨a, rfl, hh⟩
        | lst l' =>
          obtain ⟨a, vs, rfl, hh, rl⟩ := lstD_rep r hd (l := l) e
          rw [intsD_rep rl e2] at hh
          exact ⟨a, rfl, SqL.of hh⟩
        | cell n =>
          obtain ⟨a, vs, rfl, hh, rl⟩ := lstD_rep r hd (l := l) e
          rw [intsD_rep rl e2] at hh
          exact ⟨a, rfl, SqL.of hh⟩
        | _ => cases e
      obtain ⟨a, rfl, hh⟩ := hs
      exact L2.cr_sum hc pins s σ H _ us Q I rx ⟨a, ns, rfl, hh, p.here r (.int _)⟩
    · cases e
  | max2 =>
    simp only [bltD, max2B] at e
    split at e
    · cases e
      obtain ⟨v, u, rfl, h1, h2⟩ := repL2 rl
      cases h1; cases h2
      exact call_max2 hc pins s σ H _ us Q I rx ⟨_, _, rfl, p.here r (.int _)⟩
    · cases e
  | min2 =>
    simp only [bltD, min2B] at e
    split at e
    · cases e
      obtain ⟨v, u, rfl, h1, h2⟩ := repL2 rl
      cases h1; cases h2
      exact call_min2 hc pins s σ H _ us Q I rx ⟨_, _, rfl, p.here r (.int _)⟩
    · cases e
  | maxl =>
    simp only [bltD, maxB] at e
    split at e
    · obtain ⟨v, rfl, hd⟩ := repL1 rl
      simp only [Option.bind_eq_some_iff, Option.map_eq_some_iff] at e
      obtain ⟨l, e, ns, e2, m, e3, rfl⟩ := e
      obtain ⟨a, vs, rfl, hh, rl⟩ := lstD_rep r hd e
      rw [intsD_rep rl e2] at hh
      obtain ⟨m1, m2⟩ := maxI_is e3
      refine L2.cr_max hc pins s σ H _ us Q I rx ⟨a, ns, rfl, SqL.of hh, List.length_pos_of_mem m1, fun m' g1 g2 => ?_⟩
      have : m' = m := by have := g2 m m1; have := m2 m' g1; omega
      subst this
      exact p.here r (.int _)
    · cases e
  | minl =>
    simp only [bltD, minB] at e
    split at e
    · obtain ⟨v, rfl, hd⟩ := repL1 rl
      simp only [Option.bind_eq_some_iff, Option.map_eq_some_iff] at e
      obtain ⟨l, e, ns, e2, m, e3, rfl⟩ := e
      obtain ⟨a, vs, rfl, hh, rl⟩ := lstD_rep r hd e
      rw [intsD_rep rl e2] at hh
      obtain ⟨m1, m2⟩ := minI_is e3
      refine L2.cr_min hc pins s σ H _ us Q I rx ⟨a, ns, rfl, SqL.of hh, List.length_pos_of_mem m1, fun m' g1 g2 => ?_⟩
      have : m' = m := by have := g2 m m1; have := m2 m' g1; omega
      subst this
      exact p.here r (.int _)
    · cases e
  | tuple =>
    simp only [bltD, tupleB] at e
    split at e
    · rename_i dx
      obtain ⟨v, rfl, hd⟩ := repL1 rl
      simp only [Option.map_eq_some_iff] at e
      obtain ⟨l, e, rfl⟩ := e
      by_cases ht : ∃ l', dx = .tup l'
      · obtain ⟨l', rfl⟩ := ht
        simp only [seqD] at e; cases e
        obtain ⟨a, vs, rfl, h, _⟩ := tup_rep hd
        rw [← hK] at h
        exact call_tuple_of pins s σ H _ us Q I rx ⟨_, _, rfl, .inr ⟨h, p.here r hd⟩⟩
      · have hs : ∃ a vs, v = .ref a ∧ SqL X.K H a vs ∧ RepL G ρ H l vs := by
          cases dx with
          | tup l' => exact absurd ⟨l', rfl⟩ ht
          | ro l' => cases e; obtain ⟨a, vs, g1, g2, g3⟩ := ro_rep hd; exact ⟨a, vs, g1, by rw [hK]; exact g2, g3⟩
          | lst l' => obtain ⟨a, vs, g1, g2, g3⟩ := lstD_rep r hd (l := l) e; exact ⟨a, vs, g1, SqL.of g2, g3⟩
          | cell n => obtain ⟨a, vs, g1, g2, g3⟩ := lstD_rep r hd (l := l) e; exact ⟨a, vs, g1, SqL.of g2, g3⟩
          | _ => cases e
        obtain ⟨a, vs, rfl, g2, g3⟩ := hs
        exact call_tuple_of pins s σ H _ us Q I rx ⟨_, _, rfl, .inl ⟨g2, fun q hq => p.tup r g3 q hq⟩⟩
    · cases e
  | list =>
    simp only [bltD, listB] at e
    split at e
    · obtain ⟨v, rfl, hd⟩ := repL1 rl
      simp only [Option.map_eq_some_iff] at e
      obtain ⟨l, e, rfl⟩ := e
      obtain ⟨a, vs, rfl, hh, rl⟩ := seqD_rep r hd e
      rw [← hK] at hh
      exact call_list_of pins s σ H _ us Q I rx ⟨_, _, rfl, hh, fun q hq => p.lst r rl q hq⟩
    · cases e
  | sorted =>
    simp only [bltD, sortedB] at e
    split at e
    · obtain ⟨v, rfl, hd⟩ := repL1 rl
      simp only [Option.bind_eq_some_iff, Option.map_eq_some_iff] at e
      obtain ⟨l, e, l', e2, rfl⟩ := e
      exact cr_sorted hK pins s σ H _ us Q I rx ⟨ρ, M, _, _, l, l', rfl, r, hd, e, e2, p⟩
    · cases e
  | all =>
    simp only [bltD, allB] at e
    split at e
    · obtain ⟨v, rfl, hd⟩ := repL1 rl
      simp only [Option.bind_eq_some_iff, Option.map_eq_some_iff] at e
      obtain ⟨l, e, bs, e2, rfl⟩ := e
      obtain ⟨a, vs, rfl, hh, rl⟩ := lstD_rep r hd e
      rw [boolsD_rep rl e2] at hh
      exact cr_all hc pins s σ H _ us Q I rx ⟨a, bs, rfl, SqL.of hh, p.here r (.bl _)⟩
    · cases e
  | any =>
    simp only [bltD, anyB] at e
    split at e
    · obtain ⟨v, rfl, hd⟩ := repL1 rl
      simp only [Option.bind_eq_some_iff, Option.map_eq_some_iff] at e
      obtain ⟨l, e, bs, e2, rfl⟩ := e
      obtain ⟨a, vs, rfl, hh, rl⟩ := lstD_rep r hd e
      rw [boolsD_rep rl e2] at hh
      exact cr_any hc pins s σ H _ us Q I rx ⟨a, bs, rfl, SqL.of hh, p.here r (.bl _)⟩
    · cases e
  | str =>
    simp only [bltD, strB] at e
    split at e
    · obtain ⟨v, rfl, hd⟩ := repL1 rl
      unfold strD at e
      split at e
      · cases e
        cases hd with
        | str hs =>
          obtain ⟨u, rfl, t, rfl⟩ := vals1 rx
          exact PySem.P.str_of_str ⟨.str _, H, I, ⟨t, rfl⟩, p.here r (.str hs)⟩
      · split at e
        · rename_i hl
          cases e
          cases hd
          exact call_str_int pins s σ H _ us Q I rx ⟨_, rfl, hl, p.here r (toStr_rep hl)⟩
        · cases e
      · cases e
    · cases e
  | repr =>
    simp only [bltD, reprB] at e
    split at e
    · obtain ⟨v, rfl, hd⟩ := repL1 rl
      obtain ⟨u, rfl, rv⟩ := vals1 rx
      exact reprD_rep hK hg hu I r rv hd e p
    · cases e
  | bool =>
    simp only [bltD, boolB] at e
    split at e
    · obtain ⟨v, rfl, hd⟩ := repL1 rl
      obtain ⟨u, rfl, rv⟩ := vals1 rx
      simp only [Option.map_eq_some_iff] at e
      obtain ⟨z, e, rfl⟩ := e
      refine callType_newIn F.called_bool F.newNe_bool (F.typeCall_bool_1 u) (F.newCall_bool_1 u) (fun obj => F.args_object_init_2 obj u) F.entry_bool_new (bool_meets X.prog X.w u) ?_
      have t := tru_all (X := up1 (up1 X)) (G := G) hK hC pins s σ H v u (fun b H' => b = z ∧ H' = H) (inv_up1 (inv_up1 I)) rv ⟨ρ, M, _, z, r, hd, e, rfl, rfl⟩
      refine wpAny_mono t (fun b s' q => ?_) fun _ _ q => q
      obtain ⟨H', I', e1, e2⟩ := q
      subst e1 e2
      exact ⟨PySem.typeIs_bool _ _, .bl b, _, inv_down1 (inv_down1 I'), rfl, p.here r (.bl _)⟩
    · cases e
end
end Dn

set_option Elab.async false
set_option linter.all false
set_option maxRecDepth 100000
set_option maxHeartbeats 4000000
/-! Dn, part H: from a piece of syntax to its meaning: the shape of what is proved; the simple expressions. -/
namespace Dn
open PySem PySem.Spec PyProof.Rows L2
section
variable (G : Gd) (ρ : List Addr) (H : Hp) (M' : Mem)
/-- a value that stands for d has come -/
def GotQ (d : D) : VK := fun x H' => ∃ ρ', Ex ρ H ρ' H' ∧ SRel G ρ' H' M' ∧ Rep G ρ' H' d x
def GotL (ds : List D) : List V → Hp → Prop := fun xs H' => ∃ ρ', Ex ρ H ρ' H' ∧ SRel G ρ' H' M' ∧ RepL G ρ' H' ds xs
def GotB (b : Bool) : Bool → Hp → Prop := fun b' H' => b' = b ∧ ∃ ρ', Ex ρ H ρ' H' ∧ SRel G ρ' H' M'
end
section
variable {G : Gd} {ρ ρ1 : List Addr} {H H1 : Hp} {M M' : Mem} {d : D}
theorem got (x : Ex ρ H ρ1 H1) : Pst G ρ1 H1 M' d (GotQ G ρ H M' d) := fun v ρ' H' y sr rep => ⟨ρ', x.trans y, sr, rep⟩
theorem got0 : Pst G ρ H M' d (GotQ G ρ H M' d) := got Ex.refl
theorem GotQ.up {v : V} {H2 : Hp} (x : Ex ρ H ρ1 H1) (g : GotQ G ρ1 H1 M' d v H2) : GotQ G ρ H M' d v H2 := let ⟨ρ', y, sr, rep⟩ := g; ⟨ρ', x.trans y, sr, rep⟩
end
theorem bnd_inv {α β : Type} {m : Rs α} {k : α → Mem → Rs β} {r : β × Mem} (h : bnd m k = some r) : ∃ a M, m = some (a, M) ∧ k a M = some r := by
  cases m with
  | none => cases h
  | some p => obtain ⟨a, M⟩ := p; exact ⟨a, M, rfl, h⟩
theorem lft_inv {α : Type} {o : Option α} {M : Mem} {r : α × Mem} (h : lft o M = some r) : ∃ a, o = some a ∧ r = (a, M) := by
  cases o with
  | none => cases h
  | some a => cases h; exact ⟨a, rfl, rfl⟩
/-- what is known of the place where code runs -/
structure XC (X : Cx) (G : Gd) (C : Cfg) : Prop where
  K : X.K = G.K
  calm : X.calm = true
  gd : X.A.guards = some []
  un : X.A.units + 200 < cLine
  T : C.T = G.T
  cls : ∀ c k, G.T.cls[c]? = some k → CF G c k
  hn : PySem.W.specialIn G.K (.builtin "object.__class__") "__get__" = some (some (.builtin "getset_descriptor.__get__"))
  tk : PySem.W.takesIn G.K (.builtin "object.__class__") = some true
  fi : ∀ (f g : Nat), f < G.nf → g < G.nf → G.fnm f = G.fnm g → f = g
  fl : ∀ (c : Nat) (k : ClsD), G.T.cls[c]? = some k → ∀ f, f ∈ k.flds → f < G.nf
/-- one expression: as a value, as a test; a row of them -/
structure SE (X : Cx) (G : Gd) (C : Cfg) (e : Expr) (i : IR) : Prop where
  v : ∀ (pins : List (Addr × Obj)) (s : Shared) (σ : L2.St) (H : Hp) (ρ : List Addr) (se : En) (M : Mem) (d : D) (M' : Mem), Inv X pins σ H s → SRel G ρ H M → ERel G ρ H se σ → ev C i se M = some (d, M') →
    wpAny (model X.prog X.w) X.A (eval e X.env) (EP X pins σ (GotQ G ρ H M' d)) X.xe s
  t : ∀ (pins : List (Addr × Obj)) (s : Shared) (σ : L2.St) (H : Hp) (ρ : List Addr) (se : En) (M : Mem) (d : D) (M' : Mem) (b : Bool), Inv X pins σ H s → SRel G ρ H M → ERel G ρ H se σ → ev C i se M = some (d, M') → truD M' d = some b →
    wpAny (model X.prog X.w) X.A (isTrue e X.env (eval e X.env)) (TP X pins σ (GotB G ρ H M' b)) X.xe s
structure SEs (X : Cx) (G : Gd) (C : Cfg) (es : List Expr) (i : IR) : Prop where
  v : ∀ (pos : Pos) (pins : List (Addr × Obj)) (s : Shared) (σ : L2.St) (H : Hp) (ρ : List Addr) (se : En) (M : Mem) (ds : List D) (M' : Mem), Inv X pins σ H s → SRel G ρ H M → ERel G ρ H se σ → evs C i se M = some (ds, M') →
    wpAny (model X.prog X.w) X.A (spliced (backTo pos (starEach es X.env))) (AP X pins σ (GotL G ρ H M' ds)) X.xe s
/-- the meaning as a reading, for the library's rules -/
def tE (G : Gd) (C : Cfg) (e : IR) : TE := fun σ H Q => ∃ ρ s M d M', SRel G ρ H M ∧ ERel G ρ H s σ ∧ ev C e s M = some (d, M') ∧ ∀ v H', GotQ G ρ H M' d v H' → Q v H'
def tEs (G : Gd) (C : Cfg) (e : IR) : TA := fun σ H Q => ∃ ρ s M ds M', SRel G ρ H M ∧ ERel G ρ H s σ ∧ evs C e s M = some (ds, M') ∧ ∀ vs H', GotL G ρ H M' ds vs H' → Q vs H'
def tT (G : Gd) (C : Cfg) (e : IR) : TT := fun σ H Q => ∃ ρ s M d M' b, SRel G ρ H M ∧ ERel G ρ H s σ ∧ ev C e s M = some (d, M') ∧ truD M' d = some b ∧ ∀ H', GotB G ρ H M' b b H' → Q b H'
section
variable {X : Cx} {G : Gd} {C : Cfg} {e a b c : Expr} {es : List Expr} {i ia ib ic : IR} {pos : Pos}
theorem SE.pe (h : SE X G C e i) : PE X e (tE G C i) := ⟨fun pins s σ H Q I ⟨ρ, se, M, d, M', sr, er, e1, q⟩ => thn (h.v pins s σ H ρ se M d M' I sr er e1) fun u s' ⟨x, H', I', r, g⟩ => ⟨x, H', I', r, q x H' g⟩⟩
theorem SE.pt (h : SE X G C e i) : PT X e (tT G C i) := ⟨fun pins s σ H Q I ⟨ρ, se, M, d, M', b, sr, er, e1, e2, q⟩ => thn (h.t pins s σ H ρ se M d M' b I sr er e1 e2) fun u s' ⟨H', I', g⟩ => by
  obtain ⟨rfl, g2⟩ := id g
  exact ⟨H', I', q H' ⟨rfl, g2⟩⟩⟩
theorem SEs.pa (h : SEs X G C es i) : PA X es (tEs G C i) := ⟨fun pos pins s σ H Q I ⟨ρ, se, M, d, M', sr, er, e1, q⟩ => thn (h.v pos pins s σ H ρ se M d M' I sr er e1) fun u s' ⟨x, H', I', r, g⟩ => ⟨x, H', I', r, q x H' g⟩⟩
/-- an expression whose test is its value's truth -/
def Plain (X : Cx) (e : Expr) : Prop := ∀ whole, isTrue e X.env whole = (do let v ← whole; standAt e.pos; holding [v] (truthy v))
theorem SE.plain (xc : XC X G C) (he : Plain X e) (h : ∀ (pins : List (Addr × Obj)) (s : Shared) (σ : L2.St) (H : Hp) (ρ : List Addr) (se : En) (M : Mem) (d : D) (M' : Mem), Inv X pins σ H s → SRel G ρ H M → ERel G ρ H se σ → ev C i se M = some (d, M') →
    wpAny (model X.prog X.w) X.A (eval e X.env) (EP X pins σ (GotQ G ρ H M' d)) X.xe s) : SE X G C e i := by
  refine ⟨h, fun pins s σ H ρ se M d M' b I sr er e1 e2 => ?_⟩
  refine isTrue_plain (thn (h pins s σ H ρ se M d M' I sr er e1) fun v s1 ⟨x, H1, I1, r1, ρ', ex, sr', rep⟩ => ?_) (he _)
  exact tru_all xc.K xc.cls pins s1 σ H1 x v _ I1 r1 ⟨ρ', M', d, b, sr', rep, e2, rfl, ρ', ex, sr'⟩
/-- from a rule of the library -/
theorem go_pe {t : TE} (h : PE X e t) {pins : List (Addr × Obj)} {s : Shared} {σ : L2.St} {H : Hp} {Q : VK} (I : Inv X pins σ H s) (q : t σ H Q) : wpAny (model X.prog X.w) X.A (eval e X.env) (EP X pins σ Q) X.xe s := h.run pins s σ H Q I q
theorem se_var (xc : XC X G C) {i : Nat} {x : Str} (hN : X.N[i]? = some x) (hv : Vis X.env.scope x) (hd : (x == ("__debug__" : Str)) = false) (hcd : (x == ("__classdict__" : Str)) = false) : SE X G C (.Name x pos) (.var i) := by
  refine .plain xc (fun _ => rfl) fun pins s σ H ρ se M d M' I sr er e1 => ?_
  simp only [ev] at e1
  split at e1
  · rename_i d' hd'
    cases e1
    obtain ⟨v, h1, h2⟩ := er.at_ i d hd'
    exact go_pe (pe_var hN hv hd hcd) I ⟨v, h1, got0.here sr h2⟩
  · cases e1
/-- constants -/
theorem se_cst (xc : XC X G C) {d : D} {v : V} (hp : Plain X e) (h : PE X e (tC v)) (hr : ∀ ρ H, Rep G ρ H d v) : SE X G C e (.cst d) := by
  refine .plain xc hp fun pins s σ H ρ se M d' M' I sr er e1 => ?_
  simp only [ev] at e1
  cases e1
  exact go_pe h I (got0.here sr (hr ρ H))
/-- {} -/
theorem se_dict0 (xc : XC X G C) : SE X G C (.Dict [] [] pos) .dict0 := by
  refine .plain xc (fun _ => rfl) fun pins s σ H ρ se M d' M' I sr er e1 => ?_
  simp only [ev] at e1
  cases e1
  exact go_pe pe_dnewK I fun q hq => got0.emp sr q hq
/-- {(..): ..} of written ints -/
def tIntsA (ks : List Int) : TA := fun _ H Q => Q (ks.map V.int) H
def intsE : List Expr → List Int → Bool
  | [], [] => true
  | .Constant (.int n) _ _ :: es, k :: ks => decide (n = k) && intsE es ks
  | _, _ => false
theorem pa_ints {X : Cx} : ∀ {es : List Expr} {ks : List Int}, intsE es ks = true → PA X es (tIntsA ks)
  | [], [], _ => pa_nil
  | e :: es, [], h => by
    unfold intsE at h
    split at h <;> first | (cases h; done) | (rename_i z; cases z; done) | skip
    all_goals (rename_i z1 z2; first | (cases z2; done) | (cases z1; done))
  | [], k :: ks, h => by simp [intsE] at h
  | e :: es, k :: ks, h => by
    unfold intsE at h
    split at h
    · rename_i z _; cases z
    · rename_i n i p es' k' ks' z1 z2
      cases z1; cases z2
      simp only [Bool.and_eq_true, decide_eq_true_eq] at h
      obtain ⟨rfl, h⟩ := h
      have := pa_cons (X := X) (pe_int (i := n) (j := i) (pos := p)) (pa_ints h)
      exact ⟨fun pos pins s σ H Q I q => this.run pos pins s σ H Q I q⟩
    · cases h
theorem storeAll_one (d : Addr) (a b : Value) : storeAll d [(a, b)] = (dictSet d a b >>= fun _ => pure PUnit.unit) := by
  unfold storeAll
  simp [List.forIn_cons, List.forIn_nil, bind_assoc]
theorem tupE_noSl {X : Cx} {es : List Expr} {ks : List Int} {k : Nat} {pos : Pos} (h : intsE es ks = true) (hl : ks.length ≤ sizeLine) : PE X (.Tuple es k pos) (tTup (tIntsA ks)) := pe_tup (pa_ints h)
theorem se_dict1 (xc : XC X G C) (hu : X.A.units < cLine) {es : List Expr} {ks : List Int} {n : Int} {k i : Nat} {p q : Pos} (h : intsE es ks = true) (hl : ks.length ≤ 100) : SE X G C (.Dict [some (.Tuple es k p)] [.Constant (.int n) i q] pos) (.dict1 ks n) := by
  refine .plain xc (fun _ => rfl) fun pins s σ H ρ se M d' M' I sr er e1 => ?_
  simp only [ev] at e1
  cases e1
  have sl : sizeLine = 16777216 := rfl
  have ck : (pe_tup (pa_ints (X := X) h) : PE X (.Tuple es k p) (tTup (tIntsA ks))) = pe_tup (pa_ints h) := rfl
  have hn := I.hok.fresh (Nat.le_refl s.heap.objs.size)
  have I1 := I.laid (a := s.heap.objs.size) (o := .dT []) (h' := s.heap.push { cls := .type "dict", data := .dict #[] }) (t' := s.toks) (fun _ _ q => Heap.get?_push_of_some _ q) (Nat.le_refl _) (dt_empty s.heap I.big)
  have pp : PPs X pos [some (.Tuple es k p)] [.Constant (.int n) i q] [(tTup (tIntsA ks), tC (.int n))] := pps_cons (pe_tup (pa_ints h)) pe_int pps_nil
  refine wpAny_Dict_any rfl rfl (by simp) (by simp) (thn (pp.run pins _ σ _ (fun ps H2 => ∃ b, ps = [(V.ref b, V.int n)] ∧ upd H s.heap.objs.size (.dT []) b = none ∧ H2 = upd (upd H s.heap.objs.size (.dT [])) b (.tup (ks.map V.int))) I1 ?_) fun ws s2 ⟨ps, H2, I2, rel, b, ep, hb, eH⟩ => ?_)
  · refine ⟨by rw [List.length_map, sl]; omega, fun b hb => ?_⟩
    exact ⟨b, rfl, hb, rfl⟩
  · subst ep eH
    cases rel with
    | @cons p0 w0 ps0 ws0 r0 rel =>
      cases rel
      obtain ⟨u, v⟩ := w0
      obtain ⟨ru, rv⟩ := r0
      simp only at ru rv
      cases ru
      have hbp : b ≠ s.heap.objs.size := fun z => by rw [z, upd_same] at hb; cases hb
      have hbH : H b = none := by rw [← hb, upd_ne hbp]
      have e2 : (upd (upd H s.heap.objs.size (.dT [])) b (.tup (ks.map V.int))) s.heap.objs.size = some (.dT []) := by rw [upd_ne (Ne.symm hbp), upd_same]
      have eb : (upd (upd H s.heap.objs.size (.dT [])) b (.tup (ks.map V.int))) b = some (.tup ((ks.map (Sum.inl : Int → Key)).map kV)) := by rw [upd_same, List.map_map]; rfl
      rw [storeAll_one]
      obtain ⟨z, hd, xs, rl, dd⟩ := dt_of I2.hok e2
      cases rl
      refine wpAny_bind (wpAny_dictSet_heap (knd := tupleKind (mixKind X.prog X.w)) (hsz := Nat.zero_le _) hu (key_of I2.hok eb) dd fun h' dd' hs => wpAny_pure ?_)
      obtain ⟨q0, es0, ep0, hq, h2, h3, h4, _, h5⟩ := dd'
      have I3 := d_write (t' := s2.toks + (tupleKind (mixKind X.prog X.w)).draws (ks.map Sum.inl)) (ob := .dT [(ks.map Sum.inl, .int n)]) I2 (by rw [e2]; exact True.intro) hs ⟨q0, hq⟩ ⟨by rw [sl]; simp, hd, _, .cons ⟨rfl, by rw [upd_ne hbp]; exact eb, rv⟩ .nil, q0, es0, ep0, hq, h2, h3, h4, h5⟩
      refine ⟨.ref s.heap.objs.size, _, I3, rfl, ?_⟩
      have eqH : upd (upd (upd H s.heap.objs.size (.dT [])) b (.tup (ks.map V.int))) s.heap.objs.size (.dT [(ks.map Sum.inl, .int n)]) = upd (upd H b (.tup (ks.map V.int))) s.heap.objs.size (.dT [(ks.map Sum.inl, .int n)]) := by
        funext c
        by_cases c1 : c = s.heap.objs.size
        · rw [c1, upd_same, upd_same]
        · rw [upd_ne c1, upd_ne c1]
          by_cases c2 : c = b
          · rw [c2, upd_same, upd_same]
          · rw [upd_ne c2, upd_ne c2, upd_ne c1]
      rw [eqH]
      have hp2 : (upd H b (.tup (ks.map V.int))) s.heap.objs.size = none := by rw [upd_ne (Ne.symm hbp)]; exact hn
      have sr2 : SRel G ρ (upd H b (.tup (ks.map V.int))) M := sr.laid hbH
      exact ⟨ρ, (Ex.laid hbH).trans (Ex.laid hp2), sr2.laid hp2, .dkt (sr2.notIn hp2) upd_same⟩
theorem se_glob (xc : XC X G C) {g : Nat} {v : V} {d : D} (hp : Plain X e) (hg : G.T.globs[g]? = some d) (h : PE X e (tC v)) (hr : ∀ ρ H, Rep G ρ H d v) : SE X G C e (.glob g) := by
  refine .plain xc hp fun pins s σ H ρ se M d' M' I sr er e1 => ?_
  simp only [ev, xc.T, hg] at e1
  cases e1
  exact go_pe h I (got0.here sr (hr ρ H))
theorem se_neg (xc : XC X G C) (ha : SE X G C a ia) : SE X G C (.UnaryOp .USub a pos) (.neg ia) := by
  refine .plain xc (fun _ => rfl) fun pins s σ H ρ se M d M' I sr er e1 => ?_
  simp only [ev] at e1
  obtain ⟨x, M1, e1, e2⟩ := bnd_inv e1
  split at e2
  · rename_i i
    cases e2
    refine go_pe (pe_un un_neg ha.pe) I ⟨ρ, se, M, _, _, sr, er, e1, fun v H1 ⟨ρ1, x1, sr1, rep1⟩ => ?_⟩
    cases rep1
    exact ⟨i, rfl, (got x1).here sr1 (.int _)⟩
  · cases e2
theorem se_not (xc : XC X G C) (ha : SE X G C a ia) : SE X G C (.UnaryOp .Not a pos) (.not ia) := by
  have key : ∀ {s : En} {M M' : Mem} {d : D}, ev C (.not ia) s M = some (d, M') → ∃ x t, ev C ia s M = some (x, M') ∧ truD M' x = some t ∧ d = .bl (!t) := fun {s M M' d} h => by
    simp only [ev] at h
    obtain ⟨x, M1, e1, e2⟩ := bnd_inv h
    obtain ⟨z, e3, e4⟩ := lft_inv e2
    simp only [Option.map_eq_some_iff] at e3
    obtain ⟨t, e3, rfl⟩ := e3
    cases e4
    exact ⟨x, t, e1, e3, rfl⟩
  refine ⟨fun pins s σ H ρ se M d M' I sr er e1 => ?_, fun pins s σ H ρ se M d M' b I sr er e1 e2 => ?_⟩
  · obtain ⟨x, t, f1, e2, rfl⟩ := key e1
    refine UnaryOp_ (thn (ha.v pins s σ H ρ se M x M' I sr er f1) fun v s1 ⟨y, H1, I1, r1, ρ', ex, sr', rep⟩ => not_of ?_)
    refine thn (tru_all xc.K xc.cls pins s1 σ H1 y v (GotB G ρ H M' t) I1 r1 ⟨ρ', M', x, t, sr', rep, e2, rfl, ρ', ex, sr'⟩) fun c s2 ⟨H2, I2, ec, ρ2, ex2, sr2⟩ => ?_
    subst ec
    exact ⟨.bl (!c), H2, I2, rfl, (got ex2).here sr2 (.bl _)⟩
  · obtain ⟨x, t, f1, e3, rfl⟩ := key e1
    simp only [truD] at e2
    cases e2
    refine isTrue_not (thn (ha.t pins s σ H ρ se M x M' t I sr er f1 e3) fun c s2 ⟨H2, I2, ec, g⟩ => ?_)
    subst ec
    exact ⟨H2, I2, rfl, g⟩

/-! ### and, or -/
theorem key2 {k : D → Bool → Mem → Rs D} {s : En} {M M' : Mem} {d : D} (h : (bnd (ev C ia s M) fun x M => bnd (lft (truD M x) M) fun t M => k x t M) = some (d, M')) :
    ∃ x t M1, ev C ia s M = some (x, M1) ∧ truD M1 x = some t ∧ k x t M1 = some (d, M') := by
  obtain ⟨x, M1, e1, e2⟩ := bnd_inv h
  obtain ⟨t, M2, e3, e4⟩ := bnd_inv e2
  obtain ⟨t', e5, e6⟩ := lft_inv e3
  cases e6
  exact ⟨x, t, _, e1, e5, e4⟩
/-- a chain of and's: what its value is, what its test is -/
structure SB (X : Cx) (G : Gd) (C : Cfg) (op : BoolOp) (es : List Expr) (i : IR) : Prop where
  v : ∀ (pos : Pos) (pins : List (Addr × Obj)) (s : Shared) (σ : L2.St) (H : Hp) (ρ : List Addr) (se : En) (M : Mem) (d : D) (M' : Mem), Inv X pins σ H s → SRel G ρ H M → ERel G ρ H se σ → ev C i se M = some (d, M') →
    wpAny (model X.prog X.w) X.A (eval (.BoolOp op es pos) X.env) (EP X pins σ (GotQ G ρ H M' d)) X.xe s
  t : ∀ (pos : Pos) (whole : Sem Value) (pins : List (Addr × Obj)) (s : Shared) (σ : L2.St) (H : Hp) (ρ : List Addr) (se : En) (M : Mem) (d : D) (M' : Mem) (b : Bool), Inv X pins σ H s → SRel G ρ H M → ERel G ρ H se σ → ev C i se M = some (d, M') → truD M' d = some b →
    wpAny (model X.prog X.w) X.A (isTrue (.BoolOp op es pos) X.env whole) (TP X pins σ (GotB G ρ H M' b)) X.xe s
theorem SB.se {op : BoolOp} (h : SB X G C op es i) : SE X G C (.BoolOp op es pos) i := ⟨h.v pos, h.t pos _⟩
theorem sb_and1 (ha : SE X G C a ia) : SB X G C .And [a] ia := by
  refine ⟨fun pos pins s σ H ρ se M d M' I sr er e1 => BoolOp_one (ha.v pins s σ H ρ se M d M' I sr er e1), fun pos whole pins s σ H ρ se M d M' b I sr er e1 e2 => ?_⟩
  refine isTrue_and (thn (ha.t pins s σ H ρ se M d M' b I sr er e1 e2) fun c s2 q => ?_)
  cases c with
  | true => exact isTrue_and_nil q
  | false => exact q
theorem sb_or1 (ha : SE X G C a ia) : SB X G C .Or [a] ia := by
  refine ⟨fun pos pins s σ H ρ se M d M' I sr er e1 => BoolOp_one (ha.v pins s σ H ρ se M d M' I sr er e1), fun pos whole pins s σ H ρ se M d M' b I sr er e1 e2 => ?_⟩
  refine isTrue_or (thn (ha.t pins s σ H ρ se M d M' b I sr er e1 e2) fun c s2 q => ?_)
  cases c with
  | false => exact isTrue_or_nil q
  | true => exact q
theorem sb_and (xc : XC X G C) (ha : SE X G C a ia) (hb : SB X G C .And (b :: es) ib) : SB X G C .And (a :: b :: es) (.and ia ib) := by
  refine ⟨fun pos pins s σ H ρ se M d M' I sr er e1 => ?_, fun pos whole pins s σ H ρ se M d M' bb I sr er e1 e2 => ?_⟩
  · simp only [ev] at e1
    obtain ⟨x, t, M1, e1, e2, e3⟩ := key2 e1
    refine BoolOp_and (thn (ha.v pins s σ H ρ se M x M1 I sr er e1) fun v s1 ⟨y, H1, I1, r1, ρ', ex, sr', rep⟩ => ?_)
    refine thn (tru_all xc.K xc.cls pins s1 σ H1 y v (fun b' H' => b' = t ∧ H' = H1) I1 r1 ⟨ρ', M1, x, t, sr', rep, e2, rfl, rfl⟩) fun c s2 ⟨H2, I2, ec, eh⟩ => ?_
    subst ec eh
    cases c with
    | true =>
      rw [if_pos rfl] at e3
      exact thn (hb.v pos pins s2 σ _ ρ' se M1 d M' I2 sr' (er.ext ex) e3) fun u s3 ⟨z, H3, I3, r3, g⟩ => ⟨z, H3, I3, r3, g.up ex⟩
    | false =>
      rw [if_neg Bool.false_ne_true] at e3
      cases e3
      exact ⟨y, _, I2, r1, (got ex).here sr' rep⟩
  · simp only [ev] at e1
    obtain ⟨x, t, M1, e1, e4, e3⟩ := key2 e1
    refine isTrue_and (thn (ha.t pins s σ H ρ se M x M1 t I sr er e1 e4) fun c s2 ⟨H2, I2, ec, ρ', ex, sr'⟩ => ?_)
    subst ec
    cases c with
    | true =>
      rw [if_pos rfl] at e3
      exact thn (hb.t pos whole pins s2 σ _ ρ' se M1 d M' bb I2 sr' (er.ext ex) e3 e2) fun u s3 ⟨H3, I3, eu, ρ3, ex3, sr3⟩ => ⟨H3, I3, eu, ρ3, ex.trans ex3, sr3⟩
    | false =>
      rw [if_neg Bool.false_ne_true] at e3
      cases e3
      rw [e4] at e2
      cases e2
      exact ⟨H2, I2, rfl, ρ', ex, sr'⟩
theorem sb_or (xc : XC X G C) (ha : SE X G C a ia) (hb : SB X G C .Or (b :: es) ib) : SB X G C .Or (a :: b :: es) (.or ia ib) := by
  refine ⟨fun pos pins s σ H ρ se M d M' I sr er e1 => ?_, fun pos whole pins s σ H ρ se M d M' bb I sr er e1 e2 => ?_⟩
  · simp only [ev] at e1
    obtain ⟨x, t, M1, e1, e2, e3⟩ := key2 e1
    refine BoolOp_or (thn (ha.v pins s σ H ρ se M x M1 I sr er e1) fun v s1 ⟨y, H1, I1, r1, ρ', ex, sr', rep⟩ => ?_)
    refine thn (tru_all xc.K xc.cls pins s1 σ H1 y v (fun b' H' => b' = t ∧ H' = H1) I1 r1 ⟨ρ', M1, x, t, sr', rep, e2, rfl, rfl⟩) fun c s2 ⟨H2, I2, ec, eh⟩ => ?_
    subst ec eh
    cases c with
    | false =>
      rw [if_neg Bool.false_ne_true] at e3
      exact thn (hb.v pos pins s2 σ _ ρ' se M1 d M' I2 sr' (er.ext ex) e3) fun u s3 ⟨z, H3, I3, r3, g⟩ => ⟨z, H3, I3, r3, g.up ex⟩
    | true =>
      rw [if_pos rfl] at e3
      cases e3
      exact ⟨y, _, I2, r1, (got ex).here sr' rep⟩
  · simp only [ev] at e1
    obtain ⟨x, t, M1, e1, e4, e3⟩ := key2 e1
    refine isTrue_or (thn (ha.t pins s σ H ρ se M x M1 t I sr er e1 e4) fun c s2 ⟨H2, I2, ec, ρ', ex, sr'⟩ => ?_)
    subst ec
    cases c with
    | false =>
      rw [if_neg Bool.false_ne_true] at e3
      exact thn (hb.t pos whole pins s2 σ _ ρ' se M1 d M' bb I2 sr' (er.ext ex) e3 e2) fun u s3 ⟨H3, I3, eu, ρ3, ex3, sr3⟩ => ⟨H3, I3, eu, ρ3, ex.trans ex3, sr3⟩
    | true =>
      rw [if_pos rfl] at e3
      cases e3
      rw [e4] at e2
      cases e2
      exact ⟨H2, I2, rfl, ρ', ex, sr'⟩
theorem se_ite (ha : SE X G C a ia) (hb : SE X G C b ib) (hc : SE X G C c ic) : SE X G C (.IfExp a b c pos) (.ite ia ib ic) := by
  refine ⟨fun pins s σ H ρ se M d M' I sr er e1 => ?_, fun pins s σ H ρ se M d M' bb I sr er e1 e2 => ?_⟩
  · simp only [ev] at e1
    obtain ⟨x, t, M1, e1, e4, e3⟩ := key2 e1
    refine IfExp_ (thn (ha.t pins s σ H ρ se M x M1 t I sr er e1 e4) fun c s2 ⟨H2, I2, ec, ρ', ex, sr'⟩ => ?_)
    subst ec
    cases c with
    | true =>
      rw [if_pos rfl] at e3 ⊢
      exact thn (hb.v pins s2 σ _ ρ' se M1 d M' I2 sr' (er.ext ex) e3) fun u s3 ⟨z, H3, I3, r3, g⟩ => ⟨z, H3, I3, r3, g.up ex⟩
    | false =>
      rw [if_neg Bool.false_ne_true] at e3 ⊢
      exact thn (hc.v pins s2 σ _ ρ' se M1 d M' I2 sr' (er.ext ex) e3) fun u s3 ⟨z, H3, I3, r3, g⟩ => ⟨z, H3, I3, r3, g.up ex⟩
  · simp only [ev] at e1
    obtain ⟨x, t, M1, e1, e4, e3⟩ := key2 e1
    refine isTrue_IfExp (thn (ha.t pins s σ H ρ se M x M1 t I sr er e1 e4) fun c s2 ⟨H2, I2, ec, ρ', ex, sr'⟩ => ?_)
    subst ec
    cases c with
    | true =>
      rw [if_pos rfl] at e3 ⊢
      exact thn (hb.t pins s2 σ _ ρ' se M1 d M' bb I2 sr' (er.ext ex) e3 e2) fun u s3 ⟨H3, I3, eu, ρ3, ex3, sr3⟩ => ⟨H3, I3, eu, ρ3, ex.trans ex3, sr3⟩
    | false =>
      rw [if_neg Bool.false_ne_true] at e3 ⊢
      exact thn (hc.t pins s2 σ _ ρ' se M1 d M' bb I2 sr' (er.ext ex) e3 e2) fun u s3 ⟨H3, I3, eu, ρ3, ex3, sr3⟩ => ⟨H3, I3, eu, ρ3, ex.trans ex3, sr3⟩

/-! ### rows, displays -/
def notStar : Expr → Bool
  | .Starred _ _ => false
  | _ => true
theorem star_cons {env : Env} (h : notStar e = true) : starEach (e :: es) env = (false, eval e env) :: starEach es env := by
  cases e <;> first | rfl | (simp [notStar] at h)
theorem ses_nil : SEs X G C [] .nil := by
  refine ⟨fun pos pins s σ H ρ se M ds M' I sr er e1 => ?_⟩
  simp only [evs] at e1
  cases e1
  exact Calls.spliced_nil ⟨[], H, I, .nil, ρ, Ex.refl, sr, .nil⟩
theorem ses_cons (ns : notStar a = true) (ha : SE X G C a ia) (hb : SEs X G C es ib) : SEs X G C (a :: es) (.cons ia ib) := by
  refine ⟨fun pos pins s σ H ρ se M ds M' I sr er e1 => ?_⟩
  simp only [evs] at e1
  obtain ⟨x, m1, f1, e2⟩ := bnd_inv e1
  obtain ⟨xs, m2, e3, e4⟩ := bnd_inv e2
  cases e4
  have hs := star_cons (es := es) (env := X.env) ns
  rw [hs]
  show wpAny _ _ (spliced ((false, eval a X.env) :: backTo pos (starEach es X.env))) _ _ s
  refine Calls.spliced_cons (thn (ha.v pins s σ H ρ se M x m1 I sr er f1) fun u s1 ⟨y, H1, I1, r1, ρ1, x1, sr1, rep1⟩ => ?_)
  refine thn (hb.v pos pins s1 σ H1 ρ1 se m1 xs _ I1 sr1 (er.ext x1) e3) fun us s2 ⟨ys, H2, I2, r2, ρ2, x2, sr2, rep2⟩ => ?_
  exact ⟨y :: ys, H2, I2, .cons r1 r2, ρ2, x1.trans x2, sr2, .cons (rep1.ext x2) rep2⟩
theorem se_tup (xc : XC X G C) {k : Nat} (h : SEs X G C es i) : SE X G C (.Tuple es k pos) (.tup i) := by
  refine .plain xc (fun _ => rfl) fun pins s σ H ρ se M d M' I sr er e1 => ?_
  simp only [ev] at e1
  obtain ⟨xs, m1, f1, e2⟩ := bnd_inv e1
  obtain ⟨z, e3, e4⟩ := lft_inv e2
  cases e4
  obtain ⟨hl, rfl⟩ := fitL_some e3
  exact go_pe (pe_tup h.pa) I ⟨ρ, se, M, xs, _, sr, er, f1, fun vs H1 ⟨ρ1, x1, sr1, rep1⟩ => ⟨by rw [← rep1.len]; exact hl, fun q hq => (got x1).tup sr1 rep1 q hq⟩⟩
theorem newL_got {k : Bool} {ρ ρ1 : List Addr} {H H1 : Hp} {xs : List D} {vs : List V} {M1 M' : Mem} {d : D} (e : newL k xs M1 = some (d, M')) (x1 : Ex ρ H ρ1 H1) (sr1 : SRel G ρ1 H1 M1) (rep1 : RepL G ρ1 H1 xs vs) (q : Addr) (hq : H1 q = none) :
    GotQ G ρ H M' d (.ref q) (upd H1 q (.lst vs)) := by
  unfold newL at e
  split at e
  · cases e
    have x2 : Ex ρ1 H1 (ρ1 ++ [q]) (upd H1 q (.lst vs)) := Ex.newCell hq
    refine ⟨ρ1 ++ [q], x1.trans x2, sr1.newCell hq ⟨vs, upd_same, rep1.ext x2⟩, .cell ?_⟩
    rw [← sr1.len, List.getElem?_append_right (Nat.le_refl _)]
    simp
  · cases e
    exact (got x1).lst sr1 rep1 q hq
theorem se_lst (xc : XC X G C) {k : Bool} (h : SEs X G C es i) : SE X G C (.List es pos) (.lst k i) := by
  refine .plain xc (fun _ => rfl) fun pins s σ H ρ se M d M' I sr er e1 => ?_
  simp only [ev] at e1
  obtain ⟨xs, m1, f1, e2⟩ := bnd_inv e1
  obtain ⟨ys, M2, e3, e4⟩ := bnd_inv e2
  obtain ⟨z, e5, e6⟩ := lft_inv e3
  cases e6
  obtain ⟨hl, rfl⟩ := fitL_some e5
  exact go_pe (pe_lst h.pa) I ⟨ρ, se, M, xs, _, sr, er, f1, fun vs H1 ⟨ρ1, x1, sr1, rep1⟩ => ⟨by rw [← rep1.len]; exact hl, fun q hq => newL_got e4 x1 sr1 rep1 q hq⟩⟩
theorem se_bin0 (xc : XC X G C) {op : Bop} (ha : SE X G C a ia) (hb : SE X G C b ib) {pins : List (Addr × Obj)} {s : Shared} {σ : L2.St} {H : Hp} {ρ : List Addr} {se : En} {M M1 M2 : Mem} {x y : D} {Q : Value → Shared → Prop} (I : Inv X pins σ H s) (sr : SRel G ρ H M) (er : ERel G ρ H se σ)
    (e1 : ev C ia se M = some (x, M1)) (e2 : ev C ib se M1 = some (y, M2))
    (h : ∀ v u s2 x' y' H2 ρ2, Inv X pins σ H2 s2 → RelV x' v → RelV y' u → Ex ρ H ρ2 H2 → SRel G ρ2 H2 M2 → Rep G ρ2 H2 x x' → Rep G ρ2 H2 y y' → wpAny (model X.prog X.w) X.A (binaryOp (opOf op) v u) Q X.xe s2) :
    wpAny (model X.prog X.w) X.A (eval (.BinOp a (opOf op) b pos) X.env) Q X.xe s := by
  refine wpAny_BinOp (thn (ha.v pins s σ H ρ se M x M1 I sr er e1) fun v s1 ⟨x', H1, I1, r1, ρ1, x1, sr1, rep1⟩ => ?_)
  refine thn (hb.v pins s1 σ H1 ρ1 se M1 y M2 I1 sr1 (er.ext x1) e2) fun u s2 ⟨y', H2, I2, r2, ρ2, x2, sr2, rep2⟩ => ?_
  exact h v u s2 x' y' H2 ρ2 I2 r1 r2 (x1.trans x2) sr2 (rep1.ext x2) rep2
end
end Dn

set_option Elab.async false
set_option linter.all false
set_option maxRecDepth 100000
set_option maxHeartbeats 4000000
/-! Dn, part I: calls. -/
namespace Dn
open PySem PySem.Spec PyProof.Rows L2
/-- a def of the text: its address, its data, its parameters, its defaults; by what names it is called -/
structure FnI where
  fd : FuncData
  ps : List Str
  dv : List Value
/-- Bd: args give the parameters the values full -/
def Bd (s : Shared) (F : FnI) (args : Args) (full : List Value) : Prop := BindsTo s F.fd args (F.ps.zip full)
/-- the frames of a deeper place of the same code -/
structure Sub (X : Cx) (A : Around) : Prop where
  hd : A.handled = none
  fr : A.frames = X.A.frames
  gd : A.guards = some []
  dp : A.depth ≤ X.A.depth + 2
  un : A.units ≤ X.A.units + 6
/-- what a def does, called from here -/
def Calls1 (X : Cx) (G : Gd) (C : Cfg) (F : FnI) (i : Nat) : Prop :=
  ∀ (A : Around) (pins : List (Addr × Obj)) (s : Shared) (σ : L2.St) (H : Hp) (ρ : List Addr) (args : Args) (us : List Value) (vs : List V) (ds : List D) (M : Mem) (d : D) (M' : Mem), Sub X A → Inv X pins σ H s → Bd s F args us → Vals vs us → SRel G ρ H M → RepL G ρ H ds vs →
    C.cf i ds M = some (d, M') → codeAny (model X.prog X.w) A (.call (.ref (G.fa i)) args) (fun r s' => ∃ u, r = .ok (.ret u) ∧ EP X pins σ (GotQ G ρ H M' d) u s') s
section
variable (G : Gd) (ρ : List Addr) (H : Hp) (M' : Mem)
/-- an exception that stands for x has come: its class, its dict -/
def GotX (x : Xn) : XK := fun cls d H' => ∃ (ρ' : List Addr) (k : XcD) (vs : List V) (dd : Addr), Ex ρ H ρ' H' ∧ SRel G ρ' H' M' ∧ G.T.xcs[x.1]? = some k ∧ cls = .ref (G.xa x.1) ∧ d = some dd ∧ H' dd = some (.xd (nmd G k.flds vs)) ∧ RepL G ρ' H' x.2 vs ∧ k.flds.length = vs.length
end
/-- what a def lets out, called from here -/
def CallsX1 (X : Cx) (G : Gd) (C : Cfg) (F : FnI) (i : Nat) : Prop :=
  ∀ (A : Around) (pins : List (Addr × Obj)) (s : Shared) (σ : L2.St) (H : Hp) (ρ : List Addr) (args : Args) (us : List Value) (vs : List V) (ds : List D) (M : Mem) (x : Xn) (M' : Mem), Sub X A → Inv X pins σ H s → Bd s F args us → Vals vs us → SRel G ρ H M → RepL G ρ H ds vs →
    C.cx i ds M = some (x, M') → codeAny (model X.prog X.w) A (.call (.ref (G.fa i)) args) (CR (L2N.CX X.prog X.w) X.stack X.prog X.w H s (fun _ _ => False) (GotX G ρ H M' x)) s
/-- how a def may be called: n values in all, the last of them by the names ks (their places) -/
def Shape (G : Gd) (F : FnI) (f : FnD) (n : Nat) (ks : List Nat) (nm : List Str) : Prop := ∀ (s : Shared) (us : List Value), G.K.In s.heap → us.length = n →
  ∃ full, arr f.np F.dv ks us = some full ∧ Bd s F ⟨us.take (n - ks.length), nm.zip (us.drop (n - ks.length))⟩ full
structure FnF (X : Cx) (G : Gd) (C : Cfg) (F : FnI) (i : Nat) (f : FnD) : Prop where
  it : G.T.fns[i]? = some f
  run : Calls1 X G C F i
  runx : CallsX1 X G C F i
  kp : PySem.W.keepIn G.K (.ref (G.fa i)) = true
  dv : ∀ ρ H, ∃ vs, RepL G ρ H f.dflt vs ∧ Vals vs F.dv
theorem Sub.refl {X : Cx} {G : Gd} {C : Cfg} (xc : XC X G C) (hh : X.A.handled = none) : Sub X X.A := ⟨hh, rfl, xc.gd, by omega, by omega⟩

/-! ### the order of arguments is the same for data and values -/
def All2 {α β : Type} (R : α → β → Prop) : List α → List β → Prop
  | [], [] => True
  | a :: as, b :: bs => R a b ∧ All2 R as bs
  | _, _ => False
theorem all2_len {α β : Type} {R : α → β → Prop} : ∀ {l : List α} {m : List β}, All2 R l m → l.length = m.length
  | [], [], _ => rfl
  | _ :: _, _ :: _, h => by simp [all2_len h.2]
theorem all2_get {α β : Type} {R : α → β → Prop} : ∀ {l : List α} {m : List β} {i : Nat} {a : α}, All2 R l m → l[i]? = some a → ∃ b, m[i]? = some b ∧ R a b
  | [], _, _, _, _, e => by simp at e
  | _ :: _, [], _, _, h, _ => h.elim
  | x :: l, y :: m, 0, a, h, e => by simp at e; subst e; exact ⟨y, rfl, h.1⟩
  | x :: l, y :: m, i + 1, a, h, e => by
    obtain ⟨b, h1, h2⟩ := all2_get (i := i) h.2 (by simpa using e)
    exact ⟨b, by simpa using h1, h2⟩
theorem all2_rep {G : Gd} {ρ : List Addr} {H : Hp} : ∀ {l : List D} {vs : List V}, All2 (Rep G ρ H) l vs ↔ RepL G ρ H l vs
  | [], [] => ⟨fun _ => .nil, fun _ => trivial⟩
  | [], _ :: _ => ⟨fun h => h.elim, fun h => (by cases h)⟩
  | _ :: _, [] => ⟨fun h => h.elim, fun h => (by cases h)⟩
  | d :: l, v :: vs => ⟨fun h => .cons h.1 (all2_rep.mp h.2), fun h => (by cases h with | cons h r => exact ⟨h, all2_rep.mpr r⟩)⟩
theorem all2_vals : ∀ {vs : List V} {us : List Value}, All2 RelV vs us ↔ Vals vs us
  | [], [] => ⟨fun _ => .nil, fun _ => trivial⟩
  | [], _ :: _ => ⟨fun h => h.elim, fun h => (by cases h)⟩
  | _ :: _, [] => ⟨fun h => h.elim, fun h => (by cases h)⟩
  | d :: l, v :: vs => ⟨fun h => .cons h.1 (all2_vals.mp h.2), fun h => (by cases h with | cons h r => exact ⟨h, all2_vals.mpr r⟩)⟩
theorem mapM_rel {α β : Type} {R : α → β → Prop} {f : Nat → Option α} {g : Nat → Option β} (h : ∀ j a, f j = some a → ∃ b, g j = some b ∧ R a b) : ∀ {l : List Nat} {xs : List α}, l.mapM f = some xs → ∃ ys, l.mapM g = some ys ∧ All2 R xs ys
  | [], xs, e => by
    rw [List.mapM_nil] at e
    cases e
    exact ⟨[], by rw [List.mapM_nil]; rfl, trivial⟩
  | j :: l, xs, e => by
    rw [List.mapM_cons] at e
    simp only [Option.bind_eq_bind, Option.bind_eq_some_iff] at e
    obtain ⟨a, e1, as, e2, e3⟩ := e
    cases e3
    obtain ⟨b, h1, h2⟩ := h j a e1
    obtain ⟨bs, h3, h4⟩ := mapM_rel h e2
    refine ⟨b :: bs, ?_, h2, h4⟩
    rw [List.mapM_cons, h1, h3]
    rfl
theorem arr_rel {α β : Type} {R : α → β → Prop} {np : Nat} {da : List α} {db : List β} {ks : List Nat} {xs full : List α} {ys : List β} (h : All2 R xs ys) (hd : All2 R da db) (e : arr np da ks xs = some full) :
    ∃ full', arr np db ks ys = some full' ∧ All2 R full full' := by
  unfold arr at e ⊢
  rw [← all2_len h]
  split at e
  · rename_i hl
    rw [if_pos hl]
    refine mapM_rel (fun j a ej => ?_) e
    by_cases q : j < xs.length - ks.length
    · simp only [if_pos q] at ej ⊢
      exact all2_get h ej
    · simp only [if_neg q] at ej ⊢
      cases hk : ks.idxOf? j with
      | some p =>
        simp only [hk] at ej ⊢
        exact all2_get h ej
      | none =>
        simp only [hk] at ej ⊢
        rw [← all2_len hd]
        split at ej
        · rename_i h2
          rw [if_pos h2]
          exact all2_get hd ej
        · cases ej
  · cases e
section
variable {X : Cx} {G : Gd} {C : Cfg} {F : FnI} {i : Nat} {f : FnD}
/-- a def called with values in the written order -/
theorem call_arr (K : X.K = G.K) (T : C.T = G.T) (ff : FnF X G C F i f) {n : Nat} {ks : List Nat} {nm : List Str} (sh : Shape G F f n ks nm) {A : Around} (sb : Sub X A) {pins : List (Addr × Obj)} {s : Shared} {σ : L2.St} {H : Hp} {ρ : List Addr} {us : List Value} {vs : List V} {ds : List D} {M : Mem} {d : D} {M' : Mem}
    (I : Inv X pins σ H s) (r : Vals vs us) (sr : SRel G ρ H M) (rep : RepL G ρ H ds vs) (hn : ds.length = n) (e : callC C i ks ds M = some (d, M')) :
    codeAny (model X.prog X.w) A (.call (.ref (G.fa i)) ⟨us.take (n - ks.length), nm.zip (us.drop (n - ks.length))⟩) (fun r s' => ∃ u, r = .ok (.ret u) ∧ EP X pins σ (GotQ G ρ H M' d) u s') s := by
  unfold callC argsC at e
  rw [T, ff.it] at e
  simp only at e
  cases h : arr f.np f.dflt ks ds with
  | none => rw [h] at e; cases e
  | some full =>
    rw [h] at e
    simp only at e
    obtain ⟨dvs, g1, g2⟩ := ff.dv ρ H
    obtain ⟨fullV, h1, h2⟩ := arr_rel (all2_rep.mpr rep) (all2_rep.mpr g1) h
    obtain ⟨fullU, h3, h4⟩ := arr_rel (all2_vals.mpr r) (all2_vals.mpr g2) h1
    have hl : us.length = n := by rw [← r.length, ← rep.len]; exact hn
    obtain ⟨full2, h5, h6⟩ := sh s us (by rw [← K]; exact I.kIn) hl
    rw [h3] at h5
    cases h5
    exact ff.run A pins s σ H ρ _ fullU fullV full M d M' sb I h6 (all2_vals.mp h4) sr (all2_rep.mp h2) e

/-! ### the arguments of a call -/
/-- the values given by name -/
structure SKs (X : Cx) (G : Gd) (C : Cfg) (kws : List Keyword) (i : IR) : Prop where
  v : ∀ (pos : Pos) (pins : List (Addr × Obj)) (s : Shared) (σ : L2.St) (H : Hp) (ρ : List Addr) (se : En) (M : Mem) (ds : List D) (M' : Mem), Inv X pins σ H s → SRel G ρ H M → ERel G ρ H se σ → evs C i se M = some (ds, M') →
    wpAny (model X.prog X.w) X.A (evalAll ((backToKw pos (keywordEach kws X.env)).map (·.2))) (AP X pins σ (GotL G ρ H M' ds)) X.xe s
theorem sks_nil : SKs X G C [] .nil := by
  refine ⟨fun pos pins s σ H ρ se M ds M' I sr er e1 => ?_⟩
  simp only [evs] at e1
  cases e1
  exact wpAny_evalAll_nil ⟨[], H, I, .nil, ρ, Ex.refl, sr, .nil⟩
theorem sks_cons {nm : Option Str} {a : Expr} {kpos : Pos} {kws : List Keyword} {ia ib : IR} (ha : SE X G C a ia) (hb : SKs X G C kws ib) : SKs X G C (⟨nm, a, kpos⟩ :: kws) (.cons ia ib) := by
  refine ⟨fun pos pins s σ H ρ se M ds M' I sr er e1 => ?_⟩
  simp only [evs] at e1
  obtain ⟨x, m1, f1, e2⟩ := bnd_inv e1
  obtain ⟨xs, m2, e3, e4⟩ := bnd_inv e2
  cases e4
  show wpAny _ _ (evalAll ((do let v ← eval a X.env; standAt pos; pure v) :: (backToKw pos (keywordEach kws X.env)).map (·.2))) _ _ s
  refine wpAny_evalAll_cons (wpAny_bind (thn (ha.v pins s σ H ρ se M x m1 I sr er f1) fun u s1 ⟨y, H1, I1, r1, ρ1, x1, sr1, rep1⟩ => wpAny_bind (wpAny_standAt (wpAny_pure ?_))))
  refine thn (hb.v pos pins s1 σ H1 ρ1 se m1 xs _ I1 sr1 (er.ext x1) e3) fun us s2 ⟨ys, H2, I2, r2, ρ2, x2, sr2, rep2⟩ => ?_
  exact ⟨y :: ys, H2, I2, .cons r1 r2, ρ2, x1.trans x2, sr2, .cons (rep1.ext x2) rep2⟩
def kwNames (kws : List Keyword) : List Str := kws.filterMap (·.arg)
theorem kw_names (pos : Pos) (env : Env) : ∀ kws : List Keyword, (backToKw pos (keywordEach kws env)).filterMap (·.1) = kwNames kws
  | [] => rfl
  | ⟨nm, a, p⟩ :: kws => by
    have ih := kw_names pos env kws
    show List.filterMap (·.1) ((nm, _) :: backToKw pos (keywordEach kws env)) = _
    unfold kwNames at ih ⊢
    rw [List.filterMap_cons, List.filterMap_cons, ih]
theorem kw_all (pos : Pos) (env : Env) : ∀ kws : List Keyword, (kws.all fun k => k.arg.isSome) = true → (backToKw pos (keywordEach kws env)).all (·.1.isSome) = true ∧ (backToKw pos (keywordEach kws env)).any (·.1.isNone) = false
  | [], _ => ⟨rfl, rfl⟩
  | ⟨nm, a, p⟩ :: kws, h => by
    rw [List.all_cons, Bool.and_eq_true] at h
    obtain ⟨h1, h2⟩ := kw_all pos env kws h.2
    have hn : nm.isSome = true := h.1
    constructor
    · show List.all ((nm, _) :: backToKw pos (keywordEach kws env)) (·.1.isSome) = true
      rw [List.all_cons, h1, hn]; rfl
    · show List.any ((nm, _) :: backToKw pos (keywordEach kws env)) (·.1.isNone) = false
      rw [List.any_cons, h2, Bool.or_false]
      cases nm with
      | none => cases hn
      | some _ => rfl
theorem no_star (pos : Pos) (env : Env) : ∀ es : List Expr, es.all notStar = true → (backTo pos (starEach es env)).any (·.1) = false
  | [], _ => rfl
  | e :: es, h => by
    rw [List.all_cons, Bool.and_eq_true] at h
    rw [star_cons h.1]
    show List.any ((false, _) :: backTo pos (starEach es env)) (·.1) = false
    rw [List.any_cons, no_star pos env es h.2]; rfl
theorem call_args {fv : Value} {first : List Value} {es : List Expr} {kws : List Keyword} {ia ib : IR} {pos : Pos} {pins : List (Addr × Obj)} {s : Shared} {σ : L2.St} {H : Hp} {ρ : List Addr} {se : En} {M M1 M2 : Mem} {xs ys : List D} {Q : Value → Shared → Prop}
    (hk : PySem.W.keepIn X.K fv = true) (ns : es.all notStar = true) (nk : (kws.all fun k => k.arg.isSome) = true) (hnil : es = [] → ia = .nil) (ha : SEs X G C es ia) (hb : SKs X G C kws ib) (I : Inv X pins σ H s) (sr : SRel G ρ H M) (er : ERel G ρ H se σ)
    (e1 : evs C ia se M = some (xs, M1)) (e2 : evs C ib se M1 = some (ys, M2))
    (h : ∀ us ws vs zs s2 H2 ρ2, Inv X pins σ H2 s2 → Vals vs us → Vals zs ws → Ex ρ H ρ2 H2 → SRel G ρ2 H2 M2 → RepL G ρ2 H2 xs vs → RepL G ρ2 H2 ys zs → ws.length = zs.length → wpAny (model X.prog X.w) X.A (call fv (first ++ us) ((kwNames kws).zip ws)) Q X.xe s2) :
    wpAny (model X.prog X.w) X.A (callWith pos fv first (backTo pos (starEach es X.env)) (backToKw pos (keywordEach kws X.env))) Q X.xe s := by
  obtain ⟨k1, k2⟩ := kw_all pos X.env kws nk
  have k3 := kw_names pos X.env kws
  have k4 := no_star pos X.env es ns
  have pl : ((backTo pos (starEach es X.env)).any (·.1) || (backToKw pos (keywordEach kws X.env)).any (·.1.isNone)) = false := by rw [k4, k2]; rfl
  cases es with
  | nil =>
    have := hnil rfl
    subst this
    simp only [evs] at e1
    cases e1
    refine PySem.W.callWith_KW0 (h₀ := X.base) I.ok.mod.kin hk k1 ?_ pl
    refine thn (hb.v pos pins s σ H ρ se _ ys M2 I sr er e2) fun ws s2 ⟨zs, H2, I2, r2, ρ2, x2, sr2, rep2⟩ => ⟨I2.kIn, ?_⟩
    rw [k3]
    exact h [] ws [] zs s2 H2 ρ2 I2 .nil r2 x2 sr2 .nil rep2 r2.length.symm
  | cons e es =>
    rw [List.all_cons, Bool.and_eq_true] at ns
    refine PySem.W.callWith_KW (h₀ := X.base) I.ok.mod.kin hk k1 (thn (ha.v pos pins s σ H ρ se M xs M1 I sr er e1) fun us s1 ⟨vs, H1, I1, r1, ρ1, x1, sr1, rep1⟩ => ?_) pl (star_cons ns.1)
    refine thn (hb.v pos pins s1 σ H1 ρ1 se M1 ys M2 I1 sr1 (er.ext x1) e2) fun ws s2 ⟨zs, H2, I2, r2, ρ2, x2, sr2, rep2⟩ => ⟨I2.kIn, ?_⟩
    rw [k3]
    exact h us ws vs zs s2 H2 ρ2 I2 r1 r2 (x1.trans x2) sr2 (rep1.ext x2) rep2 (r2.length.symm)

theorem kwNames_len {kws : List Keyword} (nk : (kws.all fun k => k.arg.isSome) = true) : (kwNames kws).length = kws.length := by
  unfold kwNames
  induction kws with
  | nil => rfl
  | cons k kws ih =>
    rw [List.all_cons, Bool.and_eq_true] at nk
    cases h : k.arg with
    | none => rw [h] at nk; cases nk.1
    | some x => rw [List.filterMap_cons, h]; simp [ih nk.2]
/-- f(..), f a def of the text by its name -/
theorem se_call (xc : XC X G C) (hh : X.A.handled = none) (ff : FnF X G C F i f) {x : Str} {p pos : Pos} {es : List Expr} {kws : List Keyword} {ia ib : IR} {ks : List Nat} {n : Nat} (hg : Gl X x) (hm : X.mg x = some (.ref (G.fa i))) (hdb : (x == ("__debug__" : Str)) = false)
    (ns : es.all notStar = true) (nk : (kws.all fun k => k.arg.isSome) = true) (hnil : es = [] → ia = .nil) (ha : SEs X G C es ia) (hb : SKs X G C kws ib) (hlen : es.length + kws.length = n) (hks : ks.length = kws.length) (sh : Shape G F f n ks (kwNames kws))
    (hl : ∀ {se : En} {M M1 : Mem} {xs : List D}, evs C ia se M = some (xs, M1) → xs.length = es.length) (hl2 : ∀ {se : En} {M M1 : Mem} {xs : List D}, evs C ib se M = some (xs, M1) → xs.length = kws.length) :
    SE X G C (.Call (.Name x p) es kws pos) (.call i ks ia ib) := by
  refine .plain xc (fun _ => rfl) fun pins s σ H ρ se M d M' I sr er e1 => ?_
  simp only [ev] at e1
  obtain ⟨xs, M1, f1, e2⟩ := bnd_inv e1
  obtain ⟨ys, M2, f2, e3⟩ := bnd_inv e2
  have l1 := hl f1
  have l2 := hl2 f2
  refine wpAny_Call_Name_kw (ld_glob I hg hm ?_ hdb)
  refine call_args (first := []) (by rw [xc.K]; exact ff.kp) ns nk hnil ha hb I sr er f1 f2 fun us ws vs zs s2 H2 ρ2 I2 r1 r2 x2 sr2 rep1 rep2 lw => ?_
  have c := call_arr xc.K xc.T ff sh (Sub.refl xc hh) I2 (r1.append r2) sr2 (rep1.app rep2) (by rw [List.length_append, l1, l2]; exact hlen) e3
  have lu : us.length = es.length := by rw [← r1.length, ← rep1.len]; exact l1
  have e4 : n - ks.length = us.length := by omega
  rw [e4, List.take_left, List.drop_left] at c
  refine wpAny_call (codeAny_mono c fun r s' ⟨u, er, q⟩ => ?_)
  subst er
  obtain ⟨v, H3, I3, rv, g⟩ := q
  exact ⟨v, H3, I3, rv, g.up x2⟩
end
end Dn

set_option Elab.async false
set_option linter.all false
set_option maxRecDepth 100000
set_option maxHeartbeats 4000000
/-! Dn, part J: operators, comparisons, items, built-ins, own objects. -/
namespace Dn
open PySem PySem.Spec PyProof.Rows L2
/-- a def that is called with n values by their places, from the machine's own code -/
structure FnP (X : Cx) (G : Gd) (C : Cfg) (i n : Nat) : Prop where
  ex : ∃ F f, FnF X G C F i f ∧ ∀ (s : Shared) (us : List Value), us.length = n → Bd s F ⟨us, []⟩ us
section
variable {X : Cx} {G : Gd} {C : Cfg} {i n : Nat}
theorem FnP.call (fp : FnP X G C i n) {A : Around} (sb : Sub X A) {pins : List (Addr × Obj)} {s : Shared} {σ : L2.St} {H : Hp} {ρ : List Addr} {us : List Value} {vs : List V} {ds : List D} {M : Mem} {d : D} {M' : Mem} {E : Value → Shared → Prop}
    (I : Inv X pins σ H s) (r : Vals vs us) (sr : SRel G ρ H M) (rep : RepL G ρ H ds vs) (hn : ds.length = n) (e : C.cf i ds M = some (d, M')) :
    wpAny (model X.prog X.w) A (PySem.call (.ref (G.fa i)) us) (EP X pins σ (GotQ G ρ H M' d)) E s := by
  obtain ⟨F, f, ff, hb⟩ := fp.ex
  have hl : us.length = n := by rw [← r.length, ← rep.len]; exact hn
  refine wpAny_call (codeAny_mono (ff.run A pins s σ H ρ ⟨us, []⟩ us vs ds M d M' sb I (hb s us hl) r sr rep e) fun r s' ⟨u, er, q⟩ => ?_)
  subst er
  exact q
end
/-- a class's own operator -/
structure OpAt (K : PySem.W.Frag) (c f : Addr) (nm : String) : Prop where
  at_ : PySem.W.findIn K (.ref c) (PySem.dunder nm) = some (some (.ref f))
  fn : PySem.W.isFn K (.ref f) = true
  nor : PySem.W.findIn K (.ref c) (PySem.dunderR nm) = some none
  fst : PySem.W.selfFirst K c = true
  ty : ∀ a ∈ (["NoneType", "bool", "int", "str", "tuple", "list", "dict"] : List String), (∃ fo, PySem.W.findIn K (.type a) (PySem.dunder nm) = some fo) ∧ (∃ ro, PySem.W.findIn K (.type a) (PySem.dunderR nm) = some ro) ∧ PySem.W.subIn K (.type a) (.ref c) = some false
/-- the special methods of a class -/
structure OwnF (X : Cx) (G : Gd) (C : Cfg) (c : Nat) (k : ClsD) : Prop where
  eq : ∀ f, k.eqf = some f → FnP X G C f 2 ∧ PySem.W.findIn G.K (.ref (G.ca c)) "__eq__" = some (some (.ref (G.fa f))) ∧ PySem.W.isFn G.K (.ref (G.fa f)) = true ∧
    PySem.W.findIn G.K (.ref (G.ca c)) "__ne__" = some (some (.builtin "object.__ne__"))
  str : ∀ f, k.strf = some f → FnP X G C f 1 ∧ PySem.W.findIn G.K (.ref (G.ca c)) "__str__" = some (some (.ref (G.fa f))) ∧ PySem.W.isFn G.K (.ref (G.fa f)) = true
  rpr : ∀ f, k.reprf = some f → FnP X G C f 1 ∧ PySem.W.findIn G.K (.ref (G.ca c)) "__repr__" = some (some (.ref (G.fa f))) ∧ PySem.W.isFn G.K (.ref (G.fa f)) = true
  prop : ∀ f g, k.props.lookup f = some g → FnP X G C g 1 ∧ ∃ p, PropOf G.K (G.ca c) (G.fnm f) p (G.fa g)
  bop : ∀ op f, bopf k op = some f → FnP X G C f 2 ∧ OpAt G.K (G.ca c) (G.fa f) (opOf op).info.2
  inn : ∀ f, k.inf = some f → FnP X G C f 2 ∧ PySem.W.findIn G.K (.ref (G.ca c)) "__contains__" = some (some (.ref (G.fa f))) ∧ PySem.W.isFn G.K (.ref (G.fa f)) = true
section
variable {X : Cx} {G : Gd} {C : Cfg} {e a b c : Expr} {es : List Expr} {i ia ib ic : IR} {pos : Pos} {ρ : List Addr} {H : Hp} {M : Mem}
/-- a value's type -/
def tyNames : List String := ["NoneType", "bool", "int", "str", "tuple", "list", "dict"]
def tyNm (M : Mem) : D → String
  | .non => "NoneType"
  | .bl _ => "bool"
  | .int _ => "int"
  | .str _ => "str"
  | .tup _ => "tuple"
  | .lst _ => "list"
  | .ro _ => "list"
  | .cell _ => "list"
  | .obj _ _ => ""
  | .emp => "dict"
  | .dkt _ _ => "dict"
theorem rep_ty (xc : XC X G C) (sr : SRel G ρ H M) {d : D} {v : V} (h : Rep G ρ H d v) (ok : isinOk M d = true) :
    ∃ t, TyX X.K H v t ∧ ((tyNm M d ∈ tyNames ∧ t = .type (tyNm M d) ∧ ∀ c l, d ≠ .obj c l) ∨ ∃ c l, d = .obj c l ∧ t = .ref (G.ca c)) := by
  cases h with
  | non => exact ⟨_, .base .non, .inl ⟨by simp [tyNames, tyNm], rfl, fun _ _ e => by cases e⟩⟩
  | bl b => exact ⟨_, .base (.bl b), .inl ⟨by simp [tyNames, tyNm], rfl, fun _ _ e => by cases e⟩⟩
  | int b => exact ⟨_, .base (.int b), .inl ⟨by simp [tyNames, tyNm], rfl, fun _ _ e => by cases e⟩⟩
  | str b => exact ⟨_, .base (.str _), .inl ⟨by simp [tyNames, tyNm], rfl, fun _ _ e => by cases e⟩⟩
  | tup n h r => exact ⟨_, .base (.tup h), .inl ⟨by simp [tyNames, tyNm], rfl, fun _ _ e => by cases e⟩⟩
  | tup0 h =>
    rcases h (fun _ => none) with (h | ⟨o, h⟩) | ⟨o, its, n, h1, h2, _⟩
    · cases h
    · cases h
    · rw [← xc.K] at h1
      exact ⟨_, .kTuple h1 h2, .inl ⟨by simp [tyNames, tyNm], rfl, fun _ _ e => by cases e⟩⟩
  | emp n h => exact ⟨_, .base (.dK h), .inl ⟨by simp [tyNames, tyNm], rfl, fun _ _ e => by cases e⟩⟩
  | dkt n h => exact ⟨_, .base (.dT h), .inl ⟨by simp [tyNames, tyNm], rfl, fun _ _ e => by cases e⟩⟩
  | lst n h r => exact ⟨_, .base (.lst h), .inl ⟨by simp [tyNames, tyNm], rfl, fun _ _ e => by cases e⟩⟩
  | ro h r =>
    rcases h with ⟨_, o, h⟩ | h
    · exact ⟨_, .base (.frz h), .inl ⟨by simp [tyNames, tyNm], rfl, fun _ _ e => by cases e⟩⟩
    · rcases h (fun _ => none) with (h | ⟨o, h⟩) | ⟨o, its, n, h1, h2, _⟩
      · cases h
      · cases h
      · rw [← xc.K] at h1
        exact ⟨_, .kList h1 h2, .inl ⟨by simp [tyNames, tyNm], rfl, fun _ _ e => by cases e⟩⟩
  | @cell n a hn =>
    simp only [isinOk] at ok
    split at ok
    · rename_i l hm
      obtain ⟨a', ha, vs, h1, h2⟩ := sr.cell hm
      rw [hn] at ha; cases ha
      exact ⟨_, .base (.lst h1), .inl ⟨by simp [tyNames, tyNm], rfl, fun _ _ e => by cases e⟩⟩
    · cases ok
  | @obj c l a dx vs n h e r =>
    have C1 := xc.cls c _ (List.getElem?_eq_getElem e.1)
    exact ⟨_, .base (.ins h (by rw [xc.K]; exact C1.cl) (by rw [xc.K]; exact C1.ic) (by rw [xc.K]; exact xc.hn) (by rw [xc.K]; exact xc.tk) (by rw [xc.K]; exact C1.mo)), .inr ⟨c, l, rfl, rfl⟩⟩

/-! ### isinstance -/
def tkV (G : Gd) : TyK → V
  | .int => .ty "int"
  | .bool => .ty "bool"
  | .str => .ty "str"
  | .tup => .ty "tuple"
  | .lst => .ty "list"
  | .cls c => .ref (G.ca c)
def tkU (G : Gd) : TyK → Value
  | .int => .type "int"
  | .bool => .type "bool"
  | .str => .type "str"
  | .tup => .type "tuple"
  | .lst => .type "list"
  | .cls c => .ref (G.ca c)
theorem tk_cls (k : TyK) : ClsV (tkV G k) (tkU G k) := by
  cases k <;> first | exact .ty _ | exact .own _
def tkN : TyK → String
  | .int => "int"
  | .bool => "bool"
  | .str => "str"
  | .tup => "tuple"
  | .lst => "list"
  | .cls _ => "object"
theorem kit_names : ∀ a ∈ tyNames, ∀ b ∈ (["int", "bool", "str", "tuple", "list"] : List String), kitB a b = some (a == b || (a == "bool" && b == "int")) := by
  decide +kernel
theorem isin_kit (xc : XC X G C) (sr : SRel G ρ H M) {d : D} {v : V} (h : Rep G ρ H d v) (ok : isinOk M d = true) {k : TyK} (hk : ∀ c, k = .cls c → c < G.T.cls.length) : ∃ t, TyX X.K H v t ∧ PySem.W.kitOne X.K t (tkU G k) = some (isinD M d k) := by
  obtain ⟨t, ty, ht⟩ := rep_ty xc sr h ok
  refine ⟨t, ty, ?_⟩
  rcases ht with ⟨ha, rfl, no⟩ | ⟨c, l, rfl, rfl⟩
  · cases k with
    | cls c =>
      have C1 := xc.cls c _ (List.getElem?_eq_getElem (hk c rfl))
      rw [xc.K]
      show PySem.W.kitOne G.K (.type (tyNm M d)) (.ref (G.ca c)) = _
      rw [C1.kt _ ha]
      cases d <;> first | rfl | exact absurd rfl (no _ _)
    | int =>
      rw [show PySem.W.kitOne X.K (.type (tyNm M d)) (tkU G .int) = _ from kit_ty (kit_names _ ha "int" (by simp))]
      cases d <;> first | rfl | exact absurd rfl (no _ _)
    | bool =>
      rw [show PySem.W.kitOne X.K (.type (tyNm M d)) (tkU G .bool) = _ from kit_ty (kit_names _ ha "bool" (by simp))]
      cases d <;> first | rfl | exact absurd rfl (no _ _)
    | str =>
      rw [show PySem.W.kitOne X.K (.type (tyNm M d)) (tkU G .str) = _ from kit_ty (kit_names _ ha "str" (by simp))]
      cases d <;> first | rfl | exact absurd rfl (no _ _)
    | tup =>
      rw [show PySem.W.kitOne X.K (.type (tyNm M d)) (tkU G .tup) = _ from kit_ty (kit_names _ ha "tuple" (by simp))]
      cases d <;> first | rfl | exact absurd rfl (no _ _)
    | lst =>
      rw [show PySem.W.kitOne X.K (.type (tyNm M d)) (tkU G .lst) = _ from kit_ty (kit_names _ ha "list" (by simp))]
      cases d with
      | cell n =>
        simp only [isinOk] at ok
        split at ok
        · rename_i l hm
          simp only [isinD, hm]
          rfl
        · cases ok
      | obj c l => exact absurd rfl (no _ _)
      | _ => rfl
  · have hc := h.cls
    obtain ⟨kk, _, hc⟩ := hc
    have C1 := xc.cls c _ (List.getElem?_eq_getElem hc)
    rw [xc.K]
    cases k with
    | cls c' =>
      have C2 := xc.cls c' _ (List.getElem?_eq_getElem (hk c' rfl))
      exact C2.kc c hc
    | int => exact C1.kf _ (by simp)
    | bool => exact C1.kf _ (by simp)
    | str => exact C1.kf _ (by simp)
    | tup => exact C1.kf _ (by simp)
    | lst => exact C1.kf _ (by simp)
theorem se_isin (xc : XC X G C) {p pos : Pos} {k : TyK} (hg : Gl X "isinstance") (hm : X.mg "isinstance" = none) (na : notStar a = true) (nb : notStar b = true) (ha : SE X G C a ia) (hb : PE X b (tC (tkV G k))) (hk : ∀ c, k = .cls c → c < G.T.cls.length) :
    SE X G C (.Call (.Name "isinstance" p) [a, b] [] pos) (.isin ia k) := by
  refine .plain xc (fun _ => rfl) fun pins s σ H ρ se M d M' I sr er e1 => ?_
  simp only [ev] at e1
  obtain ⟨x, M1, f1, e2⟩ := bnd_inv e1
  split at e2
  · rename_i ok
    cases e2
    have pb := pe_callB (r := rIsi X.K) call_isi hg hm (by decide +kernel) (pa_cons ha.pe (pa_cons hb pa_nil (star_cons nb)) (star_cons na)) (pos := pos) (p := p) (by decide) (by decide) (star_cons na) (no_star pos X.env [b] (by simp [nb]))
    refine go_pe pb I ?_
    refine ⟨ρ, se, M, x, _, sr, er, f1, fun v H1 ⟨ρ1, x1, sr1, rep1⟩ => ?_⟩
    obtain ⟨t, ty, kk⟩ := isin_kit xc sr1 rep1 ok hk
    exact ⟨v, tkV G k, t, tkU G k, _, rfl, tk_cls k, ty, kk, (got x1).here sr1 (.bl _)⟩
  · cases e2
end
end Dn

set_option Elab.async false
set_option linter.all false
set_option maxRecDepth 100000
set_option maxHeartbeats 4000000
/-! Dn, part K: ==, != of own objects, str, repr of them; operators. -/
namespace Dn
open PySem PySem.Spec PyProof.Rows L2
/-! ### x != b by the class's own == -/
section
variable {prog : Program} {w : World} {A : Around} {E : Value → Shared → Prop} {s : Shared} {K : PySem.W.Frag} {x C L f : Addr} {h₀ : Heap} {m : Str → Option Value} {ox : Obj} {od : Option Obj} {b tb : Value}
def NotBack (Q : Value → Shared → Prop) (v : Value) (s' : Shared) : Prop := ∃ z, v = .bool z ∧ Q (.bool (!z)) s'
theorem ifBound_ne {M : Model} {args : List Value} {Q : Option Value → Shared → Prop} (KX : K.In s.heap) (I : PySem.W.InstAt s.heap x ox C od) (hs : PySem.W.findIn K (.ref C) "__ne__" = some (some (.builtin "object.__ne__")))
    (h : wpAny M A (call (.builtin "object.__ne__") (.ref x :: args)) (fun v => Q (some v)) E s) : wpAny M A (callSpecialIfBound? (.ref x) "__ne__" args) Q E s := by
  have last : wpAny M A (call (.builtin "object.__ne__") ([.ref x] ++ args) >>= fun v => pure (some v)) Q E s := wpAny_bind (wpAny_mono h (fun v s' q => wpAny_pure q) fun _ _ q => q)
  simp only [callSpecialIfBound?, bindSpecialIfBound?]
  refine wpAny_holding (wpAny_bind (wpAny_bind (wpAny_bind (I.type.here ((PySem.W.looks_findIn KX hs).here (wpAny_bind (wpAny_askSetting (wpAny_ite ?_))))))))
  split
  · exact wpAny_bind (wpAny_of_eq (F.cmp_object.ne.bind _) (wpAny_pure (by exact last)))
  · exact wpAny_tryCatch (wpAny_bind (wpAny_of_eq (F.cmp_object.ne.bind _) (wpAny_pure (by exact last))))
theorem ne_body {Q : Fin → Shared → Prop} (hu : A.units < cLine) (KX : K.In s.heap) (I : PySem.W.InstAt s.heap x ox C od) (hs : PySem.W.findIn K (.ref C) "__eq__" = some (some (.ref f))) (hf : PySem.W.isFn K (.ref f) = true)
    (h : wpAny (model prog w) A (call (.ref f) [.ref x, b]) (fun v s' => ∃ z, v = .bool z ∧ Q (.done (.ret (.bool (!z)))) s') E s) : wpAny (model prog w) A (Builtin.«object.__ne__» ⟨[.ref x, b], []⟩) Q E s := by
  unfold Builtin.«object.__ne__»
  refine wpAny_bind (m := slotArgs "__ne__" 1 _) (wpAny_pure ?_)
  refine wpAny_bind (m := cRoomFor _ _) (wpAny_cRoomFor hu ?_)
  refine wpAny_bind (m := callSpecialIfBound? (.ref x) (Str.ofString "__eq__") [b]) (PySem.W.ifBound_K KX I hs hf (wpAny_mono h (fun r s' hr => ?_) fun _ _ q => q))
  obtain ⟨z, rfl, q⟩ := hr
  exact wpAny_bind (m := truthy (.bool z)) (wpAny_truthy_bool (wpAny_pure q))
theorem ne_own {Q : Value → Shared → Prop} (hu : A.units + 1 < cLine) (Fh : Fr h₀ L s.heap m) (X₀ : K.In h₀) (I : PySem.W.InstAt s.heap x ox C od) (lb : PySem.W.Looks (model prog w) s.heap (typeOf b) tb) (hn : PySem.W.notFirst K C tb = true)
    (hm : PySem.W.mroIn K C (.type "object") = some true) (hne : PySem.W.findIn K (.ref C) "__ne__" = some (some (.builtin "object.__ne__"))) (hs : PySem.W.findIn K (.ref C) "__eq__" = some (some (.ref f))) (hf : PySem.W.isFn K (.ref f) = true)
    (h : wpAny (model prog w) A.in1 (call (.ref f) [.ref x, b]) (NotBack Q) E s) : wpAny (model prog w) A (richCompare .NotEq (.ref x) b) Q E s := by
  have KX := X₀.keeps Fh.keep
  have one : wpAny (model prog w) A (tryCompare (.ref x) "__ne__" b) (fun r s' => ∃ v, r = some v ∧ Q v s') E s := by
    unfold tryCompare
    refine wpAny_bind (ifBound_ne KX I hne (wpAny_call (codeAny_call_builtin F.cmp_object.ne.plain F.cmpEntry_ne (PySem.W.check_slot F.cmpKind_ne F.cmpSplit_ne (I.type.andThen (PySem.W.looks_mroIn KX hm)) (F.cmpArgs_ne _ _) (ne_body (by show A.units + 1 < cLine; exact hu) KX I hs hf ?_)))))
    refine wpAny_mono h (fun v s' ⟨z, ev, q⟩ => ⟨z, ev, ?_⟩) fun _ _ q => q
    first | exact wpAny_pure ⟨_, rfl, q⟩ | exact ⟨_, rfl, wpAny_pure ⟨_, rfl, q⟩⟩
  unfold richCompare
  simp only [oneThing_ref]
  rw [cmpInfo_NotEq]
  dsimp only
  refine wpAny_holding (wpAny_bind (wpAny_cRoomFor (by omega) (wpAny_bind (I.type.here (wpAny_bind (lb.here ?_))))))
  split
  · rename_i q
    have e : PySem.W.subIn K tb (.ref C) = some false := by
      rcases Bool.or_eq_true_iff.mp hn with e | e
      · rw [beq_iff_eq.mp e] at q; simp at q
      · exact beq_iff_eq.mp e
    refine wpAny_bind ((PySem.W.looks_subIn KX e).here ?_)
    simp only [Bool.false_eq_true, if_false]
    refine wpAny_bind (wpAny_mono one (fun r s' ⟨v, ev, hq⟩ => ?_) fun _ _ e => e)
    subst ev
    exact wpAny_pure hq
  · refine wpAny_bind (wpAny_pure ?_)
    simp only [Bool.false_eq_true, if_false]
    refine wpAny_bind (wpAny_mono one (fun r s' ⟨v, ev, hq⟩ => ?_) fun _ _ e => e)
    subst ev
    exact wpAny_pure hq
end
/-! ### v in x by the class's own -/
section
variable {prog : Program} {w : World} {A : Around} {E : Value → Shared → Prop} {s : Shared} {K : PySem.W.Frag} {x C f : Addr} {ox : Obj} {od : Option Obj} {v : Value}
theorem in_own {Q : Bool → Shared → Prop} (KX : K.In s.heap) (I : PySem.W.InstAt s.heap x ox C od) (hs : PySem.W.findIn K (.ref C) "__contains__" = some (some (.ref f))) (hf : PySem.W.isFn K (.ref f) = true)
    (h : wpAny (model prog w) A (call (.ref f) [.ref x, v]) (fun r s' => ∃ b, r = .bool b ∧ Q b s') E s) : wpAny (model prog w) A (contains (.ref x) v) Q E s := by
  unfold contains
  refine wpAny_holding ?_
  show wpAny _ _ (specialOf (.ref x) "__contains__" >>= _) _ _ s
  refine wpAny_bind (wpAny_bind (I.type.here ((PySem.W.looks_findIn KX hs).here ?_)))
  show wpAny _ _ (if (some (Value.ref f) == some Value.none) = true then _ else _) Q E s
  rw [if_neg (by simp)]
  have one : wpAny (model prog w) A (callSpecialUnlessNone? (.ref x) "__contains__" [v] (do rule "in.none"; raiseError "TypeError" s!"'{← typeNameOf (.ref x)}' object is not a container")) (fun r s' => ∃ b, r = some (.bool b) ∧ Q b s') E s := by
    unfold callSpecialUnlessNone?
    refine wpAny_bind (wpAny_bind (I.type.here ((PySem.W.looks_findIn KX hs).here ?_)))
    refine wpAny_holding (wpAny_bind ((PySem.W.bind_fn KX _ (beq_iff_eq.mp hf)).here ?_))
    show wpAny _ _ (if (Value.ref f == Value.none) = true then _ else _) _ E s
    rw [if_neg (by simp)]
    exact wpAny_bind (wpAny_mono h (fun r s' ⟨b, e, q⟩ => wpAny_pure ⟨b, by rw [e], q⟩) fun _ _ z => z)
  refine wpAny_bind (wpAny_mono one (fun r s' ⟨b, e, q⟩ => ?_) fun _ _ z => z)
  subst e
  exact wpAny_truthy_bool q
end
/-! ### x op b by the class's own operator -/
section
variable {prog : Program} {w : World} {A : Around} {E : Value → Shared → Prop} {s : Shared} {K : PySem.W.Frag} {x C L f : Addr} {h₀ : Heap} {m : Str → Option Value} {ox : Obj} {od : Option Obj} {b tb : Value}
theorem bin_own {op : Operator} {Q : Value → Shared → Prop} (Fh : Fr h₀ L s.heap m) (X₀ : K.In h₀) (I : PySem.W.InstAt s.heap x ox C od) (lb : PySem.W.Looks (model prog w) s.heap (typeOf b) tb) (O : OpAt K C f op.info.2)
    (ht : tb = .ref C ∨ ∃ T, tb = .type T ∧ T ∈ (["NoneType", "bool", "int", "str", "tuple", "list", "dict"] : List String))
    (h : wpAny (model prog w) A (PySem.call (.ref f) [.ref x, b]) (PySem.W.CmpBack Q) E s) : wpAny (model prog w) A (binaryOp op (.ref x) b) Q E s := by
  have X := X₀.keeps Fh.keep
  obtain ⟨hs, hf, hr, hc, hty⟩ := O
  obtain ⟨cd, rest, hcd, hm⟩ := PySem.W.ksp_first hc
  rcases hi : op.info with ⟨sym, nm'⟩
  rw [hi] at hs hr hty
  dsimp only at hs hr hty
  have one := PySem.W.ksp_try X I hs hf h
  obtain ⟨hh, g, d, tt, os⟩ := s
  have L1 : PySem.W.Looks (model prog w) hh (typeOf (.ref x)) (.ref C) := I.type
  have L3 : PySem.W.Looks (model prog w) hh (fillsNumberSlot (.ref C) nm') true := PySem.W.fills_K X hcd hm hs
  have L6 : PySem.W.Looks (model prog w) hh (numberSlotInPython (.ref C) nm') true := PySem.W.ksp_inPy X hs hr (.inl rfl)
  rcases ht with rfl | ⟨T, rfl, hT⟩
  · have heq : (Value.ref C == Value.ref C) = true := by simp
    simp only [binaryOp, hi]
    refine wpAny_holding (wpAny_bind ?_)
    unfold binaryOp1
    refine wpAny_bind (L1.at (wpAny_bind (lb.at (wpAny_bind (L3.at ?_)))))
    simp only [heq, if_true]
    ksp_lk
    refine wpAny_mono one (fun r s' hr' => ?_) fun _ _ e => e
    obtain ⟨v, rfl, hq⟩ := hr'
    ksp_lk
    exact hq
  · obtain ⟨⟨fo, h1⟩, ⟨ro, h2⟩, hsub⟩ := hty T hT
    have L4 : PySem.W.Looks (model prog w) hh (fillsNumberSlot (.type T) nm') ((fo.isSome && !isSeqSlot fo) || (ro.isSome && !isSeqSlot ro)) := PySem.W.ksp_fillsT X h1 h2
    have L5 : PySem.W.Looks (model prog w) hh (isSubtype (.type T) (.ref C)) false := PySem.W.looks_subIn X hsub
    have L7 : PySem.W.Looks (model prog w) hh (numberSlotInPython (.type T) nm') false := PySem.W.Looks.of_pure rfl
    have L8 : PySem.W.Looks (model prog w) hh (typeLookup (.type T) (dunderR nm')) ro := PySem.W.looks_findIn X h2
    generalize ((fo.isSome && !isSeqSlot fo) || (ro.isSome && !isSeqSlot ro)) = right at L4
    have hne : (Value.ref C == Value.type T) = false := Bool.eq_false_iff.mpr fun q => by cases beq_iff_eq.mp q
    simp only [binaryOp, hi]
    refine wpAny_holding (wpAny_bind ?_)
    unfold binaryOp1
    refine wpAny_bind (L1.at (wpAny_bind (lb.at (wpAny_bind (L3.at ?_)))))
    simp only [hne, Bool.false_eq_true, if_false]
    cases right with
    | false =>
      ksp_lk
      refine wpAny_mono one (fun r s' hr' => ?_) fun _ _ e => e
      obtain ⟨v, rfl, hq⟩ := hr'
      ksp_lk
      exact hq
    | true =>
      ksp_lk
      refine wpAny_mono one (fun r s' hr' => ?_) fun _ _ e => e
      obtain ⟨v, rfl, hq⟩ := hr'
      ksp_lk
      exact hq
end
/-! ### on data -/
structure XO (X : Cx) (G : Gd) (C : Cfg) : Prop extends XC X G C where
  hh : X.A.handled = none
  own : ∀ c k, G.T.cls[c]? = some k → OwnF X G C c k
section
variable {X : Cx} {G : Gd} {C : Cfg} {e a b c : Expr} {es : List Expr} {i ia ib ic : IR} {pos : Pos} {ρ : List Addr} {H : Hp} {M M' : Mem}
theorem XO.sub (xo : XO X G C) : Sub X X.A := ⟨xo.hh, rfl, xo.gd, by omega, by omega⟩
theorem XO.sub1 (xo : XO X G C) : Sub X X.A.in1 := ⟨xo.hh, rfl, xo.gd, by show X.A.depth ≤ _; omega, by show X.A.units + 1 ≤ _; omega⟩
theorem XO.sub2 (xo : XO X G C) : Sub X X.A.in1.in1 := ⟨xo.hh, rfl, xo.gd, by show X.A.depth ≤ _; omega, by show X.A.units + 1 + 1 ≤ _; omega⟩
theorem asB_inv {r : Rs D} {b : Bool} {M' : Mem} (h : asB r = some (b, M')) : r = some (.bl b, M') := by
  unfold asB at h
  obtain ⟨d, M1, e1, e2⟩ := bnd_inv h
  split at e2
  · cases e2; exact e1
  · cases e2
theorem asS_inv {r : Rs D} {d : D} {M' : Mem} (h : asS r = some (d, M')) : ∃ z, d = .str z ∧ r = some (.str z, M') := by
  unfold asS at h
  obtain ⟨d, M1, e1, e2⟩ := bnd_inv h
  split at e2
  · cases e2; exact ⟨_, rfl, e1⟩
  · cases e2
theorem ty_looks (xo : XO X G C) {pins : List (Addr × Obj)} {s : Shared} {σ : L2.St} (I : Inv X pins σ H s) (sr : SRel G ρ H M) {d : D} {v : V} {u : Value} (h : Rep G ρ H d v) (rv : RelV v u) (ok : isinOk M d = true) {c : Nat} {k : ClsD} (C1 : CF G c k) :
    ∃ tb, PySem.W.Looks (model X.prog X.w) s.heap (typeOf u) tb ∧ PySem.W.notFirst G.K (G.ca c) tb = true := by
  obtain ⟨t, ty, ht⟩ := rep_ty xo.toXC sr h ok
  obtain ⟨P, Z, p, _⟩ := kit_of I rv ty
  refine ⟨t, Z.ty _ _ I.kIn p, ?_⟩
  rcases ht with ⟨ha, rfl, _⟩ | ⟨c', l, rfl, rfl⟩
  · exact C1.nb1 _ ha
  · obtain ⟨kk, _, hc⟩ := h.cls
    exact C1.nb2 _ hc
theorem back_of {pins : List (Addr × Obj)} {σ : L2.St} {Q : VK} {v : Value} {s : Shared} (h : EP X pins σ Q v s) : PySem.W.CmpBack (EP X pins σ Q) v s := by
  obtain ⟨x, H', I, r, q⟩ := id h
  cases v <;> first | exact h | (cases x <;> first | (cases r; done) | (obtain ⟨_, e⟩ := r; cases e))
/-- an own object and what stands to the right of an operator -/
theorem bin_all (xo : XO X G C) {op : Bop} {pins : List (Addr × Obj)} {s : Shared} {σ : L2.St} {x y : V} {v u : Value} {dx dy d : D} {f : Nat} (I : Inv X pins σ H s) (rx : RelV x v) (ry : RelV y u) (sr : SRel G ρ H M) (hx : Rep G ρ H dx x) (hy : Rep G ρ H dy y)
    (hf : bopOf C.T op dx = some f) (ok : rightOk M dx dy = true) (e : C.cf f [dx, dy] M = some (d, M')) : wpAny (model X.prog X.w) X.A (binaryOp (opOf op) v u) (EP X pins σ (GotQ G ρ H M' d)) X.xe s := by
  have obj : ∃ c l k, dx = .obj c l ∧ G.T.cls[c]? = some k ∧ bopf k op = some f := by
    cases dx <;> simp only [bopOf] at hf <;> try (cases hf; done)
    rename_i c l
    rw [xo.T] at hf
    simp only [Option.bind_eq_some_iff] at hf
    obtain ⟨k, h1, h2⟩ := hf
    exact ⟨c, l, k, rfl, h1, h2⟩
  obtain ⟨c, l, k, rfl, hk, hkf⟩ := obj
  have ok2 : isinOk M dy = true := by
    cases dy <;> first | exact ok | rfl
  obtain ⟨fp, O⟩ := (xo.own c k hk).bop op f hkf
  obtain ⟨t, ty, ht⟩ := rep_ty xo.toXC sr hy ok2
  obtain ⟨P, Z, p, _⟩ := kit_of I ry ty
  have lb : PySem.W.Looks (model X.prog X.w) s.heap (typeOf u) t := Z.ty _ _ I.kIn p
  have ht' : t = .ref (G.ca c) ∨ ∃ T, t = .type T ∧ T ∈ (["NoneType", "bool", "int", "str", "tuple", "list", "dict"] : List String) := by
    rcases ht with ⟨ha, rfl, _⟩ | ⟨c', l', rfl, rfl⟩
    · exact .inr ⟨_, rfl, ha⟩
    · simp only [rightOk, beq_iff_eq] at ok
      subst ok
      exact .inl rfl
  cases hx with
  | obj n hh ee rl =>
    cases rx
    obtain ⟨mA, O', _⟩ := ins_get I.hok hh
    obtain ⟨od, J, _⟩ := O'.look
    obtain ⟨m, Fh⟩ := I.fr
    have kin := I.ok.mod.kin
    rw [xo.K] at kin
    refine bin_own Fh kin J lb O ht' ?_
    exact wpAny_mono (fp.call xo.sub I (show Vals [V.ref _, y] [Value.ref _, u] from .cons rfl (.cons ry .nil)) sr (.cons (.obj n hh ee rl) (.cons hy .nil)) rfl e) (fun r s' q => back_of q) fun _ _ q => q
/-- the comparison on data, with the class's own == -/
theorem cmp_all (xo : XO X G C) (op : Cop) {pins : List (Addr × Obj)} {s : Shared} {σ : L2.St} {x y : V} {v u : Value} {dx dy : D} {t : Bool} (I : Inv X pins σ H s) (rx : RelV x v) (ry : RelV y u) (sr : SRel G ρ H M) (hx : Rep G ρ H dx x) (hy : Rep G ρ H dy y)
    (e : cmpC C op dx dy M = some (t, M')) : wpAny (model X.prog X.w) X.A (compareOp (copOf op) v u) (EP X pins σ (GotQ G ρ H M' (.bl t))) X.xe s := by
  have plain : lft (cmpD op dx dy M) M = some (t, M') → wpAny (model X.prog X.w) X.A (compareOp (copOf op) v u) (EP X pins σ (GotQ G ρ H M' (.bl t))) X.xe s := fun e => by
    obtain ⟨z, e1, e2⟩ := lft_inv e
    cases e2
    exact op_cmp xo.K (by have := xo.un; omega) op pins s σ H x y v u _ I rx ry ⟨ρ, M, dx, dy, t, sr, hx, hy, e1, got0.here sr (.bl _)⟩
  have obj : ∀ {f : Nat}, eqfOf C.T dx = some f → ∃ c l k, dx = .obj c l ∧ G.T.cls[c]? = some k ∧ k.eqf = some f := fun {f} h => by
    cases dx <;> simp only [eqfOf] at h <;> try (cases h; done)
    rename_i c l
    rw [xo.T] at h
    simp only [Option.bind_eq_some_iff] at h
    obtain ⟨k, h1, h2⟩ := h
    exact ⟨c, l, k, rfl, h1, h2⟩
  have inn : ∀ {f : Nat} {z : Bool} {M2 : Mem}, infOf C.T dy = some f → C.cf f [dy, dx] M = some (.bl z, M2) → wpAny (model X.prog X.w) X.A (contains u v) (fun b s' => b = z ∧ ∃ H', Inv X pins σ H' s' ∧ GotQ G ρ H M2 (.bl z) (.bl b) H') X.xe s := fun {f z M2} hf e1 => by
    have obj : ∃ c l k, dy = .obj c l ∧ G.T.cls[c]? = some k ∧ k.inf = some f := by
      cases dy <;> simp only [infOf] at hf <;> try (cases hf; done)
      rename_i c l
      rw [xo.T] at hf
      simp only [Option.bind_eq_some_iff] at hf
      obtain ⟨k, h1, h2⟩ := hf
      exact ⟨c, l, k, rfl, h1, h2⟩
    obtain ⟨c, l, k, rfl, hk, hkf⟩ := obj
    obtain ⟨fp, fe, ff⟩ := (xo.own c k hk).inn f hkf
    cases hy with
    | obj n hh ee rl =>
      cases ry
      obtain ⟨mA, O, _⟩ := ins_get I.hok hh
      obtain ⟨od, J, _⟩ := O.look
      refine in_own (by have := I.kIn; rw [xo.K] at this; exact this) J fe ff ?_
      refine wpAny_mono (fp.call xo.sub I (show Vals [V.ref _, x] [Value.ref _, v] from .cons rfl (.cons rx .nil)) sr (.cons (.obj n hh ee rl) (.cons hx .nil)) rfl e1) (fun r s' q => ?_) fun _ _ q => q
      obtain ⟨zv, H', I', rz, g⟩ := q
      obtain ⟨ρ', ex, sr', rep⟩ := g
      cases rep
      cases rz
      exact ⟨z, rfl, rfl, H', I', ρ', ex, sr', .bl _⟩
  cases op with
  | eq =>
    simp only [cmpC] at e
    cases hf : eqfOf C.T dx with
    | none => rw [hf] at e; exact plain e
    | some f =>
      rw [hf] at e
      simp only at e
      split at e
      · rename_i ok
        obtain ⟨c, l, k, rfl, hk, hkf⟩ := obj hf
        have e1 := asB_inv e
        have C1 := xo.cls c k hk
        obtain ⟨fp, fe, ff, fne⟩ := (xo.own c k hk).eq f hkf
        obtain ⟨tb, lb, nf⟩ := ty_looks xo I sr hy ry ok C1
        cases hx with
        | obj n hh ee rl =>
          cases rx
          obtain ⟨mA, O, _⟩ := ins_get I.hok hh
          obtain ⟨od, J, _⟩ := O.look
          obtain ⟨m, Fh⟩ := I.fr
          have kin := I.ok.mod.kin
          rw [xo.K] at kin
          show wpAny _ _ (richCompare .Eq (.ref _) u) _ _ _
          refine PySem.W.cmp_K (op := .Eq) (by have := xo.un; omega) Fh kin J lb nf fe ff ?_
          refine wpAny_mono (fp.call xo.sub I (show Vals [V.ref _, y] [Value.ref _, u] from .cons rfl (.cons ry .nil)) sr (.cons (.obj n hh ee rl) (.cons hy .nil)) rfl e1) (fun r s' q => ?_) fun _ _ q => q
          obtain ⟨z, H', I', rz, g⟩ := q
          obtain ⟨ρ', ex, sr', rep⟩ := g
          cases rep
          cases rz
          exact ⟨.bl t, H', I', rfl, ρ', ex, sr', .bl _⟩
      · cases e
  | ne =>
    simp only [cmpC] at e
    cases hf : eqfOf C.T dx with
    | none => rw [hf] at e; exact plain e
    | some f =>
      rw [hf] at e
      simp only at e
      split at e
      · rename_i ok
        obtain ⟨c, l, k, rfl, hk, hkf⟩ := obj hf
        obtain ⟨z, M1, e1, e2⟩ := bnd_inv e
        cases e2
        have e1 := asB_inv e1
        have C1 := xo.cls c k hk
        obtain ⟨fp, fe, ff, fne⟩ := (xo.own c k hk).eq f hkf
        obtain ⟨tb, lb, nf⟩ := ty_looks xo I sr hy ry ok C1
        cases hx with
        | obj n hh ee rl =>
          cases rx
          obtain ⟨mA, O, _⟩ := ins_get I.hok hh
          obtain ⟨od, J, _⟩ := O.look
          obtain ⟨m, Fh⟩ := I.fr
          have kin := I.ok.mod.kin
          rw [xo.K] at kin
          show wpAny _ _ (richCompare .NotEq (.ref _) u) _ _ _
          refine ne_own (by have := xo.un; omega) Fh kin J lb nf C1.mo fne fe ff ?_
          refine wpAny_mono (fp.call xo.sub1 I (show Vals [V.ref _, y] [Value.ref _, u] from .cons rfl (.cons ry .nil)) sr (.cons (.obj n hh ee rl) (.cons hy .nil)) rfl e1) (fun r s' q => ?_) fun _ _ q => q
          obtain ⟨zv, H', I', rz, g⟩ := q
          obtain ⟨ρ', ex, sr', rep⟩ := g
          cases rep
          cases rz
          exact ⟨z, rfl, .bl (!z), H', I', rfl, ρ', ex, sr', .bl _⟩
      · cases e
  | in_ =>
    simp only [cmpC] at e
    cases hf : infOf C.T dy with
    | none => rw [hf] at e; exact plain e
    | some f =>
      rw [hf] at e
      have e1 := asB_inv e
      refine wpAny_bind (m := contains u v) (wpAny_mono (inn hf e1) (fun b s' q => ?_) fun _ _ z => z)
      obtain ⟨rfl, H', I', g⟩ := q
      exact wpAny_pure ⟨.bl b, H', I', rfl, g⟩
  | nin =>
    simp only [cmpC] at e
    cases hf : infOf C.T dy with
    | none => rw [hf] at e; exact plain e
    | some f =>
      rw [hf] at e
      obtain ⟨z, M1, e0, e2⟩ := bnd_inv e
      cases e2
      have e1 := asB_inv e0
      refine wpAny_bind (m := contains u v) (wpAny_mono (inn hf e1) (fun b s' q => ?_) fun _ _ z => z)
      obtain ⟨rfl, H', I', ρ', ex, sr', rep⟩ := q
      cases rep
      exact wpAny_pure ⟨.bl (!b), H', I', rfl, ρ', ex, sr', .bl _⟩
  | _ => exact plain e
end
end Dn

set_option Elab.async false
set_option linter.all false
set_option maxRecDepth 100000
set_option maxHeartbeats 4000000
/-! Dn, part L: the expressions, one by one. -/
namespace Dn
open PySem PySem.Spec PyProof.Rows L2
section
variable {X : Cx} {G : Gd} {C : Cfg} {e a b c : Expr} {es : List Expr} {i ia ib ic : IR} {pos : Pos} {ρ : List Addr} {H : Hp} {M M' : Mem}
theorem se_bin (xo : XO X G C) {op : Bop} (ha : SE X G C a ia) (hb : SE X G C b ib) : SE X G C (.BinOp a (opOf op) b pos) (.bin op ia ib) := by
  refine .plain xo.toXC (fun _ => rfl) fun pins s σ H ρ se M d M' I sr er e1 => ?_
  simp only [ev] at e1
  obtain ⟨x, M1, f1, e2⟩ := bnd_inv e1
  obtain ⟨y, M2, f2, e3⟩ := bnd_inv e2
  refine se_bin0 xo.toXC ha hb I sr er f1 f2 fun v u s2 x' y' H2 ρ2 I2 rx ry x2 sr2 rep1 rep2 => ?_
  unfold binC at e3
  cases hf : bopOf C.T op x with
  | none =>
    rw [hf] at e3
    obtain ⟨z, e4, e5⟩ := lft_inv e3
    cases e5
    exact op_bin xo.K op pins s2 σ H2 x' y' v u _ I2 rx ry ⟨ρ2, _, x, y, _, sr2, rep1, rep2, e4, got x2⟩
  | some f =>
    rw [hf] at e3
    simp only at e3
    split at e3
    · rename_i ok
      exact thn (bin_all xo I2 rx ry sr2 rep1 rep2 hf ok e3) fun r s3 ⟨z, H3, I3, r3, g⟩ => ⟨z, H3, I3, r3, g.up x2⟩
    · cases e3
theorem se_cmp (xo : XO X G C) {op : Cop} (hm : behindInMarks (copOf op) b = false) (ha : SE X G C a ia) (hb : SE X G C b ib) : SE X G C (.Compare a [copOf op] [b] pos) (.cmp op ia ib) := by
  have key : ∀ {se : En} {M M' : Mem} {d : D}, ev C (.cmp op ia ib) se M = some (d, M') → ∃ x M1 y M2 t, ev C ia se M = some (x, M1) ∧ ev C ib se M1 = some (y, M2) ∧ cmpC C op x y M2 = some (t, M') ∧ d = .bl t := fun {se M M' d} h => by
    simp only [ev] at h
    obtain ⟨x, M1, f1, e2⟩ := bnd_inv h
    obtain ⟨y, M2, f2, e3⟩ := bnd_inv e2
    obtain ⟨t, M3, f3, e4⟩ := bnd_inv e3
    cases e4
    exact ⟨x, M1, y, M2, t, f1, f2, f3, rfl⟩
  have run : ∀ {pins : List (Addr × Obj)} {s : Shared} {σ : L2.St} {H : Hp} {ρ : List Addr} {se : En} {M M1 M2 M' : Mem} {x y : D} {t : Bool} {Q : Value → Shared → Prop}, Inv X pins σ H s → SRel G ρ H M → ERel G ρ H se σ → ev C ia se M = some (x, M1) → ev C ib se M1 = some (y, M2) → cmpC C op x y M2 = some (t, M') →
      (∀ s3, EP X pins σ (GotQ G ρ H M' (.bl t)) (.bool t) s3 → Q (.bool t) s3) →
      wpAny (model X.prog X.w) X.A (eval a X.env) (fun v s1 => wpAny (model X.prog X.w) X.A (eval b X.env) (fun u s2 => wpAny (model X.prog X.w) X.A (compareOp (copOf op) v u) Q X.xe s2) X.xe s1) X.xe s := by
    intro pins s σ H ρ se M M1 M2 M' x y t Q I sr er f1 f2 f3 k
    refine thn (ha.v pins s σ H ρ se M x M1 I sr er f1) fun v s1 ⟨x', H1, I1, r1, ρ1, x1, sr1, rep1⟩ => ?_
    refine thn (hb.v pins s1 σ H1 ρ1 se M1 y M2 I1 sr1 (er.ext x1) f2) fun u s2 ⟨y', H2, I2, r2, ρ2, x2, sr2, rep2⟩ => ?_
    refine thn (cmp_all xo op I2 r1 r2 sr2 (rep1.ext x2) rep2 f3) fun r s3 ⟨z, H3, I3, r3, g⟩ => ?_
    have g' : GotQ G ρ H M' (.bl t) z H3 := (g.up x2).up x1
    obtain ⟨ρ3, x3, sr3, rep3⟩ := id g'
    cases rep3
    cases r3
    exact k s3 ⟨.bl t, H3, I3, rfl, g'⟩
  refine ⟨fun pins s σ H ρ se M d M' I sr er e1 => ?_, fun pins s σ H ρ se M d M' bb I sr er e1 e2 => ?_⟩
  · obtain ⟨x, M1, y, M2, t, f1, f2, f3, rfl⟩ := key e1
    exact wpAny_Compare1 (run I sr er f1 f2 f3 fun s3 q => q) hm
  · obtain ⟨x, M1, y, M2, t, f1, f2, f3, rfl⟩ := key e1
    simp only [truD] at e2
    cases e2
    refine wpAny_isTrue_Compare1 (run (Q := fun r s3 => wpAny (model X.prog X.w) X.A (truthy r) _ X.xe s3) I sr er f1 f2 f3 fun s3 ⟨z, H3, I3, r3, ρ3, x3, sr3, rep3⟩ => ?_) hm
    exact wpAny_truthy_bool ⟨H3, I3, rfl, ρ3, x3, sr3⟩
/-- a op b op' c, plain data -/
theorem se_cmp2 (xo : XO X G C) {op op' : Cop} (hm : lastMarks [copOf op, copOf op'] [b, c] = false) (ha : SE X G C a ia) (hb : SE X G C b ib) (hc : SE X G C c ic) : SE X G C (.Compare a [copOf op, copOf op'] [b, c] pos) (.cmp2 op op' ia ib ic) := by
  have hu : X.A.units + 65 < cLine := by have := xo.un; omega
  have key : ∀ {se : En} {M M' : Mem} {d : D}, ev C (.cmp2 op op' ia ib ic) se M = some (d, M') → ∃ x M1 y M2 t, ev C ia se M = some (x, M1) ∧ ev C ib se M1 = some (y, M2) ∧ cmpD op x y M2 = some t ∧
      ((t = false ∧ d = .bl false ∧ M' = M2) ∨ ∃ z t', t = true ∧ ev C ic se M2 = some (z, M') ∧ cmpD op' y z M' = some t' ∧ d = .bl t') := fun {se M M' d} h => by
    simp only [ev] at h
    obtain ⟨x, M1, f1, e2⟩ := bnd_inv h
    obtain ⟨y, M2, f2, e3⟩ := bnd_inv e2
    obtain ⟨t, M3, f3, e4⟩ := bnd_inv e3
    obtain ⟨t', f4, e5⟩ := lft_inv f3
    cases e5
    refine ⟨x, M1, y, _, t, f1, f2, f4, ?_⟩
    cases t with
    | false => rw [if_neg Bool.false_ne_true] at e4; cases e4; exact .inl ⟨rfl, rfl, rfl⟩
    | true =>
      rw [if_pos rfl] at e4
      obtain ⟨z, M4, f5, e6⟩ := bnd_inv e4
      obtain ⟨w', f6, e7⟩ := lft_inv e6
      simp only [Option.map_eq_some_iff] at f6
      obtain ⟨t', f6, rfl⟩ := f6
      cases e7
      exact .inr ⟨z, t', rfl, f5, f6, rfl⟩
  have pe := pe_chain (op_cmp xo.K hu op) (op_cmp xo.K hu op') ha.pe hb.pe hc.pe (pos := pos) hm
  have pt := pt_chain (op_cmp xo.K hu op) (op_cmp xo.K hu op') ha.pe hb.pe hc.pe (pos := pos) hm
  have rd : ∀ {σ : L2.St} {H : Hp} {ρ : List Addr} {se : En} {M M' : Mem} {d : D} {Q : VK}, SRel G ρ H M → ERel G ρ H se σ → ev C (.cmp2 op op' ia ib ic) se M = some (d, M') → (∀ v H', GotQ G ρ H M' d v H' → Q v H') →
      tChain (rCmp G op) (rCmp G op') (tE G C ia) (tE G C ib) (tE G C ic) σ H Q := by
    intro σ H ρ se M M' d Q sr er e k
    obtain ⟨x, M1, y, M2, t, f1, f2, f3, h⟩ := key e
    refine ⟨ρ, se, M, x, M1, sr, er, f1, fun v H1 ⟨ρ1, x1, sr1, rep1⟩ => ⟨ρ1, se, M1, y, M2, sr1, er.ext x1, f2, fun u H2 ⟨ρ2, x2, sr2, rep2⟩ => ⟨ρ2, M2, x, y, t, sr2, rep1.ext x2, rep2, f3, t, rfl, ?_⟩⟩⟩
    rcases h with ⟨rfl, rfl, rfl⟩ | ⟨z, t', rfl, f4, f5, rfl⟩
    · rw [if_neg Bool.false_ne_true]
      exact k _ _ ((got (x1.trans x2)).here sr2 (.bl _))
    · rw [if_pos rfl]
      refine ⟨ρ2, se, M2, z, M', sr2, (er.ext x1).ext x2, f4, fun w' H3 ⟨ρ3, x3, sr3, rep3⟩ => ⟨ρ3, M', y, z, t', sr3, rep2.ext x3, rep3, f5, ?_⟩⟩
      exact k _ _ ((got ((x1.trans x2).trans x3)).here sr3 (.bl _))
  refine ⟨fun pins s σ H ρ se M d M' I sr er e1 => go_pe pe I (rd sr er e1 fun v H' g => g), fun pins s σ H ρ se M d M' bb I sr er e1 e2 => ?_⟩
  refine pt.run pins s σ H _ I (rd sr er e1 fun v H' ⟨ρ', x', sr', rep'⟩ => ?_)
  obtain ⟨x, M1, y, M2, t, f1, f2, f3, h⟩ := key e1
  have db : ∃ z, d = .bl z := by
    rcases h with ⟨_, rfl, _⟩ | ⟨_, t', _, _, _, rfl⟩
    · exact ⟨_, rfl⟩
    · exact ⟨_, rfl⟩
  obtain ⟨z, rfl⟩ := db
  simp only [truD] at e2
  cases e2
  cases rep'
  exact ⟨bb, rfl, rfl, ρ', x', sr'⟩

/-! ### items, slices -/
theorem se_idx (xo : XO X G C) (hp : PlainIx b) (ha : SE X G C a ia) (hb : SE X G C b ib) : SE X G C (.Subscript a b pos) (.idx ia ib) := by
  refine .plain xo.toXC (fun _ => rfl) fun pins s σ H ρ se M d M' I sr er e1 => ?_
  simp only [ev] at e1
  obtain ⟨x, M1, f1, e2⟩ := bnd_inv e1
  obtain ⟨y, M2, f2, e3⟩ := bnd_inv e2
  obtain ⟨z, e4, e5⟩ := lft_inv e3
  cases e5
  refine go_pe (pe_ix (ix_all xo.K) ha.pe hb.pe hp) I ⟨ρ, se, M, x, M1, sr, er, f1, fun v H1 ⟨ρ1, x1, sr1, rep1⟩ => ⟨ρ1, se, M1, y, _, sr1, er.ext x1, f2, fun u H2 ⟨ρ2, x2, sr2, rep2⟩ => ?_⟩⟩
  exact ⟨ρ2, _, x, y, d, sr2, rep1.ext x2, rep2, e4, got (x1.trans x2)⟩
/-- a slice's part -/
structure SO (X : Cx) (G : Gd) (C : Cfg) (e : Option Expr) (i : IR) : Prop where
  ex : (e = none ∧ i = .nil) ∨ ∃ a, e = some a ∧ isNil i = false ∧ SE X G C a i
def tO (G : Gd) (C : Cfg) (i : IR) : TO := fun σ H Q => ∃ ρ s M o M', SRel G ρ H M ∧ ERel G ρ H s σ ∧ (if isNil i = true then some (none, M) else bnd (ev C i s M) fun d M => lft (partI d) M) = some (o, M') ∧ ∀ ρ' H', Ex ρ H ρ' H' → SRel G ρ' H' M' → Q o H'
theorem SO.po {e : Option Expr} (h : SO X G C e i) : PO X e (tO G C i) := by
  rcases h.ex with ⟨rfl, rfl⟩ | ⟨a, rfl, hn, hs⟩
  · refine ⟨fun pins s σ H Q I ⟨ρ, se, M, o, M', sr, er, e1, q⟩ => po_none.run pins s σ H Q I ?_⟩
    have e1 : (some (none, M) : Rs (Option Int)) = some (o, M') := e1
    cases e1
    exact q ρ H Ex.refl sr
  · refine ⟨fun pins s σ H Q I ⟨ρ, se, M, o, M', sr, er, e1, q⟩ => (po_some hs.pe).run pins s σ H Q I ?_⟩
    rw [hn, if_neg Bool.false_ne_true] at e1
    obtain ⟨x, M1, f1, e2⟩ := bnd_inv e1
    obtain ⟨z, e3, e4⟩ := lft_inv e2
    cases e4
    refine ⟨ρ, se, M, x, _, sr, er, f1, fun v H1 ⟨ρ1, x1, sr1, rep1⟩ => ?_⟩
    cases x with
    | int n =>
      simp only [partI] at e3
      cases e3
      cases rep1
      exact ⟨n, rfl, q ρ1 H1 x1 sr1⟩
    | _ => cases e3
theorem se_slice (xo : XO X G C) {lo hi : Option Expr} {p2 : Pos} (ha : SE X G C a ia) (hl : SO X G C lo ib) (hh : SO X G C hi ic) : SE X G C (.Subscript a (.Slice lo hi none p2) pos) (.slice ia ib ic) := by
  refine .plain xo.toXC (fun _ => rfl) fun pins s σ H ρ se M d M' I sr er e1 => ?_
  simp only [ev] at e1
  obtain ⟨x, M1, f1, e2⟩ := bnd_inv e1
  obtain ⟨l, M2, f2, e3⟩ := bnd_inv e2
  obtain ⟨h, M3, f3, e4⟩ := bnd_inv e3
  obtain ⟨z, e5, e6⟩ := lft_inv e4
  cases e6
  refine go_pe (pe_slice (sl_all xo.K) ha.pe hl.po hh.po) I ⟨ρ, se, M, x, M1, sr, er, f1, fun v H1 ⟨ρ1, x1, sr1, rep1⟩ => ?_⟩
  refine ⟨ρ1, se, M1, l, M2, sr1, er.ext x1, f2, fun ρ2 H2 x2 sr2 => ⟨ρ2, se, M2, h, _, sr2, (er.ext x1).ext x2, f3, fun ρ3 H3 x3 sr3 => ?_⟩⟩
  exact ⟨ρ3, _, x, d, sr3, (rep1.ext x2).ext x3, e5, got ((x1.trans x2).trans x3)⟩
theorem se_rev (xo : XO X G C) {k : Nat} {p1 p2 p3 : Pos} (ha : SE X G C a ia) : SE X G C (.Subscript a (.Slice none none (some (.UnaryOp .USub (.Constant (.int 1) k p1) p2)) p3) pos) (.rev ia) := by
  refine .plain xo.toXC (fun _ => rfl) fun pins s σ H ρ se M d M' I sr er e1 => ?_
  simp only [ev] at e1
  obtain ⟨x, M1, f1, e2⟩ := bnd_inv e1
  obtain ⟨z, e5, e6⟩ := lft_inv e2
  cases e6
  exact go_pe (pe_rev xo.K ha.pe) I ⟨ρ, se, M, x, _, sr, er, f1, fun v H1 ⟨ρ1, x1, sr1, rep1⟩ => ⟨ρ1, _, x, d, sr1, rep1, e5, got x1⟩⟩

/-! ### attributes -/
theorem se_stp (xo : XO X G C) {b : Bool} {lo : Option Expr} {tl : TO} {k : Nat} {p1 p3 : Pos} (ha : SE X G C a ia) (hl : PO X lo tl) (hlt : ∀ σ H, tl σ H fun o H2 => o = lowI b ∧ H2 = H) : SE X G C (.Subscript a (.Slice lo none (some (.Constant (.int 2) k p1)) p3) pos) (.stp ia b) := by
  refine .plain xo.toXC (fun _ => rfl) fun pins s σ H ρ se M d M' I sr er e1 => ?_
  simp only [ev] at e1
  obtain ⟨x, M1, f1, e2⟩ := bnd_inv e1
  obtain ⟨z, e5, e6⟩ := lft_inv e2
  cases e6
  exact go_pe (pe_stp xo.K ha.pe hl hlt) I ⟨ρ, se, M, x, _, sr, er, f1, fun v H1 ⟨ρ1, x1, sr1, rep1⟩ => ⟨ρ1, _, x, d, sr1, rep1, e5, got x1⟩⟩
theorem fld_look (xo : XO X G C) {c : Nat} {k : ClsD} (hk : G.T.cls[c]? = some k) {f : Nat} (hf : f < G.nf) {x : D} : ∀ {gs : List Nat}, (∀ g ∈ gs, g < G.nf) → ∀ {l : List D} {vs : List V}, RepL G ρ H l vs → fldIx f gs l = some x → ∃ v, (nmd G gs vs).lookup (G.fnm f) = some v ∧ Rep G ρ H x v := by
  intro gs
  induction gs with
  | nil => intro _ l vs r e; cases l <;> cases e
  | cons g gs ih =>
    intro hg l vs r e
    cases r with
    | nil => cases e
    | cons h r =>
      rename_i d v ds vs
      simp only [fldIx] at e
      show ∃ v', (((G.fnm g, v) : Str × V) :: nmd G gs vs).lookup (G.fnm f) = some v' ∧ _
      by_cases q : g = f
      · rw [if_pos q] at e
        cases e
        subst q
        exact ⟨v, by simp [List.lookup], h⟩
      · rw [if_neg q] at e
        have ne : (G.fnm f == G.fnm g) = false := by
          rw [beq_eq_false_iff_ne]
          intro z
          exact q (xo.fi f g hf (hg g List.mem_cons_self) z).symm
        rw [List.lookup_cons, ne]
        exact ih (fun g' m => hg g' (List.mem_cons_of_mem _ m)) r e
theorem fld_mem {f : Nat} {x : D} : ∀ {gs : List Nat} {l : List D}, fldIx f gs l = some x → f ∈ gs
  | [], l, h => by cases l <;> cases h
  | g :: gs, [], h => by cases h
  | g :: gs, d :: l, h => by
    simp only [fldIx] at h
    by_cases q : g = f
    · subst q; exact List.mem_cons_self
    · rw [if_neg q] at h
      exact List.mem_cons_of_mem _ (fld_mem h)
theorem fld_look2 (xo : XO X G C) {f : Nat} (hf : f < G.nf) {x : D} : ∀ {fs : List (Nat × D)} {vs : List V}, (∀ p ∈ fs, p.1 < G.nf) → RepL G ρ H (fs.map (·.2)) vs → fs.lookup f = some x →
    ∃ v, (nmd G (fs.map (·.1)) vs).lookup (G.fnm f) = some v ∧ Rep G ρ H x v ∧ (f, x) ∈ fs
  | [], vs, _, r, e => by cases e
  | (g, d) :: fs, vs, hg, r, e => by
    cases r with
    | cons h r =>
      rename_i v vs
      show ∃ v', (((G.fnm g, v) : Str × V) :: nmd G (fs.map (·.1)) vs).lookup (G.fnm f) = some v' ∧ _
      rw [List.lookup_cons] at e
      by_cases q : f = g
      · subst q
        rw [beq_self_eq_true] at e
        cases e
        exact ⟨v, by simp [List.lookup], h, List.mem_cons_self⟩
      · rw [beq_false_of_ne q] at e
        have ne : (G.fnm f == G.fnm g) = false := by
          rw [beq_eq_false_iff_ne]
          intro z
          exact q (xo.fi f g hf (hg _ List.mem_cons_self) z)
        rw [List.lookup_cons, ne]
        obtain ⟨w, h1, h2, h3⟩ := fld_look2 xo hf (fun p m => hg p (List.mem_cons_of_mem _ m)) r e
        exact ⟨w, h1, h2, List.mem_cons_of_mem _ h3⟩
def noSuper : Expr → Bool
  | .Call (.Name _ _) [] [] _ => false
  | _ => true
theorem base_plain {o : Expr} {f : Str} (h : noSuper o = true) (env : Env) : attributeBase o f env (eval o env) = eval o env := by
  unfold attributeBase
  split
  · cases h
  · rfl
theorem se_attr (xo : XO X G C) {f : Nat} (hf : f < G.nf) (ns : noSuper a = true) (ha : SE X G C a ia) : SE X G C (.Attribute a (G.fnm f) pos) (.attr ia f) := by
  refine .plain xo.toXC (fun _ => rfl) fun pins s σ H ρ se M d M' I sr er e1 => ?_
  simp only [ev] at e1
  obtain ⟨x, M1, f1, e2⟩ := bnd_inv e1
  refine attr_of (base_plain ns X.env) (thn (ha.v pins s σ H ρ se M x M1 I sr er f1) fun u s1 ⟨y, H1, I1, r1, ρ1, x1, sr1, rep1⟩ => ?_)
  cases x with
  | obj c l =>
    simp only [attrC] at e2
    cases hk : C.T.cls[c]? with
    | none => rw [hk] at e2; cases e2
    | some k =>
      rw [hk] at e2
      simp only at e2
      rw [xo.T] at hk
      cases rep1 with
      | @obj _ _ ad dx vs n hh ee rl =>
        cases r1
        have hfl : G.flds c = k.flds := by unfold Gd.flds; rw [hk]; rfl
        cases hz : fldIx f k.flds l with
        | some z =>
          rw [hz] at e2
          cases e2
          rw [hfl] at hh
          obtain ⟨v, h1, h2⟩ := fld_look xo hk hf (xo.fl c k hk) rl hz
          have nf := (xo.cls c k hk).nf f (fld_mem hz)
          refine getattr_ok I1 hh (by rw [xo.K]; exact (xo.cls c k hk).cl) (by rw [xo.K]; exact nf) h1 fun u' s2 I2 ru => ⟨v, H1, I2, ru, (got x1).here sr1 h2⟩
        | none =>
          rw [hz] at e2
          cases hg : k.props.lookup f with
          | none => rw [hg] at e2; cases e2
          | some g =>
            rw [hg] at e2
            obtain ⟨fp, p, hp⟩ := (xo.own c k hk).prop f g hg
            rw [← xo.K] at hp
            obtain ⟨mA, O, _, _, _, _⟩ := ins_get I1.hok hh
            obtain ⟨od, J, _⟩ := O.look
            obtain ⟨rest, hrec⟩ := hp.rec_
            have cl := (xo.cls c k hk).cl
            rw [← xo.K] at cl
            have I2 := I1.tok (s1.toks + 1)
            have hc : (PySem.W.clsIn X.K (G.ca c)).isSome = true := by
              obtain ⟨cd, hc, _⟩ := PySem.W.any_some cl.hd
              rw [hc]; rfl
            obtain ⟨F, fd, ff, hb⟩ := fp.ex
            refine PySem.W.get_bind I1.kIn J (PySem.W.plainGet_of (cl.get (G.fnm f))).1 (PySem.W.findObj_data hc hp.at_ hp.get hp.tak) (PySem.W.plainGet_of (cl.get (G.fnm f))).2 (wpAny_call (PySem.W.prop_get (s := { s1 with toks := s1.toks + 1 }) I1.kIn hrec ?_))
            refine codeAny_mono (ff.run X.A.in1 pins _ σ H1 ρ1 ⟨[.ref ad], []⟩ [.ref ad] [.ref ad] _ M1 d M' xo.sub1 I2 (hb _ [.ref ad] rfl) (.cons rfl .nil) sr1 (.cons (.obj n hh ee rl) .nil) e2) fun r s' ⟨u, er, v, H3, I3, rv, g⟩ => ?_
            subst er
            show wpAny _ _ (handedOut u) _ _ _
            rw [PySem.W.handedOut_of (handed_of rv)]
            exact wpAny_pure ⟨v, H3, I3, rv, g.up x1⟩
  | cell n =>
    simp only [attrC] at e2
    cases hm : M1[n]? with
    | none => rw [hm] at e2; cases e2
    | some o =>
      rw [hm] at e2
      cases o with
      | lst l => cases e2
      | ins c fs =>
        simp only at e2
        rw [xo.T] at e2
        cases hk : G.T.cls[c]? with
        | none => rw [hk] at e2; cases e2
        | some k =>
          rw [hk] at e2
          simp only at e2
          split at e2
          · rename_i ok
            obtain ⟨z, e3, e4⟩ := lft_inv e2
            cases e4
            cases rep1 with
            | cell hn =>
              cases r1
              obtain ⟨a', ha', dx, vs, hh, rl⟩ := sr1.cell hm
              rw [hn] at ha'; cases ha'
              have all : ∀ p ∈ fs, p.1 ∈ k.flds := fun p hp => by simpa using List.all_eq_true.mp ok p hp
              obtain ⟨v, h1, h2, h3⟩ := fld_look2 xo hf (fun p hp => xo.fl c k hk _ (all p hp)) rl e3
              have nf := (xo.cls c k hk).nf f (all _ h3)
              refine getattr_ok I1 hh (by rw [xo.K]; exact (xo.cls c k hk).cl) (by rw [xo.K]; exact nf) h1 fun u' s2 I2 ru => ⟨v, H1, I2, ru, (got x1).here sr1 h2⟩
          · cases e2
  | _ => cases e2
end
end Dn

set_option Elab.async false
set_option linter.all false
set_option maxRecDepth 100000
set_option maxHeartbeats 4000000
/-! Dn, part M: built-in functions and types called, methods of text, append, f-strings. -/
namespace Dn
open PySem PySem.Spec PyProof.Rows L2
def bltNm : Blt → Str
  | .len => "len"
  | .abs => "abs"
  | .int_ => "int"
  | .divmod => "divmod"
  | .sum => "sum"
  | .max2 => "max"
  | .min2 => "min"
  | .maxl => "max"
  | .minl => "min"
  | .tuple => "tuple"
  | .list => "list"
  | .sorted => "sorted"
  | .all => "all"
  | .any => "any"
  | .str => "str"
  | .repr => "repr"
  | .bool => "bool"
theorem blt_boot (b : Blt) : bootBuiltins (bltNm b) = some (bltV b) := by cases b <;> decide +kernel
theorem blt_nn (b : Blt) : bltNm b ≠ "__name__" := by cases b <;> decide
theorem blt_nd (b : Blt) : (bltNm b == ("__debug__" : Str)) = false := by cases b <;> decide
theorem bltV_or (b : Blt) : (∃ id, bltV b = .builtin id) ∨ ∃ T, bltV b = .type T := by
  cases b <;> first | exact .inl ⟨_, rfl⟩ | exact .inr ⟨_, rfl⟩
section
variable {X : Cx} {G : Gd} {C : Cfg} {e a b c : Expr} {es : List Expr} {i ia ib ic : IR} {pos : Pos} {ρ : List Addr} {H : Hp} {M M' : Mem}
def rBltC (G : Gd) (C : Cfg) (b : Blt) : List V → Hp → VK → Prop := fun xs H Q => ∃ ρ M ds d M', SRel G ρ H M ∧ RepL G ρ H ds xs ∧ bltC C b ds M = some (d, M') ∧ ∀ v H', GotQ G ρ H M' d v H' → Q v H'
theorem bltC_all (xo : XO X G C) (b : Blt) : CallR X (bltV b) (rBltC G C b) := by
  intro pins s σ H xs us Q I rx h
  obtain ⟨ρ, M, ds, d, M', sr, rl, e, q⟩ := h
  have hun := xo.un
  have plain : lft (bltD b ds M) M = some (d, M') → wpAny (model X.prog X.w) X.A (call (bltV b) us) (EP X pins σ Q) X.xe s := fun e => by
    obtain ⟨z, e1, e2⟩ := lft_inv e
    cases e2
    exact blt_all xo.K xo.calm xo.gd (by omega) xo.cls b pins s σ H xs us Q I rx ⟨ρ, M, ds, d, sr, rl, e1, fun v ρ' H' x sr' rep => q v H' ⟨ρ', x, sr', rep⟩⟩
  have own : ∀ {f : Nat} {dx : D}, asS (C.cf f [dx] M) = some (d, M') → ∃ z, d = .str z ∧ C.cf f [dx] M = some (.str z, M') := fun h => asS_inv h
  cases b with
  | str =>
    rcases ds with _ | ⟨dx, _ | ⟨_, _⟩⟩
    · exact plain e
    · simp only [bltC] at e
      cases hf : strfOf C.T dx with
      | none => rw [hf] at e; exact plain e
      | some f =>
        rw [hf] at e
        obtain ⟨z, rfl, e1⟩ := own e
        cases dx <;> simp only [strfOf] at hf <;> try (cases hf; done)
        rename_i c l
        rw [xo.T] at hf
        simp only [Option.bind_eq_some_iff] at hf
        obtain ⟨k, hk, hkf⟩ := hf
        obtain ⟨fp, fe, ff⟩ := (xo.own c k hk).str f hkf
        obtain ⟨v, rfl, hd⟩ := repL1 rl
        cases hd with
        | obj n hh ee rl' =>
          obtain ⟨u, rfl, rv⟩ := vals1 rx
          cases rv
          obtain ⟨mA, O, _⟩ := ins_get I.hok hh
          obtain ⟨od, J, _⟩ := O.look
          have kin := I.kIn
          rw [xo.K] at kin
          refine PySem.W.kso_call (by show X.A.units + 1 + 1 < cLine; omega) kin J fe ff ?_
          refine wpAny_mono (fp.call xo.sub2 I (show Vals [V.ref _] [Value.ref _] from .cons rfl .nil) sr (.cons (.obj n hh ee rl') .nil) rfl e1) (fun r s' hq => ?_) fun _ _ q => q
          obtain ⟨v, H', I', rz, g⟩ := hq
          obtain ⟨ρ', ex, sr', rep⟩ := id g
          cases rep
          obtain ⟨t, rfl⟩ := id rz
          exact ⟨_, H', I', rz, q _ H' g⟩
    · exact plain e
  | repr =>
    rcases ds with _ | ⟨dx, _ | ⟨_, _⟩⟩
    · exact plain e
    · simp only [bltC] at e
      cases hf : reprfOf C.T dx with
      | none => rw [hf] at e; exact plain e
      | some f =>
        rw [hf] at e
        obtain ⟨z, rfl, e1⟩ := own e
        cases dx <;> simp only [reprfOf] at hf <;> try (cases hf; done)
        rename_i c l
        rw [xo.T] at hf
        simp only [Option.bind_eq_some_iff] at hf
        obtain ⟨k, hk, hkf⟩ := hf
        obtain ⟨fp, fe, ff⟩ := (xo.own c k hk).rpr f hkf
        obtain ⟨v, rfl, hd⟩ := repL1 rl
        cases hd with
        | obj n hh ee rl' =>
          obtain ⟨u, rfl, rv⟩ := vals1 rx
          cases rv
          obtain ⟨mA, O, _⟩ := ins_get I.hok hh
          obtain ⟨od, J, _⟩ := O.look
          obtain ⟨m, Fh⟩ := I.fr
          have kin := I.ok.mod.kin
          rw [xo.K] at kin
          refine PySem.W.repr_K (by show X.A.units + 1 < cLine; omega) Fh kin J fe ff ?_
          refine wpAny_mono (fp.call xo.sub1 I (show Vals [V.ref _] [Value.ref _] from .cons rfl .nil) sr (.cons (.obj n hh ee rl') .nil) rfl e1) (fun r s' hq => ?_) fun _ _ q => q
          obtain ⟨v, H', I', rz, g⟩ := hq
          obtain ⟨ρ', ex, sr', rep⟩ := id g
          cases rep
          obtain ⟨t, rfl⟩ := id rz
          exact ⟨_, H', I', rz, q _ H' g⟩
    · exact plain e
  | _ => exact plain e
/-- f(e, ..), f a built-in function or type -/
theorem se_blt (xo : XO X G C) {p : Pos} {bt : Blt} (hg : Gl X (bltNm bt)) (hm : X.mg (bltNm bt) = none) (ns : (e :: es).all notStar = true) (ha : SEs X G C (e :: es) i) : SE X G C (.Call (.Name (bltNm bt) p) (e :: es) [] pos) (.blt bt i) := by
  refine .plain xo.toXC (fun _ => rfl) fun pins s σ H ρ se M d M' I sr er e1 => ?_
  simp only [ev] at e1
  obtain ⟨xs, M1, f1, e2⟩ := bnd_inv e1
  refine wpAny_Call_Name_kw (ld_blt I hg hm (blt_boot bt) ?_ (blt_nn bt) (blt_nd bt))
  have main : wpAny (model X.prog X.w) X.A (spliced (backTo pos (starEach (e :: es) X.env))) (fun vs s1 => wpAny (model X.prog X.w) X.A (call (bltV bt) vs) (EP X pins σ (GotQ G ρ H M' d)) X.xe s1) X.xe s :=
    thn (ha.v pos pins s σ H ρ se M xs M1 I sr er f1) fun us s1 ⟨vs, H1, I1, r1, ρ1, x1, sr1, rep1⟩ => bltC_all xo bt pins s1 σ H1 vs us _ I1 r1 ⟨ρ1, M1, xs, d, M', sr1, rep1, e2, fun v H' g => g.up x1⟩
  rw [List.all_cons, Bool.and_eq_true] at ns
  rcases bltV_or bt with ⟨id, hb⟩ | ⟨T, hb⟩
  · rw [hb] at main ⊢
    exact PyProof.Rows.callWith_builtin1 main (star_cons ns.1) (no_star pos X.env es ns.2)
  · rw [hb] at main ⊢
    exact PyProof.Rows.callWith_type1 main (star_cons ns.1) (no_star pos X.env es ns.2)

/-! ### methods -/
theorem fin_join {a : Str} {ys : List Str} (ha : sOk a) (hy : ∀ y ∈ ys, sOk y) (h : (ys.map fun x => x.length).sum + ys.length * a.length ≤ 16777216) : sOk (Txt.join a ys) := by
  refine sOk_of ?_ ?_
  · rw [show Txt.join a ys = Str.join a ys from PySem.StrLaws.glued_eq_join a ys]; exact cOk_join ha.c fun y m => (hy y m).c
  · show (Builtin.Str.glued a ys).length ≤ _
    rw [PySem.size_glued]
    have : (ys.length - 1) * a.length ≤ ys.length * a.length := Nat.mul_le_mul_right _ (by omega)
    have e : sizeLine = 16777216 := rfl
    omega
theorem reps_strs : ∀ {ys : List Str}, (∀ y ∈ ys, sOk y) → RepL G ρ H (ys.map D.str) (ys.map V.str)
  | [], _ => .nil
  | y :: ys, h => .cons (.str (h y List.mem_cons_self)) (reps_strs fun z m => h z (List.mem_cons_of_mem _ m))
theorem se_split (xo : XO X G C) {apos : Pos} (ns : notStar b = true) (hb : noSuper a = true) (hl : (apos.endLine == pos.line) = true) (ha : SE X G C a ia) (hi : SE X G C b ib) : SE X G C (.Call (.Attribute a "split" apos) [b] [] pos) (.meth .split ia (.cons ib .nil)) := by
  refine .plain xo.toXC (fun _ => rfl) fun pins s σ H ρ se M d M' I sr er e1 => ?_
  simp only [ev, evs, preM, if_true] at e1
  obtain ⟨x, M1, f1, e2⟩ := bnd_inv e1
  obtain ⟨ys, M2, e3, e4⟩ := bnd_inv e2
  obtain ⟨y, M3, f2, e5⟩ := bnd_inv e3
  cases e5
  obtain ⟨z, rfl⟩ : ∃ z, x = .str z := by cases x <;> first | exact ⟨_, rfl⟩ | (simp only [mthC] at e4; cases e4; done)
  obtain ⟨w, rfl⟩ : ∃ w, y = .str w := by cases y <;> first | exact ⟨_, rfl⟩ | (simp only [mthC] at e4; cases e4; done)
  simp only [mthC] at e4
  refine go_pe (pe_split ha.pe hi.pe (star_cons ns) (base_plain hb X.env) hl) I ⟨ρ, se, M, _, M1, sr, er, f1, fun v H1 ⟨ρ1, x1, sr1, rep1⟩ => ?_⟩
  split at e4
  · rename_i hz
    cases e4
    cases rep1 with
    | str hs =>
      refine ⟨⟨z, rfl⟩, ρ1, se, M1, _, _, sr1, er.ext x1, f2, fun u H2 ⟨ρ2, x2, sr2, rep2⟩ => ?_⟩
      cases rep2
      refine ⟨z, w, rfl, rfl, hz.1, hz.2, fun q hq => (got (x1.trans x2)).lst sr2 (reps_strs fun t m => sOk_of (cOk_split hs.c t m) (Nat.le_trans (len_split t m) hs.1)) q hq⟩
  · cases e4
theorem se_partition (xo : XO X G C) {apos : Pos} (ns : notStar b = true) (hb : noSuper a = true) (hl : (apos.endLine == pos.line) = true) (ha : SE X G C a ia) (hi : SE X G C b ib) : SE X G C (.Call (.Attribute a "partition" apos) [b] [] pos) (.meth .partition ia (.cons ib .nil)) := by
  refine .plain xo.toXC (fun _ => rfl) fun pins s σ H ρ se M d M' I sr er e1 => ?_
  simp only [ev, evs, preM, if_true] at e1
  obtain ⟨x, M1, f1, e2⟩ := bnd_inv e1
  obtain ⟨ys, M2, e3, e4⟩ := bnd_inv e2
  obtain ⟨y, M3, f2, e5⟩ := bnd_inv e3
  cases e5
  obtain ⟨z, rfl⟩ : ∃ z, x = .str z := by cases x <;> first | exact ⟨_, rfl⟩ | (simp only [mthC] at e4; cases e4; done)
  obtain ⟨w, rfl⟩ : ∃ w, y = .str w := by cases y <;> first | exact ⟨_, rfl⟩ | (simp only [mthC] at e4; cases e4; done)
  simp only [mthC] at e4
  refine go_pe (pe_partition ha.pe hi.pe (star_cons ns) (base_plain hb X.env) hl) I ⟨ρ, se, M, _, M1, sr, er, f1, fun v H1 ⟨ρ1, x1, sr1, rep1⟩ => ?_⟩
  split at e4
  · rename_i hz
    cases e4
    cases rep1 with
    | str hs =>
      refine ⟨⟨z, rfl⟩, ρ1, se, M1, _, _, sr1, er.ext x1, f2, fun u H2 ⟨ρ2, x2, sr2, rep2⟩ => ?_⟩
      cases rep2 with
      | str hw =>
        have p1 : sOk (Txt.partition z w).1 := by
          unfold Txt.partition
          split
          · exact sOk_of (cOk_sub hs.c _ _) (Nat.le_trans (sub_len _ _ _) hs.1)
          · exact hs
        have p2 : sOk (Txt.partition z w).2.1 := by
          unfold Txt.partition
          split
          · exact hw
          · exact sOk_of cOk_empty (Nat.zero_le _)
        have p3 : sOk (Txt.partition z w).2.2 := by
          unfold Txt.partition
          split
          · exact sOk_of (cOk_sub hs.c _ _) (Nat.le_trans (sub_len _ _ _) hs.1)
          · exact sOk_of cOk_empty (Nat.zero_le _)
        refine ⟨z, w, rfl, rfl, hz, hs.1, fun q hq => (got (x1.trans x2)).tup sr2 (.cons (.str p1) (.cons (.str p2) (.cons (.str p3) .nil))) q hq⟩
  · cases e4
theorem se_join (xo : XO X G C) {apos : Pos} (ns : notStar b = true) (hb : noSuper a = true) (hl : (apos.endLine == pos.line) = true) (ha : SE X G C a ia) (hi : SE X G C b ib) : SE X G C (.Call (.Attribute a "join" apos) [b] [] pos) (.meth .join ia (.cons ib .nil)) := by
  refine .plain xo.toXC (fun _ => rfl) fun pins s σ H ρ se M d M' I sr er e1 => ?_
  simp only [ev, evs, preM, if_true] at e1
  obtain ⟨x, M1, f1, e2⟩ := bnd_inv e1
  obtain ⟨ys, M2, e3, e4⟩ := bnd_inv e2
  obtain ⟨y, M3, f2, e5⟩ := bnd_inv e3
  cases e5
  obtain ⟨z, rfl⟩ : ∃ z, x = .str z := by cases x <;> first | exact ⟨_, rfl⟩ | (simp only [mthC] at e4; cases e4; done)
  simp only [mthC] at e4
  refine go_pe (pe_join ha.pe hi.pe (star_cons ns) (base_plain hb X.env) hl) I ⟨ρ, se, M, _, M1, sr, er, f1, fun v H1 ⟨ρ1, x1, sr1, rep1⟩ => ?_⟩
  cases hl2 : seqD M2 y with
  | none => rw [hl2] at e4; cases e4
  | some l =>
    rw [hl2] at e4
    simp only at e4
    cases hy : strsD l with
    | none => rw [hy] at e4; cases e4
    | some ts =>
      rw [hy] at e4
      simp only at e4
      split at e4
      · rename_i hz
        cases e4
        cases rep1 with
        | str hs =>
          refine ⟨⟨z, rfl⟩, ρ1, se, M1, _, _, sr1, er.ext x1, f2, fun u H2 ⟨ρ2, x2, sr2, rep2⟩ => ?_⟩
          obtain ⟨p, vs, rfl, hh, rl⟩ := seqD_rep sr2 rep2 hl2
          obtain ⟨rfl, hts⟩ := strsD_rep rl hy
          rw [← xo.K] at hh
          exact ⟨z, p, ts, rfl, rfl, hh, hz, (got (x1.trans x2)).here sr2 (.str (fin_join hs hts hz))⟩
      · cases e4
theorem se_append (xo : XO X G C) {apos : Pos} (ns : notStar b = true) (hb : noSuper a = true) (hl : (apos.endLine == pos.line) = true) (ha : SE X G C a ia) (hi : SE X G C b ib) : SE X G C (.Call (.Attribute a "append" apos) [b] [] pos) (.meth .append ia (.cons ib .nil)) := by
  refine .plain xo.toXC (fun _ => rfl) fun pins s σ H ρ se M d M' I sr er e1 => ?_
  simp only [ev] at e1
  obtain ⟨x, M1, f1, e2⟩ := bnd_inv e1
  split at e2
  · rename_i pre
    obtain ⟨ys, M2, e3, e4⟩ := bnd_inv e2
    have hs : SEs X G C [b] (.cons ib .nil) := ses_cons ns hi ses_nil
    have hfew : ((backTo pos (starEach [b] X.env)).all (fun x => !x.1) && (backToKw pos (keywordEach [] X.env)).all (fun x => x.1.isSome)
        && decide (([b] : List Expr).length + ([] : List Keyword).length + (if ([] : List Keyword).isEmpty then 0 else 1) < 30)) = true := by
      rw [star_cons ns]; rfl
    have e5 := e3
    simp only [evs] at e5
    obtain ⟨y, M3, f2, e6⟩ := bnd_inv e5
    cases e6
    obtain ⟨n, rfl⟩ : ∃ n, x = .cell n := by cases x <;> first | exact ⟨_, rfl⟩ | (simp only [mthC] at e4; cases e4; done)
    simp only [mthC] at e4
    simp only [preM] at pre
    split at pre
    · rename_i l0 hm0
      cases hm : M2[n]? with
      | none => rw [hm] at e4; cases e4
      | some o =>
        rw [hm] at e4
        cases o with
        | ins c fs => cases e4
        | lst l =>
          simp only at e4
          split at e4
          · rename_i hz
            cases e4
            refine go_pe (pe_bm F.plainAttrs_list F.slot_list_append F.type_list_append mt_append ha.pe hs.pa (base_plain hb X.env) hfew hl (star_cons ns) rfl) I ⟨ρ, se, M, _, M1, sr, er, f1, fun v H1 ⟨ρ1, x1, sr1, rep1⟩ => ?_⟩
            cases rep1 with
            | @cell _ ad hn =>
              obtain ⟨ad', hn', vs0, h0, _⟩ := sr1.cell hm0
              rw [hn] at hn'; cases hn'
              refine ⟨.inl ⟨rfl, _, .inl (.inl h0)⟩, ρ1, se, M1, _, _, sr1, er.ext x1, e3, fun us H2 ⟨ρ2, x2, sr2, rep2⟩ => ?_⟩
              obtain ⟨v, rfl, rv⟩ := repL1 rep2
              obtain ⟨ad', hn', vs1, h1, rl⟩ := sr2.cell hm
              have hn2 := x2.cell hn
              rw [hn2] at hn'; cases hn'
              have w : Ex ρ2 H2 ρ2 (upd H2 ad (.lst (vs1 ++ [v]))) := Ex.write (List.mem_of_getElem? hn2)
              refine ⟨ad, vs1, v, rfl, rfl, h1, by rw [← rl.len]; exact hz, ρ2, (x1.trans x2).trans w, sr2.write hn2 ⟨_, upd_same, (rl.ext w).app (.cons (rv.ext w) .nil)⟩, .non⟩
          · cases e4
    · cases pre
  · cases e2

/-! ### f-strings -/
theorem se_fmt (xo : XO X G C) (ha : SE X G C a ia) : SE X G C (.FormattedValue a (-1) none pos) (.fmt ia) := by
  refine .plain xo.toXC (fun _ => rfl) fun pins s σ H ρ se M d M' I sr er e1 => ?_
  simp only [ev] at e1
  obtain ⟨x, M1, f1, e2⟩ := bnd_inv e1
  obtain ⟨z, e5, e6⟩ := lft_inv e2
  cases e6
  refine go_pe (pe_fmt ha.pe) I ⟨ρ, se, M, x, _, sr, er, f1, fun v H1 ⟨ρ1, x1, sr1, rep1⟩ => ?_⟩
  cases x <;> simp only [strD] at e5 <;> try (cases e5; done)
  · split at e5
    · rename_i hl
      cases e5
      cases rep1
      exact .inr ⟨_, rfl, hl, (got x1).here sr1 (toStr_rep hl)⟩
    · cases e5
  · cases e5
    cases rep1 with
    | str hs => exact .inl ⟨_, rfl, hs.1, (got x1).here sr1 (.str hs)⟩
inductive PJs (X : Cx) (G : Gd) (C : Cfg) : List Expr → IR → Prop where
  | nil : PJs X G C [] .nil
  | cons {e : Expr} {i : IR} {es : List Expr} {is : IR} (h : SE X G C e i) (r : PJs X G C es is) : PJs X G C (e :: es) (.cons i is)
theorem PJs.pj {es : List Expr} {i : IR} (h : PJs X G C es i) : ∃ ts, PJ X es ts ∧ ∀ (σ : L2.St) (H : Hp) (ρ : List Addr) (se : En) (M : Mem) (ds : List D) (M' : Mem) (acc : Str) (ys : List Str) (out : Str) (Q : Str → Hp → Prop),
    SRel G ρ H M → ERel G ρ H se σ → evs C i se M = some (ds, M') → strsD ds = some ys → cOk acc → catS ys acc = some out → (∀ ρ' H', Ex ρ H ρ' H' → SRel G ρ' H' M' → cOk out → Q out H') → tJs ts acc σ H Q := by
  induction h with
  | nil =>
    refine ⟨[], .nil, fun σ H ρ se M ds M' acc ys out Q sr er e1 e2 hc e3 q => ?_⟩
    simp only [evs] at e1
    cases e1
    cases e2
    cases e3
    exact q ρ H Ex.refl sr hc
  | @cons e i es is h r ih =>
    obtain ⟨ts, pj, k⟩ := ih
    refine ⟨_, .cons h.pe pj, fun σ H ρ se M ds M' acc ys out Q sr er e1 e2 hc e3 q => ?_⟩
    simp only [evs] at e1
    obtain ⟨x, M1, f1, e4⟩ := bnd_inv e1
    obtain ⟨xs, M2, f2, e5⟩ := bnd_inv e4
    cases e5
    obtain ⟨y, rfl⟩ : ∃ z, x = .str z := by cases x <;> first | exact ⟨_, rfl⟩ | (simp only [strsD] at e2; cases e2; done)
    simp only [strsD, Option.map_eq_some_iff] at e2
    obtain ⟨zs, e6, rfl⟩ := e2
    refine ⟨ρ, se, M, _, M1, sr, er, f1, fun v H1 ⟨ρ1, x1, sr1, rep1⟩ => ?_⟩
    simp only [catS] at e3
    split at e3
    · rename_i hz
      cases rep1 with
      | str hs =>
        exact ⟨y, rfl, hz, k σ H1 ρ1 se M1 xs _ _ zs out Q sr1 (er.ext x1) f2 e6 (cOk_app hc hs.c) e3 fun ρ' H' x sr' => q ρ' H' (x1.trans x) sr'⟩
    · cases e3
theorem catS_len : ∀ {ys : List Str} {acc out : Str}, acc.length ≤ sizeLine → catS ys acc = some out → out.length ≤ sizeLine
  | [], acc, out, h, e => by cases e; exact h
  | y :: ys, acc, out, h, e => by
    simp only [catS] at e
    split at e
    · rename_i hz
      exact catS_len hz e
    · cases e
theorem se_fstr (xo : XO X G C) {e1 e2 : Expr} (h : PJs X G C (e1 :: e2 :: es) i) : SE X G C (.JoinedStr (e1 :: e2 :: es) pos) (.fstr i) := by
  refine .plain xo.toXC (fun _ => rfl) fun pins s σ H ρ se M d M' I sr er e => ?_
  simp only [ev] at e
  obtain ⟨xs, M1, f1, e3⟩ := bnd_inv e
  obtain ⟨z, e5, e6⟩ := lft_inv e3
  cases e6
  simp only [Option.map_eq_some_iff, Option.bind_eq_some_iff] at e5
  obtain ⟨out, ⟨ys, e7, e8⟩, rfl⟩ := e5
  obtain ⟨ts, pj, k⟩ := h.pj
  refine go_pe (pe_joined pj) I (k σ H ρ se M xs _ Str.empty ys out _ sr er f1 e7 cOk_empty e8 fun ρ' H' x sr' hc => (got x).here sr' (.str (sOk_of hc (catS_len (Nat.zero_le _) e8))))
theorem se_fstr1 (xo : XO X G C) (h : SE X G C a i) : SE X G C (.JoinedStr [a] pos) (.fstr (.cons i .nil)) := by
  refine .plain xo.toXC (fun _ => rfl) fun pins s σ H ρ se M d M' I sr er e => ?_
  simp only [ev, evs] at e
  obtain ⟨xs, M1, f1, e3⟩ := bnd_inv e
  obtain ⟨x, M2, f2, e4⟩ := bnd_inv f1
  cases e4
  obtain ⟨z, e5, e6⟩ := lft_inv e3
  cases e6
  refine go_pe (pe_joined1 h.pe) I ⟨ρ, se, M, x, _, sr, er, f2, fun v H1 g => ?_⟩
  obtain ⟨y, rfl⟩ : ∃ z, x = .str z := by cases x <;> first | exact ⟨_, rfl⟩ | (simp only [strsD, Option.bind_none, Option.map_none] at e5; cases e5; done)
  simp only [strsD, Option.map_some, Option.bind_some, catS] at e5
  have e0 : Str.empty ++ y = y := by
    show (⟨#[] ++ y.cps⟩ : Str) = y
    simp
  rw [e0] at e5
  split at e5
  · cases e5
    exact g
  · cases e5
end
end Dn

set_option Elab.async false
set_option linter.all false
set_option maxRecDepth 100000
set_option maxHeartbeats 4000000
/-! Dn, part N: cells that go; objects made; methods of objects. -/
namespace Dn
open PySem PySem.Spec PyProof.Rows L2
section
variable {G : Gd} {ρ ρ' : List Addr} {H H' : Hp} {M M' : Mem}
theorem pre_not {a : Addr} (p : ρ <+: ρ') (h : a ∉ ρ') : a ∉ ρ := fun m => h (p.subset m)
mutual
theorem Rep.dr (p : ρ <+: ρ') : ∀ {d : D} {v : V}, Rep G ρ' H d v → below ρ.length d = true → Rep G ρ H d v
  | _, _, .non, _ => .non
  | _, _, .bl b, _ => .bl b
  | _, _, .int i, _ => .int i
  | _, _, .str h, _ => .str h
  | _, _, .tup n h r, b => .tup (pre_not p n) h (RepL.dr p r (by simpa only [below] using b))
  | _, _, .tup0 h, _ => .tup0 h
  | _, _, .lst n h r, b => .lst (pre_not p n) h (RepL.dr p r (by simpa only [below] using b))
  | _, _, .ro h r, b => .ro (h.elim (fun ⟨n, o, e⟩ => .inl ⟨pre_not p n, o, e⟩) .inr) (RepL.dr p r (by simpa only [below] using b))
  | _, _, .obj n h e r, b => .obj (pre_not p n) h e (RepL.dr p r (by simpa only [below] using b))
  | _, _, .emp n h, _ => .emp (pre_not p n) h
  | _, _, .dkt n h, _ => .dkt (pre_not p n) h
  | _, _, .cell (n := n) h, b => .cell (by
    have hn : n < ρ.length := by simpa only [below, decide_eq_true_eq] using b
    obtain ⟨t, rfl⟩ := p
    rwa [List.getElem?_append_left hn] at h)
theorem RepL.dr (p : ρ <+: ρ') : ∀ {l : List D} {vs : List V}, RepL G ρ' H l vs → belowL ρ.length l = true → RepL G ρ H l vs
  | _, _, .nil, _ => .nil
  | _, _, .cons h r, b => by
    simp only [belowL, Bool.and_eq_true] at b
    exact .cons (Rep.dr p h b.1) (RepL.dr p r b.2)
end
theorem Ex.dr (x : Ex ρ H ρ' H') : Ex ρ H ρ H' := ⟨List.prefix_refl _, x.keep, fun _ m => .inl m, x.there⟩
theorem SRel.dr (p : ρ <+: ρ') (r : SRel G ρ' H M) (b : (M.take ρ.length).all (mbelow ρ.length) = true) : SRel G ρ H (M.take ρ.length) := by
  obtain ⟨t, rfl⟩ := p
  refine ⟨?_, (List.nodup_append.mp r.nd).1, fun n a o hn hm => ?_, fun q hq => ⟨fun m => (r.tb q hq).1 (List.mem_append_left _ m), (r.tb q hq).2⟩⟩
  · rw [List.length_take, ← r.len, List.length_append]; omega
  · have hl := (List.getElem?_eq_some_iff.mp hn).1
    have hb := List.all_eq_true.mp b o (List.mem_of_getElem? hm)
    rw [List.getElem?_take_of_lt hl] at hm
    have z := r.at_ n a o (by rw [List.getElem?_append_left hl]; exact hn) hm
    cases o with
    | lst l =>
      obtain ⟨vs, h1, h2⟩ := z
      exact ⟨vs, h1, h2.dr (List.prefix_append _ _) hb⟩
    | ins c fs =>
      obtain ⟨dx, vs, h1, h2⟩ := z
      exact ⟨dx, vs, h1, h2.dr (List.prefix_append _ _) hb⟩
/-- at a def's end: the cells of its own go -/
theorem exit_got {d d' : D} {v : V} {M'' : Mem} (hl : ρ.length = M.length) (g : GotQ G ρ H M' d v H') (e : exitF M.length d M' = some (d', M'')) : GotQ G ρ H M'' d' v H' := by
  obtain ⟨ρ1, x, sr, rep⟩ := g
  unfold exitF at e
  split at e
  · cases e
    exact ⟨ρ1, x, sr, rep⟩
  · split at e
    · rename_i h
      cases e
      obtain ⟨hb, ha, hn⟩ := h
      rw [← hl] at hb ha ⊢
      refine ⟨ρ, x.dr, sr.dr x.pre ha, ?_⟩
      have keep : ∀ {d : D}, Rep G ρ1 H' d v → below ρ.length d = true → Rep G ρ H' d v := fun r b => r.dr x.pre b
      cases d with
      | cell i =>
        simp only [frzD] at hb ⊢
        split
        · rename_i hi
          rw [if_pos hi] at hb
          simp only [derefD] at hb ⊢
          split
          · rename_i l hm
            rw [hm] at hb
            cases rep with
            | cell hc =>
              obtain ⟨a', ha', vs, h1, h2⟩ := sr.cell hm
              rw [hc] at ha'; cases ha'
              refine .lst (fun m => ?_) h1 (h2.dr x.pre (by simpa only [below] using hb))
              obtain ⟨n, hn'⟩ := List.getElem?_of_mem m
              have := nodup_at sr.nd (x.cell hn') hc
              subst this
              have := (List.getElem?_eq_some_iff.mp hn').1
              omega
          · rename_i hm
            split at hb
            · rename_i l q; exact absurd q (hm l)
            · simp only [below, decide_eq_true_eq] at hb; omega
        · rename_i hi
          exact keep rep (by simp only [below, decide_eq_true_eq]; omega)
      | _ => exact keep rep hb
    · cases e
end
section
variable {X : Cx} {G : Gd} {C : Cfg} {e a b c : Expr} {es : List Expr} {i ia ib ic : IR} {pos : Pos} {ρ : List Addr} {H : Hp} {M M' : Mem}
theorem sub_make (xo : XO X G C) (P : Addr) (us : List Value) (kw : List (Str × Value)) : Sub X (X.A.under (.builtin "type.__call__" ⟨.ref P :: us, kw⟩)) :=
  ⟨xo.hh, by first | rfl | simp [Around.under, Code.frames, Code.isFrame], by
    first
    | exact xo.gd
    | (have := xo.gd; simp [Around.under, Code.isGuard, guardIds, this]), by rw [make_depth]; omega, by rw [make_units]; omega⟩
/-- C(..), C a class of the text -/
theorem se_make (xo : XO X G C) {ci : Nat} {k : ClsD} {F : FnI} {f : FnD} (hk : G.T.cls[ci]? = some k) (mk : Mk G.K (G.ca ci) (G.fa k.init)) (ff : FnF X G C F k.init f) {x : Str} {p : Pos} {kws : List Keyword} {ks : List Nat} (hg : Gl X x) (hm : X.mg x = some (.ref (G.ca ci))) (hdb : (x == ("__debug__" : Str)) = false)
    (ns : es.all notStar = true) (nk : (kws.all fun k => k.arg.isSome) = true) (hnil : es = [] → ia = .nil) (ha : SEs X G C es ia) (hb : SKs X G C kws ib) (hks : ks.length = kws.length) (sh : Shape G F f (es.length + kws.length + 1) ks (kwNames kws))
    (hl : ∀ {se : En} {M M1 : Mem} {xs : List D}, evs C ia se M = some (xs, M1) → xs.length = es.length) (hl2 : ∀ {se : En} {M M1 : Mem} {xs : List D}, evs C ib se M = some (xs, M1) → xs.length = kws.length) :
    SE X G C (.Call (.Name x p) es kws pos) (.make ci ks ia ib) := by
  refine .plain xo.toXC (fun _ => rfl) fun pins s σ H ρ se M d M' I sr er e1 => ?_
  simp only [ev] at e1
  obtain ⟨xs, M1, f1, e2⟩ := bnd_inv e1
  obtain ⟨ys, M2, f2, e3⟩ := bnd_inv e2
  have l1 := hl f1
  have l2 := hl2 f2
  unfold mkC at e3
  rw [xo.T, hk] at e3
  simp only at e3
  obtain ⟨r, M3, e4, e5⟩ := bnd_inv e3
  refine wpAny_Call_Name_kw (ld_glob I hg hm ?_ hdb)
  refine call_args (first := []) (by rw [xo.K]; exact mk.kp) ns nk hnil ha hb I sr er f1 f2 fun us ws vs zs s2 H2 ρ2 I2 r1 r2 x2 sr2 rep1 rep2 lw => ?_
  have hfx : H2 (s2.heap.objs.size + 1) = none := I2.hok.fresh (Nat.le_succ _)
  have hfd : H2 s2.heap.objs.size = none := I2.hok.fresh (Nat.le_refl _)
  have ne : s2.heap.objs.size ≠ s2.heap.objs.size + 1 := Nat.ne_of_lt (Nat.lt_succ_self _)
  have I3 := Inv.made (C := G.ca ci) I2
  have y1 : Ex ρ2 H2 ρ2 (upd H2 s2.heap.objs.size (.own (s2.heap.objs.size + 1))) := Ex.laid hfd
  have sr3 := sr2.laid (o := .own (s2.heap.objs.size + 1)) hfd
  have hfx' : upd H2 s2.heap.objs.size (.own (s2.heap.objs.size + 1)) (s2.heap.objs.size + 1) = none := by rw [upd_ne ne.symm]; exact hfx
  have y2 := Ex.newCell (ρ := ρ2) (o := .ins (G.ca ci) s2.heap.objs.size []) hfx'
  have sr4 := sr3.newCell (o := .ins (G.ca ci) s2.heap.objs.size []) (u := .ins ci []) hfx' ⟨s2.heap.objs.size, [], upd_same, .nil⟩
  have hself : Rep G (ρ2 ++ [s2.heap.objs.size + 1]) (upd (upd H2 s2.heap.objs.size (.own (s2.heap.objs.size + 1))) (s2.heap.objs.size + 1) (.ins (G.ca ci) s2.heap.objs.size [])) (.cell M2.length) (.ref (s2.heap.objs.size + 1)) := by
    refine .cell ?_
    rw [← sr2.len, List.getElem?_append_right (Nat.le_refl _)]
    simp
  have yy := y1.trans y2
  have c := call_arr xo.K xo.T ff sh (sub_make xo (G.ca ci) us ((kwNames kws).zip ws)) I3 (show Vals (V.ref (s2.heap.objs.size + 1) :: (vs ++ zs)) (Value.ref (s2.heap.objs.size + 1) :: (us ++ ws)) from .cons rfl (r1.append r2)) sr4 (.cons hself ((rep1.ext yy).app (rep2.ext yy))) (by
    show (xs ++ ys).length + 1 = _
    rw [List.length_append, l1, l2]) e4
  have lu : us.length = es.length := by rw [← r1.length, ← rep1.len]; exact l1
  have e6 : es.length + kws.length + 1 - ks.length = us.length + 1 := by omega
  rw [e6] at c
  have c1 : (Value.ref (s2.heap.objs.size + 1) :: (us ++ ws)).take (us.length + 1) = Value.ref (s2.heap.objs.size + 1) :: us := by
    show _ :: List.take us.length (us ++ ws) = _
    rw [List.take_left]
  have c2 : (Value.ref (s2.heap.objs.size + 1) :: (us ++ ws)).drop (us.length + 1) = ws := by
    show List.drop us.length (us ++ ws) = _
    rw [List.drop_left]
  rw [c1, c2] at c
  refine wpAny_call (make_map (K := X.K) (f := G.fa k.init) I2.kIn (by rw [xo.K]; exact mk.makes) (by rw [xo.K]; exact mk.init) (by rw [xo.K]; exact beq_iff_eq.mp mk.fn) (codeAny_mono c fun r' s' hq' => ?_))
  obtain ⟨u, rfl, v, H4, I4, rv, ρ4, x4, sr5, rep4⟩ := hq'
  cases r with
  | non =>
    cases hm4 : M3[M2.length]? with
    | none => rw [hm4] at e5; cases e5
    | some o =>
      rw [hm4] at e5
      cases o with
      | lst l => cases e5
      | ins c' fs =>
        simp only at e5
        split at e5
        · rename_i hh
          obtain ⟨rfl, hnames, hlen, hbel, hall⟩ := hh
          cases e5
          cases rep4
          have hu : u = .none := rv
          refine ⟨hu, .ref (s2.heap.objs.size + 1), H4, I4, rfl, ?_⟩
          have pre : ρ2 <+: ρ4 := (yy.trans x4).pre
          obtain ⟨a', ha', dx, vs4, h5, rl⟩ := sr5.cell hm4
          have hself4 : ρ4[M2.length]? = some (s2.heap.objs.size + 1) := by
            cases hself with
            | cell h => exact x4.cell h
          rw [hself4] at ha'; cases ha'
          have lρ : ρ2.length = M2.length := sr2.len
          rw [← lρ] at hbel hall hself4 ⊢
          have ex5 : Ex ρ2 H2 ρ2 H4 := (yy.trans x4).dr
          have hfl : G.flds c' = k.flds := by unfold Gd.flds; rw [hk]; rfl
          refine ⟨ρ2, x2.trans ex5, sr5.dr pre hall, .obj (fun m => ?_) (by rw [hfl, ← hnames]; exact h5) ⟨(List.getElem?_eq_some_iff.mp hk).1, by rw [hfl, ← hnames]; simp⟩ (rl.dr pre hbel)⟩
          obtain ⟨n, hn⟩ := List.getElem?_of_mem m
          have q1 := (List.getElem?_eq_some_iff.mp hn).1
          have q2 : ρ4[n]? = some (s2.heap.objs.size + 1) := (yy.trans x4).cell hn
          have := nodup_at sr5.nd q2 hself4
          omega
        · cases e5
  | _ => cases e5

/-! ### o.m(..) -/
theorem ocall {M : Model} {A : Around} {E : Value → Shared → Prop} {s : Shared} {env : Env} {o : Expr} {name : Str} {apos : Pos} {args : List Expr} {kws : List Keyword} {Q : Value → Shared → Prop} (hbase : attributeBase o name env (eval o env) = eval o env)
    (hfew : methodCallForm (args.length + kws.length) (backTo pos (starEach args env)) (backToKw pos (keywordEach kws env)) = true) (hline : (apos.endLine == pos.line) = true)
    (h : wpAny M A (eval o env) (fun ov s₁ => ∀ pl, wpAny M A (getMethod ov name pl) (fun fx s₂ => wpAny M A (callWith pos fx.1 fx.2 (backTo pos (starEach args env)) (backToKw pos (keywordEach kws env))) Q E s₂) E s₁) E s) :
    wpAny M A (eval (.Call (.Attribute o name apos) args kws pos) env) Q E s := by
  rw [arm_eval_Call, hbase]
  refine wpAny_bind (wpAny_mono h (fun ov s₁ h₁ => ?_) fun _ _ e => e)
  refine wpAny_bind (wpAny_standAt ?_)
  have hpos : methodCallPos true o env apos pos = pure pos := by unfold methodCallPos; simp [hline]
  unfold methodCall
  rw [hfew]
  refine wpAny_bind (wpAny_holding (wpAny_mono (h₁ _) (fun fx s₂ h₂ => ?_) fun _ _ e => e))
  exact wpAny_bind (wpAny_of_eq hpos h₂)
theorem few_form {env : Env} (ns : es.all notStar = true) {kws : List Keyword} (nk : (kws.all fun k => k.arg.isSome) = true) (hn : es.length + kws.length < 29) : methodCallForm (es.length + kws.length) (backTo pos (starEach es env)) (backToKw pos (keywordEach kws env)) = true := by
  have k2 := no_star pos env es ns
  have h1 : (backTo pos (starEach es env)).all (fun x => !x.1) = true := by
    rw [List.all_eq_true]
    intro x hx
    cases hx1 : x.1 with
    | false => rfl
    | true =>
      have : (backTo pos (starEach es env)).any (·.1) = true := List.any_eq_true.mpr ⟨x, hx, hx1⟩
      rw [k2] at this; cases this
  unfold methodCallForm
  rw [h1, (kw_all pos env kws nk).1]
  simp only [Bool.true_and, decide_eq_true_eq]
  split <;> omega
/-- C.m is a static method: its record, its def at g -/
structure SMeth (K : PySem.W.Frag) (C : Addr) (m : Str) (g : Addr) : Prop where
  rd : PySem.W.readsIn K C (.type "type") = true
  ga : PySem.W.specialIn K (.ref C) "__getattribute__" = some (some (.builtin "type.__getattribute__"))
  at_ : ∃ (p : Addr) (rest : List Value), PySem.W.findCls K (.ref C) (.type "type") m = some (.get (.builtin "staticmethod.__get__") (.ref p) .none (.ref C)) ∧ PySem.W.recIn K p "staticmethod" = some (.ref g :: rest)
theorem se_smeth (xo : XO X G C) {c g : Nat} {x m : Str} {p apos : Pos} {kws : List Keyword} {ks : List Nat} {F : FnI} {f : FnD} (hg : Gl X x) (hm : X.mg x = some (.ref (G.ca c))) (hdb : (x == ("__debug__" : Str)) = false) (sm : SMeth G.K (G.ca c) m (G.fa g))
    (ff : FnF X G C F g f) (hbs : noSuper (.Name x p) = true) (hline : (apos.endLine == pos.line) = true) (hn : es.length + kws.length < 29)
    (ns : es.all notStar = true) (nk : (kws.all fun k => k.arg.isSome) = true) (hnil : es = [] → ia = .nil) (ha : SEs X G C es ia) (hb : SKs X G C kws ib) (hks : ks.length = kws.length) (sh : Shape G F f (es.length + kws.length) ks (kwNames kws))
    (hl : ∀ {se : En} {M M1 : Mem} {xs : List D}, evs C ia se M = some (xs, M1) → xs.length = es.length) (hl2 : ∀ {se : En} {M M1 : Mem} {xs : List D}, evs C ib se M = some (xs, M1) → xs.length = kws.length) :
    SE X G C (.Call (.Attribute (.Name x p) m apos) es kws pos) (.call g ks ia ib) := by
  refine .plain xo.toXC (fun _ => rfl) fun pins s σ H ρ se M d M' I sr er e1 => ?_
  simp only [ev] at e1
  obtain ⟨xs, M1, f1, e2⟩ := bnd_inv e1
  obtain ⟨ys, M2, f2, e3⟩ := bnd_inv e2
  have l1 := hl f1
  have l2 := hl2 f2
  refine ocall (base_plain hbs X.env) (few_form ns nk hn) hline (ld_glob I hg hm (fun pl => ?_) hdb)
  obtain ⟨q, rest, h1, h2⟩ := sm.at_
  have rd := sm.rd
  have ga := sm.ga
  rw [← xo.K] at rd ga h1 h2
  refine PySem.W.method_cls I.kIn ga (PySem.W.cls_bind I.kIn rd h1 (wpAny_call (PySem.W.sm_get (s := { s with toks := s.toks + 1 }) I.kIn h2 (PySem.W.handed_on rfl ?_))))
  refine call_args (first := []) (by rw [xo.K]; exact ff.kp) ns nk hnil ha hb (I.tok _) sr er f1 f2 fun us ws vs zs s2 H2 ρ2 I2 r1 r2 x2 sr2 rep1 rep2 lw => ?_
  have c := call_arr xo.K xo.T ff sh (XO.sub xo) I2 (r1.append r2) sr2 (rep1.app rep2) (by rw [List.length_append, l1, l2]) e3
  have lu : us.length = es.length := by rw [← r1.length, ← rep1.len]; exact l1
  have e4 : es.length + kws.length - ks.length = us.length := by omega
  rw [e4, List.take_left, List.drop_left] at c
  refine wpAny_call (codeAny_mono c fun r s' ⟨u, er, q⟩ => ?_)
  subst er
  obtain ⟨v, H3, I3, rv, g⟩ := q
  exact ⟨v, H3, I3, rv, g.up x2⟩
theorem se_ometh (xo : XO X G C) {g fi : Nat} {m : Str} {apos : Pos} {kws : List Keyword} {ks : List Nat} {F : FnI} {f : FnD} (hmm : ∀ (c : Nat) (k : ClsD), G.T.cls[c]? = some k → k.meths.lookup fi = some g → Meth G.K (G.ca c) m (G.fa g)) (hu : ∀ (c : Nat) (k : ClsD), G.T.cls[c]? = some k → ∀ g', k.meths.lookup fi = some g' → g' = g) (hnf : ∀ (c : Nat) (k : ClsD), G.T.cls[c]? = some k → k.meths.lookup fi = some g → ∀ q ∈ k.flds, (m == G.fnm q) = false)
    (ff : FnF X G C F g f) (hbs : noSuper a = true) (hline : (apos.endLine == pos.line) = true) (hn : es.length + kws.length < 29)
    (ns : es.all notStar = true) (nk : (kws.all fun k => k.arg.isSome) = true) (hnil : es = [] → ia = .nil) (ho : SE X G C a ic) (ha : SEs X G C es ia) (hb : SKs X G C kws ib) (hks : ks.length = kws.length) (sh : Shape G F f (es.length + kws.length + 1) ks (kwNames kws))
    (hl : ∀ {se : En} {M M1 : Mem} {xs : List D}, evs C ia se M = some (xs, M1) → xs.length = es.length) (hl2 : ∀ {se : En} {M M1 : Mem} {xs : List D}, evs C ib se M = some (xs, M1) → xs.length = kws.length) :
    SE X G C (.Call (.Attribute a m apos) es kws pos) (.ometh fi ks ic ia ib) := by
  refine .plain xo.toXC (fun _ => rfl) fun pins s σ H ρ se M d M' I sr er e1 => ?_
  simp only [ev] at e1
  obtain ⟨o, M0, f0, e1⟩ := bnd_inv e1
  obtain ⟨xs, M1, f1, e2⟩ := bnd_inv e1
  obtain ⟨ys, M2, f2, e3⟩ := bnd_inv e2
  have l1 := hl f1
  have l2 := hl2 f2
  unfold methC at e3
  cases hmo : methOf C.T fi o with
  | none => rw [hmo] at e3; cases e3
  | some g' =>
    rw [hmo] at e3
    simp only at e3
    cases o <;> simp only [methOf] at hmo <;> try (cases hmo; done)
    rename_i c l
    rw [xo.T] at hmo
    simp only [Option.bind_eq_some_iff] at hmo
    obtain ⟨k, hk, hkm⟩ := hmo
    have := hu c k hk _ hkm
    subst this
    refine ocall (base_plain hbs X.env) (few_form ns nk hn) hline (thn (ho.v pins s σ H ρ se M _ M0 I sr er f0) fun u s1 ⟨y, H1, I1, r1, ρ1, x1, sr1, rep1⟩ pl => ?_)
    cases rep1 with
    | @obj _ _ ad dx vs n hh ee rl =>
      cases r1
      have mt := hmm c k hk hkm
      have hfl : G.flds c = k.flds := by unfold Gd.flds; rw [hk]; rfl
      rw [← xo.K] at mt
      have hlook : (nmd G (G.flds c) vs).lookup m = none := by
        rw [hfl]
        have hq := hnf c k hk hkm
        clear hh ee rl
        revert vs
        generalize k.flds = gs at hq
        induction gs with
        | nil => intro vs; rfl
        | cons g0 gs ih =>
          intro vs
          cases vs with
          | nil => rfl
          | cons v vs =>
            show List.lookup m ((G.fnm g0, v) :: nmd G gs vs) = none
            rw [List.lookup_cons, hq g0 List.mem_cons_self]
            exact ih (fun q h => hq q (List.mem_cons_of_mem _ h))
      refine getmeth_ok I1 hh (by rw [xo.K]; exact (xo.cls c k hk).cl) mt hlook ?_
      refine call_args (first := [.ref ad]) mt.kp ns nk hnil ha hb I1 sr1 (er.ext x1) f1 f2 fun us ws vs2 zs s2 H2 ρ2 I2 r1 r2 x2 sr2 rp1 rp2 lw => ?_
      have hself : Rep G ρ2 H2 (.obj c l) (.ref ad) := (Rep.obj n hh ee rl).ext x2
      have cc := call_arr xo.K xo.T ff sh (XO.sub xo) I2 (show Vals (V.ref ad :: (vs2 ++ zs)) (Value.ref ad :: (us ++ ws)) from .cons rfl (r1.append r2)) sr2 (.cons hself (rp1.app rp2)) (by
        show (xs ++ ys).length + 1 = _
        rw [List.length_append, l1, l2]) e3
      have lu : us.length = es.length := by rw [← r1.length, ← rp1.len]; exact l1
      have e6 : es.length + kws.length + 1 - ks.length = us.length + 1 := by omega
      rw [e6] at cc
      have c1 : (Value.ref ad :: (us ++ ws)).take (us.length + 1) = Value.ref ad :: us := by
        show _ :: List.take us.length (us ++ ws) = _
        rw [List.take_left]
      have c2 : (Value.ref ad :: (us ++ ws)).drop (us.length + 1) = ws := by
        show List.drop us.length (us ++ ws) = _
        rw [List.drop_left]
      rw [c1, c2] at cc
      refine wpAny_call (codeAny_mono cc fun r s' ⟨u, er, q⟩ => ?_)
      subst er
      obtain ⟨v, H3, I3, rv, gg⟩ := q
      exact ⟨v, H3, I3, rv, (gg.up x2).up x1⟩
end
end Dn

set_option Elab.async false
set_option linter.all false
set_option maxRecDepth 100000
set_option maxHeartbeats 4000000
/-! Dn, part O: what is walked. -/
namespace Dn
open PySem PySem.Spec PyProof.Rows L2

/-! ### enumerate of a tuple -/
theorem newE_tuple (t : Addr) (row : Array Value) : Meets (Builtin.«enumerate.__new__» ⟨[.type "enumerate", .ref t], []⟩) (fun _ R s => s.heap.IsTuple t row ∧
    R (.ok (.ret (.ref (s.heap.push { cls := .type "tuple_iterator", data := .fields #[.ref t, .int 0 0] }).objs.size)))
      { s with heap := (s.heap.push { cls := .type "tuple_iterator", data := .fields #[.ref t, .int 0 0] }).push { cls := .type "enumerate", data := .fields #[.none, .bool false, .ref s.heap.objs.size, rawInt 0, .none, .none] } }) :=
  .of_wp fun prog w A R s h => by
    obtain ⟨h0, gs, dr, tks, osn⟩ := s; obtain ⟨ht, h⟩ := h
    have sube := sub_enumerate
    have go : ∀ {A' : Around} {E' : Value → Shared → Prop} {Q' : Value → Shared → Prop}, Q' (.ref h0.objs.size) ⟨h0.push { cls := .type "tuple_iterator", data := .fields #[.ref t, .int 0 0] }, gs, dr, tks, osn⟩ → wpAny (model prog w) A' (pyIter (.ref t)) Q' E' ⟨h0, gs, dr, tks, osn⟩ :=
      fun q => wpAny_pyIter_tuple ht q
    wp_walk
    refine wpAny_stack_any fun st => wpAny_pure ?_
    split
    · rename_i c _ _ _ _ _
      cases (c == Value.type "enumerate")
      · wp_walk using go
        exact ⟨_, rfl, h⟩
      · wp_walk using go
        exact ⟨_, rfl, h⟩
    · wp_walk using go
      exact ⟨_, rfl, h⟩
section
variable {prog : Program} {w : World} {A : Around} {E : Value → Shared → Prop} {s : Shared}
theorem call_enumT {t : Addr} {row : Array Value} {Q : Value → Shared → Prop} (ht : s.heap.IsTuple t row)
    (h : ∀ h', IsEnum h' (s.heap.objs.size + 1) s.heap.objs.size 0 .none → h'.IsTupleIter s.heap.objs.size t 0 → (∀ b o, s.heap.get? b = some o → h'.get? b = some o) → Q (.ref (s.heap.objs.size + 1)) { s with heap := h' }) :
    wpAny (model prog w) A (call (.type "enumerate") [.ref t]) Q E s := by
  refine callType_new F.called_enumerate (by decide) (F.typeCall_enumerate_1 _) (F.newCall_enumerate_1 _) (fun o => F.args_object_init_2 o _) F.entry_enumerate_new (newE_tuple t row) ⟨ht, ?_⟩
  have sz1 : (s.heap.push { cls := .type "tuple_iterator", data := .fields #[.ref t, .int 0 0] }).objs.size = s.heap.objs.size + 1 := Heap.size_push ..
  show _ ∧ _
  rw [sz1]
  have isE : IsEnum ((s.heap.push { cls := .type "tuple_iterator", data := .fields #[.ref t, .int 0 0] }).push { cls := .type "enumerate", data := .fields #[.none, .bool false, .ref s.heap.objs.size, rawInt 0, .none, .none] }) (s.heap.objs.size + 1) s.heap.objs.size 0 .none := by
    have z := Heap.get?_push_size (s.heap.push { cls := .type "tuple_iterator", data := .fields #[.ref t, .int 0 0] }) (o := { cls := .type "enumerate", data := .fields #[.none, .bool false, .ref s.heap.objs.size, rawInt 0, .none, .none] }) rfl
    rw [sz1] at z; exact z
  exact ⟨⟨_, isE, rfl⟩, h _ isE ⟨_, Heap.get?_push_of_some _ (Heap.get?_push_size _ rfl), rfl, rfl⟩ fun b o x => Heap.get?_push_of_some _ (Heap.get?_push_of_some _ x)⟩
end
/-- the tuple at a, each item in a new pair -/
def IteT (K : PySem.W.Frag) (a : Addr) : It where
  go := fun i H => ∃ (xs : List V) (x : V), SqT K H a xs ∧ xs[i]? = some x
  yld := fun i H v H' => ∃ T x, v = .ref T ∧ H T = none ∧ H' = upd H T (.tup [.int (i : Nat), x]) ∧ ∀ xs, SqT K H a xs → xs[i]? = some x
  stop := fun i H => ∃ xs : List V, SqT K H a xs ∧ xs.length = i
theorem turn_enumT {P : Program} {w : World} {K : PySem.W.Frag} {elts : List Expr} {kk : Nat} {tpos : Pos} (a e it : Addr) :
    Turn P w K (.Tuple elts kk tpos) (IteT K a) [e, it] e (fun i h => (∃ old, IsEnum h e it ((i : Nat) : Int) old) ∧ h.IsTupleIter it a i ∧ e ≠ it) := by
  refine ⟨by simp, fun i h st b hb => ?_, fun i h h' st k => ?_, ?_, ?_, fun A i s Q E st h => ?_⟩
  · obtain ⟨⟨old, he⟩, ⟨o, ho, hc, hd⟩, _⟩ := st
    rcases (show b = e ∨ b = it by simpa using hb) with rfl | rfl
    · exact ⟨_, he, fun v q => nomatch q⟩
    · exact ⟨o, ho, fun v q => by rw [hd] at q; cases q⟩
  · obtain ⟨⟨old, he⟩, hi, hne⟩ := st
    exact ⟨⟨old, k e (by simp) _ he⟩, hi.at fun o q => k it (by simp) o q, hne⟩
  · intro X hP hw hK hc i pins s σ H E I hf st hg
    subst hP hw hK
    obtain ⟨⟨old, he⟩, hit, hne⟩ := st
    obtain ⟨xs, x, hq, hx⟩ := hg
    obtain ⟨its, rv, p, hz⟩ := I.tuple hq
    obtain ⟨u, hu, ru⟩ := rv.get hx
    have hel : e < s.heap.objs.size := Heap.lt_size he
    have hil : it < s.heap.objs.size := by obtain ⟨_, q, _⟩ := hit; exact Heap.lt_size q
    have p : s.heap.IsTuple a its.toArray := p
    have hae : a ≠ e := fun z => by
      subst z
      obtain ⟨o, ho, hc', _⟩ := p
      rw [he] at ho; cases ho
      injection hc' with q
      exact absurd q (by decide)
    have hai : a ≠ it := fun z => by
      subst z
      obtain ⟨o, ho, hc', _⟩ := p
      obtain ⟨o2, ho2, hc2, _⟩ := hit
      rw [ho] at ho2; cases ho2
      rw [hc'] at hc2
      injection hc2 with q
      exact absurd q (by decide)
    have hlt : i < its.toArray.size := by
      have := (List.getElem?_eq_some_iff.mp hu).1
      simpa using this
    have hH : X.A.in1.handled = none := I.ok.hd hc
    refine wpAny_pyNext_enum_itemD (Draws.tuple hH it a hai its.toArray) he ⟨hit, p⟩ hlt hne (by simp [hne, hae.symm]) fun v h' tk hv ho hst' hT hsz hk => ?_
    obtain ⟨hit', p'⟩ := hst'
    have : v = u := by
      have hu' : its.toArray[i]? = some u := by simpa using hu
      rw [hu'] at hv; cases hv; rfl
    subst this
    refine ⟨_, rfl, wpAny_letOwnedTupleGo_enum (s := { s with heap := h', toks := tk + 1 }) ho fun h'' he' sb => ?_⟩
    have hT2 := (sb.2 _ (Nat.ne_of_gt hel)).trans hT
    have new : ObjOk X.prog X.w (upd H s.heap.objs.size (.tup [.int (i : Nat), x])) h'' s.heap.objs.size (.tup [.int (i : Nat), x]) :=
      ⟨by show 2 ≤ sizeLine; decide, [.int i tk, v], .cons ⟨_, rfl⟩ (.cons ru .nil), ⟨_, hT2, rfl, _, rfl⟩⟩
    have I1 : Inv X pins σ (upd H s.heap.objs.size (.tup [.int (i : Nat), x])) { s with heap := h'', toks := tk + 1 } :=
      I.turnedNew (ch := [e, it]) (fun b ob hb q => (sb.2 b (fun z => hb (by simp [z]))).trans (hk b ob (fun z => hb (by simp [z])) (fun z => hb (by simp [z])) q)) hf (Nat.le_refl _) new
    refine ⟨.ref s.heap.objs.size, _, I1, rfl, ⟨_, x, rfl, I.hok.fresh (Nat.le_refl _), rfl, fun ys hy => by rw [I.tuple_inj hy hq]; exact hx⟩, ⟨⟨v, ?_⟩, hit'.at fun o q => (sb.2 it (Ne.symm hne)).trans q, hne⟩, fun b hb => ?_⟩
    · rw [show ((i + 1 : Nat) : Int) = (i : Int) + 1 by omega]; exact he'
    · have hb' : b < s.heap.objs.size := by
        rcases (show b = e ∨ b = it by simpa using hb) with z | z
        · rw [z]; exact hel
        · rw [z]; exact hil
      rw [upd_ne (Nat.ne_of_lt hb')]
      exact (hf b hb).1
  · intro X hP hw hK hc i pins s σ H E I hf st hg
    subst hP hw hK
    obtain ⟨⟨old, he⟩, hit, hne⟩ := st
    obtain ⟨xs, hq, hx⟩ := hg
    obtain ⟨its, rv, p, hz⟩ := I.tuple hq
    obtain ⟨f0, f1, f2, f3, f4, f5⟩ := hf it (by simp)
    have p : s.heap.IsTuple a its.toArray := p
    have hai : a ≠ it := fun z => by
      subst z
      obtain ⟨o, ho, hc', _⟩ := p
      obtain ⟨o2, ho2, hc2, _⟩ := hit
      rw [ho] at ho2; cases ho2
      rw [hc'] at hc2
      injection hc2 with q
      exact absurd q (by decide)
    have hl : its.toArray.size = i := by rw [List.size_toArray, ← rv.length]; exact hx
    have hH : X.A.in1.handled = none := I.ok.hd hc
    exact wpAny_pyNext_enum_endD (Draws.tuple hH it a hai its.toArray) he ⟨by rw [hl]; exact hit, p⟩ fun h' eb => ⟨rfl, I.turned (t' := s.toks) (fun b o hb q => eb b o hb q) f0 f1 f3 f4 f5⟩
  · obtain ⟨⟨_, he⟩, _⟩ := st
    exact wpAny_pyIter_enum he h
def iEnumT (K : PySem.W.Frag) (ta : TA) : TI := fun σ H R => ta σ H fun vs H1 => ∃ a xs, vs = [.ref a] ∧ SqT K H1 a xs ∧ R (IteT K a) H1
theorem pi_enumT {X : Cx} {e : Expr} {ta : TA} {p pos tpos : Pos} {elts : List Expr} {kk : Nat} (hg : Gl X "enumerate") (hm : X.mg "enumerate" = none) (ha : PA X [e] ta) (hs : starEach [e] X.env = [(false, eval e X.env)]) :
    PI X (.Tuple elts kk tpos) (.Call (.Name "enumerate" p) [e] [] pos) (iEnumT X.K ta) := by
  refine ⟨fun pins s σ H R I h => ?_⟩
  refine Call_ (ld_blt I hg hm boot_enumerate (PyProof.Rows.callWith_type1 (thn (ha.run pos pins s σ H _ I h) fun us s1 ⟨vs, H1, I1, r1, q1⟩ => ?_) hs rfl))
  obtain ⟨a, xs, ex, hq, q⟩ := q1
  subst ex
  obtain ⟨u, rfl, ru⟩ := vals1 r1
  cases ru
  obtain ⟨its, rv, p', hz⟩ := I1.tuple hq
  refine call_enumT (show s1.heap.IsTuple a its.toArray from p') fun h' he hit hk => wpAny_pyIter_enum he ?_
  refine ⟨s1.heap.objs.size + 1, [s1.heap.objs.size + 1, s1.heap.objs.size], _, _, H1, rfl, I1.kept (t' := s1.toks) hk, turn_enumT a (s1.heap.objs.size + 1) s1.heap.objs.size, ⟨⟨.none, he⟩, hit, Nat.succ_ne_self _⟩, fun b hb => ?_, q⟩
  have hle : s1.heap.objs.size ≤ b := by
    rcases (show b = s1.heap.objs.size + 1 ∨ b = s1.heap.objs.size by simpa using hb) with z | z
    · rw [z]; exact Nat.le_succ _
    · rw [z]; exact Nat.le_refl _
  exact I1.fpOk hle (I1.hok.fresh hle)
/-! ### range of whole numbers of any size -/
theorem turn_long {P : Program} {w : World} {K : PySem.W.Frag} {tg : Expr} (it : Addr) (lo : Int) (n : Nat) : Turn P w K tg (Itr lo n) [it] it (fun i h => IsLongIter h it (lo + (i : Nat) * 1) ((n : Int) - (i : Nat)) 1) := by
  refine ⟨by simp, fun i h st b hb => ?_, fun i h h' st k => k it (by simp) _ st, ?_, ?_, fun A i s Q E st h => wpAny_pyIter_longiter st h⟩
  · have e : b = it := by simpa using hb
    subst e
    exact ⟨_, st, fun v z => by
      have z : Data.fields _ = Data.cell v := z
      cases z⟩
  · intro X hP hw hK hc i pins s σ H E I hf st hg
    subst hP hw hK
    obtain ⟨f0, f1, f2, f3, f4, f5⟩ := hf it (by simp)
    refine (Walks.longrange (prog := X.prog) (w := X.w) (I.ok.hd hc) it lo 1 n).item i s _ _ hg st fun v h' tk hv st' kk => ?_
    obtain ⟨t, rfl⟩ := hv
    have I1 : Inv X pins σ H { s with heap := h', toks := tk } := I.turned (fun b o hb e => kk b o (by simpa using hb) e) f0 f1 f3 f4 f5
    refine ⟨_, rfl, go_of (s := { s with heap := h', toks := tk }) (n := "longrange_iterator") st' rfl rfl (by decide) ⟨.int (lo + i), H, I1, ⟨t, ?_⟩, ⟨rfl, rfl⟩, st', fun b hb => (hf b hb).1⟩⟩
    rw [Int.mul_one]
  · intro X hP hw hK hc i pins s σ H E I hf st hg
    subst hP hw hK
    obtain ⟨f0, f1, f2, f3, f4, f5⟩ := hf it (by simp)
    exact wpAny_pyNext_long_end (I.ok.hd hc) st (by have : n ≤ i := hg; omega) fun h' eb => ⟨rfl, I.turned (t' := s.toks) (fun b o hb e => eb b o hb e) f0 f1 f3 f4 f5⟩
section
variable {X : Cx} {tg : Expr}
theorem range_any {pins : List (Addr × Obj)} {σ : L2.St} {H : Hp} {s : Shared} {R : It → Hp → Prop} {E : Value → Shared → Prop} {lo hi : Int} {t u v : Tok} {tk : Nat} (I : Inv X pins σ H s) (q : R (Itr lo (hi - lo).toNat) H) :
    wpAny (model X.prog X.w) X.A (pyIter (.ref s.heap.objs.size)) (PIE X pins σ tg R) E { s with heap := s.heap.push { cls := .type "range", data := .fields #[.int lo t, .int hi u, .int 1 v] }, toks := tk } := by
  have I1 : Inv X pins σ H { s with heap := s.heap.push { cls := .type "range", data := .fields #[.int lo t, .int hi u, .int 1 v] }, toks := tk } := I.kept fun b o e => Heap.get?_push_of_some _ e
  generalize hh : s.heap.push { cls := .type "range", data := .fields #[.int lo t, .int hi u, .int 1 v] } = hp at I1 ⊢
  have isr : IsRange hp s.heap.objs.size lo hi 1 t u v := by rw [← hh]; exact IsRange.new ..
  have e1 : lo + ((0 : Nat) : Int) * 1 = lo := by simp
  have e2 : (((hi - lo).toNat : Nat) : Int) - ((0 : Nat) : Int) = Builtin.Range.rangeSize lo hi 1 := by rw [rangeSize_one]; split <;> omega
  have fresh : ∀ b ∈ [hp.objs.size], FpOk X pins H b := fun b hb => by
    have e : b = hp.objs.size := by simpa using hb
    subst e
    exact I1.fpOk (Nat.le_refl _) (I1.hok.fresh (Nat.le_refl _))
  cases hs : Builtin.Range.small lo hi 1 with
  | true =>
    refine wpAny_pyIter_range (s := { s with heap := hp, toks := tk }) isr hs ?_
    refine ⟨hp.objs.size, [hp.objs.size], _, _, H, rfl, I1.kept (t' := tk) fun b o e => Heap.get?_push_of_some _ e, turn_range _ lo (hi - lo).toNat, ?_, fresh, q⟩
    show IsRangeIter _ _ (lo + ((0 : Nat) : Int) * 1) ((((hi - lo).toNat : Nat) : Int) - ((0 : Nat) : Int)) 1
    rw [e1, e2]
    exact Heap.get?_push_size _ rfl
  | false =>
    refine wpAny_pyIter_longrange (s := { s with heap := hp, toks := tk }) isr hs ?_
    refine ⟨hp.objs.size, [hp.objs.size], _, _, H, rfl, I1.kept (t' := tk) fun b o e => Heap.get?_push_of_some _ e, turn_long _ lo (hi - lo).toNat, ?_, fresh, q⟩
    show IsLongIter _ _ (lo + ((0 : Nat) : Int) * 1) ((((hi - lo).toNat : Nat) : Int) - ((0 : Nat) : Int)) 1
    rw [e1, e2]
    exact Heap.get?_push_size _ rfl
def iRngB (ta : TA) : TI := fun σ H R => ta σ H fun vs H1 => ∃ i j : Int, vs = [.int i, .int j] ∧ R (Itr i (j - i).toNat) H1
theorem pi_rangeB {a b : Expr} {ta : TA} {p pos : Pos} (hg : Gl X "range") (hm : X.mg "range" = none) (ha : PA X [a, b] ta) (hs : starEach [a, b] X.env = [(false, eval a X.env), (false, eval b X.env)]) (hs2 : starEach [b] X.env = [(false, eval b X.env)]) :
    PI X tg (.Call (.Name "range" p) [a, b] [] pos) (iRngB ta) := by
  refine ⟨fun pins s σ H R I h => ?_⟩
  refine Call_ (ld_blt I hg hm boot_range (PyProof.Rows.callWith_type1 (thn (ha.run pos pins s σ H _ I h) fun us s1 ⟨vs, H1, I1, r1, i, j, e, q⟩ => ?_) (by rw [hs, hs2]) (by rw [hs2]; rfl)))
  subst e
  cases r1 with
  | cons r rr =>
    obtain ⟨u, rfl, r'⟩ := vals1 rr
    obtain ⟨t, rfl⟩ := r
    obtain ⟨t', rfl⟩ := r'
    exact call_range_2 (range_any I1 q)
end
end Dn

set_option Elab.async false
set_option linter.all false
set_option maxRecDepth 100000
set_option maxHeartbeats 4000000
/-! Dn, part P: sources of loops. -/
namespace Dn
open PySem PySem.Spec PyProof.Rows L2
def Hle (H H' : Hp) : Prop := ∀ a o, H a = some o → H' a = some o
theorem Hle.refl {H : Hp} : Hle H H := fun _ _ h => h
theorem Hle.l {K : PySem.W.Frag} {H H' : Hp} (h : Hle H H') {a : Addr} {vs : List V} (q : SqL K H a vs) : SqL K H' a vs := by
  rcases q with (q | ⟨o, q⟩) | q
  · exact .inl (.inl (h _ _ q))
  · exact .inl (.inr ⟨o, h _ _ q⟩)
  · exact .inr q
theorem Hle.t {K : PySem.W.Frag} {H H' : Hp} (h : Hle H H') {a : Addr} {vs : List V} (q : SqT K H a vs) : SqT K H' a vs := by
  rcases q with (q | ⟨o, q⟩) | q
  · exact .inl (.inl (h _ _ q))
  · exact .inl (.inr ⟨o, h _ _ q⟩)
  · exact .inr q
/-- what a step gives, seen in the part Hv of the heap H' -/
def Gives (G : Gd) (ρ : List Addr) (Hv H' : Hp) (d : D) (x : V) (H'' : Hp) : Prop := (H'' = H' ∧ Rep G ρ Hv d x) ∨ ∃ T w, H' T = none ∧ H'' = upd H' T w ∧ Rep G ρ (upd Hv T w) d x
/-- J gives these things, one by one, from the moment (ρ, H) on -/
structure Goes (G : Gd) (J : It) (ρ : List Addr) (H : Hp) (ts : List (Mem → Option D)) (fin : Mem → Bool) : Prop where
  sz : ts.length ≤ sizeLine
  go : ∀ (ρ' : List Addr) (Hv H' : Hp) (M' : Mem) (i : Nat) (t : Mem → Option D) (d : D), Ex ρ H ρ' Hv → SRel G ρ' Hv M' → Hle Hv H' → ts[i]? = some t → t M' = some d →
    J.go i H' ∧ ∀ x H'', J.yld i H' x H'' → Gives G ρ' Hv H' d x H''
  stop : ∀ (ρ' : List Addr) (Hv H' : Hp) (M' : Mem), Ex ρ H ρ' Hv → SRel G ρ' Hv M' → Hle Hv H' → fin M' = true → J.stop ts.length H'
def tIt (G : Gd) (C : Cfg) (it : ItK) (src : IR) : TI := fun σ H R => ∃ ρ se M xs M1 q, SRel G ρ H M ∧ ERel G ρ H se σ ∧ evs C src se M = some (xs, M1) ∧ itD it xs M1 = some q ∧
  ∀ J ρ1 H1, Ex ρ H ρ1 H1 → SRel G ρ1 H1 M1 → Goes G J ρ1 H1 (thunks q) (finM q) → R J H1
section
variable {G : Gd} {ρ : List Addr} {H : Hp} {M : Mem}
theorem th_st {l : List D} {i : Nat} {t : Mem → Option D} {d : D} {M : Mem} (h : (thunks (.st l))[i]? = some t) (e : t M = some d) : l[i]? = some d := by
  simp only [thunks, List.getElem?_map, Option.map_eq_some_iff] at h
  obtain ⟨x, h1, rfl⟩ := h
  cases e
  exact h1
theorem row_rep {d : D} {l : List D} {v : V} (h : Rep G ρ H d v) (e : rowD d = some l) : ∃ a vs, v = .ref a ∧ ((SqL G.K H a vs ∧ ∀ m, d ≠ .tup m) ∨ (SqT G.K H a vs ∧ d = .tup l)) ∧ RepL G ρ H l vs := by
  cases h with
  | tup n h r => cases e; exact ⟨_, _, rfl, .inr ⟨.of h, rfl⟩, r⟩
  | tup0 h => cases e; exact ⟨_, _, rfl, .inr ⟨h H, rfl⟩, .nil⟩
  | lst n h r => cases e; exact ⟨_, _, rfl, .inl ⟨SqL.of h, fun _ q => by cases q⟩, r⟩
  | ro h r =>
    cases e
    refine ⟨_, _, rfl, .inl ⟨?_, fun _ q => by cases q⟩, r⟩
    rcases h with ⟨_, o, h⟩ | h
    · exact .inl (.inr ⟨o, h⟩)
    · exact h H
  | _ => cases e
theorem row_L {d : D} {l : List D} {a : Addr} (h : Rep G ρ H d (.ref a)) (e : rowD d = some l) (nt : ∀ m, d ≠ .tup m) : ∃ vs, SqL G.K H a vs ∧ RepL G ρ H l vs := by
  obtain ⟨b, vs, hb, h1, h2⟩ := row_rep h e
  cases hb
  rcases h1 with h1 | ⟨_, q⟩
  · exact ⟨vs, h1.1, h2⟩
  · exact absurd q (nt _)
theorem row_T {l : List D} {a : Addr} (h : Rep G ρ H (.tup l) (.ref a)) : ∃ vs, SqT G.K H a vs ∧ RepL G ρ H l vs := by
  obtain ⟨b, vs, hb, h1, h2⟩ := tup_rep h
  cases hb
  exact ⟨vs, h1, h2⟩
theorem goes_L {d : D} {l : List D} {a : Addr} (hz : l.length ≤ sizeLine) (h : Rep G ρ H d (.ref a)) (e : rowD d = some l) (nt : ∀ m, d ≠ .tup m) : Goes G (Itl G.K a) ρ H (thunks (.st l)) (finM (.st l)) := by
  refine ⟨by simpa [thunks] using hz, fun ρ' Hv H' M' i t d' x sr le ht hd => ?_, fun ρ' Hv H' M' x sr le hf => ?_⟩
  · obtain ⟨vs, h1, h2⟩ := row_L (h.ext x) e nt
    have h1 := le.l h1
    obtain ⟨v, h3, h4⟩ := h2.get (th_st ht hd)
    refine ⟨⟨vs, v, h1, h3⟩, fun y H'' ⟨e1, e2⟩ => ?_⟩
    subst e1
    have := e2 vs h1
    rw [h3] at this; cases this
    exact .inl ⟨rfl, h4⟩
  · obtain ⟨vs, h1, h2⟩ := row_L (h.ext x) e nt
    have h1 := le.l h1
    refine ⟨vs, h1, ?_⟩
    rw [← h2.len]; simp [thunks]
theorem goes_T {l : List D} {a : Addr} (hz : l.length ≤ sizeLine) (h : Rep G ρ H (.tup l) (.ref a)) : Goes G (Itt G.K a) ρ H (thunks (.st l)) (finM (.st l)) := by
  refine ⟨by simpa [thunks] using hz, fun ρ' Hv H' M' i t d' x sr le ht hd => ?_, fun ρ' Hv H' M' x sr le hf => ?_⟩
  · obtain ⟨vs, h1, h2⟩ := row_T (h.ext x)
    have h1 := le.t h1
    obtain ⟨v, h3, h4⟩ := h2.get (th_st ht hd)
    refine ⟨⟨vs, v, h1, h3⟩, fun y H'' ⟨e1, e2⟩ => ?_⟩
    subst e1
    have := e2 vs h1
    rw [h3] at this; cases this
    exact .inl ⟨rfl, h4⟩
  · obtain ⟨vs, h1, h2⟩ := row_T (h.ext x)
    have h1 := le.t h1
    refine ⟨vs, h1, ?_⟩
    rw [← h2.len]; simp [thunks]
theorem goes_C {n len : Nat} {a : Addr} (hz : len ≤ sizeLine) (hn : ρ[n]? = some a) : Goes G (Itl G.K a) ρ H (thunks (.cl n len)) (finM (.cl n len)) := by
  have key : ∀ {ρ' : List Addr} {H' : Hp} {M' : Mem} {l : List D}, Ex ρ H ρ' H' → SRel G ρ' H' M' → M'[n]? = some (.lst l) → ∃ vs, SqL G.K H' a vs ∧ RepL G ρ' H' l vs := fun x sr hm => by
    obtain ⟨a', ha', vs, h1, h2⟩ := sr.cell hm
    rw [x.cell hn] at ha'; cases ha'
    exact ⟨vs, SqL.of h1, h2⟩
  refine ⟨by simpa [thunks] using hz, fun ρ' Hv H' M' i t d' x sr le ht hd => ?_, fun ρ' Hv H' M' x sr le hf => ?_⟩
  · have hi : t = cellAt n len i := by
      simp only [thunks, List.getElem?_map, Option.map_eq_some_iff] at ht
      obtain ⟨j, h1, rfl⟩ := ht
      have := (List.getElem?_eq_some_iff.mp h1).2
      simp at this
      rw [this]
    subst hi
    unfold cellAt at hd
    split at hd
    · rename_i l hm
      split at hd
      · obtain ⟨vs, h1, h2⟩ := key x sr hm
        have h1 := le.l h1
        obtain ⟨v, h3, h4⟩ := h2.get hd
        refine ⟨⟨vs, v, h1, h3⟩, fun y H'' ⟨e1, e2⟩ => ?_⟩
        subst e1
        have := e2 vs h1
        rw [h3] at this; cases this
        exact .inl ⟨rfl, h4⟩
      · cases hd
    · cases hd
  · simp only [finM] at hf
    split at hf
    · rename_i l hm
      obtain ⟨vs, h1, h2⟩ := key x sr hm
      refine ⟨vs, le.l h1, ?_⟩
      have : l.length = len := by simpa using hf
      rw [← h2.len, this]; simp [thunks]
    · cases hf
theorem row_at {lo : Int} {n i : Nat} {d : D} (h : (rowTo lo n)[i]? = some d) : i < n ∧ d = .int (lo + (i : Nat)) := by
  unfold rowTo at h
  rw [List.getElem?_map, Option.map_eq_some_iff] at h
  obtain ⟨j, h1, rfl⟩ := h
  obtain ⟨h2, h3⟩ := List.getElem?_eq_some_iff.mp h1
  simp at h2 h3
  subst h3
  exact ⟨h2, rfl⟩
theorem goes_R {lo : Int} {n : Nat} (hz : n ≤ sizeLine) : Goes G (Itr lo n) ρ H (thunks (.st (rowTo lo n))) (finM (.st (rowTo lo n))) := by
  refine ⟨by simpa [thunks, rowTo] using hz, fun ρ' Hv H' M' i t d' x sr le ht hd => ?_, fun ρ' Hv H' M' x sr le hf => ?_⟩
  · obtain ⟨h1, rfl⟩ := row_at (th_st ht hd)
    refine ⟨h1, fun y H'' ⟨e1, e2⟩ => ?_⟩
    subst e1 e2
    exact .inl ⟨rfl, .int _⟩
  · show n ≤ _
    simp [thunks, rowTo]
theorem goes_S {s : Str} (hs : sOk s) : Goes G (Its s) ρ H (thunks (.st (s.cps.toList.map fun c => .str ⟨#[c]⟩))) (finM (.st (s.cps.toList.map fun c => .str ⟨#[c]⟩))) := by
  refine ⟨by simpa [thunks, Str.length] using hs.1, fun ρ' Hv H' M' i t d' x sr le ht hd => ?_, fun ρ' Hv H' M' x sr le hf => ?_⟩
  · have h := th_st ht hd
    rw [List.getElem?_map, Option.map_eq_some_iff] at h
    obtain ⟨c, h1, rfl⟩ := h
    have hc : s.cps[i]? = some c := by simpa using h1
    refine ⟨(Array.getElem?_eq_some_iff.mp hc).1, fun y H'' ⟨e1, c', e2, e3⟩ => ?_⟩
    rw [hc] at e2; cases e2
    subst e1 e3
    exact .inl ⟨rfl, .str (sOk1 (sOk_mem hs (List.mem_of_getElem? h1)))⟩
  · show s.cps.size ≤ _
    simp [thunks]
theorem pair_laid {a b : D} {x y : V} {Hv H0 : Hp} {ρ0 : List Addr} {M0 : Mem} {T : Addr} (le : Hle Hv H0) (sr : SRel G ρ0 Hv M0) (hT : H0 T = none) (hx : Rep G ρ0 Hv a x) (hy : Rep G ρ0 Hv b y) :
    Gives G ρ0 Hv H0 (.tup [a, b]) (.ref T) (upd H0 T (.tup [x, y])) := by
  have hT' : Hv T = none := by
    cases h : Hv T with
    | none => rfl
    | some o => rw [le T o h] at hT; cases hT
  have e := Ex.laid (ρ := ρ0) (o := .tup [x, y]) hT'
  exact .inr ⟨T, _, hT, rfl, .tup (sr.notIn hT') upd_same (.cons (hx.ext e) (.cons (hy.ext e) .nil))⟩
theorem enum_at : ∀ {l : List D} {k i : Nat} {d : D}, (enumFrom k l)[i]? = some d → ∃ x, l[i]? = some x ∧ d = .tup [.int ((k + i : Nat) : Int), x]
  | [], _, _, _, h => by simp [enumFrom] at h
  | x :: l, k, 0, d, h => by
    simp [enumFrom] at h
    exact ⟨x, rfl, h.symm⟩
  | x :: l, k, i + 1, d, h => by
    simp only [enumFrom, List.getElem?_cons_succ] at h
    obtain ⟨y, h1, h2⟩ := enum_at h
    refine ⟨y, by simpa using h1, ?_⟩
    rw [h2, show k + 1 + i = k + (i + 1) by omega]
theorem enum_len : ∀ (l : List D) (k : Nat), (enumFrom k l).length = l.length
  | [], _ => rfl
  | x :: l, k => by simp [enumFrom, enum_len l]
theorem goes_EL {d : D} {l : List D} {a : Addr} (hz : l.length ≤ sizeLine) (h : Rep G ρ H d (.ref a)) (e : rowD d = some l) (nt : ∀ m, d ≠ .tup m) : Goes G (Ite G.K a) ρ H (thunks (.st (enumFrom 0 l))) (finM (.st (enumFrom 0 l))) := by
  refine ⟨by simpa [thunks, enum_len] using hz, fun ρ' Hv H' M' i t d' x sr le ht hd => ?_, fun ρ' Hv H' M' x sr le hf => ?_⟩
  · obtain ⟨vs, h1, h2⟩ := row_L (h.ext x) e nt
    have h1 := le.l h1
    obtain ⟨z, h5, rfl⟩ := enum_at (th_st ht hd)
    obtain ⟨v, h3, h4⟩ := h2.get h5
    refine ⟨⟨vs, v, h1, h3⟩, fun y H'' ⟨T, w, e1, e2, e3, e4⟩ => ?_⟩
    have := e4 vs h1
    rw [h3] at this; cases this
    subst e1 e3
    rw [Nat.zero_add]
    exact pair_laid le sr e2 (.int _) h4
  · obtain ⟨vs, h1, h2⟩ := row_L (h.ext x) e nt
    have h1 := le.l h1
    refine ⟨vs, h1, ?_⟩
    rw [← h2.len]; simp [thunks, enum_len]
theorem goes_ET {l : List D} {a : Addr} (hz : l.length ≤ sizeLine) (h : Rep G ρ H (.tup l) (.ref a)) : Goes G (IteT G.K a) ρ H (thunks (.st (enumFrom 0 l))) (finM (.st (enumFrom 0 l))) := by
  refine ⟨by simpa [thunks, enum_len] using hz, fun ρ' Hv H' M' i t d' x sr le ht hd => ?_, fun ρ' Hv H' M' x sr le hf => ?_⟩
  · obtain ⟨vs, h1, h2⟩ := row_T (h.ext x)
    have h1 := le.t h1
    obtain ⟨z, h5, rfl⟩ := enum_at (th_st ht hd)
    obtain ⟨v, h3, h4⟩ := h2.get h5
    refine ⟨⟨vs, v, h1, h3⟩, fun y H'' ⟨T, w, e1, e2, e3, e4⟩ => ?_⟩
    have := e4 vs h1
    rw [h3] at this; cases this
    subst e1 e3
    rw [Nat.zero_add]
    exact pair_laid le sr e2 (.int _) h4
  · obtain ⟨vs, h1, h2⟩ := row_T (h.ext x)
    have h1 := le.t h1
    refine ⟨vs, h1, ?_⟩
    rw [← h2.len]; simp [thunks, enum_len]
theorem zip_at : ∀ {l m : List D} {i : Nat} {d : D}, (zipD l m)[i]? = some d → ∃ x y, l[i]? = some x ∧ m[i]? = some y ∧ d = .tup [x, y]
  | [], _, _, _, h => by simp [zipD] at h
  | _ :: _, [], _, _, h => by simp [zipD] at h
  | x :: l, y :: m, 0, d, h => by
    simp [zipD] at h
    exact ⟨x, y, rfl, rfl, h.symm⟩
  | x :: l, y :: m, i + 1, d, h => by
    simp only [zipD, List.getElem?_cons_succ] at h
    obtain ⟨a, b, h1, h2, h3⟩ := zip_at h
    exact ⟨a, b, by simpa using h1, by simpa using h2, h3⟩
theorem zip_len : ∀ (l m : List D), (zipD l m).length = min l.length m.length
  | [], m => by simp [zipD]
  | _ :: _, [] => by simp [zipD]
  | x :: l, y :: m => by simp only [zipD, List.length_cons, zip_len l m]; omega
theorem goes_ZL {d e : D} {l m : List D} {a b : Addr} (hz : l.length ≤ sizeLine) (h : Rep G ρ H d (.ref a)) (e1 : rowD d = some l) (n1 : ∀ m, d ≠ .tup m) (h' : Rep G ρ H e (.ref b)) (e2 : rowD e = some m) (n2 : ∀ m, e ≠ .tup m) :
    Goes G (Itz G.K a b) ρ H (thunks (.st (zipD l m))) (finM (.st (zipD l m))) := by
  refine ⟨by simp only [thunks, List.length_map, zip_len]; omega, fun ρ' Hv H' M' i t d' x sr le ht hd => ?_, fun ρ' Hv H' M' x sr le hf => ?_⟩
  · obtain ⟨vs, h1, h2⟩ := row_L (h.ext x) e1 n1
    obtain ⟨us, g1, g2⟩ := row_L (h'.ext x) e2 n2
    have h1 := le.l h1
    have g1 := le.l g1
    obtain ⟨z, y, h5, g5, rfl⟩ := zip_at (th_st ht hd)
    obtain ⟨v, h3, h4⟩ := h2.get h5
    obtain ⟨u, g3, g4⟩ := g2.get g5
    refine ⟨⟨vs, us, v, u, h1, g1, h3, g3⟩, fun y H'' ⟨T, p, q, f1, f2, f3, f4, f5⟩ => ?_⟩
    have q1 := f4 vs h1
    rw [h3] at q1; cases q1
    have q2 := f5 us g1
    rw [g3] at q2; cases q2
    subst f1 f3
    exact pair_laid le sr f2 h4 g4
  · obtain ⟨vs, h1, h2⟩ := row_L (h.ext x) e1 n1
    obtain ⟨us, g1, g2⟩ := row_L (h'.ext x) e2 n2
    have h1 := le.l h1
    have g1 := le.l g1
    refine ⟨vs, us, h1, g1, ?_⟩
    rw [← h2.len, ← g2.len]
    simp only [thunks, List.length_map, zip_len]; omega
theorem goes_ZT {l m : List D} {a b : Addr} (hz : l.length ≤ sizeLine) (h : Rep G ρ H (.tup l) (.ref a)) (h' : Rep G ρ H (.tup m) (.ref b)) : Goes G (RZ.ItzT G.K a b) ρ H (thunks (.st (zipD l m))) (finM (.st (zipD l m))) := by
  refine ⟨by simp only [thunks, List.length_map, zip_len]; omega, fun ρ' Hv H' M' i t d' x sr le ht hd => ?_, fun ρ' Hv H' M' x sr le hf => ?_⟩
  · obtain ⟨vs, h1, h2⟩ := row_T (h.ext x)
    have h1 := le.t h1
    obtain ⟨us, g1, g2⟩ := row_T (h'.ext x)
    have g1 := le.t g1
    obtain ⟨z, y, h5, g5, rfl⟩ := zip_at (th_st ht hd)
    obtain ⟨v, h3, h4⟩ := h2.get h5
    obtain ⟨u, g3, g4⟩ := g2.get g5
    refine ⟨⟨vs, us, v, u, h1, g1, h3, g3⟩, fun y H'' ⟨T, p, q, f1, f2, f3, f4, f5⟩ => ?_⟩
    have q1 := f4 vs h1
    rw [h3] at q1; cases q1
    have q2 := f5 us g1
    rw [g3] at q2; cases q2
    subst f1 f3
    exact pair_laid le sr f2 h4 g4
  · obtain ⟨vs, h1, h2⟩ := row_T (h.ext x)
    have h1 := le.t h1
    obtain ⟨us, g1, g2⟩ := row_T (h'.ext x)
    have g1 := le.t g1
    refine ⟨vs, us, h1, g1, ?_⟩
    rw [← h2.len, ← g2.len]
    simp only [thunks, List.length_map, zip_len]; omega
end
section
variable {X : Cx} {G : Gd} {C : Cfg} {tg a b : Expr} {ia ib : IR} {pos : Pos}
theorem sz_L {pins : List (Addr × Obj)} {s : Shared} {σ : L2.St} {H : Hp} {ρ : List Addr} (hK : X.K = G.K) (I : Inv X pins σ H s) {ad : Addr} {vs : List V} {l : List D} (h : SqL G.K H ad vs) (r : RepL G ρ H l vs) : l.length ≤ sizeLine := by
  rw [← hK] at h
  obtain ⟨_, _, _, hz⟩ := I.list h
  rw [r.len]; exact hz
theorem sz_T {pins : List (Addr × Obj)} {s : Shared} {σ : L2.St} {H : Hp} {ρ : List Addr} (hK : X.K = G.K) (I : Inv X pins σ H s) {ad : Addr} {vs : List V} {l : List D} (h : SqT G.K H ad vs) (r : RepL G ρ H l vs) : l.length ≤ sizeLine := by
  rw [← hK] at h
  obtain ⟨_, _, _, hz⟩ := I.tuple h
  rw [r.len]; exact hz
def SzOk (d : D) : Prop := ∀ l, rowD d = some l → l.length ≤ sizeLine
theorem sz_rep {pins : List (Addr × Obj)} {s : Shared} {σ : L2.St} {H : Hp} {ρ : List Addr} (hK : X.K = G.K) (I : Inv X pins σ H s) {d : D} {v : V} (h : Rep G ρ H d v) : SzOk d := fun l e => by
  obtain ⟨a, vs, rfl, h1, h2⟩ := row_rep h e
  rcases h1 with ⟨h1, _⟩ | ⟨h1, _⟩
  · exact sz_L hK I h1 h2
  · exact sz_T hK I h1 h2
theorem sz_cell {pins : List (Addr × Obj)} {s : Shared} {σ : L2.St} {H : Hp} {ρ : List Addr} {M : Mem} (hK : X.K = G.K) (I : Inv X pins σ H s) (sr : SRel G ρ H M) {n : Nat} {l : List D} (h : M[n]? = some (.lst l)) : l.length ≤ sizeLine := by
  obtain ⟨a', _, vs, h1, h2⟩ := sr.cell h
  exact sz_L hK I (SqL.of h1) h2
theorem sz_all {pins : List (Addr × Obj)} {s : Shared} {σ : L2.St} {H : Hp} {ρ : List Addr} (hK : X.K = G.K) (I : Inv X pins σ H s) : ∀ {ds : List D} {vs : List V}, RepL G ρ H ds vs → ∀ d ∈ ds, SzOk d
  | _, _, .nil, _, m => by cases m
  | _, _, .cons h r, d, m => by
    rcases List.mem_cons.mp m with rfl | m
    · exact sz_rep hK I h
    · exact sz_all hK I r d m
/-- as SE.pe, with the sizes -/
def tEz (G : Gd) (C : Cfg) (e : IR) : TE := fun σ H Q => ∃ ρ s M d M', SRel G ρ H M ∧ ERel G ρ H s σ ∧ ev C e s M = some (d, M') ∧ ∀ v H', GotQ G ρ H M' d v H' → SzOk d → (∀ (n : Nat) (l : List D), M'[n]? = some (MO.lst l) → l.length ≤ sizeLine) → Q v H'
def tEzs (G : Gd) (C : Cfg) (e : IR) : TA := fun σ H Q => ∃ ρ s M ds M', SRel G ρ H M ∧ ERel G ρ H s σ ∧ evs C e s M = some (ds, M') ∧ ∀ vs H', GotL G ρ H M' ds vs H' → (∀ d ∈ ds, SzOk d) → Q vs H'
theorem SE.pz {i : IR} {e : Expr} (hK : X.K = G.K) (h : SE X G C e i) : PE X e (tEz G C i) := ⟨fun pins s σ H Q I ⟨ρ, se, M, d, M', sr, er, e1, q⟩ => thn (h.v pins s σ H ρ se M d M' I sr er e1) fun u s' ⟨x, H', I', r, g⟩ =>
  ⟨x, H', I', r, q x H' g (sz_rep hK I' (Classical.choose_spec g).2.2) fun n l hm => sz_cell hK I' (Classical.choose_spec g).2.1 hm⟩⟩
theorem SEs.pz {i : IR} {es : List Expr} (hK : X.K = G.K) (h : SEs X G C es i) : PA X es (tEzs G C i) := ⟨fun pos pins s σ H Q I ⟨ρ, se, M, d, M', sr, er, e1, q⟩ => thn (h.v pos pins s σ H ρ se M d M' I sr er e1) fun u s' ⟨x, H', I', r, g⟩ =>
  ⟨x, H', I', r, q x H' g (sz_all hK I' (Classical.choose_spec g).2.2)⟩⟩
/-- for .. in a: a row, a text, a cell's list -/
theorem pi_val (hK : X.K = G.K) (ha : SE X G C a ia) : PI X tg a (tIt G C .val (.cons ia .nil)) := by
  refine ⟨fun pins s σ H R I ⟨ρ, se, M, xs, M1, q, sr, er, e1, e2, k⟩ => ?_⟩
  simp only [evs] at e1
  obtain ⟨d, M2, f1, e3⟩ := bnd_inv e1
  cases e3
  have rowL : ∀ l, rowD d = some l → (∀ m, d ≠ .tup m) → q = .st l → wpAny (model X.prog X.w) X.A (eval a X.env) (fun v s1 => wpAny (model X.prog X.w) X.A (pyIter v) (PIE X pins σ tg R) X.xe s1) X.xe s := by
    rintro l hl nt rfl
    refine (pi_list (ha.pz hK)).run pins s σ H R I ⟨ρ, se, M, _, _, sr, er, f1, fun v H1 ⟨ρ1, x1, sr1, rep1⟩ hz _ => ?_⟩
    obtain ⟨ad, vs, rfl, h1, h2⟩ := row_rep rep1 hl
    rw [hK]
    rcases h1 with ⟨h1, _⟩ | ⟨_, h1⟩
    · exact ⟨ad, rfl, ⟨vs, h1⟩, k _ ρ1 H1 x1 sr1 (goes_L (hz l hl) rep1 hl nt)⟩
    · exact absurd h1 (nt _)
  cases d with
  | tup l =>
    simp only [itD, itemsD, Option.map_some] at e2
    cases e2
    refine (pi_tup (ha.pz hK)).run pins s σ H R I ⟨ρ, se, M, _, _, sr, er, f1, fun v H1 ⟨ρ1, x1, sr1, rep1⟩ hz _ => ?_⟩
    obtain ⟨ad, vs, rfl, h1, h2⟩ := tup_rep rep1
    rw [hK]
    exact ⟨ad, rfl, ⟨vs, h1⟩, k _ ρ1 H1 x1 sr1 (goes_T (hz l rfl) rep1)⟩
  | lst l =>
    simp only [itD, itemsD, Option.map_some] at e2
    cases e2
    exact rowL l rfl (fun _ q => by cases q) rfl
  | ro l =>
    simp only [itD, itemsD, Option.map_some] at e2
    cases e2
    exact rowL l rfl (fun _ q => by cases q) rfl
  | str z =>
    simp only [itD, itemsD, Option.map_some] at e2
    cases e2
    refine (pi_str (ha.pz hK)).run pins s σ H R I ⟨ρ, se, M, _, _, sr, er, f1, fun v H1 ⟨ρ1, x1, sr1, rep1⟩ hz _ => ?_⟩
    cases rep1 with
    | str hs => exact ⟨z, rfl, k _ ρ1 H1 x1 sr1 (goes_S hs)⟩
  | cell n =>
    simp only [itD] at e2
    split at e2
    · rename_i l hm
      cases e2
      refine (pi_list (ha.pz hK)).run pins s σ H R I ⟨ρ, se, M, _, _, sr, er, f1, fun v H1 ⟨ρ1, x1, sr1, rep1⟩ _ hz => ?_⟩
      cases rep1 with
      | cell hn =>
        obtain ⟨a', ha', vs, h1, h2⟩ := sr1.cell hm
        rw [hn] at ha'; cases ha'
        rw [hK]
        exact ⟨_, rfl, ⟨vs, SqL.of h1⟩, k _ ρ1 H1 x1 sr1 (goes_C (hz n l hm) hn)⟩
    · cases e2
  | _ => simp only [itD, itemsD] at e2; cases e2
theorem pi_r1 (ns : notStar a = true) {p : Pos} (hg : Gl X "range") (hm : X.mg "range" = none) (ha : SE X G C a ia) : PI X tg (.Call (.Name "range" p) [a] [] pos) (tIt G C .range1 (.cons ia .nil)) := by
  refine ⟨fun pins s σ H R I ⟨ρ, se, M, xs, M1, q, sr, er, e1, e2, k⟩ => ?_⟩
  refine (pi_range1 hg hm (ses_cons ns ha ses_nil).pa (star_cons ns)).run pins s σ H R I ⟨ρ, se, M, xs, M1, sr, er, e1, fun vs H1 ⟨ρ1, x1, sr1, rep1⟩ => ?_⟩
  simp only [evs] at e1
  obtain ⟨d, M2, f1, e3⟩ := bnd_inv e1
  cases e3
  cases d with
  | int n =>
    simp only [itD] at e2
    split at e2
    · rename_i hn
      cases e2
      obtain ⟨v, rfl, hv⟩ := repL1 rep1
      cases hv
      exact ⟨n, rfl, hn.2, by omega, k _ ρ1 H1 x1 sr1 (goes_R (by have e : sizeLine = 16777216 := rfl; omega))⟩
    · cases e2
  | _ => simp only [itD] at e2; cases e2
theorem pi_r2 (ns : notStar a = true) (ns2 : notStar b = true) {p : Pos} (hg : Gl X "range") (hm : X.mg "range" = none) (ha : SE X G C a ia) (hb : SE X G C b ib) : PI X tg (.Call (.Name "range" p) [a, b] [] pos) (tIt G C .range2 (.cons ia (.cons ib .nil))) := by
  refine ⟨fun pins s σ H R I ⟨ρ, se, M, xs, M1, q, sr, er, e1, e2, k⟩ => ?_⟩
  refine (pi_rangeB hg hm (ses_cons ns ha (ses_cons ns2 hb ses_nil)).pa (by rw [star_cons ns, star_cons ns2]; rfl) (star_cons ns2)).run pins s σ H R I ⟨ρ, se, M, xs, M1, sr, er, e1, fun vs H1 ⟨ρ1, x1, sr1, rep1⟩ => ?_⟩
  simp only [evs] at e1
  obtain ⟨d, M2, f1, e3⟩ := bnd_inv e1
  obtain ⟨ds, M3, f2, e4⟩ := bnd_inv e3
  cases e4
  obtain ⟨d2, M4, f3, e5⟩ := bnd_inv f2
  cases e5
  cases d <;> cases d2 <;> simp only [itD] at e2 <;> try (cases e2; done)
  rename_i i j
  split at e2
  · rename_i hn
    cases e2
    obtain ⟨v, u, rfl, hv, hu⟩ := repL2 rep1
    cases hv
    cases hu
    exact ⟨_, _, rfl, k _ ρ1 H1 x1 sr1 (goes_R (by have e : sizeLine = 16777216 := rfl; omega))⟩
  · cases e2
theorem pi_en (hK : X.K = G.K) (ns : notStar a = true) {p : Pos} {elts : List Expr} {kk : Nat} {tpos : Pos} (hg : Gl X "enumerate") (hm : X.mg "enumerate" = none) (ha : SE X G C a ia) : PI X (.Tuple elts kk tpos) (.Call (.Name "enumerate" p) [a] [] pos) (tIt G C .enum (.cons ia .nil)) := by
  refine ⟨fun pins s σ H R I ⟨ρ, se, M, xs, M1, q, sr, er, e1, e2, k⟩ => ?_⟩
  have hp := (ses_cons ns ha ses_nil).pz hK
  have e0 := e1
  simp only [evs] at e1
  obtain ⟨d, M2, f1, e3⟩ := bnd_inv e1
  cases e3
  simp only [itD, Option.map_eq_some_iff] at e2
  obtain ⟨l, hl, rfl⟩ := e2
  by_cases ht : ∃ m, d = .tup m
  · obtain ⟨m, rfl⟩ := ht
    cases hl
    refine (pi_enumT hg hm hp (star_cons ns)).run pins s σ H R I ⟨ρ, se, M, _, _, sr, er, e0, fun vs H1 ⟨ρ1, x1, sr1, rep1⟩ hz => ?_⟩
    obtain ⟨v, rfl, hv⟩ := repL1 rep1
    obtain ⟨ad, us, rfl, h1, h2⟩ := tup_rep hv
    rw [hK]
    exact ⟨ad, us, rfl, h1, k _ ρ1 H1 x1 sr1 (goes_ET (hz _ List.mem_cons_self l rfl) hv)⟩
  · have nt : ∀ m, d ≠ .tup m := fun m e => ht ⟨m, e⟩
    refine (pi_enum hg hm hp (star_cons ns)).run pins s σ H R I ⟨ρ, se, M, _, _, sr, er, e0, fun vs H1 ⟨ρ1, x1, sr1, rep1⟩ hz => ?_⟩
    obtain ⟨v, rfl, hv⟩ := repL1 rep1
    obtain ⟨ad, us, rfl, h1, h2⟩ := row_rep hv hl
    rw [hK]
    rcases h1 with ⟨h1, _⟩ | ⟨_, h1⟩
    · exact ⟨ad, us, rfl, h1, k _ ρ1 H1 x1 sr1 (goes_EL (hz _ List.mem_cons_self l hl) hv hl nt)⟩
    · exact absurd h1 (nt _)
theorem zip_it {d e : D} {M : Mem} {q : Src} (h : itD .zip [d, e] M = some q) : ∃ l m, rowD d = some l ∧ rowD e = some m ∧ q = .st (zipD l m) ∧ ((d = .tup l ∧ e = .tup m) ∨ ((∀ x, d ≠ .tup x) ∧ ∀ x, e ≠ .tup x)) := by
  cases d <;> cases e <;> simp only [itD, rowD] at h <;> first
    | (cases h; done)
    | (cases h; exact ⟨_, _, rfl, rfl, rfl, .inl ⟨rfl, rfl⟩⟩)
    | (cases h; exact ⟨_, _, rfl, rfl, rfl, .inr ⟨fun _ q => (by cases q), fun _ q => (by cases q)⟩⟩)
theorem pi_zp (hK : X.K = G.K) (ns : notStar a = true) (ns2 : notStar b = true) {p : Pos} {elts : List Expr} {kk : Nat} {tpos : Pos} (hg : Gl X "zip") (hm : X.mg "zip" = none) (ha : SE X G C a ia) (hb : SE X G C b ib) : PI X (.Tuple elts kk tpos) (.Call (.Name "zip" p) [a, b] [] pos) (tIt G C .zip (.cons ia (.cons ib .nil))) := by
  refine ⟨fun pins s σ H R I ⟨ρ, se, M, xs, M1, q, sr, er, e1, e2, k⟩ => ?_⟩
  refine (RZ.pi_zipA hg hm ((ses_cons ns ha (ses_cons ns2 hb ses_nil)).pz hK) (star_cons ns) (no_star pos X.env [b] (by simp [ns2]))).run pins s σ H R I ⟨ρ, se, M, xs, M1, sr, er, e1, fun vs H1 ⟨ρ1, x1, sr1, rep1⟩ hz => ?_⟩
  simp only [evs] at e1
  obtain ⟨d, M2, f1, e3⟩ := bnd_inv e1
  obtain ⟨ds, M3, f2, e4⟩ := bnd_inv e3
  cases e4
  obtain ⟨d2, M4, f3, e5⟩ := bnd_inv f2
  cases e5
  obtain ⟨l, m, h1, h2, rfl, h3⟩ := zip_it e2
  obtain ⟨v, u, rfl, hv, hu⟩ := repL2 rep1
  have z1 := hz d List.mem_cons_self l h1
  rw [hK]
  rcases h3 with ⟨rfl, rfl⟩ | ⟨n1, n2⟩
  · obtain ⟨a1, us1, rfl, g1, g2⟩ := tup_rep hv
    obtain ⟨a2, us2, rfl, g3, g4⟩ := tup_rep hu
    exact ⟨a1, a2, us1, us2, rfl, .inr ⟨g1, g3, k _ ρ1 H1 x1 sr1 (goes_ZT z1 hv hu)⟩⟩
  · obtain ⟨a1, us1, rfl, g1, g2⟩ := row_rep hv h1
    obtain ⟨a2, us2, rfl, g3, g4⟩ := row_rep hu h2
    rcases g1 with ⟨g1, _⟩ | ⟨_, q⟩
    · rcases g3 with ⟨g3, _⟩ | ⟨_, q⟩
      · exact ⟨a1, a2, us1, us2, rfl, .inl ⟨g1, g3, k _ ρ1 H1 x1 sr1 (goes_ZL z1 hv h1 n1 hu h2 n2)⟩⟩
      · exact absurd q (n2 _)
    · exact absurd q (n1 _)
end
end Dn

set_option Elab.async false
set_option linter.all false
set_option maxRecDepth 100000
set_option maxHeartbeats 4000000
/-! Dn, part Q: a list hidden from an evaluation; comprehensions. -/
namespace Dn
open PySem PySem.Spec PyProof.Rows L2
/-- the heap without D -/
def hid (H : Hp) (D : Addr) : Hp := fun a => if a = D then none else H a
section
variable {H : Hp} {D T : Addr} {o w : HO}
theorem hid_self : hid H D D = none := if_pos rfl
theorem hid_ne (h : T ≠ D) : hid H D T = H T := if_neg h
theorem hid_le : Hle (hid H D) H := fun a o h => by
  unfold hid at h
  split at h
  · cases h
  · exact h
theorem hid_back (h : H D = some o) : upd (hid H D) D o = H := by
  funext a
  by_cases q : a = D
  · subst q; rw [upd_same, h]
  · rw [upd_ne q, hid_ne q]
theorem hid_upd : hid (upd H D o) D = hid H D := by
  funext a
  by_cases q : a = D
  · subst q; rw [hid_self, hid_self]
  · rw [hid_ne q, hid_ne q, upd_ne q]
theorem hid_none (h : H D = none) : hid H D = H := by
  funext a
  by_cases q : a = D
  · subst q; rw [hid_self, h]
  · rw [hid_ne q]
theorem hid_ins (h : T ≠ D) : hid (upd H T w) D = upd (hid H D) T w := by
  funext a
  by_cases q : a = D
  · subst q; rw [hid_self, upd_ne (Ne.symm h), hid_self]
  · rw [hid_ne q]
    by_cases q2 : a = T
    · subst q2; rw [upd_same, upd_same]
    · rw [upd_ne q2, upd_ne q2, hid_ne q]
end
/-- what D must keep clear of -/
structure Clear (X : Cx) (pins : List (Addr × Obj)) (D : Addr) : Prop where
  b : ∀ o, X.s_0.heap.get? D = some o → X.H_0 D = none → D ∈ X.ex
  t : ∀ xs, X.H_0 D ≠ some (.tup xs)
  f : ∀ o u, X.H_0 D ≠ some (.frz o u)
  tb : ∀ ps, X.H_0 D ≠ some (.tbl ps)
  l : D ≠ X.env.locals
  c : ∀ x c, X.env.cells.lookup x = some c → c ≠ D
  p : ∀ p ∈ X.pn ++ pins, p.1 ≠ D
def lstObj (its : List Value) (n : Nat) : Obj := { cls := .type "list", data := .seq its.toArray n }
section
variable {X : Cx} {pins : List (Addr × Obj)} {σ : List (Option V)} {H : Hp} {s : Shared} {D : Addr} {acc : List V}
theorem inv_hide (I : Inv X pins σ H s) (h : H D = some (.lst acc)) : ∃ its n, Vals acc its ∧ acc.length ≤ sizeLine ∧ s.heap.get? D = some (lstObj its n) ∧ Inv X (pins ++ [(D, lstObj its n)]) σ (hid H D) s ∧ Clear X pins D := by
  obtain ⟨hz, its, n, rv, ho⟩ := I.hok D _ h
  have ho : s.heap.get? D = some (lstObj its n) := ho
  have cl : Clear X pins D := by
    refine ⟨fun o e1 e2 => ?_, fun xs e => ?_, fun o u e => ?_, fun ps e => ?_, fun e => ?_, fun x c e z => ?_, fun p hp z => ?_⟩
    · by_cases hx : D ∈ X.ex
      · exact hx
      · rw [I.base.free D o e1 e2 hx] at h; cases h
    · rw [I.base.tups D xs e] at h; cases h
    · rw [I.base.frzs D o u e] at h; cases h
    · obtain ⟨more, e⟩ := I.base.tbls D ps e
      rw [e] at h; cases h
    · rw [e, I.free] at h; cases h
    · rw [← z, I.freeC x c e] at h; cases h
    · rw [← z, (I.pin p hp).2.1] at h; cases h
  have gone : ∀ {a : Addr}, H a = none → hid H D a = none := fun {a} e => by
    by_cases q : a = D
    · subst q; exact hid_self
    · rw [hid_ne q]; exact e
  have stays : ∀ {a : Addr} {o : HO}, H a = some o → (∀ xs, o ≠ .lst xs) → hid H D a = some o := fun {a o} e ne => by
    rw [hid_ne]
    · exact e
    · intro q; subst q; rw [h] at e; cases e; exact ne _ rfl
  have nfs : D ∉ X.fs := fun hb => by
    obtain ⟨_, o, e, _⟩ := I.ok.funs.mem hb
    have hx := cl.b o e (I.ok.frf D hb)
    exact I.ok.exfs D hx hb
  refine ⟨its, n, rv, hz, ho, ⟨I.ok, I.os, I.bare, ⟨I.base.keep, I.base.slot, fun b o e1 e2 e3 => gone (I.base.free b o e1 e2 e3), I.base.there, fun b xs e => stays (I.base.tups b xs e) fun _ z => (by cases z),
    fun b o u e => stays (I.base.frzs b o u e) fun _ z => (by cases z), fun b ps e => ?_⟩, I.loc, I.cell, gone I.free, fun x c e => gone (I.freeC x c e), fun p hp => ?_, fun a o e => ?_, I.len⟩, cl⟩
  · obtain ⟨more, e⟩ := I.base.tbls b ps e
    exact ⟨more, stays e fun _ z => (by cases z)⟩
  · rcases List.mem_append.mp hp with hp | hp
    · obtain ⟨a, b, c, d, e⟩ := I.pin p (List.mem_append_left _ hp)
      exact ⟨a, gone b, c, d, e⟩
    · rcases List.mem_append.mp hp with hp | hp
      · obtain ⟨a, b, c, d, e⟩ := I.pin p (List.mem_append_right _ hp)
        exact ⟨a, gone b, c, d, e⟩
      · have : p = (D, lstObj its n) := by simpa using hp
        subst this
        exact ⟨ho, hid_self, cl.l, nfs, fun v z => (by cases z)⟩
  · have e' := hid_le a o e
    refine (I.hok a o e').stay (fun c v _ q => q) (fun b q => stays q fun _ z => (by cases z)) (fun b xs q => stays q fun _ z => (by cases z))
theorem inv_show {its : List Value} {n : Nat} (I : Inv X (pins ++ [(D, lstObj its n)]) σ H s) (cl : Clear X pins D) (rv : Vals acc its) (hz : acc.length ≤ sizeLine) : H D = none ∧ Inv X pins σ (upd H D (.lst acc)) s := by
  obtain ⟨ho, hn, _, _, _⟩ := I.pin (D, lstObj its n) (by simp)
  have ho : s.heap.get? D = some (lstObj its n) := ho
  have hn : H D = none := hn
  have old : ∀ {a : Addr}, a ≠ D → upd H D (.lst acc) a = H a := fun h => upd_ne h
  have stays : ∀ {a : Addr} {o : HO}, H a = some o → upd H D (.lst acc) a = some o := fun {a o} e => by
    rw [old]
    · exact e
    · intro q; subst q; rw [hn] at e; cases e
  refine ⟨hn, ⟨I.ok, I.os, I.bare, ⟨I.base.keep, I.base.slot, fun b o e1 e2 e3 => ?_, I.base.there, fun b xs e => stays (I.base.tups b xs e), fun b o u e => stays (I.base.frzs b o u e), fun b ps e => ?_⟩, I.loc, I.cell, ?_, fun x c e => ?_, fun p hp => ?_, fun a o e => ?_, I.len⟩⟩
  · rw [old]
    · exact I.base.free b o e1 e2 e3
    · intro q; subst q; exact e3 (cl.b o e1 e2)
  · obtain ⟨more, e⟩ := I.base.tbls b ps e
    exact ⟨more, stays e⟩
  · rw [old (Ne.symm cl.l)]; exact I.free
  · rw [old (cl.c x c e)]; exact I.freeC x c e
  · obtain ⟨a, b, c, d, e⟩ := I.pin p (by
      rcases List.mem_append.mp hp with hp | hp
      · exact List.mem_append_left _ hp
      · exact List.mem_append_right _ (List.mem_append_left _ hp))
    exact ⟨a, by rw [old (cl.p p hp)]; exact b, c, d, e⟩
  · by_cases q : a = D
    · subst q
      rw [upd_same] at e; cases e
      exact ⟨hz, its, n, rv, ho⟩
    · rw [old q] at e
      exact (I.hok a o e).stay (fun c v _ q => q) (fun b q => stays q) (fun b xs q => stays q)
end
section
variable {X : Cx} {G : Gd} {C : Cfg} {e a b c : Expr} {es : List Expr} {i ia ib ic : IR} {pos : Pos}
/-- an evaluation that does not see D -/
def tEh (G : Gd) (C : Cfg) (i : IR) (D : Addr) : TE := fun σ H Q => ∃ acc ρ s M d M', H D = some (.lst acc) ∧ SRel G ρ (hid H D) M ∧ ERel G ρ (hid H D) s σ ∧ ev C i s M = some (d, M') ∧
  ∀ v H', H' D = some (.lst acc) → GotQ G ρ (hid H D) M' d v (hid H' D) → Q v H'
theorem SE.ph (h : SE X G C e i) (D : Addr) : PE X e (tEh G C i D) := by
  refine ⟨fun pins s σ H Q I ⟨acc, ρ, se, M, d, M', hD, sr, er, e1, q⟩ => ?_⟩
  obtain ⟨its, n, rv, hz, ho, I2, cl⟩ := inv_hide I hD
  refine thn (h.v _ s σ _ ρ se M d M' I2 sr er e1) fun v s' ⟨x, H', I', r, g⟩ => ?_
  obtain ⟨hn, I3⟩ := inv_show I' cl rv hz
  refine ⟨x, _, I3, r, q x _ upd_same ?_⟩
  rw [hid_upd, hid_none hn]
  exact g
def tTh (G : Gd) (C : Cfg) (i : IR) (D : Addr) : TT := fun σ H Q => ∃ acc ρ s M d M' b, H D = some (.lst acc) ∧ SRel G ρ (hid H D) M ∧ ERel G ρ (hid H D) s σ ∧ ev C i s M = some (d, M') ∧ truD M' d = some b ∧
  ∀ H', H' D = some (.lst acc) → (∃ ρ', Ex ρ (hid H D) ρ' (hid H' D) ∧ SRel G ρ' (hid H' D) M') → Q b H'
theorem SE.pth (h : SE X G C e i) (D : Addr) : PT X e (tTh G C i D) := by
  refine ⟨fun pins s σ H Q I ⟨acc, ρ, se, M, d, M', b, hD, sr, er, e1, e2, q⟩ => ?_⟩
  obtain ⟨its, n, rv, hz, ho, I2, cl⟩ := inv_hide I hD
  refine thn (h.t _ s σ _ ρ se M d M' b I2 sr er e1 e2) fun v s' ⟨H', I', ev, g⟩ => ?_
  obtain ⟨hn, I3⟩ := inv_show I' cl rv hz
  subst ev
  refine ⟨_, I3, q _ upd_same ?_⟩
  rw [hid_upd, hid_none hn]
  exact g
end
end Dn

set_option Elab.async false
set_option linter.all false
set_option maxRecDepth 100000
set_option maxHeartbeats 4000000
/-! Dn, part R: comprehensions. -/
namespace Dn
open PySem PySem.Spec PyProof.Rows L2
/-! ### slots forgotten -/
theorem wipe_in {σ : L2.St} {j : Nat} : ∀ {vs : List Nat}, j ∈ vs → j < σ.length → (wipe σ vs)[j]? = some none
  | v :: vs, h, hl => by
    unfold wipe
    by_cases q : v = j
    · subst q
      rw [List.getElem?_set_self (by rw [wipe_length]; exact hl)]
    · rw [List.getElem?_set_ne q]
      rcases List.mem_cons.mp h with e | h
      · exact absurd e.symm q
      · exact wipe_in h hl
theorem wipe_set {σ : L2.St} {i : Nat} {v : Option V} {vs : List Nat} (h : i ∈ vs) : wipe (σ.set i v) vs = wipe σ vs := by
  apply List.ext_getElem?
  intro j
  by_cases q : j ∈ vs
  · by_cases hl : j < σ.length
    · rw [wipe_in q hl, wipe_in q (by simpa using hl)]
    · rw [List.getElem?_eq_none (by rw [wipe_length]; simpa using hl), List.getElem?_eq_none (by rw [wipe_length]; omega)]
  · rw [wipe_out q, wipe_out q, List.getElem?_set_ne]
    intro e; subst e; exact q h
theorem wipeE_some {s : En} {i : Nat} {d : D} : ∀ {t : List Nat}, (wipeE s t)[i]? = some (some d) → s[i]? = some (some d) ∧ i ∉ t
  | [], h => ⟨h, by simp⟩
  | v :: t, h => by
    unfold wipeE at h
    by_cases hi : v = i
    · subst hi
      by_cases hv : v < (wipeE s t).length
      · rw [List.getElem?_set_self hv] at h; cases h
      · rw [List.getElem?_eq_none (by simpa using hv)] at h; cases h
    · rw [List.getElem?_set_ne hi] at h
      obtain ⟨h1, h2⟩ := wipeE_some h
      exact ⟨h1, by simp only [List.mem_cons, not_or]; exact ⟨fun e => hi e.symm, h2⟩⟩
theorem wipeE_len {s : En} : ∀ t : List Nat, (wipeE s t).length = s.length
  | [] => rfl
  | v :: t => by unfold wipeE; rw [List.length_set, wipeE_len t]
theorem ERel.wipe {G : Gd} {ρ : List Addr} {H : Hp} {s : En} {σ : L2.St} (e : ERel G ρ H s σ) {t vs : List Nat} (h : ∀ v ∈ vs, v ∈ t) : ERel G ρ H (wipeE s t) (L2.wipe σ vs) := by
  refine ⟨by rw [wipeE_len, wipe_length]; exact e.len, fun i d hd => ?_⟩
  obtain ⟨h1, h2⟩ := wipeE_some hd
  obtain ⟨v, h3, h4⟩ := e.at_ i d h1
  exact ⟨v, by rw [wipe_out fun m => h2 (h i m)]; exact h3, h4⟩

/-! ### targets that are names -/
def gRow : List Nat → TGs
  | [] => gNil
  | i :: is => gCons (gName i) (gRow is)
def gT (K : PySem.W.Frag) (t : List Nat) (tk : Bool) : L2.TG := if tk = true then gTup K t.length (gRow t) else gName (t.headD 0)
def TgName (X : Cx) (e : Expr) (i : Nat) : Prop := ∃ x p, e = .Name x p ∧ X.N[i]? = some x ∧ Loc X.env.scope x ∧ (X.fn x = true ∨ X.env.scope.names.lookup x = some .local)
def TgOk (X : Cx) (tg : Expr) (t : List Nat) (tk : Bool) : Prop := if tk = true then ∃ es k p, tg = .Tuple es k p ∧ All2 (TgName X) es t else ∃ i, t = [i] ∧ TgName X tg i
section
variable {X : Cx} {G : Gd} {C : Cfg} {ρ : List Addr} {H Hv : Hp}
theorem TgName.pg {e : Expr} {i : Nat} (hN : X.N.Nodup) (h : TgName X e i) : PG X e (gName i) := by
  obtain ⟨x, p, rfl, h1, h2, h3⟩ := h
  exact pg_name hN h1 h2 h3
theorem row_names {env : Env} : ∀ {es : List Expr} {t : List Nat}, All2 (TgName X) es t → (assignEach es env).length = t.length ∧ (assignEach es env).findIdx? (·.1) = none
  | [], [], _ => ⟨rfl, rfl⟩
  | e :: es, i :: t, ⟨⟨x, p, he, _⟩, h⟩ => by
    subst he
    obtain ⟨h1, h2⟩ := row_names h
    refine ⟨?_, ?_⟩
    · show (assignEach es env).length + 1 = t.length + 1
      rw [h1]
    · show List.findIdx? (·.1) ((false, assign (.Name x p) env) :: assignEach es env) = none
      rw [List.findIdx?_cons, h2]
      rfl
theorem pgs_row (hN : X.N.Nodup) : ∀ {es : List Expr} {t : List Nat}, All2 (TgName X) es t → PGs X es (gRow t)
  | [], [], _ => pgs_nil
  | e :: es, i :: t, ⟨h0, h⟩ => by
    have hp := h0.pg hN
    obtain ⟨x, p, he, _⟩ := h0
    subst he
    exact pgs_cons hp (pgs_row hN h) rfl
theorem TgOk.pg {tg : Expr} {t : List Nat} {tk : Bool} (hc : X.calm = true) (hN : X.N.Nodup) (h : TgOk X tg t tk) : PG X tg (gT X.K t tk) := by
  unfold TgOk at h
  unfold gT
  cases tk with
  | true =>
    rw [if_pos rfl] at h ⊢
    obtain ⟨es, k, p, rfl, h⟩ := h
    obtain ⟨h1, h2⟩ := row_names (env := X.env) h
    exact pg_tup hc (pgs_row hN h) h1 h2
  | false =>
    rw [if_neg Bool.false_ne_true] at h ⊢
    obtain ⟨i, rfl, h⟩ := h
    exact h.pg hN
theorem row_set : ∀ {t : List Nat} {ds : List D} {xs : List V} {s s' : En} {σ : L2.St}, setAll s t ds = some s' → RepL G ρ H ds xs → ERel G ρ H s σ →
    ds.length = t.length ∧ ∃ σ', ERel G ρ H s' σ' ∧ (∀ vs : List Nat, (∀ i ∈ t, i ∈ vs) → wipe σ' vs = wipe σ vs) ∧ ∀ (H0 : Hp) (Q : L2.St → Hp → Prop), Q σ' H0 → gRow t xs σ H0 Q
  | [], [], _, s, s', σ, e, r, er => by
    cases e; cases r
    exact ⟨rfl, σ, er, fun _ _ => rfl, fun H0 Q q => ⟨rfl, q⟩⟩
  | [], _ :: _, _, _, _, _, e, _, _ => by cases e
  | _ :: _, [], _, _, _, _, e, _, _ => by cases e
  | i :: t, d :: ds, _, s, s', σ, e, r, er => by
    simp only [setAll] at e
    split at e
    · cases r with
      | cons h r =>
        rename_i v xs
        obtain ⟨hl, σ', h1, h2, h3⟩ := row_set e r (er.set i h)
        refine ⟨by simp [hl], σ', h1, fun vs hv => ?_, fun H0 Q q => ⟨v, xs, rfl, h3 H0 Q q⟩⟩
        rw [h2 vs fun j m => hv j (List.mem_cons_of_mem _ m)]
        exact wipe_set (hv i List.mem_cons_self)
    · cases e
/-- the binding of an item to the names -/
theorem bind_ok {t : List Nat} {tk : Bool} {d : D} {v : V} {s s' : En} {σ : L2.St} (ht : tk = true ∨ ∃ i, t = [i]) (e : bindT t tk d s = some s') (h : Rep G ρ Hv d v) (er : ERel G ρ Hv s σ) (le : Hle Hv H) :
    ∃ σ', ERel G ρ Hv s' σ' ∧ (∀ vs : List Nat, (∀ i ∈ t, i ∈ vs) → wipe σ' vs = wipe σ vs) ∧ ∀ Q : L2.St → Hp → Prop, Q σ' H → gT G.K t tk v σ H Q := by
  unfold bindT at e
  unfold gT
  cases tk with
  | true =>
    rw [if_pos rfl] at e
    simp only [if_true]
    cases d with
    | tup ds =>
      obtain ⟨a, xs, rfl, h1, h2⟩ := tup_rep h
      obtain ⟨hl, σ', h3, h4, h5⟩ := row_set e h2 er
      exact ⟨σ', h3, h4, fun Q q => ⟨a, xs, rfl, le.t h1, by rw [← h2.len, hl], h5 H Q q⟩⟩
    | _ => cases e
  | false =>
    rw [if_neg Bool.false_ne_true] at e
    rcases ht with ht | ⟨i, rfl⟩
    · cases ht
    · obtain ⟨_, σ', h3, h4, h5⟩ := row_set e (.cons h .nil) er
      refine ⟨σ', h3, h4, fun Q q => ?_⟩
      obtain ⟨w, r, e1, e2⟩ := h5 H Q q
      cases e1
      obtain ⟨_, e2⟩ := e2
      exact e2
end

/-! ### hidden D of unknown name -/
def tEH (G : Gd) (C : Cfg) (i : IR) : TE := fun σ H Q => ∃ D, tEh G C i D σ H Q
def tTH (G : Gd) (C : Cfg) (i : IR) : TT := fun σ H Q => ∃ D, tTh G C i D σ H Q
def tCond (G : Gd) (C : Cfg) (i : IR) : TT := if isNil i = true then tYes else tTH G C i
def tItH (G : Gd) (C : Cfg) (it : ItK) (src : IR) : TI := fun σ H R => ∃ D acc ρ se M xs M1 q, H D = some (.lst acc) ∧ SRel G ρ (hid H D) M ∧ ERel G ρ (hid H D) se σ ∧ evs C src se M = some (xs, M1) ∧ itD it xs M1 = some q ∧
  ∀ J ρ1 H1, H1 D = some (.lst acc) → Ex ρ (hid H D) ρ1 (hid H1 D) → SRel G ρ1 (hid H1 D) M1 → Goes G J ρ1 (hid H1 D) (thunks q) (finM q) → R J H1
section
variable {X : Cx} {G : Gd} {C : Cfg} {e c tg iter : Expr} {i ic src : IR} {it : ItK}
theorem SE.pH (h : SE X G C e i) : PE X e (tEH G C i) := ⟨fun pins s σ H Q I ⟨D, q⟩ => (h.ph D).run pins s σ H Q I q⟩
theorem SE.ptH (h : SE X G C e i) : PT X e (tTH G C i) := ⟨fun pins s σ H Q I ⟨D, q⟩ => (h.pth D).run pins s σ H Q I q⟩
theorem pi_hid (h : PI X tg iter (tIt G C it src)) : PI X tg iter (tItH G C it src) := by
  refine ⟨fun pins s σ H R I ⟨D, acc, ρ, se, M, xs, M1, q, hD, sr, er, e1, e2, k⟩ => ?_⟩
  obtain ⟨its, n, rv, hz, ho, I2, cl⟩ := inv_hide I hD
  refine thn (h.run _ s σ _ (fun J H1 => ∃ ρ1, Ex ρ (hid H D) ρ1 H1 ∧ SRel G ρ1 H1 M1 ∧ Goes G J ρ1 H1 (thunks q) (finM q)) I2 ⟨ρ, se, M, xs, M1, q, sr, er, e1, e2, fun J ρ1 H1 x1 sr1 g => ⟨ρ1, x1, sr1, g⟩⟩) fun v s1 h1 => thn h1 fun itv s2 h2 => ?_
  obtain ⟨a, fp, tn, J, H2, e, I3, T, st, f, ρ1, x1, sr1, g⟩ := h2
  obtain ⟨hn, I4⟩ := inv_show I3 cl rv hz
  have e5 : hid (upd H2 D (.lst acc)) D = H2 := by rw [hid_upd, hid_none hn]
  refine ⟨a, fp, tn, J, _, e, I4, T, st, fun b hb => ?_, k J ρ1 _ upd_same (by rw [e5]; exact x1) (by rw [e5]; exact sr1) (by rw [e5]; exact g)⟩
  obtain ⟨f0, f1, f2, f3, f4, f5⟩ := f b hb
  refine ⟨?_, f1, f2, f3, f4, fun p hp => f5 p ?_⟩
  · rw [upd_ne]
    · exact f0
    · exact fun z => f5 (D, lstObj its n) (by simp) z.symm
  · rcases List.mem_append.mp hp with hp | hp
    · exact List.mem_append_left _ hp
    · exact List.mem_append_right _ (List.mem_append_left _ hp)
/-- a clause's test: none, or one -/
structure CondOk (X : Cx) (G : Gd) (C : Cfg) (ifs : List Expr) (i : IR) : Prop where
  ex : (ifs = [] ∧ i = .nil) ∨ ∃ c, ifs = [c] ∧ isNil i = false ∧ SE X G C c i
theorem CondOk.pts {ifs : List Expr} (h : CondOk X G C ifs i) : PTs X ifs (tCond G C i) := by
  rcases h.ex with ⟨rfl, rfl⟩ | ⟨c, rfl, hn, hs⟩
  · exact pts_nil
  · unfold tCond
    rw [hn]
    exact pts_one hs.ptH
end
/-- what one turn does -/
def turnE (C : Cfg) (t : List Nat) (tk : Bool) (cond e : IR) (s : En) (x : D) (M : Mem) : Rs (List D) := bnd (lft (bindT t tk x s) M) fun s' M =>
  bnd (if isNil cond = true then some (true, M) else bnd (ev C cond s' M) fun d M => lft (truD M d) M) fun b M =>
    if b = true then bnd (ev C e s' M) fun y M => some ([y], M) else some ([], M)
theorem turn_len {C : Cfg} {t : List Nat} {tk : Bool} {cond e : IR} {s : En} {x : D} {M M' : Mem} {zs : List D} (h : turnE C t tk cond e s x M = some (zs, M')) : zs.length ≤ 1 := by
  unfold turnE at h
  obtain ⟨s', m1, _, h⟩ := bnd_inv h
  obtain ⟨b, m2, _, h⟩ := bnd_inv h
  split at h
  · obtain ⟨y, m3, _, h⟩ := bnd_inv h
    cases h
    simp
  · cases h
    simp
theorem comp_len {f : D → Mem → Rs (List D)} {fin : Mem → Bool} (hf : ∀ x M zs M', f x M = some (zs, M') → zs.length ≤ 1) : ∀ {ts : List (Mem → Option D)} {M M' : Mem} {ys : List D}, compT f fin ts M = some (ys, M') → ys.length ≤ ts.length
  | [], M, M', ys, h => by
    simp only [compT] at h
    split at h
    · cases h; exact Nat.le_refl _
    · cases h
  | t :: ts, M, M', ys, h => by
    simp only [compT] at h
    obtain ⟨x, m1, _, h⟩ := bnd_inv h
    obtain ⟨zs, m2, h2, h⟩ := bnd_inv h
    obtain ⟨rs, m3, h3, h⟩ := bnd_inv h
    cases h
    have := hf _ _ _ _ h2
    have := comp_len hf h3
    simp only [List.length_append, List.length_cons]
    omega
section
variable {G : Gd} {C : Cfg} {ρ : List Addr} {H : Hp} {D0 : Addr} {acc : List V} {t : List Nat} {tk : Bool} {cond e : IR} {se : En} {σ : L2.St} {x : D} {v : V} {M M' : Mem} {zs : List D}
theorem turn_ok (ht : tk = true ∨ ∃ i, t = [i]) (hf : turnE C t tk cond e se x M = some (zs, M')) (hD : H D0 = some (.lst acc)) (sr : SRel G ρ (hid H D0) M) (er : ERel G ρ (hid H D0) se σ) (hx : Rep G ρ (hid H D0) x v) (hz : acc.length + zs.length ≤ sizeLine) {Nx : Hp → Prop} {W : L2.St → Prop}
    (hW : ∀ σ2, (∀ vs : List Nat, (∀ i ∈ t, i ∈ vs) → wipe σ2 vs = wipe σ vs) → W σ2)
    (k : ∀ H' ρ' us, H' D0 = some (.lst (acc ++ us)) → Ex ρ (hid H D0) ρ' (hid H' D0) → SRel G ρ' (hid H' D0) M' → RepL G ρ' (hid H' D0) zs us → Nx H') :
    gT G.K t tk v σ H fun σ2 H2 => W σ2 ∧ tCond G C cond σ2 H2 fun b H3 =>
      if b = true then tEH G C e σ2 H3 fun y H4 => ∃ acc, H4 D0 = some (.lst acc) ∧ acc.length < sizeLine ∧ Nx (upd H4 D0 (.lst (acc ++ [y]))) else Nx H3 := by
  unfold turnE at hf
  obtain ⟨s', m1, h1, hf⟩ := bnd_inv hf
  obtain ⟨s'', h2, h3⟩ := lft_inv h1
  cases h3
  obtain ⟨b, m2, h4, hf⟩ := bnd_inv hf
  obtain ⟨σ2, er2, hw, hg⟩ := bind_ok ht h2 hx er (hid_le (H := H) (D := D0))
  refine hg _ ⟨hW σ2 hw, ?_⟩
  have main : ∀ H3 ρ3, H3 D0 = some (.lst acc) → Ex ρ (hid H D0) ρ3 (hid H3 D0) → SRel G ρ3 (hid H3 D0) m2 → (if b = true then tEH G C e σ2 H3 fun y H4 => ∃ acc, H4 D0 = some (.lst acc) ∧ acc.length < sizeLine ∧ Nx (upd H4 D0 (.lst (acc ++ [y]))) else Nx H3) := by
    intro H3 ρ3 hD3 x3 sr3
    cases b with
    | true =>
      rw [if_pos rfl] at hf ⊢
      obtain ⟨y, m3, h5, h6⟩ := bnd_inv hf
      cases h6
      refine ⟨D0, acc, ρ3, s', m2, y, _, hD3, sr3, er2.ext x3, h5, fun w H4 hD4 ⟨ρ4, x4, sr4, rep4⟩ => ⟨acc, hD4, ?_, k _ ρ4 [w] upd_same ?_ ?_ ?_⟩⟩
      · simp only [List.length_singleton] at hz; omega
      · rw [hid_upd]; exact x3.trans x4
      · rw [hid_upd]; exact sr4
      · rw [hid_upd]; exact .cons rep4 .nil
    | false =>
      rw [if_neg Bool.false_ne_true] at hf ⊢
      cases hf
      exact k H3 ρ3 [] (by rw [List.append_nil]; exact hD3) x3 sr3 .nil
  unfold tCond
  split at h4
  · rename_i hn
    cases h4
    rw [if_pos hn]
    exact main H ρ hD Ex.refl sr
  · rename_i hn
    rw [if_neg hn]
    obtain ⟨d, m3, h5, h6⟩ := bnd_inv h4
    obtain ⟨b', h7, h8⟩ := lft_inv h6
    cases h8
    exact ⟨D0, acc, ρ, s', _, d, _, b, hD, sr, er2, h5, h7, fun H3 hD3 ⟨ρ3, x3, sr3⟩ => main H3 ρ3 hD3 x3 sr3⟩
end
section
variable {G : Gd} {C : Cfg} {ρ1 : List Addr} {H1 : Hp} {D0 : Addr} {f : D → Mem → Rs (List D)} {ts : List (Mem → Option D)} {fin : Mem → Bool} {ys : List D} {M1 M2 : Mem} {J : It}
/-- the state at turn i: what has been made, what is still to come -/
def LoopP (G : Gd) (ρ1 : List Addr) (Hv1 : Hp) (D0 : Addr) (f : D → Mem → Rs (List D)) (ts : List (Mem → Option D)) (fin : Mem → Bool) (pre : List V) (ys : List D) (M2 : Mem) (i : Nat) (H : Hp) : Prop :=
  ∃ acc ρi Mi don rest, H D0 = some (.lst (pre ++ acc)) ∧ Ex ρ1 Hv1 ρi (hid H D0) ∧ SRel G ρi (hid H D0) Mi ∧ RepL G ρi (hid H D0) don acc ∧ compT f fin (ts.drop i) Mi = some (rest, M2) ∧ don ++ rest = ys
def TurnP (G : Gd) (ρ1 : List Addr) (H1 : Hp) (D0 : Addr) (f : D → Mem → Rs (List D)) (ts : List (Mem → Option D)) (fin : Mem → Bool) (pre : List V) (ys : List D) (M2 : Mem) (i : Nat) (v : V) (H' : Hp) : Prop :=
  ∃ (acc : List V) (ρi : List Addr) (Mi : Mem) (x : D) (zs : List D) (Mi' : Mem), H' D0 = some (.lst acc) ∧ acc.length + zs.length ≤ sizeLine ∧ Ex ρ1 H1 ρi (hid H' D0) ∧ SRel G ρi (hid H' D0) Mi ∧ Rep G ρi (hid H' D0) x v ∧ f x Mi = some (zs, Mi') ∧
      ∀ H3 ρ3 us, H3 D0 = some (.lst (acc ++ us)) → Ex ρi (hid H' D0) ρ3 (hid H3 D0) → SRel G ρ3 (hid H3 D0) Mi' → RepL G ρ3 (hid H3 D0) zs us → LoopP G ρ1 H1 D0 f ts fin pre ys M2 (i + 1) H3
theorem loop_turn {pre : List V} (hz : pre.length + ys.length ≤ sizeLine) (g : Goes G J ρ1 H1 ts fin) {i : Nat} {H : Hp} (hi : i < ts.length) (p : LoopP G ρ1 H1 D0 f ts fin pre ys M2 i H) :
    J.go i H ∧ ∀ v H', J.yld i H v H' → TurnP G ρ1 H1 D0 f ts fin pre ys M2 i v H' := by
  obtain ⟨acc, ρi, Mi, don, rest, hD, x1, sr, rl, e1, rfl⟩ := p
  rw [List.drop_eq_getElem_cons hi] at e1
  simp only [compT] at e1
  obtain ⟨x, m1, e2, e3⟩ := bnd_inv e1
  obtain ⟨x', e4, e5⟩ := lft_inv e2
  cases e5
  obtain ⟨zs, m2, e6, e7⟩ := bnd_inv e3
  obtain ⟨rs, m3, e8, e9⟩ := bnd_inv e7
  cases e9
  obtain ⟨go, gy⟩ := g.go ρi (hid H D0) H _ i _ x x1 sr hid_le (List.getElem?_eq_getElem hi) e4
  refine ⟨go, fun v H' y => ?_⟩
  have fin2 : ∀ (H' : Hp), H' D0 = some (.lst (pre ++ acc)) → Ex ρi (hid H D0) ρi (hid H' D0) → SRel G ρi (hid H' D0) Mi → Rep G ρi (hid H' D0) x v → TurnP G ρ1 H1 D0 f ts fin pre (don ++ (zs ++ rs)) M2 i v H' := fun H' hD' x2 sr2 hx => by
    refine ⟨pre ++ acc, ρi, Mi, x, zs, m2, hD', ?_, x1.trans x2, sr2, hx, e6, fun H3 ρ3 us hD3 x3 sr3 r3 => ⟨acc ++ us, ρ3, m2, don ++ zs, rs, by rw [hD3, List.append_assoc], (x1.trans x2).trans x3, sr3, (rl.ext (x2.trans x3)).app r3, e8, by rw [List.append_assoc]⟩⟩
    have := rl.len
    simp only [List.length_append] at hz ⊢
    omega
  rcases gy v H' y with ⟨rfl, hx⟩ | ⟨T, w, hT, rfl, hx⟩
  · exact fin2 _ hD Ex.refl sr hx
  · have ne : T ≠ D0 := fun z => by subst z; rw [hD] at hT; cases hT
    have hT' : hid H D0 T = none := by rw [hid_ne ne]; exact hT
    refine fin2 _ (by rw [upd_ne (Ne.symm ne)]; exact hD) ?_ ?_ ?_
    · rw [hid_ins ne]; exact Ex.laid hT'
    · rw [hid_ins ne]; exact sr.laid hT'
    · rw [hid_ins ne]; exact hx
theorem loop_end {pre : List V} (g : Goes G J ρ1 H1 ts fin) {H : Hp} (p : LoopP G ρ1 H1 D0 f ts fin pre ys M2 ts.length H) :
    J.stop ts.length H ∧ ∃ acc ρi, H D0 = some (.lst (pre ++ acc)) ∧ Ex ρ1 H1 ρi (hid H D0) ∧ SRel G ρi (hid H D0) M2 ∧ RepL G ρi (hid H D0) ys acc := by
  obtain ⟨acc, ρi, Mi, don, rest, hD, x1, sr, rl, e1, rfl⟩ := p
  rw [List.drop_length] at e1
  simp only [compT] at e1
  split at e1
  · rename_i hf
    cases e1
    rw [List.append_nil]
    exact ⟨g.stop ρi (hid H D0) H _ x1 sr hid_le hf, acc, ρi, hD, x1, sr, rl⟩
  · cases e1
end
end Dn

set_option Elab.async false
set_option linter.all false
set_option maxRecDepth 100000
set_option maxHeartbeats 4000000
/-! Dn, part S: comprehensions, whole. -/
namespace Dn
open PySem PySem.Spec PyProof.Rows L2
theorem wipe_twice {σ : L2.St} {vs : List Nat} : wipe (wipe σ vs) vs = wipe σ vs := by
  apply List.ext_getElem?
  intro j
  by_cases q : j ∈ vs
  · by_cases hl : j < σ.length
    · rw [wipe_in q (by rw [wipe_length]; exact hl), wipe_in q hl]
    · rw [List.getElem?_eq_none (by rw [wipe_length, wipe_length]; omega), List.getElem?_eq_none (by rw [wipe_length]; omega)]
  · rw [wipe_out q]
section
variable {G : Gd} {C : Cfg} {ρ : List Addr} {H : Hp} {se : En} {σ : L2.St} {M M1 M2 : Mem} {xs ys : List D} {q : Src} {it : ItK} {src cond e : IR} {t : List Nat} {tk : Bool} {vs : List Nat} {Q : VK}
def Ready (G : Gd) (ρ : List Addr) (H : Hp) (M2 : Mem) (ys : List D) (Q : VK) : Prop := ∀ D H' ρ' acc, H' D = some (.lst acc) → Ex ρ H ρ' (hid H' D) → SRel G ρ' (hid H' D) M2 → RepL G ρ' (hid H' D) ys acc → Q (.ref D) H'
theorem ready_new {k : Bool} {d : D} {M' : Mem} (e : newL k ys M2 = some (d, M')) : Ready G ρ H M2 ys (GotQ G ρ H M' d) := fun D H' ρ' acc hD x sr rl => by
  have := newL_got e x sr rl D hid_self
  rwa [hid_back hD] at this
theorem comp_read (ht : tk = true ∨ ∃ i, t = [i]) (h1 : ∀ i ∈ t, i ∈ vs) (h2 : ∀ i ∈ vs, i ∈ t) (sr : SRel G ρ H M) (er : ERel G ρ H se σ) (e1 : evs C src se M = some (xs, M1)) (e2 : itD it xs M1 = some q)
    (e3 : compGo (turnE C t tk cond e (wipeE se t)) q M1 = some (ys, M2)) (r : Ready G ρ H M2 ys Q) : tLc (tIt G C it src) (gT G.K t tk) (tCond G C cond) (tEH G C e) vs σ H Q := by
  rw [compGo_eq] at e3
  refine ⟨ρ, se, M, xs, M1, q, sr, er, e1, e2, fun J ρ1 H1 x1 sr1 g D hD => ?_⟩
  have hz : ([] : List V).length + ys.length ≤ sizeLine := by
    have z1 := comp_len (fun _ _ _ _ => turn_len) e3
    have z2 := g.sz
    simp only [List.length_nil]
    omega
  refine ⟨fun i m H => m = (thunks q).length - i ∧ i ≤ (thunks q).length ∧ LoopP G ρ1 H1 D (turnE C t tk cond e (wipeE se t)) (thunks q) (finM q) [] ys M2 i H, ⟨_, rfl, Nat.zero_le _, ?_⟩, ?_⟩
  · refine ⟨[], ρ1, M1, [], ys, upd_same, ?_, ?_, .nil, e3, rfl⟩
    · rw [hid_upd, hid_none hD]; exact Ex.refl
    · rw [hid_upd, hid_none hD]; exact sr1
  · rintro i m H2 ⟨rfl, hi, p⟩
    by_cases hlt : i < (thunks q).length
    · obtain ⟨go, gy⟩ := loop_turn hz g hlt p
      refine .inr ⟨go, LoopP G ρ1 H1 D (turnE C t tk cond e (wipeE se t)) (thunks q) (finM q) [] ys M2 (i + 1), fun H' p' => ⟨(thunks q).length - (i + 1), by omega, rfl, hlt, p'⟩, fun v H' y => ?_⟩
      obtain ⟨acc, ρi, Mi, x, zs, Mi', hD', hz', x2, sr2, hx, hf, k⟩ := gy v H' y
      exact turn_ok ht hf hD' sr2 (((er.ext x1).ext x2).wipe h2) hx hz' (fun σ2 hw => by rw [hw vs h1]; exact wipe_twice) k
    · have : i = (thunks q).length := by omega
      subst this
      obtain ⟨st, acc, ρi, hD', x2, sr2, rl⟩ := loop_end g p
      exact .inl ⟨st, r D H2 ρi acc hD' (x1.trans x2) sr2 rl⟩
/-- the turn of the first clause -/
def turnO (C : Cfg) (t : List Nat) (tk : Bool) (it' : ItK) (src' : IR) (t' : List Nat) (tk' : Bool) (cond e : IR) (s : En) (x : D) (M : Mem) : Rs (List D) := bnd (lft (bindT t tk x s) M) fun s' M =>
  bnd (evs C src' s' M) fun xs M => bnd (lft (itD it' xs M) M) fun q' M => compGo (turnE C t' tk' cond e (wipeE s' t')) q' M
theorem comp2_read {it' : ItK} {src' : IR} {t' : List Nat} {tk' : Bool} {vs1 : List Nat} (ht : tk = true ∨ ∃ i, t = [i]) (ht' : tk' = true ∨ ∃ i, t' = [i]) (h1 : ∀ i ∈ t, i ∈ vs) (h2 : ∀ i ∈ vs, i ∈ t ++ t') (h3 : ∀ i ∈ t', i ∈ vs1) (h4 : ∀ i ∈ vs1, i ∈ t')
    (sr : SRel G ρ H M) (er : ERel G ρ H se σ) (e1 : evs C src se M = some (xs, M1)) (e2 : itD it xs M1 = some q)
    (e3 : compGo (turnO C t tk it' src' t' tk' cond e (wipeE se (t ++ t'))) q M1 = some (ys, M2)) (hz : ys.length ≤ sizeLine) (r : Ready G ρ H M2 ys Q) :
    tLc2 (tIt G C it src) (gT G.K t tk) tYes (tItH G C it' src') (gT G.K t' tk') (tCond G C cond) (tEH G C e) vs vs1 σ H Q := by
  rw [compGo_eq] at e3
  refine ⟨ρ, se, M, xs, M1, q, sr, er, e1, e2, fun J ρ1 H1 x1 sr1 g D hD => ?_⟩
  have hz : ([] : List V).length + ys.length ≤ sizeLine := by
    simp only [List.length_nil]
    omega
  refine ⟨fun i m H => m = (thunks q).length - i ∧ i ≤ (thunks q).length ∧ LoopP G ρ1 H1 D (turnO C t tk it' src' t' tk' cond e (wipeE se (t ++ t'))) (thunks q) (finM q) [] ys M2 i H, ⟨_, rfl, Nat.zero_le _, ?_⟩, ?_⟩
  · refine ⟨[], ρ1, M1, [], ys, upd_same, ?_, ?_, .nil, e3, rfl⟩
    · rw [hid_upd, hid_none hD]; exact Ex.refl
    · rw [hid_upd, hid_none hD]; exact sr1
  · rintro i m H2 ⟨rfl, hi, p⟩
    by_cases hlt : i < (thunks q).length
    · obtain ⟨go, gy⟩ := loop_turn hz g hlt p
      refine .inr ⟨go, LoopP G ρ1 H1 D (turnO C t tk it' src' t' tk' cond e (wipeE se (t ++ t'))) (thunks q) (finM q) [] ys M2 (i + 1), fun H' p' => ⟨(thunks q).length - (i + 1), by omega, rfl, hlt, p'⟩, fun v H' y => ?_⟩
      obtain ⟨acc, ρi, Mi, x, zs, Mi', hD', hz', x2, sr2, hx, hf, k⟩ := gy v H' y
      unfold turnO at hf
      obtain ⟨s', m1, f1, hf⟩ := bnd_inv hf
      obtain ⟨s'', f2, f3⟩ := lft_inv f1
      cases f3
      obtain ⟨xs', m2, f4, hf⟩ := bnd_inv hf
      obtain ⟨q', m3, f5, hf⟩ := bnd_inv hf
      obtain ⟨q'', f6, f7⟩ := lft_inv f5
      cases f7
      rw [compGo_eq] at hf
      obtain ⟨σ2, er2, hw, hg⟩ := bind_ok ht f2 hx (((er.ext x1).ext x2).wipe h2) (hid_le (H := H') (D := D))
      refine hg _ ⟨by rw [hw vs h1]; exact wipe_twice, ?_⟩
      show tItH G C it' src' σ2 H' _
      refine ⟨D, acc, ρi, s', _, xs', _, q', hD', sr2, er2, f4, f6, fun J1 ρ2 H4 hD4 x4 sr4 g4 => ?_⟩
      refine ⟨fun j m H => m = (thunks q').length - j ∧ j ≤ (thunks q').length ∧ LoopP G ρ2 (hid H4 D) D (turnE C t' tk' cond e (wipeE s' t')) (thunks q') (finM q') acc zs Mi' j H, ⟨_, rfl, Nat.zero_le _, ?_⟩, ?_⟩
      · exact ⟨[], ρ2, _, [], zs, by rw [List.append_nil]; exact hD4, Ex.refl, sr4, .nil, hf, rfl⟩
      · rintro j m H5 ⟨rfl, hj, p5⟩
        by_cases hlt5 : j < (thunks q').length
        · obtain ⟨go5, gy5⟩ := loop_turn hz' g4 hlt5 p5
          refine .inr ⟨go5, LoopP G ρ2 (hid H4 D) D (turnE C t' tk' cond e (wipeE s' t')) (thunks q') (finM q') acc zs Mi' (j + 1), fun H' p' => ⟨(thunks q').length - (j + 1), by omega, rfl, hlt5, p'⟩, fun v6 H6 y6 => ?_⟩
          obtain ⟨acc6, ρ6, M6, x6, zs6, M6', hD6, hz6, xx6, sr6, hx6, hf6, k6⟩ := gy5 v6 H6 y6
          exact turn_ok ht' hf6 hD6 sr6 (((er2.ext x4).ext xx6).wipe h4) hx6 hz6 (fun σ3 hw3 => by rw [hw3 vs1 h3]; exact wipe_twice) k6
        · have : j = (thunks q').length := by omega
          subst this
          obtain ⟨st, acc5, ρ5, hD5, x5, sr5, rl5⟩ := loop_end g4 p5
          exact .inl ⟨st, k H5 ρ5 acc5 hD5 (x4.trans x5) sr5 rl5⟩
    · have : i = (thunks q).length := by omega
      subst this
      obtain ⟨st, acc, ρi, hD', x2, sr2, rl⟩ := loop_end g p
      exact .inl ⟨st, r D H2 ρi acc hD' (x1.trans x2) sr2 rl⟩
end
section
variable {X : Cx} {G : Gd} {C : Cfg} {elt tg iter tg1 iter1 : Expr} {ifs : List Expr} {pos : Pos} {scope : Scope} {own : List (Str × Nat)} {it it' : ItK} {src src' cond e : IR} {t t' : List Nat} {tk tk' : Bool}
/-- the block's contexts -/
abbrev BX (X : Cx) (scope : Scope) (P : Cx → Prop) : Prop := ∀ (s : Shared) (H : Hp) (Cd : Addr) (cl : List (Str × Addr)) (fp : List Addr), P (X.blk s H scope (compEnvC scope cl Cd X.env) fp)
def notSet : Expr → Bool
  | .Set _ _ _ => false
  | _ => true
theorem not_set {e : Expr} (h : notSet e = true) (env : Env) (x : Value) : foldedSetIterable e env x = pure x := by
  unfold foldedSetIterable
  split
  · cases h
  · rfl
structure CompOk (X : Cx) (G : Gd) (C : Cfg) (elt tg iter : Expr) (ifs : List Expr) (scope : Scope) (own : List (Str × Nat)) (t : List Nat) (tk : Bool) (it : ItK) (src cond e : IR) : Prop where
  nd : X.N.Nodup
  ok : BlkOk X.N X.env.scope scope own
  t1 : ∀ i ∈ t, i ∈ own.map (·.2)
  t2 : ∀ i ∈ own.map (·.2), i ∈ t
  hi : PI X tg iter (tIt G C it src)
  hg : BX X scope fun X' => TgOk X' tg t tk
  hc : BX X scope fun X' => CondOk X' G C ifs cond
  he : BX X scope fun X' => SE X' G C elt e
  hs : notSet iter = true
theorem TgOk.sh {X : Cx} (h : TgOk X tg t tk) : tk = true ∨ ∃ i, t = [i] := by
  unfold TgOk at h
  cases tk with
  | true => exact .inl rfl
  | false =>
    rw [if_neg Bool.false_ne_true] at h
    obtain ⟨i, h, _⟩ := h
    exact .inr ⟨i, h⟩
theorem CompOk.sh (h : CompOk X G C elt tg iter ifs scope own t tk it src cond e) : tk = true ∨ ∃ i, t = [i] := (h.hg X.s_0 X.H_0 0 [] []).sh
theorem CompOk.pe (xo : XO X G C) (h : CompOk X G C elt tg iter ifs scope own t tk it src cond e) : PE X (.ListComp elt [⟨tg, iter, ifs, 0⟩] scope pos) (tLc (tIt G C it src) (gT G.K t tk) (tCond G C cond) (tEH G C e) (own.map (·.2))) := by
  rw [← xo.K]
  exact pe_lc xo.calm h.nd h.hi h.ok (fun s H Cd cl fp => (h.hg s H Cd cl fp).pg (X := X.blk s H scope (compEnvC scope cl Cd X.env) fp) xo.calm h.nd) (fun s H Cd cl fp => (h.hc s H Cd cl fp).pts) (fun s H Cd cl fp => (h.he s H Cd cl fp).pH) (not_set h.hs X.env)
theorem ev_comp {C : Cfg} {k : Bool} {se : En} {M M' : Mem} {d : D} (h : ev C (.comp k t tk it src cond e) se M = some (d, M')) :
    ∃ xs M1 q ys M2, evs C src se M = some (xs, M1) ∧ itD it xs M1 = some q ∧ compGo (turnE C t tk cond e (wipeE se t)) q M1 = some (ys, M2) ∧ newL k ys M2 = some (d, M') := by
  simp only [ev] at h
  obtain ⟨xs, M1, h1, h⟩ := bnd_inv h
  obtain ⟨q, m2, h2, h⟩ := bnd_inv h
  obtain ⟨q', h3, h4⟩ := lft_inv h2
  cases h4
  obtain ⟨ys, M2, h5, h6⟩ := bnd_inv h
  exact ⟨xs, _, q, ys, M2, h1, h3, h5, h6⟩
theorem se_comp (xo : XO X G C) {k : Bool} (h : CompOk X G C elt tg iter ifs scope own t tk it src cond e) : SE X G C (.ListComp elt [⟨tg, iter, ifs, 0⟩] scope pos) (.comp k t tk it src cond e) := by
  refine .plain xo.toXC (fun _ => rfl) fun pins s σ H ρ se M d M' I sr er e1 => ?_
  obtain ⟨xs, M1, q, ys, M2, f1, f2, f3, f4⟩ := ev_comp e1
  exact go_pe (h.pe xo) I (comp_read h.sh h.t1 h.t2 sr er f1 f2 f3 (ready_new f4))
structure Comp2Ok (X : Cx) (G : Gd) (C : Cfg) (elt tg iter tg1 iter1 : Expr) (ifs : List Expr) (scope : Scope) (own : List (Str × Nat)) (t : List Nat) (tk : Bool) (it : ItK) (src : IR) (t' : List Nat) (tk' : Bool) (it' : ItK) (src' cond e : IR) : Prop where
  nd : X.N.Nodup
  ok : BlkOk X.N X.env.scope scope own
  t1 : ∀ i ∈ t, i ∈ own.map (·.2)
  t3 : ∀ i ∈ t', i ∈ own.map (·.2)
  t2 : ∀ i ∈ own.map (·.2), i ∈ t ++ t'
  hi : PI X tg iter (tIt G C it src)
  hg : BX X scope fun X' => TgOk X' tg t tk
  hi1 : BX X scope fun X' => PI X' tg1 iter1 (tIt G C it' src')
  hg1 : BX X scope fun X' => TgOk X' tg1 t' tk'
  hc : BX X scope fun X' => CondOk X' G C ifs cond
  he : BX X scope fun X' => SE X' G C elt e
  hs : notSet iter = true
  hs1 : notSet iter1 = true
theorem Comp2Ok.pe (xo : XO X G C) (h : Comp2Ok X G C elt tg iter tg1 iter1 ifs scope own t tk it src t' tk' it' src' cond e) :
    PE X (.ListComp elt [⟨tg, iter, [], 0⟩, ⟨tg1, iter1, ifs, 0⟩] scope pos) (tLc2 (tIt G C it src) (gT G.K t tk) tYes (tItH G C it' src') (gT G.K t' tk') (tCond G C cond) (tEH G C e) (own.map (·.2)) t') := by
  rw [← xo.K]
  exact pe_lc2 xo.calm h.nd h.hi h.ok h.t3 (fun s H Cd cl fp => (h.hg s H Cd cl fp).pg (X := X.blk s H scope (compEnvC scope cl Cd X.env) fp) xo.calm h.nd) (fun s H Cd cl fp => pts_nil) (fun s H Cd cl fp => pi_hid (h.hi1 s H Cd cl fp))
    (fun s H Cd cl fp => (h.hg1 s H Cd cl fp).pg (X := X.blk s H scope (compEnvC scope cl Cd X.env) fp) xo.calm h.nd) (fun s H Cd cl fp => (h.hc s H Cd cl fp).pts) (fun s H Cd cl fp => (h.he s H Cd cl fp).pH) (not_set h.hs X.env) (fun env => not_set h.hs1 env)
theorem ev_comp2 {C : Cfg} {k : Bool} {se : En} {M M' : Mem} {d : D} (h : ev C (.comp2 k t tk it src t' tk' it' src' cond e) se M = some (d, M')) :
    ∃ xs M1 q ys M2, evs C src se M = some (xs, M1) ∧ itD it xs M1 = some q ∧ compGo (turnO C t tk it' src' t' tk' cond e (wipeE se (t ++ t'))) q M1 = some (ys, M2) ∧ ys.length ≤ sizeLine ∧ newL k ys M2 = some (d, M') := by
  simp only [ev] at h
  obtain ⟨xs, M1, h1, h⟩ := bnd_inv h
  obtain ⟨q, m2, h2, h⟩ := bnd_inv h
  obtain ⟨q', h3, h4⟩ := lft_inv h2
  cases h4
  obtain ⟨ys, M2, h5, h6⟩ := bnd_inv h
  obtain ⟨ys', M3, h7, h8⟩ := bnd_inv h6
  obtain ⟨zs, h9, h10⟩ := lft_inv h7
  cases h10
  obtain ⟨hz, rfl⟩ := fitL_some h9
  exact ⟨xs, _, q, ys, _, h1, h3, h5, hz, h8⟩
theorem se_comp2 (xo : XO X G C) {k : Bool} (h : Comp2Ok X G C elt tg iter tg1 iter1 ifs scope own t tk it src t' tk' it' src' cond e) : SE X G C (.ListComp elt [⟨tg, iter, [], 0⟩, ⟨tg1, iter1, ifs, 0⟩] scope pos) (.comp2 k t tk it src t' tk' it' src' cond e) := by
  refine .plain xo.toXC (fun _ => rfl) fun pins s σ H ρ se M d M' I sr er e1 => ?_
  obtain ⟨xs, M1, q, ys, M2, f1, f2, f3, hz, f4⟩ := ev_comp2 e1
  exact go_pe (h.pe xo) I (comp2_read (h.hg X.s_0 X.H_0 0 [] []).sh (h.hg1 X.s_0 X.H_0 0 [] []).sh h.t1 h.t2 (fun _ m => m) (fun _ m => m) sr er f1 f2 f3 hz (ready_new f4))
end
end Dn

set_option Elab.async false
set_option linter.all false
set_option maxRecDepth 100000
set_option maxHeartbeats 4000000
/-! Dn, part T: statements. -/
namespace Dn
open PySem PySem.Spec PyProof.Rows L2
/-- a later moment -/
def Wd (G : Gd) (ρ : List Addr) (H : Hp) (M' : Mem) (se' : En) (σ' : L2.St) (H' : Hp) : Prop := ∃ ρ', Ex ρ H ρ' H' ∧ SRel G ρ' H' M' ∧ ERel G ρ' H' se' σ'
theorem Wd.up {G : Gd} {ρ ρ1 : List Addr} {H H1 : Hp} {M' : Mem} {se' : En} {σ' : L2.St} {H' : Hp} (x : Ex ρ H ρ1 H1) (w : Wd G ρ1 H1 M' se' σ' H') : Wd G ρ H M' se' σ' H' := let ⟨ρ', y, a, b⟩ := w; ⟨ρ', x.trans y, a, b⟩
def FlP (G : Gd) (ρ : List Addr) (H : Hp) (M' : Mem) (fl : Fl) : Ends where
  nx := fun σ' H' => ∃ se', fl = .nx se' ∧ Wd G ρ H M' se' σ' H'
  rt := fun v H' => ∃ d, fl = .rt d ∧ GotQ G ρ H M' d v H'
  bk := fun σ' H' => ∃ se', fl = .bk se' ∧ Wd G ρ H M' se' σ' H'
  ct := fun σ' H' => ∃ se', fl = .ct se' ∧ Wd G ρ H M' se' σ' H'
def FlN (E : Ends) (N : L2.St → Hp → Prop) : Ends := { E with nx := N, ct := N, bk := E.nx }
structure Imp (E D : Ends) : Prop where
  nx : ∀ σ H, E.nx σ H → D.nx σ H
  rt : ∀ v H, E.rt v H → D.rt v H
  bk : ∀ σ H, E.bk σ H → D.bk σ H
  ct : ∀ σ H, E.ct σ H → D.ct σ H
theorem Imp.sp {X : Cx} {pins : List (Addr × Obj)} {E D : Ends} (i : Imp E D) {f : Flow} {s : Shared} (h : SP X pins E f s) : SP X pins D f s := by
  cases f with
  | next => obtain ⟨σ', H', I, q⟩ := h; exact ⟨σ', H', I, i.nx _ _ q⟩
  | brk => obtain ⟨σ', H', I, q⟩ := h; exact ⟨σ', H', I, i.bk _ _ q⟩
  | cont => obtain ⟨σ', H', I, q⟩ := h; exact ⟨σ', H', I, i.ct _ _ q⟩
  | ret u => obtain ⟨v, σ', H', I, r, q⟩ := h; exact ⟨v, σ', H', I, r, i.rt _ _ q⟩
theorem flp_up {G : Gd} {ρ ρ1 : List Addr} {H H1 : Hp} {M' : Mem} {fl : Fl} (x : Ex ρ H ρ1 H1) : Imp (FlP G ρ1 H1 M' fl) (FlP G ρ H M' fl) :=
  ⟨fun _ _ ⟨se', e, w⟩ => ⟨se', e, w.up x⟩, fun _ _ ⟨d, e, g⟩ => ⟨d, e, g.up x⟩, fun _ _ ⟨se', e, w⟩ => ⟨se', e, w.up x⟩, fun _ _ ⟨se', e, w⟩ => ⟨se', e, w.up x⟩⟩
structure SS (X : Cx) (G : Gd) (C : Cfg) (st : Stmt) (i : SR) : Prop where
  v : ∀ (pins : List (Addr × Obj)) (s : Shared) (σ : L2.St) (H : Hp) (ρ : List Addr) (se : En) (M : Mem) (fl : Fl) (M' : Mem), Inv X pins σ H s → SRel G ρ H M → ERel G ρ H se σ → evS C i se M = some (fl, M') →
    wpAny (model X.prog X.w) X.A (exec st X.env) (SP X pins (FlP G ρ H M' fl)) X.xe s
structure SSs (X : Cx) (G : Gd) (C : Cfg) (sts : List Stmt) (i : SR) : Prop where
  v : ∀ (pins : List (Addr × Obj)) (s : Shared) (σ : L2.St) (H : Hp) (ρ : List Addr) (se : En) (M : Mem) (fl : Fl) (M' : Mem), Inv X pins σ H s → SRel G ρ H M → ERel G ρ H se σ → evS C i se M = some (fl, M') →
    wpAny (model X.prog X.w) X.A (execs sts X.env) (SP X pins (FlP G ρ H M' fl)) X.xe s
def tSS (G : Gd) (C : Cfg) (i : SR) : TS := fun D σ H => ∃ ρ se M fl M', SRel G ρ H M ∧ ERel G ρ H se σ ∧ evS C i se M = some (fl, M') ∧ Imp (FlP G ρ H M' fl) D
/-- targets -/
def tTg (G : Gd) (C : Cfg) (t : TG) : L2.TG := fun v σ H Q => ∃ ρ se M d se' M', SRel G ρ H M ∧ ERel G ρ H se σ ∧ Rep G ρ H d v ∧ asgT C t d se M = some (se', M') ∧ ∀ σ' H', Wd G ρ H M' se' σ' H' → Q σ' H'
def tTgs (G : Gd) (C : Cfg) (t : TG) : L2.TGs := fun vs σ H Q => ∃ ρ se M ds se' M', SRel G ρ H M ∧ ERel G ρ H se σ ∧ RepL G ρ H ds vs ∧ asgTs C t ds se M = some (se', M') ∧ ∀ σ' H', Wd G ρ H M' se' σ' H' → Q σ' H'
section
variable {X : Cx} {G : Gd} {C : Cfg} {e a b c tg : Expr} {es : List Expr} {i ia ib ic : IR} {pos : Pos} {st : Stmt} {sts sts' : List Stmt} {r r' : SR} {ρ : List Addr} {H : Hp} {M : Mem}
theorem SS.ps (h : SS X G C st r) : PS X st (tSS G C r) := ⟨fun pins s σ H D I ⟨ρ, se, M, fl, M', sr, er, e, im⟩ => thn (h.v pins s σ H ρ se M fl M' I sr er e) fun f s' q => im.sp q⟩
theorem SSs.pss (h : SSs X G C sts r) : PSs X sts (tSS G C r) := ⟨fun pins s σ H D I ⟨ρ, se, M, fl, M', sr, er, e, im⟩ => thn (h.v pins s σ H ρ se M fl M' I sr er e) fun f s' q => im.sp q⟩
theorem wd0 {se : En} {σ : L2.St} (sr : SRel G ρ H M) (er : ERel G ρ H se σ) : Wd G ρ H M se σ H := ⟨ρ, Ex.refl, sr, er⟩

/-! ### targets -/
def Nm (X : Cx) (x : Str) (i : Nat) : Prop := X.N[i]? = some x ∧ Loc X.env.scope x ∧ (X.fn x = true ∨ X.env.scope.names.lookup x = some .local)
theorem tg_v (hN : X.N.Nodup) {x : Str} {j : Nat} (h : Nm X x j) : PG X (.Name x pos) (tTg G C (.v j)) := by
  refine ⟨fun pins s σ H v u Q I rv ⟨ρ, se, M, d, se', M', sr, er, rep, e1, q⟩ => ?_⟩
  simp only [asgT] at e1
  split at e1
  · cases e1
    exact (pg_name hN h.1 h.2.1 h.2.2).run pins s σ H v u Q I rv (q _ _ (wd0 sr (er.set j rep)))
  · cases e1
def notSlice : Expr → Bool
  | .Slice _ _ _ _ => false
  | _ => true
theorem not_slice (h : notSlice b = true) : PlainIx b := fun o i => by cases b <;> first | rfl | (simp [notSlice] at h)
theorem tg_ix (hK : X.K = G.K) (nsl : notSlice b = true) (ha : SE X G C a ia) (hb : SE X G C b ib) : PG X (.Subscript a b pos) (tTg G C (.ix ia ib)) := by
  refine ⟨fun pins s σ H v u Q I rv ⟨ρ, se, M, d, se', M', sr, er, rep, e1, q⟩ => ?_⟩
  simp only [asgT] at e1
  obtain ⟨x, M1, f1, e2⟩ := bnd_inv e1
  obtain ⟨j, M2, f2, e3⟩ := bnd_inv e2
  refine (pg_sub ha.pe hb.pe set_list (fun _ => by cases b <;> first | rfl | (simp [notSlice] at nsl))).run pins s σ H v u Q I rv ⟨ρ, se, M, x, M1, sr, er, f1, fun o H1 ⟨ρ1, x1, sr1, rep1⟩ => ⟨ρ1, se, M1, j, M2, sr1, er.ext x1, f2, fun y H2 ⟨ρ2, x2, sr2, rep2⟩ => ?_⟩⟩
  split at e3
  · rename_i M3 hs
    cases e3
    unfold setIxD at hs
    split at hs
    · rename_i n k
      split at hs
      · rename_i l hm
        split at hs
        · rename_i m hk
          cases hs
          cases rep1 with
          | cell hn =>
            cases rep2
            obtain ⟨a', ha', vs, h1, h2⟩ := sr2.cell hm
            rw [x2.cell hn] at ha'; cases ha'
            have w : Ex ρ2 H2 ρ2 (upd H2 _ (.lst (vs.set m v))) := Ex.write (List.mem_of_getElem? (x2.cell hn))
            refine ⟨_, vs, _, m, rfl, rfl, h1, by rw [← h2.len]; exact hk, q _ _ ⟨ρ2, (x1.trans x2).trans w, sr2.write (x2.cell hn) ⟨_, upd_same, (h2.ext w).set m ((rep.ext (x1.trans x2)).ext w)⟩, ((er.ext x1).ext x2).ext w⟩⟩
        · cases hs
      · cases hs
    · cases hs
  · cases e3
theorem tgs_nil : PGs X [] (tTgs G C .nil) := by
  refine ⟨fun pins s σ H vs us Q I rv ⟨ρ, se, M, ds, se', M', sr, er, rep, e1, q⟩ => ?_⟩
  cases ds with
  | cons d ds => simp only [asgTs] at e1; cases e1
  | nil =>
    simp only [asgTs] at e1
    cases e1
    cases rep
    exact pgs_nil.run pins s σ H [] us Q I rv ⟨rfl, q _ _ (wd0 sr er)⟩
theorem tgs_cons {t u : TG} (ns : notStar a = true) (h1 : PG X a (tTg G C t)) (h2 : PGs X es (tTgs G C u)) : PGs X (a :: es) (tTgs G C (.cons t u)) := by
  refine ⟨fun pins s σ H vs us Q I rv ⟨ρ, se, M, ds, se', M', sr, er, rep, e1, q⟩ => ?_⟩
  cases ds with
  | nil => simp only [asgTs] at e1; cases e1
  | cons d ds =>
    simp only [asgTs] at e1
    obtain ⟨s1, M1, f1, e2⟩ := bnd_inv e1
    cases rep with
    | @cons _ v _ vs h r =>
      refine (pgs_cons h1 h2 ?_).run pins s σ H (v :: vs) us Q I rv ⟨v, vs, rfl, ρ, se, M, d, s1, M1, sr, er, h, f1, fun σ1 H1 ⟨ρ1, x1, sr1, er1⟩ => ?_⟩
      · cases a <;> first | rfl | (simp [notStar] at ns)
      · exact ⟨ρ1, s1, M1, ds, se', M', sr1, er1, r.ext x1, e2, fun σ2 H2 w => q _ _ (w.up x1)⟩
theorem each_ok {env : Env} : ∀ {es : List Expr}, es.all notStar = true → (assignEach es env).length = es.length ∧ (assignEach es env).findIdx? (·.1) = none
  | [], _ => ⟨rfl, rfl⟩
  | e :: es, h => by
    rw [List.all_cons, Bool.and_eq_true] at h
    obtain ⟨h1, h2⟩ := each_ok (env := env) h.2
    have q : assignEach (e :: es) env = (false, assign e env) :: assignEach es env := by cases e <;> first | rfl | (simp [notStar] at h)
    rw [q]
    refine ⟨by simp [h1], ?_⟩
    rw [List.findIdx?_cons, h2]; rfl
def tgLen : TG → Nat
  | .cons _ r => tgLen r + 1
  | _ => 0
theorem tgLen_ok {C : Cfg} : ∀ {t : TG} {ds : List D} {se se' : En} {M M' : Mem}, asgTs C t ds se M = some (se', M') → ds.length = tgLen t
  | .nil, ds, se, se', M, M', h => by
    cases ds with
    | nil => rfl
    | cons d ds => simp only [asgTs] at h; cases h
  | .cons t u, ds, se, se', M, M', h => by
    cases ds with
    | nil => simp only [asgTs] at h; cases h
    | cons d ds =>
      simp only [asgTs] at h
      obtain ⟨s1, M1, _, h2⟩ := bnd_inv h
      simp [tgLen, tgLen_ok h2]
  | .v _, ds, _, _, _, _, h => by simp only [asgTs] at h; cases h
  | .ix _ _, ds, _, _, _, _, h => by simp only [asgTs] at h; cases h
  | .fld _ _, ds, _, _, _, _, h => by simp only [asgTs] at h; cases h
  | .tup _, ds, _, _, _, _, h => by simp only [asgTs] at h; cases h
theorem tg_tup (hK : X.K = G.K) (hc : X.calm = true) {t : TG} {k : Nat} (ns : es.all notStar = true) (hl : es.length = tgLen t) (h : PGs X es (tTgs G C t)) : PG X (.Tuple es k pos) (tTg G C (.tup t)) := by
  refine ⟨fun pins s σ H v u Q I rv ⟨ρ, se, M, d, se', M', sr, er, rep, e1, q⟩ => ?_⟩
  cases d with
  | tup ds =>
    simp only [asgT] at e1
    obtain ⟨ad, vs, rfl, h1, h2⟩ := tup_rep rep
    obtain ⟨g1, g2⟩ := each_ok (env := X.env) ns
    rw [← hK] at h1
    refine (pg_tup hc h (n := es.length) g1 g2).run pins s σ H _ u Q I rv ⟨ad, vs, rfl, h1, ?_, ρ, se, M, ds, se', M', sr, er, h2, e1, q⟩
    rw [← h2.len, tgLen_ok e1, hl]
  | _ => simp only [asgT] at e1; cases e1

/-! ### statements -/
theorem ss_nil : SSs X G C [] .nil := by
  refine ⟨fun pins s σ H ρ se M fl M' I sr er e1 => ?_⟩
  simp only [evS] at e1
  cases e1
  exact wpAny_execs_nil ⟨σ, H, I, se, rfl, wd0 sr er⟩
theorem ss_cons (h1 : SS X G C st r) (h2 : SSs X G C sts r') : SSs X G C (st :: sts) (.seq r r') := by
  refine ⟨fun pins s σ H ρ se M fl M' I sr er e1 => ?_⟩
  simp only [evS] at e1
  obtain ⟨f, M1, f1, e2⟩ := bnd_inv e1
  refine wpAny_execs_cons (thn (h1.v pins s σ H ρ se M f M1 I sr er f1) fun fw s1 q => ?_)
  cases fw with
  | next =>
    obtain ⟨σ1, H1, I1, se1, rfl, ρ1, x1, sr1, er1⟩ := q
    exact thn (h2.v pins s1 σ1 H1 ρ1 se1 M1 fl M' I1 sr1 er1 e2) fun f' s' q' => (flp_up x1).sp q'
  | brk =>
    obtain ⟨σ1, H1, I1, se1, rfl, w⟩ := q
    cases e2
    exact ⟨σ1, H1, I1, se1, rfl, w⟩
  | cont =>
    obtain ⟨σ1, H1, I1, se1, rfl, w⟩ := q
    cases e2
    exact ⟨σ1, H1, I1, se1, rfl, w⟩
  | ret u =>
    obtain ⟨v, σ1, H1, I1, rv, d, rfl, w⟩ := q
    cases e2
    exact ⟨v, σ1, H1, I1, rv, d, rfl, w⟩
theorem ss_pass : SS X G C (.Pass pos) .pass := by
  refine ⟨fun pins s σ H ρ se M fl M' I sr er e1 => ?_⟩
  simp only [evS] at e1
  cases e1
  exact ps_pass.run pins s σ H _ I ⟨se, rfl, wd0 sr er⟩
theorem ss_doc {x : Str} {j : Nat} {p : Pos} : SS X G C (.Expr (.Constant (.str x) j p) pos) .pass := by
  refine ⟨fun pins s σ H ρ se M fl M' I sr er e1 => ?_⟩
  simp only [evS] at e1
  cases e1
  exact ps_doc.run pins s σ H _ I ⟨se, rfl, wd0 sr er⟩
theorem ss_brk : SS X G C (.Break pos) .brk := by
  refine ⟨fun pins s σ H ρ se M fl M' I sr er e1 => ?_⟩
  simp only [evS] at e1
  cases e1
  exact ps_break.run pins s σ H _ I ⟨se, rfl, wd0 sr er⟩
theorem ss_cnt : SS X G C (.Continue pos) .cnt := by
  refine ⟨fun pins s σ H ρ se M fl M' I sr er e1 => ?_⟩
  simp only [evS] at e1
  cases e1
  exact ps_continue.run pins s σ H _ I ⟨se, rfl, wd0 sr er⟩
theorem ss_never : SS X G C st .never := by
  refine ⟨fun pins s σ H ρ se M fl M' I sr er e1 => ?_⟩
  simp only [evS] at e1
  cases e1
theorem sss_never : SSs X G C sts .never := by
  refine ⟨fun pins s σ H ρ se M fl M' I sr er e1 => ?_⟩
  simp only [evS] at e1
  cases e1
theorem ss_ret0 : SS X G C (.Return none pos) .ret0 := by
  refine ⟨fun pins s σ H ρ se M fl M' I sr er e1 => ?_⟩
  simp only [evS] at e1
  cases e1
  exact ps_retN.run pins s σ H _ I ⟨.non, rfl, got0.here sr .non⟩
theorem ss_ret (h : SE X G C e i) : SS X G C (.Return (some e) pos) (.ret i) := by
  refine ⟨fun pins s σ H ρ se M fl M' I sr er e1 => ?_⟩
  simp only [evS] at e1
  obtain ⟨d, M1, f1, e2⟩ := bnd_inv e1
  cases e2
  exact (ps_ret h.pe).run pins s σ H _ I ⟨ρ, se, M, d, _, sr, er, f1, fun v H' g => ⟨d, rfl, g⟩⟩
def notComp : Expr → Bool
  | .ListComp _ _ _ _ => false
  | .SetComp _ _ _ _ => false
  | .DictComp _ _ _ _ _ => false
  | _ => true
theorem not_comp (h : notComp e = true) (t : Option Expr) (l : Nat) (env : Env) : swapsWith e t l env = pure false := by
  cases e <;> first | rfl | (simp [notComp] at h)
theorem ss_ex (hn : notComp e = true) (h : SE X G C e i) : SS X G C (.Expr e pos) (.ex i) := by
  refine ⟨fun pins s σ H ρ se M fl M' I sr er e1 => ?_⟩
  simp only [evS] at e1
  obtain ⟨d, M1, f1, e2⟩ := bnd_inv e1
  cases e2
  exact (ps_expr h.pe (not_comp hn _ _ _)).run pins s σ H _ I ⟨ρ, se, M, d, _, sr, er, f1, fun v H' ⟨ρ', x, sr', _⟩ => ⟨se, rfl, ρ', x, sr', er.ext x⟩⟩
/-- name = e -/
theorem ss_set (hN : X.N.Nodup) {x : Str} {p : Pos} {j : Nat} (hj : Nm X x j) (hs : swapsWith e (some (.Name x p)) pos.line X.env = pure false) (h : SE X G C e i) : SS X G C (.Assign [.Name x p] e pos) (.asg (.v j) i) := by
  refine ⟨fun pins s σ H ρ se M fl M' I sr er e1 => ?_⟩
  simp only [evS] at e1
  obtain ⟨d, M1, f1, e2⟩ := bnd_inv e1
  obtain ⟨s', M2, f2, e3⟩ := bnd_inv e2
  cases e3
  simp only [asgT] at f2
  split at f2
  · cases f2
    exact (ps_set hN hj.1 hj.2.1 h.pe hs hj.2.2).run pins s σ H _ I ⟨ρ, se, M, d, _, sr, er, f1, fun v H' ⟨ρ', x, sr', rep⟩ => ⟨_, rfl, ρ', x, sr', (er.ext x).set j rep⟩⟩
  · cases f2
/-- name = [..] on one line -/
theorem ss_setLc (xo : XO X G C) {elt iter : Expr} {ifs : List Expr} {scope : Scope} {own : List (Str × Nat)} {t : List Nat} {tk k : Bool} {it : ItK} {src cond ei : IR} {p p2 : Pos} {x : Str} {j : Nat} (hj : X.N[j]? = some x) (hx : X.env.scope.names.lookup x = some .local)
    (hs : swapsWith (.ListComp elt [⟨tg, iter, ifs, 0⟩] scope p2) (some (.Name x p)) pos.line X.env = pure true) (h : CompOk X G C elt tg iter ifs scope own t tk it src cond ei) :
    SS X G C (.Assign [.Name x p] (.ListComp elt [⟨tg, iter, ifs, 0⟩] scope p2) pos) (.asg (.v j) (.comp k t tk it src cond ei)) := by
  refine ⟨fun pins s σ H ρ se M fl M' I sr er e1 => ?_⟩
  simp only [evS] at e1
  obtain ⟨d, M1, f1, e2⟩ := bnd_inv e1
  obtain ⟨s', M2, f2, e3⟩ := bnd_inv e2
  cases e3
  simp only [asgT] at f2
  split at f2
  · cases f2
    obtain ⟨xs, m1, q, ys, m2, g1, g2, g3, g4⟩ := ev_comp f1
    have rd := ready_new (G := G) (ρ := ρ) (H := H) g4
    have := ps_setLc (g := gT X.K t tk) (tt := tCond G C cond) (te := tEH G C ei) (pos := p2) (spos := pos) (py := p) xo.calm h.nd hj hx hs h.hi h.ok (fun s H Cd cl fp => (h.hg s H Cd cl fp).pg (X := X.blk s H scope (compEnvC scope cl Cd X.env) fp) xo.calm h.nd) (fun s H Cd cl fp => (h.hc s H Cd cl fp).pts) (fun s H Cd cl fp => (h.he s H Cd cl fp).pH) (not_set h.hs X.env)
    rw [xo.K] at this
    refine this.run pins s σ H _ I (comp_read h.sh h.t1 h.t2 sr er g1 g2 g3 fun D H' ρ' acc hD x' sr' rl => ?_)
    obtain ⟨ρ2, x2, sr2, rep2⟩ := rd D H' ρ' acc hD x' sr' rl
    exact ⟨_, rfl, ρ2, x2, sr2, (er.ext x2).set j rep2⟩
  · cases f2
theorem ss_setLc2 (xo : XO X G C) {elt iter tg1 iter1 : Expr} {ifs : List Expr} {scope : Scope} {own : List (Str × Nat)} {t t' : List Nat} {tk tk' k : Bool} {it it' : ItK} {src src' cond ei : IR} {p p2 : Pos} {x : Str} {j : Nat} (hj : X.N[j]? = some x) (hx : X.env.scope.names.lookup x = some .local)
    (hs : swapsWith (.ListComp elt [⟨tg, iter, [], 0⟩, ⟨tg1, iter1, ifs, 0⟩] scope p2) (some (.Name x p)) pos.line X.env = pure true) (h : Comp2Ok X G C elt tg iter tg1 iter1 ifs scope own t tk it src t' tk' it' src' cond ei) :
    SS X G C (.Assign [.Name x p] (.ListComp elt [⟨tg, iter, [], 0⟩, ⟨tg1, iter1, ifs, 0⟩] scope p2) pos) (.asg (.v j) (.comp2 k t tk it src t' tk' it' src' cond ei)) := by
  refine ⟨fun pins s σ H ρ se M fl M' I sr er e1 => ?_⟩
  simp only [evS] at e1
  obtain ⟨d, M1, f1, e2⟩ := bnd_inv e1
  obtain ⟨s', M2, f2, e3⟩ := bnd_inv e2
  cases e3
  simp only [asgT] at f2
  split at f2
  · cases f2
    obtain ⟨xs, m1, q, ys, m2, g1, g2, g3, hz, g4⟩ := ev_comp2 f1
    have rd := ready_new (G := G) (ρ := ρ) (H := H) g4
    have := ps_setLc2 (g := gT X.K t tk) (g1 := gT X.K t' tk') (tt := tYes) (tt1 := tCond G C cond) (te := tEH G C ei) (pos := p2) (spos := pos) (py := p) (vs1 := t') xo.calm h.nd hj hx hs h.hi h.ok h.t3 (fun s H Cd cl fp => (h.hg s H Cd cl fp).pg (X := X.blk s H scope (compEnvC scope cl Cd X.env) fp) xo.calm h.nd) (fun s H Cd cl fp => pts_nil) (fun s H Cd cl fp => pi_hid (h.hi1 s H Cd cl fp))
      (fun s H Cd cl fp => (h.hg1 s H Cd cl fp).pg (X := X.blk s H scope (compEnvC scope cl Cd X.env) fp) xo.calm h.nd) (fun s H Cd cl fp => (h.hc s H Cd cl fp).pts) (fun s H Cd cl fp => (h.he s H Cd cl fp).pH) (not_set h.hs X.env) (fun env => not_set h.hs1 env)
    rw [xo.K] at this
    refine this.run pins s σ H _ I (comp2_read (h.hg X.s_0 X.H_0 0 [] []).sh (h.hg1 X.s_0 X.H_0 0 [] []).sh h.t1 h.t2 (fun _ m => m) (fun _ m => m) sr er g1 g2 g3 hz fun D H' ρ' acc hD x' sr' rl => ?_)
    obtain ⟨ρ2, x2, sr2, rep2⟩ := rd D H' ρ' acc hD x' sr' rl
    exact ⟨_, rfl, ρ2, x2, sr2, (er.ext x2).set j rep2⟩
  · cases f2
/-- target = e, from the left -/
theorem ss_asg {t : TG} (nc : notComp e = true) (hw : swappedStores [tg] e X.env = pure none) (ns : notStar tg = true) (hg : PG X tg (tTg G C t)) (h : SE X G C e i) : SS X G C (.Assign [tg] e pos) (.asg t i) := by
  refine ⟨fun pins s σ H ρ se M fl M' I sr er e1 => ?_⟩
  simp only [evS] at e1
  obtain ⟨d, M1, f1, e2⟩ := bnd_inv e1
  obtain ⟨s', M2, f2, e3⟩ := bnd_inv e2
  cases e3
  have h1 : (assignEach [tg] X.env).map (·.2) = [assign tg X.env] := by cases tg <;> first | rfl | (simp [notStar] at ns)
  exact (ps_asg h.pe hg (not_comp nc _ _ _) hw h1).run pins s σ H _ I ⟨ρ, se, M, d, M1, sr, er, f1, fun v H' ⟨ρ', x, sr', rep⟩ => ⟨ρ', se, M1, d, s', _, sr', er.ext x, rep, f2, fun σ' H2 w => ⟨s', rfl, w.up x⟩⟩⟩
theorem ss_par2 (hc : X.calm = true) (hN : X.N.Nodup) {j k : Nat} {x y : Str} {px py pt pt2 : Pos} {kt k2 : Nat} (hj : X.N[j]? = some x) (hk : X.N[k]? = some y) (hjk : j ≠ k) (hx : X.env.scope.names.lookup x = some .local) (hy : X.env.scope.names.lookup y = some .local)
    (hw : swappedStores [.Tuple [.Name x px, .Name y py] kt pt] (.Tuple [a, b] k2 pt2) X.env = pure (some [x, y])) (h : SEs X G C [a, b] i) : SS X G C (.Assign [.Tuple [.Name x px, .Name y py] kt pt] (.Tuple [a, b] k2 pt2) pos) (.par [j, k] i) := by
  refine ⟨fun pins s σ H ρ se M fl M' I sr er e1 => ?_⟩
  simp only [evS] at e1
  obtain ⟨ds, M1, f1, e2⟩ := bnd_inv e1
  obtain ⟨s', M2, f2, e3⟩ := bnd_inv e2
  obtain ⟨s'', f3, f4⟩ := lft_inv f2
  cases f4
  cases e3
  refine (ps_par hc hN hj hk hjk hx hy h.pa hw rfl).run pins s σ H _ I ⟨ρ, se, M, ds, _, sr, er, f1, fun vs H' ⟨ρ', x1, sr', rep⟩ => ?_⟩
  rcases ds with _ | ⟨d1, _ | ⟨d2, _ | ⟨_, _⟩⟩⟩ <;> simp only [setAll] at f3
  · cases f3
  · split at f3 <;> cases f3
  · split at f3
    · split at f3
      · cases f3
        obtain ⟨v, u, rfl, hv, hu⟩ := repL2 rep
        exact ⟨v, u, rfl, _, rfl, ρ', x1, sr', ((er.ext x1).set j hv).set k hu⟩
      · cases f3
    · cases f3
  · split at f3
    · split at f3 <;> cases f3
    · cases f3
theorem repL3 {ρ : List Addr} {H : Hp} {d1 d2 d3 : D} {vs : List V} (h : RepL G ρ H [d1, d2, d3] vs) : ∃ v u w, vs = [v, u, w] ∧ Rep G ρ H d1 v ∧ Rep G ρ H d2 u ∧ Rep G ρ H d3 w := by
  cases h with
  | cons h1 h => cases h with
    | cons h2 h => cases h with
      | cons h3 h => cases h; exact ⟨_, _, _, rfl, h1, h2, h3⟩
theorem ss_par3 (hc : X.calm = true) (hN : X.N.Nodup) {j k l : Nat} {x y z : Str} {px py pz pt pt2 : Pos} {kt k2 : Nat} {a b c : Expr} (hj : X.N[j]? = some x) (hk : X.N[k]? = some y) (hl : X.N[l]? = some z) (hjk : j ≠ k) (hjl : j ≠ l) (hkl : k ≠ l) (hx : X.env.scope.names.lookup x = some .local) (hy : X.env.scope.names.lookup y = some .local) (hz : X.env.scope.names.lookup z = some .local)
    (hw : swappedStores [.Tuple [.Name x px, .Name y py, .Name z pz] kt pt] (.Tuple [a, b, c] k2 pt2) X.env = pure (some [x, y, z])) (h : SEs X G C [a, b, c] i) : SS X G C (.Assign [.Tuple [.Name x px, .Name y py, .Name z pz] kt pt] (.Tuple [a, b, c] k2 pt2) pos) (.par [j, k, l] i) := by
  refine ⟨fun pins s σ H ρ se M fl M' I sr er e1 => ?_⟩
  simp only [evS] at e1
  obtain ⟨ds, M1, f1, e2⟩ := bnd_inv e1
  obtain ⟨s', M2, f2, e3⟩ := bnd_inv e2
  obtain ⟨s'', f3, f4⟩ := lft_inv f2
  cases f4
  cases e3
  refine (ps_par3 hc hN hj hk hl hjk hjl hkl hx hy hz h.pa hw rfl).run pins s σ H _ I ⟨ρ, se, M, ds, _, sr, er, f1, fun vs H' ⟨ρ', x1, sr', rep⟩ => ?_⟩
  rcases ds with _ | ⟨d1, _ | ⟨d2, _ | ⟨d3, _ | ⟨_, _⟩⟩⟩⟩ <;> simp only [setAll] at f3
  · cases f3
  · split at f3 <;> cases f3
  · split at f3
    · split at f3 <;> cases f3
    · cases f3
  · split at f3
    · split at f3
      · split at f3
        · cases f3
          obtain ⟨v, u, w, rfl, hv, hu, hw'⟩ := repL3 rep
          exact ⟨v, u, w, rfl, _, rfl, ρ', x1, sr', (((er.ext x1).set j hv).set k hu).set l hw'⟩
        · cases f3
      · cases f3
    · cases f3
  · split at f3
    · split at f3
      · split at f3 <;> cases f3
      · cases f3
    · cases f3
theorem ss_if {x y : List Stmt} (hc : SE X G C c ic) (ha : SSs X G C x r) (hb : SSs X G C y r') : SS X G C (.If c x y pos) (.iff ic r r') := by
  refine ⟨fun pins s σ H ρ se M fl M' I sr er e1 => ?_⟩
  simp only [evS] at e1
  obtain ⟨d, M1, f1, e2⟩ := bnd_inv e1
  obtain ⟨t, M2, f2, e3⟩ := bnd_inv e2
  obtain ⟨t', f3, f4⟩ := lft_inv f2
  cases f4
  refine (ps_if hc.pt ha.pss hb.pss).run pins s σ H _ I ⟨ρ, se, M, d, _, t, sr, er, f1, f3, fun H' ⟨_, ρ', x, sr'⟩ => ?_⟩
  cases t with
  | true =>
    rw [if_pos rfl] at e3 ⊢
    exact ⟨ρ', se, _, fl, M', sr', er.ext x, e3, flp_up x⟩
  | false =>
    rw [if_neg Bool.false_ne_true] at e3 ⊢
    exact ⟨ρ', se, _, fl, M', sr', er.ext x, e3, flp_up x⟩
theorem ss_while (hp : PassesOwn (model X.prog X.w) X.A X.env X.xe) {x : List Stmt} (hc : SE X G C c ic) (hb : SSs X G C x r) : SS X G C (.While c x [] pos) (.while_ ic r) := by
  refine ⟨fun pins s σ H ρ se M fl M' I sr er e1 => ?_⟩
  simp only [evS] at e1
  refine (ps_while hp hc.pt hb.pss).run pins s σ H _ I ⟨fun m σ1 H1 => ∃ ρ1 se1 M1, Ex ρ H ρ1 H1 ∧ SRel G ρ1 H1 M1 ∧ ERel G ρ1 H1 se1 σ1 ∧ whGo (fun s M => bnd (ev C ic s M) fun x M => lft (truD M x) M) (fun s M => evS C r s M) m se1 M1 = some (fl, M'), ⟨C.wf, ρ, se, M, Ex.refl, sr, er, e1⟩, ?_⟩
  rintro m σ1 H1 ⟨ρ1, se1, M1, x1, sr1, er1, e2⟩
  cases m with
  | zero => simp only [whGo] at e2; cases e2
  | succ m =>
    simp only [whGo] at e2
    obtain ⟨t, M2, f1, e3⟩ := bnd_inv e2
    obtain ⟨d, M3, f2, f3⟩ := bnd_inv f1
    obtain ⟨t', f4, f5⟩ := lft_inv f3
    cases f5
    refine ⟨ρ1, se1, M1, d, _, t, sr1, er1, f2, f4, fun H2 ⟨_, ρ2, x2, sr2⟩ => ?_⟩
    cases t with
    | false =>
      rw [if_neg Bool.false_ne_true] at e3 ⊢
      cases e3
      exact ⟨se1, rfl, ρ2, x1.trans x2, sr2, er1.ext x2⟩
    | true =>
      rw [if_pos rfl] at e3 ⊢
      obtain ⟨f, M4, g1, e4⟩ := bnd_inv e3
      refine ⟨fun σ' H' => ∃ ρ1 se1 M1, Ex ρ H ρ1 H' ∧ SRel G ρ1 H' M1 ∧ ERel G ρ1 H' se1 σ' ∧ whGo (fun s M => bnd (ev C ic s M) fun x M => lft (truD M x) M) (fun s M => evS C r s M) m se1 M1 = some (fl, M'), fun σ' H' w => ⟨m, Nat.lt_succ_self _, w⟩, ρ2, se1, _, f, M4, sr2, er1.ext x2, g1, ?_⟩
      refine ⟨fun σ' H' ⟨se2, hf, ρ3, x3, sr3, er3⟩ => ?_, fun v H' ⟨d2, hf, g⟩ => ?_, fun σ' H' ⟨se2, hf, ρ3, x3, sr3, er3⟩ => ?_, fun σ' H' ⟨se2, hf, ρ3, x3, sr3, er3⟩ => ?_⟩ <;> subst hf
      · exact ⟨ρ3, se2, M4, (x1.trans x2).trans x3, sr3, er3, e4⟩
      · cases e4; exact ⟨d2, rfl, g.up (x1.trans x2)⟩
      · cases e4; exact ⟨se2, rfl, ρ3, (x1.trans x2).trans x3, sr3, er3⟩
      · exact ⟨ρ3, se2, M4, (x1.trans x2).trans x3, sr3, er3, e4⟩
theorem ss_for (hp : PassesOwn (model X.prog X.w) X.A X.env X.xe) (hc : X.calm = true) {x : List Stmt} {it : ItK} {src : IR} {t : TG} {iter : Expr} (hi : PI X tg iter (tIt G C it src)) (hg : PG X tg (tTg G C t)) (hs : notSet iter = true) (hb : SSs X G C x r) :
    SS X G C (.For tg iter x [] pos) (.loop t it src r) := by
  refine ⟨fun pins s σ H ρ se M fl M' I sr er e1 => ?_⟩
  simp only [evS] at e1
  obtain ⟨xs, M1, f1, e2⟩ := bnd_inv e1
  obtain ⟨q, M2, f2, e3⟩ := bnd_inv e2
  obtain ⟨q', f3, f4⟩ := lft_inv f2
  cases f4
  rw [forGo_eq] at e3
  refine (ps_for hp hc hi hg hb.pss (not_set hs X.env)).run pins s σ H _ I ⟨ρ, se, M, xs, _, q, sr, er, f1, f3, fun J ρ1 H1 x1 sr1 g => ?_⟩
  generalize hbd : (fun x s M => bnd (asgT C t x s M) fun s' M => evS C r s' M) = bd at e3
  refine ⟨fun i m σ' H' => m = (thunks q).length - i ∧ i ≤ (thunks q).length ∧ ∃ ρi sei Mi, Ex ρ1 H1 ρi H' ∧ SRel G ρi H' Mi ∧ ERel G ρi H' sei σ' ∧ forT bd (finM q) ((thunks q).drop i) sei Mi = some (fl, M'), ⟨_, rfl, Nat.zero_le _, ρ1, se, _, Ex.refl, sr1, er.ext x1, e3⟩, ?_⟩
  rintro i m σ2 H2 ⟨rfl, hi', ρi, sei, Mi, x2, sr2, er2, e4⟩
  by_cases hlt : i < (thunks q).length
  · rw [List.drop_eq_getElem_cons hlt] at e4
    simp only [forT] at e4
    obtain ⟨d, m1, g1, e5⟩ := bnd_inv e4
    obtain ⟨d', g2, g3⟩ := lft_inv g1
    cases g3
    obtain ⟨f, m2, g4, e6⟩ := bnd_inv e5
    obtain ⟨go, gy⟩ := g.go ρi H2 H2 _ i _ d x2 sr2 Hle.refl (List.getElem?_eq_getElem hlt) g2
    refine .inr ⟨go, fun σ' H' => ∃ ρi sei Mi, Ex ρ1 H1 ρi H' ∧ SRel G ρi H' Mi ∧ ERel G ρi H' sei σ' ∧ forT bd (finM q) ((thunks q).drop (i + 1)) sei Mi = some (fl, M'), fun σ' H' w => ⟨(thunks q).length - (i + 1), by omega, rfl, hlt, w⟩, fun v H3 y => ?_⟩
    have main : ∀ (H3 : Hp), Ex ρi H2 ρi H3 → SRel G ρi H3 Mi → Rep G ρi H3 d v → tTg G C t v σ2 H3 fun σ4 H4 => tSS G C r (FlN (FlP G ρ H M' fl) fun σ' H' => ∃ ρi sei Mi, Ex ρ1 H1 ρi H' ∧ SRel G ρi H' Mi ∧ ERel G ρi H' sei σ' ∧ forT bd (finM q) ((thunks q).drop (i + 1)) sei Mi = some (fl, M')) σ4 H4 := by
      intro H3 x3 sr3 hd
      rw [← hbd] at g4
      obtain ⟨s5, m5, k1, k2⟩ := bnd_inv g4
      refine ⟨ρi, sei, _, d, s5, m5, sr3, er2.ext x3, hd, k1, fun σ4 H4 ⟨ρ4, x4, sr4, er4⟩ => ⟨ρ4, s5, m5, f, m2, sr4, er4, k2, ?_⟩⟩
      have xx : Ex ρ1 H1 ρ4 H4 := (x2.trans x3).trans x4
      refine ⟨fun σ' H' ⟨se2, hf, ρ5, x5, sr5, er5⟩ => ?_, fun v H' ⟨d2, hf, g⟩ => ?_, fun σ' H' ⟨se2, hf, ρ5, x5, sr5, er5⟩ => ?_, fun σ' H' ⟨se2, hf, ρ5, x5, sr5, er5⟩ => ?_⟩ <;> subst hf
      · exact ⟨ρ5, se2, m2, xx.trans x5, sr5, er5, e6⟩
      · cases e6; exact ⟨d2, rfl, g.up (x1.trans xx)⟩
      · cases e6; exact ⟨se2, rfl, ρ5, (x1.trans xx).trans x5, sr5, er5⟩
      · exact ⟨ρ5, se2, m2, xx.trans x5, sr5, er5, e6⟩
    rcases gy v H3 y with ⟨rfl, hx⟩ | ⟨T, w, hT, rfl, hx⟩
    · exact main _ Ex.refl sr2 hx
    · exact main _ (Ex.laid hT) (sr2.laid hT) hx
  · have : i = (thunks q).length := by omega
    subst this
    rw [List.drop_length] at e4
    simp only [forT] at e4
    split at e4
    · rename_i hf
      cases e4
      exact .inl ⟨g.stop ρi H2 H2 _ x2 sr2 Hle.refl hf, sei, rfl, ρi, x1.trans x2, sr2, er2⟩
    · cases e4

/-! ### self.x = e -/
theorem put_rep (xo : XO X G C) {f : Nat} (hf : f < G.nf) {x : D} {v : V} (hx : Rep G ρ H x v) : ∀ {fs : List (Nat × D)} {vs : List V}, (∀ p ∈ fs, p.1 < G.nf) → RepL G ρ H (fs.map (·.2)) vs →
    ∃ vs', RepL G ρ H ((putN f x fs).map (·.2)) vs' ∧ nmd G ((putN f x fs).map (·.1)) vs' = putF (G.fnm f) v (nmd G (fs.map (·.1)) vs)
  | [], vs, _, r => by
    cases r
    exact ⟨[v], .cons hx .nil, rfl⟩
  | (g, d) :: fs, vs, hg, r => by
    cases r with
    | cons h r =>
      rename_i w vs
      obtain ⟨vs', h1, h2⟩ := put_rep xo hf hx (fun p m => hg p (List.mem_cons_of_mem _ m)) r
      by_cases q : g = f
      · subst q
        refine ⟨v :: vs, ?_, ?_⟩
        · simp only [putN, if_pos, List.map_cons]
          exact .cons hx r
        · simp only [putN, if_pos, List.map_cons]
          show (G.fnm g, v) :: nmd G (fs.map (·.1)) vs = putF (G.fnm g) v ((G.fnm g, w) :: nmd G (fs.map (·.1)) vs)
          simp only [putF, if_pos]
      · refine ⟨w :: vs', ?_, ?_⟩
        · simp only [putN, if_neg q, List.map_cons]
          exact .cons h h1
        · simp only [putN, if_neg q, List.map_cons]
          show (G.fnm g, w) :: nmd G ((putN f x fs).map (·.1)) vs' = putF (G.fnm f) v ((G.fnm g, w) :: nmd G (fs.map (·.1)) vs)
          have ne : ¬ G.fnm g = G.fnm f := fun z => q (xo.fi g f (hg _ List.mem_cons_self) hf z)
          simp only [putF, if_neg ne]
          rw [h2]
theorem ss_fld (xo : XO X G C) {f : Nat} {p : Pos} (nc : notComp e = true) (hf : f < G.nf) (ho : SE X G C a ia) (h : SE X G C e i) : SS X G C (.Assign [.Attribute a (G.fnm f) p] e pos) (.asg (.fld ia f) i) := by
  refine ⟨fun pins s σ H ρ se M fl M' I sr er e1 => ?_⟩
  simp only [evS] at e1
  obtain ⟨d, M1, f1, e2⟩ := bnd_inv e1
  obtain ⟨s', M2, f2, e3⟩ := bnd_inv e2
  cases e3
  simp only [asgT] at f2
  obtain ⟨o, M3, f3, e4⟩ := bnd_inv f2
  split at e4
  · rename_i M4 hs
    cases e4
    refine (ps_fld ho.pe h.pe (not_comp nc _ _ _)).run pins s σ H _ I ⟨ρ, se, M, d, M1, sr, er, f1, fun v H1 ⟨ρ1, x1, sr1, rep1⟩ => ⟨ρ1, se, M1, o, M3, sr1, er.ext x1, f3, fun u H2 ⟨ρ2, x2, sr2, rep2⟩ => ?_⟩⟩
    unfold setFldD at hs
    split at hs
    · rename_i n
      split at hs
      · rename_i c fs hm
        split at hs
        · rename_i k hk
          split at hs
          · rename_i hh
            obtain ⟨h1, h2, h3⟩ := hh
            cases hs
            rw [xo.T] at hk
            cases rep2 with
            | cell hn =>
              obtain ⟨a', ha', dx, vs, h4, rl⟩ := sr2.cell hm
              rw [hn] at ha'; cases ha'
              have all : ∀ p ∈ fs, p.1 < G.nf := fun p hp => xo.fl c k hk _ (by simpa using List.all_eq_true.mp h1 p hp)
              have hfk : f ∈ k.flds := by simpa using h2
              have C1 := xo.cls c k hk
              refine ⟨_, G.ca c, dx, _, rfl, h4, by rw [xo.K]; exact C1.cl, by rw [xo.K]; exact C1.nf f hfk, ?_, ?_⟩
              · show ((fs.map (·.1)).map G.fnm |>.zip vs).length < 1000
                rw [List.length_zip]
                simp only [List.length_map]
                omega
              · have w : Ex ρ2 H2 ρ2 (upd H2 _ (.ins (G.ca c) dx (putF (G.fnm f) v (nmd G (fs.map (·.1)) vs)))) := Ex.write (List.mem_of_getElem? hn)
                obtain ⟨vs', g1, g2⟩ := put_rep xo hf ((rep1.ext x2).ext w) all (rl.ext w)
                refine ⟨_, rfl, ρ2, (x1.trans x2).trans w, sr2.write hn ⟨dx, vs', ?_, g1⟩, ((er.ext x1).ext x2).ext w⟩
                rw [upd_same, g2]
          · cases hs
        · cases hs
      · cases hs
    · cases hs
  · cases e4
end
end Dn

set_option Elab.async false
set_option linter.all false
set_option maxRecDepth 100000
set_option maxHeartbeats 4000000
/-! Dn, part Ta: exceptions: what leaves an expression, a statement. -/
namespace Dn
open PySem PySem.Spec PyProof.Rows L2
/-- what is wished of exceptions, whatever the names hold -/
def TkE (X : Cx) (E : XK) : Prop := L2N.Takes X (fun cls d _ H => E cls d H)
section
variable {G : Gd} {ρ ρ1 : List Addr} {H H1 : Hp} {M M' M'' : Mem} {x x' : Xn}
theorem GotX.up {cls : Value} {d : Option Addr} {H2 : Hp} (y : Ex ρ H ρ1 H1) (g : GotX G ρ1 H1 M' x cls d H2) : GotX G ρ H M' x cls d H2 :=
  let ⟨ρ', k, vs, dd, z, r⟩ := g; ⟨ρ', k, vs, dd, y.trans z, r⟩
theorem exit_gotX {cls : Value} {dd : Option Addr} {H' : Hp} (hl : ρ.length = M.length) (g : GotX G ρ H M' x cls dd H') (e : exitX M.length x M' = some (x', M'')) : GotX G ρ H M'' x' cls dd H' := by
  obtain ⟨ρ1, k, vs, d1, y, sr, hk, hc, hd, hx, rl, hn⟩ := g
  unfold exitX at e
  split at e
  · cases e
    exact ⟨ρ1, k, vs, d1, y, sr, hk, hc, hd, hx, rl, hn⟩
  · split at e
    · rename_i h
      cases e
      obtain ⟨hb, ha, hm⟩ := h
      rw [← hl] at hb ha ⊢
      exact ⟨ρ, k, vs, d1, y.dr, sr.dr y.pre ha, hk, hc, hd, hx, rl.dr y.pre hb, hn⟩
    · cases e
end
/-- an expression that an exception leaves -/
def SX (X : Cx) (G : Gd) (C : Cfg) (e : Expr) (i : IR) : Prop :=
  ∀ (E : XK), TkE X E → ∀ (pins : List (Addr × Obj)) (s : Shared) (σ : L2.St) (H : Hp) (ρ : List Addr) (se : En) (M : Mem) (x : Xn) (M' : Mem), Inv X pins σ H s → SRel G ρ H M → ERel G ρ H se σ → evX C i se M = some (x, M') → (∀ cls d H', GotX G ρ H M' x cls d H' → E cls d H') →
    ∀ (Q : Value → Shared → Prop), wpAny (model X.prog X.w) X.A (eval e X.env) Q X.xe s
def tX (G : Gd) (C : Cfg) (i : IR) (E : XK) : TE := fun σ H _ => ∃ ρ se M x M', SRel G ρ H M ∧ ERel G ρ H se σ ∧ evX C i se M = some (x, M') ∧ ∀ cls d H', GotX G ρ H M' x cls d H' → E cls d H'
theorem SX.pe {X : Cx} {G : Gd} {C : Cfg} {e : Expr} {i : IR} {E : XK} (h : SX X G C e i) (tk : TkE X E) : PE X e (tX G C i E) := ⟨fun pins s σ H Q I ⟨ρ, se, M, x, M', sr, er, e1, q⟩ => h E tk pins s σ H ρ se M x M' I sr er e1 q _⟩
theorem sx_none {X : Cx} {G : Gd} {C : Cfg} {e : Expr} {i : IR} (h : ∀ se M, evX C i se M = none) : SX X G C e i := fun E tk pins s σ H ρ se M x M' I sr er e1 q => by rw [h] at e1; cases e1
section
variable {X : Cx} {G : Gd} {C : Cfg} {F : FnI} {i : Nat} {f : FnD}
theorem callX_arr (K : X.K = G.K) (T : C.T = G.T) (ff : FnF X G C F i f) {n : Nat} {ks : List Nat} {nm : List Str} (sh : Shape G F f n ks nm) {A : Around} (sb : Sub X A) {pins : List (Addr × Obj)} {s : Shared} {σ : L2.St} {H : Hp} {ρ : List Addr} {us : List Value} {vs : List V} {ds : List D} {M : Mem} {x : Xn} {M' : Mem}
    (I : Inv X pins σ H s) (r : Vals vs us) (sr : SRel G ρ H M) (rep : RepL G ρ H ds vs) (hn : ds.length = n) (e : callXC C i ks ds M = some (x, M')) :
    codeAny (model X.prog X.w) A (.call (.ref (G.fa i)) ⟨us.take (n - ks.length), nm.zip (us.drop (n - ks.length))⟩) (CR (L2N.CX X.prog X.w) X.stack X.prog X.w H s (fun _ _ => False) (GotX G ρ H M' x)) s := by
  unfold callXC argsC at e
  rw [T, ff.it] at e
  simp only at e
  cases h : arr f.np f.dflt ks ds with
  | none => rw [h] at e; cases e
  | some full =>
    rw [h] at e
    simp only at e
    obtain ⟨dvs, g1, g2⟩ := ff.dv ρ H
    obtain ⟨fullV, h1, h2⟩ := arr_rel (all2_rep.mpr rep) (all2_rep.mpr g1) h
    obtain ⟨fullU, h3, h4⟩ := arr_rel (all2_vals.mpr r) (all2_vals.mpr g2) h1
    have hl : us.length = n := by rw [← r.length, ← rep.len]; exact hn
    obtain ⟨full2, h5, h6⟩ := sh s us (by rw [← K]; exact I.kIn) hl
    rw [h3] at h5
    cases h5
    exact ff.runx A pins s σ H ρ _ fullU fullV full M x M' sb I h6 (all2_vals.mp h4) sr (all2_rep.mp h2) e
/-- a call's exception goes on -/
theorem outX {E : XK} (tk : TkE X E) {pins : List (Addr × Obj)} {s : Shared} {σ : L2.St} {H : Hp} {E' : XK} (I : Inv X pins σ H s) (hE : ∀ cls d H', E' cls d H' → E cls d H') {r : Result} {s' : Shared} {Q : Value → Shared → Prop}
    : CR (L2N.CX X.prog X.w) X.stack X.prog X.w H s (fun _ _ => False) E' r s' → match r with
      | .ok (.ret v) => Q v s'
      | .ok _ => False
      | .error e => X.xe e s' := by
  intro h
  cases r with
  | error e => exact L2N.passes_call (E := E') tk (fun cls d _ H h => hE cls d H h) pins σ H s e s' I h
  | ok fl =>
    cases fl with
    | ret u => obtain ⟨_, _, _, _, _, _, _, z⟩ := h; exact z.elim
    | next => exact False.elim h
    | brk => exact False.elim h
    | cont => exact False.elim h
end
section
variable {X : Cx} {G : Gd} {C : Cfg} {F : FnI} {i : Nat} {f : FnD} {e a b c : Expr} {es : List Expr} {ia ib ic : IR} {pos : Pos}
theorem sx_call (xc : XC X G C) (hh : X.A.handled = none) (ff : FnF X G C F i f) {x : Str} {p pos : Pos} {es : List Expr} {kws : List Keyword} {ia ib : IR} {ks : List Nat} {n : Nat} (hg : Gl X x) (hm : X.mg x = some (.ref (G.fa i))) (hdb : (x == ("__debug__" : Str)) = false)
    (ns : es.all notStar = true) (nk : (kws.all fun k => k.arg.isSome) = true) (hnil : es = [] → ia = .nil) (ha : SEs X G C es ia) (hb : SKs X G C kws ib) (hlen : es.length + kws.length = n) (hks : ks.length = kws.length) (sh : Shape G F f n ks (kwNames kws))
    (hl : ∀ {se : En} {M M1 : Mem} {xs : List D}, evs C ia se M = some (xs, M1) → xs.length = es.length) (hl2 : ∀ {se : En} {M M1 : Mem} {xs : List D}, evs C ib se M = some (xs, M1) → xs.length = kws.length) :
    SX X G C (.Call (.Name x p) es kws pos) (.call i ks ia ib) := by
  intro E tk pins s σ H ρ se M d M' I sr er e1 hE Q
  simp only [evX] at e1
  obtain ⟨xs, M1, f1, e2⟩ := bnd_inv e1
  obtain ⟨ys, M2, f2, e3⟩ := bnd_inv e2
  have l1 := hl f1
  have l2 := hl2 f2
  refine wpAny_Call_Name_kw (ld_glob I hg hm ?_ hdb)
  refine call_args (first := []) (by rw [xc.K]; exact ff.kp) ns nk hnil ha hb I sr er f1 f2 fun us ws vs zs s2 H2 ρ2 I2 r1 r2 x2 sr2 rep1 rep2 lw => ?_
  have c := callX_arr xc.K xc.T ff sh (Sub.refl xc hh) I2 (r1.append r2) sr2 (rep1.app rep2) (by rw [List.length_append, l1, l2]; exact hlen) e3
  have lu : us.length = es.length := by rw [← r1.length, ← rep1.len]; exact l1
  have e4 : n - ks.length = us.length := by omega
  rw [e4, List.take_left, List.drop_left] at c
  exact wpAny_call (codeAny_mono c fun r s' q => outX tk I2 (fun cls d H' g => hE cls d H' (g.up x2)) q)
theorem sx_smeth (xo : XO X G C) {c g : Nat} {x m : Str} {p apos : Pos} {kws : List Keyword} {ks : List Nat} {F : FnI} {f : FnD} (hg : Gl X x) (hm : X.mg x = some (.ref (G.ca c))) (hdb : (x == ("__debug__" : Str)) = false) (sm : SMeth G.K (G.ca c) m (G.fa g))
    (ff : FnF X G C F g f) (hbs : noSuper (.Name x p) = true) (hline : (apos.endLine == pos.line) = true) (hn : es.length + kws.length < 29)
    (ns : es.all notStar = true) (nk : (kws.all fun k => k.arg.isSome) = true) (hnil : es = [] → ia = .nil) (ha : SEs X G C es ia) (hb : SKs X G C kws ib) (hks : ks.length = kws.length) (sh : Shape G F f (es.length + kws.length) ks (kwNames kws))
    (hl : ∀ {se : En} {M M1 : Mem} {xs : List D}, evs C ia se M = some (xs, M1) → xs.length = es.length) (hl2 : ∀ {se : En} {M M1 : Mem} {xs : List D}, evs C ib se M = some (xs, M1) → xs.length = kws.length) :
    SX X G C (.Call (.Attribute (.Name x p) m apos) es kws pos) (.call g ks ia ib) := by
  intro E tk pins s σ H ρ se M d M' I sr er e1 hE Q
  simp only [evX] at e1
  obtain ⟨xs, M1, f1, e2⟩ := bnd_inv e1
  obtain ⟨ys, M2, f2, e3⟩ := bnd_inv e2
  have l1 := hl f1
  have l2 := hl2 f2
  refine ocall (base_plain hbs X.env) (few_form ns nk hn) hline (ld_glob I hg hm (fun pl => ?_) hdb)
  obtain ⟨q, rest, h1, h2⟩ := sm.at_
  have rd := sm.rd
  have ga := sm.ga
  rw [← xo.K] at rd ga h1 h2
  refine PySem.W.method_cls I.kIn ga (PySem.W.cls_bind I.kIn rd h1 (wpAny_call (PySem.W.sm_get (s := { s with toks := s.toks + 1 }) I.kIn h2 (PySem.W.handed_on rfl ?_))))
  refine call_args (first := []) (by rw [xo.K]; exact ff.kp) ns nk hnil ha hb (I.tok _) sr er f1 f2 fun us ws vs zs s2 H2 ρ2 I2 r1 r2 x2 sr2 rep1 rep2 lw => ?_
  have c := callX_arr xo.K xo.T ff sh (XO.sub xo) I2 (r1.append r2) sr2 (rep1.app rep2) (by rw [List.length_append, l1, l2]) e3
  have lu : us.length = es.length := by rw [← r1.length, ← rep1.len]; exact l1
  have e4 : es.length + kws.length - ks.length = us.length := by omega
  rw [e4, List.take_left, List.drop_left] at c
  exact wpAny_call (codeAny_mono c fun r s' q => outX tk I2 (fun cls d H' g => hE cls d H' (g.up x2)) q)
theorem sx_ometh (xo : XO X G C) {g fi : Nat} {m : Str} {apos : Pos} {kws : List Keyword} {ks : List Nat} {F : FnI} {f : FnD} (hmm : ∀ (c : Nat) (k : ClsD), G.T.cls[c]? = some k → k.meths.lookup fi = some g → Meth G.K (G.ca c) m (G.fa g)) (hu : ∀ (c : Nat) (k : ClsD), G.T.cls[c]? = some k → ∀ g', k.meths.lookup fi = some g' → g' = g) (hnf : ∀ (c : Nat) (k : ClsD), G.T.cls[c]? = some k → k.meths.lookup fi = some g → ∀ q ∈ k.flds, (m == G.fnm q) = false)
    (ff : FnF X G C F g f) (hbs : noSuper a = true) (hline : (apos.endLine == pos.line) = true) (hn : es.length + kws.length < 29)
    (ns : es.all notStar = true) (nk : (kws.all fun k => k.arg.isSome) = true) (hnil : es = [] → ia = .nil) (ho : SE X G C a ic) (ha : SEs X G C es ia) (hb : SKs X G C kws ib) (hks : ks.length = kws.length) (sh : Shape G F f (es.length + kws.length + 1) ks (kwNames kws))
    (hl : ∀ {se : En} {M M1 : Mem} {xs : List D}, evs C ia se M = some (xs, M1) → xs.length = es.length) (hl2 : ∀ {se : En} {M M1 : Mem} {xs : List D}, evs C ib se M = some (xs, M1) → xs.length = kws.length) :
    SX X G C (.Call (.Attribute a m apos) es kws pos) (.ometh fi ks ic ia ib) := by
  intro E tk pins s σ H ρ se M d M' I sr er e1 hE Q
  simp only [evX] at e1
  obtain ⟨o, M0, f0, e1⟩ := bnd_inv e1
  obtain ⟨xs, M1, f1, e2⟩ := bnd_inv e1
  obtain ⟨ys, M2, f2, e3⟩ := bnd_inv e2
  have l1 := hl f1
  have l2 := hl2 f2
  unfold methXC at e3
  cases hmo : methOf C.T fi o with
  | none => rw [hmo] at e3; cases e3
  | some g' =>
    rw [hmo] at e3
    simp only at e3
    cases o <;> simp only [methOf] at hmo <;> try (cases hmo; done)
    rename_i c l
    rw [xo.T] at hmo
    simp only [Option.bind_eq_some_iff] at hmo
    obtain ⟨k, hk, hkm⟩ := hmo
    have := hu c k hk _ hkm
    subst this
    refine ocall (base_plain hbs X.env) (few_form ns nk hn) hline (thn (ho.v pins s σ H ρ se M _ M0 I sr er f0) fun u s1 ⟨y, H1, I1, r1, ρ1, x1, sr1, rep1⟩ pl => ?_)
    cases rep1 with
    | @obj _ _ ad dx vs n hh ee rl =>
      cases r1
      have mt := hmm c k hk hkm
      have hfl : G.flds c = k.flds := by unfold Gd.flds; rw [hk]; rfl
      rw [← xo.K] at mt
      have hlook : (nmd G (G.flds c) vs).lookup m = none := by
        rw [hfl]
        have hq := hnf c k hk hkm
        clear hh ee rl
        revert vs
        generalize k.flds = gs at hq
        induction gs with
        | nil => intro vs; rfl
        | cons g0 gs ih =>
          intro vs
          cases vs with
          | nil => rfl
          | cons v vs =>
            show List.lookup m ((G.fnm g0, v) :: nmd G gs vs) = none
            rw [List.lookup_cons, hq g0 List.mem_cons_self]
            exact ih (fun q h => hq q (List.mem_cons_of_mem _ h))
      refine getmeth_ok I1 hh (by rw [xo.K]; exact (xo.cls c k hk).cl) mt hlook ?_
      refine call_args (first := [.ref ad]) mt.kp ns nk hnil ha hb I1 sr1 (er.ext x1) f1 f2 fun us ws vs2 zs s2 H2 ρ2 I2 r1 r2 x2 sr2 rp1 rp2 lw => ?_
      have hself : Rep G ρ2 H2 (.obj c l) (.ref ad) := (Rep.obj n hh ee rl).ext x2
      have cc := callX_arr xo.K xo.T ff sh (XO.sub xo) I2 (show Vals (V.ref ad :: (vs2 ++ zs)) (Value.ref ad :: (us ++ ws)) from .cons rfl (r1.append r2)) sr2 (.cons hself (rp1.app rp2)) (by
        show (xs ++ ys).length + 1 = _
        rw [List.length_append, l1, l2]) e3
      have lu : us.length = es.length := by rw [← r1.length, ← rp1.len]; exact l1
      have e6 : es.length + kws.length + 1 - ks.length = us.length + 1 := by omega
      rw [e6] at cc
      have c1 : (Value.ref ad :: (us ++ ws)).take (us.length + 1) = Value.ref ad :: us := by
        show _ :: List.take us.length (us ++ ws) = _
        rw [List.take_left]
      have c2 : (Value.ref ad :: (us ++ ws)).drop (us.length + 1) = ws := by
        show List.drop us.length (us ++ ws) = _
        rw [List.drop_left]
      rw [c1, c2] at cc
      exact wpAny_call (codeAny_mono cc fun r s' q => outX tk I2 (fun cls d H' g => hE cls d H' ((g.up x2).up x1)) q)
theorem sx_make (xo : XO X G C) {ci : Nat} {k : ClsD} {F : FnI} {f : FnD} (hk : G.T.cls[ci]? = some k) (mk : Mk G.K (G.ca ci) (G.fa k.init)) (ff : FnF X G C F k.init f) {x : Str} {p : Pos} {kws : List Keyword} {ks : List Nat} (hg : Gl X x) (hm : X.mg x = some (.ref (G.ca ci))) (hdb : (x == ("__debug__" : Str)) = false)
    (ns : es.all notStar = true) (nk : (kws.all fun k => k.arg.isSome) = true) (hnil : es = [] → ia = .nil) (ha : SEs X G C es ia) (hb : SKs X G C kws ib) (hks : ks.length = kws.length) (sh : Shape G F f (es.length + kws.length + 1) ks (kwNames kws))
    (hl : ∀ {se : En} {M M1 : Mem} {xs : List D}, evs C ia se M = some (xs, M1) → xs.length = es.length) (hl2 : ∀ {se : En} {M M1 : Mem} {xs : List D}, evs C ib se M = some (xs, M1) → xs.length = kws.length) :
    SX X G C (.Call (.Name x p) es kws pos) (.make ci ks ia ib) := by
  intro E tk pins s σ H ρ se M d M' I sr er e1 hE Q
  simp only [evX] at e1
  obtain ⟨xs, M1, f1, e2⟩ := bnd_inv e1
  obtain ⟨ys, M2, f2, e3⟩ := bnd_inv e2
  have l1 := hl f1
  have l2 := hl2 f2
  unfold mkXC at e3
  rw [xo.T, hk] at e3
  simp only at e3
  obtain ⟨r, M3, e4, e5⟩ := bnd_inv e3
  refine wpAny_Call_Name_kw (ld_glob I hg hm ?_ hdb)
  refine call_args (first := []) (by rw [xo.K]; exact mk.kp) ns nk hnil ha hb I sr er f1 f2 fun us ws vs zs s2 H2 ρ2 I2 r1 r2 x2 sr2 rep1 rep2 lw => ?_
  have hfx : H2 (s2.heap.objs.size + 1) = none := I2.hok.fresh (Nat.le_succ _)
  have hfd : H2 s2.heap.objs.size = none := I2.hok.fresh (Nat.le_refl _)
  have ne : s2.heap.objs.size ≠ s2.heap.objs.size + 1 := Nat.ne_of_lt (Nat.lt_succ_self _)
  have I3 := Inv.made (C := G.ca ci) I2
  have y1 : Ex ρ2 H2 ρ2 (upd H2 s2.heap.objs.size (.own (s2.heap.objs.size + 1))) := Ex.laid hfd
  have sr3 := sr2.laid (o := .own (s2.heap.objs.size + 1)) hfd
  have hfx' : upd H2 s2.heap.objs.size (.own (s2.heap.objs.size + 1)) (s2.heap.objs.size + 1) = none := by rw [upd_ne ne.symm]; exact hfx
  have y2 := Ex.newCell (ρ := ρ2) (o := .ins (G.ca ci) s2.heap.objs.size []) hfx'
  have sr4 := sr3.newCell (o := .ins (G.ca ci) s2.heap.objs.size []) (u := .ins ci []) hfx' ⟨s2.heap.objs.size, [], upd_same, .nil⟩
  have hself : Rep G (ρ2 ++ [s2.heap.objs.size + 1]) (upd (upd H2 s2.heap.objs.size (.own (s2.heap.objs.size + 1))) (s2.heap.objs.size + 1) (.ins (G.ca ci) s2.heap.objs.size [])) (.cell M2.length) (.ref (s2.heap.objs.size + 1)) := by
    refine .cell ?_
    rw [← sr2.len, List.getElem?_append_right (Nat.le_refl _)]
    simp
  have yy := y1.trans y2
  have c := callX_arr xo.K xo.T ff sh (sub_make xo (G.ca ci) us ((kwNames kws).zip ws)) I3 (show Vals (V.ref (s2.heap.objs.size + 1) :: (vs ++ zs)) (Value.ref (s2.heap.objs.size + 1) :: (us ++ ws)) from .cons rfl (r1.append r2)) sr4 (.cons hself ((rep1.ext yy).app (rep2.ext yy))) (by
    show (xs ++ ys).length + 1 = _
    rw [List.length_append, l1, l2]) e4
  have lu : us.length = es.length := by rw [← r1.length, ← rep1.len]; exact l1
  have e6 : es.length + kws.length + 1 - ks.length = us.length + 1 := by omega
  rw [e6] at c
  have c1 : (Value.ref (s2.heap.objs.size + 1) :: (us ++ ws)).take (us.length + 1) = Value.ref (s2.heap.objs.size + 1) :: us := by
    show _ :: List.take us.length (us ++ ws) = _
    rw [List.take_left]
  have c2 : (Value.ref (s2.heap.objs.size + 1) :: (us ++ ws)).drop (us.length + 1) = ws := by
    show List.drop us.length (us ++ ws) = _
    rw [List.drop_left]
  rw [c1, c2] at c
  refine wpAny_call (make_map (K := X.K) (f := G.fa k.init) I2.kIn (by rw [xo.K]; exact mk.makes) (by rw [xo.K]; exact mk.init) (by rw [xo.K]; exact beq_iff_eq.mp mk.fn) (codeAny_mono c fun r' s' hq' => ?_))
  have hup : ∀ cls d H', GotX G (ρ2 ++ [s2.heap.objs.size + 1]) (upd (upd H2 s2.heap.objs.size (.own (s2.heap.objs.size + 1))) (s2.heap.objs.size + 1) (.ins (G.ca ci) s2.heap.objs.size [])) M3 r cls d H' → E cls d H' := fun cls d H' g =>
    hE cls d H' ((exit_gotX (ρ := ρ2) (M := M2) sr2.len (g.up yy) e5).up x2)
  cases r' with
  | error er => exact L2N.passes_call tk (fun cls d _ H h => hup cls d H h) pins σ _ _ er s' I3 hq'
  | ok fl =>
    cases fl with
    | ret u => obtain ⟨_, _, _, _, _, _, _, z⟩ := hq'; exact z.elim
    | next => exact False.elim hq'
    | brk => exact False.elim hq'
    | cont => exact False.elim hq'
/-- x op y by the class's own operator, left by an exception -/
theorem sx_bin (xo : XO X G C) {op : Bop} (ha : SE X G C a ia) (hb : SE X G C b ib) : SX X G C (.BinOp a (opOf op) b pos) (.bin op ia ib) := by
  intro E tk pins s σ H ρ se M x M' I sr er e1 hE Q
  simp only [evX] at e1
  obtain ⟨dx, M1, f1, e1⟩ := bnd_inv e1
  obtain ⟨dy, M2, f2, e3⟩ := bnd_inv e1
  refine wpAny_BinOp (thn (ha.v pins s σ H ρ se M dx M1 I sr er f1) fun v s1 ⟨x', H1, I1, r1, ρ1, x1, sr1, rep1⟩ => ?_)
  refine thn (hb.v pins s1 σ H1 ρ1 se M1 dy M2 I1 sr1 (er.ext x1) f2) fun u s2 ⟨y', H2, I2, r2, ρ2, x2, sr2, rep2⟩ => ?_
  have hx := rep1.ext x2
  unfold binXC at e3
  cases hf : bopOf C.T op dx with
  | none => rw [hf] at e3; cases e3
  | some f =>
    rw [hf] at e3
    simp only at e3
    split at e3
    · rename_i ok
      have obj : ∃ c l k, dx = .obj c l ∧ G.T.cls[c]? = some k ∧ bopf k op = some f := by
        cases dx with
        | obj c l =>
          simp only [bopOf] at hf
          rw [xo.T] at hf
          simp only [Option.bind_eq_some_iff] at hf
          obtain ⟨k, h1, h2⟩ := hf
          exact ⟨c, l, k, rfl, h1, h2⟩
        | _ => simp only [bopOf] at hf; cases hf
      obtain ⟨c, l, k, rfl, hk, hkf⟩ := obj
      have ok2 : isinOk M2 dy = true := by
        cases dy <;> first | exact ok | rfl
      obtain ⟨fp, O⟩ := (xo.own c k hk).bop op f hkf
      obtain ⟨t, ty, ht⟩ := rep_ty xo.toXC sr2 rep2 ok2
      obtain ⟨P, Z, p, _⟩ := kit_of I2 r2 ty
      have lb : PySem.W.Looks (model X.prog X.w) s2.heap (typeOf u) t := Z.ty _ _ I2.kIn p
      have ht' : t = .ref (G.ca c) ∨ ∃ T, t = .type T ∧ T ∈ (["NoneType", "bool", "int", "str", "tuple", "list", "dict"] : List String) := by
        rcases ht with ⟨ha, rfl, _⟩ | ⟨c', l', rfl, rfl⟩
        · exact .inr ⟨_, rfl, ha⟩
        · simp only [rightOk, beq_iff_eq] at ok
          subst ok
          exact .inl rfl
      cases hx with
      | obj n hh ee rl =>
        cases r1
        obtain ⟨mA, O', _⟩ := ins_get I2.hok hh
        obtain ⟨od, J, _⟩ := O'.look
        obtain ⟨m, Fh⟩ := I2.fr
        have kin := I2.ok.mod.kin
        rw [xo.K] at kin
        refine bin_own Fh kin J lb O ht' ?_
        obtain ⟨F, fd, ff, hbd⟩ := fp.ex
        have cc := ff.runx X.A pins s2 σ H2 ρ2 ⟨[.ref _, u], []⟩ [.ref _, u] _ [_, dy] M2 x M' xo.sub I2 (hbd s2 _ rfl) (show Vals [V.ref _, y'] [Value.ref _, u] from .cons rfl (.cons r2 .nil)) sr2 (.cons (.obj n hh ee rl) (.cons rep2 .nil)) e3
        exact wpAny_call (codeAny_mono cc fun r s' q => outX tk I2 (fun cls d H' g => hE cls d H' ((g.up x2).up x1)) q)
    · cases e3
end
end Dn

set_option Elab.async false
set_option linter.all false
set_option maxRecDepth 100000
set_option maxHeartbeats 4000000
/-! Dn, part Tb: own exceptions made; statements that an exception leaves. -/
namespace Dn
open PySem PySem.Spec PyProof.Rows L2
/-- no name of the machine's own -/
def ndSide (x : Str) : Bool := !(x == ("__debug__" : Str)) && !(x == ("__classdict__" : Str))
/-- what is known of an own exception class with one field -/
structure XcF (K : PySem.W.Frag) (C fI : Addr) (f : Str) : Prop where
  T : OexC K C
  no : PySem.W.findIn K (.ref C) f = some none
  iC : PySem.W.findIn K (.ref C) "__init__" = some (some (.ref fI))
  tI : PySem.W.typeIn K (.ref fI) = some (.type "function")
  fn : ∃ (oc : Value) (od : Option Addr) (name qual : Str) (params : Arguments) (scope : Scope) (dV kV doc pm cdv ct : Value) (an : Option Addr) (osl : Array (Option Value)) (a b : Str) (p1 p2 p3 p4 : Pos),
    K.lookup fI = some ⟨oc, od, .func (PySem.W.fnOf name qual params [.Assign [.Attribute (.Name a p1) f p2] (.Name b p3) p4] scope dV kV doc pm an cdv ct), osl⟩ ∧ PySem.W.codeIn K cdv qual = true ∧ FnScope [a, b] [a, b] scope ∧
    (ndSide a = true ∧ ndSide b = true) ∧ L2.Binds K (PySem.W.fnOf name qual params [.Assign [.Attribute (.Name a p1) f p2] (.Name b p3) p4] scope dV kV doc pm an cdv ct) [a, b] []
def spInit (C : Addr) (f : Str) : Sp := fun vs H Q _ => ∃ a y, vs = [.ref a, y] ∧ H a = some (exo a C none) ∧ ∀ dx, H dx = none → dx ≠ a → Q .non (upd (upd H dx (exd dx [(f, y)])) a (exo a C (some dx)))
theorem XcF.run {K : PySem.W.Frag} {C fI : Addr} {f : Str} (T : XcF K C fI f) (P : Program) (w : World) (mg : Str → Option Value) (base : Heap) : ∃ (fd : FuncData) (a b : Str), FnOk P w K mg base CX0 1 fI fd [a, b] (spInit C f) ∧ L2.Binds K fd [a, b] [] := by
  obtain ⟨oc, od, name, qual, params, scope, dV, kV, doc, pm, cdv, ct, an, osl, a, b, p1, p2, p3, p4, lk, hcd, FS, ⟨n1, n2⟩, hb⟩ := T.fn
  refine ⟨_, a, b, fn_of (N := [a, b]) lk hcd FS (fun vs H Q E h => ?_) (fun A outer s H vs Q E hr h => ?_), hb⟩
  · obtain ⟨_, _, rfl, _⟩ := h
    rfl
  · have va : Vis scope a := (FS.par a (by simp)).elim .inl fun h => .inr (.inl h)
    have vb : Vis scope b := (FS.par b (by simp)).elim .inl fun h => .inr (.inl h)
    simp only [ndSide, Bool.and_eq_true, Bool.not_eq_true'] at n1 n2
    refine ⟨_, pss_one (ps_ost (pe_var (i := 0) rfl va n1.1 n1.2) (pe_var (i := 1) rfl vb n2.1 n2.2)), ?_⟩
    obtain ⟨x, y, rfl, hx, hq⟩ := h
    exact ⟨y, rfl, .ref x, rfl, x, C, rfl, T.T, T.no, .inl ⟨hx, fun dx h1 h2 => hq dx h1 h2⟩⟩
section
variable {X : Cx} {G : Gd} {C : Cfg} {e a b c : Expr} {es : List Expr} {i ia ib ic : IR} {pos : Pos}
/-- X(e), an own exception made where nothing is handled -/
theorem pmk_x {x : Str} {Ca fI : Addr} {f : Str} {ta : TA} {p pos : Pos} (T : XcF X.K Ca fI f) (hr : Room 2 X.A) (hg : Gl X x) (hm : X.mg x = some (.ref Ca)) (hdb : (x == ("__debug__" : Str)) = false) (ns : notStar a = true) (ha : PA X [a] ta) :
    L2N.PMk X (.Call (.Name x p) [a] [] pos) (fun σ H Q => ta σ H fun vs H1 => ∃ y, vs = [y] ∧ ∀ d, H1 d = none → Q (.ref Ca) (some d) (upd H1 d (.xd [(f, y)]))) := by
  intro pins s σ H Q I h
  obtain ⟨nm, q, N, bs, bm, sn, sub, ab, col, dd, k0, k1, k2, k3, k5, hC, hbm⟩ := T.T.cls
  obtain ⟨fd, pa, pb, F1, hbd⟩ := T.run X.prog X.w X.mg X.base
  refine wpAny_Call_Name_kw (ld_glob I hg hm ?_ hdb)
  refine PySem.W.callWith_K (h₀ := X.base) I.ok.mod.kin T.T.kC (thn (ha.run pos pins s σ H _ I h) fun us s1 ⟨vs, H1, I1, r1, y, ev, q1⟩ => ⟨I1.kIn, ?_⟩) (star_cons ns) rfl
  subst ev
  cases r1 with
  | @cons _ u _ _ ry rn =>
    cases rn
    show wpAny _ _ (PySem.call (.ref Ca) [u]) _ _ _
    obtain ⟨hp, g, dr, tk, os⟩ := s1
    have hsz : hp.objs.size ≤ hp.objs.size + 1 := Nat.le_succ _
    have hn : H1 (hp.objs.size + 1) = none := I1.hok.fresh hsz
    have kk : ∀ b o, hp.get? b = some o → ((hp.push (PySem.W.kdv_tup [u])).push (PySem.HandSPX.excO Ca hp.objs.size)).get? b = some o := fun b o z => Heap.get?_push_of_some _ (Heap.get?_push_of_some _ z)
    have hget : ((hp.push (PySem.W.kdv_tup [u])).push (PySem.HandSPX.excO Ca hp.objs.size)).get? (hp.objs.size + 1) = some (PySem.HandSPX.excO Ca hp.objs.size) := by heap_get
    have I2 : Inv X pins σ (upd H1 (hp.objs.size + 1) (exo (hp.objs.size + 1) Ca none)) ⟨(hp.push (PySem.W.kdv_tup [u])).push (PySem.HandSPX.excO Ca hp.objs.size), g, dr, tk, os⟩ :=
      I1.laid (t' := tk) (a := hp.objs.size + 1) (o := exo (hp.objs.size + 1) Ca none) (h' := (hp.push (PySem.W.kdv_tup [u])).push (PySem.HandSPX.excO Ca hp.objs.size)) kk hsz (exo_ok hget)
    have r2 : Vals [V.ref (hp.objs.size + 1), y] [Value.ref (hp.objs.size + 1), u] := .cons rfl (.cons ry .nil)
    have bd := hbd _ [Value.ref (hp.objs.size + 1), u] I2.kIn rfl
    rw [List.append_nil] at bd
    have one : [u].length ≤ sizeLine := by rw [sizeLine_eq]; exact (by decide : 1 ≤ 16777216)
    refine wpAny_call (PySem.HandSPX.call_own F.excBase_ValueError (fun Y => PySem.HandSPX.refsVE_contains Y bm hbm) (I1.kIn _ _ hC) (PySem.W.looks_findIn I1.kIn T.iC) (fun self => PySem.W.bind_fn I1.kIn self T.tI) one
      (codeAny_mono (F1.run _ X.stack _ _ ⟨[Value.ref (hp.objs.size + 1), u], []⟩ _ _ (fun v H2 => v = .non ∧ ∃ d fs, H2 (hp.objs.size + 1) = some (exo (hp.objs.size + 1) Ca (some d)) ∧ H2 d = some (exd d fs) ∧ H1 d = none ∧ Q (.ref Ca) (some d) (upd (del H2 (hp.objs.size + 1)) d (.xd fs))) (fun _ _ _ => False) (hr.make Ca [u] []) (I2.env0.make Ca [u] []) bd r2 ?_) fun r s' hq' => ?_))
    · refine ⟨_, y, rfl, upd_same, fun dx h1 h2 => ⟨rfl, dx, _, upd_same, by rw [upd_ne h2, upd_same], by rw [upd_ne h2] at h1; exact h1, ?_⟩⟩
      have h3 : H1 dx = none := by rw [upd_ne h2] at h1; exact h1
      have eH : upd (del (upd (upd (upd H1 (hp.objs.size + 1) (exo (hp.objs.size + 1) Ca none)) dx (exd dx [(f, y)])) (hp.objs.size + 1) (exo (hp.objs.size + 1) Ca (some dx))) (hp.objs.size + 1)) dx (.xd [(f, y)]) = upd H1 dx (.xd [(f, y)]) := by
        funext z
        by_cases z1 : z = dx
        · subst z1; rw [upd_same, upd_same]
        · rw [upd_ne z1, upd_ne z1]
          by_cases z2 : z = hp.objs.size + 1
          · subst z2; rw [del_same, hn]
          · rw [del_ne z2, upd_ne z2, upd_ne z1, upd_ne z2]
      rw [eH]
      exact q1 dx h3
    · cases r with
      | error er => exact False.elim hq'
      | ok fl =>
        cases fl with
        | ret u2 =>
          obtain ⟨v, H2, os2, bare2, un2, hok2, rv, ev, d, fs, ea, ed, hd1, q2⟩ := hq'
          subst ev
          obtain ⟨h2, g2, d2, t2, os'⟩ := s'
          obtain ⟨t0, G', J, kG, ge, hoe, na⟩ := mk_end0 (d2 := d2) (t2 := t2) I1 hsz kk un2 hok2 os2 bare2 ea ed hd1
          exact ⟨rv, hp.objs.size + 1, _, _, ⟨G', g2, d2, t2, os'⟩, _, .ref Ca, some d, rfl, J, kG, ge, hoe, ⟨rfl, rfl, fun vs e => by cases e; rfl⟩, rfl, rfl, na, rfl, bare2, raises_own T.T.exC T.T.tyC, q2⟩
        | next => exact False.elim hq'
        | brk => exact False.elim hq'
        | cont => exact False.elim hq'
end
/-! ### statements -/
def SSX (X : Cx) (G : Gd) (C : Cfg) (st : Stmt) (i : SR) : Prop :=
  ∀ (E : XK), TkE X E → ∀ (pins : List (Addr × Obj)) (s : Shared) (σ : L2.St) (H : Hp) (ρ : List Addr) (se : En) (M : Mem) (x : Xn) (M' : Mem), Inv X pins σ H s → SRel G ρ H M → ERel G ρ H se σ → evSX C i se M = some (x, M') → (∀ cls d H', GotX G ρ H M' x cls d H' → E cls d H') →
    ∀ (Q : Flow → Shared → Prop), wpAny (model X.prog X.w) X.A (exec st X.env) Q X.xe s
def SSsX (X : Cx) (G : Gd) (C : Cfg) (sts : List Stmt) (i : SR) : Prop :=
  ∀ (E : XK), TkE X E → ∀ (pins : List (Addr × Obj)) (s : Shared) (σ : L2.St) (H : Hp) (ρ : List Addr) (se : En) (M : Mem) (x : Xn) (M' : Mem), Inv X pins σ H s → SRel G ρ H M → ERel G ρ H se σ → evSX C i se M = some (x, M') → (∀ cls d H', GotX G ρ H M' x cls d H' → E cls d H') →
    ∀ (Q : Flow → Shared → Prop), wpAny (model X.prog X.w) X.A (execs sts X.env) Q X.xe s
def tSX (G : Gd) (C : Cfg) (i : SR) (E : XK) : TS := fun _ σ H => ∃ ρ se M x M', SRel G ρ H M ∧ ERel G ρ H se σ ∧ evSX C i se M = some (x, M') ∧ ∀ cls d H', GotX G ρ H M' x cls d H' → E cls d H'
theorem SSsX.pss {X : Cx} {G : Gd} {C : Cfg} {sts : List Stmt} {i : SR} {E : XK} (h : SSsX X G C sts i) (tk : TkE X E) : PSs X sts (tSX G C i E) := ⟨fun pins s σ H D I ⟨ρ, se, M, x, M', sr, er, e1, q⟩ => h E tk pins s σ H ρ se M x M' I sr er e1 q _⟩
/-- nothing goes on -/
def DF : Ends := ⟨fun _ _ => False, fun _ _ => False, fun _ _ => False, fun _ _ => False⟩
theorem sp_no {X : Cx} {pins : List (Addr × Obj)} {f : Flow} {s : Shared} (h : SP X pins DF f s) : False := by
  cases f with
  | next => obtain ⟨_, _, _, q⟩ := h; exact q
  | brk => obtain ⟨_, _, _, q⟩ := h; exact q
  | cont => obtain ⟨_, _, _, q⟩ := h; exact q
  | ret u => obtain ⟨_, _, _, _, _, q⟩ := h; exact q
section
variable {X : Cx} {G : Gd} {C : Cfg} {e a b c tg : Expr} {es : List Expr} {i ia ib ic : IR} {pos : Pos} {st : Stmt} {sts sts' : List Stmt} {r r' : SR}
theorem ssx_none (h : ∀ se M, evSX C r se M = none) : SSX X G C st r := fun E tk pins s σ H ρ se M x M' I sr er e1 q => by rw [h] at e1; cases e1
theorem sssx_none (h : ∀ se M, evSX C r se M = none) : SSsX X G C sts r := fun E tk pins s σ H ρ se M x M' I sr er e1 q => by rw [h] at e1; cases e1
theorem sssx_cons (h1 : SS X G C st r) (h1x : SSX X G C st r) (h2 : SSsX X G C sts r') : SSsX X G C (st :: sts) (.seq r r') := by
  intro E tk pins s σ H ρ se M x M' I sr er e1 hE Q
  simp only [evSX] at e1
  cases hx : evSX C r se M with
  | some y =>
    rw [hx] at e1
    cases e1
    exact wpAny_execs_cons (h1x E tk pins s σ H ρ se M _ _ I sr er hx hE _)
  | none =>
    rw [hx] at e1
    obtain ⟨f, M1, f1, e2⟩ := bnd_inv e1
    refine wpAny_execs_cons (thn (h1.v pins s σ H ρ se M f M1 I sr er f1) fun fw s1 q => ?_)
    cases fw with
    | next =>
      obtain ⟨σ1, H1, I1, se1, rfl, ρ1, x1, sr1, er1⟩ := q
      exact h2 E tk pins s1 σ1 H1 ρ1 se1 M1 x M' I1 sr1 er1 e2 (fun cls d H' g => hE cls d H' (g.up x1)) Q
    | brk => obtain ⟨σ1, H1, I1, se1, rfl, w⟩ := q; cases e2
    | cont => obtain ⟨σ1, H1, I1, se1, rfl, w⟩ := q; cases e2
    | ret u => obtain ⟨v, σ1, H1, I1, rv, d, rfl, w⟩ := q; cases e2
theorem ssx_ret (h : SX X G C e i) : SSX X G C (.Return (some e) pos) (.ret i) := fun E tk pins s σ H ρ se M x M' I sr er e1 hE Q =>
  thn ((ps_ret (pos := pos) (h.pe tk)).run pins s σ H DF I ⟨ρ, se, M, x, M', sr, er, e1, hE⟩) fun f s' q => (sp_no q).elim
theorem ssx_ex (hn : notComp e = true) (h : SX X G C e i) : SSX X G C (.Expr e pos) (.ex i) := fun E tk pins s σ H ρ se M x M' I sr er e1 hE Q =>
  thn ((ps_expr (h.pe tk) (not_comp hn _ _ _)).run pins s σ H DF I ⟨ρ, se, M, x, M', sr, er, e1, hE⟩) fun f s' q => (sp_no q).elim
theorem ssx_if {x y : List Stmt} (hc : SE X G C c ic) (ha : SSsX X G C x r) (hb : SSsX X G C y r') : SSX X G C (.If c x y pos) (.iff ic r r') := by
  intro E tk pins s σ H ρ se M xn M' I sr er e1 hE Q
  simp only [evSX] at e1
  obtain ⟨d, M1, f1, e2⟩ := bnd_inv e1
  obtain ⟨t, M2, f2, e3⟩ := bnd_inv e2
  obtain ⟨t', f3, f4⟩ := lft_inv f2
  cases f4
  refine thn ((ps_if (pos := pos) hc.pt (ha.pss tk) (hb.pss tk)).run pins s σ H DF I ⟨ρ, se, M, d, _, t, sr, er, f1, f3, fun H' ⟨_, ρ', x, sr'⟩ => ?_⟩) fun f s' q => (sp_no q).elim
  cases t with
  | true =>
    rw [if_pos rfl] at e3 ⊢
    exact ⟨ρ', se, _, xn, M', sr', er.ext x, e3, fun cls d H' g => hE cls d H' (g.up x)⟩
  | false =>
    rw [if_neg Bool.false_ne_true] at e3 ⊢
    exact ⟨ρ', se, _, xn, M', sr', er.ext x, e3, fun cls d H' g => hE cls d H' (g.up x)⟩
/-- raise C(e) -/
theorem ssx_raise (xc : XC X G C) (hr : Room 2 X.A) {ci fl : Nat} {k : XcD} {fI : Addr} {x : Str} {p : Pos} (hk : G.T.xcs[ci]? = some k) (hfl : k.flds = [fl]) (T : XcF G.K (G.xa ci) fI (G.fnm fl)) (hg : Gl X x) (hm : X.mg x = some (.ref (G.xa ci))) (hdb : (x == ("__debug__" : Str)) = false)
    (ns : notStar a = true) {l : IR} {pos2 : Pos} (ha : SEs X G C [a] l) : SSX X G C (.Raise (some (.Call (.Name x p) [a] [] pos)) none pos2) (.raise ci l) := by
  intro E tk pins s σ H ρ se M xn M' I sr er e1 hE Q
  simp only [evSX] at e1
  obtain ⟨fs, M1, f1, e2⟩ := bnd_inv e1
  rw [xc.T, hk] at e2
  simp only at e2
  split at e2
  · rename_i hl
    cases e2
    rw [hfl] at hl
    rw [← xc.K] at T
    refine thn ((L2N.ps_raise (pos := pos2) xc.calm tk (pmk_x (p := p) (pos := pos) T hr hg hm hdb ns ha.pa)).run pins s σ H DF I ⟨ρ, se, M, fs, M', sr, er, f1, fun vs H1 ⟨ρ1, x1, sr1, rl⟩ => ?_⟩) fun f s' q => (sp_no q).elim
    rcases fs with _ | ⟨d1, _ | ⟨_, _⟩⟩
    · cases hl
    · cases rl with
      | @cons _ y _ _ h1 h2 =>
        cases h2
        refine ⟨y, rfl, fun dd hd => hE _ _ _ ⟨ρ1, k, [y], dd, x1.trans (Ex.laid hd), sr1.laid hd, hk, rfl, rfl, ?_, .cons (h1.ext (Ex.laid hd)) .nil, by rw [hfl]; rfl⟩⟩
        rw [upd_same, hfl]
        rfl
    · cases hl
  · cases e2
theorem ssx_for (hp : PassesOwn (model X.prog X.w) X.A X.env X.xe) (hc : X.calm = true) {x : List Stmt} {it : ItK} {src : IR} {t : TG} {iter : Expr} (hi : PI X tg iter (tIt G C it src)) (hg : PG X tg (tTg G C t)) (hs : notSet iter = true) (hb : SSs X G C x r) (hx : SSsX X G C x r) :
    SSX X G C (.For tg iter x [] pos) (.loop t it src r) := by
  intro E tk pins s σ H ρ se M xn M' I sr er e1 hE Q
  simp only [evSX] at e1
  obtain ⟨xs, M1, f1, e2⟩ := bnd_inv e1
  obtain ⟨q, M2, f2, e3⟩ := bnd_inv e2
  obtain ⟨q', f3, f4⟩ := lft_inv f2
  cases f4
  have hB : PSs X x (fun D σ H => tSS G C r D σ H ∨ tSX G C r E D σ H) := ⟨fun pins s σ H D I h => h.elim (fun h => hb.pss.run pins s σ H D I h) (fun h => (hx.pss tk).run pins s σ H D I h)⟩
  refine thn ((ps_for (pos := pos) hp hc hi hg hB (not_set hs X.env)).run pins s σ H DF I ⟨ρ, se, M, xs, _, q, sr, er, f1, f3, fun J ρ1 H1 x1 sr1 g => ?_⟩) fun f s' q => (sp_no q).elim
  generalize hbd : (fun x s M => bnd (asgT C t x s M) fun s' M => evS C r s' M) = bd at e3
  generalize hbx : (fun x s M => bnd (asgT C t x s M) fun s' M => evSX C r s' M) = bx at e3
  refine ⟨fun i m σ' H' => m = (thunks q).length - i ∧ i ≤ (thunks q).length ∧ ∃ ρi sei Mi, Ex ρ1 H1 ρi H' ∧ SRel G ρi H' Mi ∧ ERel G ρi H' sei σ' ∧ forX bd bx ((thunks q).drop i) sei Mi = some (xn, M'), ⟨_, rfl, Nat.zero_le _, ρ1, se, _, Ex.refl, sr1, er.ext x1, e3⟩, ?_⟩
  rintro i m σ2 H2 ⟨rfl, hi', ρi, sei, Mi, x2, sr2, er2, e4⟩
  by_cases hlt : i < (thunks q).length
  · rw [List.drop_eq_getElem_cons hlt] at e4
    simp only [forX] at e4
    obtain ⟨d, m1, g1, e5⟩ := bnd_inv e4
    obtain ⟨d', g2, g3⟩ := lft_inv g1
    cases g3
    obtain ⟨go, gy⟩ := g.go ρi H2 H2 _ i _ d x2 sr2 Hle.refl (List.getElem?_eq_getElem hlt) g2
    refine .inr ⟨go, fun σ' H' => ∃ ρi sei Mi, Ex ρ1 H1 ρi H' ∧ SRel G ρi H' Mi ∧ ERel G ρi H' sei σ' ∧ forX bd bx ((thunks q).drop (i + 1)) sei Mi = some (xn, M'), fun σ' H' w => ⟨(thunks q).length - (i + 1), by omega, rfl, hlt, w⟩, fun v H3 y => ?_⟩
    have main : ∀ (H3 : Hp), Ex ρi H2 ρi H3 → SRel G ρi H3 Mi → Rep G ρi H3 d v → tTg G C t v σ2 H3 fun σ4 H4 => (fun D σ H => tSS G C r D σ H ∨ tSX G C r E D σ H) (FlN DF fun σ' H' => ∃ ρi sei Mi, Ex ρ1 H1 ρi H' ∧ SRel G ρi H' Mi ∧ ERel G ρi H' sei σ' ∧ forX bd bx ((thunks q).drop (i + 1)) sei Mi = some (xn, M')) σ4 H4 := by
      intro H3 x3 sr3 hd
      cases hbe : bx d sei Mi with
      | some z =>
        rw [hbe] at e5
        cases e5
        rw [← hbx] at hbe
        obtain ⟨s5, m5, k1, k2⟩ := bnd_inv hbe
        refine ⟨ρi, sei, _, d, s5, m5, sr3, er2.ext x3, hd, k1, fun σ4 H4 ⟨ρ4, x4, sr4, er4⟩ => .inr ⟨ρ4, s5, m5, xn, M', sr4, er4, k2, fun cls dd H' gg => hE cls dd H' (gg.up (x1.trans ((x2.trans x3).trans x4)))⟩⟩
      | none =>
        rw [hbe] at e5
        simp only at e5
        obtain ⟨f, m2, g4, e6⟩ := bnd_inv e5
        rw [← hbd] at g4
        obtain ⟨s5, m5, k1, k2⟩ := bnd_inv g4
        refine ⟨ρi, sei, _, d, s5, m5, sr3, er2.ext x3, hd, k1, fun σ4 H4 ⟨ρ4, x4, sr4, er4⟩ => .inl ⟨ρ4, s5, m5, f, m2, sr4, er4, k2, ?_⟩⟩
        have xx : Ex ρ1 H1 ρ4 H4 := (x2.trans x3).trans x4
        refine ⟨fun σ' H' ⟨se2, hf, ρ5, x5, sr5, er5⟩ => ?_, fun v H' ⟨d2, hf, g⟩ => ?_, fun σ' H' ⟨se2, hf, ρ5, x5, sr5, er5⟩ => ?_, fun σ' H' ⟨se2, hf, ρ5, x5, sr5, er5⟩ => ?_⟩ <;> subst hf
        · exact ⟨ρ5, se2, m2, xx.trans x5, sr5, er5, e6⟩
        · cases e6
        · cases e6
        · exact ⟨ρ5, se2, m2, xx.trans x5, sr5, er5, e6⟩
    rcases gy v H3 y with ⟨rfl, hx⟩ | ⟨T, w, hT, rfl, hx⟩
    · exact main _ Ex.refl sr2 hx
    · exact main _ (Ex.laid hT) (sr2.laid hT) hx
  · have : i = (thunks q).length := by omega
    subst this
    rw [List.drop_length] at e4
    simp only [forX] at e4
    cases e4
end
end Dn

set_option Elab.async false
set_option linter.all false
set_option maxRecDepth 100000
set_option maxHeartbeats 4000000
/-! Dn, part Tc: the law's own sorter of errors, called where one is handled. -/
namespace Dn
open PySem PySem.Spec PyProof.Rows L2
/-! ### the class of a held error -/
section
variable {prog : Program} {w : World} {A : Around} {E : Value → Shared → Prop} {s : Shared} {K : PySem.W.Frag} {x D : Addr} {ox : Obj} {od : Option Obj}
theorem find_data {C : Addr} {name : Str} {a g : Value} (hc : (PySem.W.clsIn K C).isSome = true) (ha : PySem.W.findIn K (.ref C) name = some (some a)) (hg : PySem.W.specialIn K a "__get__" = some (some g)) (ht : PySem.W.takesIn K a = some true) : PySem.W.findObj K C od name = some (.bind g a) := by
  obtain ⟨cd, e⟩ := Option.isSome_iff_exists.mp hc
  simp [PySem.W.findObj, e, ha, hg, ht]
theorem held_cls (c : ExcC K D) (X : K.In s.heap) (I : PySem.W.InstAt s.heap x ox D od) {Q : Option Value → Shared → Prop} (q : Q (some (.ref D)) { s with toks := s.toks + 1 }) : wpAny (model prog w) A (getAttr? (.ref x) "__class__") Q E s := by
  obtain ⟨cdD, hcD, _⟩ := PySem.W.any_some c.hd
  have hcs : (PySem.W.clsIn K D).isSome = true := by rw [hcD]; rfl
  have hf : PySem.W.findObj K D od "__class__" = some (.bind (.builtin "getset_descriptor.__get__") (.builtin "object.__class__")) := find_data hcs c.ha c.hn c.ht
  obtain ⟨hp, g, d, t, os⟩ := s
  have l0 := I.type (M := model prog w)
  have l1 := PySem.W.looks_findIn (M := model prog w) X c.hg
  have l2 := PySem.W.looks_findIn (M := model prog w) X c.hk
  have l3 := PySem.W.looks_find (M := model prog w) X I hf
  have ls : PySem.W.Looks (model prog w) hp (isInstance (.ref x) (.type "BaseException")) true := l0.andThen (PySem.W.looks_subIn X c.hs)
  have e0 : (false && onTheHeap (Value.builtin "BaseException.__getattribute__")) = false := rfl
  have e1 : (onTheHeap (Value.ref D) && Value.builtin "BaseException.__getattribute__" == Value.builtin "object.__getattribute__") = false := by
    rw [show (Value.builtin "BaseException.__getattribute__" == Value.builtin "object.__getattribute__") = false by decide +kernel]
    rfl
  unfold getAttr? getAttrBy? getAttrBy
  refine wpAny_bind (wpAny_mkText (wpAny_bind (wpAny_attempt (wpAny_holding (wpAny_bind (l0.at (wpAny_bind (l1.at ?_))))))))
  show wpAny _ _ (ite ((onTheHeap (Value.ref D) && Value.builtin "BaseException.__getattribute__" == Value.builtin "object.__getattribute__") = true) _ _) _ _ _
  rw [e1, if_neg Bool.false_ne_true]
  unfold getAttrByItsOwn hookBefore
  refine wpAny_bind ?_
  rw [if_pos (show onTheHeap (Value.ref D) = true from rfl)]
  refine l2.at (wpAny_bind (wpAny_attempt (wpAny_holding ?_)))
  unfold callGetattribute
  rw [e0, if_neg Bool.false_ne_true]
  unfold boundAndCalled
  rw [PySem.F.excAttr_ValueError.ga.bind (.ref x)]
  refine wpAny_bind (wpAny_pure (show wpAny _ _ (PySem.call (.builtin "BaseException.__getattribute__") [.ref x, .str "__class__" t]) _ _ _ from ?_))
  refine wpAny_call (codeAny_call_builtin PySem.F.excAttr_ValueError.ga.plain PySem.F.entry_bexc_ga ?_)
  refine @PySem.W.check_slot (model prog w) _ _ ⟨hp, g, d, t + 1, os⟩ "BaseException.__getattribute__" "BaseException" "__getattribute__" (.ref x) [.str "__class__" t] [] _ (by decide +kernel) (by decide +kernel) ls (PySem.F.args_bexc_ga (.ref x) (.str "__class__" t)) ?_
  unfold Builtin.«object.__getattribute__»
  refine wpAny_bind (wpAny_of_eq (a := ((Value.ref x : Value), [Value.str "__class__" t])) (by first | rfl | (simp only [slotArgs]; rfl)) (wpAny_bind (wpAny_pure (wpAny_bind (l0.at (wpAny_bind (l3.at ?_)))))))
  show wpAny _ _ ((holding [Value.builtin "object.__class__"] (PySem.call (.builtin "getset_descriptor.__get__") [.builtin "object.__class__", .ref x, .ref D])) >>= ret) _ _ _
  refine wpAny_bind (wpAny_holding (wpAny_call (PySem.W.class_get (s := ⟨hp, g, d, t + 1, os⟩) (ox := ox) (od := od) X I c.hm (wpAny_pure ?_))))
  show wpAny _ _ (handedOut (.ref D)) _ _ _
  rw [PySem.W.handedOut_of (v := .ref D) rfl]
  first
    | exact wpAny_pure (wpAny_bind (wpAny_pure (wpAny_pure q)))
    | exact wpAny_pure (wpAny_pure q)
    | exact wpAny_pure q
theorem kitX_held (c : ExcC K D) : PySem.W.KitX K (.ref x) (.ref D) (fun h => PySem.W.InstAt h x ox D od) := by
  obtain ⟨cdD, hcD, _⟩ := PySem.W.any_some c.hd
  unfold PySem.W.clsIn at hcD
  split at hcD
  · rename_i c' d' cd' sl' ho
    refine ⟨fun _ _ _ I => I.type, fun _ _ X _ A' Q' E' s' k q => ?_, fun h tp dd its n sl X htp => ?_, fun X I k => held_cls c X I k⟩
    · unfold isType loadHead
      exact wpAny_bind (wpAny_loadPart (k _ _ (X _ _ ho)) (wpAny_pure q))
    · refine Bool.eq_false_iff.mpr fun q => ?_
      have e : D = tp := Value.ref.inj (beq_iff_eq.mp q)
      subst e
      cases (X _ _ ho).symm.trans htp
  · cases hcD
end
/-- isinstance(e, c), e the held error with a dict -/
def rIsX (K : PySem.W.Frag) (D a dd : Addr) : List V → Hp → VK → Prop := fun xs H Q => ∃ (c : V) (cv : Value) (b : Bool) (fs : List (Str × V)), xs = [.ref a, c] ∧ (∀ u, RelV c u → u = cv) ∧ H dd = some (.xd fs) ∧ PySem.W.kitOne K (.ref D) cv = some b ∧ Q (.bl b) H
theorem call_isX {X : Cx} {a D dd : Addr} {oe : Obj} {pn : List (Addr × Obj)} (C : ExcC X.K D) (hz : Zc (.ref D) (some dd) oe) (hf : ∃ vs, oe.data = .fields vs) : CallR (X.suite a ((a, oe) :: pn)) (.builtin "isinstance") (rIsX X.K D a dd) := by
  intro pins s σ H xs us Q I r h
  obtain ⟨c, cv, b, fs, rfl, hcv, hx, e, q⟩ := h
  cases r with
  | cons rx rr =>
    cases rr with
    | cons rt rr =>
      cases rr
      cases rx
      have ec := hcv _ rt
      subst ec
      obtain ⟨hget, _⟩ := I.pin (a, oe) (List.mem_append_left _ List.mem_cons_self)
      obtain ⟨vs, hv⟩ := hf
      have ho : ObjOk X.prog X.w H s.heap dd (.xd fs) := I.hok dd _ hx
      obtain ⟨mA, hns, _⟩ := ho
      obtain ⟨od, hod, _⟩ := lookIn_ns hns
      have J : PySem.W.InstAt s.heap a oe D (some od) := ⟨hget, hz.1, by unfold PySem.W.notCls; rw [hv] <;> rfl, by rw [hz.2]; exact hod⟩
      exact PySem.W.kia_one (kitX_held C) I.kIn J e (fun z => nomatch z) fun tk => ⟨.bl b, H, I.kept (t' := tk) fun _ _ z => z, rfl, q⟩
/-! ### xs.count(y), flat things -/
def rCntF (K : PySem.W.Frag) : V → List V → Hp → VK → Prop := fun x xs H Q => ∃ (a : Addr) (ys : List V) (y : V), x = V.ref a ∧ xs = [y] ∧ SqL K H a ys ∧ flatV y = true ∧ ys.all flatV = true ∧ Q (.int ((ys.countP fun z => eqV z y : Nat) : Int)) H
theorem countP_flat {y : V} : ∀ {ys : List V} {us : List Value}, Vals ys us → ys.all flatV = true → us.countP (eqU y) = ys.countP fun z => eqV z y
  | _, _, .nil, _ => rfl
  | z :: ys, u :: us, .cons r t, f => by
    rw [List.all_cons, Bool.and_eq_true] at f
    rw [List.countP_cons, List.countP_cons, countP_flat t f.2, eqU_of r f.1]
theorem mt_countF {X : Cx} : MtR X "list.count" (rCntF X.K) := by
  intro pins s σ H x xs v us Q I rx rxs h
  obtain ⟨a, ys, y, rfl, rfl, hs, fy, fys, q⟩ := h
  cases rx
  cases rxs with
  | @cons _ uy _ ut ry rt =>
    cases rt
    obtain ⟨its, rv, ⟨⟨cls, dd, data, sl⟩, n, ho, hc, hdn, hd⟩, hlen⟩ := I.list hs
    simp only at hc hd
    subst hc hd
    refine call_meets PySem.F.slot_list_count ⟨_, ho, rfl⟩ PySem.F.entry_list_count (PySem.F.args_list_count_2 _ _) (SeqAt.list_countAt a its.toArray n dd sl uy (eqU y)) ⟨ho, fun u' hu' => mem_eqAt ry fy rv fys u' (by simpa using hu'), ?_⟩
    have ec : its.toArray.toList.countP (eqU y) = ys.countP fun z => eqV z y := countP_flat rv fys
    rw [ec]
    exact ⟨.int ((ys.countP fun z => eqV z y : Nat) : Int), H, I.tok _, ⟨_, rfl⟩, q⟩
/-! ### the sorter's text -/
def atN (p : Nat → Pos) (k : Nat) (x : Str) : Expr := .Name x (p k)
def askIs (p : Nat → Pos) (k : Nat) (t : Str) : Expr := .Call (.Name "isinstance" (p k)) [.Name "_law_e" (p (k + 1)), .Name t (p (k + 2))] [] (p (k + 3))
def sortTx (p : Nat → Pos) : List Stmt :=
  [.Assign [atN p 0 "_law_some"] (.List [askIs p 1 "InvalidNumber", askIs p 5 "InvalidText", askIs p 9 "InvalidFlag"] (p 13)) (p 14),
   .Assign [atN p 15 "_law_some"] (.BinOp (atN p 16 "_law_some") .Add (.List [askIs p 17 "InvalidBlocks", askIs p 21 "InvalidSelectors", askIs p 25 "InvalidPromises"] (p 29)) (p 30)) (p 31),
   .Assign [atN p 32 "_law_some"] (.BinOp (atN p 33 "_law_some") .Add (.List [askIs p 34 "NotPieces", askIs p 38 "NotAReceiver"] (p 42)) (p 43)) (p 44),
   .Assign [atN p 45 "_law_fits"] (.BoolOp .And [askIs p 46 "ValueError", .UnaryOp .Not (askIs p 50 "LookupError") (p 54)] (p 55)) (p 56),
   .Return (some (.IfExp (.BoolOp .And [.Compare (.Call (.Attribute (atN p 57 "_law_some") "count" (p 58)) [.Constant (.bool true) 0 (p 59)] [] (p 60)) [.Eq] [.Constant (.int 1) 0 (p 61)] (p 62), atN p 63 "_law_fits"] (p 64))
     (.Call (.Attribute (atN p 65 "_law_some") "index" (p 66)) [.Constant (.bool true) 0 (p 67)] [] (p 68)) (.UnaryOp .USub (.Constant (.int 1) 0 (p 69)) (p 70)) (p 71))) (p 72)]
def sortPs (p : Nat → Pos) : Bool := ((p 58).endLine == (p 60).line) && ((p 66).endLine == (p 68).line)
def errNs : List Str := ["InvalidNumber", "InvalidText", "InvalidFlag", "InvalidBlocks", "InvalidSelectors", "InvalidPromises", "NotPieces", "NotAReceiver"]
def sortNm : List (Str × NameKind) := [("_law_e", .local), ("_law_some", .local), ("_law_fits", .local), ("isinstance", .globalImplicit), ("InvalidNumber", .globalImplicit), ("InvalidText", .globalImplicit), ("InvalidFlag", .globalImplicit), ("InvalidBlocks", .globalImplicit), ("InvalidSelectors", .globalImplicit), ("InvalidPromises", .globalImplicit), ("NotPieces", .globalImplicit), ("NotAReceiver", .globalImplicit), ("ValueError", .globalImplicit), ("LookupError", .globalImplicit)]
def sortSc : Scope := { kind := .function, names := sortNm, isGenerator := false, isCoroutine := false, more := [] }
theorem sortFS : FnScope ["_law_e", "_law_some", "_law_fits"] ["_law_e"] sortSc := ⟨rfl, rfl, rfl, by decide +kernel, rfl, by decide +kernel, by decide +kernel⟩
/-- what the sorter says of errors of the class at D: j -/
structure SortF (K : PySem.W.Frag) (mg : Str → Option Value) (D : Addr) (j : Nat) : Prop where
  x : ExcC K D
  lt : j < 8
  is : ∀ (i : Nat) (n : Str), errNs[i]? = some n → ∃ c, mg n = some (.ref c) ∧ PySem.W.kitOne K (.ref D) (.ref c) = some (decide (i = j))
  ve : PySem.W.kitOne K (.ref D) (.type "ValueError") = some true
  le : PySem.W.kitOne K (.ref D) (.type "LookupError") = some false
/-- no table is hidden: all but tables stays -/
def Sam (H H' : Hp) : Prop := ∀ b o, H b = some o → H' b = some o
theorem Sam.upd {H H' : Hp} (h : Sam H H') {p : Addr} {o : HO} (hp : H' p = none) : Sam H (upd H' p o) := fun b u e => by rw [upd_ne (ne_of_none (h b u e) hp)]; exact h b u e
section
variable {X0 : Cx} {a D dd : Addr} {oe : Obj} {pn : List (Addr × Obj)} {p : Nat → Pos} {j : Nat}
/-- one question: isinstance(e, n) -/
theorem ask_own (hN : X0.N[0]? = some ("_law_e" : Str)) (hsc : X0.env.scope = sortSc) (S : SortF X0.K X0.mg D j) (hz : Zc (.ref D) (some dd) oe) (hf : ∃ vs, oe.data = .fields vs) (hi : X0.mg "isinstance" = none) {i k : Nat} {n : Str} (hn : errNs[i]? = some n) :
    PE (X0.suite a ((a, oe) :: pn)) (askIs p k n) (fun σ H Q => σ[0]? = some (some (.ref a)) ∧ (∃ fs, H dd = some (.xd fs)) ∧ Q (.bl (decide (i = j))) H) := by
  obtain ⟨c, hc, hk⟩ := S.is i n hn
  have gl : ∀ m ∈ errNs, sortSc.names.lookup m = some .globalImplicit ∧ (m == ("__debug__" : Str)) = false := by decide +kernel
  have hm := List.mem_of_getElem? hn
  refine ⟨fun pins s σ H Q I h => ?_⟩
  obtain ⟨h1, ⟨fs, h2⟩, h3⟩ := h
  exact (pe_callB (call_isX S.x hz hf) (show X0.env.scope.names.lookup ("isinstance" : Str) = _ by rw [hsc]; rfl) hi (by decide +kernel) (pa_cons (pe_var (i := 0) hN (show Vis X0.env.scope "_law_e" by rw [hsc]; exact .inl rfl) rfl rfl) (pa_cons (pe_glob (v := V.ref c) (u := Value.ref c) (show X0.env.scope.names.lookup n = _ by rw [hsc]; exact (gl n hm).1) hc rfl (gl n hm).2) pa_nil))).run pins s σ H Q I ⟨_, h1, V.ref c, Value.ref c, decide (i = j), fs, rfl, fun u r => r, h2, hk, h3⟩
theorem ask_ty (hN : X0.N[0]? = some ("_law_e" : Str)) (hsc : X0.env.scope = sortSc) (S : SortF X0.K X0.mg D j) (hz : Zc (.ref D) (some dd) oe) (hf : ∃ vs, oe.data = .fields vs) (hi : X0.mg "isinstance" = none) {k : Nat} {n : String} {b : Bool} (hg : sortSc.names.lookup (n : Str) = some .globalImplicit) (hm : X0.mg n = none) (hb : bootBuiltins n = some (.type n)) (hn : (n : Str) ≠ "__name__") (hd : ((n : Str) == ("__debug__" : Str)) = false) (hk : PySem.W.kitOne X0.K (.ref D) (.type n) = some b) :
    PE (X0.suite a ((a, oe) :: pn)) (askIs p k n) (fun σ H Q => σ[0]? = some (some (.ref a)) ∧ (∃ fs, H dd = some (.xd fs)) ∧ Q (.bl b) H) := by
  refine ⟨fun pins s σ H Q I h => ?_⟩
  obtain ⟨h1, ⟨fs, h2⟩, h3⟩ := h
  exact (pe_callB (call_isX S.x hz hf) (show X0.env.scope.names.lookup ("isinstance" : Str) = _ by rw [hsc]; rfl) hi (by decide +kernel) (pa_cons (pe_var (i := 0) hN (show Vis X0.env.scope "_law_e" by rw [hsc]; exact .inl rfl) rfl rfl) (pa_cons (pe_bltn (v := .ty n) (show X0.env.scope.names.lookup (n : Str) = _ by rw [hsc]; exact hg) hm hb rfl hn hd) pa_nil))).run pins s σ H Q I ⟨_, h1, V.ty n, Value.type n, b, fs, rfl, fun u r => r, h2, hk, h3⟩
/-- the list of answers -/
def ansL (j lo n : Nat) : List V := (List.range n).map fun i => V.bl (decide (lo + i = j))
theorem cnt_true {j : Nat} (h : j < 8) : ([V.bl (decide (0 = j)), .bl (decide (1 = j)), .bl (decide (2 = j)), .bl (decide (3 = j)), .bl (decide (4 = j)), .bl (decide (5 = j)), .bl (decide (6 = j)), .bl (decide (7 = j))].countP fun z => eqV z (V.bl true)) = 1 := by
  rcases j with _ | _ | _ | _ | _ | _ | _ | _ | j <;> first | rfl | omega
def bools8 (j : Nat) : List V := [V.bl (decide (0 = j)), .bl (decide (1 = j)), .bl (decide (2 = j)), .bl (decide (3 = j)), .bl (decide (4 = j)), .bl (decide (5 = j)), .bl (decide (6 = j)), .bl (decide (7 = j))]
theorem ix_true {j : Nat} (h : j < 8) : (bools8 j)[j]? = some (V.bl true) := by
  rcases j with _ | _ | _ | _ | _ | _ | _ | _ | j <;> first | rfl | omega
theorem ix_none {j : Nat} (h : j < 8) : ∀ (m : Nat) (z : V), m < j → (bools8 j)[m]? = some z → eqV z (V.bl true) = false := by
  intro m z hm hz
  have hm8 : m < 8 := by omega
  have e : (bools8 j)[m]? = some (V.bl false) := by
    rcases m with _ | _ | _ | _ | _ | _ | _ | _ | m <;> first | omega | (show some (V.bl (decide _)) = _; rw [decide_eq_false (by omega)])
  rw [e] at hz
  cases hz
  rfl
theorem flat8 (j : Nat) : (bools8 j).all flatV = true := rfl
def sortN : List Str := ["_law_e", "_law_some", "_law_fits"]
theorem sort_walk (hN : X0.N = sortN) (hsc : X0.env.scope = sortSc) (S : SortF X0.K X0.mg D j) (hz : Zc (.ref D) (some dd) oe) (hf : ∃ vs, oe.data = .fields vs) (hi : X0.mg "isinstance" = none) (hve : X0.mg "ValueError" = none) (hle : X0.mg "LookupError" = none) (hp : sortPs p = true) :
    ∃ t, PSs (X0.suite a ((a, oe) :: pn)) (sortTx p) t ∧ ∀ (Q : VK) (H : Hp), (∃ fs, H dd = some (.xd fs)) → (∀ H', Sam H H' → Q (.int (j : Nat)) H') → t { nx := fun _ H' => Q .non H', rt := Q } (L2.start X0.N [.ref a]) H := by
  have nd : (X0.suite a ((a, oe) :: pn)).N.Nodup := by show X0.N.Nodup; rw [hN]; decide +kernel
  have n0 : X0.N[0]? = some ("_law_e" : Str) := by rw [hN]; rfl
  have n1 : (X0.suite a ((a, oe) :: pn)).N[1]? = some ("_law_some" : Str) := by show X0.N[1]? = _; rw [hN]; rfl
  have n2 : (X0.suite a ((a, oe) :: pn)).N[2]? = some ("_law_fits" : Str) := by show X0.N[2]? = _; rw [hN]; rfl
  have k1 : X0.env.scope.names.lookup ("_law_some" : Str) = some .local := by rw [hsc]; rfl
  have k2 : X0.env.scope.names.lookup ("_law_fits" : Str) = some .local := by rw [hsc]; rfl
  simp only [sortPs, Bool.and_eq_true] at hp
  have some_ : ∀ k, PE (X0.suite a ((a, oe) :: pn)) (atN p k "_law_some") (tVar 1) := fun k => pe_var n1 (.inl k1) rfl rfl
  have fits : ∀ k, PE (X0.suite a ((a, oe) :: pn)) (atN p k "_law_fits") (tVar 2) := fun k => pe_var n2 (.inl k2) rfl rfl
  have Q_ := fun {i k : Nat} {n : Str} (h : errNs[i]? = some n) => ask_own (a := a) (oe := oe) (pn := pn) (p := p) (k := k) n0 hsc S hz hf hi h
  refine ⟨_, pss_cons (ps_set nd n1 (.inl k1) (pe_lst (pa_cons (Q_ (i := 0) rfl) (pa_cons (Q_ (i := 1) rfl) (pa_cons (Q_ (i := 2) rfl) pa_nil)))) rfl (.inr k1))
    (pss_cons (ps_set nd n1 (.inl k1) (pe_op op_cat (some_ _) (pe_lst (pa_cons (Q_ (i := 3) rfl) (pa_cons (Q_ (i := 4) rfl) (pa_cons (Q_ (i := 5) rfl) pa_nil))))) rfl (.inr k1))
    (pss_cons (ps_set nd n1 (.inl k1) (pe_op op_cat (some_ _) (pe_lst (pa_cons (Q_ (i := 6) rfl) (pa_cons (Q_ (i := 7) rfl) pa_nil)))) rfl (.inr k1))
    (pss_cons (ps_set nd n2 (.inl k2) (pe_and (ask_ty (a := a) (n := "ValueError") n0 hsc S hz hf hi rfl hve (by decide +kernel) (by decide +kernel) rfl S.ve) (pe_one (pe_not (ask_ty (a := a) (n := "LookupError") n0 hsc S hz hf hi rfl hle (by decide +kernel) (by decide +kernel) rfl S.le)))) rfl (.inr k2))
    (pss_one (ps_ret (pe_ifExp (PW.pt (pw_and (pt_cmpR op_eq (pe_bm PySem.F.plainAttrs_list PySem.F.slot_list_count PySem.F.type_list_count mt_countF (some_ _) (pa_cons pe_bl pa_nil) rfl rfl hp.1) pe_int rfl) (pw_and1 (pt_val (fits _) (fun _ => rfl)))))
      (pe_bm PySem.F.plainAttrs_list PySem.F.slot_list_index PySem.F.type_list_index mt_index (some_ _) (pa_cons pe_bl pa_nil) rfl rfl hp.2) (pe_un un_neg pe_int))))))), ?_⟩
  intro Q H hx hq
  rw [hN]
  have z3 : 3 ≤ sizeLine := by rw [sizeLine_eq]; exact (by decide : 3 ≤ 16777216)
  have z2 : 2 ≤ sizeLine := by rw [sizeLine_eq]; exact (by decide : 2 ≤ 16777216)
  have z6 : 6 ≤ sizeLine := by rw [sizeLine_eq]; exact (by decide : 6 ≤ 16777216)
  have z8 : 8 ≤ sizeLine := by rw [sizeLine_eq]; exact (by decide : 8 ≤ 16777216)
  have up : ∀ {H' : Hp} {q : Addr} {o : HO}, (∃ fs, H' dd = some (.xd fs)) → H' q = none → ∃ fs, upd H' q o dd = some (.xd fs) := fun {H' q o} ⟨fs, e⟩ h => ⟨fs, by rw [upd_ne (ne_of_none e h)]; exact e⟩
  refine ⟨rfl, hx, rfl, hx, rfl, hx, z3, fun q1 h1 => ?_⟩
  obtain ⟨L1, e1⟩ : ∃ L, L = [V.bl (decide (0 = j)), .bl (decide (1 = j)), .bl (decide (2 = j))] := ⟨_, rfl⟩
  rw [← e1]
  have x1 := up (o := .lst L1) hx h1
  have y1 : upd H q1 (.lst L1) q1 = some (.lst L1) := upd_same
  have t1 : Sam H (upd H q1 (.lst L1)) := Sam.upd (fun _ _ e => e) h1
  generalize upd H q1 (.lst L1) = H1 at *
  refine ⟨_, rfl, rfl, x1, rfl, x1, rfl, x1, z3, fun q2 h2 => ?_⟩
  obtain ⟨L2, e2⟩ : ∃ L, L = [V.bl (decide (3 = j)), .bl (decide (4 = j)), .bl (decide (5 = j))] := ⟨_, rfl⟩
  rw [← e2]
  have x2 := up (o := .lst L2) x1 h2
  have w2 : upd H1 q2 (.lst L2) q1 = some (.lst L1) := by rw [upd_ne (ne_of_none y1 h2)]; exact y1
  have y2 : upd H1 q2 (.lst L2) q2 = some (.lst L2) := upd_same
  have t2 : Sam H (upd H1 q2 (.lst L2)) := t1.upd h2
  generalize upd H1 q2 (.lst L2) = H2 at *
  refine ⟨q1, q2, L1, L2, rfl, rfl, w2, y2, by rw [e1, e2]; exact z6, fun q3 h3 => ?_⟩
  have x3 := up (o := .lst (L1 ++ L2)) x2 h3
  have y3 : upd H2 q3 (.lst (L1 ++ L2)) q3 = some (.lst (L1 ++ L2)) := upd_same
  have t3 : Sam H (upd H2 q3 (.lst (L1 ++ L2))) := t2.upd h3
  generalize upd H2 q3 (.lst (L1 ++ L2)) = H3 at *
  refine ⟨_, rfl, rfl, x3, rfl, x3, z2, fun q4 h4 => ?_⟩
  obtain ⟨L3, e3⟩ : ∃ L, L = [V.bl (decide (6 = j)), .bl (decide (7 = j))] := ⟨_, rfl⟩
  rw [← e3]
  have x4 := up (o := .lst L3) x3 h4
  have w4 : upd H3 q4 (.lst L3) q3 = some (.lst (L1 ++ L2)) := by rw [upd_ne (ne_of_none y3 h4)]; exact y3
  have y4 : upd H3 q4 (.lst L3) q4 = some (.lst L3) := upd_same
  have t4 : Sam H (upd H3 q4 (.lst L3)) := t3.upd h4
  generalize upd H3 q4 (.lst L3) = H4 at *
  refine ⟨q3, q4, L1 ++ L2, L3, rfl, rfl, w4, y4, by rw [e1, e2, e3]; exact z8, fun q5 h5 => ?_⟩
  have eL : L1 ++ L2 ++ L3 = bools8 j := by rw [e1, e2, e3]; rfl
  rw [eL]
  have x5 := up (o := .lst (bools8 j)) x4 h5
  have y5 : upd H4 q5 (.lst (bools8 j)) q5 = some (.lst (bools8 j)) := upd_same
  have t5 : Sam H (upd H4 q5 (.lst (bools8 j))) := t4.upd h5
  generalize upd H4 q5 (.lst (bools8 j)) = H5 at *
  have ec : (1 : Int) = ((bools8 j).countP fun z => eqV z (V.bl true) : Nat) := by rw [show (bools8 j).countP (fun z => eqV z (V.bl true)) = 1 from cnt_true S.lt]; rfl
  refine ⟨rfl, x5, true, rfl, ⟨rfl, x5, false, rfl, ?_⟩⟩
  refine ⟨_, rfl, .inl ⟨rfl, _, SqL.of y5⟩, q5, _, _, rfl, rfl, SqL.of y5, rfl, flat8 j, ?_⟩
  rw [← ec]
  refine ⟨rfl, true, rfl, ⟨_, rfl, true, rfl, ?_⟩⟩
  exact ⟨_, rfl, .inl ⟨rfl, _, SqL.of y5⟩, q5, _, _, j, _, rfl, rfl, SqL.of y5, rfl, flat8 j, ix_true S.lt, rfl, ix_none S.lt, hq _ t5⟩
end
end Dn

set_option Elab.async false
set_option linter.all false
set_option maxRecDepth 100000
set_option maxHeartbeats 4000000
/-! Dn, part Td: the law's catcher. -/
namespace Dn
open PySem PySem.Spec PyProof.Rows L2
/-- the sorter's def -/
structure SrtF (K : PySem.W.Frag) (mg : Str → Option Value) : Prop where
  isi : mg "isinstance" = none
  ve : mg "ValueError" = none
  le : mg "LookupError" = none
  fn : ∃ (g : Addr) (oc : Value) (od : Option Addr) (name qual : Str) (params : Arguments) (dV kV doc pm cdv ct : Value) (an : Option Addr) (osl : Array (Option Value)) (p : Nat → Pos),
    mg "_law_sort" = some (.ref g) ∧ PySem.W.keepIn K (.ref g) = true ∧ K.lookup g = some ⟨oc, od, .func (PySem.W.fnOf name qual params (sortTx p) sortSc dV kV doc pm an cdv ct), osl⟩ ∧ PySem.W.codeIn K cdv qual = true ∧
    L2.Binds K (PySem.W.fnOf name qual params (sortTx p) sortSc dV kV doc pm an cdv ct) ["_law_e"] [] ∧ sortPs p = true
theorem pe_sort {X : Cx} {a D dd : Addr} {oe : Obj} {pn : List (Addr × Obj)} {i j : Nat} {p1 p2 p3 : Pos} (F : SrtF X.K X.mg) (S : SortF X.K X.mg D j) (hz : L2N.Zn (.ref D) (some dd) oe) (hf : ∃ vs, oe.data = .fields vs) (hr : Room 2 X.A) (hi : X.N[i]? = some ("_law_e" : Str)) (hv : Vis X.env.scope "_law_e") (hg : Gl X "_law_sort") :
    PE (X.suite a ((a, oe) :: pn)) (.Call (.Name "_law_sort" p1) [.Name "_law_e" p2] [] p3) (fun σ H Q => σ[i]? = some (some (.ref a)) ∧ (∃ fs, H dd = some (.xd fs)) ∧ ∀ H', Sam H H' → Q (.int (j : Nat)) H') := by
  obtain ⟨g, oc, od, name, qual, params, dV, kV, doc, pm, cdv, ct, an, osl, p, hm, hk, lk, hcd, hb, hp⟩ := F.fn
  refine ⟨fun pins s σ H Q I h => ?_⟩
  obtain ⟨h1, h2, h3⟩ := h
  refine wpAny_Call_Name_kw (ld_glob I hg hm ?_ (by decide))
  refine PySem.W.callWith_K (h₀ := X.base) I.ok.mod.kin hk (thn ((pa_cons (pe_var (X := X.suite a ((a, oe) :: pn)) (pos := p2) hi hv rfl rfl) pa_nil).run p3 pins s σ H (fun vs H1 => vs = [V.ref a] ∧ H1 = H) I ⟨_, h1, rfl, rfl⟩) fun us s1 ⟨vs, H1, I1, r1, ev, eH⟩ => ⟨I1.kIn, ?_⟩) rfl rfl
  subst ev eH
  obtain ⟨vs0, hd0⟩ := id hf
  have hot : L2H.Hot1 (X.suite a ((a, oe) :: pn)).A (a, oe) := ⟨rfl, vs0, hd0, hz.2.2 vs0 hd0⟩
  have P1 := I1.pin (a, oe) (List.mem_append_left _ List.mem_cons_self)
  have hpin : L2H.PinOk (X.suite a ((a, oe) :: pn)).stack H1 s1 (a, oe) := ⟨P1.1, P1.2.1, fun hmm => (List.mem_cons.mp (I1.stkSub a hmm)).elim P1.2.2.1 P1.2.2.2.1, P1.2.2.2.2⟩
  have e0 := I1.env0
  have KX : X.K.In s1.heap := e0.mod.kin.keeps fun b o e => (e0.bs b o e).1
  have lim : s1.heap.NoLimit := e0.mod.nolimit.keeps fun b o e => (e0.bs b o e).1
  cases r1 with
  | @cons _ u _ _ ru rn =>
  cases rn
  obtain rfl : u = Value.ref a := ru
  have bd := hb s1 [Value.ref a] I1.kIn rfl
  rw [List.append_nil] at bd
  refine wpAny_call (codeAny_mono (R := CR CX0 X.stack X.prog X.w H1 s1 Q E0) ?_ fun r s' hq => ?_)
  · refine codeAny_call_function (by have := hr.dp; show X.A.depth < _; omega) (KX _ _ lk) rfl rfl rfl rfl (PySem.W.codeRec_of KX hcd) (bd _ _ _ _ ?_)
    refine wpAny_newFunctionEnv_cells rfl (fun y hy => .inl (by simp at hy; rw [hy]; rfl)) fun env he s2 x => ?_
    subst he
    refine ⟨lim.keeps x.toInCall.keep, codeAny_func ?_⟩
    generalize hX0 : cxOf CX0 X.prog X.w X.K X.mg X.base sortN qual sortSc g cdv (X.suite a ((a, oe) :: pn)).A X.stack s1 H1 E0 = X0
    obtain ⟨t, ht, hq⟩ := sort_walk (X0 := X0) (a := a) (oe := oe) (pn := []) (p := p) (by rw [← hX0]; rfl) (by rw [← hX0]; rfl) (by rw [← hX0]; exact S) hz.zc hf (by rw [← hX0]; exact F.isi) (by rw [← hX0]; exact F.ve) (by rw [← hX0]; exact F.le) hp
    have J : Inv (L2H.cxH CX0 X.prog X.w X.K X.mg X.base sortN qual sortSc g cdv (X.suite a ((a, oe) :: pn)).A X.stack s1 H1 E0 (a, oe)) [] (L2.start sortN [.ref a]) H1 s2 := L2H.inv_startH sortFS hpin e0 rfl (.cons rfl .nil) x
    have eX : (L2H.cxH CX0 X.prog X.w X.K X.mg X.base sortN qual sortSc g cdv (X.suite a ((a, oe) :: pn)).A X.stack s1 H1 E0 (a, oe)).nox = X0.suite a [(a, oe)] := by
      rw [← hX0]
      rfl
    have J2 := J.wish (fun _ _ => False)
    have run := ht.run [] s2 (L2.start X0.N [.ref a]) H1 { nx := fun _ H' => Q .non H', rt := Q } (by rw [← eX]; rw [← hX0]; exact J2) (hq Q H1 h2 h3)
    have fin : ∀ {f : Flow} {s' : Shared}, SP (X0.suite a [(a, oe)]) [] { nx := fun _ H' => Q .non H', rt := Q } f s' → CR CX0 X.stack X.prog X.w H1 s1 Q E0 (.ok (match f with | .ret u => .ret u | _ => .ret .none)) s' := by
      rw [← eX]
      intro f s' h
      cases f with
      | next => obtain ⟨σ', H', K', q⟩ := h; exact ⟨.non, H', K'.os, K'.bare, K'.base, K'.hok, rfl, q⟩
      | ret u => obtain ⟨v, σ', H', K', r, q⟩ := h; exact ⟨v, H', K'.os, K'.bare, K'.base, K'.hok, r, q⟩
      | brk => obtain ⟨_, _, _, q⟩ := h; exact False.elim q
      | cont => obtain ⟨_, _, _, q⟩ := h; exact False.elim q
    subst hX0
    refine wpAny_mono run (fun f s' hs => ?_) fun _ _ z => False.elim z
    have := fin hs
    cases f <;> exact this
  · cases r with
    | error e => exact False.elim hq
    | ok fl =>
      cases fl with
      | ret u => exact I1.after hq
      | next => exact False.elim hq
      | brk => exact False.elim hq
      | cont => exact False.elim hq
end Dn

set_option Elab.async false
set_option linter.all false
set_option maxRecDepth 100000
set_option maxHeartbeats 4000000
/-! Dn, part Te: the law's catcher, its handler; a lambda handed to it. -/
namespace Dn
open PySem PySem.Spec PyProof.Rows L2
def catH (p : Nat → Pos) : List Stmt :=
  [.Assign [atN p 5 "_law_at"] (.Call (atN p 6 "_law_sort") [atN p 7 "_law_e"] [] (p 8)) (p 9),
   .Return (some (.Tuple [.Constant (.str "error") 0 (p 10), atN p 11 "_law_at", .Call (atN p 12 "repr") [.IfExp (.Compare (.Constant (.int 2) 0 (p 13)) [.Lt, .Lt] [atN p 14 "_law_at", .Constant (.int 6) 0 (p 15)] (p 16))
     (.Attribute (atN p 17 "_law_e") "index" (p 18)) (.Attribute (atN p 19 "_law_e") "given" (p 20)) (p 21)] [] (p 22)] 0 (p 23))) (p 24)]
def catB (p : Nat → Pos) : Stmt := .Return (some (.Tuple [.Constant (.str "back") 0 (p 27), .Call (atN p 28 "repr") [atN p 29 "_law_back"] [] (p 30)] 0 (p 31))) (p 32)
def catTx (p : Nat → Pos) : List Stmt :=
  [.Try [.Assign [atN p 0 "_law_back"] (.Call (atN p 1 "_law_act") [] [] (p 2)) (p 3)] [.ExceptHandler (some (.Name "WrongValue" (p 4))) (some "_law_e") (catH p) (p 25)] [] [] (p 26), catB p]
def catNm : List (Str × NameKind) := [("_law_act", .local), ("_law_back", .local), ("_law_e", .local), ("_law_at", .local), ("WrongValue", .globalImplicit), ("_law_sort", .globalImplicit), ("repr", .globalImplicit)]
def catSc : Scope := { kind := .function, names := catNm, isGenerator := false, isCoroutine := false, more := [] }
def catN : List Str := ["_law_act", "_law_back", "_law_e", "_law_at"]
theorem catFS : FnScope catN ["_law_act"] catSc := ⟨rfl, rfl, rfl, by decide +kernel, rfl, by decide +kernel, by decide +kernel⟩
/-- the catcher's def -/
structure CatF (K : PySem.W.Frag) (mg : Str → Option Value) : Prop where
  srt : SrtF K mg
  rp : mg "repr" = none
  cw : ∃ c, mg "WrongValue" = some (.ref c)
  fn : ∃ (g : Addr) (oc : Value) (od : Option Addr) (name qual : Str) (params : Arguments) (dV kV doc pm cdv ct : Value) (an : Option Addr) (osl : Array (Option Value)) (p : Nat → Pos),
    mg "_law_caught" = some (.ref g) ∧ PySem.W.keepIn K (.ref g) = true ∧ K.lookup g = some ⟨oc, od, .func (PySem.W.fnOf name qual params (catTx p) catSc dV kV doc pm an cdv ct), osl⟩ ∧ PySem.W.codeIn K cdv qual = true ∧
    L2.Binds K (PySem.W.fnOf name qual params (catTx p) catSc dV kV doc pm an cdv ct) ["_law_act"] []
/-- what the handler asks of a class of errors with the field f -/
structure ErrF (K : PySem.W.Frag) (mg : Str → Option Value) (D : Addr) (f : Str) (n : Int) : Prop where
  j : ∃ j : Nat, n = (j : Int) ∧ SortF K mg D j ∧ f = (if 2 < j ∧ j < 6 then ("index" : Str) else "given")
  no : PySem.W.findIn K (.ref D) f = some none
  te : ∀ c, mg "WrongValue" = some (.ref c) → PySem.W.exmOne K (.ref D) (.ref c) = some true
/-- the classes of errors that the law's tables tell of -/
def ErrsF (G : Gd) (mg : Str → Option Value) : Prop := ∀ (c : Nat) (k : XcD), G.T.xcs[c]? = some k → ∃ fl, k.flds = [fl] ∧ ErrF G.K mg (G.xa c) (G.fnm fl) k.sort
theorem Sam.ex {ρ : List Addr} {H H' : Hp} (h : Sam H H') : Ex ρ H ρ H' := ⟨List.prefix_refl _, fun a o e _ _ => h a o e, fun _ m => .inl m, fun a q o e => q o (h a o e)⟩
theorem SRel.sam {G : Gd} {ρ : List Addr} {H H' : Hp} {M : Mem} (r : SRel G ρ H M) (h : Sam H H') : SRel G ρ H' M := by
  refine ⟨r.len, r.nd, fun n a o hn hm => (r.at_ n a o hn hm).ext h.ex ?_, fun t ht => ⟨(r.tb t ht).1, (r.tb t ht).2.ext h⟩⟩
  obtain ⟨u, hu⟩ := r.some_at (List.mem_of_getElem? hn)
  rw [hu, h a u hu]
section
variable {Z : Cx} {G : Gd} {a : Addr} {p : Nat → Pos}
/-- repr(..) of data -/
theorem cr_repr (hK : Z.K = G.K) (hg : Z.A.guards = some []) (hu : Z.A.units + 64 < cLine) : CallR Z (.builtin "repr") (fun xs H Q => ∃ ρ M d r v, xs = [v] ∧ SRel G ρ H M ∧ Rep G ρ H d v ∧ reprD M d = some r ∧ ∀ u H', GotQ G ρ H M r u H' → Q u H') := by
  intro pins s σ H xs us Q I rx h
  obtain ⟨ρ, M, d, r, v, rfl, sr, rep, e, q⟩ := h
  obtain ⟨u, rfl, rv⟩ := vals1 rx
  exact reprD_rep hK hg hu I sr rv rep e fun w ρ' H' x sr' rp => q w H' ⟨ρ', x, sr', rp⟩
/-- the handler's reading -/
def tHand (G : Gd) (a : Addr) (cls : Value) (d : Option Addr) : TS := fun D σ H => ∃ (c : Nat) (k : XcD) (fl : Nat) (v : V) (g : Dn.D) (ρ : List Addr) (M : Mem) (dd : Addr) (r : Dn.D), G.T.xcs[c]? = some k ∧ k.flds = [fl] ∧ cls = .ref (G.xa c) ∧ d = some dd ∧ H dd = some (.xd [(G.fnm fl, v)]) ∧ SRel G ρ H M ∧ Rep G ρ H g v ∧
  reprD M g = some r ∧ σ[2]? = some (some (.ref a)) ∧ 3 < σ.length ∧ ∀ u H', GotQ G ρ H M (.tup [.str (Str.ofString "error"), .int k.sort, r]) u H' → D.rt u H'
theorem hand_walk {oe : Obj} {pn : List (Addr × Obj)} {cls : Value} {d : Option Addr} (hK : Z.K = G.K) (hg : Z.A.guards = some []) (hr : Room 4 Z.A) (hN : Z.N = catN) (hsc : Z.env.scope = catSc) (CF : CatF Z.K Z.mg) (ER : ErrsF G Z.mg) (hz : L2N.Zn cls d oe) (hf : ∃ vs, oe.data = .fields vs) :
    PSs (Z.suite a ((a, oe) :: pn)) (catH p) (tHand G a cls d) := by
  refine ⟨fun pins s σ H D I h => ?_⟩
  obtain ⟨c, k, fl, v, g, ρ, M, dd, r, hk, hfl, rfl, rfl, hx, sr, rep, er, h2, hl, q⟩ := h
  obtain ⟨fl', hfl', E⟩ := ER c k hk
  rw [hfl] at hfl'
  cases hfl'
  obtain ⟨j, hj, S, hname⟩ := E.j
  have no := E.no
  rw [← hK] at S no
  have hu : (Z.suite a ((a, oe) :: pn)).A.units + 64 < cLine := by have := hr.un; show Z.A.units + 64 < _; omega
  have nd : (Z.suite a ((a, oe) :: pn)).N.Nodup := by show Z.N.Nodup; rw [hN]; decide +kernel
  have n2 : (Z.suite a ((a, oe) :: pn)).N[2]? = some ("_law_e" : Str) := by show Z.N[2]? = _; rw [hN]; rfl
  have n3 : (Z.suite a ((a, oe) :: pn)).N[3]? = some ("_law_at" : Str) := by show Z.N[3]? = _; rw [hN]; rfl
  have k2 : Z.env.scope.names.lookup ("_law_e" : Str) = some .local := by rw [hsc]; rfl
  have k3 : Z.env.scope.names.lookup ("_law_at" : Str) = some .local := by rw [hsc]; rfl
  have gs : Z.env.scope.names.lookup ("_law_sort" : Str) = some .globalImplicit := by rw [hsc]; rfl
  have gr : Z.env.scope.names.lookup ("repr" : Str) = some .globalImplicit := by rw [hsc]; rfl
  have xf : XfC Z.K (G.xa c) := ⟨S.x.hg, S.x.hk, S.x.hs, S.x.hd⟩
  have ve : ∀ m, PE (Z.suite a ((a, oe) :: pn)) (atN p m "_law_e") (tVar 2) := fun m => pe_var n2 (.inl k2) rfl rfl
  have vat : ∀ m, PE (Z.suite a ((a, oe) :: pn)) (atN p m "_law_at") (tVar 3) := fun m => pe_var n3 (.inl k3) rfl rfl
  have never : ∀ (e : Expr), PE (Z.suite a ((a, oe) :: pn)) e (fun _ _ _ => False) := fun e => ⟨fun _ _ _ _ _ _ h => h.elim⟩
  have fld : ∃ t1 t2, PE (Z.suite a ((a, oe) :: pn)) (.Attribute (atN p 17 "_law_e") "index" (p 18)) t1 ∧ PE (Z.suite a ((a, oe) :: pn)) (.Attribute (atN p 19 "_law_e") "given" (p 20)) t2 ∧
      ∀ (σ : L2.St) (H : Hp) (Q : VK), σ[2]? = some (some (.ref a)) → H dd = some (.xd [(G.fnm fl, v)]) → Q v H → (if decide ((2 : Int) < (j : Nat)) = true then (if decide (((j : Nat) : Int) < 6) = true then t1 σ H Q else t2 σ H Q) else t2 σ H Q) := by
    by_cases hi : 2 < j ∧ j < 6
    · rw [if_pos hi] at hname
      rw [hname] at no hx ⊢
      refine ⟨_, _, pe_xf xf no hz.zc hf (ve 17), never _, fun σ H Q e1 e2 e3 => ?_⟩
      rw [if_pos (decide_eq_true (by omega)), if_pos (decide_eq_true (by omega))]
      exact ⟨_, e1, rfl, rfl, dd, _, v, rfl, e2, by simp [List.lookup], e3⟩
    · rw [if_neg hi] at hname
      rw [hname] at no hx ⊢
      refine ⟨_, _, never _, pe_xf xf no hz.zc hf (ve 19), fun σ H Q e1 e2 e3 => ?_⟩
      have good : tXf a (Value.ref (G.xa c)) (some dd) (G.xa c) "given" (tVar 2) σ H Q := ⟨_, e1, rfl, rfl, dd, _, v, rfl, e2, by simp [List.lookup], e3⟩
      by_cases h3 : 2 < j
      · rw [if_pos (decide_eq_true (by omega)), if_neg (by simp; omega)]
        exact good
      · rw [if_neg (by simp; omega)]
        exact good
  obtain ⟨t1, t2, pe1, pe2, hread⟩ := fld
  have walk : PSs (Z.suite a ((a, oe) :: pn)) (catH p) _ := pss_cons (ps_set (pos := p 9) nd n3 (.inl k3) (pe_sort (p1 := p 6) (p2 := p 7) (p3 := p 8) (pn := pn) CF.srt S hz hf (hr.mono (by decide)) n2 (.inl k2) gs) rfl (.inr k3))
    (pss_one (ps_ret (pos := p 24) (pe_tup (x1 := 0) (pos := p 23) (pa_cons (pe_str (X := Z.suite a ((a, oe) :: pn)) (j := 0) (pos := p 10)) (pa_cons (vat 11) (pa_cons (pe_callB (p := p 12) (pos := p 22) (cr_repr (G := G) hK hg hu) gr CF.rp (by decide +kernel)
      (pa_cons (pe_ifExp (pos := p 21) (pt_chain (pos := p 16) op_lt op_lt (pe_int (j := 0) (pos := p 13)) (vat 14) (pe_int (j := 0) (pos := p 15))) pe1 pe2) pa_nil)) pa_nil))))))
  refine walk.run pins s σ H D I ⟨h2, ⟨_, hx⟩, fun H3 sam => ?_⟩
  have x3 : Ex ρ H ρ H3 := sam.ex
  have sr3 := sr.sam sam
  have rp3 := rep.ext x3
  have hx3 : H3 dd = some (.xd [(G.fnm fl, v)]) := sam _ _ hx
  have g2 : (σ.set 3 (some (.int (j : Nat))))[2]? = some (some (.ref a)) := by rw [List.getElem?_set_ne (by decide)]; exact h2
  have g3 : (σ.set 3 (some (.int (j : Nat))))[3]? = some (some (.int (j : Nat))) := List.getElem?_set_self hl
  have z3 : 3 ≤ sizeLine := by rw [sizeLine_eq]; exact (by decide : 3 ≤ 16777216)
  have fin : ∀ (u : V) (H4 : Hp), GotQ G ρ H3 M r u H4 → (tNil : TA) (σ.set 3 (some (.int (j : Nat)))) H4 fun vs H5 => [V.str (Str.ofString "error"), .int (j : Nat), u] = V.str (Str.ofString "error") :: .int (j : Nat) :: u :: vs → 3 ≤ sizeLine ∧ ∀ t, H5 t = none → D.rt (.ref t) (upd H5 t (.tup [V.str (Str.ofString "error"), .int (j : Nat), u])) := by
    intro u H4 g _
    refine ⟨z3, fun t ht => q _ _ ?_⟩
    obtain ⟨ρ4, x4, sr4, rp4⟩ := g
    have x5 := Ex.laid (ρ := ρ4) (o := .tup [V.str (Str.ofString "error"), .int (j : Nat), u]) ht
    refine ⟨ρ4, (x3.trans x4).trans x5, sr4.laid ht, .tup (sr4.notIn ht) upd_same (.cons (.str ⟨by decide +kernel, by decide +kernel⟩) (.cons (by rw [hj]; exact .int _) (.cons (rp4.ext x5) .nil)))⟩
  have rr : ∀ (σ' : L2.St) (Q' : V → Hp → Prop), σ'[2]? = some (some (.ref a)) → Q' v H3 → (if decide ((2 : Int) < (j : Nat)) = true then (if decide (((j : Nat) : Int) < 6) = true then t1 σ' H3 Q' else t2 σ' H3 Q') else t2 σ' H3 Q') := fun σ' Q' e1 e2 => hread σ' H3 Q' e1 hx3 e2
  refine ⟨_, g3, _, g3, _, _, rfl, rfl, _, rfl, ?_⟩
  have main := rr (σ.set 3 (some (.int (j : Nat)))) (fun x H1 => ∃ ρ M d r v, [x] = [v] ∧ SRel G ρ H1 M ∧ Rep G ρ H1 d v ∧ reprD M d = some r ∧ ∀ (u : V) (H' : Hp), GotQ G ρ H1 M r u H' → 3 ≤ sizeLine ∧ ∀ t, H' t = none → D.rt (.ref t) (upd H' t (.tup [V.str (Str.ofString "error"), .int (j : Nat), u]))) g2 ⟨ρ, M, g, r, v, rfl, sr3, rp3, er, fun u H' gg => fin u H' gg rfl⟩
  by_cases c1 : (2 : Int) < (j : Nat)
  · rw [if_pos (decide_eq_true c1)] at main ⊢
    exact ⟨_, _, rfl, rfl, _, rfl, main⟩
  · rw [if_neg (by simpa using c1)] at main ⊢
    exact ⟨_, rfl, main⟩
end
end Dn

set_option Elab.async false
set_option linter.all false
set_option maxRecDepth 100000
set_option maxHeartbeats 4000000
/-! Dn, part Tf: a lambda handed to the catcher. -/
namespace Dn
open PySem PySem.Spec PyProof.Rows L2
/-- the lambda's context; what leaves it has no context of its own -/
def lamN (X : Cx) (A : Around) (outer : List Env) (s : Shared) (H : Hp) (E : XK) (scope : Scope) (f c' : Addr) : Cx :=
  (LamX.lamCx X A outer s H E scope f c').wish fun e s' => wpAny (model X.prog X.w) (A.deeper (LamX.lamEnv X scope s.heap.objs.size f c')) (leaving (LamX.lamEnv X scope s.heap.objs.size f c') e) (fun _ s'' => L2N.CX X.prog X.w outer H s E e s'') (fun e' s'' => L2N.CX X.prog X.w outer H s E e' s'') s'
theorem lamN_tk {X : Cx} {A : Around} {outer : List Env} {s : Shared} {H : Hp} {E : XK} {scope : Scope} {f c' : Addr} : TkE (lamN X A outer s H E scope f c') E := L2N.takes_of rfl rfl rfl rfl
def tAct (G : Gd) (C : Cfg) (i : IR) (W : WX) (σ : L2.St) : TE := fun σZ HZ Q =>
  (∃ ρ se M d M', SRel G ρ HZ M ∧ ERel G ρ HZ se σ ∧ ev C i se M = some (d, M') ∧ ∀ v H', GotQ G ρ HZ M' d v H' → Q v H') ∨
  (∃ ρ se M x M', SRel G ρ HZ M ∧ ERel G ρ HZ se σ ∧ evX C i se M = some (x, M') ∧ ∀ cls d H', GotX G ρ HZ M' x cls d H' → W cls d σZ H')
section
variable {X : Cx} {G : Gd} {C : Cfg} {pins : List (Addr × Obj)} {σ : L2.St} {H : Hp} {s : Shared} {g f c' : Addr} {cdg pm ctv : Value} {params : Arguments} {body : Expr} {scope : Scope} {k : Nat} {qg : Str} {pn : List (Addr × Obj)} {xe : Value → Shared → Prop} {W : WX} {i : IR} {p1 p2 : Pos}
theorem act_call (I : Inv X pins σ H s) (L : LamX.LamS X.env.scope scope) (hf : s.heap.get? f = some (PySem.W.kla_obj "<lambda>" (X.env.qual ++ "<lambda>") params body scope (cloFrom X.env.cells scope.names []) pm c' ctv)) (hfn : H f = none) (hfr : f ∉ frs X.stack)
    (hbind : bindArgs (PySem.W.kla_fn "<lambda>" (X.env.qual ++ "<lambda>") params body scope (cloFrom X.env.cells scope.names []) pm (.ref c') ctv) ⟨[], []⟩ = pure [])
    (tk : L2N.Takes ((cxOf CX0 X.prog X.w X.K X.mg X.base catN qg catSc g cdg X.A X.stack s H E0).tr pn xe) W) (hr : Room (k + 1) (X.A.deeper (envOfC qg catSc s.heap.objs.size g cdg)))
    (hbody : ∀ (A : Around) (outer : List Env) (s : Shared) (H : Hp) (E : XK), Room k (A.deeper (LamX.lamEnv X scope s.heap.objs.size f c')) → A.guards = X.A.guards → SE (lamN X A outer s H E scope f c') G C body i ∧ SX (lamN X A outer s H E scope f c') G C body i) :
    PE ((cxOf CX0 X.prog X.w X.K X.mg X.base catN qg catSc g cdg X.A X.stack s H E0).tr pn xe) (.Call (.Name "_law_act" p1) [] [] p2)
      (fun σZ HZ Q => σZ[0]? = some (some (.ref f)) ∧ HZ c' = some (LamX.CodeO c' (X.env.qual ++ "<lambda>")) ∧ tAct G C i W σ σZ HZ Q) := by
  refine ⟨fun pinsZ sZ σZ HZ Q IZ h => ?_⟩
  obtain ⟨hs, hc, ht⟩ := h
  refine wpAny_Call_Name_kw (thn ((pe_var (X := (cxOf CX0 X.prog X.w X.K X.mg X.base catN qg catSc g cdg X.A X.stack s H E0).tr pn xe) (pos := p1) (i := 0) (x := "_law_act") rfl (.inl rfl) rfl rfl).run pinsZ sZ σZ HZ (fun v H1 => v = .ref f ∧ H1 = HZ) IZ ⟨.ref f, hs, rfl, rfl⟩) fun u s1 ⟨v, H1, I1, r1, ev1, eH⟩ => ?_)
  subst ev1 eH
  obtain rfl : u = Value.ref f := r1
  have of1 := I1.base.keep f _ hf hfn hfr (fun z => nomatch (show f ∈ ([] : List Addr) from z))
  refine PySem.W.callWith_F0 ⟨_, _, _, _, of1⟩ ?_
  have un : Un (frs X.stack) [] H H1 s.heap s1.heap := I1.base
  obtain ⟨⟨oc, vs, t, hoc, hdc, hvc⟩, _, _⟩ := I1.hok c' _ hc
  have rc : codeAny (model X.prog X.w) (X.A.deeper (envOfC qg catSc s.heap.objs.size g cdg)) (.call (.ref f) ⟨[], []⟩) (CR (L2N.CX X.prog X.w) (envOfC qg catSc s.heap.objs.size g cdg :: X.stack) X.prog X.w H1 s1 Q (WE W σZ)) s1 := by
    refine PySem.W.kla_callFunE hr.depth of1 rfl L.co L.gen rfl ⟨c', oc, vs, t, rfl, hoc, hdc, hvc⟩ ?_
    rw [hbind]
    refine wpAny_pure (wpAny_newFunctionEnv (fun y hy => (L.own y hy).2) (fun y hy => absurd hy (by simp)) (fun h₁ hns hsb => ⟨I1.nolimit.fresh _ hsb, ?_⟩) L.kind)
    show codeAny _ _ (.expr body (LamX.lamEnv X scope s1.heap.objs.size f c')) _ _
    have kp : ∀ b o, s1.heap.get? b = some o → h₁.get? b = some o := fun b o e => hsb.extBut b o (Nat.ne_of_lt (Heap.lt_size e)) (Heap.get?_push_of_some _ e)
    have J0 := LamX.lam_start2 (E := WE W σZ) (f := f) (c' := c') (h₁ := h₁) (tk := s1.toks + ([] : List (Str × Value)).length) I L I1.env0 hr.hd un hns kp
    have J : Inv (lamN X (X.A.deeper (envOfC qg catSc s.heap.objs.size g cdg)) (envOfC qg catSc s.heap.objs.size g cdg :: X.stack) s1 H1 (WE W σZ) scope f c') [] σ H1 { s1 with heap := h₁, toks := s1.toks + ([] : List (Str × Value)).length } := J0.wish _
    obtain ⟨b1, b2⟩ := hbody (X.A.deeper (envOfC qg catSc s.heap.objs.size g cdg)) (envOfC qg catSc s.heap.objs.size g cdg :: X.stack) s1 H1 (WE W σZ) (hr.deeper _) rfl
    rcases ht with ⟨ρ, se, M, d, M', sr, er, e1, q⟩ | ⟨ρ, se, M, x, M', sr, er, e1, q⟩
    · refine PySem.W.kla_codeExpr (wpAny_mono (b1.v [] _ σ H1 ρ se M d M' J sr er e1) (fun v s' hq => ?_) fun e s' hq => hq)
      obtain ⟨w', H', J', rv, gq⟩ := hq
      exact ⟨w', H', J'.os, J'.bare, J'.base, J'.hok, rv, q _ _ gq⟩
    · exact PySem.W.kla_codeExpr (wpAny_mono (b2 (WE W σZ) lamN_tk [] _ σ H1 ρ se M x M' J sr er e1 q (fun _ _ => False)) (fun v s' hq => hq.elim) fun e s' hq => hq)
  refine wpAny_call (codeAny_mono rc fun r s' hq => ?_)
  cases r with
  | error e => exact L2N.passAt tk σZ pinsZ H1 s1 e s' I1 hq
  | ok fl =>
    cases fl with
    | ret u => exact I1.after hq
    | next => exact False.elim hq
    | brk => exact False.elim hq
    | cont => exact False.elim hq
end
theorem takes0N {X : Cx} : L2N.Takes X (fun _ _ _ _ => False) := fun _ _ x => by
  obtain ⟨_, _, _, _, _, _, _, _, _, _, _, _, _, _, _, _, z⟩ := x
  exact z.elim
section
variable {X : Cx} {G : Gd} {C : Cfg} {i : IR} {pos : Pos}
def backR : SR := .ret (.tup (.cons (.cst (.str (Str.ofString "back"))) (.cons (.blt .repr (.cons (.var 1) .nil)) .nil)))
theorem back_ss {Z : Cx} {p : Nat → Pos} (zo : XO Z G C) (hN : Z.N = catN) (hsc : Z.env.scope = catSc) (hm : Z.mg "repr" = none) : SS Z G C (catB p) backR := by
  have v1 : SE Z G C (atN p 29 "_law_back") (.var 1) := se_var zo.toXC (by rw [hN]; rfl) (.inl (by rw [hsc]; rfl)) rfl rfl
  have c1 : SE Z G C (.Constant (.str "back") 0 (p 27)) (.cst (.str (Str.ofString "back"))) := se_cst zo.toXC (fun _ => rfl) pe_str fun _ _ => .str ⟨by decide +kernel, by decide +kernel⟩
  have r1 : SE Z G C (.Call (atN p 28 "repr") [atN p 29 "_law_back"] [] (p 30)) (.blt .repr (.cons (.var 1) .nil)) := se_blt (bt := .repr) zo (show Z.env.scope.names.lookup ("repr" : Str) = _ by rw [hsc]; rfl) hm rfl (ses_cons rfl v1 ses_nil)
  exact ss_ret (se_tup zo.toXC (ses_cons rfl c1 (ses_cons rfl r1 ses_nil)))
/-- the places where a lambda's code object is kept -/
def LamAt (G : Gd) (mg : Str → Option Value) (base : Heap) (code : Value) (qual : Str) : Prop := ∃ c P, code = .ref c ∧ (P, qual ++ "<lambda>") ∈ G.tabs ∧ (∀ q ∈ G.tabs, q.1 = P → q.2 = qual ++ "<lambda>") ∧ LamX.TabB base mg c P
theorem SRel.tabs {ρ : List Addr} {H : Hp} {M : Mem} (r : SRel G ρ H M) : LamX.Tabs G.tabs H := fun p hp => (r.tb p hp).2
/-- behind the making of a lambda -/
theorem Ex.lam {ρ : List Addr} {H H1 : Hp} (e : LamX.ExtN H H1) : Ex ρ H ρ H1 := ⟨List.prefix_refl _, fun a o h _ nt => e a o h nt, fun _ m => .inl m, fun a q o h nt => q o (e a o h nt) nt⟩
theorem SRel.lam {ρ : List Addr} {H H1 : Hp} {M : Mem} (r : SRel G ρ H M) (e : LamX.ExtN H H1) (t : LamX.Tabs G.tabs H1) : SRel G ρ H1 M := by
  refine ⟨r.len, r.nd, fun n a o hn hm => (r.at_ n a o hn hm).ext (Ex.lam e) ?_, fun p hp => ⟨(r.tb p hp).1, t p hp⟩⟩
  have q := r.at_ n a o hn hm
  cases o with
  | lst l => obtain ⟨vs, h1, _⟩ := q; rw [h1]; exact e a _ h1 (fun _ z => by cases z)
  | ins c fs => obtain ⟨dx, vs, h1, _⟩ := q; rw [h1]; exact e a _ h1 (fun _ z => by cases z)
/-- the catcher called with a lambda -/
theorem se_caught (xo : XO X G C) (CF : CatF X.K X.mg) (ER : ErrsF G X.mg) {k : Nat} (hr : Room (k + 2) X.A) (hr4 : 4 ≤ k) (hg : Gl X "_law_caught") (LA : LamAt G X.mg X.base X.env.code X.env.qual) {params : Arguments} {body : Expr} {scope : Scope} {p lpos : Pos} (L : LamX.LamS X.env.scope scope) (hdef : defaultsOf params X.env = ([], []))
    (hbind : ∀ (q : Str) (cl : List (Str × Addr)) (pm cv ctv : Value), bindArgs (PySem.W.kla_fn "<lambda>" q params body scope cl pm cv ctv) ⟨[], []⟩ = pure [])
    (hxo : ∀ Y : Cx, Y.prog = X.prog → Y.w = X.w → Y.K = X.K → Y.mg = X.mg → Y.base = X.base → Y.calm = true → Y.A.guards = some [] → Room k Y.A → XO Y G C)
    (hbody : ∀ Y : Cx, Y.prog = X.prog → Y.w = X.w → Y.K = X.K → Y.mg = X.mg → Y.base = X.base → Y.calm = true → Y.A.guards = some [] → Room k Y.A → Y.N = X.N → Y.env.scope = scope → SE Y G C body i ∧ SX Y G C body i) :
    SE X G C (.Call (.Name "_law_caught" p) [.Lambda params body scope lpos] [] pos) (.caught i) := by
  refine .plain xo.toXC (fun _ => rfl) fun pins s σ H ρ se M d M' I sr er e1 => ?_
  obtain ⟨g, oc, od, name, qual, cparams, dV, kV, doc, pm, cdv, ct, an, osl, pp, hm, hk, lk, hcd, hb⟩ := CF.fn
  obtain ⟨CW, hCW⟩ := CF.cw
  obtain ⟨c, P, hcode, hmT, hu, TB⟩ := LA
  refine wpAny_Call_Name_kw (ld_glob I hg hm ?_ (by decide))
  refine PySem.W.callWith_K (h₀ := X.base) I.ok.mod.kin hk ?_ rfl rfl
  show wpAny _ _ (spliced ((false, eval (.Lambda params body scope lpos) X.env) :: backTo pos (starEach [] X.env))) _ _ s
  refine Calls.spliced_cons (LamX.lam_make2 I TB hcode hmT hu sr.tabs hdef (L.has I.ok) fun f c' pm' ctv H1 s' I1 eN T1 hf hfn hfr hco => ?_)
  refine Calls.spliced_nil ⟨I1.kIn, ?_⟩
  have x1 : Ex ρ H ρ H1 := Ex.lam eN
  have sr1 := sr.lam eN T1
  have er1 := er.ext x1
  have bd := hb s' [Value.ref f] I1.kIn rfl
  rw [List.append_nil] at bd
  have rc : codeAny (model X.prog X.w) X.A (.call (.ref g) ⟨[.ref f], []⟩) (CR CX0 X.stack X.prog X.w H1 s' (GotQ G ρ H1 M' d) E0) s' := by
    refine LamX.run_ofS (N := catN) (ps := ["_law_act"]) (us := [.ref f]) (vs := [.ref f]) lk hcd catFS (k := k + 1) hr I1.env0 bd (.cons rfl .nil) rfl fun hr' => ?_
    generalize hZ : cxOf CX0 X.prog X.w X.K X.mg X.base catN qual catSc g cdv X.A X.stack s' H1 E0 = Z
    have zg : Z.A.guards = some [] := by rw [← hZ]; exact xo.gd
    have zr : Room (k + 1) Z.A := by rw [← hZ]; exact hr'
    have zN : Z.N = catN := by rw [← hZ]; rfl
    have zsc : Z.env.scope = catSc := by rw [← hZ]; rfl
    have zcf : CatF Z.K Z.mg := by rw [← hZ]; exact CF
    have zer : ErrsF G Z.mg := by rw [← hZ]; exact ER
    have zK : Z.K = G.K := by rw [← hZ]; exact xo.K
    have zo : XO Z G C := hxo Z (by rw [← hZ]; rfl) (by rw [← hZ]; rfl) (by rw [← hZ]; rfl) (by rw [← hZ]; rfl) (by rw [← hZ]; rfl) (by rw [← hZ]; rfl) zg (zr.mono (by omega))
    have nd : Z.N.Nodup := by rw [zN]; decide +kernel
    have act : ∀ (W : WX) (pn : List (Addr × Obj)) (xe : Value → Shared → Prop), L2N.Takes (Z.tr pn xe) W → PE (Z.tr pn xe) (.Call (.Name "_law_act" (pp 1)) [] [] (pp 2)) (fun σZ HZ Q => σZ[0]? = some (some (.ref f)) ∧ HZ c' = some (LamX.CodeO c' (X.env.qual ++ "<lambda>")) ∧ tAct G C i W σ σZ HZ Q) := by
      subst hZ
      intro W pn xe tk
      exact act_call I1 L hf hfn hfr (hbind _ _ _ _ _) tk hr' fun A outer s2 H2 E hr2 hgd => hbody _ rfl rfl rfl rfl rfl rfl (by show A.guards = _; rw [hgd]; exact xo.gd) hr2 rfl rfl
    have walk : PSs Z (catTx pp) _ := pss_cons (L2N.ps_try_as (X := Z) (i := 2) (c := .ref CW) (x := "WrongValue") (n := "_law_e") (Wout := fun _ _ _ _ => False) (tb := fun W => tAsg (fun σZ HZ Q => σZ[0]? = some (some (V.ref f)) ∧ HZ c' = some (LamX.CodeO c' (X.env.qual ++ "<lambda>")) ∧ tAct G C i W σ σZ HZ Q) (gName 1)) (ts := fun a cls d => tHand G a cls d)
      (by rw [← hZ]; rfl) (by rw [← hZ]; rfl) nd (by rw [zN]; rfl) (by show Z.env.scope.names.lookup ("_law_e" : Str) = _; rw [zsc]; rfl) ⟨show Z.env.scope.names.lookup ("WrongValue" : Str) = _ by rw [zsc]; rfl, by decide, .inl (by rw [← hZ]; exact hCW)⟩ takes0N
      (fun W pn xe tk _ => pss_one (ps_set (i := 1) nd (show Z.N[1]? = _ by rw [zN]; rfl) (.inl (show Z.env.scope.names.lookup ("_law_back" : Str) = _ by rw [zsc]; rfl)) (show PE (Z.tr pn xe) (.Call (atN pp 1 "_law_act") [] [] (pp 2)) _ from act W pn xe tk) rfl (.inr (show Z.env.scope.names.lookup ("_law_back" : Str) = _ by rw [zsc]; rfl))))
      (fun a oe cls dd pn hz hf => hand_walk zK zg (zr.mono (by omega)) zN zsc zcf zer hz hf)) (pss_one (back_ss zo zN zsc zcf.rp).ps)
    refine ⟨_, walk, ?_⟩
    refine ⟨rfl, hco, ?_⟩
    simp only [ev] at e1
    cases hx : evX C i se M with
    | some z =>
      obtain ⟨x, M1⟩ := z
      rw [hx] at e1
      refine .inr ⟨ρ, se, M, x, M1, sr1, er1, hx, fun cls dd H2 gx => ?_⟩
      obtain ⟨ρ2, k2, vs, d2, x2, sr2, hk2, hcls, hdd, hxd, rl, hlen⟩ := gx
      obtain ⟨fl, hfl, E⟩ := ER _ _ hk2
      obtain ⟨cx, fs⟩ := x
      simp only [toldX, xo.T] at e1
      simp only at hk2 rl
      rw [hk2] at e1
      rcases fs with _ | ⟨g0, _ | ⟨_, _⟩⟩
      · cases e1
      · obtain ⟨v, rfl, rp⟩ := repL1 rl
        simp only at e1
        obtain ⟨y, e2, e3⟩ := lft_inv e1
        simp only [Option.map_eq_some_iff] at e2
        obtain ⟨r, e2, rfl⟩ := e2
        cases e3
        refine ⟨true, by rw [hcls, ← hZ]; have := E.te CW hCW; rw [← xo.K] at this; exact this, fun _ a ha => ⟨cx, k2, fl, v, g0, ρ2, _, d2, r, hk2, hfl, hcls, hdd, ?_, sr2, rp, e2, rfl, (by rw [List.length_set]; exact (by decide : 3 < 4)), fun u H3 gq => gq.up x2⟩, fun q => nomatch q⟩
        rw [hxd, hfl]
        rfl
      · cases e1
    | none =>
      rw [hx] at e1
      obtain ⟨d0, M1, f1, e2⟩ := bnd_inv e1
      obtain ⟨r, M2, f2, e3⟩ := bnd_inv e2
      cases e3
      refine .inl ⟨ρ, se, M, d0, M1, sr1, er1, f1, fun v H2 gq => ?_⟩
      obtain ⟨ρ2, x2, sr2, rp⟩ := gq
      refine ⟨ρ2, [none, some d0, none, none], M1, .rt (.tup [.str (Str.ofString "back"), r]), M', sr2, ⟨rfl, fun j d' hj => ?_⟩, ?_, ⟨fun _ _ ⟨_, z, _⟩ => (by cases z), fun u H3 ⟨d3, z, gq⟩ => (by cases z; exact gq.up x2), fun _ _ ⟨_, z, _⟩ => (by cases z), fun _ _ ⟨_, z, _⟩ => (by cases z)⟩⟩
      · rcases j with _ | _ | _ | _ | j <;> simp at hj
        subst hj
        exact ⟨v, rfl, rp⟩
      · show evS C backR _ _ = _
        simp only [backR, evS, ev, evs, bnd_some, List.getElem?_cons_succ, List.getElem?_cons_zero, f2]
        rfl
  refine wpAny_call (codeAny_mono rc fun r s2 hq => ?_)
  cases r with
  | error e => exact False.elim hq
  | ok fl =>
    cases fl with
    | ret u =>
      obtain ⟨v, H3, I3, rv, gq⟩ := I1.after hq
      exact ⟨v, H3, I3, rv, gq.up x1⟩
    | next => exact False.elim hq
    | brk => exact False.elim hq
    | cont => exact False.elim hq
end
end Dn

set_option Elab.async false
set_option linter.all false
set_option maxRecDepth 100000
set_option maxHeartbeats 4000000
/-! Dn, part U: the check that a piece of the small language fits a piece of the text. -/
namespace Dn
open PySem PySem.Spec PyProof.Rows L2
inductive GV | fn (i : Nat) | cls (c : Nat) | con (g : Nat) | exc (c : Nat) deriving DecidableEq
structure Stat where
  T : Tab
  fnm : List Str
  gl : List (Str × GV)
  bl : List Str
  shp : List (Nat × Nat × List Nat × List Str)
  mth : List (Nat × Str × Nat)
  mks : List Nat
  sm : List (Str × Str × Nat × Nat) := []
  cat : Bool := false
/-- where a piece stands: the comprehension's or lambda's own names; whether lambdas are known there -/
structure Bs where
  b : Option Scope
  r : Bool
def Bs.of (s : Scope) : Bs := ⟨some s, false⟩
def Bs.top (r : Bool) : Bs := ⟨none, r⟩
/-- no parameters -/
def lamP : Arguments → Bool
  | ⟨[], [], none, [], [], none, []⟩ => true
  | _ => false
def visB (sc : Scope) (x : Str) : Bool := match sc.names.lookup x with
  | some .local => true
  | some .cell => true
  | some .free => true
  | _ => false
def glB (sc : Scope) (x : Str) : Bool := match sc.names.lookup x with
  | some .globalImplicit => true
  | _ => false
def locB (sc : Scope) (bs : Bs) (x : Str) : Bool := match sc.names.lookup x with
  | some .local => true
  | some .cell => match bs.b with
    | none => true
    | some b => decide (b.names.lookup x = some .cell)
  | _ => false
def locE (sc : Scope) (x : Str) : Bool := decide (sc.names.lookup x = some .local)
def ndB (x : Str) : Bool := !(x == ("__debug__" : Str)) && !(x == ("__classdict__" : Str))
def sOkB (s : Str) : Bool := decide (s.length ≤ sizeLine) && s.cps.all (fun c => decide (c < 0x110000))
def chkC : Expr → D → Bool
  | .Constant c _ _, d => match c, d with
    | .none, .non => true
    | .bool a, .bl b => decide (a = b)
    | .int a, .int b => decide (a = b)
    | .str a, .str b => decide (a = b) && sOkB a
    | _, _ => false
  | _, _ => false
def opB (op : Bop) (o : Operator) : Bool := match op, o with
  | .add, .Add => true
  | .sub, .Sub => true
  | .mul, .Mult => true
  | .fdiv, .FloorDiv => true
  | .mod, .Mod => true
  | .pow, .Pow => true
  | .or_, .BitOr => true
  | .and_, .BitAnd => true
  | _, _ => false
def copB (op : Cop) (o : CmpOp) : Bool := match op, o with
  | .eq, .Eq => true
  | .ne, .NotEq => true
  | .lt, .Lt => true
  | .le, .LtE => true
  | .gt, .Gt => true
  | .ge, .GtE => true
  | .is_, .Is => true
  | .isn, .IsNot => true
  | .in_, .In => true
  | .nin, .NotIn => true
  | _, _ => false
def tkNm : TyK → Str
  | .int => "int"
  | .bool => "bool"
  | .str => "str"
  | .tup => "tuple"
  | .lst => "list"
  | .cls _ => "object"
section
variable (S : Stat) (N : List Str)
def bltB (sc : Scope) (x : Str) : Bool := glB sc x && decide (x ∈ S.bl)
def glvB (sc : Scope) (x : Str) (g : GV) : Bool := glB sc x && decide (S.gl.lookup x = some g) && ndB x
def tyB (sc : Scope) (e : Expr) (t : TyK) : Bool := match e with
  | .Name x _ => match t with
    | .cls c => glvB S sc x (.cls c) && decide (c < S.T.cls.length)
    | t => decide (x = tkNm t) && bltB S sc x
  | _ => false
def ksB (kws : List Keyword) : Bool := kws.all fun k => k.arg.isSome
def ownOf (scope : Scope) : List (Str × Nat) := scope.names.filterMap fun y => match y.2 with
  | .local => (N.idxOf? y.1).map fun i => (y.1, i)
  | .cell => (N.idxOf? y.1).map fun i => (y.1, i)
  | _ => none
def tgN (sc : Scope) (bs : Bs) (e : Expr) (i : Nat) : Bool := match e with
  | .Name x _ => decide (N[i]? = some x) && locB sc bs x
  | _ => false
def tgNs (sc : Scope) (bs : Bs) : List Expr → List Nat → Bool
  | [], [] => true
  | e :: es, i :: is => tgN N sc bs e i && tgNs sc bs es is
  | _, _ => false
def tgB (sc : Scope) (bs : Bs) (tg : Expr) (t : List Nat) (tk : Bool) : Bool := if tk = true then (match tg with
    | .Tuple es _ _ => tgNs N sc bs es t
    | _ => false) else (match t with
    | [i] => tgN N sc bs tg i
    | _ => false)
/-- how a source is written: the arguments of its call, or itself -/
def itB (sc : Scope) (tg iter : Expr) (it : ItK) : Option (List Expr) := match it, iter with
  | .val, e => some [e]
  | .range1, .Call (.Name x _) [a] [] _ => if decide (x = "range") && bltB S sc x && notStar a then some [a] else none
  | .range2, .Call (.Name x _) [a, b] [] _ => if decide (x = "range") && bltB S sc x && notStar a && notStar b then some [a, b] else none
  | .enum, .Call (.Name x _) [a] [] _ => match tg with
    | .Tuple _ _ _ => if decide (x = "enumerate") && bltB S sc x && notStar a then some [a] else none
    | _ => none
  | .zip, .Call (.Name x _) [a, b] [] _ => match tg with
    | .Tuple _ _ _ => if decide (x = "zip") && bltB S sc x && notStar a && notStar b then some [a, b] else none
    | _ => none
  | _, _ => none
def shB (f n : Nat) (ks : List Nat) (kws : List Keyword) : Bool := decide ((f, n, ks, kwNames kws) ∈ S.shp) && decide (ks.length = kws.length)
mutual
def chkE (sc : Scope) (bs : Bs) : IR → Expr → Bool
  | .var i, .Name x _ => decide (N[i]? = some x) && visB sc x && ndB x
  | .cst d, e => chkC e d
  | .glob g, .Name x _ => glvB S sc x (.con g)
  | .bin op a b, .BinOp x o y _ => opB op o && chkE sc bs a x && chkE sc bs b y
  | .neg a, .UnaryOp .USub x _ => chkE sc bs a x
  | .not a, .UnaryOp .Not x _ => chkE sc bs a x
  | .cmp op a b, .Compare x [o] [y] _ => copB op o && decide (behindInMarks o y = false) && chkE sc bs a x && chkE sc bs b y
  | .cmp2 op op' a b c, .Compare x [o, o'] [y, z] _ => copB op o && copB op' o' && decide (lastMarks [o, o'] [y, z] = false) && chkE sc bs a x && chkE sc bs b y && chkE sc bs c z
  | .and a b, .BoolOp .And (x :: y :: r) p => chkE sc bs a x && (match r with
    | [] => chkE sc bs b y
    | z :: r => chkE sc bs b (.BoolOp .And (y :: z :: r) p))
  | .or a b, .BoolOp .Or (x :: y :: r) p => chkE sc bs a x && (match r with
    | [] => chkE sc bs b y
    | z :: r => chkE sc bs b (.BoolOp .Or (y :: z :: r) p))
  | .ite a b c, .IfExp x y z _ => chkE sc bs a x && chkE sc bs b y && chkE sc bs c z
  | .tup l, .Tuple es _ _ => es.all notStar && chkEs sc bs l es
  | .lst _ l, .List es _ => es.all notStar && chkEs sc bs l es
  | .idx a i, .Subscript x y _ => notSlice y && chkE sc bs a x && chkE sc bs i y
  | .slice a lo hi, .Subscript x (.Slice l h none _) _ => chkE sc bs a x && (match l with
    | none => isNil lo
    | some y => !isNil lo && chkE sc bs lo y) && (match h with
    | none => isNil hi
    | some y => !isNil hi && chkE sc bs hi y)
  | .rev a, .Subscript x (.Slice none none (some (.UnaryOp .USub (.Constant (.int n) _ _) _)) _) _ => decide (n = 1) && chkE sc bs a x
  | .stp a b, .Subscript x (.Slice lo none (some (.Constant (.int n) _ _)) _) _ => decide (n = 2) && chkE sc bs a x && (match lo with
    | none => !b
    | some (.Constant (.int m) _ _) => b && decide (m = 1)
    | _ => false)
  | .attr a f, .Attribute x n _ => decide (S.fnm[f]? = some n) && noSuper x && chkE sc bs a x
  | .isin a t, .Call (.Name nm _) [x, y] [] _ => decide (nm = "isinstance") && bltB S sc nm && notStar x && notStar y && tyB S sc y t && chkE sc bs a x
  | .call f ks l lk, .Call (.Name x _) es kws _ => glvB S sc x (.fn f) && es.all notStar && ksB kws && shB S f (es.length + kws.length) ks kws && chkEs sc bs l es && chkEs sc bs lk (kws.map (·.value))
  | .call f ks l lk, .Call (.Attribute (.Name x p) m apos) es kws pos => (S.sm.any fun e => decide (e.1 = x) && decide (e.2.1 = m) && decide (e.2.2.2 = f) && glvB S sc x (.cls e.2.2.1)) && noSuper (.Name x p) && (apos.endLine == pos.line) && decide (es.length + kws.length < 29) && es.all notStar && ksB kws && shB S f (es.length + kws.length) ks kws && chkEs sc bs l es && chkEs sc bs lk (kws.map (·.value))
  | .make c ks l lk, .Call (.Name x _) es kws _ => glvB S sc x (.cls c) && decide (c ∈ S.mks) && es.all notStar && ksB kws && (match S.T.cls[c]? with
    | some k => shB S k.init (es.length + kws.length + 1) ks kws
    | none => false) && chkEs sc bs l es && chkEs sc bs lk (kws.map (·.value))
  | .blt b l, .Call (.Name x _) (e :: es) [] _ => decide (x = bltNm b) && bltB S sc x && (e :: es).all notStar && chkEs sc bs l (e :: es)
  | .meth m o l, .Call (.Attribute x n apos) [y] [] pos => noSuper x && (apos.endLine == pos.line) && notStar y && (match m with
    | .split => decide (n = "split")
    | .join => decide (n = "join")
    | .partition => decide (n = "partition")
    | .append => decide (n = "append")) && chkE sc bs o x && chkEs sc bs l [y]
  | .ometh fi ks o l lk, .Call (.Attribute x m apos) es kws pos => noSuper x && (apos.endLine == pos.line) && decide (es.length + kws.length < 29) && es.all notStar && ksB kws && (S.mth.any fun e => decide (e.1 = fi) && decide (e.2.1 = m) && shB S e.2.2 (es.length + kws.length + 1) ks kws)
      && chkE sc bs o x && chkEs sc bs l es && chkEs sc bs lk (kws.map (·.value))
  | .fstr l, .JoinedStr es _ => !es.isEmpty && chkEs sc bs l es
  | .fmt a, .FormattedValue x c none _ => decide (c = -1) && chkE sc bs a x
  | .comp _ t tk it src cond e, .ListComp elt [⟨tg, iter, ifs, as⟩] scope _ => decide (as = 0) && blkC N sc scope (ownOf N scope) && (t.all fun i => decide (i ∈ (ownOf N scope).map (·.2))) && (((ownOf N scope).map (·.2)).all fun i => decide (i ∈ t)) &&
      notSet iter && tgB N (relS scope sc) (.of scope) tg t tk && (match itB S sc tg iter it with
      | some l => chkEs sc bs src l
      | none => false) && (match ifs with
      | [] => isNil cond
      | [c] => !isNil cond && chkE (relS scope sc) (.of scope) cond c
      | _ => false) && chkE (relS scope sc) (.of scope) e elt
  | .comp2 _ t tk it src t' tk' it' src' cond e, .ListComp elt [⟨tg, iter, [], as⟩, ⟨tg', iter', ifs, as'⟩] scope _ => decide (as = 0) && decide (as' = 0) && blkC N sc scope (ownOf N scope) && (t.all fun i => decide (i ∈ (ownOf N scope).map (·.2))) && (t'.all fun i => decide (i ∈ (ownOf N scope).map (·.2))) && (((ownOf N scope).map (·.2)).all fun i => decide (i ∈ t ++ t')) &&
      notSet iter && notSet iter' && tgB N (relS scope sc) (.of scope) tg t tk && tgB N (relS scope sc) (.of scope) tg' t' tk' && (match itB S sc tg iter it with
      | some l => chkEs sc bs src l
      | none => false) && (match itB S (relS scope sc) tg' iter' it' with
      | some l => chkEs (relS scope sc) (.of scope) src' l
      | none => false) && (match ifs with
      | [] => isNil cond
      | [c] => !isNil cond && chkE (relS scope sc) (.of scope) cond c
      | _ => false) && chkE (relS scope sc) (.of scope) e elt
  | .caught a, .Call (.Name x _) [.Lambda params body scope _] [] _ => bs.r && S.cat && decide (x = "_law_caught") && glB sc x && LamX.lamSB sc scope && lamP params && chkE scope (.of scope) a body
  | .dict0, .Dict [] [] _ => true
  | .dict1 ks v, .Dict [some (.Tuple es _ _)] [.Constant (.int n) _ _] _ => intsE es ks && decide (n = v) && decide (ks.length ≤ 100)
  | _, _ => false
def chkEs (sc : Scope) (bs : Bs) : IR → List Expr → Bool
  | .nil, [] => true
  | .cons a r, e :: es => chkE sc bs a e && chkEs sc bs r es
  | _, _ => false
end
end
/-! ### contexts -/
section
variable (P : Program) (w : World) (mg : Str → Option Value) (base : Heap) (G : Gd) (C : Cfg) (S : Stat) (FI : Nat → FnI) (n : Nat)
structure Here (X : Cx) : Prop where
  prog : X.prog = P
  w : X.w = w
  K : X.K = G.K
  mg : X.mg = mg
  base : X.base = base
  calm : X.calm = true
  gd : X.A.guards = some []
  room : Room (3 * n + 4) X.A
/-- what is known where calls may go n deep -/
structure Lib : Prop where
  T : C.T = G.T
  ST : S.T = G.T
  nm : ∀ (f : Nat) (x : Str), S.fnm[f]? = some x → x = G.fnm f ∧ f < G.nf
  xo : ∀ X, Here P w mg base G n X → XO X G C
  fn : ∀ (x : Str) (i : Nat), S.gl.lookup x = some (.fn i) → mg x = some (.ref (G.fa i)) ∧ ∃ f, G.T.fns[i]? = some f
  cl : ∀ (x : Str) (c : Nat), S.gl.lookup x = some (.cls c) → mg x = some (.ref (G.ca c))
  cn : ∀ (x : Str) (g : Nat), S.gl.lookup x = some (.con g) → ∃ d v u, G.T.globs[g]? = some d ∧ mg x = some u ∧ RelV v u ∧ ∀ ρ H, Rep G ρ H d v
  bl : ∀ x ∈ S.bl, mg x = none
  fnf : ∀ X, Here P w mg base G n X → ∀ i f, G.T.fns[i]? = some f → FnF X G C (FI i) i f
  sh : ∀ e ∈ S.shp, ∃ f, G.T.fns[e.1]? = some f ∧ Shape G (FI e.1) f e.2.1 e.2.2.1 e.2.2.2
  mks : ∀ c ∈ S.mks, ∃ k, G.T.cls[c]? = some k ∧ Mk G.K (G.ca c) (G.fa k.init)
  mth : ∀ e ∈ S.mth, (∀ (c : Nat) (k : ClsD), G.T.cls[c]? = some k → k.meths.lookup e.1 = some e.2.2 → Meth G.K (G.ca c) e.2.1 (G.fa e.2.2)) ∧ (∀ (c : Nat) (k : ClsD), G.T.cls[c]? = some k → ∀ g', k.meths.lookup e.1 = some g' → g' = e.2.2) ∧
    ∀ (c : Nat) (k : ClsD), G.T.cls[c]? = some k → k.meths.lookup e.1 = some e.2.2 → ∀ q ∈ k.flds, (e.2.1 == G.fnm q) = false
  sm : ∀ e ∈ S.sm, SMeth G.K (G.ca e.2.2.1) e.2.1 (G.fa e.2.2.2)
  cat : S.cat = true → CatF G.K mg ∧ ErrsF G mg
  xc : ∀ (x : Str) (c : Nat), S.gl.lookup x = some (.exc c) → mg x = some (.ref (G.xa c)) ∧ ∃ k fl fI, G.T.xcs[c]? = some k ∧ k.flds = [fl] ∧ XcF G.K (G.xa c) fI (G.fnm fl)
structure At (N : List Str) (sc : Scope) (bs : Bs) (X : Cx) : Prop where
  here : Here P w mg base G n X
  hN : X.N = N
  nd : N.Nodup
  hsc : X.env.scope = sc
  fn : ∀ x, (match bs.b with
    | none => true
    | some b => b.names.lookup x == some .cell) = true → X.fn x = true
  big : bs.r = true → Room (3 * n + 6) X.A ∧ LamAt G mg base X.env.code X.env.qual
end
section
variable {P : Program} {w : World} {mg : Str → Option Value} {base : Heap} {G : Gd} {C : Cfg} {S : Stat} {FI : Nat → FnI} {n : Nat} {N : List Str} {sc : Scope} {bs : Bs} {X : Cx}
theorem At.blk (h : At P w mg base G n N sc bs X) {scope : Scope} : BX X scope (At P w mg base G n N (relS scope sc) (.of scope)) := fun s H Cd cl fp =>
  ⟨⟨h.here.prog, h.here.w, h.here.K, h.here.mg, h.here.base, h.here.calm, h.here.gd, h.here.room⟩, h.hN, h.nd, by
    show relS scope X.env.scope = _
    rw [h.hsc], fun x e => e, fun e => nomatch e⟩
theorem vis_of (h : At P w mg base G n N sc bs X) {x : Str} (e : visB sc x = true) : Vis X.env.scope x := by
  unfold visB at e
  unfold Vis
  rw [h.hsc]
  split at e <;> first | exact .inl (by assumption) | exact .inr (.inl (by assumption)) | exact .inr (.inr (by assumption)) | cases e
theorem gl_of (h : At P w mg base G n N sc bs X) {x : Str} (e : glB sc x = true) : Gl X x := by
  unfold glB at e
  show X.env.scope.names.lookup x = _
  rw [h.hsc]
  split at e <;> first | assumption | cases e
theorem nd_of {x : Str} (e : ndB x = true) : (x == ("__debug__" : Str)) = false ∧ (x == ("__classdict__" : Str)) = false := by
  unfold ndB at e
  simpa [Bool.and_eq_true] using e
theorem nm_of (h : At P w mg base G n N sc bs X) {x : Str} {i : Nat} (h1 : N[i]? = some x) (e : locB sc bs x = true) : X.N[i]? = some x ∧ Loc X.env.scope x ∧ (X.fn x = true ∨ X.env.scope.names.lookup x = some .local) := by
  unfold locB at e
  rw [h.hN]
  unfold L2.Loc
  rw [h.hsc]
  split at e
  · rename_i k; exact ⟨h1, .inl k, .inr k⟩
  · rename_i k
    refine ⟨h1, .inr k, .inl (h.fn x ?_)⟩
    cases hb : bs.b with
    | none => rfl
    | some b => rw [hb] at e; simpa using e
  · cases e
theorem blt_of (L : Lib P w mg base G C S FI n) (h : At P w mg base G n N sc bs X) {x : Str} (e : bltB S sc x = true) : Gl X x ∧ X.mg x = none := by
  unfold bltB at e
  rw [Bool.and_eq_true] at e
  exact ⟨gl_of h e.1, by rw [h.here.mg]; exact L.bl x (by simpa using e.2)⟩
theorem glv_of (h : At P w mg base G n N sc bs X) {x : Str} {g : GV} (e : glvB S sc x g = true) : Gl X x ∧ S.gl.lookup x = some g ∧ (x == ("__debug__" : Str)) = false := by
  unfold glvB at e
  rw [Bool.and_eq_true, Bool.and_eq_true] at e
  exact ⟨gl_of h e.1.1, by simpa using e.1.2, (nd_of e.2).1⟩
theorem op_of {op : Bop} {o : Operator} (h : opB op o = true) : o = opOf op := by
  cases op <;> cases o <;> first | rfl | cases h
theorem cop_of {op : Cop} {o : CmpOp} (h : copB op o = true) : o = copOf op := by
  cases op <;> cases o <;> first | rfl | cases h
theorem const_of (xc : XC X G C) {e : Expr} {d : D} (h : chkC e d = true) : SE X G C e (.cst d) := by
  unfold chkC at h
  split at h
  · split at h
    · exact se_cst xc (fun _ => rfl) pe_non fun _ _ => .non
    · have := of_decide_eq_true h
      subst this
      exact se_cst xc (fun _ => rfl) pe_bl fun _ _ => .bl _
    · have := of_decide_eq_true h
      subst this
      exact se_cst xc (fun _ => rfl) pe_int fun _ _ => .int _
    · rw [Bool.and_eq_true] at h
      have := of_decide_eq_true h.1
      subst this
      have hs := h.2
      unfold sOkB at hs
      rw [Bool.and_eq_true] at hs
      exact se_cst xc (fun _ => rfl) pe_str fun _ _ => .str ⟨of_decide_eq_true hs.1, hs.2⟩
    · cases h
  · cases h
theorem ty_of (L : Lib P w mg base G C S FI n) (h : At P w mg base G n N sc bs X) {e : Expr} {t : TyK} (hb : tyB S sc e t = true) : PE X e (tC (tkV G t)) ∧ ∀ c, t = .cls c → c < G.T.cls.length := by
  unfold tyB at hb
  split at hb
  · rename_i x p
    have blt : ∀ (T : String), x = T → bootBuiltins T = some (.type T) → ((T : Str) ≠ "__name__") → ((T : Str) == ("__debug__" : Str)) = false → bltB S sc x = true → PE X (.Name x p) (tC (.ty T)) := fun T hx hv hn hd hb => by
      subst hx
      obtain ⟨g, m⟩ := blt_of L h hb
      exact ⟨fun pins s σ H Q I q => ld_blt I g m hv ⟨.ty T, H, I, rfl, q⟩ hn hd⟩
    cases t with
    | cls c =>
      simp only [Bool.and_eq_true] at hb
      obtain ⟨g, l, d⟩ := glv_of h hb.1
      refine ⟨pe_glob g (by rw [h.here.mg]; exact L.cl x c l) rfl d, fun c' e => ?_⟩
      cases e
      have := of_decide_eq_true hb.2
      rwa [L.ST] at this
    | int => simp only [Bool.and_eq_true] at hb; exact ⟨blt "int" (of_decide_eq_true hb.1) (by decide +kernel) (by decide) (by decide) hb.2, fun _ e => by cases e⟩
    | bool => simp only [Bool.and_eq_true] at hb; exact ⟨blt "bool" (of_decide_eq_true hb.1) (by decide +kernel) (by decide) (by decide) hb.2, fun _ e => by cases e⟩
    | str => simp only [Bool.and_eq_true] at hb; exact ⟨blt "str" (of_decide_eq_true hb.1) (by decide +kernel) (by decide) (by decide) hb.2, fun _ e => by cases e⟩
    | tup => simp only [Bool.and_eq_true] at hb; exact ⟨blt "tuple" (of_decide_eq_true hb.1) (by decide +kernel) (by decide) (by decide) hb.2, fun _ e => by cases e⟩
    | lst => simp only [Bool.and_eq_true] at hb; exact ⟨blt "list" (of_decide_eq_true hb.1) (by decide +kernel) (by decide) (by decide) hb.2, fun _ e => by cases e⟩
  · cases hb
/-! ### rows -/
theorem rows_ses {es : List Expr} {i : IR} (h : PJs X G C es i) (ns : es.all notStar = true) : SEs X G C es i := by
  induction h with
  | nil => exact ses_nil
  | cons h r ih =>
    rw [List.all_cons, Bool.and_eq_true] at ns
    exact ses_cons ns.1 h (ih ns.2)
theorem rows_len {es : List Expr} {i : IR} (h : PJs X G C es i) : ∀ {se : En} {M M1 : Mem} {xs : List D}, evs C i se M = some (xs, M1) → xs.length = es.length := by
  induction h with
  | nil => intro se M M1 xs e; simp only [evs] at e; cases e; rfl
  | cons h r ih =>
    intro se M M1 xs e
    simp only [evs] at e
    obtain ⟨x, m1, _, e⟩ := bnd_inv e
    obtain ⟨ys, m2, e2, e⟩ := bnd_inv e
    cases e
    simp [ih e2]
theorem rows_sks : ∀ {kws : List Keyword} {i : IR}, PJs X G C (kws.map (·.value)) i → SKs X G C kws i
  | [], _, .nil => sks_nil
  | ⟨nm, a, p⟩ :: kws, _, .cons h r => sks_cons h (rows_sks r)
theorem rows_nil {es : List Expr} {i : IR} (h : PJs X G C es i) (e : es = []) : i = .nil := by
  subst e
  cases h
  rfl
end
end Dn

set_option Elab.async false
set_option linter.all false
set_option maxRecDepth 100000
set_option maxHeartbeats 8000000
/-! Dn, part V: what the check lets pass is right. -/
namespace Dn
open PySem PySem.Spec PyProof.Rows L2
section
variable {P : Program} {w : World} {mg : Str → Option Value} {base : Heap} {G : Gd} {C : Cfg} {S : Stat} {FI : Nat → FnI} {n : Nat} {N : List Str}
theorem tgn_of {sc : Scope} {bs : Bs} {X : Cx} (h : At P w mg base G n N sc bs X) {e : Expr} {i : Nat} (hb : tgN N sc bs e i = true) : TgName X e i := by
  unfold tgN at hb
  split at hb
  · rename_i x p
    rw [Bool.and_eq_true] at hb
    obtain ⟨a, b, c⟩ := nm_of h (of_decide_eq_true hb.1) hb.2
    exact ⟨x, p, rfl, a, b, c⟩
  · cases hb
theorem tgns_of {sc : Scope} {bs : Bs} {X : Cx} (h : At P w mg base G n N sc bs X) : ∀ {es : List Expr} {t : List Nat}, tgNs N sc bs es t = true → All2 (TgName X) es t
  | [], [], _ => trivial
  | [], _ :: _, hb => by cases hb
  | _ :: _, [], hb => by cases hb
  | e :: es, i :: t, hb => by
    simp only [tgNs, Bool.and_eq_true] at hb
    exact ⟨tgn_of h hb.1, tgns_of h hb.2⟩
theorem tg_of {sc : Scope} {bs : Bs} {X : Cx} (h : At P w mg base G n N sc bs X) {tg : Expr} {t : List Nat} {tk : Bool} (hb : tgB N sc bs tg t tk = true) : TgOk X tg t tk := by
  unfold tgB at hb
  unfold TgOk
  cases tk with
  | true =>
    rw [if_pos rfl] at hb ⊢
    split at hb
    · exact ⟨_, _, _, rfl, tgns_of h hb⟩
    · cases hb
  | false =>
    rw [if_neg Bool.false_ne_true] at hb ⊢
    split at hb
    · exact ⟨_, rfl, tgn_of h hb⟩
    · cases hb
/-- a source, from its rows -/
theorem it_of (L : Lib P w mg base G C S FI n) {sc : Scope} {bs : Bs} {X : Cx} (h : At P w mg base G n N sc bs X) {tg iter : Expr} {it : ItK} {src : IR} {l : List Expr} (hb : itB S sc tg iter it = some l) (r : PJs X G C l src) : PI X tg iter (tIt G C it src) := by
  have hK := (L.xo X h.here).K
  unfold itB at hb
  split at hb
  · cases hb
    cases r with
    | cons a r => cases r; exact pi_val hK a
  · split at hb
    · rename_i hh
      simp only [Bool.and_eq_true] at hh
      obtain ⟨⟨h1, h2⟩, h3⟩ := hh
      have := of_decide_eq_true h1
      subst this
      cases hb
      cases r with
      | cons a r => cases r; exact pi_r1 h3 (blt_of L h h2).1 (blt_of L h h2).2 a
    · cases hb
  · split at hb
    · rename_i hh
      simp only [Bool.and_eq_true] at hh
      obtain ⟨⟨⟨h1, h2⟩, h3⟩, h4⟩ := hh
      have := of_decide_eq_true h1
      subst this
      cases hb
      cases r with
      | cons a r =>
        cases r with
        | cons b r => cases r; exact pi_r2 h3 h4 (blt_of L h h2).1 (blt_of L h h2).2 a b
    · cases hb
  · split at hb
    · split at hb
      · rename_i hh
        simp only [Bool.and_eq_true] at hh
        obtain ⟨⟨h1, h2⟩, h3⟩ := hh
        have := of_decide_eq_true h1
        subst this
        cases hb
        cases r with
        | cons a r => cases r; exact pi_en hK h3 (blt_of L h h2).1 (blt_of L h h2).2 a
      · cases hb
    · cases hb
  · split at hb
    · split at hb
      · rename_i hh
        simp only [Bool.and_eq_true] at hh
        obtain ⟨⟨⟨h1, h2⟩, h3⟩, h4⟩ := hh
        have := of_decide_eq_true h1
        subst this
        cases hb
        cases r with
        | cons a r =>
          cases r with
          | cons b r => cases r; exact pi_zp hK h3 h4 (blt_of L h h2).1 (blt_of L h h2).2 a b
      · cases hb
    · cases hb
  · cases hb
theorem sh_of (L : Lib P w mg base G C S FI n) {f m : Nat} {ks : List Nat} {kws : List Keyword} (hb : shB S f m ks kws = true) : (∃ g, G.T.fns[f]? = some g ∧ Shape G (FI f) g m ks (kwNames kws)) ∧ ks.length = kws.length := by
  unfold shB at hb
  rw [Bool.and_eq_true] at hb
  exact ⟨L.sh _ (of_decide_eq_true hb.1), of_decide_eq_true hb.2⟩
/-- what is shown of each piece -/
structure Snd (P : Program) (w : World) (mg : Str → Option Value) (base : Heap) (G : Gd) (C : Cfg) (S : Stat) (FI : Nat → FnI) (n : Nat) (N : List Str) (i : IR) : Prop where
  e : ∀ (sc : Scope) (bs : Bs) (X : Cx) (e : Expr), At P w mg base G n N sc bs X → chkE S N sc bs i e = true → SE X G C e i
  r : ∀ (sc : Scope) (bs : Bs) (X : Cx) (es : List Expr), At P w mg base G n N sc bs X → chkEs S N sc bs i es = true → PJs X G C es i
  b : ∀ (sc : Scope) (bs : Bs) (X : Cx) (op : BoolOp) (es : List Expr) (p : Pos), At P w mg base G n N sc bs X → chkE S N sc bs i (.BoolOp op es p) = true → (2 ≤ es.length → SB X G C op es i)
  x : ∀ (sc : Scope) (bs : Bs) (X : Cx) (e : Expr), At P w mg base G n N sc bs X → chkE S N sc bs i e = true → SX X G C e i
theorem snd_plain {i : IR} (he : ∀ (sc : Scope) (bs : Bs) (X : Cx) (e : Expr), At P w mg base G n N sc bs X → chkE S N sc bs i e = true → SE X G C e i) (hr : ∀ (sc : Scope) (bs : Bs) (es : List Expr), chkEs S N sc bs i es = false)
    (hb : ∀ (sc : Scope) (bs : Bs) (op : BoolOp) (es : List Expr) (p : Pos), chkE S N sc bs i (.BoolOp op es p) = false)
    (hx : ∀ (sc : Scope) (bs : Bs) (X : Cx) (e : Expr), At P w mg base G n N sc bs X → chkE S N sc bs i e = true → SX X G C e i := by exact fun _ _ _ _ _ _ => sx_none fun _ _ => rfl) : Snd P w mg base G C S FI n N i :=
  ⟨he, fun sc bs X es _ h => (by rw [hr] at h; cases h), fun sc bs X op es p _ h => (by rw [hb] at h; cases h), hx⟩
theorem cond_of {sc : Scope} {bs : Bs} {X : Cx} {cond : IR} (hc : Snd P w mg base G C S FI n N cond) (h : At P w mg base G n N sc bs X) {ifs : List Expr} (hb : (match ifs with
      | [] => isNil cond
      | [c] => !isNil cond && chkE S N sc bs cond c
      | _ => false) = true) : CondOk X G C ifs cond := by
  split at hb
  · refine ⟨.inl ⟨rfl, ?_⟩⟩
    cases cond <;> first | rfl | cases hb
  · rw [Bool.and_eq_true] at hb
    exact ⟨.inr ⟨_, rfl, by simpa using hb.1, hc.e _ _ _ _ h hb.2⟩⟩
  · cases hb
theorem lamP_eq {params : Arguments} (h : lamP params = true) : params = ⟨[], [], none, [], [], none, []⟩ := by
  unfold lamP at h
  split at h
  · rfl
  · cases h
theorem sound (L : Lib P w mg base G C S FI n) (i : IR) : Snd P w mg base G C S FI n N i := by
  induction i with
  | nil =>
    refine ⟨fun sc bs X e h hb => ?_, fun sc bs X es h hb => ?_, fun sc bs X op es p h hb => ?_, fun _ _ _ _ _ _ => sx_none fun _ _ => rfl⟩
    · unfold chkE at hb; cases hb
    · cases es with
      | nil => exact .nil
      | cons e es => unfold chkEs at hb; cases hb
    · unfold chkE at hb; cases hb
  | cons a r iha ihr =>
    refine ⟨fun sc bs X e h hb => ?_, fun sc bs X es h hb => ?_, fun sc bs X op es p h hb => ?_, fun _ _ _ _ _ _ => sx_none fun _ _ => rfl⟩
    · unfold chkE at hb; cases hb
    · cases es with
      | nil => unfold chkEs at hb; cases hb
      | cons e es =>
        unfold chkEs at hb
        rw [Bool.and_eq_true] at hb
        exact .cons (iha.e _ _ _ _ h hb.1) (ihr.r _ _ _ _ h hb.2)
    · unfold chkE at hb; cases hb
  | var i =>
    refine snd_plain (fun sc bs X e h hb => ?_) (fun _ _ _ => rfl) (fun _ _ _ _ _ => rfl)
    have xo := L.xo X h.here
    unfold chkE at hb
    split at hb <;> first | (cases hb; done) | (rename_i heq; cases heq; done) | skip
    rename_i heq
    cases heq
    rename_i x p
    simp only [Bool.and_eq_true] at hb
    exact se_var xo.toXC (by rw [h.hN]; exact of_decide_eq_true hb.1.1) (vis_of h hb.1.2) (nd_of hb.2).1 (nd_of hb.2).2
  | cst d =>
    refine snd_plain (fun sc bs X e h hb => ?_) (fun _ _ _ => rfl) (fun _ _ _ _ _ => rfl)
    unfold chkE at hb
    exact const_of (L.xo X h.here).toXC hb
  | dict0 =>
    refine snd_plain (fun sc bs X e h hb => ?_) (fun _ _ _ => rfl) (fun _ _ _ _ _ => rfl)
    unfold chkE at hb
    split at hb <;> first | (cases hb; done) | (rename_i heq; cases heq; done) | skip
    exact se_dict0 (L.xo X h.here).toXC
  | dict1 ks v =>
    refine snd_plain (fun sc bs X e h hb => ?_) (fun _ _ _ => rfl) (fun _ _ _ _ _ => rfl)
    unfold chkE at hb
    split at hb <;> first | (cases hb; done) | (rename_i heq; cases heq; done) | skip
    rename_i heq
    cases heq
    simp only [Bool.and_eq_true, decide_eq_true_eq] at hb
    obtain ⟨⟨h1, rfl⟩, h3⟩ := hb
    have xo := L.xo X h.here
    exact se_dict1 xo.toXC (by have := xo.un; omega) h1 h3
  | glob g =>
    refine snd_plain (fun sc bs X e h hb => ?_) (fun _ _ _ => rfl) (fun _ _ _ _ _ => rfl)
    have xo := L.xo X h.here
    unfold chkE at hb
    split at hb <;> first | (cases hb; done) | (rename_i heq; cases heq; done) | skip
    rename_i heq
    cases heq
    rename_i x p
    obtain ⟨g1, l, d⟩ := glv_of h hb
    obtain ⟨dd, v, u, e1, e2, e3, e4⟩ := L.cn x g l
    exact se_glob xo.toXC (fun _ => rfl) e1 (pe_glob g1 (by rw [h.here.mg]; exact e2) e3 d) e4
  | bin op a b iha ihb =>
    have both : ∀ (sc : Scope) (bs : Bs) (X : Cx) (e : Expr), At P w mg base G n N sc bs X → chkE S N sc bs (.bin op a b) e = true → SE X G C e (.bin op a b) ∧ SX X G C e (.bin op a b) := fun sc bs X e h hb => by
      have xo := L.xo X h.here
      unfold chkE at hb
      split at hb <;> first | (cases hb; done) | (rename_i heq; cases heq; done) | skip
      rename_i heq
      cases heq
      rename_i x o y p
      simp only [Bool.and_eq_true] at hb
      have := op_of hb.1.1
      subst this
      exact ⟨se_bin xo (iha.e _ _ _ _ h hb.1.2) (ihb.e _ _ _ _ h hb.2), sx_bin xo (iha.e _ _ _ _ h hb.1.2) (ihb.e _ _ _ _ h hb.2)⟩
    exact snd_plain (fun sc bs X e h hb => (both sc bs X e h hb).1) (fun _ _ _ => rfl) (fun _ _ _ _ _ => rfl) (fun sc bs X e h hb => (both sc bs X e h hb).2)
  | neg a iha =>
    refine snd_plain (fun sc bs X e h hb => ?_) (fun _ _ _ => rfl) (fun _ _ _ _ _ => rfl)
    have xo := L.xo X h.here
    unfold chkE at hb
    split at hb <;> first | (cases hb; done) | (rename_i heq; cases heq; done) | skip
    rename_i heq
    cases heq
    exact se_neg xo.toXC (iha.e _ _ _ _ h hb)
  | not a iha =>
    refine snd_plain (fun sc bs X e h hb => ?_) (fun _ _ _ => rfl) (fun _ _ _ _ _ => rfl)
    have xo := L.xo X h.here
    unfold chkE at hb
    split at hb <;> first | (cases hb; done) | (rename_i heq; cases heq; done) | skip
    rename_i heq
    cases heq
    exact se_not xo.toXC (iha.e _ _ _ _ h hb)
  | cmp op a b iha ihb =>
    refine snd_plain (fun sc bs X e h hb => ?_) (fun _ _ _ => rfl) (fun _ _ _ _ _ => rfl)
    have xo := L.xo X h.here
    unfold chkE at hb
    split at hb <;> first | (cases hb; done) | (rename_i heq; cases heq; done) | skip
    rename_i heq
    cases heq
    rename_i x o y p
    simp only [Bool.and_eq_true] at hb
    have := cop_of hb.1.1.1
    subst this
    exact se_cmp xo (of_decide_eq_true hb.1.1.2) (iha.e _ _ _ _ h hb.1.2) (ihb.e _ _ _ _ h hb.2)
  | cmp2 op op' a b c iha ihb ihc =>
    refine snd_plain (fun sc bs X e h hb => ?_) (fun _ _ _ => rfl) (fun _ _ _ _ _ => rfl)
    have xo := L.xo X h.here
    unfold chkE at hb
    split at hb <;> first | (cases hb; done) | (rename_i heq; cases heq; done) | skip
    rename_i heq
    cases heq
    rename_i x o o' y z p
    simp only [Bool.and_eq_true] at hb
    obtain ⟨⟨⟨⟨⟨h1, h2⟩, h0⟩, h3⟩, h4⟩, h5⟩ := hb
    have := cop_of h1
    subst this
    have := cop_of h2
    subst this
    exact se_cmp2 xo (of_decide_eq_true h0) (iha.e _ _ _ _ h h3) (ihb.e _ _ _ _ h h4) (ihc.e _ _ _ _ h h5)
  | and a b iha ihb =>
    have key : ∀ (sc : Scope) (bs : Bs) (X : Cx) (op : BoolOp) (es : List Expr) (p : Pos), At P w mg base G n N sc bs X → chkE S N sc bs (.and a b) (.BoolOp op es p) = true → SB X G C op es (.and a b) := fun sc bs X op es p h hb => by
      have xo := L.xo X h.here
      cases op with
      | And =>
        rcases es with _ | ⟨x, _ | ⟨y, r⟩⟩
        · exact absurd (show false = true from hb) Bool.false_ne_true
        · exact absurd (show false = true from hb) Bool.false_ne_true
        · cases r with
          | nil =>
            have hb : (chkE S N sc bs a x && chkE S N sc bs b y) = true := hb
            rw [Bool.and_eq_true] at hb
            exact sb_and xo.toXC (iha.e _ _ _ _ h hb.1) (sb_and1 (ihb.e _ _ _ _ h hb.2))
          | cons z r =>
            have hb : (chkE S N sc bs a x && chkE S N sc bs b (.BoolOp .And (y :: z :: r) p)) = true := hb
            rw [Bool.and_eq_true] at hb
            exact sb_and xo.toXC (iha.e _ _ _ _ h hb.1) (ihb.b _ _ _ _ _ _ h hb.2 (by simp))
      | _ =>
        rcases es with _ | ⟨x, _ | ⟨y, r⟩⟩ <;> exact absurd (show false = true from hb) Bool.false_ne_true
    refine ⟨fun sc bs X e h hb => ?_, fun sc bs X es h hb => absurd (show false = true from hb) Bool.false_ne_true, fun sc bs X op es p h hb _ => key sc bs X op es p h hb, fun _ _ _ _ _ _ => sx_none fun _ _ => rfl⟩
    cases e with
    | BoolOp op es p => exact (key sc bs X op es p h hb).se
    | _ => exact absurd (show false = true from hb) Bool.false_ne_true
  | or a b iha ihb =>
    have key : ∀ (sc : Scope) (bs : Bs) (X : Cx) (op : BoolOp) (es : List Expr) (p : Pos), At P w mg base G n N sc bs X → chkE S N sc bs (.or a b) (.BoolOp op es p) = true → SB X G C op es (.or a b) := fun sc bs X op es p h hb => by
      have xo := L.xo X h.here
      cases op with
      | Or =>
        rcases es with _ | ⟨x, _ | ⟨y, r⟩⟩
        · exact absurd (show false = true from hb) Bool.false_ne_true
        · exact absurd (show false = true from hb) Bool.false_ne_true
        · cases r with
          | nil =>
            have hb : (chkE S N sc bs a x && chkE S N sc bs b y) = true := hb
            rw [Bool.and_eq_true] at hb
            exact sb_or xo.toXC (iha.e _ _ _ _ h hb.1) (sb_or1 (ihb.e _ _ _ _ h hb.2))
          | cons z r =>
            have hb : (chkE S N sc bs a x && chkE S N sc bs b (.BoolOp .Or (y :: z :: r) p)) = true := hb
            rw [Bool.and_eq_true] at hb
            exact sb_or xo.toXC (iha.e _ _ _ _ h hb.1) (ihb.b _ _ _ _ _ _ h hb.2 (by simp))
      | _ =>
        rcases es with _ | ⟨x, _ | ⟨y, r⟩⟩ <;> exact absurd (show false = true from hb) Bool.false_ne_true
    refine ⟨fun sc bs X e h hb => ?_, fun sc bs X es h hb => absurd (show false = true from hb) Bool.false_ne_true, fun sc bs X op es p h hb _ => key sc bs X op es p h hb, fun _ _ _ _ _ _ => sx_none fun _ _ => rfl⟩
    cases e with
    | BoolOp op es p => exact (key sc bs X op es p h hb).se
    | _ => exact absurd (show false = true from hb) Bool.false_ne_true
  | ite a b c iha ihb ihc =>
    refine snd_plain (fun sc bs X e h hb => ?_) (fun _ _ _ => rfl) (fun _ _ _ _ _ => rfl)
    have xo := L.xo X h.here
    unfold chkE at hb
    split at hb <;> first | (cases hb; done) | (rename_i heq; cases heq; done) | skip
    rename_i heq
    cases heq
    simp only [Bool.and_eq_true] at hb
    exact se_ite (iha.e _ _ _ _ h hb.1.1) (ihb.e _ _ _ _ h hb.1.2) (ihc.e _ _ _ _ h hb.2)
  | tup l ih =>
    refine snd_plain (fun sc bs X e h hb => ?_) (fun _ _ _ => rfl) (fun _ _ _ _ _ => rfl)
    have xo := L.xo X h.here
    unfold chkE at hb
    split at hb <;> first | (cases hb; done) | (rename_i heq; cases heq; done) | skip
    rename_i heq
    cases heq
    simp only [Bool.and_eq_true] at hb
    exact se_tup xo.toXC (rows_ses (ih.r _ _ _ _ h hb.2) hb.1)
  | lst k l ih =>
    refine snd_plain (fun sc bs X e h hb => ?_) (fun _ _ _ => rfl) (fun _ _ _ _ _ => rfl)
    have xo := L.xo X h.here
    unfold chkE at hb
    split at hb <;> first | (cases hb; done) | (rename_i heq; cases heq; done) | skip
    rename_i heq
    cases heq
    simp only [Bool.and_eq_true] at hb
    exact se_lst xo.toXC (rows_ses (ih.r _ _ _ _ h hb.2) hb.1)
  | idx a b iha ihb =>
    refine snd_plain (fun sc bs X e h hb => ?_) (fun _ _ _ => rfl) (fun _ _ _ _ _ => rfl)
    have xo := L.xo X h.here
    unfold chkE at hb
    split at hb <;> first | (cases hb; done) | (rename_i heq; cases heq; done) | skip
    rename_i heq
    cases heq
    simp only [Bool.and_eq_true] at hb
    exact se_idx xo (not_slice hb.1.1) (iha.e _ _ _ _ h hb.1.2) (ihb.e _ _ _ _ h hb.2)
  | slice a lo hi iha ihl ihh =>
    refine snd_plain (fun sc bs X e h hb => ?_) (fun _ _ _ => rfl) (fun _ _ _ _ _ => rfl)
    have xo := L.xo X h.here
    unfold chkE at hb
    split at hb <;> first | (cases hb; done) | (rename_i heq; cases heq; done) | skip
    rename_i heq
    cases heq
    rename_i x l hh p2 p
    simp only [Bool.and_eq_true] at hb
    obtain ⟨⟨h1, h2⟩, h3⟩ := hb
    refine se_slice xo (iha.e _ _ _ _ h h1) ?_ ?_
    · cases l with
      | none =>
        refine ⟨.inl ⟨rfl, ?_⟩⟩
        cases lo <;> first | rfl | cases h2
      | some y =>
        simp only [Bool.and_eq_true] at h2
        exact ⟨.inr ⟨y, rfl, by simpa using h2.1, ihl.e _ _ _ _ h h2.2⟩⟩
    · cases hh with
      | none =>
        refine ⟨.inl ⟨rfl, ?_⟩⟩
        cases hi <;> first | rfl | cases h3
      | some y =>
        simp only [Bool.and_eq_true] at h3
        exact ⟨.inr ⟨y, rfl, by simpa using h3.1, ihh.e _ _ _ _ h h3.2⟩⟩
  | rev a iha =>
    refine snd_plain (fun sc bs X e h hb => ?_) (fun _ _ _ => rfl) (fun _ _ _ _ _ => rfl)
    have xo := L.xo X h.here
    unfold chkE at hb
    split at hb <;> first | (cases hb; done) | (rename_i heq; cases heq; done) | skip
    rename_i heq
    cases heq
    simp only [Bool.and_eq_true] at hb
    have := of_decide_eq_true hb.1
    subst this
    exact se_rev xo (iha.e _ _ _ _ h hb.2)
  | stp a b iha =>
    refine snd_plain (fun sc bs X e h hb => ?_) (fun _ _ _ => rfl) (fun _ _ _ _ _ => rfl)
    have xo := L.xo X h.here
    unfold chkE at hb
    split at hb <;> first | (cases hb; done) | (rename_i heq; cases heq; done) | skip
    rename_i heq
    cases heq
    simp only [Bool.and_eq_true] at hb
    obtain ⟨⟨h1, h2⟩, h3⟩ := hb
    have := of_decide_eq_true h1
    subst this
    split at h3
    · cases b
      · exact se_stp xo (iha.e _ _ _ _ h h2) po_none fun _ _ => ⟨rfl, rfl⟩
      · cases h3
    · simp only [Bool.and_eq_true] at h3
      have h4 := of_decide_eq_true h3.2
      subst h4
      rw [h3.1]
      exact se_stp xo (iha.e _ _ _ _ h h2) (po_some pe_int) fun _ _ => ⟨1, rfl, rfl, rfl⟩
    · cases h3
  | attr a f iha =>
    refine snd_plain (fun sc bs X e h hb => ?_) (fun _ _ _ => rfl) (fun _ _ _ _ _ => rfl)
    have xo := L.xo X h.here
    unfold chkE at hb
    split at hb <;> first | (cases hb; done) | (rename_i heq; cases heq; done) | skip
    rename_i heq
    cases heq
    simp only [Bool.and_eq_true] at hb
    obtain ⟨e1, e2⟩ := L.nm _ _ (of_decide_eq_true hb.1.1)
    subst e1
    exact se_attr xo e2 hb.1.2 (iha.e _ _ _ _ h hb.2)
  | isin a t iha =>
    refine snd_plain (fun sc bs X e h hb => ?_) (fun _ _ _ => rfl) (fun _ _ _ _ _ => rfl)
    have xo := L.xo X h.here
    unfold chkE at hb
    split at hb <;> first | (cases hb; done) | (rename_i heq; cases heq; done) | skip
    rename_i heq
    cases heq
    simp only [Bool.and_eq_true] at hb
    obtain ⟨⟨⟨⟨⟨h1, h2⟩, h3⟩, h4⟩, h5⟩, h6⟩ := hb
    have := of_decide_eq_true h1
    subst this
    obtain ⟨g, m⟩ := blt_of L h h2
    obtain ⟨t1, t2⟩ := ty_of L h h5
    exact se_isin xo.toXC g m h3 h4 (iha.e _ _ _ _ h h6) t1 t2
  | call f ks l lk ihl ihk =>
    have both : ∀ (sc : Scope) (bs : Bs) (X : Cx) (e : Expr), At P w mg base G n N sc bs X → chkE S N sc bs (.call f ks l lk) e = true → SE X G C e (.call f ks l lk) ∧ SX X G C e (.call f ks l lk) := fun sc bs X e h hb => by
      have xo := L.xo X h.here
      unfold chkE at hb
      split at hb <;> first | (cases hb; done) | (rename_i heq; cases heq; done) | skip
      · rename_i heq
        cases heq
        simp only [Bool.and_eq_true] at hb
        obtain ⟨⟨⟨⟨⟨h1, h2⟩, h3⟩, h4⟩, h5⟩, h6⟩ := hb
        obtain ⟨g, lu, d⟩ := glv_of h h1
        obtain ⟨m1, _⟩ := L.fn _ _ lu
        obtain ⟨⟨gg, e1, sh⟩, hks⟩ := sh_of L h4
        have r1 := ihl.r _ _ _ _ h h5
        have r2 := ihk.r _ _ _ _ h h6
        exact ⟨se_call xo.toXC xo.hh (L.fnf X h.here f gg e1) g (by rw [h.here.mg]; exact m1) d h2 h3 (rows_nil r1) (rows_ses r1 h2) (rows_sks r2) rfl hks sh (rows_len r1) (fun e => by have := rows_len r2 e; rwa [List.length_map] at this), sx_call xo.toXC xo.hh (L.fnf X h.here f gg e1) g (by rw [h.here.mg]; exact m1) d h2 h3 (rows_nil r1) (rows_ses r1 h2) (rows_sks r2) rfl hks sh (rows_len r1) (fun e => by have := rows_len r2 e; rwa [List.length_map] at this)⟩
      · rename_i heq
        cases heq
        simp only [Bool.and_eq_true] at hb
        obtain ⟨⟨⟨⟨⟨⟨⟨⟨h1, h2⟩, h3⟩, h4⟩, h5⟩, h6⟩, h7⟩, h8⟩, h9⟩ := hb
        obtain ⟨q, hq, h1⟩ := List.any_eq_true.mp h1
        obtain ⟨x', m', c', f'⟩ := q
        simp only [Bool.and_eq_true] at h1
        obtain ⟨⟨⟨z1, z2⟩, z3⟩, z4⟩ := h1
        have := of_decide_eq_true z1
        subst this
        have := of_decide_eq_true z2
        subst this
        have := of_decide_eq_true z3
        subst this
        obtain ⟨g, lu, d⟩ := glv_of h z4
        obtain ⟨⟨gg, e1, sh⟩, hks⟩ := sh_of L h7
        have r1 := ihl.r _ _ _ _ h h8
        have r2 := ihk.r _ _ _ _ h h9
        exact ⟨se_smeth xo g (by rw [h.here.mg]; exact L.cl _ _ lu) d (L.sm _ hq) (L.fnf X h.here _ gg e1) h2 h3 (of_decide_eq_true h4) h5 h6 (rows_nil r1) (rows_ses r1 h5) (rows_sks r2) hks sh (rows_len r1) (fun e => by have := rows_len r2 e; rwa [List.length_map] at this), sx_smeth xo g (by rw [h.here.mg]; exact L.cl _ _ lu) d (L.sm _ hq) (L.fnf X h.here _ gg e1) h2 h3 (of_decide_eq_true h4) h5 h6 (rows_nil r1) (rows_ses r1 h5) (rows_sks r2) hks sh (rows_len r1) (fun e => by have := rows_len r2 e; rwa [List.length_map] at this)⟩
    exact snd_plain (fun sc bs X e h hb => (both sc bs X e h hb).1) (fun _ _ _ => rfl) (fun _ _ _ _ _ => rfl) (fun sc bs X e h hb => (both sc bs X e h hb).2)
  | make c ks l lk ihl ihk =>
    have both : ∀ (sc : Scope) (bs : Bs) (X : Cx) (e : Expr), At P w mg base G n N sc bs X → chkE S N sc bs (.make c ks l lk) e = true → SE X G C e (.make c ks l lk) ∧ SX X G C e (.make c ks l lk) := fun sc bs X e h hb => by
      have xo := L.xo X h.here
      unfold chkE at hb
      split at hb <;> first | (cases hb; done) | (rename_i heq; cases heq; done) | skip
      rename_i heq
      cases heq
      simp only [Bool.and_eq_true] at hb
      obtain ⟨⟨⟨⟨⟨⟨h1, h0⟩, h2⟩, h3⟩, h4⟩, h5⟩, h6⟩ := hb
      obtain ⟨g, lu, d⟩ := glv_of h h1
      obtain ⟨k, hk, mk⟩ := L.mks c (of_decide_eq_true h0)
      rw [L.ST, hk] at h4
      obtain ⟨⟨gg, e1, sh⟩, hks⟩ := sh_of L h4
      have r1 := ihl.r _ _ _ _ h h5
      have r2 := ihk.r _ _ _ _ h h6
      exact ⟨se_make xo hk mk (L.fnf X h.here _ gg e1) g (by rw [h.here.mg]; exact L.cl _ _ lu) d h2 h3 (rows_nil r1) (rows_ses r1 h2) (rows_sks r2) hks sh (rows_len r1) (fun e => by have := rows_len r2 e; rwa [List.length_map] at this), sx_make xo hk mk (L.fnf X h.here _ gg e1) g (by rw [h.here.mg]; exact L.cl _ _ lu) d h2 h3 (rows_nil r1) (rows_ses r1 h2) (rows_sks r2) hks sh (rows_len r1) (fun e => by have := rows_len r2 e; rwa [List.length_map] at this)⟩
    exact snd_plain (fun sc bs X e h hb => (both sc bs X e h hb).1) (fun _ _ _ => rfl) (fun _ _ _ _ _ => rfl) (fun sc bs X e h hb => (both sc bs X e h hb).2)
  | blt b l ih =>
    refine snd_plain (fun sc bs X e h hb => ?_) (fun _ _ _ => rfl) (fun _ _ _ _ _ => rfl)
    have xo := L.xo X h.here
    unfold chkE at hb
    split at hb <;> first | (cases hb; done) | (rename_i heq; cases heq; done) | skip
    rename_i heq
    cases heq
    simp only [Bool.and_eq_true] at hb
    obtain ⟨⟨⟨h1, h2⟩, h3⟩, h4⟩ := hb
    have := of_decide_eq_true h1
    subst this
    obtain ⟨g, m⟩ := blt_of L h h2
    exact se_blt xo g m (by rw [List.all_cons, Bool.and_eq_true]; simpa using h3) (rows_ses (ih.r _ _ _ _ h h4) (by rw [List.all_cons, Bool.and_eq_true]; simpa using h3))
  | meth m o l iho ihl =>
    refine snd_plain (fun sc bs X e h hb => ?_) (fun _ _ _ => rfl) (fun _ _ _ _ _ => rfl)
    have xo := L.xo X h.here
    unfold chkE at hb
    split at hb <;> first | (cases hb; done) | (rename_i heq; cases heq; done) | skip
    rename_i heq
    cases heq
    simp only [Bool.and_eq_true] at hb
    obtain ⟨⟨⟨⟨⟨h1, h2⟩, h3⟩, h4⟩, h5⟩, h6⟩ := hb
    have r := ihl.r _ _ _ _ h h6
    cases r with
    | cons a r =>
      cases r
      cases m with
      | split =>
        have := of_decide_eq_true h4
        subst this
        exact se_split xo h3 h1 h2 (iho.e _ _ _ _ h h5) a
      | join =>
        have := of_decide_eq_true h4
        subst this
        exact se_join xo h3 h1 h2 (iho.e _ _ _ _ h h5) a
      | partition =>
        have := of_decide_eq_true h4
        subst this
        exact se_partition xo h3 h1 h2 (iho.e _ _ _ _ h h5) a
      | append =>
        have := of_decide_eq_true h4
        subst this
        exact se_append xo h3 h1 h2 (iho.e _ _ _ _ h h5) a
  | ometh fi ks o l lk iho ihl ihk =>
    have both : ∀ (sc : Scope) (bs : Bs) (X : Cx) (e : Expr), At P w mg base G n N sc bs X → chkE S N sc bs (.ometh fi ks o l lk) e = true → SE X G C e (.ometh fi ks o l lk) ∧ SX X G C e (.ometh fi ks o l lk) := fun sc bs X e h hb => by
      have xo := L.xo X h.here
      unfold chkE at hb
      split at hb <;> first | (cases hb; done) | (rename_i heq; cases heq; done) | skip
      rename_i heq
      cases heq
      simp only [Bool.and_eq_true] at hb
      obtain ⟨⟨⟨⟨⟨⟨⟨⟨h1, h2⟩, h3⟩, h4⟩, h5⟩, h6⟩, h7⟩, h8⟩, h9⟩ := hb
      obtain ⟨q, hq, h6⟩ := List.any_eq_true.mp h6
      obtain ⟨fi', m', g'⟩ := q
      simp only [Bool.and_eq_true] at h6
      have := of_decide_eq_true h6.1.1
      subst this
      have := of_decide_eq_true h6.1.2
      subst this
      obtain ⟨m1, m2, m3⟩ := L.mth _ hq
      obtain ⟨⟨gg, e1, sh⟩, hks⟩ := sh_of L h6.2
      have r1 := ihl.r _ _ _ _ h h8
      have r2 := ihk.r _ _ _ _ h h9
      exact ⟨se_ometh xo m1 m2 m3 (L.fnf X h.here _ gg e1) h1 h2 (of_decide_eq_true h3) h4 h5 (rows_nil r1) (iho.e _ _ _ _ h h7) (rows_ses r1 h4) (rows_sks r2) hks sh (rows_len r1) (fun e => by have := rows_len r2 e; rwa [List.length_map] at this), sx_ometh xo m1 m2 m3 (L.fnf X h.here _ gg e1) h1 h2 (of_decide_eq_true h3) h4 h5 (rows_nil r1) (iho.e _ _ _ _ h h7) (rows_ses r1 h4) (rows_sks r2) hks sh (rows_len r1) (fun e => by have := rows_len r2 e; rwa [List.length_map] at this)⟩
    exact snd_plain (fun sc bs X e h hb => (both sc bs X e h hb).1) (fun _ _ _ => rfl) (fun _ _ _ _ _ => rfl) (fun sc bs X e h hb => (both sc bs X e h hb).2)
  | fstr l ih =>
    refine snd_plain (fun sc bs X e h hb => ?_) (fun _ _ _ => rfl) (fun _ _ _ _ _ => rfl)
    have xo := L.xo X h.here
    unfold chkE at hb
    split at hb <;> first | (cases hb; done) | (rename_i heq; cases heq; done) | skip
    rename_i heq
    cases heq
    rename_i es p
    simp only [Bool.and_eq_true] at hb
    have r := ih.r _ _ _ _ h hb.2
    cases r with
    | nil => exact absurd hb.1 (by simp)
    | cons a r =>
      cases r with
      | nil => exact se_fstr1 xo a
      | cons b r => exact se_fstr xo (.cons a (.cons b r))
  | fmt a iha =>
    refine snd_plain (fun sc bs X e h hb => ?_) (fun _ _ _ => rfl) (fun _ _ _ _ _ => rfl)
    have xo := L.xo X h.here
    unfold chkE at hb
    split at hb <;> first | (cases hb; done) | (rename_i heq; cases heq; done) | skip
    rename_i heq
    cases heq
    simp only [Bool.and_eq_true] at hb
    have := of_decide_eq_true hb.1
    subst this
    exact se_fmt xo (iha.e _ _ _ _ h hb.2)
  | comp k t tk it src cond e ihs ihc ihe =>
    refine snd_plain (fun sc bs X e h hb => ?_) (fun _ _ _ => rfl) (fun _ _ _ _ _ => rfl)
    have xo := L.xo X h.here
    unfold chkE at hb
    split at hb <;> first | (cases hb; done) | (rename_i heq; cases heq; done) | skip
    rename_i heq
    cases heq
    simp only [Bool.and_eq_true] at hb
    obtain ⟨⟨⟨⟨⟨⟨⟨⟨h0, h1⟩, h2⟩, h3⟩, h4⟩, h5⟩, h6⟩, h7⟩, h8⟩ := hb
    have := of_decide_eq_true h0
    subst this
    split at h6
    · rename_i l hl
      refine se_comp xo ⟨by rw [h.hN]; exact h.nd, by rw [h.hN, h.hsc]; exact blkOk_by h1, fun i m => of_decide_eq_true (List.all_eq_true.mp h2 i m), fun i m => of_decide_eq_true (List.all_eq_true.mp h3 i m), it_of L h hl (ihs.r _ _ _ _ h h6), fun s H Cd cl fp => tg_of (h.blk s H Cd cl fp) h5,
        fun s H Cd cl fp => cond_of ihc (h.blk s H Cd cl fp) h7, fun s H Cd cl fp => ihe.e _ _ _ _ (h.blk s H Cd cl fp) h8, h4⟩
    · cases h6
  | comp2 k t tk it src t' tk' it' src' cond e ihs ihs' ihc ihe =>
    refine snd_plain (fun sc bs X e h hb => ?_) (fun _ _ _ => rfl) (fun _ _ _ _ _ => rfl)
    have xo := L.xo X h.here
    unfold chkE at hb
    split at hb <;> first | (cases hb; done) | (rename_i heq; cases heq; done) | skip
    rename_i heq
    cases heq
    simp only [Bool.and_eq_true] at hb
    obtain ⟨⟨⟨⟨⟨⟨⟨⟨⟨⟨⟨⟨⟨h0, h0'⟩, h1⟩, h2⟩, h2'⟩, h3⟩, h4⟩, h4'⟩, h5⟩, h5'⟩, h6⟩, h6'⟩, h7⟩, h8⟩ := hb
    have := of_decide_eq_true h0
    subst this
    have := of_decide_eq_true h0'
    subst this
    split at h6
    · rename_i l hl
      split at h6'
      · rename_i l' hl'
        refine se_comp2 xo ⟨by rw [h.hN]; exact h.nd, by rw [h.hN, h.hsc]; exact blkOk_by h1, fun i m => of_decide_eq_true (List.all_eq_true.mp h2 i m), fun i m => of_decide_eq_true (List.all_eq_true.mp h2' i m), fun i m => of_decide_eq_true (List.all_eq_true.mp h3 i m), it_of L h hl (ihs.r _ _ _ _ h h6), fun s H Cd cl fp => tg_of (h.blk s H Cd cl fp) h5,
          fun s H Cd cl fp => it_of L (h.blk s H Cd cl fp) hl' (ihs'.r _ _ _ _ (h.blk s H Cd cl fp) h6'), fun s H Cd cl fp => tg_of (h.blk s H Cd cl fp) h5', fun s H Cd cl fp => cond_of ihc (h.blk s H Cd cl fp) h7, fun s H Cd cl fp => ihe.e _ _ _ _ (h.blk s H Cd cl fp) h8, h4, h4'⟩
      · cases h6'
    · cases h6
  | caught a iha =>
    refine snd_plain (fun sc bs X e h hb => ?_) (fun _ _ _ => rfl) (fun _ _ _ _ _ => rfl)
    have xo := L.xo X h.here
    unfold chkE at hb
    split at hb <;> first | (cases hb; done) | (rename_i heq; cases heq; done) | skip
    rename_i heq
    cases heq
    rename_i x p params body scope lpos pos
    simp only [Bool.and_eq_true] at hb
    obtain ⟨⟨⟨⟨⟨⟨h1, h2⟩, h3⟩, h4⟩, h5⟩, h6⟩, h7⟩ := hb
    have := of_decide_eq_true h3
    subst this
    obtain ⟨rm, la⟩ := h.big h1
    obtain ⟨cf, ef⟩ := L.cat h2
    have hp := lamP_eq h6
    subst hp
    have ls := LamX.lamS_by h5
    refine se_caught xo (by rw [xo.K, h.here.mg]; exact cf) (by rw [h.here.mg]; exact ef) (k := 3 * n + 4) rm (by omega) (gl_of h h4) (by rw [h.here.mg, h.here.base]; exact la) (by rw [h.hsc]; exact ls) rfl (fun _ _ _ _ _ => rfl) (fun Y e1 e2 e3 e4 e5 e6 e7 e8 => ?_) (fun Y e1 e2 e3 e4 e5 e6 e7 e8 e9 e10 => ?_)
    · exact L.xo Y ⟨e1.trans h.here.prog, e2.trans h.here.w, e3.trans h.here.K, e4.trans h.here.mg, e5.trans h.here.base, e6, e7, e8⟩
    · have at2 : At P w mg base G n N scope (.of scope) Y := ⟨⟨e1.trans h.here.prog, e2.trans h.here.w, e3.trans h.here.K, e4.trans h.here.mg, e5.trans h.here.base, e6, e7, e8⟩, e9.trans h.hN, h.nd, e10, fun x e => ?_, fun e => nomatch e⟩
      · exact ⟨iha.e _ _ _ _ at2 h7, iha.x _ _ _ _ at2 h7⟩
      · have e : (scope.names.lookup x == some .cell) = true := e
        exact absurd rfl (ls.own _ (PySem.mem_of_lookup (beq_iff_eq.mp e))).2
end
end Dn

set_option Elab.async false
set_option linter.all false
set_option maxRecDepth 100000
set_option maxHeartbeats 8000000
/-! Dn, part W: the check of statements. -/
namespace Dn
open PySem PySem.Spec PyProof.Rows L2
def swB (sc : Scope) (t : Str) (q p2 : Pos) (scope : Scope) : Bool := (sc.names.lookup t == some .local) && (q.line == p2.line) && !(scope.names.any fun (n, k) => n == t && (k == .local || k == .cell))
def fnK (sc : Scope) : Bool := decide (sc.kind = .function)
def swNs (sc : Scope) (ts : List Expr) : List Str := ts.filterMap fun
  | .Name id pos => if sc.names.lookup id == some .local && pos.line == (ts.head?.map (·.pos.line)).getD 0 then some id else none
  | _ => none
def swNone (sc : Scope) (tg x : Expr) : Bool := match tg, x with
  | .Tuple ts _ _, .Tuple vs _ _ => (!(ts.length == 2 || ts.length == 3) || vs.length != ts.length) || vs.any (fun | .Starred .. => true | _ => false) || ((swNs sc ts).length != ts.length || (swNs sc ts).eraseDups.length != (swNs sc ts).length) || vs.all (foldedForSure 8)
  | .List _ _, _ => false
  | _, _ => true
def swSome (sc : Scope) (ts vs : List Expr) (l : List Str) : Bool := !(!(ts.length == 2 || ts.length == 3) || vs.length != ts.length) && !(vs.any (fun | .Starred .. => true | _ => false)) && !((swNs sc ts).length != ts.length || (swNs sc ts).eraseDups.length != (swNs sc ts).length) && !(vs.all (foldedForSure 8)) && !(vs.all (constantsAlone 8)) && decide (swNs sc ts = l)
theorem sw_eq {env : Env} (hk : env.scope.kind = .function) {elt : Expr} {gs : List Comprehension} {scope : Scope} {p2 q : Pos} {t : Str} {l : Nat} : swapsWith (.ListComp elt gs scope p2) (some (.Name t q)) l env = pure (swB env.scope t q p2 scope) := by
  have hb : env.blockKind = .function := by unfold Env.blockKind; rw [hk]; rfl
  unfold swapsWith swB
  simp only [hb, Expr.pos]
  rfl
theorem sw_none {env : Env} {tg x : Expr} (h : swNone env.scope tg x = true) : swappedStores [tg] x env = pure none := by
  unfold swNone at h
  split at h
  · rename_i ts k p vs k2 p2
    unfold swappedStores
    simp only
    split
    · rfl
    · rename_i h1
      split
      · rfl
      · rename_i h2
        split
        · rfl
        · rename_i h3
          split
          · rfl
          · rename_i h4
            exfalso
            simp only [Bool.or_eq_true] at h
            rcases h with ((h | h) | h) | h
            · exact h1 (by simp only [Bool.or_eq_true]; exact .inl h)
            · exact h2 h
            · exact h3 (by simp only [Bool.or_eq_true]; exact h)
            · exact h4 h
  · cases h
  · rename_i n2 n1
    cases tg with
    | Tuple ts k p =>
      cases x with
      | Tuple vs k2 p2 => exact (n1 _ _ _ _ _ _ rfl rfl).elim
      | _ => rfl
    | List ts p => exact (n2 _ _ rfl).elim
    | _ => rfl
theorem sw_some {env : Env} (hk : env.scope.kind = .function) {ts vs : List Expr} {k k2 : Nat} {p p2 : Pos} {l : List Str} (h : swSome env.scope ts vs l = true) : swappedStores [.Tuple ts k p] (.Tuple vs k2 p2) env = pure (some l) := by
  have hb : env.blockKind = .function := by unfold Env.blockKind; rw [hk]; rfl
  unfold swSome at h
  simp only [Bool.and_eq_true, Bool.not_eq_true'] at h
  obtain ⟨⟨⟨⟨⟨h1, h2⟩, h3⟩, h4⟩, h5⟩, h6⟩ := h
  have h6 := of_decide_eq_true h6
  unfold swappedStores
  simp only
  rw [hb]
  split
  · rename_i q
    rw [h1] at q
    exact absurd q (by decide)
  · split
    · rename_i q; exact absurd (Eq.trans (Eq.symm q) h2) (by decide)
    · split
      · rename_i q; exact absurd (Eq.trans (Eq.symm q) h3) (by decide)
      · split
        · rename_i q; exact absurd (Eq.trans (Eq.symm q) h4) (by decide)
        · split
          · rename_i q; exact absurd (Eq.trans (Eq.symm q) h5) (by decide)
          · show pure (some (swNs env.scope ts)) = _
            rw [h6]

/-! ### the check -/
section
variable (S : Stat) (N : List Str) (sc : Scope) (lm : Bool)
mutual
def chkT : TG → Expr → Bool
  | .v j, .Name x _ => decide (N[j]? = some x) && locB sc (.top lm) x
  | .ix o i, .Subscript x y _ => notSlice y && chkE S N sc (.top lm) o x && chkE S N sc (.top lm) i y
  | .tup l, .Tuple es _ _ => es.all notStar && decide (es.length = tgLen l) && chkTs l es
  | _, _ => false
def chkTs : TG → List Expr → Bool
  | .nil, [] => true
  | .cons t u, e :: es => notStar e && chkT t e && chkTs u es
  | _, _ => false
end
def asgB (t : TG) (e : IR) (tg x : Expr) (p : Pos) : Bool := match tg, t with
  | .Name nm q, .v j => decide (N[j]? = some nm) && (match x, e with
    | .ListComp _ gs scope p2, .comp _ _ _ _ _ _ _ => chkE S N sc (.top lm) e x && (if swB sc nm q p2 scope = true then locE sc nm && decide (gs.length = 1) else locB sc (.top lm) nm)
    | .ListComp _ gs scope p2, .comp2 _ _ _ _ _ _ _ _ _ _ _ => chkE S N sc (.top lm) e x && (if swB sc nm q p2 scope = true then locE sc nm && decide (gs.length = 2) else locB sc (.top lm) nm)
    | _, _ => notComp x && locB sc (.top lm) nm && chkE S N sc (.top lm) e x)
  | .Attribute o f _, .fld io k => decide (S.fnm[k]? = some f) && notComp x && chkE S N sc (.top lm) io o && chkE S N sc (.top lm) e x
  | tg, t => notComp x && swNone sc tg x && notStar tg && chkT S N sc lm t tg && chkE S N sc (.top lm) e x
mutual
def chkS : SR → Stmt → Bool
  | .pass, .Pass _ => true
  | .pass, .Expr (.Constant (.str _) _ _) _ => true
  | .ret0, .Return none _ => true
  | .ret e, .Return (some x) _ => chkE S N sc (.top lm) e x
  | .ex e, .Expr x _ => notComp x && chkE S N sc (.top lm) e x
  | .asg t e, .Assign [tg] x p => asgB S N sc lm t e tg x p
  | .par [j, k] l, .Assign [.Tuple [.Name x px, .Name y py] kt pt] (.Tuple [a, b] k2 pt2) _ => decide (N[j]? = some x) && decide (N[k]? = some y) && decide (j ≠ k) && locE sc x && locE sc y &&
      swSome sc [.Name x px, .Name y py] [a, b] [x, y] && notStar a && notStar b && chkEs S N sc (.top lm) l [a, b]
  | .par [j, k, m] l, .Assign [.Tuple [.Name x px, .Name y py, .Name z pz] kt pt] (.Tuple [a, b, c] k2 pt2) _ => decide (N[j]? = some x) && decide (N[k]? = some y) && decide (N[m]? = some z) && decide (j ≠ k) && decide (j ≠ m) && decide (k ≠ m) && locE sc x && locE sc y && locE sc z &&
      swSome sc [.Name x px, .Name y py, .Name z pz] [a, b, c] [x, y, z] && notStar a && notStar b && notStar c && chkEs S N sc (.top lm) l [a, b, c]
  | .iff c a b, .If x y z _ => chkE S N sc (.top lm) c x && chkSs a y && chkSs b z
  | .loop t it src b, .For tg iter y [] _ => notSet iter && chkT S N sc lm t tg && (match itB S sc tg iter it with
      | some l => chkEs S N sc (.top lm) src l
      | none => false) && chkSs b y
  | .while_ c b, .While x y [] _ => chkE S N sc (.top lm) c x && chkSs b y
  | .brk, .Break _ => true
  | .cnt, .Continue _ => true
  | .never, _ => true
  | .raise c l, .Raise (some (.Call (.Name x _) [a] [] _)) none _ => glvB S sc x (.exc c) && notStar a && chkEs S N sc (.top lm) l [a]
  | _, _ => false
def chkSs : SR → List Stmt → Bool
  | .nil, [] => true
  | .seq a r, st :: sts => chkS a st && chkSs r sts
  | .never, _ => true
  | _, _ => false
end
end
section
variable {P : Program} {w : World} {mg : Str → Option Value} {base : Heap} {G : Gd} {C : Cfg} {S : Stat} {FI : Nat → FnI} {n : Nat} {N : List Str} {sc : Scope} {lm : Bool} {X : Cx}
theorem comp_of (L : Lib P w mg base G C S FI n) (h : At P w mg base G n N sc (.top lm) X) {k : Bool} {t : List Nat} {tk : Bool} {it : ItK} {src cond e : IR} {elt tg iter e0 : Expr} {ifs : List Expr} {as : Int} {scope : Scope} {p : Pos} (he : e0 = .ListComp elt [⟨tg, iter, ifs, as⟩] scope p) (hb : chkE S N sc (.top lm) (.comp k t tk it src cond e) e0 = true) :
    as = 0 ∧ CompOk X G C elt tg iter ifs scope (ownOf N scope) t tk it src cond e := by
  unfold chkE at hb
  split at hb <;> first | (cases hb; done) | (rename_i heq; cases heq; done) | skip
  rename_i heq
  cases heq
  cases he
  simp only [Bool.and_eq_true] at hb
  obtain ⟨⟨⟨⟨⟨⟨⟨⟨h0, h1⟩, h2⟩, h3⟩, h4⟩, h5⟩, h6⟩, h7⟩, h8⟩ := hb
  refine ⟨of_decide_eq_true h0, ?_⟩
  split at h6
  · rename_i l hl
    exact ⟨by rw [h.hN]; exact h.nd, by rw [h.hN, h.hsc]; exact blkOk_by h1, fun i m => of_decide_eq_true (List.all_eq_true.mp h2 i m), fun i m => of_decide_eq_true (List.all_eq_true.mp h3 i m), it_of L h hl ((sound L src).r _ _ _ _ h h6), fun s H Cd cl fp => tg_of (h.blk s H Cd cl fp) h5,
      fun s H Cd cl fp => cond_of (sound L cond) (h.blk s H Cd cl fp) h7, fun s H Cd cl fp => (sound L e).e _ _ _ _ (h.blk s H Cd cl fp) h8, h4⟩
  · cases h6
theorem comp2_of (L : Lib P w mg base G C S FI n) (h : At P w mg base G n N sc (.top lm) X) {k : Bool} {t t' : List Nat} {tk tk' : Bool} {it it' : ItK} {src src' cond e : IR} {elt tg iter tg' iter' e0 : Expr} {ifs0 ifs : List Expr} {as as' : Int} {scope : Scope} {p : Pos} (he : e0 = .ListComp elt [⟨tg, iter, ifs0, as⟩, ⟨tg', iter', ifs, as'⟩] scope p)
    (hb : chkE S N sc (.top lm) (.comp2 k t tk it src t' tk' it' src' cond e) e0 = true) :
    as = 0 ∧ as' = 0 ∧ ifs0 = [] ∧ Comp2Ok X G C elt tg iter tg' iter' ifs scope (ownOf N scope) t tk it src t' tk' it' src' cond e := by
  unfold chkE at hb
  split at hb <;> first | (cases hb; done) | (rename_i heq; cases heq; done) | skip
  rename_i heq
  cases heq
  cases he
  simp only [Bool.and_eq_true] at hb
  obtain ⟨⟨⟨⟨⟨⟨⟨⟨⟨⟨⟨⟨⟨h0, h0'⟩, h1⟩, h2⟩, h2'⟩, h3⟩, h4⟩, h4'⟩, h5⟩, h5'⟩, h6⟩, h6'⟩, h7⟩, h8⟩ := hb
  refine ⟨of_decide_eq_true h0, of_decide_eq_true h0', rfl, ?_⟩
  split at h6
  · rename_i l hl
    split at h6'
    · rename_i l' hl'
      exact ⟨by rw [h.hN]; exact h.nd, by rw [h.hN, h.hsc]; exact blkOk_by h1, fun i m => of_decide_eq_true (List.all_eq_true.mp h2 i m), fun i m => of_decide_eq_true (List.all_eq_true.mp h2' i m), fun i m => of_decide_eq_true (List.all_eq_true.mp h3 i m), it_of L h hl ((sound L src).r _ _ _ _ h h6), fun s H Cd cl fp => tg_of (h.blk s H Cd cl fp) h5,
        fun s H Cd cl fp => it_of L (h.blk s H Cd cl fp) hl' ((sound L src').r _ _ _ _ (h.blk s H Cd cl fp) h6'), fun s H Cd cl fp => tg_of (h.blk s H Cd cl fp) h5', fun s H Cd cl fp => cond_of (sound L cond) (h.blk s H Cd cl fp) h7, fun s H Cd cl fp => (sound L e).e _ _ _ _ (h.blk s H Cd cl fp) h8, h4, h4'⟩
    · cases h6'
  · cases h6
structure SndT (P : Program) (w : World) (mg : Str → Option Value) (base : Heap) (G : Gd) (C : Cfg) (S : Stat) (n : Nat) (N : List Str) (sc : Scope) (lm : Bool) (t : TG) : Prop where
  e : ∀ (X : Cx) (e : Expr), At P w mg base G n N sc (.top lm) X → chkT S N sc lm t e = true → PG X e (tTg G C t)
  r : ∀ (X : Cx) (es : List Expr), At P w mg base G n N sc (.top lm) X → chkTs S N sc lm t es = true → PGs X es (tTgs G C t)
theorem soundT (L : Lib P w mg base G C S FI n) (t : TG) : SndT P w mg base G C S n N sc lm t := by
  induction t with
  | v j =>
    refine ⟨fun X e h hb => ?_, fun X es h hb => absurd (show false = true from hb) Bool.false_ne_true⟩
    cases e with
    | Name x p =>
      have hb : (decide (N[j]? = some x) && locB sc (.top lm) x) = true := hb
      rw [Bool.and_eq_true] at hb
      exact tg_v (by rw [h.hN]; exact h.nd) (nm_of h (of_decide_eq_true hb.1) hb.2)
    | _ => exact absurd (show false = true from hb) Bool.false_ne_true
  | ix o i =>
    refine ⟨fun X e h hb => ?_, fun X es h hb => absurd (show false = true from hb) Bool.false_ne_true⟩
    cases e with
    | Subscript x y p =>
      have hb : (notSlice y && chkE S N sc (.top lm) o x && chkE S N sc (.top lm) i y) = true := hb
      simp only [Bool.and_eq_true] at hb
      exact tg_ix (L.xo X h.here).K hb.1.1 ((sound L o).e _ _ _ _ h hb.1.2) ((sound L i).e _ _ _ _ h hb.2)
    | _ => exact absurd (show false = true from hb) Bool.false_ne_true
  | fld o f =>
    refine ⟨fun X e h hb => ?_, fun X es h hb => absurd (show false = true from hb) Bool.false_ne_true⟩
    cases e <;> exact absurd (show false = true from hb) Bool.false_ne_true
  | tup l ih =>
    refine ⟨fun X e h hb => ?_, fun X es h hb => absurd (show false = true from hb) Bool.false_ne_true⟩
    cases e with
    | Tuple es k p =>
      have hb : (es.all notStar && decide (es.length = tgLen l) && chkTs S N sc lm l es) = true := hb
      simp only [Bool.and_eq_true] at hb
      exact tg_tup (L.xo X h.here).K (L.xo X h.here).calm hb.1.1 (of_decide_eq_true hb.1.2) (ih.r _ _ h hb.2)
    | _ => exact absurd (show false = true from hb) Bool.false_ne_true
  | nil =>
    refine ⟨fun X e h hb => ?_, fun X es h hb => ?_⟩
    · cases e <;> exact absurd (show false = true from hb) Bool.false_ne_true
    · cases es with
      | nil => exact tgs_nil
      | cons _ _ => exact absurd (show false = true from hb) Bool.false_ne_true
  | cons a r iha ihr =>
    refine ⟨fun X e h hb => ?_, fun X es h hb => ?_⟩
    · cases e <;> exact absurd (show false = true from hb) Bool.false_ne_true
    · cases es with
      | nil => exact absurd (show false = true from hb) Bool.false_ne_true
      | cons e es =>
        have hb : (notStar e && chkT S N sc lm a e && chkTs S N sc lm r es) = true := hb
        simp only [Bool.and_eq_true] at hb
        exact tgs_cons hb.1.1 (iha.e _ _ h hb.1.2) (ihr.r _ _ h hb.2)
theorem loc_e (h : At P w mg base G n N sc (.top lm) X) {x : Str} (e : locE sc x = true) : X.env.scope.names.lookup x = some .local := by
  rw [h.hsc]; exact of_decide_eq_true e
theorem asg_of (L : Lib P w mg base G C S FI n) (h : At P w mg base G n N sc (.top lm) X) (hk : sc.kind = .function) {t : TG} {e : IR} {tg x : Expr} {p : Pos} (hb : asgB S N sc lm t e tg x p = true) : SS X G C (.Assign [tg] x p) (.asg t e) := by
  have xo := L.xo X h.here
  have hkX : X.env.scope.kind = .function := by rw [h.hsc]; exact hk
  have nd : X.N.Nodup := by rw [h.hN]; exact h.nd
  unfold asgB at hb
  split at hb
  · rename_i nm q j
    rw [Bool.and_eq_true] at hb
    obtain ⟨h1, hb⟩ := hb
    have h1 := of_decide_eq_true h1
    split at hb
    · rename_i elt gs scope p2 k t tk it src cond ei
      rw [Bool.and_eq_true] at hb
      obtain ⟨h2, hb⟩ := hb
      by_cases hs : swB sc nm q p2 scope = true
      · rw [if_pos hs, Bool.and_eq_true] at hb
        have hl := of_decide_eq_true hb.2
        rcases gs with _ | ⟨⟨tg, iter, ifs, as⟩, _ | ⟨_, _⟩⟩
        · cases hl
        · obtain ⟨rfl, c⟩ := comp_of L h rfl h2
          exact ss_setLc xo (by rw [h.hN]; exact h1) (loc_e h hb.1) (by rw [sw_eq hkX, h.hsc, hs]) c
        · cases hl
      · rw [if_neg hs] at hb
        exact ss_set nd (nm_of h h1 hb) (by rw [sw_eq hkX, h.hsc]; rw [Bool.not_eq_true] at hs; rw [hs]) ((sound L _).e _ _ _ _ h h2)
    · rename_i elt gs scope p2 k t tk it src t' tk' it' src' cond ei
      rw [Bool.and_eq_true] at hb
      obtain ⟨h2, hb⟩ := hb
      by_cases hs : swB sc nm q p2 scope = true
      · rw [if_pos hs, Bool.and_eq_true] at hb
        have hl := of_decide_eq_true hb.2
        rcases gs with _ | ⟨⟨tg, iter, ifs0, as⟩, _ | ⟨⟨tg1, iter1, ifs, as'⟩, _ | ⟨_, _⟩⟩⟩
        · cases hl
        · cases hl
        · obtain ⟨rfl, rfl, rfl, c⟩ := comp2_of L h rfl h2
          exact ss_setLc2 xo (by rw [h.hN]; exact h1) (loc_e h hb.1) (by rw [sw_eq hkX, h.hsc, hs]) c
        · cases hl
      · rw [if_neg hs] at hb
        exact ss_set nd (nm_of h h1 hb) (by rw [sw_eq hkX, h.hsc]; rw [Bool.not_eq_true] at hs; rw [hs]) ((sound L _).e _ _ _ _ h h2)
    · simp only [Bool.and_eq_true] at hb
      exact ss_set nd (nm_of h h1 hb.1.2) (not_comp hb.1.1 _ _ _) ((sound L _).e _ _ _ _ h hb.2)
  · simp only [Bool.and_eq_true] at hb
    obtain ⟨⟨⟨h1, h2⟩, h3⟩, h4⟩ := hb
    obtain ⟨e1, e2⟩ := L.nm _ _ (of_decide_eq_true h1)
    subst e1
    exact ss_fld xo h2 e2 ((sound L _).e _ _ _ _ h h3) ((sound L _).e _ _ _ _ h h4)
  · simp only [Bool.and_eq_true] at hb
    obtain ⟨⟨⟨⟨h1, h2⟩, h3⟩, h4⟩, h5⟩ := hb
    exact ss_asg h1 (sw_none (by rw [h.hsc]; exact h2)) h3 ((soundT L _).e _ _ h h4) ((sound L _).e _ _ _ _ h h5)
structure SndS (P : Program) (w : World) (mg : Str → Option Value) (base : Heap) (G : Gd) (C : Cfg) (S : Stat) (n : Nat) (N : List Str) (sc : Scope) (lm : Bool) (i : SR) : Prop where
  e : ∀ (X : Cx) (st : Stmt), At P w mg base G n N sc (.top lm) X → PassesOwn (model X.prog X.w) X.A X.env X.xe → chkS S N sc lm i st = true → SS X G C st i
  r : ∀ (X : Cx) (sts : List Stmt), At P w mg base G n N sc (.top lm) X → PassesOwn (model X.prog X.w) X.A X.env X.xe → chkSs S N sc lm i sts = true → SSs X G C sts i
theorem snds_plain {i : SR} (he : ∀ (X : Cx) (st : Stmt), At P w mg base G n N sc (.top lm) X → PassesOwn (model X.prog X.w) X.A X.env X.xe → chkS S N sc lm i st = true → SS X G C st i) (hr : ∀ (sts : List Stmt), chkSs S N sc lm i sts = false) : SndS P w mg base G C S n N sc lm i :=
  ⟨he, fun X sts _ _ h => (by rw [hr] at h; cases h)⟩
theorem soundS (L : Lib P w mg base G C S FI n) (hk : sc.kind = .function) (i : SR) : SndS P w mg base G C S n N sc lm i := by
  induction i with
  | nil =>
    refine ⟨fun X st h hp hb => ?_, fun X sts h hp hb => ?_⟩
    · unfold chkS at hb; cases hb
    · cases sts with
      | nil => exact ss_nil
      | cons _ _ => exact absurd (show false = true from hb) Bool.false_ne_true
  | seq a r iha ihr =>
    refine ⟨fun X st h hp hb => ?_, fun X sts h hp hb => ?_⟩
    · unfold chkS at hb; cases hb
    · cases sts with
      | nil => exact absurd (show false = true from hb) Bool.false_ne_true
      | cons st sts =>
        have hb : (chkS S N sc lm a st && chkSs S N sc lm r sts) = true := hb
        rw [Bool.and_eq_true] at hb
        exact ss_cons (iha.e _ _ h hp hb.1) (ihr.r _ _ h hp hb.2)
  | never => exact ⟨fun X st h hp hb => ss_never, fun X sts h hp hb => sss_never⟩
  | pass =>
    refine snds_plain (fun X st h hp hb => ?_) (fun _ => rfl)
    have xo := L.xo X h.here
    have nd : X.N.Nodup := by rw [h.hN]; exact h.nd
    unfold chkS at hb
    split at hb <;> first | (cases hb; done) | (rename_i heq; cases heq; done) | skip
    · exact ss_pass
    · exact ss_doc
  | ret0 =>
    refine snds_plain (fun X st h hp hb => ?_) (fun _ => rfl)
    have xo := L.xo X h.here
    have nd : X.N.Nodup := by rw [h.hN]; exact h.nd
    unfold chkS at hb
    split at hb <;> first | (cases hb; done) | (rename_i heq; cases heq; done) | skip
    exact ss_ret0
  | ret e =>
    refine snds_plain (fun X st h hp hb => ?_) (fun _ => rfl)
    have xo := L.xo X h.here
    have nd : X.N.Nodup := by rw [h.hN]; exact h.nd
    unfold chkS at hb
    split at hb <;> first | (cases hb; done) | (rename_i heq; cases heq; done) | skip
    rename_i heq
    cases heq
    exact ss_ret ((sound L _).e _ _ _ _ h hb)
  | ex e =>
    refine snds_plain (fun X st h hp hb => ?_) (fun _ => rfl)
    have xo := L.xo X h.here
    have nd : X.N.Nodup := by rw [h.hN]; exact h.nd
    unfold chkS at hb
    split at hb <;> first | (cases hb; done) | (rename_i heq; cases heq; done) | skip
    rename_i heq
    cases heq
    rw [Bool.and_eq_true] at hb
    exact ss_ex hb.1 ((sound L _).e _ _ _ _ h hb.2)
  | asg t e =>
    refine snds_plain (fun X st h hp hb => ?_) (fun _ => rfl)
    have xo := L.xo X h.here
    have nd : X.N.Nodup := by rw [h.hN]; exact h.nd
    unfold chkS at hb
    split at hb <;> first | (cases hb; done) | (rename_i heq; cases heq; done) | skip
    rename_i heq
    cases heq
    exact asg_of L h hk hb
  | par is l =>
    refine snds_plain (fun X st h hp hb => ?_) (fun _ => rfl)
    have xo := L.xo X h.here
    have nd : X.N.Nodup := by rw [h.hN]; exact h.nd
    unfold chkS at hb
    split at hb <;> first | (cases hb; done) | (rename_i heq; cases heq; done) | skip
    · rename_i heq
      cases heq
      simp only [Bool.and_eq_true] at hb
      obtain ⟨⟨⟨⟨⟨⟨⟨⟨h1, h2⟩, h3⟩, h4⟩, h5⟩, h6⟩, h7⟩, h8⟩, h9⟩ := hb
      exact ss_par2 xo.calm nd (by rw [h.hN]; exact of_decide_eq_true h1) (by rw [h.hN]; exact of_decide_eq_true h2) (of_decide_eq_true h3) (loc_e h h4) (loc_e h h5) (sw_some (by rw [h.hsc]; exact hk) (by rw [h.hsc]; exact h6)) (rows_ses ((sound L _).r _ _ _ _ h h9) (by simp [h7, h8]))
    · rename_i heq
      cases heq
      simp only [Bool.and_eq_true] at hb
      obtain ⟨⟨⟨⟨⟨⟨⟨⟨⟨⟨⟨⟨⟨h1, h2⟩, h3⟩, h4⟩, h5⟩, h6⟩, h7⟩, h8⟩, h9⟩, h10⟩, h11⟩, h12⟩, h13⟩, h14⟩ := hb
      exact ss_par3 xo.calm nd (by rw [h.hN]; exact of_decide_eq_true h1) (by rw [h.hN]; exact of_decide_eq_true h2) (by rw [h.hN]; exact of_decide_eq_true h3) (of_decide_eq_true h4) (of_decide_eq_true h5) (of_decide_eq_true h6) (loc_e h h7) (loc_e h h8) (loc_e h h9) (sw_some (by rw [h.hsc]; exact hk) (by rw [h.hsc]; exact h10)) (rows_ses ((sound L _).r _ _ _ _ h h14) (by simp [h11, h12, h13]))
  | iff c a b iha ihb =>
    refine snds_plain (fun X st h hp hb => ?_) (fun _ => rfl)
    have xo := L.xo X h.here
    have nd : X.N.Nodup := by rw [h.hN]; exact h.nd
    unfold chkS at hb
    split at hb <;> first | (cases hb; done) | (rename_i heq; cases heq; done) | skip
    rename_i heq
    cases heq
    simp only [Bool.and_eq_true] at hb
    exact ss_if ((sound L _).e _ _ _ _ h hb.1.1) (iha.r _ _ h hp hb.1.2) (ihb.r _ _ h hp hb.2)
  | loop t it src b ihb =>
    refine snds_plain (fun X st h hp hb => ?_) (fun _ => rfl)
    have xo := L.xo X h.here
    have nd : X.N.Nodup := by rw [h.hN]; exact h.nd
    unfold chkS at hb
    split at hb <;> first | (cases hb; done) | (rename_i heq; cases heq; done) | skip
    rename_i heq
    cases heq
    simp only [Bool.and_eq_true] at hb
    obtain ⟨⟨⟨h1, h2⟩, h3⟩, h4⟩ := hb
    split at h3
    · rename_i l hl
      exact ss_for hp xo.calm (it_of L h hl ((sound L _).r _ _ _ _ h h3)) ((soundT L _).e _ _ h h2) h1 (ihb.r _ _ h hp h4)
    · cases h3
  | while_ c b ihb =>
    refine snds_plain (fun X st h hp hb => ?_) (fun _ => rfl)
    have xo := L.xo X h.here
    have nd : X.N.Nodup := by rw [h.hN]; exact h.nd
    unfold chkS at hb
    split at hb <;> first | (cases hb; done) | (rename_i heq; cases heq; done) | skip
    rename_i heq
    cases heq
    simp only [Bool.and_eq_true] at hb
    exact ss_while hp ((sound L _).e _ _ _ _ h hb.1) (ihb.r _ _ h hp hb.2)
  | brk =>
    refine snds_plain (fun X st h hp hb => ?_) (fun _ => rfl)
    have xo := L.xo X h.here
    have nd : X.N.Nodup := by rw [h.hN]; exact h.nd
    unfold chkS at hb
    split at hb <;> first | (cases hb; done) | (rename_i heq; cases heq; done) | skip
    exact ss_brk
  | cnt =>
    refine snds_plain (fun X st h hp hb => ?_) (fun _ => rfl)
    have xo := L.xo X h.here
    have nd : X.N.Nodup := by rw [h.hN]; exact h.nd
    unfold chkS at hb
    split at hb <;> first | (cases hb; done) | (rename_i heq; cases heq; done) | skip
    exact ss_cnt
  | raise c l =>
    refine snds_plain (fun X st h hp hb => ?_) (fun _ => rfl)
    refine ⟨fun pins s σ H ρ se M fl M' I sr er e1 => ?_⟩
    simp only [evS] at e1
    cases e1
structure SndX (P : Program) (w : World) (mg : Str → Option Value) (base : Heap) (G : Gd) (C : Cfg) (S : Stat) (n : Nat) (N : List Str) (sc : Scope) (lm : Bool) (i : SR) : Prop where
  e : ∀ (X : Cx) (st : Stmt), At P w mg base G n N sc (.top lm) X → PassesOwn (model X.prog X.w) X.A X.env X.xe → chkS S N sc lm i st = true → SSX X G C st i
  r : ∀ (X : Cx) (sts : List Stmt), At P w mg base G n N sc (.top lm) X → PassesOwn (model X.prog X.w) X.A X.env X.xe → chkSs S N sc lm i sts = true → SSsX X G C sts i
theorem sndx_none {i : SR} (h : ∀ se M, evSX C i se M = none) : SndX P w mg base G C S n N sc lm i := ⟨fun _ _ _ _ _ => ssx_none h, fun _ _ _ _ _ => sssx_none h⟩
theorem sndx_plain {i : SR} (he : ∀ (X : Cx) (st : Stmt), At P w mg base G n N sc (.top lm) X → PassesOwn (model X.prog X.w) X.A X.env X.xe → chkS S N sc lm i st = true → SSX X G C st i) (hr : ∀ (sts : List Stmt), chkSs S N sc lm i sts = false) : SndX P w mg base G C S n N sc lm i :=
  ⟨he, fun X sts _ _ h => (by rw [hr] at h; cases h)⟩
theorem soundSX (L : Lib P w mg base G C S FI n) (hk : sc.kind = .function) (i : SR) : SndX P w mg base G C S n N sc lm i := by
  induction i with
  | seq a r iha ihr =>
    refine ⟨fun X st h hp hb => ?_, fun X sts h hp hb => ?_⟩
    · unfold chkS at hb; cases hb
    · cases sts with
      | nil => exact absurd (show false = true from hb) Bool.false_ne_true
      | cons st sts =>
        have hb : (chkS S N sc lm a st && chkSs S N sc lm r sts) = true := hb
        rw [Bool.and_eq_true] at hb
        exact sssx_cons ((soundS L hk a).e _ _ h hp hb.1) (iha.e _ _ h hp hb.1) (ihr.r _ _ h hp hb.2)
  | ret e =>
    refine sndx_plain (fun X st h hp hb => ?_) (fun _ => rfl)
    unfold chkS at hb
    split at hb <;> first | (cases hb; done) | (rename_i heq; cases heq; done) | skip
    rename_i heq
    cases heq
    exact ssx_ret ((sound L _).x _ _ _ _ h hb)
  | ex e =>
    refine sndx_plain (fun X st h hp hb => ?_) (fun _ => rfl)
    unfold chkS at hb
    split at hb <;> first | (cases hb; done) | (rename_i heq; cases heq; done) | skip
    rename_i heq
    cases heq
    rw [Bool.and_eq_true] at hb
    exact ssx_ex hb.1 ((sound L _).x _ _ _ _ h hb.2)
  | iff c a b iha ihb =>
    refine sndx_plain (fun X st h hp hb => ?_) (fun _ => rfl)
    unfold chkS at hb
    split at hb <;> first | (cases hb; done) | (rename_i heq; cases heq; done) | skip
    rename_i heq
    cases heq
    simp only [Bool.and_eq_true] at hb
    exact ssx_if ((sound L _).e _ _ _ _ h hb.1.1) (iha.r _ _ h hp hb.1.2) (ihb.r _ _ h hp hb.2)
  | loop t it src b ihb =>
    refine sndx_plain (fun X st h hp hb => ?_) (fun _ => rfl)
    have xo := L.xo X h.here
    unfold chkS at hb
    split at hb <;> first | (cases hb; done) | (rename_i heq; cases heq; done) | skip
    rename_i heq
    cases heq
    simp only [Bool.and_eq_true] at hb
    obtain ⟨⟨⟨h1, h2⟩, h3⟩, h4⟩ := hb
    split at h3
    · rename_i l hl
      exact ssx_for hp xo.calm (it_of L h hl ((sound L _).r _ _ _ _ h h3)) ((soundT L _).e _ _ h h2) h1 ((soundS L hk b).r _ _ h hp h4) (ihb.r _ _ h hp h4)
    · cases h3
  | raise c l =>
    refine sndx_plain (fun X st h hp hb => ?_) (fun _ => rfl)
    have xo := L.xo X h.here
    unfold chkS at hb
    split at hb <;> first | (cases hb; done) | (rename_i heq; cases heq; done) | skip
    rename_i heq
    cases heq
    simp only [Bool.and_eq_true] at hb
    obtain ⟨⟨h1, h2⟩, h3⟩ := hb
    obtain ⟨g, lu, d⟩ := glv_of h h1
    obtain ⟨hm, k, fl, fI, hk, hfl, T⟩ := L.xc _ _ lu
    exact ssx_raise xo.toXC (h.here.room.mono (by omega)) hk hfl T g (by rw [h.here.mg]; exact hm) d h2 (rows_ses ((sound L _).r _ _ _ _ h h3) (by simp [h2]))
  | nil => exact sndx_none fun _ _ => rfl
  | pass => exact sndx_none fun _ _ => rfl
  | ret0 => exact sndx_none fun _ _ => rfl
  | asg _ _ => exact sndx_none fun _ _ => rfl
  | par _ _ => exact sndx_none fun _ _ => rfl
  | while_ _ _ _ => exact sndx_none fun _ _ => rfl
  | never => exact sndx_none fun _ _ => rfl
  | brk => exact sndx_none fun _ _ => rfl
  | cnt => exact sndx_none fun _ _ => rfl
end
end Dn

set_option Elab.async false
set_option linter.all false
set_option maxRecDepth 100000
set_option maxHeartbeats 8000000
/-! Dn, part X: defs, level by level; the law's own call. -/
namespace Dn
open PySem PySem.Spec PyProof.Rows L2
/-- a def of the text, by what the top has made of it -/
structure DefOk (G : Gd) (S : Stat) (i : Nat) (F : FnI) (f : FnD) : Prop where
  ex : ∃ (oc : Value) (od : Option Addr) (name qual : Str) (params : Arguments) (body : List Stmt) (scope : Scope) (dV kV doc pm cdv ct : Value) (an : Option Addr) (osl : Array (Option Value)) (N : List Str),
    F.fd = PySem.W.fnOf name qual params body scope dV kV doc pm an cdv ct ∧ G.K.lookup (G.fa i) = some ⟨oc, od, .func F.fd, osl⟩ ∧ PySem.W.codeIn G.K cdv qual = true ∧ FnScope N F.ps scope ∧ chkSs S N scope f.lam f.body body = true ∧ N.length = f.ns ∧
    (f.lam = true → ∃ c P, cdv = .ref c ∧ (c, P) ∈ G.cods ∧ (P, (envOfC qual scope 0 0 cdv).qual ++ "<lambda>") ∈ G.tabs ∧ ∀ q ∈ G.tabs, q.1 = P → q.2 = (envOfC qual scope 0 0 cdv).qual ++ "<lambda>")
  kp : PySem.W.keepIn G.K (.ref (G.fa i)) = true
  np : F.ps.length = f.np
  dv : ∀ ρ H, ∃ vs, RepL G ρ H f.dflt vs ∧ Vals vs F.dv
structure Own (G : Gd) (FI : Nat → FnI) (c : Nat) (k : ClsD) : Prop where
  eq : ∀ f, k.eqf = some f → (∃ fd, G.T.fns[f]? = some fd) ∧ (∀ (s : Shared) (us : List Value), us.length = 2 → Bd s (FI f) ⟨us, []⟩ us) ∧ PySem.W.findIn G.K (.ref (G.ca c)) "__eq__" = some (some (.ref (G.fa f))) ∧ PySem.W.isFn G.K (.ref (G.fa f)) = true ∧
    PySem.W.findIn G.K (.ref (G.ca c)) "__ne__" = some (some (.builtin "object.__ne__"))
  str : ∀ f, k.strf = some f → (∃ fd, G.T.fns[f]? = some fd) ∧ (∀ (s : Shared) (us : List Value), us.length = 1 → Bd s (FI f) ⟨us, []⟩ us) ∧ PySem.W.findIn G.K (.ref (G.ca c)) "__str__" = some (some (.ref (G.fa f))) ∧ PySem.W.isFn G.K (.ref (G.fa f)) = true
  rpr : ∀ f, k.reprf = some f → (∃ fd, G.T.fns[f]? = some fd) ∧ (∀ (s : Shared) (us : List Value), us.length = 1 → Bd s (FI f) ⟨us, []⟩ us) ∧ PySem.W.findIn G.K (.ref (G.ca c)) "__repr__" = some (some (.ref (G.fa f))) ∧ PySem.W.isFn G.K (.ref (G.fa f)) = true
  prop : ∀ f g, k.props.lookup f = some g → (∃ fd, G.T.fns[g]? = some fd) ∧ (∀ (s : Shared) (us : List Value), us.length = 1 → Bd s (FI g) ⟨us, []⟩ us) ∧ ∃ p, PropOf G.K (G.ca c) (G.fnm f) p (G.fa g)
  bop : ∀ op f, bopf k op = some f → (∃ fd, G.T.fns[f]? = some fd) ∧ (∀ (s : Shared) (us : List Value), us.length = 2 → Bd s (FI f) ⟨us, []⟩ us) ∧ OpAt G.K (G.ca c) (G.fa f) (opOf op).info.2
  inn : ∀ f, k.inf = some f → (∃ fd, G.T.fns[f]? = some fd) ∧ (∀ (s : Shared) (us : List Value), us.length = 2 → Bd s (FI f) ⟨us, []⟩ us) ∧ PySem.W.findIn G.K (.ref (G.ca c)) "__contains__" = some (some (.ref (G.fa f))) ∧ PySem.W.isFn G.K (.ref (G.fa f)) = true
/-- all that is asked of a law's text -/
structure Text (mg : Str → Option Value) (G : Gd) (S : Stat) (FI : Nat → FnI) : Prop where
  ST : S.T = G.T
  nm : ∀ (f : Nat) (x : Str), S.fnm[f]? = some x → x = G.fnm f ∧ f < G.nf
  fn : ∀ (x : Str) (i : Nat), S.gl.lookup x = some (.fn i) → mg x = some (.ref (G.fa i)) ∧ ∃ f, G.T.fns[i]? = some f
  cl : ∀ (x : Str) (c : Nat), S.gl.lookup x = some (.cls c) → mg x = some (.ref (G.ca c))
  cn : ∀ (x : Str) (g : Nat), S.gl.lookup x = some (.con g) → ∃ d v u, G.T.globs[g]? = some d ∧ mg x = some u ∧ RelV v u ∧ ∀ ρ H, Rep G ρ H d v
  bl : ∀ x ∈ S.bl, mg x = none
  sh : ∀ e ∈ S.shp, ∃ f, G.T.fns[e.1]? = some f ∧ Shape G (FI e.1) f e.2.1 e.2.2.1 e.2.2.2
  mks : ∀ c ∈ S.mks, ∃ k, G.T.cls[c]? = some k ∧ Mk G.K (G.ca c) (G.fa k.init)
  mth : ∀ e ∈ S.mth, (∀ (c : Nat) (k : ClsD), G.T.cls[c]? = some k → k.meths.lookup e.1 = some e.2.2 → Meth G.K (G.ca c) e.2.1 (G.fa e.2.2)) ∧ (∀ (c : Nat) (k : ClsD), G.T.cls[c]? = some k → ∀ g', k.meths.lookup e.1 = some g' → g' = e.2.2) ∧
    ∀ (c : Nat) (k : ClsD), G.T.cls[c]? = some k → k.meths.lookup e.1 = some e.2.2 → ∀ q ∈ k.flds, (e.2.1 == G.fnm q) = false
  sm : ∀ e ∈ S.sm, SMeth G.K (G.ca e.2.2.1) e.2.1 (G.fa e.2.2.2)
  cat : S.cat = true → CatF G.K mg ∧ ErrsF G mg
  xc : ∀ (x : Str) (c : Nat), S.gl.lookup x = some (.exc c) → mg x = some (.ref (G.xa c)) ∧ ∃ k fl fI, G.T.xcs[c]? = some k ∧ k.flds = [fl] ∧ XcF G.K (G.xa c) fI (G.fnm fl)
  cls : ∀ (c : Nat) (k : ClsD), G.T.cls[c]? = some k → CF G c k
  own : ∀ (c : Nat) (k : ClsD), G.T.cls[c]? = some k → Own G FI c k
  hn : PySem.W.specialIn G.K (.builtin "object.__class__") "__get__" = some (some (.builtin "getset_descriptor.__get__"))
  tk : PySem.W.takesIn G.K (.builtin "object.__class__") = some true
  fi : ∀ (f g : Nat), f < G.nf → g < G.nf → G.fnm f = G.fnm g → f = g
  fl : ∀ (c : Nat) (k : ClsD), G.T.cls[c]? = some k → ∀ f, f ∈ k.flds → f < G.nf
  defs : ∀ (i : Nat) (f : FnD), G.T.fns[i]? = some f → DefOk G S i (FI i) f
section
variable {P : Program} {w : World} {mg : Str → Option Value} {base : Heap} {G : Gd} {S : Stat} {FI : Nat → FnI} {n wf : Nat}
theorem start_rel {ρ : List Addr} {H : Hp} {N : List Str} {ds : List D} {vs : List V} {np ns : Nat} (r : RepL G ρ H ds vs) (hp : ds.length = np) (hn : N.length = ns) : ERel G ρ H (ds.map some ++ List.replicate (ns - np) none) (start N vs) := by
  have hl := r.len
  refine ⟨?_, fun i d h => ?_⟩
  · unfold L2.start
    simp only [List.length_append, List.length_map, List.length_replicate]
    omega
  · unfold L2.start
    by_cases q : i < ds.length
    · rw [List.getElem?_append_left (by simpa using q), List.getElem?_map, Option.map_eq_some_iff] at h
      obtain ⟨d', h1, h2⟩ := h
      cases h2
      obtain ⟨v, h3, h4⟩ := r.get h1
      exact ⟨v, by rw [List.getElem?_append_left (by rw [List.length_map]; omega), List.getElem?_map, h3]; rfl, h4⟩
    · rw [List.getElem?_append_right (by rw [List.length_map]; omega), List.getElem?_replicate] at h
      split at h <;> cases h
theorem def_run {F : FnI} {i : Nat} {f : FnD} (hf : G.T.fns[i]? = some f) (D : DefOk G S i F f) (TB : ∀ q ∈ G.cods, LamX.TabB base mg q.1 q.2) (L : Lib P w mg base G ⟨G.T, callF G.T wf n, wf, callX G.T wf n⟩ S FI n) {A : Around} {outer : List Env} {s : Shared} {H : Hp} {ρ : List Addr} {args : Args} {us : List Value} {vs : List V} {ds : List Dn.D} {M : Mem} {d : Dn.D} {M' : Mem}
    (hh : A.handled = none) (hg : A.guards = some []) (hd : A.depth + 9 * n + 24 < recursionLimit) (hu : A.units + 48 * n + 299 < cLine) (e0 : Env0 P w G.K mg base A outer s H) (hb : Bd s F args us) (rv : Vals vs us) (sr : SRel G ρ H M) (rep : RepL G ρ H ds vs)
    (e : callF G.T wf (n + 1) i ds M = some (d, M')) : codeAny (model P w) A (.call (.ref (G.fa i)) args) (CR CX0 outer P w H s (GotQ G ρ H M' d) E0) s := by
  obtain ⟨oc, od, name, qual, params, body, scope, dV, kV, doc, pm, cdv, ct, an, osl, N, hfd, lk, hcd, FS, hchk, hN, hlam⟩ := D.ex
  simp only [callF, hf] at e
  unfold runF at e
  split at e
  · rename_i hlen
    obtain ⟨fl, M1, e1, e2⟩ := bnd_inv e
    have hps : vs.length = F.ps.length := by rw [← rep.len, hlen, D.np]
    have KX : G.K.In s.heap := e0.mod.kin.keeps fun b o q => (e0.bs b o q).1
    have lim : s.heap.NoLimit := e0.mod.nolimit.keeps fun b o q => (e0.bs b o q).1
    have kinds : ∀ y ∈ F.ps.zip us, scope.names.lookup y.1 = some .local ∨ (scope.names.lookup y.1 = some .cell ∧ ((cellsFrom (s.heap.objs.size + 1) scope.names []).lookup y.1).isSome = true) := fun ⟨x, v⟩ hy => by
      rcases FS.par x (List.of_mem_zip hy).1 with q | q
      · exact .inl q
      · exact .inr ⟨q, PySem.W.cellsFrom_some _ _ _ (.inl q)⟩
    rw [hfd] at lk
    have hb : BindsTo s (PySem.W.fnOf name qual params body scope dV kV doc pm an cdv ct) args (F.ps.zip us) := by rw [← hfd]; exact hb
    refine codeAny_call_function (by omega) (KX _ _ lk) rfl FS.co FS.gen rfl (PySem.W.codeRec_of KX hcd) (hb _ _ _ _ ?_)
    refine wpAny_newFunctionEnv_cells FS.kind kinds fun env he s1 x => ?_
    subst he
    refine ⟨lim.keeps x.toInCall.keep, codeAny_func ?_⟩
    generalize hX : cxOf CX0 P w G.K mg base N qual scope (G.fa i) cdv A outer s H E0 = X
    have at1 : At P w mg base G n N scope (.top f.lam) X.nox := by
      subst hX
      refine ⟨⟨rfl, rfl, rfl, rfl, rfl, rfl, hg, ⟨hh, by show A.depth + 1 + 3 * (3 * n + 4) + 5 < _; omega, by show A.units + 3 + 16 * (3 * n + 4) + 200 < _; omega⟩⟩, rfl, FS.nd, rfl, fun _ _ => rfl, fun hl => ⟨⟨hh, by show A.depth + 1 + 3 * (3 * n + 6) + 5 < _; omega, by show A.units + 3 + 16 * (3 * n + 6) + 200 < _; omega⟩, ?_⟩⟩
      obtain ⟨c, P', h1, h2, h3, h4⟩ := hlam hl
      exact ⟨c, P', h1, h3, h4, TB _ h2⟩
    have sss := ((soundS L FS.kind f.body).r X.nox body at1 (fun _ _ z => z.elim) hchk).pss.nox
    have I : Inv X [] (start N vs) H s1 := by
      subst hX
      exact inv_start FS hh e0 hps rv x
    have fin : ∀ {σ' : L2.St} {H' : Hp} {v : V} {u : Value} {s' : Shared}, Inv X [] σ' H' s' → RelV v u → GotQ G ρ H M' d v H' → CE outer P w H s (GotQ G ρ H M' d) u s' := by
      subst hX
      exact fun {σ' H' v u s'} J r q => ⟨v, H', J.os, J.bare, J.base, J.hok, r, q⟩
    have ends : ∀ {d1 : Dn.D} {v : V} {H' : Hp}, outOf fl = some d1 → GotQ G ρ H M1 d1 v H' → GotQ G ρ H M' d v H' := fun {d1 v H'} h1 g => by
      rw [h1] at e2
      simp only at e2
      split at e2
      · cases e2; exact g
      · exact exit_got sr.len g e2
    have run := sss.run [] s1 (start N vs) H { nx := fun _ H' => GotQ G ρ H M' d .non H', rt := GotQ G ρ H M' d } I ⟨ρ, _, M, fl, M1, sr, start_rel rep hlen hN, e1,
      ⟨fun σ' H' ⟨se', h1, ρ', x1, sr', _⟩ => ends (by rw [h1]; rfl) ⟨ρ', x1, sr', .non⟩, fun v H' ⟨d1, h1, g⟩ => ends (by rw [h1]; rfl) g, fun σ' H' ⟨se', h1, w1⟩ => (by rw [h1] at e2; cases e2), fun σ' H' ⟨se', h1, w1⟩ => (by rw [h1] at e2; cases e2)⟩⟩
    subst hX
    refine wpAny_mono run (fun fw s' hs => ?_) fun _ _ hs => hs
    cases fw with
    | ret u =>
      obtain ⟨v, σ', H', J, r, q⟩ := hs
      exact fin J r q
    | next =>
      obtain ⟨σ', H', J, q⟩ := hs
      exact fin (v := V.non) (u := Value.none) J rfl q
    | brk =>
      obtain ⟨_, _, _, q⟩ := hs
      exact False.elim q
    | cont =>
      obtain ⟨_, _, _, q⟩ := hs
      exact False.elim q
  · cases e
theorem def_runX {F : FnI} {i : Nat} {f : FnD} (hf : G.T.fns[i]? = some f) (D : DefOk G S i F f) (TB : ∀ q ∈ G.cods, LamX.TabB base mg q.1 q.2) (L : Lib P w mg base G ⟨G.T, callF G.T wf n, wf, callX G.T wf n⟩ S FI n) {A : Around} {outer : List Env} {s : Shared} {H : Hp} {ρ : List Addr} {args : Args} {us : List Value} {vs : List V} {ds : List Dn.D} {M : Mem} {xn : Xn} {M' : Mem}
    (hh : A.handled = none) (hg : A.guards = some []) (hd : A.depth + 9 * n + 24 < recursionLimit) (hu : A.units + 48 * n + 299 < cLine) (e0 : Env0 P w G.K mg base A outer s H) (hb : Bd s F args us) (rv : Vals vs us) (sr : SRel G ρ H M) (rep : RepL G ρ H ds vs)
    (e : callX G.T wf (n + 1) i ds M = some (xn, M')) : codeAny (model P w) A (.call (.ref (G.fa i)) args) (CR (L2N.CX P w) outer P w H s (fun _ _ => False) (GotX G ρ H M' xn)) s := by
  obtain ⟨oc, od, name, qual, params, body, scope, dV, kV, doc, pm, cdv, ct, an, osl, N, hfd, lk, hcd, FS, hchk, hN, hlam⟩ := D.ex
  simp only [callX, hf] at e
  unfold runX at e
  split at e
  · rename_i hlen
    obtain ⟨x1, M1, e1, e2⟩ := bnd_inv e
    have hps : vs.length = F.ps.length := by rw [← rep.len, hlen, D.np]
    have KX : G.K.In s.heap := e0.mod.kin.keeps fun b o q => (e0.bs b o q).1
    have lim : s.heap.NoLimit := e0.mod.nolimit.keeps fun b o q => (e0.bs b o q).1
    have kinds : ∀ y ∈ F.ps.zip us, scope.names.lookup y.1 = some .local ∨ (scope.names.lookup y.1 = some .cell ∧ ((cellsFrom (s.heap.objs.size + 1) scope.names []).lookup y.1).isSome = true) := fun ⟨x, v⟩ hy => by
      rcases FS.par x (List.of_mem_zip hy).1 with q | q
      · exact .inl q
      · exact .inr ⟨q, PySem.W.cellsFrom_some _ _ _ (.inl q)⟩
    rw [hfd] at lk
    have hb : BindsTo s (PySem.W.fnOf name qual params body scope dV kV doc pm an cdv ct) args (F.ps.zip us) := by rw [← hfd]; exact hb
    refine codeAny_call_function (by omega) (KX _ _ lk) rfl FS.co FS.gen rfl (PySem.W.codeRec_of KX hcd) (hb _ _ _ _ ?_)
    refine wpAny_newFunctionEnv_cells FS.kind kinds fun env he s1 x => ?_
    subst he
    refine ⟨lim.keeps x.toInCall.keep, codeAny_func ?_⟩
    have at1 : At P w mg base G n N scope (.top f.lam) (cxOf (L2N.CX P w) P w G.K mg base N qual scope (G.fa i) cdv A outer s H (GotX G ρ H M' xn)) := by
      refine ⟨⟨rfl, rfl, rfl, rfl, rfl, rfl, hg, ⟨hh, by show A.depth + 1 + 3 * (3 * n + 4) + 5 < _; omega, by show A.units + 3 + 16 * (3 * n + 4) + 200 < _; omega⟩⟩, rfl, FS.nd, rfl, fun _ _ => rfl, fun hl => ⟨⟨hh, by show A.depth + 1 + 3 * (3 * n + 6) + 5 < _; omega, by show A.units + 3 + 16 * (3 * n + 6) + 200 < _; omega⟩, ?_⟩⟩
      obtain ⟨c, P', h1, h2, h3, h4⟩ := hlam hl
      exact ⟨c, P', h1, h3, h4, TB _ h2⟩
    have I : Inv (cxOf (L2N.CX P w) P w G.K mg base N qual scope (G.fa i) cdv A outer s H (GotX G ρ H M' xn)) [] (start N vs) H s1 := inv_start FS hh e0 hps rv x
    refine wpAny_mono ((soundSX L FS.kind f.body).r _ body at1 (passes_of rfl) hchk _ (L2N.takes_of rfl rfl rfl rfl) [] s1 (start N vs) H ρ _ M x1 M1 I sr (start_rel rep hlen hN) e1 (fun cls d H' g => exit_gotX sr.len g e2) (fun _ _ => False)) (fun _ _ z => z.elim) fun _ _ hs => hs
  · cases e
/-- level by level -/
theorem fnf_of (T : Text mg G S FI) {C : Cfg} {X : Cx} {i : Nat} {f : FnD} (hf : G.T.fns[i]? = some f) (h : Calls1 X G C (FI i) i) (hx : CallsX1 X G C (FI i) i) : FnF X G C (FI i) i f := ⟨hf, h, hx, (T.defs i f hf).kp, (T.defs i f hf).dv⟩
theorem lib_of (T : Text mg G S FI) {C : Cfg} (hC : C.T = G.T) (h : ∀ X, Here P w mg base G n X → ∀ i f, G.T.fns[i]? = some f → Calls1 X G C (FI i) i ∧ CallsX1 X G C (FI i) i) : Lib P w mg base G C S FI n := by
  have fnp : ∀ X, Here P w mg base G n X → ∀ (i m : Nat), (∃ fd, G.T.fns[i]? = some fd) → (∀ (s : Shared) (us : List Value), us.length = m → Bd s (FI i) ⟨us, []⟩ us) → FnP X G C i m := fun X hX i m ⟨fd, e⟩ hb => ⟨FI i, fd, fnf_of T e (h X hX i fd e).1 (h X hX i fd e).2, hb⟩
  refine ⟨hC, T.ST, T.nm, fun X hX => ⟨⟨hX.K, hX.calm, hX.gd, by have := hX.room.un; omega, hC, T.cls, T.hn, T.tk, T.fi, T.fl⟩, hX.room.hd, fun c k hk => ?_⟩, T.fn, T.cl, T.cn, T.bl, fun X hX i f e => fnf_of T e (h X hX i f e).1 (h X hX i f e).2, T.sh, T.mks, T.mth, T.sm, T.cat, T.xc⟩
  have o := T.own c k hk
  exact ⟨fun f e => let ⟨a, b, c, d, g⟩ := o.eq f e; ⟨fnp X hX f 2 a b, c, d, g⟩, fun f e => let ⟨a, b, c, d⟩ := o.str f e; ⟨fnp X hX f 1 a b, c, d⟩, fun f e => let ⟨a, b, c, d⟩ := o.rpr f e; ⟨fnp X hX f 1 a b, c, d⟩, fun f g e => let ⟨a, b, c⟩ := o.prop f g e; ⟨fnp X hX g 1 a b, c⟩, fun op f e => let ⟨a, b, c⟩ := o.bop op f e; ⟨fnp X hX f 2 a b, c⟩, fun f e => let ⟨a, b, c, d⟩ := o.inn f e; ⟨fnp X hX f 2 a b, c, d⟩⟩
theorem lib_all (T : Text mg G S FI) (TB : ∀ q ∈ G.cods, LamX.TabB base mg q.1 q.2) : ∀ n, Lib P w mg base G ⟨G.T, callF G.T wf n, wf, callX G.T wf n⟩ S FI n
  | 0 => lib_of T rfl fun X hX i f hf => ⟨fun A pins s σ H ρ args us vs ds M d M' sb I hb rv sr rep e => (by
      have e : (none : Rs Dn.D) = some (d, M') := e
      cases e), fun A pins s σ H ρ args us vs ds M d M' sb I hb rv sr rep e => (by
      have e : (none : Rs Xn) = some (d, M') := e
      cases e)⟩
  | n + 1 => lib_of T rfl fun X hX i f hf => by
    have L := lib_all T TB n
    have r1 := hX.room.dp
    have r2 := hX.room.un
    refine ⟨fun A pins s σ H ρ args us vs ds M d M' sb I hb rv sr rep e => ?_, fun A pins s σ H ρ args us vs ds M d M' sb I hb rv sr rep e => ?_⟩
    · have e0 : Env0 X.prog X.w X.K X.mg X.base A X.stack s H := let q := I.env0; ⟨sb.fr.trans q.frames, q.mod, q.bs, q.bsz, q.funs, q.frf, q.hok, q.bare⟩
      rw [hX.prog, hX.w, hX.K, hX.mg, hX.base] at e0
      have s1 := sb.dp
      have s2 := sb.un
      have c := def_run hf (T.defs i f hf) TB L sb.hd sb.gd (by omega) (by omega) e0 hb rv sr rep e
      rw [hX.prog, hX.w]
      refine codeAny_mono c fun r s' hr => ?_
      cases r with
      | error x => exact False.elim hr
      | ok fw =>
        cases fw with
        | ret u =>
          refine ⟨u, rfl, I.after ?_⟩
          rw [hX.prog, hX.w]
          exact hr
        | next => exact False.elim hr
        | brk => exact False.elim hr
        | cont => exact False.elim hr
    · have e0 : Env0 X.prog X.w X.K X.mg X.base A X.stack s H := let q := I.env0; ⟨sb.fr.trans q.frames, q.mod, q.bs, q.bsz, q.funs, q.frf, q.hok, q.bare⟩
      rw [hX.prog, hX.w, hX.K, hX.mg, hX.base] at e0
      have s1 := sb.dp
      have s2 := sb.un
      rw [hX.prog, hX.w]
      exact def_runX hf (T.defs i f hf) TB L sb.hd sb.gd (by omega) (by omega) e0 hb rv sr rep e
end
end Dn

set_option Elab.async false
set_option linter.all false
set_option maxRecDepth 100000
set_option maxHeartbeats 8000000
/-! Dn, part Y: the law's own call. -/
namespace Dn
open PySem PySem.Spec PyProof.Rows L2
/-- the script in the abstract heap: frozen, or one of the module's own things -/
def ScrAt (K : PySem.W.Frag) (H : Hp) (a : Addr) (xs : List V) : Prop := (∃ o, H a = some (.frz o (.lst xs))) ∨ ∀ H', SqL K H' a xs
/-- one code object and its table, as the law's head finds them -/
structure TabAt (K : PySem.W.Frag) (h : Heap) (p : Addr × Addr) : Prop where
  empty : h.get? p.2 = some { cls := .none, data := .fields #[] }
  notK : K.lookup p.2 = none
  code : PySem.W.CodeHd h p.1 p.2
/-- a def of the module: its code object and its table -/
theorem tabAt_of {q : Program} {loose : List Str} {mean : ExcName → Option Value} {mg mb : Str → Option Value} {h : Heap} {K : PySem.W.Frag} {x : Str} {a c P : Addr} {oc : Value} {od : Option Addr} {fd : FuncData} {osl : Array (Option Value)} {vs : List Value} {d : DefRec} (T : Top q loose mean mg mb h) (X : K.In h)
    (hx : PySem.W.nsIn K mainGlobals x = some (some (.ref a))) (hl : K.lookup a = some ⟨oc, od, .func fd, osl⟩) (hc : fd.code = .ref c) (hr : PySem.W.recIn K c "code" = some vs) (hP : vs[11]? = some (.ref P)) (hn : K.lookup P = none) (hd : (recsOf q).find? (fun e => e.name == x) = some d) : TabAt K h (c, P) := by
  have en : d.name = x := beq_iff_eq.mp (List.find?_some (p := fun e : DefRec => e.name == x) hd)
  obtain ⟨a', o, fd', c', P', h1, h2, h3, h4, h5, h6⟩ := T.tab d (List.mem_of_find?_eq_some hd)
  have e1 := PySem.W.mg_of X T.g hx
  rw [en, e1] at h1
  cases h1
  have e2 := X _ _ hl
  rw [h2] at e2
  cases e2
  cases h3
  rw [hc] at h4
  cases h4
  obtain ⟨⟨o', vs', g1, g2, g3, g4⟩, g5⟩ := id h6
  unfold PySem.W.recIn at hr
  split at hr
  · rename_i cl dd w sl hk
    have e3 := X _ _ hk
    rw [g1] at e3
    cases e3
    cases g3
    split at hr
    · cases hr
      have e4 : P' = P := by
        rw [Array.getElem?_toList, g4] at hP
        cases hP
        rfl
      subst e4
      exact ⟨g5, hn, .of h5 h6⟩
    · cases hr
  · cases hr
/-- nothing but the script and the empty tables is tracked -/
def Lone (cs : List (Addr × Addr)) (H : Hp) (a : Addr) : Prop := ∀ b u, H b = some u → (b = a ∧ ∃ o xs, u = .frz o (.lst xs)) ∨ (∃ p ∈ cs, p.2 = b) ∧ u = .tbl #[]
def Bm (mg : Str → Option Value) (h : Heap) : Prop := ∃ (m : Addr) (o : Obj), mg "__builtins__" = some (.ref m) ∧ m ≠ builtinsNs ∧ h.get? m = some o ∧ o.cls = .type "module" ∧ o.dict = some builtinsNs ∧ o.data = .plain
/-- what is neither a list nor an empty record is not tracked -/
theorem lone_none {cs : List (Addr × Addr)} {H : Hp} {a : Addr} {h : Heap} {vals : List Value} (lone : Lone cs H a) (hobj : h.get? a = some { cls := .type "list", data := .seq vals.toArray }) (tb : ∀ p ∈ cs, h.get? p.2 = some { cls := .none, data := .fields #[] })
    {b : Addr} {o : Obj} (e : h.get? b = some o) (n1 : ∀ vs n, o.data ≠ .seq vs n) (n2 : o.data ≠ .fields #[]) : H b = none := by
  cases hq : H b with
  | none => rfl
  | some u =>
    rcases lone b u hq with ⟨rfl, _⟩ | ⟨⟨p, hp, rfl⟩, _⟩
    · have q := hobj.symm.trans e
      cases q
      exact absurd rfl (n1 _ _)
    · have q := (tb p hp).symm.trans e
      cases q
      exact absurd rfl n2
theorem dn_call {P : Program} {w : World} {K : PySem.W.Frag} {mg mb : Str → Option Value} {fa a : Addr} {sh : Shared} {vals : List Value} {ns : List Int} (cs : List (Addr × Addr))
    (hK : K.In sh.heap) (hm : sh.heap.Ns mainGlobals mg) (hbn : sh.heap.Ns builtinsNs mb) (hbt : ∀ z : Str, z ≠ "__name__" → mb z = bootBuiltins z) (hlm : sh.heap.NoLimit) (hgn : sh.gens = #[])
    (hcs : ∀ p ∈ cs, TabAt K sh.heap p) (hmod : Bm mg sh.heap)
    (hobj : sh.heap.get? a = some { cls := .type "list", data := .seq vals.toArray }) (hint : IntsAre vals ns) (hsz : ns.length ≤ sizeLine)
    (run : ∀ (base : Heap) (H : Hp), K.In base → base.Ns mainGlobals mg → Env0 P w K mg base callerA [] sh H → (∀ p ∈ cs, H p.2 = some (.tbl #[]) ∧ LamX.TabB base mg p.1 p.2) → ScrAt K H a (ns.map V.int) →
      codeAny (model P w) callerA (.call (.ref fa) ⟨[.ref a], []⟩) (CR CX0 [] P w H sh (fun v _ => v = .bl true) E0) sh) :
    codeAny (model P w) callerA (.call (.ref fa) ⟨[.ref a], []⟩) (fun r s' => r = .ok (.ret (.bool true)) ∧ OldK sh.heap s'.heap ∧ s'.os = sh.os ∧ AllBare s'.gens) sh := by
  have rel := vals_ints hint
  have hlen := hint.length
  have emp : ∀ p ∈ cs, sh.heap.get? p.2 = some { cls := .none, data := .fields #[] } := fun p hp => (hcs p hp).empty
  have apart : ¬ ∃ p ∈ cs, p.2 = a := fun ⟨p, hp, e⟩ => by
    have q := emp p hp
    rw [e, hobj] at q
    cases q
  have go : ∀ H : Hp, (∀ p ∈ cs, H p.2 = some (.tbl #[])) → Lone cs H a → ScrAt K H a (ns.map V.int) → HOk P w H sh.heap → (H a ≠ none → K.lookup a = none) →
      codeAny (model P w) callerA (.call (.ref fa) ⟨[.ref a], []⟩) (fun r s' => r = .ok (.ret (.bool true)) ∧ OldK sh.heap s'.heap ∧ s'.os = sh.os ∧ AllBare s'.gens) sh := by
    intro H htb lone scr hok own
    have stays : ∀ {b : Addr} {o : Obj}, sh.heap.get? b = some o → (∀ vs n, o.data ≠ .seq vs n) → o.data ≠ .fields #[] → (hidT sh.heap H).get? b = some o := fun e n1 n2 => hidT_get e (lone_none lone hobj emp e n1 n2)
    have names : ∀ {b : Addr} {m : Str → Option Value}, sh.heap.Ns b m → (hidT sh.heap H).Ns b m := by
      rintro b m ⟨o, es, ep, e, d, r⟩
      refine ⟨o, es, ep, stays e (fun vs n z => ?_) (fun z => ?_), d, r⟩ <;> rw [d] at z <;> cases z
    have kin : K.In (hidT sh.heap H) := by
      intro b o e
      refine hidT_get (hK b o e) ?_
      cases hq : H b with
      | none => rfl
      | some u =>
        rcases lone b u hq with ⟨rfl, _⟩ | ⟨⟨p, hp, rfl⟩, _⟩
        · rw [own (by rw [hq]; simp)] at e
          cases e
        · rw [(hcs p hp).notK] at e
          cases e
    obtain ⟨mc, q1, q2⟩ := hlm
    have md : Mod K mg (hidT sh.heap H) := ⟨kin, names hm, ⟨mb, names hbn, hbt⟩, ⟨mc, names q1, q2⟩⟩
    have env : Env0 P w K mg (hidT sh.heap H) callerA [] sh H := by
      refine ⟨rfl, md, fun b o e => of_hidT e, Nat.le_of_eq (hidT_size _ _), trivial, fun b z => ?_, hok, .of_eq hgn⟩
      exact absurd (show b ∈ ([] : List Addr) from z) (by simp)
    have tabB : ∀ p ∈ cs, LamX.TabB (hidT sh.heap H) mg p.1 p.2 := fun p hp => by
      refine ⟨?_, ?_, fun z => ?_⟩
      · obtain ⟨o, us, f1, f2, f3, f4, f5, f6, f7, e, ec, d, r⟩ := (hcs p hp).code
        refine ⟨o, us, f1, f2, f3, f4, f5, f6, f7, stays e (fun vs n z => ?_) (fun z => ?_), ec, d, r⟩
        · rw [d] at z
          cases z
        · rw [d] at z
          cases z
          have z := r.1
          simp at z
      · obtain ⟨m, o, g1, g2, e, g3, g4, g5⟩ := hmod
        refine ⟨m, o, g1, g2, fun q => ?_, fun q => ?_, stays e (fun vs n z => ?_) (fun z => ?_), g3, g4, g5⟩
        · obtain ⟨o', es, ep, e', d', _⟩ := hm
          rw [q, e'] at e
          cases e
          rw [d'] at g5
          cases g5
        · rw [q, emp p hp] at e
          cases e
          cases g5
        · rw [g5] at z
          cases z
        · rw [g5] at z
          cases z
      · obtain ⟨o', es, ep, e', d', _⟩ := hm
        rw [z, emp p hp] at e'
        cases e'
        cases d'
    refine codeAny_mono (run _ H kin (names hm) env (fun p hp => ⟨htb p hp, tabB p hp⟩) scr) fun r s' h => ?_
    cases r with
    | error e => exact False.elim h
    | ok fl =>
      cases fl with
      | ret u =>
        obtain ⟨v, H', os, bare, un, hok2, rv, q⟩ := h
        have q : v = .bl true := q
        subst q
        have hu : u = Value.bool true := rv
        subst hu
        have same : ∀ b o, (¬ ∃ p ∈ cs, p.2 = b) → sh.heap.get? b = some o → s'.heap.get? b = some o := fun b o nb e => by
          cases hq : H b with
          | none => exact un.keep b o e hq (fun z => absurd (show b ∈ ([] : List Addr) from z) (by simp)) (by simp)
          | some u =>
            rcases lone b u hq with ⟨_, ob, xs, rfl⟩ | ⟨z, _⟩
            · have g1 := (hok b _ hq).1
              have g2 := (hok2 b _ (un.frzs b ob _ hq)).1
              rw [e] at g1
              cases g1
              exact g2
            · exact absurd z nb
        have grow : ∀ p ∈ cs, ∃ more : Array Value, s'.heap.get? p.2 = some { cls := .none, data := .fields (#[] ++ more) } := fun p hp => by
          obtain ⟨more, z⟩ := un.tbls p.2 #[] (htb p hp)
          exact ⟨more, hok2 p.2 _ z⟩
        refine ⟨rfl, ⟨fun b o e => ?_, fun b o e => ?_⟩, os, bare⟩
        · by_cases hb : ∃ p ∈ cs, p.2 = b
          · obtain ⟨p, hp, rfl⟩ := hb
            have q := (emp p hp).symm.trans e
            cases q
            obtain ⟨more, hm2⟩ := grow p hp
            exact .inr (.inl ⟨((hcs p hp).code.tab (emp p hp)).isCodeTable, rfl, #[], more, rfl, hm2⟩)
          · exact .inl (same b o hb e)
        · by_cases hb : ∃ p ∈ cs, p.2 = b
          · obtain ⟨p, hp, rfl⟩ := hb
            obtain ⟨more, hm2⟩ := grow p hp
            exact ⟨_, hm2⟩
          · exact ⟨o, same b o hb e⟩
      | next => exact False.elim h
      | brk => exact False.elim h
      | cont => exact False.elim h
  classical
  -- the two heaps: the script is one of the module's own, or frozen
  have tabs_ok : ∀ (X : Option HO), (∀ u, X = some u → ∃ o xs, u = .frz o (.lst xs)) → ∀ H : Hp, H = (fun b => if b = a then X else if ∃ p ∈ cs, p.2 = b then some (.tbl #[]) else none) →
      (∀ p ∈ cs, H p.2 = some (.tbl #[])) ∧ Lone cs H a ∧ H a = X := by
    rintro X hX H rfl
    refine ⟨fun p hp => ?_, fun b u z => ?_, if_pos rfl⟩
    · have n : ¬ p.2 = a := fun z => apart ⟨p, hp, z⟩
      exact (if_neg n).trans (if_pos ⟨p, hp, rfl⟩)
    · by_cases hb : b = a
      · exact .inl ⟨hb, hX u ((if_pos hb).symm.trans z)⟩
      · have z := (if_neg hb).symm.trans z
        by_cases h2 : ∃ p ∈ cs, p.2 = b
        · have z := (if_pos h2).symm.trans z
          cases z
          exact .inr ⟨h2, rfl⟩
        · cases (if_neg h2).symm.trans z
  have okOf : ∀ (H : Hp), Lone cs H a → (∀ o xs, H a = some (.frz o (.lst xs)) → ObjOk P w H sh.heap a (.frz o (.lst xs))) → HOk P w H sh.heap := fun H lone fr b u z => by
    rcases lone b u z with ⟨rfl, o, xs, rfl⟩ | ⟨⟨p, hp, rfl⟩, rfl⟩
    · exact fr o xs z
    · exact emp p hp
  cases hk : K.lookup a with
  | some o =>
    have e := hK a o hk
    rw [hobj] at e
    cases e
    obtain ⟨t1, t2, t3⟩ := tabs_ok none (fun u z => by cases z) _ rfl
    refine go _ t1 t2 (.inr fun H' => .inr ⟨_, vals.toArray, _, hk, rfl, rfl, rfl, ?_, ?_⟩) (okOf _ t2 fun o xs z => by rw [t3] at z; cases z) fun z => absurd t3 z
    · rw [List.size_toArray, hlen]; exact hsz
    · simpa using rel
  | none =>
    obtain ⟨t1, t2, t3⟩ := tabs_ok (some (HO.frz { cls := .type "list", data := .seq vals.toArray } (.lst (ns.map V.int)))) (fun u z => by cases z; exact ⟨_, _, rfl⟩) _ rfl
    refine go _ t1 t2 (.inl ⟨_, t3⟩) (okOf _ t2 fun o xs z => ?_) fun _ => hk
    rw [t3] at z
    cases z
    exact ⟨hobj, by rw [List.length_map]; exact hsz, vals, _, rel, hobj⟩
theorem reps_ints {G : Gd} {ρ : List Addr} {H : Hp} : ∀ ns : List Int, RepL G ρ H (ns.map D.int) (ns.map V.int)
  | [] => .nil
  | n :: ns => .cons (.int n) (reps_ints ns)
/-- the law's def answers True at every script -/
structure Head (mg : Str → Option Value) (K : PySem.W.Frag) (fa : Addr) (Tb : Tab) (il : Nat) (G : Gd) (S : Stat) (FI : Nat → FnI) : Prop where
  K : G.K = K
  T : G.T = Tb
  tx : Text mg G S FI
  at_ : G.fa il = fa
  f : ∃ f, Tb.fns[il]? = some f
  bd : ∀ (s : Shared) (u : Value), Bd s (FI il) ⟨[u], []⟩ [u]
  tabs : ∀ p ∈ G.tabs, ∃ q ∈ G.cods, q.2 = p.1
theorem dn_walk {l : PySem.W.OpenLaw} {q : Program} {loose : List Str} {XP : (Str → Option Value) → Heap → Prop} {YP : World → Heap → Prop} {d : DefRec} {K : Params → PySem.W.Frag} (Tb : Tab) (wf lv il : Nat)
    (hn : l.most = some 63) (hdf : d.params.defaults = []) (hlv : callerA.depth + 9 * lv + 24 < recursionLimit ∧ callerA.units + 48 * lv + 299 < cLine)
    (hY : ∀ (w : World) (h : Heap), YP w h → (K w.params).In h)
    (F : ∀ (w : World) (mean : ExcName → Option Value) (mg mb : Str → Option Value) (fa : Addr) (h : Heap), Top q (PySem.W.looseW q loose) mean mg mb h → (K w.params).In h → h.Ns mainGlobals mg → mg d.name = some (.ref fa) → ∃ G S FI, Head mg (K w.params) fa Tb il G S FI ∧ ∀ p ∈ G.cods, TabAt (K w.params) h p)
    (sem : ∀ ns : List Int, ns.length ≤ 63 → (∀ z ∈ ns, Builtin.Int.intBits z ≤ 1048576) → ∃ M', callF Tb wf (lv + 1) il [.ro (ns.map D.int)] [] = some (.bl true, M')) :
    PySem.W.WalkO q loose XP YP l.row.toRowW d [] (fun f vs => PySem.call f vs) := by
  refine Att.attach_callB hn hdf fun w s₀ s₁ mg mb fa o pm cd doc a vs ns Gr Y ho hd hcd hmg hobj hints hlen hbits hg => ?_
  obtain ⟨G, S, FI, hd, hcs⟩ := F w _ mg mb fa _ Gr.T (hY w _ Y) Gr.T.g hmg
  obtain ⟨M', e⟩ := sem ns hlen hbits
  refine dn_call G.cods (hY w _ Y) Gr.T.g Gr.T.b Gr.T.builtins Gr.T.nolimit hg hcs Gr.T.bmain hobj hints (Nat.le_trans hlen (by decide)) fun base H kin ms env tb scr => ?_
  obtain ⟨f, hf⟩ := hd.f
  rw [← hd.T] at hf e
  rw [← hd.K] at env scr
  rw [← hd.at_]
  have rep : Rep G [] H (.ro (ns.map D.int)) (.ref a) := .ro (scr.elim (fun ⟨o, e⟩ => .inl ⟨by simp, o, e⟩) .inr) (reps_ints ns)
  have c := def_run hf (hd.tx.defs il f hf) (fun q hq => (tb q hq).2) (lib_all (n := lv) (wf := wf) hd.tx (fun q hq => (tb q hq).2)) rfl rfl hlv.1 hlv.2 env (hd.bd s₁ (.ref a)) (show Vals [V.ref a] [Value.ref a] from .cons rfl .nil) ⟨rfl, List.nodup_nil, fun _ _ _ h => by simp at h, fun p hp => ⟨by simp, let ⟨q, hq, e⟩ := hd.tabs p hp; .nil (e ▸ (tb q hq).1)⟩⟩ (.cons rep .nil) e
  refine codeAny_mono c fun r s' h => ?_
  cases r with
  | error x => exact h
  | ok fl =>
    cases fl with
    | ret u =>
      obtain ⟨v, H', os, bare, un, hok2, rv, ρ', x, sr, rp⟩ := h
      cases rp
      exact ⟨_, H', os, bare, un, hok2, rv, rfl⟩
    | next => exact h
    | brk => exact h
    | cont => exact h
end Dn

set_option Elab.async false
set_option linter.all false
set_option maxRecDepth 100000
set_option maxHeartbeats 8000000
/-! Dn, part Z: tables. -/
namespace Dn
open PySem PySem.Spec PyProof.Rows L2
def AllI {α : Type} (p : Nat → α → Prop) : Nat → List α → Prop
  | _, [] => True
  | k, x :: r => p k x ∧ AllI p (k + 1) r
theorem allI_get {α : Type} {p : Nat → α → Prop} : ∀ {l : List α} {k i : Nat} {x : α}, AllI p k l → l[i]? = some x → p (k + i) x
  | [], _, _, _, _, h => by simp at h
  | y :: r, k, 0, x, a, h => by simp at h; subst h; exact a.1
  | y :: r, k, i + 1, x, a, h => by
    have := allI_get a.2 (by simpa using h)
    rwa [show k + 1 + i = k + (i + 1) by omega] at this
theorem allI0 {α : Type} {p : Nat → α → Prop} {l : List α} (a : AllI p 0 l) (i : Nat) (x : α) (h : l[i]? = some x) : p i x := by
  have := allI_get a h
  rwa [Nat.zero_add] at this
def AllM {α : Type} (p : α → Prop) : List α → Prop
  | [] => True
  | x :: r => p x ∧ AllM p r
theorem allM_mem {α : Type} {p : α → Prop} : ∀ {l : List α} {x : α}, AllM p l → x ∈ l → p x
  | y :: r, x, a, h => by
    rcases List.mem_cons.mp h with rfl | h
    · exact a.1
    · exact allM_mem a.2 h
theorem mem_lk {β : Type} : ∀ {l : List (Nat × β)} {a : Nat} {b : β}, l.lookup a = some b → (a, b) ∈ l
  | (k, v) :: r, a, b, h => by
    rw [List.lookup_cons] at h
    split at h
    · rename_i q
      have := beq_iff_eq.mp q
      cases h
      subst this
      exact List.mem_cons_self
    · exact List.mem_cons_of_mem _ (mem_lk h)
def GlP (mg : Str → Option Value) (G : Gd) : Str × GV → Prop
  | (x, .fn i) => mg x = some (.ref (G.fa i)) ∧ (G.T.fns[i]?).isSome = true
  | (x, .cls c) => mg x = some (.ref (G.ca c))
  | (x, .exc c) => mg x = some (.ref (G.xa c)) ∧ ∃ k fl fI, G.T.xcs[c]? = some k ∧ k.flds = [fl] ∧ XcF G.K (G.xa c) fI (G.fnm fl)
  | (x, .con g) => ∃ d v u, G.T.globs[g]? = some d ∧ mg x = some u ∧ RelV v u ∧ ∀ ρ H, Rep G ρ H d v
theorem glp_get {mg : Str → Option Value} {G : Gd} {gl : List (Str × GV)} (a : AllM (GlP mg G) gl) {x : Str} {g : GV} (h : gl.lookup x = some g) : GlP mg G (x, g) := allM_mem a (PySem.mem_of_lookup h)
theorem arr_full {α : Type} {np : Nat} {d xs : List α} (h : xs.length = np) : arr np d [] xs = some xs := by
  unfold arr
  rw [if_pos (show ([] : List Nat).length ≤ xs.length from Nat.zero_le _)]
  subst h
  have key : ∀ (l : List Nat), (∀ j ∈ l, j < xs.length) → (l.mapM fun j => if j < xs.length - ([] : List Nat).length then xs[j]? else match ([] : List Nat).idxOf? j with
      | some p => xs[xs.length - ([] : List Nat).length + p]?
      | none => if xs.length ≤ j + d.length then d[j + d.length - xs.length]? else none) = some (l.filterMap fun j => xs[j]?) := by
    intro l
    induction l with
    | nil => intro _; rw [List.mapM_nil]; rfl
    | cons j l ih =>
      intro hl
      have hj := hl j List.mem_cons_self
      rw [List.mapM_cons, ih fun k m => hl k (List.mem_cons_of_mem _ m)]
      have e : xs[j]? = some xs[j] := List.getElem?_eq_getElem hj
      simp [hj, e]
  refine (key _ fun j m => by simpa using m).trans ?_
  congr 1
  have : ∀ ys : List α, (List.range ys.length).filterMap (fun j => ys[j]?) = ys := by
    intro ys
    induction ys with
    | nil => rfl
    | cons y ys ih =>
      rw [List.length_cons, List.range_succ_eq_map, List.filterMap_cons]
      simp only [List.getElem?_cons_zero, List.filterMap_map]
      have : ((fun j => (y :: ys)[j]?) ∘ Nat.succ) = fun j => ys[j]? := by funext j; simp
      rw [this, ih]
  exact this xs
theorem shape0 {G : Gd} {F : FnI} {f : FnD} {n : Nat} (hn : f.np = n) (h : ∀ (s : Shared) (us : List Value), us.length = n → Bd s F ⟨us, []⟩ us) : Shape G F f n [] [] := fun s us _ hl => by
  refine ⟨us, arr_full (by rw [hn]; exact hl), ?_⟩
  have e1 : us.take (n - ([] : List Nat).length) = us := by rw [List.length_nil, Nat.sub_zero, ← hl, List.take_length]
  rw [e1]
  exact h s us hl
def fsB (N ps : List Str) (sc : Scope) : Bool := decide (sc.kind = .function) && !sc.isCoroutine && !sc.isGenerator && decide N.Nodup && decide (N.take ps.length = ps) && (ps.all fun x => decide (sc.names.lookup x = some .local) || decide (sc.names.lookup x = some .cell)) && sc.names.all fun y => decide (y.2 ≠ .free)
theorem fs_of {N ps : List Str} {sc : Scope} (h : fsB N ps sc = true) : FnScope N ps sc := by
  unfold fsB at h
  simp only [Bool.and_eq_true, Bool.not_eq_true', List.all_eq_true, Bool.or_eq_true, decide_eq_true_eq] at h
  obtain ⟨⟨⟨⟨⟨⟨h1, h2⟩, h3⟩, h4⟩, h5⟩, h6⟩, h7⟩ := h
  exact ⟨h1, h2, h3, h4, h5, h6, h7⟩
/-- one def's check, whole -/
def defB (S : Stat) (N ps : List Str) (st : Stmt) (f : FnD) : Bool := fsB N ps (defScope st) && chkSs S N (defScope st) f.lam f.body (defBody st) && decide (N.length = f.ns) && decide (ps.length = f.np)
theorem def_ok {G : Gd} {S : Stat} {i : Nat} {fa : Addr} {ps N : List Str} {dvs : List Value} {f : FnD} {nm qual : Str} {st : Stmt} {oc dV kV doc pm cdv ct : Value} {od an : Option Addr} {osl : Array (Option Value)}
    (hfa : G.fa i = fa) (hl : G.K.lookup fa = some ⟨oc, od, .func (PySem.W.fnOf nm qual (defArgs st) (defBody st) (defScope st) dV kV doc pm an cdv ct), osl⟩) (hc : PySem.W.codeIn G.K cdv qual = true) (hk : PySem.W.keepIn G.K (.ref fa) = true)
    (hb : defB S N ps st f = true) (hd : ∀ ρ H, ∃ vs, RepL G ρ H f.dflt vs ∧ Vals vs dvs)
    (hlam : f.lam = true → ∃ c P, cdv = .ref c ∧ (c, P) ∈ G.cods ∧ (P, (envOfC qual (defScope st) 0 0 cdv).qual ++ "<lambda>") ∈ G.tabs ∧ ∀ q ∈ G.tabs, q.1 = P → q.2 = (envOfC qual (defScope st) 0 0 cdv).qual ++ "<lambda>") : DefOk G S i ⟨PySem.W.fnOf nm qual (defArgs st) (defBody st) (defScope st) dV kV doc pm an cdv ct, ps, dvs⟩ f := by
  subst hfa
  unfold defB at hb
  simp only [Bool.and_eq_true] at hb
  obtain ⟨⟨⟨h1, h2⟩, h3⟩, h4⟩ := hb
  exact ⟨⟨oc, od, nm, qual, _, _, _, dV, kV, doc, pm, cdv, ct, an, osl, N, rfl, hl, hc, fs_of h1, h2, of_decide_eq_true h3, hlam⟩, hk, of_decide_eq_true h4, hd⟩
theorem no_dflt {G : Gd} : ∀ ρ H, ∃ vs, RepL G ρ H [] vs ∧ Vals vs [] := fun _ _ => ⟨[], .nil, .nil⟩
/-- a default that is the empty tuple -/
theorem tup0_dflt {G : Gd} {E : Addr} {oE : Obj} {n : Nat} (h : G.K.lookup E = some oE) (h1 : oE.cls = .type "tuple") (h2 : oE.data = .seq #[] n) : ∀ ρ H, ∃ vs, RepL G ρ H [.tup []] vs ∧ Vals vs [.ref E] := fun ρ H =>
  ⟨[.ref E], .cons (.tup0 fun H' => .inr ⟨oE, #[], n, h, h1, h2, Nat.zero_le _, .nil⟩) .nil, show Vals [V.ref E] [Value.ref E] from .cons rfl .nil⟩
theorem kit_tc {K : PySem.W.Frag} {t : String} {C : Addr} {cd : ClassData} (h1 : PySem.W.clsIn K C = some cd) (h2 : PySem.W.typeIn K (.ref C) = some (.type "type")) (h3 : PySem.W.subIn K (.type t) (.ref C) = some false) : PySem.W.kitOne K (.type t) (.ref C) = some false := by
  unfold PySem.W.kitOne
  rw [if_neg (show ¬ ((Value.type t == Value.ref C) = true) from Bool.false_ne_true)]
  show (if ((PySem.W.clsIn K C).isSome && PySem.W.typeIn K (.ref C) == some (.type "type")) = true then PySem.W.subIn K (.type t) (.ref C) else none) = some false
  rw [h1, h2, if_pos (by rfl), h3]
theorem kit_ct {K : PySem.W.Frag} {t : String} {C : Addr} (hm : PySem.W.kitMeta t = true) (h3 : PySem.W.subIn K (.ref C) (.type t) = some false) : PySem.W.kitOne K (.ref C) (.type t) = some false := by
  unfold PySem.W.kitOne
  rw [if_neg (show ¬ ((Value.ref C == Value.type t) = true) from Bool.false_ne_true)]
  show (if PySem.W.kitMeta t = true then PySem.W.subIn K (.ref C) (.type t) else none) = some false
  rw [if_pos hm, h3]
theorem kit_self {K : PySem.W.Frag} {C : Addr} : PySem.W.kitOne K (.ref C) (.ref C) = some true := if_pos (beq_self_eq_true _)
theorem kit_cc {K : PySem.W.Frag} {C' C : Addr} {cd : ClassData} (hne : (C' == C) = false) (h1 : PySem.W.clsIn K C = some cd) (h2 : PySem.W.typeIn K (.ref C) = some (.type "type")) (h3 : PySem.W.subIn K (.ref C') (.ref C) = some false) : PySem.W.kitOne K (.ref C') (.ref C) = some false := by
  unfold PySem.W.kitOne
  rw [if_neg (by
    intro q
    have q := beq_iff_eq.mp q
    cases q
    simp at hne)]
  show (if ((PySem.W.clsIn K C).isSome && PySem.W.typeIn K (.ref C) == some (.type "type")) = true then PySem.W.subIn K (.ref C') (.ref C) else none) = some false
  rw [h1, h2, if_pos (by rfl), h3]
/-! ### own classes of errors -/
theorem xcf_mk {K : PySem.W.Frag} {C fI N : Addr} {f a b name qual nm q : Str} {bs bm : List Value} {sn : List Str} {sub : List Value} {ab : Bool} {col : Option Bool} {dd : Option Addr} {m0 m1 m2 m3 m5 : Option Value} {st : Stmt} {oc kV doc pm cdv ct : Value} {od an : Option Addr} {osl : Array (Option Value)} {p1 p2 p3 p4 : Pos}
    (xL : K.lookup C = some (excClassObj nm q C N bs bm true sn sub ab col dd m0 m1 m2 m3 m5 "ValueError.__new__")) (hbm : PySem.HandSPX.refsVE bm = true) (sa : PySem.W.findIn K (.ref C) "__setattr__" = some (some (.builtin "object.__setattr__")))
    (eC : PySem.W.subIn K (.ref C) (.type "BaseException") = some true) (tC : PySem.W.typeIn K (.ref C) = some (.type "type")) (kC : PySem.W.keepIn K (.ref C) = true) (no : PySem.W.findIn K (.ref C) f = some none)
    (iC : PySem.W.findIn K (.ref C) "__init__" = some (some (.ref fI))) (tI : PySem.W.typeIn K (.ref fI) = some (.type "function"))
    (l : K.lookup fI = some ⟨oc, od, .func (PySem.W.fnOf name qual (defArgs st) (defBody st) (defScope st) .none kV doc pm an cdv ct), osl⟩) (c : PySem.W.codeIn K cdv qual = true)
    (hst : defBody st = [.Assign [.Attribute (.Name a p1) f p2] (.Name b p3) p4]) (fs : fsB [a, b] [a, b] (defScope st) = true) (nd : (ndSide a && ndSide b) = true)
    (bd : ∀ us : List Value, us.length = 2 → bindArgs (PySem.W.fnOf name qual (defArgs st) (defBody st) (defScope st) .none kV doc pm an cdv ct) ⟨us, []⟩ = pure ([a, b].zip us)) : XcF K C fI f := by
  rw [hst] at l bd
  rw [Bool.and_eq_true] at nd
  exact ⟨⟨⟨nm, q, N, bs, bm, sn, sub, ab, col, dd, m0, m1, m2, m3, m5, xL, hbm⟩, sa, eC, tC, kC⟩, no, iC, tI, oc, od, name, qual, _, _, _, kV, doc, pm, cdv, ct, an, osl, a, b, p1, p2, p3, p4, l, c, fs_of fs, nd, .all bd⟩
theorem kit_ctT {K : PySem.W.Frag} {t : String} {C : Addr} (hm : PySem.W.kitMeta t = true) (h3 : PySem.W.subIn K (.ref C) (.type t) = some true) : PySem.W.kitOne K (.ref C) (.type t) = some true := by
  unfold PySem.W.kitOne
  rw [if_neg (show ¬ ((Value.ref C == Value.type t) = true) from Bool.false_ne_true)]
  show (if PySem.W.kitMeta t = true then PySem.W.subIn K (.ref C) (.type t) else none) = some true
  rw [if_pos hm, h3]
/-- one row of the sorter's questions -/
def IsP (K : PySem.W.Frag) (mg : Str → Option Value) (D : Addr) (j i : Nat) (n : Str) : Prop := ∃ c, mg n = some (.ref c) ∧ PySem.W.kitOne K (.ref D) (.ref c) = some (decide (i = j))
theorem errf_mk {K : PySem.W.Frag} {mg : Str → Option Value} {D CW : Addr} {f : Str} {n : Int} (j : Nat) (hn : n = (j : Int)) (hj : j < 8)
    (hg : PySem.W.findIn K (.ref D) "__getattribute__" = some (some (.builtin "BaseException.__getattribute__"))) (hk : PySem.W.findIn K (.ref D) "__getattr__" = some none) (hs : PySem.W.subIn K (.ref D) (.type "BaseException") = some true) (hd : PySem.W.hasDictIn K D = true)
    (ha : PySem.W.findIn K (.ref D) "__class__" = some (some (.builtin "object.__class__"))) (hgt : PySem.W.specialIn K (.builtin "object.__class__") "__get__" = some (some (.builtin "getset_descriptor.__get__"))) (htk : PySem.W.takesIn K (.builtin "object.__class__") = some true) (hm : PySem.W.mroIn K D (.type "object") = some true)
    (is : AllI (IsP K mg D j) 0 errNs) (ve : PySem.W.subIn K (.ref D) (.type "ValueError") = some true) (le : PySem.W.subIn K (.ref D) (.type "LookupError") = some false) (mv : PySem.W.kitMeta "ValueError" = true) (ml : PySem.W.kitMeta "LookupError" = true)
    (hf : f = (if 2 < j ∧ j < 6 then ("index" : Str) else "given")) (no : PySem.W.findIn K (.ref D) f = some none) (w1 : mg "WrongValue" = some (.ref CW)) (w2 : PySem.W.subIn K (.ref CW) (.type "BaseException") = some true) (w3 : PySem.W.hasDictIn K CW = true) (w4 : PySem.W.typeIn K (.ref CW) = some (.type "type")) (w5 : PySem.W.subIn K (.ref D) (.ref CW) = some true) : ErrF K mg D f n := by
  refine ⟨⟨j, hn, ⟨⟨hg, hk, hs, hd, ha, hgt, htk, hm⟩, hj, fun i n h => ?_, kit_ctT mv ve, kit_ct ml le⟩, hf⟩, no, fun c hc => ?_⟩
  · have := allI_get is h
    rwa [Nat.zero_add] at this
  · rw [w1] at hc
    cases hc
    exact PySem.W.exm_ref w2 w3 w4 w5
def posAt (l : List (Nat × Nat × Nat × Nat)) (i : Nat) : Pos := match l[i]? with
  | some (a, b, c, d) => ⟨a, b, c, d⟩
  | none => ⟨0, 0, 0, 0⟩
def namesOk (l : List Str) : Bool := decide l.Nodup
theorem names_inj {l : List Str} (h : namesOk l = true) : ∀ (f g : Nat), f < l.length → g < l.length → l.getD f Str.empty = l.getD g Str.empty → f = g := fun f g hf hg e => by
  rw [List.getD_eq_getElem?_getD, List.getD_eq_getElem?_getD, List.getElem?_eq_getElem hf, List.getElem?_eq_getElem hg] at e
  exact (List.getElem_inj (of_decide_eq_true h)).mp e
theorem names_nm {l : List Str} (f : Nat) (x : Str) (h : l[f]? = some x) : x = l.getD f Str.empty ∧ f < l.length := by
  refine ⟨?_, (List.getElem?_eq_some_iff.mp h).1⟩
  rw [List.getD_eq_getElem?_getD, h]; rfl
def fldsB (T : Tab) (n : Nat) : Bool := T.cls.all fun k => k.flds.all fun f => decide (f < n)
theorem flds_of {T : Tab} {n : Nat} (h : fldsB T n = true) (c : Nat) (k : ClsD) (hk : T.cls[c]? = some k) (f : Nat) (hf : f ∈ k.flds) : f < n :=
  of_decide_eq_true (List.all_eq_true.mp (List.all_eq_true.mp h k (List.mem_of_getElem? hk)) f hf)
/-- a method's facts, class by class -/
theorem mth_of {G : Gd} {T : Tab} (hT : G.T = T) {e : Nat × Str × Nat} (h : AllI (fun c k => ∀ g', k.meths.lookup e.1 = some g' → g' = e.2.2 ∧ Meth G.K (G.ca c) e.2.1 (G.fa e.2.2) ∧ AllM (fun q => (e.2.1 == G.fnm q) = false) k.flds) 0 T.cls) :
    (∀ (c : Nat) (k : ClsD), G.T.cls[c]? = some k → k.meths.lookup e.1 = some e.2.2 → Meth G.K (G.ca c) e.2.1 (G.fa e.2.2)) ∧ (∀ (c : Nat) (k : ClsD), G.T.cls[c]? = some k → ∀ g', k.meths.lookup e.1 = some g' → g' = e.2.2) ∧
    ∀ (c : Nat) (k : ClsD), G.T.cls[c]? = some k → k.meths.lookup e.1 = some e.2.2 → ∀ q ∈ k.flds, (e.2.1 == G.fnm q) = false := by
  subst hT
  exact ⟨fun c k hk hl => (allI0 h c k hk _ hl).2.1, fun c k hk g' hl => (allI0 h c k hk _ hl).1, fun c k hk hl q hq => allM_mem (p := fun q => (e.2.1 == G.fnm q) = false) (allI0 h c k hk _ hl).2.2 hq⟩
theorem opAt_of {K : PySem.W.Frag} {c f : Addr} {nm : String} {a b : Str} (ha : PySem.dunder nm = a) (hb : PySem.dunderR nm = b) (h1 : PySem.W.findIn K (.ref c) a = some (some (.ref f))) (h2 : PySem.W.isFn K (.ref f) = true) (h3 : PySem.W.findIn K (.ref c) b = some none) (h4 : PySem.W.selfFirst K c = true)
    (h5 : AllM (fun t : String => (∃ fo, PySem.W.findIn K (.type t) a = some fo) ∧ (∃ ro, PySem.W.findIn K (.type t) b = some ro) ∧ PySem.W.subIn K (.type t) (.ref c) = some false) ["NoneType", "bool", "int", "str", "tuple", "list", "dict"]) : OpAt K c f nm := by
  subst ha; subst hb
  exact ⟨h1, h2, h3, h4, fun t m => allM_mem (p := fun t : String => (∃ fo, PySem.W.findIn K (.type t) (PySem.dunder nm) = some fo) ∧ (∃ ro, PySem.W.findIn K (.type t) (PySem.dunderR nm) = some ro) ∧ PySem.W.subIn K (.type t) (.ref c) = some false) h5 m⟩
end Dn

set_option Elab.async false
set_option linter.all false
set_option maxRecDepth 100000
set_option maxHeartbeats 4000000
/-! PL: plain lemmas that every law needs. -/
namespace Dn
open PySem L2
/-! ### data that can be shown -/
mutual
def okD : D → Bool
  | .non => true
  | .bl _ => true
  | .int i => decide (i.natAbs.log2 < 1920)
  | .str s => s.cps.all fun c => decide (c < 0x110000)
  | .tup l => okL l
  | .lst l => okL l
  | .ro l => okL l
  | .obj _ _ => false
  | .cell _ => false
  | .emp => false
  | .dkt _ _ => false
def okL : List D → Bool
  | [] => true
  | x :: r => okD x && okL r
end
mutual
def szD : D → Nat
  | .non => 4
  | .bl _ => 5
  | .int _ => 1921
  | .str s => 10 * s.length + 2
  | .tup l => szL l + 2
  | .lst l => szL l + 2
  | .ro l => szL l + 2
  | .obj _ _ => 0
  | .cell _ => 0
  | .emp => 2
  | .dkt ks _ => 1923 * ks.length + 2000
def szL : List D → Nat
  | [] => 0
  | x :: r => szD x + 2 + szL r
end
mutual
def dpD : D → Nat
  | .tup l => dpL l + 1
  | .lst l => dpL l + 1
  | .ro l => dpL l + 1
  | .non | .bl _ | .int _ | .str _ | .obj _ _ | .cell _ => 0
  | .emp => 1
  | .dkt _ _ => 2
def dpL : List D → Nat
  | [] => 0
  | x :: r => max (dpD x) (dpL r)
end
theorem textFrom_le : ∀ (ts : List Str) (k : Nat) (acc : Str), (textFrom k acc ts).length ≤ acc.length + piled ts
  | [], k, acc => Nat.le_add_right _ _
  | t :: ts, k, acc => by
    have h := textFrom_le ts (k + 1) (acc ++ (if k > 0 then ", " else "" : String) ++ t)
    rw [strLen_append, strLen_append] at h
    have e : ((if k > 0 then ", " else "" : String) : Str).length ≤ 2 := by split <;> decide
    rw [piled_cons]
    show (textFrom (k + 1) _ ts).length ≤ _
    omega
theorem listText_le (ts : List Str) : (listText ts).length ≤ piled ts + 2 := by
  unfold listText
  rw [strLen_append]
  have h := textFrom_le ts 0 "["
  have e1 : (("[" : String) : Str).length = 1 := rfl
  have e2 : (("]" : String) : Str).length = 1 := rfl
  omega
mutual
theorem show_ok : ∀ (d : D), okD d = true → ∃ p, toPy d = some p ∧ p.showable = true ∧ p.shown.length ≤ szD d ∧ p.depth ≤ dpD d
  | .non, _ => ⟨.none, rfl, rfl, by decide +kernel, Nat.le_refl _⟩
  | .bl b, _ => ⟨.bool b, rfl, rfl, by cases b <;> decide +kernel, Nat.le_refl _⟩
  | .int i, h => by
    simp only [okD, decide_eq_true_eq] at h
    refine ⟨.int i, rfl, by simpa [PyData.showable] using h, ?_, Nat.le_refl _⟩
    simp only [PyData.shown]
    exact PyProof.Rows.int_text_len_1921 h
  | .str s, h => by
    refine ⟨.str s, rfl, rfl, ?_, Nat.le_refl _⟩
    simp only [PyData.shown]
    refine StrLaws.reprText_len s fun c hc => ?_
    simp only [okD] at h
    rw [← Array.all_toList, List.all_eq_true] at h
    have := of_decide_eq_true (h c hc)
    omega
  | .tup l, h => by
    obtain ⟨ps, h1, h2, h3, h4⟩ := show_okL l (by simpa only [okD] using h)
    refine ⟨.tuple ps, by simp [toPy, h1], by simpa [PyData.showable] using h2, ?_, by simpa [PyData.depth, dpD] using h4⟩
    simp only [PyData.shown, szD]
    have := fmt_text (PyData.shownAll ps)
    omega
  | .lst l, h => by
    obtain ⟨ps, h1, h2, h3, h4⟩ := show_okL l (by simpa only [okD] using h)
    refine ⟨.list ps, by simp [toPy, h1], by simpa [PyData.showable] using h2, ?_, by simpa [PyData.depth, dpD] using h4⟩
    simp only [PyData.shown, szD]
    have := listText_le (PyData.shownAll ps)
    omega
  | .ro l, h => by
    obtain ⟨ps, h1, h2, h3, h4⟩ := show_okL l (by simpa only [okD] using h)
    refine ⟨.list ps, by simp [toPy, h1], by simpa [PyData.showable] using h2, ?_, by simpa [PyData.depth, dpD] using h4⟩
    simp only [PyData.shown, szD]
    have := listText_le (PyData.shownAll ps)
    omega
  | .obj _ _, h => by simp [okD] at h
  | .cell _, h => by simp [okD] at h
  | .emp, h => by simp [okD] at h
  | .dkt _ _, h => by simp [okD] at h
theorem show_okL : ∀ (l : List D), okL l = true → ∃ ps, toPyL l = some ps ∧ PyData.showableAll ps = true ∧ piled (PyData.shownAll ps) ≤ szL l ∧ PyData.depthAll ps ≤ dpL l
  | [], _ => ⟨[], rfl, rfl, Nat.le_refl _, Nat.le_refl _⟩
  | x :: r, h => by
    simp only [okL, Bool.and_eq_true] at h
    obtain ⟨p, h1, h2, h3, h4⟩ := show_ok x h.1
    obtain ⟨ps, g1, g2, g3, g4⟩ := show_okL r h.2
    refine ⟨p :: ps, by simp [toPyL, h1, g1], by simp [PyData.showableAll, h2, g2], ?_, ?_⟩
    · simp only [PyData.shownAll, piled_cons, szL]
      omega
    · simp only [PyData.depthAll, dpL]
      omega
end
theorem deref_ok {M : Mem} {d : D} (h : okD d = true) : derefD M d = d := by
  cases d <;> first | rfl | (simp [okD] at h)
/-- repr of data of known size -/
theorem repr_ok {M : Mem} {d : D} (h : okD d = true) (hz : szD d ≤ sizeLine) (hd : dpD d ≤ 60) : ∃ p, toPy d = some p ∧ reprD M d = some (.str p.shown) := by
  obtain ⟨p, h1, h2, h3, h4⟩ := show_ok d h
  refine ⟨p, h1, ?_⟩
  unfold reprD
  rw [deref_ok h, h1]
  simp only
  rw [if_pos ⟨h2, Nat.le_trans h4 hd, Nat.le_trans h3 hz⟩]
theorem eq_str {M : Mem} (s : Str) : eqD M (.str s) (.str s) = some true := by
  simp [eqD, derefD, toPy, PyData.depth, PyData.eqv]
/-- two shown values are equal if they are the same data -/
theorem repr_eq {M M' : Mem} {x y : D} (hx : okD x = true) (hz : szD x ≤ sizeLine) (hd : dpD x ≤ 60) (hy : okD y = true) (hyz : szD y ≤ sizeLine) (hyd : dpD y ≤ 60) (e : toPy x = toPy y) : ∃ s, reprD M x = some (.str s) ∧ reprD M' y = some (.str s) := by
  obtain ⟨p, h1, h2⟩ := repr_ok (M := M) hx hz hd
  obtain ⟨q, g1, g2⟩ := repr_ok (M := M') hy hyz hyd
  rw [h1, g1] at e
  cases e
  exact ⟨_, h2, g2⟩
/-! ### comprehensions -/
theorem compS_map {f : D → Mem → Rs (List D)} {g : D → List D} {M : Mem} : ∀ {l : List D}, (∀ x ∈ l, f x M = some (g x, M)) → compS f l M = some (l.flatMap g, M)
  | [], _ => rfl
  | x :: r, h => by
    rw [compS, h x List.mem_cons_self]
    simp only [bnd_some]
    rw [compS_map fun y m => h y (List.mem_cons_of_mem _ m)]
    rfl
theorem compS_over {α : Type} {h : α → D} {f : D → Mem → Rs (List D)} {g : α → List D} {M : Mem} : ∀ {l : List α}, (∀ a ∈ l, f (h a) M = some (g a, M)) → compS f (l.map h) M = some (l.flatMap g, M)
  | [], _ => rfl
  | x :: r, q => by
    rw [List.map_cons, compS, q x List.mem_cons_self]
    simp only [bnd_some]
    rw [compS_over fun y m => q y (List.mem_cons_of_mem _ m)]
    rfl
theorem strs_of {α : Type} (g : α → Str) : ∀ l : List α, strsD (l.map (D.str ∘ g)) = some (l.map g)
  | [] => rfl
  | x :: r => by
    show (strsD (r.map (D.str ∘ g))).map (g x :: ·) = _
    rw [strs_of g r]; rfl
theorem ints_of {α : Type} (g : α → Int) : ∀ l : List α, intsD (l.map (D.int ∘ g)) = some (l.map g)
  | [] => rfl
  | x :: r => by
    show (intsD (r.map (D.int ∘ g))).map (g x :: ·) = _
    rw [ints_of g r]; rfl
theorem flat_one {α β : Type} (g : α → β) : ∀ l : List α, (l.flatMap fun x => [g x]) = l.map g
  | [] => rfl
  | x :: r => by rw [List.flatMap_cons, flat_one g r]; rfl
theorem flat_if {α β : Type} (p : α → Bool) (g : α → β) : ∀ l : List α, (l.flatMap fun x => if p x = true then [g x] else []) = (l.filter p).map g
  | [] => rfl
  | x :: r => by
    rw [List.flatMap_cons, flat_if p g r, List.filter_cons]
    cases p x <;> simp
/-! ### digits -/
theorem log_lt {i : Int} (h : i.natAbs < 2 ^ 1920) : i.natAbs.log2 < 1920 := by
  by_cases q : i.natAbs = 0
  · rw [q]; decide
  · exact (Nat.log2_lt q).mpr h
end Dn

set_option Elab.async false
set_option linter.all false
set_option maxRecDepth 100000
set_option maxHeartbeats 4000000
/-! Du: backward rules for the meaning of statements and comprehensions. -/
namespace Dn
open PySem L2
section
variable {C : Cfg} {s s' : En} {M M1 M2 : Mem} {r : SR} {R : Rs Fl}
theorem s_cons {a : SR} (h : evS C a s M = some (.nx s', M1)) (k : evS C r s' M1 = R) : evS C (.seq a r) s M = R := by
  simp only [evS, h, bnd_some]; exact k
theorem s_end {a : SR} {d : D} (h : evS C a s M = some (.rt d, M1)) : evS C (.seq a r) s M = some (.rt d, M1) := by
  simp only [evS, h, bnd_some]
theorem a_v {i : Nat} {e : IR} {d : D} (h : ev C e s M = some (d, M1)) (hi : i < s.length) : evS C (.asg (.v i) e) s M = some (.nx (s.set i (some d)), M1) := by
  simp only [evS, h, bnd_some, asgT, if_pos hi]
theorem a_par {is : List Nat} {l : IR} {ds : List D} (h : evs C l s M = some (ds, M1)) (hs : setAll s is ds = some s') : evS C (.par is l) s M = some (.nx s', M1) := by
  simp only [evS, h, bnd_some, hs, lft_some]
theorem a_ret {e : IR} {d : D} (h : ev C e s M = some (d, M1)) : evS C (.ret e) s M = some (.rt d, M1) := by
  simp only [evS, h, bnd_some]
theorem a_ex {e : IR} {d : D} (h : ev C e s M = some (d, M1)) : evS C (.ex e) s M = some (.nx s, M1) := by
  simp only [evS, h, bnd_some]
/-- a check that passes -/
theorem a_no {c : IR} {a : SR} (h : ev C c s M = some (.bl false, M1)) : evS C (.iff c a .nil) s M = some (.nx s, M1) := by
  simp only [evS, h, bnd_some, truD, lft_some, if_neg Bool.false_ne_true]
theorem e_not {e : IR} {b : Bool} (h : ev C e s M = some (.bl b, M1)) : ev C (.not e) s M = some (.bl (!b), M1) := by
  simp only [ev, h, bnd_some, truD, Option.map_some, lft_some]
theorem e_or {a b : IR} (h : ev C a s M = some (.bl false, M1)) (k : ev C b s M1 = R') : ev C (.or a b) s M = R' := by
  simp only [ev, h, bnd_some, truD, lft_some, if_neg Bool.false_ne_true]; exact k
theorem e_and {a b : IR} (h : ev C a s M = some (.bl true, M1)) (k : ev C b s M1 = R') : ev C (.and a b) s M = R' := by
  simp only [ev, h, bnd_some, truD, lft_some, if_true]; exact k
theorem e_var {i : Nat} {d : D} (h : s[i]? = some (some d)) : ev C (.var i) s M = some (d, M) := by
  simp only [ev, h]
theorem e_blt {b : Blt} {l : IR} {xs : List D} {d : D} (h : evs C l s M = some (xs, M1)) (k : bltC C b xs M1 = some (d, M2)) : ev C (.blt b l) s M = some (d, M2) := by
  simp only [ev, h, bnd_some]; exact k
theorem e_bin {op : Bop} {a b : IR} {x y d : D} {M3 : Mem} (h : ev C a s M = some (x, M1)) (h2 : ev C b s M1 = some (y, M2)) (k : binC C op x y M2 = some (d, M3)) : ev C (.bin op a b) s M = some (d, M3) := by
  simp only [ev, h, h2, bnd_some]; exact k
theorem e_cmp {op : Cop} {a b : IR} {x y : D} {t : Bool} {M3 : Mem} (h : ev C a s M = some (x, M1)) (h2 : ev C b s M1 = some (y, M2)) (k : cmpC C op x y M2 = some (t, M3)) : ev C (.cmp op a b) s M = some (.bl t, M3) := by
  simp only [ev, h, h2, bnd_some, k]
theorem e_attr {a : IR} {f : Nat} {x d : D} (h : ev C a s M = some (x, M1)) (k : attrC C x f M1 = some (d, M2)) : ev C (.attr a f) s M = some (d, M2) := by
  simp only [ev, h, bnd_some]; exact k
theorem e_call {f : Nat} {l : IR} {xs : List D} {d : D} (h : evs C l s M = some (xs, M1)) (k : callC C f [] xs M1 = some (d, M2)) : ev C (.call f [] l .nil) s M = some (d, M2) := by
  simp only [ev, evs, h, bnd_some, List.append_nil]; exact k
theorem e_make {c : Nat} {l : IR} {xs : List D} {d : D} (h : evs C l s M = some (xs, M1)) (k : mkC C c [] xs M1 = some (d, M2)) : ev C (.make c [] l .nil) s M = some (d, M2) := by
  simp only [ev, evs, h, bnd_some, List.append_nil]; exact k
theorem e_meth {f : Nat} {ks : List Nat} {o l lk : IR} {x : D} {xs ys : List D} {d : D} {M3 M4 : Mem} (h0 : ev C o s M = some (x, M1)) (h : evs C l s M1 = some (xs, M2)) (h2 : evs C lk s M2 = some (ys, M3)) (k : methC C f ks x (xs ++ ys) M3 = some (d, M4)) : ev C (.ometh f ks o l lk) s M = some (d, M4) := by
  simp only [ev, h0, h, h2, bnd_some]; exact k
theorem es_nil : evs C .nil s M = some ([], M) := rfl
theorem es_cons {a b : IR} {x : D} {xs : List D} (h : ev C a s M = some (x, M1)) (k : evs C b s M1 = some (xs, M2)) : evs C (.cons a b) s M = some (x :: xs, M2) := by
  simp only [evs, h, k, bnd_some]
theorem es_one {a : IR} {x : D} (h : ev C a s M = some (x, M1)) : evs C (.cons a .nil) s M = some ([x], M1) := es_cons h es_nil
end
section
variable {C : Cfg} {s : En} {M M1 : Mem}
/-- a comprehension: the source's things xs, those with p, each as g -/
theorem comp_st {α : Type} {emb : α → D} {it : ItK} {t : List Nat} {tk : Bool} {src cond e : IR} {ds : List D} {xs : List α} (p : α → Bool) (g : α → D) (hs : evs C src s M = some (ds, M1)) (hi : itD it ds M1 = some (.st (xs.map emb)))
    (h : ∀ x ∈ xs, turnE C t tk cond e (wipeE s t) (emb x) M1 = some (if p x = true then [g x] else [], M1)) : ev C (.comp false t tk it src cond e) s M = some (.lst ((xs.filter p).map g), M1) := by
  have key : compS (turnE C t tk cond e (wipeE s t)) (xs.map emb) M1 = some ((xs.filter p).map g, M1) := by
    rw [compS_over (g := fun x => if p x = true then [g x] else []) h, flat_if]
  show bnd (evs C src s M) (fun xs M' => bnd (lft (itD it xs M') M') fun q M' => bnd (compGo (turnE C t tk cond e (wipeE s t)) q M') fun ys M' => newL false ys M') = _
  rw [hs]
  simp only [bnd_some, hi, lft_some, compGo, key, newL, if_neg Bool.false_ne_true]
theorem comp_all {α : Type} {emb : α → D} {it : ItK} {t : List Nat} {tk : Bool} {src cond e : IR} {ds : List D} {xs : List α} (g : α → D) (hs : evs C src s M = some (ds, M1)) (hi : itD it ds M1 = some (.st (xs.map emb)))
    (h : ∀ x ∈ xs, turnE C t tk cond e (wipeE s t) (emb x) M1 = some ([g x], M1)) : ev C (.comp false t tk it src cond e) s M = some (.lst (xs.map g), M1) := by
  have := comp_st (fun _ => true) g hs hi (fun x hx => by rw [if_pos rfl]; exact h x hx)
  rwa [List.filter_eq_self.mpr fun _ _ => rfl] at this
theorem comp2_st {α β : Type} {emb : α → D} {emb' : β → D} {it it' : ItK} {t t' : List Nat} {tk tk' : Bool} {src src' cond e : IR} {ds : List D} {xs : List α} (ys : α → List β) (p : α → β → Bool) (g : α → β → D) (hs : evs C src s M = some (ds, M1)) (hi : itD it ds M1 = some (.st (xs.map emb)))
    (h : ∀ x ∈ xs, ∃ s' ds', bindT t tk (emb x) (wipeE s (t ++ t')) = some s' ∧ evs C src' s' M1 = some (ds', M1) ∧ itD it' ds' M1 = some (.st ((ys x).map emb')) ∧ ∀ y ∈ ys x, turnE C t' tk' cond e (wipeE s' t') (emb' y) M1 = some (if p x y = true then [g x y] else [], M1))
    (hl : (xs.flatMap fun x => ((ys x).filter (p x)).map (g x)).length ≤ sizeLine) : ev C (.comp2 false t tk it src t' tk' it' src' cond e) s M = some (.lst (xs.flatMap fun x => ((ys x).filter (p x)).map (g x)), M1) := by
  show bnd (evs C src s M) (fun xs M' => bnd (lft (itD it xs M') M') fun q M' => bnd (compGo (fun x M => bnd (lft (bindT t tk x (wipeE s (t ++ t'))) M) fun s' M => bnd (evs C src' s' M) fun xs M => bnd (lft (itD it' xs M) M) fun q' M => compGo (turnE C t' tk' cond e (wipeE s' t')) q' M) q M') fun ys M' => bnd (lft (fitL ys.length ys) M') fun ys M' => newL false ys M') = _
  rw [hs]
  simp only [bnd_some, hi, lft_some, compGo]
  rw [compS_over (g := fun x => ((ys x).filter (p x)).map (g x)) fun x hx => ?_]
  · simp only [bnd_some, fitL, if_pos hl, lft_some, newL, if_neg Bool.false_ne_true]
  · obtain ⟨s', ds', h1, h2, h3, h4⟩ := h x hx
    simp only [h1, lft_some, bnd_some, h2, h3, compGo]
    rw [compS_over (g := fun y => if p x y = true then [g x y] else []) h4, flat_if]
theorem it_val {d : D} {l : List D} (h : itemsD d = some l) : itD .val [d] M = some (.st l) := by
  cases d <;> first | (simp only [itD, h, Option.map_some]; done) | cases h
theorem it_r1 {n : Nat} (h : n ≤ 16777216) : itD .range1 [.int (n : Nat)] M = some (.st ((List.range n).map fun i : Nat => D.int (i : Nat))) := by
  show (if (n : Int) ≤ 16777216 ∧ -(2 ^ 62) ≤ (n : Int) then some (Src.st (rowTo 0 (n : Int).toNat)) else none) = _
  rw [if_pos ⟨by omega, by omega⟩]
  unfold rowTo
  simp
theorem it_r2 {a b : Int} (h : b - a ≤ 16777216) : itD .range2 [.int a, .int b] M = some (.st ((List.range (b - a).toNat).map fun i : Nat => D.int (a + (i : Nat)))) := by
  show (if b - a ≤ 16777216 then some (Src.st (rowTo a (b - a).toNat)) else none) = _
  rw [if_pos h]
  rfl
/-- a loop without breaks, over things that are known ahead; the state stays in J -/
theorem for_go {α : Type} {emb : α → D} {f : D → En → Mem → Rs Fl} (J : List α → En → Mem → Prop) (whole : List α) (h : ∀ don x rest s M, don ++ x :: rest = whole → J don s M → ∃ s' M', f (emb x) s M = some (.nx s', M') ∧ J (don ++ [x]) s' M') :
    ∀ (xs done : List α) (s : En) (M : Mem), done ++ xs = whole → J done s M → ∃ s' M', forS f (xs.map emb) s M = some (.nx s', M') ∧ J whole s' M'
  | [], done, s, M, e, j => ⟨s, M, rfl, by rw [← e, List.append_nil]; exact j⟩
  | x :: xs, done, s, M, e, j => by
    obtain ⟨s1, M1, e1, j1⟩ := h done x xs s M e j
    obtain ⟨s2, M2, e2, j2⟩ := for_go J whole h xs (done ++ [x]) s1 M1 (by rw [List.append_assoc]; exact e) j1
    refine ⟨s2, M2, ?_, j2⟩
    rw [List.map_cons, forS, e1]
    simp only [bnd_some]
    exact e2
theorem for_inv {α : Type} {emb : α → D} {f : D → En → Mem → Rs Fl} (J : List α → En → Mem → Prop) (xs : List α) (s : En) (M : Mem) (j : J [] s M) (h : ∀ don x rest s M, don ++ x :: rest = xs → J don s M → ∃ s' M', f (emb x) s M = some (.nx s', M') ∧ J (don ++ [x]) s' M') :
    ∃ s' M', forS f (xs.map emb) s M = some (.nx s', M') ∧ J xs s' M' := for_go J xs h xs [] s M rfl j
theorem a_for {t : TG} {it : ItK} {src : IR} {b : SR} {ds l : List D} {s' : En} {M2 : Mem} (hs : evs C src s M = some (ds, M1)) (hi : itD it ds M1 = some (.st l)) (h : forS (fun x s M => bnd (asgT C t x s M) fun s' M => evS C b s' M) l s M1 = some (.nx s', M2)) :
    evS C (.loop t it src b) s M = some (.nx s', M2) := by
  show bnd (evs C src s M) (fun xs M => bnd (lft (itD it xs M) M) fun q M => forGo (fun x s M => bnd (asgT C t x s M) fun s' M => evS C b s' M) q s M) = _
  rw [hs]
  simp only [bnd_some, hi, lft_some, forGo]
  exact h
end
end Dn

set_option Elab.async false
set_option linter.all false
set_option maxRecDepth 100000
set_option maxHeartbeats 4000000
/-! DuX: what returns does not raise; backward rules for what raises. -/
namespace Dn
open PySem L2
/-- what is called either returns or raises -/
def NoX (C : Cfg) : Prop := ∀ i xs M r, C.cf i xs M = some r → C.cx i xs M = none
section
variable {C : Cfg} (hC : NoX C)
include hC
theorem callX_none {f : Nat} {ks : List Nat} {xs : List D} {M : Mem} {r : D × Mem} (h : callC C f ks xs M = some r) : callXC C f ks xs M = none := by
  unfold callC at h
  unfold callXC
  cases e : argsC C f ks xs with
  | none => rfl
  | some ys => rw [e] at h; exact hC _ _ _ _ h
theorem evX_none {e : IR} {s : En} {M : Mem} {r : D × Mem} (h : ev C e s M = some r) : evX C e s M = none := by
  cases e with
  | call f ks l lk =>
    simp only [ev] at h
    simp only [evX]
    cases e1 : evs C l s M with
    | none => rfl
    | some p =>
      obtain ⟨xs, M1⟩ := p
      rw [e1] at h
      simp only [bnd_some] at h ⊢
      cases e2 : evs C lk s M1 with
      | none => rfl
      | some p =>
        obtain ⟨ys, M2⟩ := p
        rw [e2] at h
        simp only [bnd_some] at h ⊢
        exact callX_none hC h
  | make c ks l lk =>
    simp only [ev] at h
    simp only [evX]
    cases e1 : evs C l s M with
    | none => rfl
    | some p =>
      obtain ⟨xs, M1⟩ := p
      rw [e1] at h
      simp only [bnd_some] at h ⊢
      cases e2 : evs C lk s M1 with
      | none => rfl
      | some p =>
        obtain ⟨ys, M2⟩ := p
        rw [e2] at h
        simp only [bnd_some] at h ⊢
        unfold mkC at h
        unfold mkXC
        cases e3 : C.T.cls[c]? with
        | none => rfl
        | some k =>
          rw [e3] at h
          simp only at h ⊢
          cases e4 : callC C k.init ks (.cell M2.length :: (xs ++ ys)) (M2 ++ [.ins c []]) with
          | none => rw [e4] at h; cases h
          | some q => rw [callX_none hC e4]; rfl
  | ometh f ks o l lk =>
    simp only [ev] at h
    simp only [evX]
    cases e0 : ev C o s M with
    | none => rfl
    | some p =>
      obtain ⟨x, M0⟩ := p
      rw [e0] at h
      simp only [bnd_some] at h ⊢
      cases e1 : evs C l s M0 with
      | none => rfl
      | some p =>
        obtain ⟨xs, M1⟩ := p
        rw [e1] at h
        simp only [bnd_some] at h ⊢
        cases e2 : evs C lk s M1 with
        | none => rfl
        | some p =>
          obtain ⟨ys, M2⟩ := p
          rw [e2] at h
          simp only [bnd_some] at h ⊢
          unfold methC at h
          unfold methXC
          cases e3 : methOf C.T f x with
          | none => rfl
          | some g => rw [e3] at h; exact callX_none hC h
  | bin op a b =>
    simp only [ev] at h
    simp only [evX]
    cases e1 : ev C a s M with
    | none => rfl
    | some p =>
      obtain ⟨x, M1⟩ := p
      rw [e1] at h
      simp only [bnd_some] at h ⊢
      cases e2 : ev C b s M1 with
      | none => rfl
      | some p =>
        obtain ⟨y, M2⟩ := p
        rw [e2] at h
        simp only [bnd_some] at h ⊢
        unfold binC at h
        unfold binXC
        cases e3 : bopOf C.T op x with
        | none => rfl
        | some f =>
          rw [e3] at h
          simp only at h ⊢
          by_cases q : rightOk M2 x y = true
          · rw [if_pos q] at h ⊢; exact hC _ _ _ _ h
          · rw [if_neg q]
  | _ => rfl
theorem forX_none {body : D → En → Mem → Rs Fl} {bodyX : D → En → Mem → Rs Xn} (hb : ∀ x s M r, body x s M = some r → bodyX x s M = none) (fin : Mem → Bool) : ∀ (ts : List (Mem → Option D)) (s : En) (M : Mem) (r : Fl × Mem), forT body fin ts s M = some r → forX body bodyX ts s M = none
  | [], _, _, _, _ => rfl
  | t :: ts, s, M, r, h => by
    simp only [forT] at h
    simp only [forX]
    cases e1 : t M with
    | none => rfl
    | some x =>
      rw [e1] at h
      simp only [lft_some, bnd_some] at h ⊢
      cases e2 : body x s M with
      | none => rw [e2] at h; cases h
      | some p =>
        obtain ⟨f, M1⟩ := p
        rw [e2] at h
        rw [hb x s M _ e2]
        simp only [bnd_some] at h ⊢
        cases f with
        | nx s' => exact forX_none hb fin ts s' M1 r h
        | ct s' => exact forX_none hb fin ts s' M1 r h
        | bk s' => rfl
        | rt d => rfl
theorem evSX_none : ∀ {a : SR} {s : En} {M : Mem} {r : Fl × Mem}, evS C a s M = some r → evSX C a s M = none := by
  intro a
  induction a with
  | seq a b iha ihb =>
    intro s M r h
    simp only [evS] at h
    simp only [evSX]
    cases e1 : evS C a s M with
    | none => rw [e1] at h; cases h
    | some p =>
      obtain ⟨f, M1⟩ := p
      rw [e1] at h
      rw [iha e1]
      simp only [bnd_some] at h ⊢
      cases f with
      | nx s' => exact ihb h
      | _ => rfl
  | ret e =>
    intro s M r h
    simp only [evS] at h
    simp only [evSX]
    cases e1 : ev C e s M with
    | none => rw [e1] at h; cases h
    | some p => exact evX_none hC e1
  | ex e =>
    intro s M r h
    simp only [evS] at h
    simp only [evSX]
    cases e1 : ev C e s M with
    | none => rw [e1] at h; cases h
    | some p => exact evX_none hC e1
  | iff c a b iha ihb =>
    intro s M r h
    simp only [evS] at h
    simp only [evSX]
    cases e1 : ev C c s M with
    | none => rfl
    | some p =>
      obtain ⟨x, M1⟩ := p
      rw [e1] at h
      simp only [bnd_some] at h ⊢
      cases e2 : truD M1 x with
      | none => rfl
      | some t =>
        rw [e2] at h
        simp only [lft_some, bnd_some] at h ⊢
        cases t with
        | true => rw [if_pos rfl] at h ⊢; exact iha h
        | false => rw [if_neg Bool.false_ne_true] at h ⊢; exact ihb h
  | loop t it src b ihb =>
    intro s M r h
    simp only [evS] at h
    simp only [evSX]
    cases e1 : evs C src s M with
    | none => rfl
    | some p =>
      obtain ⟨xs, M1⟩ := p
      rw [e1] at h
      simp only [bnd_some] at h ⊢
      cases e2 : itD it xs M1 with
      | none => rfl
      | some q =>
        rw [e2] at h
        simp only [lft_some, bnd_some, forGo_eq] at h ⊢
        refine forX_none hC (fun x s M r h => ?_) _ _ _ _ _ h
        cases e3 : asgT C t x s M with
        | none => rfl
        | some p =>
          obtain ⟨s', M2⟩ := p
          rw [e3] at h
          simp only [bnd_some] at h ⊢
          exact ihb h
  | raise c l =>
    intro s M r h
    simp only [evS] at h
    cases h
  | _ => intro s M r h; rfl
end
/-- the defs of a text -/
theorem noX (T : Tab) (wf : Nat) : ∀ n, NoX ⟨T, callF T wf n, wf, callX T wf n⟩
  | 0 => fun i xs M r h => by cases h
  | n + 1 => fun i xs M r h => by
    have hn := noX T wf n
    show callX T wf (n + 1) i xs M = none
    have h : callF T wf (n + 1) i xs M = some r := h
    simp only [callF] at h
    simp only [callX]
    cases e : T.fns[i]? with
    | none => rfl
    | some f =>
      rw [e] at h
      simp only [runF, runX] at h ⊢
      by_cases q : xs.length = f.np
      · rw [if_pos q] at h ⊢
        cases e1 : evS ⟨T, callF T wf n, wf, callX T wf n⟩ f.body (xs.map some ++ List.replicate (f.ns - f.np) none) M with
        | none => rw [e1] at h; cases h
        | some p => rw [evSX_none hn e1]; rfl
      · rw [if_neg q]
section
variable {C : Cfg} {s s' : En} {M M1 M2 : Mem} {x : Xn × Mem} {R : Rs Xn}
/-- the first statement raises -/
theorem x_here {a r : SR} (h : evSX C a s M = some x) : evSX C (.seq a r) s M = some x := by
  simp only [evSX, h]
/-- the first one goes on -/
theorem x_cons {a r : SR} (hC : NoX C) (h : evS C a s M = some (.nx s', M1)) (k : evSX C r s' M1 = R) : evSX C (.seq a r) s M = R := by
  simp only [evSX, evSX_none hC h, h, bnd_some]; exact k
theorem x_if {c : IR} {a b : SR} (h : ev C c s M = some (.bl true, M1)) (k : evSX C a s M1 = R) : evSX C (.iff c a b) s M = R := by
  simp only [evSX, h, bnd_some, truD, lft_some, if_true]; exact k
theorem x_else {c : IR} {a b : SR} (h : ev C c s M = some (.bl false, M1)) (k : evSX C b s M1 = R) : evSX C (.iff c a b) s M = R := by
  simp only [evSX, h, bnd_some, truD, lft_some, if_neg Bool.false_ne_true]; exact k
theorem x_ex {e : IR} (h : evX C e s M = R) : evSX C (.ex e) s M = R := h
theorem x_ret {e : IR} (h : evX C e s M = R) : evSX C (.ret e) s M = R := h
theorem x_raise {c : Nat} {l : IR} {fs : List D} {k : XcD} (h : evs C l s M = some (fs, M1)) (hk : C.T.xcs[c]? = some k) (hl : fs.length = k.flds.length) : evSX C (.raise c l) s M = some ((c, fs), M1) := by
  simp only [evSX, h, bnd_some, hk, if_pos hl]
theorem x_call {f : Nat} {l : IR} {xs : List D} (h : evs C l s M = some (xs, M1)) (k : callXC C f [] xs M1 = R) : evX C (.call f [] l .nil) s M = R := by
  simp only [evX, evs, h, bnd_some, List.append_nil]; exact k
theorem x_callk {f : Nat} {ks : List Nat} {l lk : IR} {xs ys : List D} (h : evs C l s M = some (xs, M1)) (h2 : evs C lk s M1 = some (ys, M2)) (k : callXC C f ks (xs ++ ys) M2 = R) : evX C (.call f ks l lk) s M = R := by
  simp only [evX, h, h2, bnd_some]; exact k
theorem x_makek {c : Nat} {ks : List Nat} {l lk : IR} {xs ys : List D} (h : evs C l s M = some (xs, M1)) (h2 : evs C lk s M1 = some (ys, M2)) (k : mkXC C c ks (xs ++ ys) M2 = R) : evX C (.make c ks l lk) s M = R := by
  simp only [evX, h, h2, bnd_some]; exact k
theorem x_bin {op : Bop} {a b : IR} {u v : D} (h : ev C a s M = some (u, M1)) (h2 : ev C b s M1 = some (v, M2)) (k : binXC C op u v M2 = R) : evX C (.bin op a b) s M = R := by
  simp only [evX, h, h2, bnd_some]; exact k
theorem x_meth {f : Nat} {ks : List Nat} {o l lk : IR} {u : D} {xs ys : List D} {M3 : Mem} (h0 : ev C o s M = some (u, M1)) (h : evs C l s M1 = some (xs, M2)) (h2 : evs C lk s M2 = some (ys, M3)) (k : methXC C f ks u (xs ++ ys) M3 = R) : evX C (.ometh f ks o l lk) s M = R := by
  simp only [evX, h0, h, h2, bnd_some]; exact k
/-- a loop: so many turns go on, then one raises -/
theorem x_forX {body : D → En → Mem → Rs Fl} {bodyX : D → En → Mem → Rs Xn} (hb : ∀ x s M r, body x s M = some r → bodyX x s M = none) {y : D} {post : List D} : ∀ (pre : List D) (s : En) (M : Mem) {s' : En} {M1 : Mem} {x : Xn × Mem}, forS body pre s M = some (.nx s', M1) → (∀ z ∈ pre, ∀ s M s' M', body z s M ≠ some (.bk s', M')) → bodyX y s' M1 = some x →
    forX body bodyX ((pre ++ y :: post).map fun d _ => some d) s M = some x
  | [], s, M, s', M1, x, h, _, k => by
    simp only [forS] at h
    cases h
    simp only [List.nil_append, List.map_cons, forX, lft_some, bnd_some, k]
  | p :: pre, s, M, s', M1, x, h, hk, k => by
    simp only [forS] at h
    simp only [List.cons_append, List.map_cons, forX, lft_some, bnd_some]
    cases e1 : body p s M with
    | none => rw [e1] at h; cases h
    | some q =>
      obtain ⟨f, M2⟩ := q
      rw [hb _ _ _ _ e1]
      rw [e1] at h
      simp only [bnd_some] at h ⊢
      cases f with
      | nx s2 => exact x_forX hb pre s2 M2 h (fun z hz => hk z (List.mem_cons_of_mem _ hz)) k
      | ct s2 => exact x_forX hb pre s2 M2 h (fun z hz => hk z (List.mem_cons_of_mem _ hz)) k
      | bk s2 => exact absurd e1 (hk p List.mem_cons_self _ _ _ _)
      | rt d => cases h
theorem x_loop {t : TG} {it : ItK} {src : IR} {b : SR} {ds : List D} (hC : NoX C) {pre post : List D} {y : D} {s1 s2 : En} (hs : evs C src s M = some (ds, M1)) (hi : itD it ds M1 = some (.st (pre ++ y :: post)))
    (h : forS (fun x s M => bnd (asgT C t x s M) fun s' M => evS C b s' M) pre s M1 = some (.nx s1, M2)) (hk : ∀ z ∈ pre, ∀ s M s' M', bnd (asgT C t z s M) (fun s' M => evS C b s' M) ≠ some (.bk s', M')) {M3 : Mem} (ha : asgT C t y s1 M2 = some (s2, M3)) (k : evSX C b s2 M3 = some x) : evSX C (.loop t it src b) s M = some x := by
  simp only [evSX, hs, bnd_some, hi, lft_some, thunks]
  refine x_forX (fun z s M r h => ?_) pre s M1 h hk ?_
  · cases e3 : asgT C t z s M with
    | none => rfl
    | some p =>
      obtain ⟨s', M4⟩ := p
      rw [e3] at h
      simp only [bnd_some] at h ⊢
      exact evSX_none hC h
  · simp only [ha, bnd_some]; exact k
/-! ### the catcher -/
theorem c_back {e : IR} {d r : D} (hC : NoX C) (h : ev C e s M = some (d, M1)) (k : bltC C .repr [d] M1 = some (r, M2)) : ev C (.caught e) s M = some (.tup [.str (Str.ofString "back"), r], M2) := by
  simp only [ev, evX_none hC h, h, bnd_some, k]
theorem c_told {e : IR} {c : Nat} {g r : D} {k : XcD} (h : evX C e s M = some ((c, [g]), M1)) (hk : C.T.xcs[c]? = some k) (hr : reprD M1 g = some r) : ev C (.caught e) s M = some (.tup [.str (Str.ofString "error"), .int k.sort, r], M1) := by
  simp only [ev, h, toldX, hk, hr, Option.map_some, lft_some]
theorem exitX_same {y : Xn} : exitX M.length y M = some (y, M) := if_pos rfl
end
/-- no `break` in a text -/
def noBk : SR → Bool
  | .brk => false
  | .seq a b => noBk a && noBk b
  | .iff _ a b => noBk a && noBk b
  | _ => true
theorem noBk_ok {C : Cfg} : ∀ {a : SR} {s : En} {M : Mem} {s' : En} {M' : Mem}, noBk a = true → evS C a s M ≠ some (.bk s', M') := by
  have fS : ∀ {body : D → En → Mem → Rs Fl} {fin : Mem → Bool} (ts : List (Mem → Option D)) (s : En) (M : Mem) {s' : En} {M' : Mem}, forT body fin ts s M ≠ some (.bk s', M') := by
    intro body fin ts
    induction ts with
    | nil => intro s M s' M' h; simp only [forT] at h; split at h <;> cases h
    | cons t ts ih =>
      intro s M s' M' h
      simp only [forT] at h
      cases e1 : t M with
      | none => rw [e1] at h; cases h
      | some x =>
        rw [e1] at h
        simp only [lft_some, bnd_some] at h
        cases e2 : body x s M with
        | none => rw [e2] at h; cases h
        | some p =>
          obtain ⟨f, M1⟩ := p
          rw [e2] at h
          simp only [bnd_some] at h
          cases f with
          | nx s2 => exact ih _ _ h
          | ct s2 => exact ih _ _ h
          | bk s2 => cases h
          | rt d => cases h
  have wG : ∀ {c : En → Mem → Rs Bool} {body : En → Mem → Rs Fl} (n : Nat) (s : En) (M : Mem) {s' : En} {M' : Mem}, whGo c body n s M ≠ some (.bk s', M') := by
    intro c body n
    induction n with
    | zero => intro s M s' M' h; cases h
    | succ n ih =>
      intro s M s' M' h
      simp only [whGo] at h
      cases e1 : c s M with
      | none => rw [e1] at h; cases h
      | some p =>
        obtain ⟨t, M1⟩ := p
        rw [e1] at h
        simp only [bnd_some] at h
        split at h
        · cases e2 : body s M1 with
          | none => rw [e2] at h; cases h
          | some p =>
            obtain ⟨f, M2⟩ := p
            rw [e2] at h
            simp only [bnd_some] at h
            cases f with
            | nx s2 => exact ih _ _ h
            | ct s2 => exact ih _ _ h
            | bk s2 => cases h
            | rt d => cases h
        · cases h
  have inv : ∀ {α β : Type} {m : Rs α} {k : α → Mem → Rs β} {r : β × Mem}, bnd m k = some r → ∃ a M, m = some (a, M) ∧ k a M = some r := by
    intro α β m k r h
    cases m with
    | none => cases h
    | some p => exact ⟨p.1, p.2, rfl, h⟩
  intro a
  induction a with
  | seq a b iha ihb =>
    intro s M s' M' hn h
    simp only [noBk, Bool.and_eq_true] at hn
    simp only [evS] at h
    obtain ⟨f, M1, e1, e2⟩ := inv h
    cases f with
    | nx s2 => exact ihb hn.2 e2
    | bk s2 => exact iha hn.1 e1
    | ct s2 => cases e2
    | rt d => cases e2
  | iff c a b iha ihb =>
    intro s M s' M' hn h
    simp only [noBk, Bool.and_eq_true] at hn
    simp only [evS] at h
    obtain ⟨x, M1, e1, e2⟩ := inv h
    obtain ⟨t, M2, e3, e4⟩ := inv e2
    split at e4
    · exact iha hn.1 e4
    · exact ihb hn.2 e4
  | loop t it src b ihb =>
    intro s M s' M' hn h
    simp only [evS] at h
    obtain ⟨x, M1, e1, e2⟩ := inv h
    obtain ⟨q, M2, e3, e4⟩ := inv e2
    rw [forGo_eq] at e4
    exact fS _ _ _ e4
  | while_ c b ihb =>
    intro s M s' M' hn h
    simp only [evS] at h
    exact wG _ _ _ h
  | brk => intro s M s' M' hn h; cases hn
  | ret e =>
    intro s M s' M' hn h
    simp only [evS] at h
    obtain ⟨x, M1, e1, e2⟩ := inv h
    cases e2
  | ex e =>
    intro s M s' M' hn h
    simp only [evS] at h
    obtain ⟨x, M1, e1, e2⟩ := inv h
    cases e2
  | asg t e =>
    intro s M s' M' hn h
    simp only [evS] at h
    obtain ⟨x, M1, e1, e2⟩ := inv h
    obtain ⟨x2, M2, e3, e4⟩ := inv e2
    cases e4
  | par is l =>
    intro s M s' M' hn h
    simp only [evS] at h
    obtain ⟨x, M1, e1, e2⟩ := inv h
    obtain ⟨x2, M2, e3, e4⟩ := inv e2
    cases e4
  | nil => intro s M s' M' hn h; cases h
  | pass => intro s M s' M' hn h; cases h
  | ret0 => intro s M s' M' hn h; cases h
  | never => intro s M s' M' hn h; cases h
  | cnt => intro s M s' M' hn h; cases h
  | raise c l => intro s M s' M' hn h; cases h
theorem noBk_asg {C : Cfg} {t : TG} {b : SR} (hb : noBk b = true) (z : D) (s : En) (M : Mem) (s' : En) (M' : Mem) : bnd (asgT C t z s M) (fun s' M => evS C b s' M) ≠ some (.bk s', M') := by
  intro h
  cases e : asgT C t z s M with
  | none => rw [e] at h; cases h
  | some p => rw [e] at h; exact noBk_ok hb h
end Dn

set_option Elab.async false
set_option linter.all false
set_option maxRecDepth 100000
set_option maxHeartbeats 4000000
/-! PR: repr of data with empty dicts within. -/
namespace Dn
open PySem L2
mutual
def okR : D → Bool
  | .non => true
  | .bl _ => true
  | .int i => decide (i.natAbs.log2 < 1920)
  | .str s => s.cps.all fun c => decide (c < 0x110000)
  | .tup l => okRL l
  | .lst l => okRL l
  | .ro l => okRL l
  | .obj _ _ => false
  | .cell _ => false
  | .emp => true
  | .dkt ks v => (ks.all fun i => decide (i.natAbs.log2 < 1920)) && decide (v.natAbs.log2 < 1920)
def okRL : List D → Bool
  | [] => true
  | x :: r => okR x && okRL r
end
theorem dkt_show {ks : List Int} {v : Int} (h : okR (.dkt ks v) = true) : ∃ p, toPyR (.dkt ks v) = some p ∧ p.showable = true ∧ p.shown.length ≤ szD (.dkt ks v) ∧ p.depth ≤ dpD (.dkt ks v) := by
  simp only [okR, Bool.and_eq_true, decide_eq_true_eq, List.all_eq_true] at h
  obtain ⟨h1, h2⟩ := h
  have sa : ∀ ks : List Int, (∀ i ∈ ks, i.natAbs.log2 < 1920) → PyData.showableAll (ks.map .int) = true ∧ piled (PyData.shownAll (ks.map .int)) ≤ 1923 * ks.length := fun ks hk => by
    induction ks with
    | nil => exact ⟨by simp only [List.map_nil, PyData.showableAll], by simp only [List.map_nil, PyData.shownAll]; exact Nat.le_refl _⟩
    | cons k ks ih =>
      obtain ⟨i1, i2⟩ := ih fun i hi => hk i (List.mem_cons_of_mem _ hi)
      have k1 := hk k List.mem_cons_self
      have k2 : (toString k : Str).length ≤ 1921 := PyProof.Rows.int_text_len_1921 k1
      refine ⟨by simp only [List.map_cons, PyData.showableAll, PyData.showable, i1, decide_eq_true k1, Bool.and_self], ?_⟩
      simp only [List.map_cons, PyData.shownAll, PyData.shown, piled_cons, List.length_cons]
      omega
  obtain ⟨s1, s2⟩ := sa ks h1
  have v2 : (toString v : Str).length ≤ 1921 := PyProof.Rows.int_text_len_1921 h2
  refine ⟨.dict [(.tuple (ks.map .int), .int v)], rfl, by simp only [PyData.showable, PyData.showableKv, s1, decide_eq_true h2, Bool.and_self], ?_, ?_⟩
  · simp only [PyData.shown, PyData.shownKv, szD]
    have t1 := fmt_text (PyData.shownAll (ks.map .int))
    have t2 : (dictText [tupleText (PyData.shownAll (ks.map .int)) ++ ": " ++ (toString v : Str)]).length = (tupleText (PyData.shownAll (ks.map .int))).length + 2 + (toString v : Str).length + 2 := by
      unfold dictText
      show (("{" : Str) ++ (tupleText (PyData.shownAll (ks.map .int)) ++ ": " ++ (toString v : Str)) ++ "}").length = _
      simp only [strLen_append]
      show 1 + ((tupleText (PyData.shownAll (ks.map .int))).length + 2 + (toString v : Str).length) + 1 = _
      omega
    rw [t2]
    omega
  · simp only [PyData.depth, PyData.depthKv, depth_intsG, dpD]
    decide
mutual
theorem show_okR : ∀ (d : D), okR d = true → ∃ p, toPyR d = some p ∧ p.showable = true ∧ p.shown.length ≤ szD d ∧ p.depth ≤ dpD d
  | .non, _ => ⟨.none, rfl, rfl, by decide +kernel, Nat.le_refl _⟩
  | .bl b, _ => ⟨.bool b, rfl, rfl, by cases b <;> decide +kernel, Nat.le_refl _⟩
  | .int i, h => by
    simp only [okR, decide_eq_true_eq] at h
    refine ⟨.int i, rfl, by simpa [PyData.showable] using h, ?_, Nat.le_refl _⟩
    simp only [PyData.shown]
    exact PyProof.Rows.int_text_len_1921 h
  | .str s, h => by
    refine ⟨.str s, rfl, rfl, ?_, Nat.le_refl _⟩
    simp only [PyData.shown]
    refine StrLaws.reprText_len s fun c hc => ?_
    simp only [okR] at h
    rw [← Array.all_toList, List.all_eq_true] at h
    have := of_decide_eq_true (h c hc)
    omega
  | .tup l, h => by
    obtain ⟨ps, h1, h2, h3, h4⟩ := show_okRL l (by simpa only [okR] using h)
    refine ⟨.tuple ps, by simp [toPyR, h1], by simpa [PyData.showable] using h2, ?_, by simpa [PyData.depth, dpD] using h4⟩
    simp only [PyData.shown, szD]
    have := fmt_text (PyData.shownAll ps)
    omega
  | .lst l, h => by
    obtain ⟨ps, h1, h2, h3, h4⟩ := show_okRL l (by simpa only [okR] using h)
    refine ⟨.list ps, by simp [toPyR, h1], by simpa [PyData.showable] using h2, ?_, by simpa [PyData.depth, dpD] using h4⟩
    simp only [PyData.shown, szD]
    have := listText_le (PyData.shownAll ps)
    omega
  | .ro l, h => by
    obtain ⟨ps, h1, h2, h3, h4⟩ := show_okRL l (by simpa only [okR] using h)
    refine ⟨.list ps, by simp [toPyR, h1], by simpa [PyData.showable] using h2, ?_, by simpa [PyData.depth, dpD] using h4⟩
    simp only [PyData.shown, szD]
    have := listText_le (PyData.shownAll ps)
    omega
  | .obj _ _, h => by simp [okR] at h
  | .cell _, h => by simp [okR] at h
  | .emp, _ => ⟨.dict [], rfl, rfl, by decide +kernel, by decide⟩
  | .dkt ks v, h => dkt_show h
theorem show_okRL : ∀ (l : List D), okRL l = true → ∃ ps, toPyRL l = some ps ∧ PyData.showableAll ps = true ∧ piled (PyData.shownAll ps) ≤ szL l ∧ PyData.depthAll ps ≤ dpL l
  | [], _ => ⟨[], rfl, rfl, Nat.le_refl _, Nat.le_refl _⟩
  | x :: r, h => by
    simp only [okRL, Bool.and_eq_true] at h
    obtain ⟨p, h1, h2, h3, h4⟩ := show_okR x h.1
    obtain ⟨ps, g1, g2, g3, g4⟩ := show_okRL r h.2
    refine ⟨p :: ps, by simp [toPyRL, h1, g1], by simp [PyData.showableAll, h2, g2], ?_, ?_⟩
    · simp only [PyData.shownAll, piled_cons, szL]
      omega
    · simp only [PyData.depthAll, dpL]
      omega
end
theorem deref_okR {M : Mem} {d : D} (h : okR d = true) : derefD M d = d := by
  cases d <;> first | rfl | (simp [okR] at h)
/-- repr of data of known size -/
theorem repr_okR {d : D} (h : okR d = true) (hz : szD d ≤ sizeLine) (hd : dpD d ≤ 60) : ∃ S, ∀ M : Mem, reprD M d = some (.str S) := by
  obtain ⟨p, h1, h2, h3, h4⟩ := show_okR d h
  exact ⟨p.shown, fun M => reprD_is (by rw [deref_okR h]; exact h1) h2 (Nat.le_trans h4 hd) (Nat.le_trans h3 hz)⟩
theorem okR_L {l : List D} (h : ∀ x ∈ l, okR x = true) : okRL l = true := by
  induction l with
  | nil => rfl
  | cons x l ih => simp only [okRL, h x List.mem_cons_self, ih fun y hy => h y (List.mem_cons_of_mem _ hy), Bool.and_self]
mutual
theorem okR_of : ∀ (d : D), okD d = true → okR d = true
  | .non, _ => rfl
  | .bl _, _ => rfl
  | .int _, h => h
  | .str _, h => h
  | .tup l, h => by simp only [okD] at h; simp only [okR]; exact okRL_of l h
  | .lst l, h => by simp only [okD] at h; simp only [okR]; exact okRL_of l h
  | .ro l, h => by simp only [okD] at h; simp only [okR]; exact okRL_of l h
  | .obj _ _, h => by simp [okD] at h
  | .cell _, h => by simp [okD] at h
  | .emp, _ => rfl
  | .dkt _ _, h => by simp [okD] at h
theorem okRL_of : ∀ (l : List D), okL l = true → okRL l = true
  | [], _ => rfl
  | x :: r, h => by
    simp only [okL, Bool.and_eq_true] at h
    simp only [okRL, okR_of x h.1, okRL_of r h.2, Bool.and_self]
end
end Dn

/-! M02: rows of blocks, in plain Lean. -/
namespace M02
abbrev Bk := Int × Int
def cov (l : List Bk) (p : Int) : Prop := ∃ b ∈ l, b.1 ≤ p ∧ p < b.2
structure Can (l : List Bk) : Prop where
  pos : ∀ b ∈ l, b.1 < b.2
  gap : l.Pairwise (fun a b => a.2 < b.1)
def mg (cur : Bk) : List Bk → List Bk
  | [] => [cur]
  | b :: r => if b.1 ≤ cur.2 then mg (cur.1, if b.2 > cur.2 then b.2 else cur.2) r else cur :: mg b r
def mergeL : List Bk → List Bk
  | [] => []
  | b :: r => mg b r
theorem mg_ge : ∀ (r : List Bk) (cur : Bk), (∀ b ∈ r, cur.1 ≤ b.1) → r.Pairwise (fun a b => a.1 ≤ b.1) → ∀ b ∈ mg cur r, cur.1 ≤ b.1
  | [], cur, _, _, b, h => by
    simp only [mg, List.mem_singleton] at h
    subst h
    exact Int.le_refl _
  | x :: r, cur, h1, h2, b, h => by
    obtain ⟨h3, h4⟩ := List.pairwise_cons.mp h2
    simp only [mg] at h
    split at h
    · exact mg_ge r (cur.1, if x.2 > cur.2 then x.2 else cur.2) (fun y hy => h1 y (List.mem_cons_of_mem _ hy)) h4 b h
    · rcases List.mem_cons.mp h with rfl | h
      · exact Int.le_refl _
      · exact Int.le_trans (h1 x List.mem_cons_self) (mg_ge r x h3 h4 b h)
theorem mg_can : ∀ (r : List Bk) (cur : Bk), cur.1 < cur.2 → (∀ b ∈ r, b.1 < b.2) → (∀ b ∈ r, cur.1 ≤ b.1) → r.Pairwise (fun a b => a.1 ≤ b.1) → Can (mg cur r)
  | [], cur, h0, _, _, _ => ⟨fun b h => by simp only [mg, List.mem_singleton] at h; subst h; exact h0, by simp [mg]⟩
  | x :: r, cur, h0, hp, h1, h2 => by
    obtain ⟨h3, h4⟩ := List.pairwise_cons.mp h2
    have hx := hp x List.mem_cons_self
    have hpr : ∀ b ∈ r, b.1 < b.2 := fun b hb => hp b (List.mem_cons_of_mem _ hb)
    simp only [mg]
    split
    · refine mg_can r _ ?_ hpr (fun y hy => h1 y (List.mem_cons_of_mem _ hy)) h4
      show cur.1 < if x.2 > cur.2 then x.2 else cur.2
      split <;> omega
    · have c := mg_can r x hx hpr h3 h4
      refine ⟨fun b h => ?_, List.pairwise_cons.mpr ⟨fun b h => ?_, c.gap⟩⟩
      · rcases List.mem_cons.mp h with rfl | h
        · exact h0
        · exact c.pos b h
      · have := mg_ge r x h3 h4 b h
        omega
theorem mg_cov (p : Int) : ∀ (r : List Bk) (cur : Bk), cur.1 < cur.2 → (∀ b ∈ r, b.1 < b.2) → (∀ b ∈ r, cur.1 ≤ b.1) → r.Pairwise (fun a b => a.1 ≤ b.1) → (cov (mg cur r) p ↔ cov (cur :: r) p)
  | [], cur, _, _, _, _ => Iff.rfl
  | x :: r, cur, h0, hp, h1, h2 => by
    obtain ⟨h3, h4⟩ := List.pairwise_cons.mp h2
    have hx := hp x List.mem_cons_self
    have hpr : ∀ b ∈ r, b.1 < b.2 := fun b hb => hp b (List.mem_cons_of_mem _ hb)
    have hc := h1 x List.mem_cons_self
    have cc : ∀ (a : Bk) (l : List Bk), cov (a :: l) p ↔ (a.1 ≤ p ∧ p < a.2) ∨ cov l p := fun a l => by simp [cov]
    simp only [mg]
    split
    · rename_i hle
      rw [mg_cov p r (cur.1, if x.2 > cur.2 then x.2 else cur.2) (by show cur.1 < if x.2 > cur.2 then x.2 else cur.2; split <;> omega) hpr (fun y hy => h1 y (List.mem_cons_of_mem _ hy)) h4, cc, cc, cc]
      show (cur.1 ≤ p ∧ p < if x.2 > cur.2 then x.2 else cur.2) ∨ cov r p ↔ _
      constructor
      · rintro (⟨h, h'⟩ | h)
        · split at h'
          · by_cases q : p < cur.2
            · exact .inl ⟨h, q⟩
            · exact .inr (.inl ⟨by omega, h'⟩)
          · exact .inl ⟨h, h'⟩
        · exact .inr (.inr h)
      · rintro (⟨h, h'⟩ | ⟨h, h'⟩ | h)
        · exact .inl ⟨h, by split <;> omega⟩
        · exact .inl ⟨by omega, by split <;> omega⟩
        · exact .inr h
    · rw [cc, mg_cov p r x hx hpr h3 h4, cc cur (x :: r)]
/-- two rising rows with the same members are the same -/
theorem uniq : ∀ {l m : List Int}, l.Pairwise (· < ·) → m.Pairwise (· < ·) → (∀ x, x ∈ l ↔ x ∈ m) → l = m
  | [], [], _, _, _ => rfl
  | [], y :: m, _, _, h => absurd ((h y).mpr List.mem_cons_self) (by simp)
  | x :: l, [], _, _, h => absurd ((h x).mp List.mem_cons_self) (by simp)
  | x :: l, y :: m, h1, h2, h => by
    obtain ⟨a1, a2⟩ := List.pairwise_cons.mp h1
    obtain ⟨b1, b2⟩ := List.pairwise_cons.mp h2
    have e : x = y := by
      have q1 := (h x).mp List.mem_cons_self
      have q2 := (h y).mpr List.mem_cons_self
      rcases List.mem_cons.mp q1 with e | q1
      · exact e
      · rcases List.mem_cons.mp q2 with e | q2
        · exact e.symm
        · have := b1 x q1
          have := a1 y q2
          omega
    subst e
    rw [uniq a2 b2 fun z => ?_]
    constructor
    · intro hz
      rcases List.mem_cons.mp ((h z).mp (List.mem_cons_of_mem _ hz)) with e | q
      · have := a1 z hz; omega
      · exact q
    · intro hz
      rcases List.mem_cons.mp ((h z).mpr (List.mem_cons_of_mem _ hz)) with e | q
      · have := b1 z hz; omega
      · exact q
def rng (f e : Int) : List Int := (List.range (e - f).toNat).map fun (i : Nat) => f + i
theorem mem_rng {f e p : Int} : p ∈ rng f e ↔ f ≤ p ∧ p < e := by
  unfold rng
  rw [List.mem_map]
  constructor
  · rintro ⟨i, hi, rfl⟩
    rw [List.mem_range] at hi
    omega
  · rintro ⟨h1, h2⟩
    exact ⟨(p - f).toNat, by rw [List.mem_range]; omega, by omega⟩
theorem rng_lt (f e : Int) : (rng f e).Pairwise (· < ·) := by
  unfold rng
  rw [List.pairwise_map]
  refine List.Pairwise.imp ?_ List.pairwise_lt_range
  intro a b h
  omega
def pts (B : List Bk) : List Int := B.flatMap fun b => rng b.1 b.2
theorem mem_pts {B : List Bk} {p : Int} : p ∈ pts B ↔ cov B p := by
  unfold pts cov
  rw [List.mem_flatMap]
  constructor
  · rintro ⟨b, hb, h⟩; exact ⟨b, hb, mem_rng.mp h⟩
  · rintro ⟨b, hb, h⟩; exact ⟨b, hb, mem_rng.mpr h⟩
theorem pts_lt : ∀ {B : List Bk}, Can B → (pts B).Pairwise (· < ·)
  | [], _ => List.Pairwise.nil
  | b :: B, h => by
    obtain ⟨g1, g2⟩ := List.pairwise_cons.mp h.gap
    show (rng b.1 b.2 ++ pts B).Pairwise _
    rw [List.pairwise_append]
    refine ⟨rng_lt _ _, pts_lt ⟨fun x hx => h.pos x (List.mem_cons_of_mem _ hx), g2⟩, fun x hx y hy => ?_⟩
    have h1 := mem_rng.mp hx
    obtain ⟨c, hc, h2⟩ := mem_pts.mp hy
    have := g1 c hc
    omega
theorem pairwise_ne {b c : Bk} : ∀ {B : List Bk}, B.Pairwise (fun a b => a.2 < b.1) → b ∈ B → c ∈ B → b ≠ c → b.2 < c.1 ∨ c.2 < b.1
  | x :: B, h, hb, hc, e => by
    obtain ⟨g1, g2⟩ := List.pairwise_cons.mp h
    rcases List.mem_cons.mp hb with e1 | hb'
    · rcases List.mem_cons.mp hc with e2 | hc'
      · exact absurd (e1.trans e2.symm) e
      · rw [e1]; exact .inl (g1 c hc')
    · rcases List.mem_cons.mp hc with e2 | hc'
      · rw [e2]; exact .inr (g1 b hb')
      · exact pairwise_ne g2 hb' hc' e
theorem can_first {B : List Bk} (h : Can B) (p : Int) : p ∈ B.map (·.1) ↔ cov B p ∧ ¬ cov B (p - 1) := by
  rw [List.mem_map]
  constructor
  · rintro ⟨b, hb, rfl⟩
    have hp := h.pos b hb
    refine ⟨⟨b, hb, Int.le_refl _, hp⟩, ?_⟩
    rintro ⟨c, hc, h1, h2⟩
    have hpc := h.pos c hc
    by_cases e : b = c
    · subst e; omega
    · rcases pairwise_ne h.gap hb hc e with q | q <;> omega
  · rintro ⟨⟨b, hb, h1, h2⟩, h3⟩
    refine ⟨b, hb, ?_⟩
    by_cases q : b.1 = p
    · exact q
    · exact absurd ⟨b, hb, by omega, by omega⟩ h3
theorem can_last {B : List Bk} (h : Can B) (p : Int) : p ∈ B.map (·.2) ↔ cov B (p - 1) ∧ ¬ cov B p := by
  rw [List.mem_map]
  constructor
  · rintro ⟨b, hb, rfl⟩
    have hp := h.pos b hb
    refine ⟨⟨b, hb, by omega, by omega⟩, ?_⟩
    rintro ⟨c, hc, h1, h2⟩
    have hpc := h.pos c hc
    by_cases e : b = c
    · subst e; omega
    · rcases pairwise_ne h.gap hb hc e with q | q <;> omega
  · rintro ⟨⟨b, hb, h1, h2⟩, h3⟩
    refine ⟨b, hb, ?_⟩
    by_cases q : b.2 = p
    · exact q
    · exact absurd ⟨b, hb, by omega, by omega⟩ h3
theorem can_firsts : ∀ {B : List Bk}, Can B → (B.map (·.1)).Pairwise (· < ·) ∧ (B.map (·.2)).Pairwise (· < ·) := by
  intro B h
  constructor
  · rw [List.pairwise_map]
    exact List.Pairwise.imp_of_mem (fun {a b} ha hb q => by have := h.pos a ha; omega) h.gap
  · rw [List.pairwise_map]
    exact List.Pairwise.imp_of_mem (fun {a b} ha hb q => by have := h.pos b hb; omega) h.gap
/-- the lows and the ends, as the law finds them among the pieces -/
theorem lows {B : List Bk} (h : Can B) : (pts B).filter (fun p => !decide (p - 1 ∈ pts B)) = B.map (·.1) := by
  refine uniq ((pts_lt h).filter _) (can_firsts h).1 fun x => ?_
  rw [List.mem_filter, can_first h, mem_pts]
  simp [mem_pts]
theorem ends {B : List Bk} (h : Can B) : ((pts B).filter (fun p => !decide (p + 1 ∈ pts B))).map (· + 1) = B.map (·.2) := by
  refine uniq ?_ (can_firsts h).2 fun x => ?_
  · rw [List.pairwise_map]
    exact ((pts_lt h).filter _).imp fun q => by omega
  · rw [List.mem_map, can_last h]
    constructor
    · rintro ⟨p, hp, rfl⟩
      rw [List.mem_filter, mem_pts] at hp
      refine ⟨by rw [show p + 1 - 1 = p by omega]; exact hp.1, ?_⟩
      have := hp.2
      simpa [mem_pts] using this
    · rintro ⟨h1, h2⟩
      refine ⟨x - 1, ?_, by omega⟩
      rw [List.mem_filter, mem_pts]
      refine ⟨h1, ?_⟩
      rw [show x - 1 + 1 = x by omega]
      simpa [mem_pts] using h2
/-- the pieces, as the law finds them in a window -/
theorem window {B : List Bk} (h : Can B) {s : Int} (q : Int → Bool) (hq : ∀ p, q p = true ↔ cov B p) (hs : ∀ p, cov B p → s ≤ p ∧ p < s + 32) : (rng s (s + 32)).filter q = pts B := by
  refine uniq ((rng_lt _ _).filter _) (pts_lt h) fun x => ?_
  rw [List.mem_filter, mem_rng, hq, mem_pts]
  exact ⟨fun a => a.2, fun a => ⟨hs x a, a⟩⟩
theorem pts_inj {B B' : List Bk} (h : Can B) (h' : Can B') (e : pts B = pts B') : B = B' := by
  have e1 : B.map (·.1) = B'.map (·.1) := by rw [← lows h, ← lows h', e]
  have e2 : B.map (·.2) = B'.map (·.2) := by rw [← ends h, ← ends h', e]
  have : ∀ {B B' : List Bk}, B.map (·.1) = B'.map (·.1) → B.map (·.2) = B'.map (·.2) → B = B' := by
    intro B
    induction B with
    | nil => intro B' e _; cases B' <;> simp_all
    | cons b B ih =>
      intro B' e1 e2
      cases B' with
      | nil => simp at e1
      | cons c B' =>
        simp only [List.map_cons, List.cons.injEq] at e1 e2
        rw [ih e1.2 e2.2, Prod.ext e1.1 e2.1]
  exact this e1 e2
theorem rng_len {f e : Int} (h : f < e) : ((rng f e).length : Int) = e - f := by
  unfold rng
  rw [List.length_map, List.length_range]
  omega
theorem pts_len : ∀ {B : List Bk}, Can B → ((pts B).length : Int) = (B.map fun b => b.2 - b.1).sum
  | [], _ => rfl
  | b :: B, h => by
    have := pts_len (B := B) ⟨fun x hx => h.pos x (List.mem_cons_of_mem _ hx), (List.pairwise_cons.mp h.gap).2⟩
    show ((rng b.1 b.2 ++ pts B).length : Int) = _
    rw [List.length_append, List.map_cons, List.sum_cons, ← this, ← rng_len (h.pos b List.mem_cons_self)]
    omega
theorem pts_nil {B : List Bk} (h : Can B) : pts B = [] ↔ B = [] := by
  cases B with
  | nil => simp [pts]
  | cons b B =>
    have hp := h.pos b List.mem_cons_self
    constructor
    · intro e
      have : b.1 ∈ pts (b :: B) := mem_pts.mpr ⟨b, List.mem_cons_self, Int.le_refl _, hp⟩
      rw [e] at this; simp at this
    · intro e; cases e
end M02

set_option Elab.async false
set_option linter.all false
set_option maxRecDepth 100000
set_option maxHeartbeats 8000000
namespace Dn
open PySem PySem.Spec PyProof.Rows L2
abbrev i_law : Nat := 0
abbrev i_Pieces_init : Nat := 1
abbrev i_Pieces_eq : Nat := 2
abbrev i_Pieces_str : Nat := 3
abbrev i_Pieces_repr : Nat := 4
abbrev i_L_asked : Nat := 5
abbrev i_L_right : Nat := 6
abbrev i_L_purse : Nat := 7
abbrev i_is_block : Nat := 8
abbrev i_merged : Nat := 9
abbrev i_set_text : Nat := 10
abbrev i_L_due : Nat := 11
abbrev i_L_take : Nat := 12
abbrev i_L_thing : Nat := 13
abbrev i_L_is_block : Nat := 14
abbrev i_is_integer : Nat := 15
abbrev i_is_number : Nat := 16
abbrev i_block_text : Nat := 17
abbrev c_Pieces : Nat := 0
abbrev q_index : Nat := 0
abbrev q_row : Nat := 1
abbrev x_InvalidBlocks : Nat := 0
/-! ### the text of the law, by its places -/
def top (i : Nat) : Stmt := PySem.Challenge.pw_fewblocks_k04_blocks_refused.main.body.getD i (.Pass ⟨0, 0, 0, 0⟩)
/-- law -/
abbrev s_law : Stmt := top 36
def t_law_0 : SR := (.asg (.v 1) (.lst false (.cons (.cst .non) (.cons (.cst (.int 0)) (.cons (.cst (.int 1)) (.cons (.cst (.bl true)) (.cons (.cst (.bl false)) (.cons (.cst (.str (Str.ofString ""))) (.cons (.cst (.str (Str.ofString "01"))) (.cons (.lst false .nil) (.cons (.lst false (.cons (.tup (.cons (.cst (.int 0)) (.cons (.cst (.int 1)) .nil))) .nil)) (.cons .dict0 (.cons (.dict1 [0, 1] 1) (.cons (.bin .pow (.cst (.int 10)) (.cst (.int 39))) (.cons (.neg (.cst (.int 1))) (.cons (.make c_Pieces [] (.cons (.tup (.cons (.tup (.cons (.cst (.int 0)) (.cons (.cst (.int 1)) .nil))) .nil)) .nil) .nil) .nil))))))))))))))))
def t_law_1 : SR := (.asg (.v 1) (.bin .add (.var 1) (.lst false (.cons (.tup (.cons (.cst (.int 0)) (.cons (.cst (.int 1)) .nil))) (.cons (.tup (.cons (.cst .non) .nil)) (.cons (.tup (.cons (.tup .nil) .nil)) (.cons (.tup (.cons (.lst false .nil) .nil)) (.cons (.tup (.cons .dict0 .nil)) (.cons (.tup (.cons (.tup (.cons (.lst false (.cons (.cst (.int 0)) .nil)) (.cons (.cst (.int 1)) .nil))) .nil)) (.cons (.tup (.cons (.tup (.cons (.cst (.int 0)) (.cons (.cst (.int 1)) .nil))) (.cons (.tup (.cons (.cst (.int 0)) (.cons (.cst (.int 1)) .nil))) .nil))) (.cons (.tup (.cons (.tup (.cons (.cst (.int 0)) (.cons (.cst (.int 1)) .nil))) (.cons (.lst false (.cons (.cst (.int 2)) (.cons (.cst (.int 3)) .nil))) .nil))) .nil)))))))))))
def t_law_2 : SR := (.asg (.v 1) (.bin .add (.var 1) (.lst false (.cons (.tup (.cons (.tup (.cons (.cst (.int 5)) (.cons (.cst (.int 4)) .nil))) (.cons (.tup (.cons (.cst (.int 4)) (.cons (.cst (.int 3)) .nil))) .nil))) .nil))))
def x_law_0 : IR := (.comp false [2] false .val (.cons (.var 1) .nil) .nil (.call i_L_asked [] (.cons (.var 2) .nil) .nil))
def t_law_3 : SR := (.iff (.not (.blt .all (.cons x_law_0 .nil))) (.seq (.ret (.cst (.bl false))) .nil) .nil)
def x_law_1 : IR := (.comp false [3] false .range1 (.cons (.blt .max2 (.cons (.cst (.int 2)) (.cons (.blt .min2 (.cons (.blt .len (.cons (.var 0) .nil)) (.cons (.cst (.int 5)) .nil))) .nil))) .nil) .nil (.call i_L_right [] (.cons (.call i_L_purse [] (.cons (.var 0) (.cons (.var 3) .nil)) .nil) .nil) .nil))
def t_law_4 : SR := (.ret (.blt .all (.cons x_law_1 .nil)))
def b_law : SR := (.seq t_law_0 (.seq t_law_1 (.seq t_law_2 (.seq t_law_3 (.seq t_law_4 .nil)))))
def nn_law : List Str := ["_law_script", "_law_odd", "_law_value", "_law_k"]
def pp_law : List Str := ["_law_script"]
def f_law : FnD := { np := 1, ns := 4, dflt := [], keep := false, lam := false, body := b_law }
/-- Pieces.__init__ -/
abbrev s_Pieces_init : Stmt := inClass (top 24) 0
def b_Pieces_init : SR := (.seq (.iff (.not (.isin (.var 1) .tup)) (.seq (.raise x_InvalidBlocks (.cons (.cst .non) .nil)) .nil) .nil) (.seq (.loop (.tup (.cons (.v 2) (.cons (.v 3) .nil))) .enum (.cons (.var 1) .nil) (.seq (.iff (.not (.call i_is_block [] (.cons (.var 3) .nil) .nil)) (.seq (.raise x_InvalidBlocks (.cons (.var 2) .nil)) .nil) .nil) .nil)) (.seq (.asg (.fld (.var 0) q_row) (.call i_merged [] (.cons (.var 1) .nil) .nil)) .nil)))
def nn_Pieces_init : List Str := ["self", "blocks", "k", "block"]
def pp_Pieces_init : List Str := ["self", "blocks"]
def f_Pieces_init : FnD := { np := 2, ns := 4, dflt := [.tup []], keep := false, lam := false, body := b_Pieces_init }
/-- Pieces.__eq__ -/
abbrev s_Pieces_eq : Stmt := inClass (top 24) 13
def b_Pieces_eq : SR := (.seq (.ret (.and (.isin (.var 1) (.cls c_Pieces)) (.cmp .eq (.attr (.var 0) q_row) (.attr (.var 1) q_row)))) .nil)
def nn_Pieces_eq : List Str := ["self", "other"]
def pp_Pieces_eq : List Str := ["self", "other"]
def f_Pieces_eq : FnD := { np := 2, ns := 2, dflt := [], keep := false, lam := false, body := b_Pieces_eq }
/-- Pieces.__str__ -/
abbrev s_Pieces_str : Stmt := inClass (top 24) 14
def b_Pieces_str : SR := (.seq (.ret (.fstr (.cons (.fmt (.call i_set_text [] (.cons (.attr (.var 0) q_row) .nil) .nil)) .nil))) .nil)
def nn_Pieces_str : List Str := ["self"]
def pp_Pieces_str : List Str := ["self"]
def f_Pieces_str : FnD := { np := 1, ns := 1, dflt := [], keep := false, lam := false, body := b_Pieces_str }
/-- Pieces.__repr__ -/
abbrev s_Pieces_repr : Stmt := inClass (top 24) 15
def b_Pieces_repr : SR := (.seq (.ret (.fstr (.cons (.cst (.str (Str.ofString "Pieces('"))) (.cons (.fmt (.call i_set_text [] (.cons (.attr (.var 0) q_row) .nil) .nil)) (.cons (.cst (.str (Str.ofString "')"))) .nil))))) .nil)
def nn_Pieces_repr : List Str := ["self"]
def pp_Pieces_repr : List Str := ["self"]
def f_Pieces_repr : FnD := { np := 1, ns := 1, dflt := [], keep := false, lam := false, body := b_Pieces_repr }
/-- _law_asked -/
abbrev s_L_asked : Stmt := top 34
def t_L_asked_0 : SR := (.par [1, 2] (.cons (.blt .repr (.cons (.var 0) .nil)) (.cons (.call i_L_due [] (.cons (.var 0) .nil) .nil) .nil)))
def t_L_asked_1 : SR := (.asg (.v 3) (.caught (.make c_Pieces [] (.cons (.var 0) .nil) .nil)))
def t_L_asked_2 : SR := (.asg (.v 4) (.caught (.make c_Pieces [1] .nil (.cons (.var 0) .nil))))
def t_L_asked_3 : SR := (.iff (.or (.cmp .ne (.var 3) (.var 4)) (.cmp .ne (.blt .repr (.cons (.var 0) .nil)) (.var 1))) (.seq (.ret (.cst (.bl false))) .nil) .nil)
def t_L_asked_4 : SR := (.ret (.ite (.cmp .eq (.var 2) (.cst (.str (Str.ofString "none")))) (.cmp .eq (.idx (.var 3) (.cst (.int 0))) (.cst (.str (Str.ofString "back")))) (.cmp .eq (.var 3) (.tup (.cons (.cst (.str (Str.ofString "error"))) (.cons (.cst (.int 3)) (.cons (.var 2) .nil)))))))
def b_L_asked : SR := (.seq t_L_asked_0 (.seq t_L_asked_1 (.seq t_L_asked_2 (.seq t_L_asked_3 (.seq t_L_asked_4 .nil)))))
def nn_L_asked : List Str := ["_law_value", "_law_ahead", "_law_due_here", "_law_one", "_law_two"]
def pp_L_asked : List Str := ["_law_value"]
def f_L_asked : FnD := { np := 1, ns := 5, dflt := [], keep := false, lam := true, body := b_L_asked }
/-- _law_right -/
abbrev s_L_right : Stmt := top 35
def x_L_right_0 : IR := (.comp false [6] false .range1 (.cons (.call i_L_take [] (.cons (.var 0) (.cons (.cst (.int 8)) .nil)) .nil) .nil) .nil (.call i_L_thing [] (.cons (.var 0) .nil) .nil))
def x_L_right_1 : IR := (.comp false [7] false .val (.cons (.var 2) .nil) (.call i_L_is_block [] (.cons (.var 7) .nil) .nil) (.var 7))
def x_L_right_2 : IR := (.comp false [8] false .val (.cons (.lst false (.cons (.blt .tuple (.cons (.var 2) .nil)) (.cons (.blt .tuple (.cons (.var 3) .nil)) (.cons (.blt .tuple (.cons (.var 5) .nil)) (.cons (.var 2) (.cons (.var 3) .nil)))))) .nil) .nil (.call i_L_asked [] (.cons (.var 8) .nil) .nil))
def y_L_right_0 : SR := (.seq (.asg (.v 2) x_L_right_0) (.seq (.asg (.v 3) x_L_right_1) (.seq (.asg (.v 4) (.call i_L_take [] (.cons (.var 0) (.cons (.bin .add (.blt .len (.cons (.var 3) .nil)) (.cst (.int 1))) .nil)) .nil)) (.seq (.asg (.v 5) (.bin .add (.bin .add (.slice (.var 3) .nil (.var 4)) (.lst false (.cons (.call i_L_thing [] (.cons (.var 0) .nil) .nil) .nil))) (.slice (.var 3) (.var 4) .nil))) (.seq (.iff (.not (.blt .all (.cons x_L_right_2 .nil))) (.seq (.ret (.cst (.bl false))) .nil) .nil) .nil)))))
def t_L_right_0 : SR := (.loop (.v 1) .range1 (.cons (.cst (.int 4)) .nil) y_L_right_0)
def t_L_right_1 : SR := (.ret (.cst (.bl true)))
def b_L_right : SR := (.seq t_L_right_0 (.seq t_L_right_1 .nil))
def nn_L_right : List Str := ["_law_purse_here", "_law_turn", "_law_some", "_law_good", "_law_at", "_law_bent", "_law_k", "_law_thing_here", "_law_value"]
def pp_L_right : List Str := ["_law_purse_here"]
def f_L_right : FnD := { np := 1, ns := 9, dflt := [], keep := false, lam := false, body := b_L_right }
/-- _law_purse -/
abbrev s_L_purse : Stmt := top 27
def b_L_purse : SR := (.seq (.asg (.v 2) (.ite (.cmp .lt (.var 1) (.blt .len (.cons (.var 0) .nil))) (.idx (.var 0) (.var 1)) (.bin .add (.bin .add (.bin .mul (.bin .mod (.blt .int_ (.cons (.blt .sum (.cons (.slice (.var 0) .nil (.cst (.int 3))) .nil)) .nil)) (.cst (.int 999983))) (.cst (.int 3571))) (.bin .mul (.bin .mul (.cst (.int 8887)) (.var 1)) (.var 1))) (.cst (.int 31))))) (.seq (.ret (.lst true (.cons (.ite (.cmp .ge (.blt .abs (.cons (.var 2) .nil)) (.bin .pow (.cst (.int 10)) (.cst (.int 18)))) (.blt .abs (.cons (.var 2) .nil)) (.cst (.int 0))) (.cons (.bin .mod (.blt .int_ (.cons (.var 2) .nil)) (.cst (.int 2147483029))) (.cons (.cst (.int 0)) .nil))))) .nil))
def nn_L_purse : List Str := ["_law_script", "_law_k", "_law_cell"]
def pp_L_purse : List Str := ["_law_script", "_law_k"]
def f_L_purse : FnD := { np := 2, ns := 3, dflt := [], keep := true, lam := false, body := b_L_purse }
/-- is_block -/
abbrev s_is_block : Stmt := top 16
def b_is_block : SR := (.seq (.iff (.or (.not (.isin (.var 0) .tup)) (.cmp .ne (.blt .len (.cons (.var 0) .nil)) (.cst (.int 2)))) (.seq (.ret (.cst (.bl false))) .nil) .nil) (.seq (.ret (.and (.call i_is_number [] (.cons (.idx (.var 0) (.cst (.int 0))) .nil) .nil) (.and (.call i_is_integer [] (.cons (.idx (.var 0) (.cst (.int 1))) .nil) .nil) (.cmp .lt (.idx (.var 0) (.cst (.int 0))) (.idx (.var 0) (.cst (.int 1))))))) .nil))
def nn_is_block : List Str := ["value"]
def pp_is_block : List Str := ["value"]
def f_is_block : FnD := { np := 1, ns := 1, dflt := [], keep := false, lam := false, body := b_is_block }
/-- merged -/
abbrev s_merged : Stmt := top 17
def b_merged : SR := (.seq (.asg (.v 1) (.lst true .nil)) (.seq (.loop (.tup (.cons (.v 2) (.cons (.v 3) .nil))) .val (.cons (.blt .sorted (.cons (.var 0) .nil)) .nil) (.seq (.iff (.and (.var 1) (.cmp .le (.var 2) (.idx (.idx (.var 1) (.neg (.cst (.int 1)))) (.cst (.int 1))))) (.seq (.asg (.ix (.var 1) (.neg (.cst (.int 1)))) (.tup (.cons (.idx (.idx (.var 1) (.neg (.cst (.int 1)))) (.cst (.int 0))) (.cons (.blt .max2 (.cons (.idx (.idx (.var 1) (.neg (.cst (.int 1)))) (.cst (.int 1))) (.cons (.var 3) .nil))) .nil)))) .nil) (.seq (.ex (.meth .append (.var 1) (.cons (.tup (.cons (.var 2) (.cons (.var 3) .nil))) .nil))) .nil)) .nil)) (.seq (.ret (.blt .tuple (.cons (.var 1) .nil))) .nil)))
def nn_merged : List Str := ["blocks", "found", "first", "end"]
def pp_merged : List Str := ["blocks"]
def f_merged : FnD := { np := 1, ns := 4, dflt := [], keep := false, lam := false, body := b_merged }
/-- set_text -/
abbrev s_set_text : Stmt := top 22
def b_set_text : SR := (.seq (.ret (.ite (.var 0) (.meth .join (.cst (.str (Str.ofString " "))) (.cons (.comp false [1] false .val (.cons (.var 0) .nil) .nil (.call i_block_text [] (.cons (.var 1) .nil) .nil)) .nil)) (.cst (.str (Str.ofString "none"))))) .nil)
def nn_set_text : List Str := ["blocks", "block"]
def pp_set_text : List Str := ["blocks"]
def f_set_text : FnD := { np := 1, ns := 2, dflt := [], keep := false, lam := false, body := b_set_text }
/-- _law_due -/
abbrev s_L_due : Stmt := top 33
def t_L_due_0 : SR := (.iff (.not (.isin (.var 0) .tup)) (.seq (.ret (.cst (.str (Str.ofString "None")))) .nil) .nil)
def x_L_due_0 : IR := (.comp false [2] false .range1 (.cons (.blt .len (.cons (.var 0) .nil)) .nil) (.not (.call i_L_is_block [] (.cons (.idx (.var 0) (.var 2)) .nil) .nil)) (.var 2))
def t_L_due_1 : SR := (.asg (.v 1) x_L_due_0)
def t_L_due_2 : SR := (.ret (.ite (.cmp .ne (.var 1) (.lst false .nil)) (.blt .str (.cons (.idx (.var 1) (.cst (.int 0))) .nil)) (.cst (.str (Str.ofString "none")))))
def b_L_due : SR := (.seq t_L_due_0 (.seq t_L_due_1 (.seq t_L_due_2 .nil)))
def nn_L_due : List Str := ["_law_value", "_law_wrong", "_law_k"]
def pp_L_due : List Str := ["_law_value"]
def f_L_due : FnD := { np := 1, ns := 3, dflt := [], keep := false, lam := false, body := b_L_due }
/-- _law_take -/
abbrev s_L_take : Stmt := top 28
def b_L_take : SR := (.seq (.asg (.ix (.var 0) (.cst (.int 2))) (.bin .add (.idx (.var 0) (.cst (.int 2))) (.cst (.int 1)))) (.seq (.iff (.cmp .gt (.idx (.var 0) (.cst (.int 0))) (.cst (.int 0))) (.seq (.asg (.tup (.cons (.ix (.var 0) (.cst (.int 0))) (.cons (.v 2) .nil))) (.blt .divmod (.cons (.idx (.var 0) (.cst (.int 0))) (.cons (.var 1) .nil)))) (.seq (.ret (.var 2)) .nil)) .nil) (.seq (.asg (.v 3) (.bin .mod (.blt .int_ (.cons (.bin .add (.bin .add (.bin .mul (.idx (.var 0) (.cst (.int 1))) (.cst (.int 69061))) (.bin .mul (.bin .mul (.idx (.var 0) (.cst (.int 2))) (.idx (.var 0) (.cst (.int 2)))) (.cst (.int 7901)))) (.cst (.int 1013))) .nil)) (.cst (.int 2147483029)))) (.seq (.asg (.ix (.var 0) (.cst (.int 1))) (.bin .mod (.blt .int_ (.cons (.bin .mul (.var 3) (.bin .add (.bin .mod (.blt .int_ (.cons (.var 3) .nil)) (.cst (.int 8191))) (.cst (.int 4099)))) .nil)) (.cst (.int 2147483029)))) (.seq (.ret (.bin .mod (.blt .int_ (.cons (.bin .fdiv (.idx (.var 0) (.cst (.int 1))) (.cst (.int 32))) .nil)) (.var 1))) .nil)))))
def nn_L_take : List Str := ["_law_purse_here", "_law_many", "_law_digit", "_law_mixed"]
def pp_L_take : List Str := ["_law_purse_here", "_law_many"]
def f_L_take : FnD := { np := 2, ns := 4, dflt := [], keep := false, lam := false, body := b_L_take }
/-- _law_thing -/
abbrev s_L_thing : Stmt := top 31
def t_L_thing_0 : SR := (.asg (.v 1) (.bin .add (.idx (.lst false (.cons (.cst (.int 0)) (.cons (.cst (.int 1)) (.cons (.cst (.int 2)) (.cons (.bin .pow (.cst (.int 10)) (.cst (.int 39))) .nil))))) (.call i_L_take [] (.cons (.var 0) (.cons (.cst (.int 4)) .nil)) .nil)) (.call i_L_take [] (.cons (.var 0) (.cons (.cst (.int 9)) .nil)) .nil)))
def t_L_thing_1 : SR := (.asg (.v 2) (.call i_L_take [] (.cons (.var 0) (.cons (.cst (.int 30)) .nil)) .nil))
def t_L_thing_2 : SR := (.iff (.cmp .lt (.var 2) (.cst (.int 10))) (.seq (.ret (.tup (.cons (.var 1) (.cons (.bin .add (.bin .add (.var 1) (.cst (.int 1))) (.call i_L_take [] (.cons (.var 0) (.cons (.cst (.int 4)) .nil)) .nil)) .nil)))) .nil) .nil)
def t_L_thing_3 : SR := (.asg (.v 3) (.lst false (.cons (.tup (.cons (.var 1) (.cons (.var 1) .nil))) (.cons (.tup (.cons (.bin .add (.var 1) (.cst (.int 1))) (.cons (.var 1) .nil))) (.cons (.tup (.cons (.neg (.cst (.int 1))) (.cons (.var 1) .nil))) (.cons (.tup (.cons (.neg (.cst (.int 2))) (.cons (.neg (.cst (.int 1))) .nil))) (.cons (.tup (.cons (.var 1) .nil)) (.cons (.tup (.cons (.var 1) (.cons (.bin .add (.var 1) (.cst (.int 1))) (.cons (.bin .add (.var 1) (.cst (.int 2))) .nil)))) (.cons (.lst false (.cons (.var 1) (.cons (.bin .add (.var 1) (.cst (.int 1))) .nil))) .nil)))))))))
def t_L_thing_4 : SR := (.asg (.v 3) (.bin .add (.var 3) (.lst false (.cons (.tup (.cons (.cst (.bl true)) (.cons (.cst (.int 2)) .nil))) (.cons (.tup (.cons (.cst (.int 0)) (.cons (.cst (.bl true)) .nil))) (.cons (.tup (.cons (.cst (.bl false)) (.cons (.cst (.bl true)) .nil))) (.cons (.tup (.cons (.cst .non) (.cons (.cst (.int 1)) .nil))) (.cons (.tup (.cons (.cst (.int 0)) (.cons (.cst .non) .nil))) (.cons (.tup (.cons (.cst (.str (Str.ofString "0"))) (.cons (.cst (.str (Str.ofString "1"))) .nil))) (.cons (.tup (.cons (.tup (.cons (.cst (.int 0)) (.cons (.cst (.int 1)) .nil))) (.cons (.cst (.int 2)) .nil))) .nil))))))))))
def t_L_thing_5 : SR := (.asg (.v 3) (.bin .add (.var 3) (.lst false (.cons (.tup (.cons (.cst (.int 0)) (.cons (.tup (.cons (.cst (.int 1)) .nil)) .nil))) (.cons (.cst .non) (.cons (.var 1) (.cons (.tup .nil) .nil)))))))
def t_L_thing_6 : SR := (.ret (.idx (.bin .add (.var 3) (.lst false (.cons (.cst (.str (Str.ofString "01"))) (.cons .dict0 .nil)))) (.bin .sub (.var 2) (.cst (.int 10)))))
def b_L_thing : SR := (.seq t_L_thing_0 (.seq t_L_thing_1 (.seq t_L_thing_2 (.seq t_L_thing_3 (.seq t_L_thing_4 (.seq t_L_thing_5 (.seq t_L_thing_6 .nil)))))))
def nn_L_thing : List Str := ["_law_purse_here", "_law_low", "_law_way", "_law_some"]
def pp_L_thing : List Str := ["_law_purse_here"]
def f_L_thing : FnD := { np := 1, ns := 4, dflt := [], keep := false, lam := false, body := b_L_thing }
/-- _law_is_block -/
abbrev s_L_is_block : Stmt := top 32
def x_L_is_block_0 : IR := (.comp false [1] false .val (.cons (.var 0) .nil) (.not (.isin (.var 1) .int)) (.var 1))
def t_L_is_block_0 : SR := (.iff (.or (.not (.isin (.var 0) .tup)) (.or (.cmp .ne (.blt .len (.cons (.var 0) .nil)) (.cst (.int 2))) (.cmp .ne x_L_is_block_0 (.lst false .nil)))) (.seq (.ret (.cst (.bl false))) .nil) .nil)
def x_L_is_block_1 : IR := (.comp false [1] false .val (.cons (.var 0) .nil) (.isin (.var 1) .bool) (.var 1))
def t_L_is_block_1 : SR := (.ret (.and (.cmp .eq x_L_is_block_1 (.lst false .nil)) (.cmp2 .lt .lt (.neg (.cst (.int 1))) (.idx (.var 0) (.cst (.int 0))) (.idx (.var 0) (.cst (.int 1))))))
def b_L_is_block : SR := (.seq t_L_is_block_0 (.seq t_L_is_block_1 .nil))
def nn_L_is_block : List Str := ["_law_thing_here", "_law_x"]
def pp_L_is_block : List Str := ["_law_thing_here"]
def f_L_is_block : FnD := { np := 1, ns := 2, dflt := [], keep := false, lam := false, body := b_L_is_block }
/-- is_integer -/
abbrev s_is_integer : Stmt := top 12
def b_is_integer : SR := (.seq (.ret (.and (.isin (.var 0) .int) (.not (.isin (.var 0) .bool)))) .nil)
def nn_is_integer : List Str := ["value"]
def pp_is_integer : List Str := ["value"]
def f_is_integer : FnD := { np := 1, ns := 1, dflt := [], keep := false, lam := false, body := b_is_integer }
/-- is_number -/
abbrev s_is_number : Stmt := top 13
def b_is_number : SR := (.seq (.ret (.and (.call i_is_integer [] (.cons (.var 0) .nil) .nil) (.cmp .ge (.var 0) (.cst (.int 0))))) .nil)
def nn_is_number : List Str := ["value"]
def pp_is_number : List Str := ["value"]
def f_is_number : FnD := { np := 1, ns := 1, dflt := [], keep := false, lam := false, body := b_is_number }
/-- block_text -/
abbrev s_block_text : Stmt := top 20
def b_block_text : SR := (.seq (.asg (.tup (.cons (.v 1) (.cons (.v 2) .nil))) (.var 0)) (.seq (.ret (.ite (.cmp .eq (.var 2) (.bin .add (.var 1) (.cst (.int 1)))) (.fstr (.cons (.fmt (.var 1)) .nil)) (.fstr (.cons (.fmt (.var 1)) (.cons (.cst (.str (Str.ofString "-"))) (.cons (.fmt (.bin .sub (.var 2) (.cst (.int 1)))) .nil)))))) .nil))
def nn_block_text : List Str := ["block", "first", "end"]
def pp_block_text : List Str := ["block"]
def f_block_text : FnD := { np := 1, ns := 3, dflt := [], keep := false, lam := false, body := b_block_text }
/-- Pieces -/
def k_Pieces : ClsD := { flds := [q_row], init := i_Pieces_init, props := [], meths := [], eqf := some i_Pieces_eq, strf := some i_Pieces_str, reprf := some i_Pieces_repr, orf := none, andf := none, subf := none, inf := none }
def tab : Tab := { fns := [f_law, f_Pieces_init, f_Pieces_eq, f_Pieces_str, f_Pieces_repr, f_L_asked, f_L_right, f_L_purse, f_is_block, f_merged, f_set_text, f_L_due, f_L_take, f_L_thing, f_L_is_block, f_is_integer, f_is_number, f_block_text], cls := [k_Pieces], globs := [], xcs := [⟨[q_index], 3⟩] }
def stat : Stat := { T := tab, fnm := ["index", "row"], gl := [("law", .fn i_law), ("_law_asked", .fn i_L_asked), ("_law_right", .fn i_L_right), ("_law_purse", .fn i_L_purse), ("is_block", .fn i_is_block), ("merged", .fn i_merged), ("set_text", .fn i_set_text), ("_law_due", .fn i_L_due), ("_law_take", .fn i_L_take), ("_law_thing", .fn i_L_thing), ("_law_is_block", .fn i_L_is_block), ("is_integer", .fn i_is_integer), ("is_number", .fn i_is_number), ("block_text", .fn i_block_text), ("Pieces", .cls c_Pieces), ("InvalidBlocks", .exc x_InvalidBlocks)], bl := ["all", "range", "max", "min", "len", "isinstance", "tuple", "enumerate", "repr", "int", "sum", "abs", "sorted", "str", "divmod", "bool"], shp := [(i_Pieces_init, 2, [], []), (i_L_asked, 1, [], []), (i_L_right, 1, [], []), (i_L_purse, 2, [], []), (i_is_block, 1, [], []), (i_merged, 1, [], []), (i_set_text, 1, [], []), (i_L_due, 1, [], []), (i_Pieces_init, 2, [1], ["blocks"]), (i_L_take, 2, [], []), (i_L_thing, 1, [], []), (i_L_is_block, 1, [], []), (i_is_integer, 1, [], []), (i_is_number, 1, [], []), (i_block_text, 1, [], [])], mth := [], mks := [c_Pieces], sm := [], cat := true }
@[simp] theorem tab_law : tab.fns[i_law]? = some f_law := rfl
@[simp] theorem tab_Pieces_init : tab.fns[i_Pieces_init]? = some f_Pieces_init := rfl
@[simp] theorem tab_Pieces_eq : tab.fns[i_Pieces_eq]? = some f_Pieces_eq := rfl
@[simp] theorem tab_Pieces_str : tab.fns[i_Pieces_str]? = some f_Pieces_str := rfl
@[simp] theorem tab_Pieces_repr : tab.fns[i_Pieces_repr]? = some f_Pieces_repr := rfl
@[simp] theorem tab_L_asked : tab.fns[i_L_asked]? = some f_L_asked := rfl
@[simp] theorem tab_L_right : tab.fns[i_L_right]? = some f_L_right := rfl
@[simp] theorem tab_L_purse : tab.fns[i_L_purse]? = some f_L_purse := rfl
@[simp] theorem tab_is_block : tab.fns[i_is_block]? = some f_is_block := rfl
@[simp] theorem tab_merged : tab.fns[i_merged]? = some f_merged := rfl
@[simp] theorem tab_set_text : tab.fns[i_set_text]? = some f_set_text := rfl
@[simp] theorem tab_L_due : tab.fns[i_L_due]? = some f_L_due := rfl
@[simp] theorem tab_L_take : tab.fns[i_L_take]? = some f_L_take := rfl
@[simp] theorem tab_L_thing : tab.fns[i_L_thing]? = some f_L_thing := rfl
@[simp] theorem tab_L_is_block : tab.fns[i_L_is_block]? = some f_L_is_block := rfl
@[simp] theorem tab_is_integer : tab.fns[i_is_integer]? = some f_is_integer := rfl
@[simp] theorem tab_is_number : tab.fns[i_is_number]? = some f_is_number := rfl
@[simp] theorem tab_block_text : tab.fns[i_block_text]? = some f_block_text := rfl
@[simp] theorem tabc_Pieces : tab.cls[c_Pieces]? = some k_Pieces := rfl
theorem d_law : defB stat nn_law pp_law s_law f_law = true := by decide +kernel
theorem d_Pieces_init : defB stat nn_Pieces_init pp_Pieces_init s_Pieces_init f_Pieces_init = true := by decide +kernel
theorem d_Pieces_eq : defB stat nn_Pieces_eq pp_Pieces_eq s_Pieces_eq f_Pieces_eq = true := by decide +kernel
theorem d_Pieces_str : defB stat nn_Pieces_str pp_Pieces_str s_Pieces_str f_Pieces_str = true := by decide +kernel
theorem d_Pieces_repr : defB stat nn_Pieces_repr pp_Pieces_repr s_Pieces_repr f_Pieces_repr = true := by decide +kernel
theorem d_L_asked : defB stat nn_L_asked pp_L_asked s_L_asked f_L_asked = true := by decide +kernel
theorem d_L_right : defB stat nn_L_right pp_L_right s_L_right f_L_right = true := by decide +kernel
theorem d_L_purse : defB stat nn_L_purse pp_L_purse s_L_purse f_L_purse = true := by decide +kernel
theorem d_is_block : defB stat nn_is_block pp_is_block s_is_block f_is_block = true := by decide +kernel
theorem d_merged : defB stat nn_merged pp_merged s_merged f_merged = true := by decide +kernel
theorem d_set_text : defB stat nn_set_text pp_set_text s_set_text f_set_text = true := by decide +kernel
theorem d_L_due : defB stat nn_L_due pp_L_due s_L_due f_L_due = true := by decide +kernel
theorem d_L_take : defB stat nn_L_take pp_L_take s_L_take f_L_take = true := by decide +kernel
theorem d_L_thing : defB stat nn_L_thing pp_L_thing s_L_thing f_L_thing = true := by decide +kernel
theorem d_L_is_block : defB stat nn_L_is_block pp_L_is_block s_L_is_block f_L_is_block = true := by decide +kernel
theorem d_is_integer : defB stat nn_is_integer pp_is_integer s_is_integer f_is_integer = true := by decide +kernel
theorem d_is_number : defB stat nn_is_number pp_is_number s_is_number f_is_number = true := by decide +kernel
theorem d_block_text : defB stat nn_block_text pp_block_text s_block_text f_block_text = true := by decide +kernel
theorem nmOk : namesOk stat.fnm = true := by decide +kernel
theorem flOk : fldsB tab stat.fnm.length = true := by decide +kernel
def zp_ct : List (Nat × Nat × Nat × Nat) := [(179, 8, 179, 17), (179, 20, 179, 28), (179, 20, 179, 30), (179, 8, 179, 30), (180, 11, 180, 21), (181, 8, 181, 15), (181, 18, 181, 27), (181, 28, 181, 34), (181, 18, 181, 35), (181, 8, 181, 35), (182, 16, 182, 23), (182, 25, 182, 32), (182, 34, 182, 38), (182, 55, 182, 56), (182, 59, 182, 66), (182, 69, 182, 70), (182, 55, 182, 70), (182, 39, 182, 45), (182, 39, 182, 51), (182, 76, 182, 82), (182, 76, 182, 88), (182, 39, 182, 88), (182, 34, 182, 89), (182, 15, 182, 90), (182, 8, 182, 90), (180, 4, 182, 90), (178, 4, 182, 90), (183, 12, 183, 18), (183, 20, 183, 24), (183, 25, 183, 34), (183, 20, 183, 35), (183, 11, 183, 36), (183, 4, 183, 36)]
theorem zt_ct : defBody (top 30) = catTx (posAt zp_ct) := by rfl
theorem zs_ct : defScope (top 30) = catSc := by rfl
def zp_st : List (Nat × Nat × Nat × Nat) := [(172, 4, 172, 13), (172, 17, 172, 27), (172, 28, 172, 34), (172, 36, 172, 49), (172, 17, 172, 50), (172, 52, 172, 62), (172, 63, 172, 69), (172, 71, 172, 82), (172, 52, 172, 83), (172, 85, 172, 95), (172, 96, 172, 102), (172, 104, 172, 115), (172, 85, 172, 116), (172, 16, 172, 117), (172, 4, 172, 117), (173, 4, 173, 13), (173, 16, 173, 25), (173, 29, 173, 39), (173, 40, 173, 46), (173, 48, 173, 61), (173, 29, 173, 62), (173, 64, 173, 74), (173, 75, 173, 81), (173, 83, 173, 99), (173, 64, 173, 100), (173, 102, 173, 112), (173, 113, 173, 119), (173, 121, 173, 136), (173, 102, 173, 137), (173, 28, 173, 138), (173, 16, 173, 138), (173, 4, 173, 138), (174, 4, 174, 13), (174, 16, 174, 25), (174, 29, 174, 39), (174, 40, 174, 46), (174, 48, 174, 57), (174, 29, 174, 58), (174, 60, 174, 70), (174, 71, 174, 77), (174, 79, 174, 91), (174, 60, 174, 92), (174, 28, 174, 93), (174, 16, 174, 93), (174, 4, 174, 93), (175, 4, 175, 13), (175, 16, 175, 26), (175, 27, 175, 33), (175, 35, 175, 45), (175, 16, 175, 46), (175, 56, 175, 66), (175, 67, 175, 73), (175, 75, 175, 86), (175, 56, 175, 87), (175, 52, 175, 87), (175, 16, 175, 88), (175, 4, 175, 88), (176, 36, 176, 45), (176, 36, 176, 51), (176, 52, 176, 56), (176, 36, 176, 57), (176, 61, 176, 62), (176, 36, 176, 62), (176, 67, 176, 76), (176, 36, 176, 76), (176, 11, 176, 20), (176, 11, 176, 26), (176, 27, 176, 31), (176, 11, 176, 32), (176, 83, 176, 84), (176, 82, 176, 84), (176, 11, 176, 84), (176, 4, 176, 84)]
theorem zt_st : defBody (top 29) = sortTx (posAt zp_st) := by rfl
theorem zs_st : defScope (top 29) = sortSc := by rfl
theorem head {K : PySem.W.Frag} {mg : Str → Option Value} {fa : Addr} {h : Heap}
    {a0 a1 a2 a3 a4 a5 a6 a7 a8 a9 a10 a11 a12 a13 a14 a15 a16 a17 : Addr}
    {od0 an0 : Option Addr} {sl0 : Array (Option Value)} {oc0 kV0 dc0 pm0 cd0 ct0 : Value}
    {od1 an1 : Option Addr} {sl1 : Array (Option Value)} {oc1 kV1 dc1 pm1 cd1 ct1 : Value}
    {od2 an2 : Option Addr} {sl2 : Array (Option Value)} {oc2 kV2 dc2 pm2 cd2 ct2 : Value}
    {od3 an3 : Option Addr} {sl3 : Array (Option Value)} {oc3 kV3 dc3 pm3 cd3 ct3 : Value}
    {od4 an4 : Option Addr} {sl4 : Array (Option Value)} {oc4 kV4 dc4 pm4 cd4 ct4 : Value}
    {od5 an5 : Option Addr} {sl5 : Array (Option Value)} {oc5 kV5 dc5 pm5 cd5 ct5 : Value}
    {od6 an6 : Option Addr} {sl6 : Array (Option Value)} {oc6 kV6 dc6 pm6 cd6 ct6 : Value}
    {od7 an7 : Option Addr} {sl7 : Array (Option Value)} {oc7 kV7 dc7 pm7 cd7 ct7 : Value}
    {od8 an8 : Option Addr} {sl8 : Array (Option Value)} {oc8 kV8 dc8 pm8 cd8 ct8 : Value}
    {od9 an9 : Option Addr} {sl9 : Array (Option Value)} {oc9 kV9 dc9 pm9 cd9 ct9 : Value}
    {od10 an10 : Option Addr} {sl10 : Array (Option Value)} {oc10 kV10 dc10 pm10 cd10 ct10 : Value}
    {od11 an11 : Option Addr} {sl11 : Array (Option Value)} {oc11 kV11 dc11 pm11 cd11 ct11 : Value}
    {od12 an12 : Option Addr} {sl12 : Array (Option Value)} {oc12 kV12 dc12 pm12 cd12 ct12 : Value}
    {od13 an13 : Option Addr} {sl13 : Array (Option Value)} {oc13 kV13 dc13 pm13 cd13 ct13 : Value}
    {od14 an14 : Option Addr} {sl14 : Array (Option Value)} {oc14 kV14 dc14 pm14 cd14 ct14 : Value}
    {od15 an15 : Option Addr} {sl15 : Array (Option Value)} {oc15 kV15 dc15 pm15 cd15 ct15 : Value}
    {od16 an16 : Option Addr} {sl16 : Array (Option Value)} {oc16 kV16 dc16 pm16 cd16 ct16 : Value}
    {od17 an17 : Option Addr} {sl17 : Array (Option Value)} {oc17 kV17 dc17 pm17 cd17 ct17 : Value}
    {c0 : Addr} {cd0_ : ClassData}
    {T1 : Addr} {oT1 : Obj} {tn1 : Nat}
    {E1_0 : Addr} {oE1_0 : Obj} {en1_0 : Nat}
    {cc5 PP5 : Addr} {vv5 : List Value} {dr5 : DefRec}
    {X0 XI0 XN0 : Addr} {xnm0 xq0 : Str} {xbs0 xbm0 : List Value} {xsn0 : List Str} {xsub0 : List Value} {xab0 : Bool} {xcol0 : Option Bool} {xdd0 : Option Addr} {xa0 xb0 xc0 xd0 xe0 : Option Value} {xod0 xan0 : Option Addr} {xsl0 : Array (Option Value)} {xoc0 xkV0 xdc0 xpm0 xcd0 xct0 : Value}
    {XW : Addr}
    {XE0 : Addr}
    {XE1 : Addr}
    {XE2 : Addr}
    {XE4 : Addr}
    {XE5 : Addr}
    {XE6 : Addr}
    {XE7 : Addr}
    {xcd100_ : ClassData}
    {xcd101_ : ClassData}
    {xcd102_ : ClassData}
    {xcd103_ : ClassData}
    {xcd104_ : ClassData}
    {xcd105_ : ClassData}
    {xcd106_ : ClassData}
    {xcd107_ : ClassData}
    {zcta : Addr} {zctod zctan : Option Addr} {zctsl : Array (Option Value)} {zctoc zctkV zctdc zctpm zctcd zctct : Value}
    {zsta : Addr} {zstod zstan : Option Addr} {zstsl : Array (Option Value)} {zstoc zstkV zstdc zstpm zstcd zstct : Value}
    {q0 : Program} {loose0 : List Str} {mean : ExcName → Option Value} {mb : Str → Option Value} (TT : Top q0 loose0 mean mg mb h) (X : K.In h) (Gn : h.Ns mainGlobals mg) (hfa : mg "law" = some (.ref fa))
    (x0 : PySem.W.nsIn K mainGlobals "law" = some (some (.ref a0)))
    (l0 : K.lookup a0 = some ⟨oc0, od0, .func (PySem.W.fnOf "law" "law" (defArgs s_law) (defBody s_law) (defScope s_law) .none kV0 dc0 pm0 an0 cd0 ct0), sl0⟩)
    (e0 : PySem.W.codeIn K cd0 "law" = true)
    (k0_ : PySem.W.keepIn K (.ref a0) = true)
    (x1 : PySem.W.findIn K (.ref c0) "__init__" = some (some (.ref a1)))
    (y1 : PySem.W.isFn K (.ref a1) = true)
    (l1 : K.lookup a1 = some ⟨oc1, od1, .func (PySem.W.fnOf "__init__" "Pieces.__init__" (defArgs s_Pieces_init) (defBody s_Pieces_init) (defScope s_Pieces_init) (.ref T1) kV1 dc1 pm1 an1 cd1 ct1), sl1⟩)
    (e1 : PySem.W.codeIn K cd1 "Pieces.__init__" = true)
    (k1_ : PySem.W.keepIn K (.ref a1) = true)
    (t1 : K.lookup T1 = some oT1)
    (u1 : oT1.data = .seq #[.ref E1_0] tn1)
    (v1_0 : K.lookup E1_0 = some oE1_0)
    (w1_0 : oE1_0.cls = .type "tuple")
    (o1_0 : oE1_0.data = .seq #[] en1_0)
    (x2 : PySem.W.findIn K (.ref c0) "__eq__" = some (some (.ref a2)))
    (y2 : PySem.W.isFn K (.ref a2) = true)
    (l2 : K.lookup a2 = some ⟨oc2, od2, .func (PySem.W.fnOf "__eq__" "Pieces.__eq__" (defArgs s_Pieces_eq) (defBody s_Pieces_eq) (defScope s_Pieces_eq) .none kV2 dc2 pm2 an2 cd2 ct2), sl2⟩)
    (e2 : PySem.W.codeIn K cd2 "Pieces.__eq__" = true)
    (k2_ : PySem.W.keepIn K (.ref a2) = true)
    (x3 : PySem.W.findIn K (.ref c0) "__str__" = some (some (.ref a3)))
    (y3 : PySem.W.isFn K (.ref a3) = true)
    (l3 : K.lookup a3 = some ⟨oc3, od3, .func (PySem.W.fnOf "__str__" "Pieces.__str__" (defArgs s_Pieces_str) (defBody s_Pieces_str) (defScope s_Pieces_str) .none kV3 dc3 pm3 an3 cd3 ct3), sl3⟩)
    (e3 : PySem.W.codeIn K cd3 "Pieces.__str__" = true)
    (k3_ : PySem.W.keepIn K (.ref a3) = true)
    (x4 : PySem.W.findIn K (.ref c0) "__repr__" = some (some (.ref a4)))
    (y4 : PySem.W.isFn K (.ref a4) = true)
    (l4 : K.lookup a4 = some ⟨oc4, od4, .func (PySem.W.fnOf "__repr__" "Pieces.__repr__" (defArgs s_Pieces_repr) (defBody s_Pieces_repr) (defScope s_Pieces_repr) .none kV4 dc4 pm4 an4 cd4 ct4), sl4⟩)
    (e4 : PySem.W.codeIn K cd4 "Pieces.__repr__" = true)
    (k4_ : PySem.W.keepIn K (.ref a4) = true)
    (x5 : PySem.W.nsIn K mainGlobals "_law_asked" = some (some (.ref a5)))
    (l5 : K.lookup a5 = some ⟨oc5, od5, .func (PySem.W.fnOf "_law_asked" "_law_asked" (defArgs s_L_asked) (defBody s_L_asked) (defScope s_L_asked) .none kV5 dc5 pm5 an5 cd5 ct5), sl5⟩)
    (e5 : PySem.W.codeIn K cd5 "_law_asked" = true)
    (k5_ : PySem.W.keepIn K (.ref a5) = true)
    (x6 : PySem.W.nsIn K mainGlobals "_law_right" = some (some (.ref a6)))
    (l6 : K.lookup a6 = some ⟨oc6, od6, .func (PySem.W.fnOf "_law_right" "_law_right" (defArgs s_L_right) (defBody s_L_right) (defScope s_L_right) .none kV6 dc6 pm6 an6 cd6 ct6), sl6⟩)
    (e6 : PySem.W.codeIn K cd6 "_law_right" = true)
    (k6_ : PySem.W.keepIn K (.ref a6) = true)
    (x7 : PySem.W.nsIn K mainGlobals "_law_purse" = some (some (.ref a7)))
    (l7 : K.lookup a7 = some ⟨oc7, od7, .func (PySem.W.fnOf "_law_purse" "_law_purse" (defArgs s_L_purse) (defBody s_L_purse) (defScope s_L_purse) .none kV7 dc7 pm7 an7 cd7 ct7), sl7⟩)
    (e7 : PySem.W.codeIn K cd7 "_law_purse" = true)
    (k7_ : PySem.W.keepIn K (.ref a7) = true)
    (x8 : PySem.W.nsIn K mainGlobals "is_block" = some (some (.ref a8)))
    (l8 : K.lookup a8 = some ⟨oc8, od8, .func (PySem.W.fnOf "is_block" "is_block" (defArgs s_is_block) (defBody s_is_block) (defScope s_is_block) .none kV8 dc8 pm8 an8 cd8 ct8), sl8⟩)
    (e8 : PySem.W.codeIn K cd8 "is_block" = true)
    (k8_ : PySem.W.keepIn K (.ref a8) = true)
    (x9 : PySem.W.nsIn K mainGlobals "merged" = some (some (.ref a9)))
    (l9 : K.lookup a9 = some ⟨oc9, od9, .func (PySem.W.fnOf "merged" "merged" (defArgs s_merged) (defBody s_merged) (defScope s_merged) .none kV9 dc9 pm9 an9 cd9 ct9), sl9⟩)
    (e9 : PySem.W.codeIn K cd9 "merged" = true)
    (k9_ : PySem.W.keepIn K (.ref a9) = true)
    (x10 : PySem.W.nsIn K mainGlobals "set_text" = some (some (.ref a10)))
    (l10 : K.lookup a10 = some ⟨oc10, od10, .func (PySem.W.fnOf "set_text" "set_text" (defArgs s_set_text) (defBody s_set_text) (defScope s_set_text) .none kV10 dc10 pm10 an10 cd10 ct10), sl10⟩)
    (e10 : PySem.W.codeIn K cd10 "set_text" = true)
    (k10_ : PySem.W.keepIn K (.ref a10) = true)
    (x11 : PySem.W.nsIn K mainGlobals "_law_due" = some (some (.ref a11)))
    (l11 : K.lookup a11 = some ⟨oc11, od11, .func (PySem.W.fnOf "_law_due" "_law_due" (defArgs s_L_due) (defBody s_L_due) (defScope s_L_due) .none kV11 dc11 pm11 an11 cd11 ct11), sl11⟩)
    (e11 : PySem.W.codeIn K cd11 "_law_due" = true)
    (k11_ : PySem.W.keepIn K (.ref a11) = true)
    (x12 : PySem.W.nsIn K mainGlobals "_law_take" = some (some (.ref a12)))
    (l12 : K.lookup a12 = some ⟨oc12, od12, .func (PySem.W.fnOf "_law_take" "_law_take" (defArgs s_L_take) (defBody s_L_take) (defScope s_L_take) .none kV12 dc12 pm12 an12 cd12 ct12), sl12⟩)
    (e12 : PySem.W.codeIn K cd12 "_law_take" = true)
    (k12_ : PySem.W.keepIn K (.ref a12) = true)
    (x13 : PySem.W.nsIn K mainGlobals "_law_thing" = some (some (.ref a13)))
    (l13 : K.lookup a13 = some ⟨oc13, od13, .func (PySem.W.fnOf "_law_thing" "_law_thing" (defArgs s_L_thing) (defBody s_L_thing) (defScope s_L_thing) .none kV13 dc13 pm13 an13 cd13 ct13), sl13⟩)
    (e13 : PySem.W.codeIn K cd13 "_law_thing" = true)
    (k13_ : PySem.W.keepIn K (.ref a13) = true)
    (x14 : PySem.W.nsIn K mainGlobals "_law_is_block" = some (some (.ref a14)))
    (l14 : K.lookup a14 = some ⟨oc14, od14, .func (PySem.W.fnOf "_law_is_block" "_law_is_block" (defArgs s_L_is_block) (defBody s_L_is_block) (defScope s_L_is_block) .none kV14 dc14 pm14 an14 cd14 ct14), sl14⟩)
    (e14 : PySem.W.codeIn K cd14 "_law_is_block" = true)
    (k14_ : PySem.W.keepIn K (.ref a14) = true)
    (x15 : PySem.W.nsIn K mainGlobals "is_integer" = some (some (.ref a15)))
    (l15 : K.lookup a15 = some ⟨oc15, od15, .func (PySem.W.fnOf "is_integer" "is_integer" (defArgs s_is_integer) (defBody s_is_integer) (defScope s_is_integer) .none kV15 dc15 pm15 an15 cd15 ct15), sl15⟩)
    (e15 : PySem.W.codeIn K cd15 "is_integer" = true)
    (k15_ : PySem.W.keepIn K (.ref a15) = true)
    (x16 : PySem.W.nsIn K mainGlobals "is_number" = some (some (.ref a16)))
    (l16 : K.lookup a16 = some ⟨oc16, od16, .func (PySem.W.fnOf "is_number" "is_number" (defArgs s_is_number) (defBody s_is_number) (defScope s_is_number) .none kV16 dc16 pm16 an16 cd16 ct16), sl16⟩)
    (e16 : PySem.W.codeIn K cd16 "is_number" = true)
    (k16_ : PySem.W.keepIn K (.ref a16) = true)
    (x17 : PySem.W.nsIn K mainGlobals "block_text" = some (some (.ref a17)))
    (l17 : K.lookup a17 = some ⟨oc17, od17, .func (PySem.W.fnOf "block_text" "block_text" (defArgs s_block_text) (defBody s_block_text) (defScope s_block_text) .none kV17 dc17 pm17 an17 cd17 ct17), sl17⟩)
    (e17 : PySem.W.codeIn K cd17 "block_text" = true)
    (k17_ : PySem.W.keepIn K (.ref a17) = true)
    (C0 : PySem.W.nsIn K mainGlobals "Pieces" = some (some (.ref c0)))
    (Ccl0 : PySem.W.clsIn K c0 = some cd0_)
    (Cty0 : PySem.W.typeIn K (.ref c0) = some (.type "type"))
    (Cic0 : PySem.W.findIn K (.ref c0) "__class__" = some (some (.builtin "object.__class__")))
    (Cmo0 : PySem.W.mroIn K c0 (.type "object") = some true)
    (Ckt0_NoneType : PySem.W.subIn K (.type "NoneType") (.ref c0) = some false)
    (Cnb0_NoneType : PySem.W.notFirst K c0 (.type "NoneType") = true)
    (Ckt0_bool : PySem.W.subIn K (.type "bool") (.ref c0) = some false)
    (Cnb0_bool : PySem.W.notFirst K c0 (.type "bool") = true)
    (Ckt0_int : PySem.W.subIn K (.type "int") (.ref c0) = some false)
    (Cnb0_int : PySem.W.notFirst K c0 (.type "int") = true)
    (Ckt0_str : PySem.W.subIn K (.type "str") (.ref c0) = some false)
    (Cnb0_str : PySem.W.notFirst K c0 (.type "str") = true)
    (Ckt0_tuple : PySem.W.subIn K (.type "tuple") (.ref c0) = some false)
    (Cnb0_tuple : PySem.W.notFirst K c0 (.type "tuple") = true)
    (Ckt0_list : PySem.W.subIn K (.type "list") (.ref c0) = some false)
    (Cnb0_list : PySem.W.notFirst K c0 (.type "list") = true)
    (Ckt0_dict : PySem.W.subIn K (.type "dict") (.ref c0) = some false)
    (Cnb0_dict : PySem.W.notFirst K c0 (.type "dict") = true)
    (Ckf0_int : PySem.W.subIn K (.ref c0) (.type "int") = some false)
    (Ckf0_bool : PySem.W.subIn K (.ref c0) (.type "bool") = some false)
    (Ckf0_str : PySem.W.subIn K (.ref c0) (.type "str") = some false)
    (Ckf0_tuple : PySem.W.subIn K (.ref c0) (.type "tuple") = some false)
    (Ckf0_list : PySem.W.subIn K (.ref c0) (.type "list") = some false)
    (Cnc0_0 : PySem.W.notFirst K c0 (.ref c0) = true)
    (Cpg0 : PySem.W.plainGet K c0 Str.empty = true)
    (Chd0 : PySem.W.hasDictIn K c0 = true)
    (Cpo0 : PySem.W.plainOver K c0 = true)
    (Csa0 : PySem.W.findIn K (.ref c0) "__setattr__" = some (some (.builtin "object.__setattr__")))
    (Cbo0 : PySem.W.findIn K (.ref c0) "__bool__" = some none)
    (Cle0 : PySem.W.findIn K (.ref c0) "__len__" = some none)
    (Cf0_1 : PySem.W.findIn K (.ref c0) "row" = some none)
    (Cmk0 : PySem.W.makesIn K c0 = true)
    (Ckp0 : PySem.W.keepIn K (.ref c0) = true)
    (Cne0 : PySem.W.findIn K (.ref c0) "__ne__" = some (some (.builtin "object.__ne__")))
    (Lc5 : cd5 = .ref cc5)
    (Lr5 : PySem.W.recIn K cc5 "code" = some vv5)
    (Lp5 : vv5[11]? = some (.ref PP5))
    (Ln5 : K.lookup PP5 = none)
    (Ld5 : (recsOf q0).find? (fun e => e.name == ("_law_asked" : Str)) = some dr5)
    (X0_g : PySem.W.nsIn K mainGlobals "InvalidBlocks" = some (some (.ref X0)))
    (X0_l : K.lookup X0 = some (excClassObj xnm0 xq0 X0 XN0 xbs0 xbm0 true xsn0 xsub0 xab0 xcol0 xdd0 xa0 xb0 xc0 xd0 xe0 "ValueError.__new__"))
    (X0_m : PySem.HandSPX.refsVE xbm0 = true)
    (X0_sa : PySem.W.findIn K (.ref X0) "__setattr__" = some (some (.builtin "object.__setattr__")))
    (X0_eC : PySem.W.subIn K (.ref X0) (.type "BaseException") = some true)
    (X0_tC : PySem.W.typeIn K (.ref X0) = some (.type "type"))
    (X0_kC : PySem.W.keepIn K (.ref X0) = true)
    (X0_no : PySem.W.findIn K (.ref X0) "index" = some none)
    (X0_iC : PySem.W.findIn K (.ref X0) "__init__" = some (some (.ref XI0)))
    (X0_tI : PySem.W.typeIn K (.ref XI0) = some (.type "function"))
    (X0_li : K.lookup XI0 = some ⟨xoc0, xod0, .func (PySem.W.fnOf "__init__" "InvalidBlocks.__init__" (defArgs (inClass (top 8) 0)) (defBody (inClass (top 8) 0)) (defScope (inClass (top 8) 0)) .none xkV0 xdc0 xpm0 xan0 xcd0 xct0), xsl0⟩)
    (X0_ci : PySem.W.codeIn K xcd0 "InvalidBlocks.__init__" = true)
    (X0_ga : PySem.W.findIn K (.ref X0) "__getattribute__" = some (some (.builtin "BaseException.__getattribute__")))
    (X0_gg : PySem.W.findIn K (.ref X0) "__getattr__" = some none)
    (X0_hd : PySem.W.hasDictIn K X0 = true)
    (X0_ha : PySem.W.findIn K (.ref X0) "__class__" = some (some (.builtin "object.__class__")))
    (X0_hm : PySem.W.mroIn K X0 (.type "object") = some true)
    (X0_ve : PySem.W.subIn K (.ref X0) (.type "ValueError") = some true)
    (X0_le : PySem.W.subIn K (.ref X0) (.type "LookupError") = some false)
    (X0_w : PySem.W.subIn K (.ref X0) (.ref XW) = some true)
    (XW_g : PySem.W.nsIn K mainGlobals "WrongValue" = some (some (.ref XW)))
    (XW_s : PySem.W.subIn K (.ref XW) (.type "BaseException") = some true)
    (XW_h : PySem.W.hasDictIn K XW = true)
    (XW_t : PySem.W.typeIn K (.ref XW) = some (.type "type"))
    (XE0_g : PySem.W.nsIn K mainGlobals "InvalidNumber" = some (some (.ref XE0)))
    (XE0_t : PySem.W.typeIn K (.ref XE0) = some (.type "type"))
    (XE1_g : PySem.W.nsIn K mainGlobals "InvalidText" = some (some (.ref XE1)))
    (XE1_t : PySem.W.typeIn K (.ref XE1) = some (.type "type"))
    (XE2_g : PySem.W.nsIn K mainGlobals "InvalidFlag" = some (some (.ref XE2)))
    (XE2_t : PySem.W.typeIn K (.ref XE2) = some (.type "type"))
    (XE4_g : PySem.W.nsIn K mainGlobals "InvalidSelectors" = some (some (.ref XE4)))
    (XE4_t : PySem.W.typeIn K (.ref XE4) = some (.type "type"))
    (XE5_g : PySem.W.nsIn K mainGlobals "InvalidPromises" = some (some (.ref XE5)))
    (XE5_t : PySem.W.typeIn K (.ref XE5) = some (.type "type"))
    (XE6_g : PySem.W.nsIn K mainGlobals "NotPieces" = some (some (.ref XE6)))
    (XE6_t : PySem.W.typeIn K (.ref XE6) = some (.type "type"))
    (XE7_g : PySem.W.nsIn K mainGlobals "NotAReceiver" = some (some (.ref XE7)))
    (XE7_t : PySem.W.typeIn K (.ref XE7) = some (.type "type"))
    (XC0 : PySem.W.clsIn K XE0 = some xcd100_)
    (XD0_0 : (X0 == XE0) = false)
    (XS0_0 : PySem.W.subIn K (.ref X0) (.ref XE0) = some false)
    (XC1 : PySem.W.clsIn K XE1 = some xcd101_)
    (XD0_1 : (X0 == XE1) = false)
    (XS0_1 : PySem.W.subIn K (.ref X0) (.ref XE1) = some false)
    (XC2 : PySem.W.clsIn K XE2 = some xcd102_)
    (XD0_2 : (X0 == XE2) = false)
    (XS0_2 : PySem.W.subIn K (.ref X0) (.ref XE2) = some false)
    (XC3 : PySem.W.clsIn K X0 = some xcd103_)
    (XC4 : PySem.W.clsIn K XE4 = some xcd104_)
    (XD0_4 : (X0 == XE4) = false)
    (XS0_4 : PySem.W.subIn K (.ref X0) (.ref XE4) = some false)
    (XC5 : PySem.W.clsIn K XE5 = some xcd105_)
    (XD0_5 : (X0 == XE5) = false)
    (XS0_5 : PySem.W.subIn K (.ref X0) (.ref XE5) = some false)
    (XC6 : PySem.W.clsIn K XE6 = some xcd106_)
    (XD0_6 : (X0 == XE6) = false)
    (XS0_6 : PySem.W.subIn K (.ref X0) (.ref XE6) = some false)
    (XC7 : PySem.W.clsIn K XE7 = some xcd107_)
    (XD0_7 : (X0 == XE7) = false)
    (XS0_7 : PySem.W.subIn K (.ref X0) (.ref XE7) = some false)
    (zct_g : PySem.W.nsIn K mainGlobals "_law_caught" = some (some (.ref zcta)))
    (zct_k : PySem.W.keepIn K (.ref zcta) = true)
    (zct_l : K.lookup zcta = some ⟨zctoc, zctod, .func (PySem.W.fnOf "_law_caught" "_law_caught" (defArgs (top 30)) (defBody (top 30)) (defScope (top 30)) .none zctkV zctdc zctpm zctan zctcd zctct), zctsl⟩)
    (zct_c : PySem.W.codeIn K zctcd "_law_caught" = true)
    (zst_g : PySem.W.nsIn K mainGlobals "_law_sort" = some (some (.ref zsta)))
    (zst_k : PySem.W.keepIn K (.ref zsta) = true)
    (zst_l : K.lookup zsta = some ⟨zstoc, zstod, .func (PySem.W.fnOf "_law_sort" "_law_sort" (defArgs (top 29)) (defBody (top 29)) (defScope (top 29)) .none zstkV zstdc zstpm zstan zstcd zstct), zstsl⟩)
    (zst_c : PySem.W.codeIn K zstcd "_law_sort" = true)
    (zb_ValueError : PySem.W.nsIn K mainGlobals "ValueError" = some none)
    (zb_LookupError : PySem.W.nsIn K mainGlobals "LookupError" = some none)
    (zb_isinstance : PySem.W.nsIn K mainGlobals "isinstance" = some none)
    (zb_repr : PySem.W.nsIn K mainGlobals "repr" = some none)
    (hn : PySem.W.specialIn K (.builtin "object.__class__") "__get__" = some (some (.builtin "getset_descriptor.__get__")))
    (tk : PySem.W.takesIn K (.builtin "object.__class__") = some true)
    (B0 : PySem.W.nsIn K mainGlobals "all" = some none)
    (B1 : PySem.W.nsIn K mainGlobals "range" = some none)
    (B2 : PySem.W.nsIn K mainGlobals "max" = some none)
    (B3 : PySem.W.nsIn K mainGlobals "min" = some none)
    (B4 : PySem.W.nsIn K mainGlobals "len" = some none)
    (B5 : PySem.W.nsIn K mainGlobals "isinstance" = some none)
    (B6 : PySem.W.nsIn K mainGlobals "tuple" = some none)
    (B7 : PySem.W.nsIn K mainGlobals "enumerate" = some none)
    (B8 : PySem.W.nsIn K mainGlobals "repr" = some none)
    (B9 : PySem.W.nsIn K mainGlobals "int" = some none)
    (B10 : PySem.W.nsIn K mainGlobals "sum" = some none)
    (B11 : PySem.W.nsIn K mainGlobals "abs" = some none)
    (B12 : PySem.W.nsIn K mainGlobals "sorted" = some none)
    (B13 : PySem.W.nsIn K mainGlobals "str" = some none)
    (B14 : PySem.W.nsIn K mainGlobals "divmod" = some none)
    (B15 : PySem.W.nsIn K mainGlobals "bool" = some none)
    : ∃ G S FI, Head mg K fa tab 0 G S FI ∧ ∀ p ∈ G.cods, TabAt K h p := by
  have hlaw : a0 = fa := by
    have q := hfa.symm.trans (PySem.W.mg_of X Gn x0)
    cases q
    rfl
  let F0 : FnI := ⟨(PySem.W.fnOf "law" "law" (defArgs s_law) (defBody s_law) (defScope s_law) .none kV0 dc0 pm0 an0 cd0 ct0), pp_law, []⟩
  let F1 : FnI := ⟨(PySem.W.fnOf "__init__" "Pieces.__init__" (defArgs s_Pieces_init) (defBody s_Pieces_init) (defScope s_Pieces_init) (.ref T1) kV1 dc1 pm1 an1 cd1 ct1), pp_Pieces_init, [.ref E1_0]⟩
  let F2 : FnI := ⟨(PySem.W.fnOf "__eq__" "Pieces.__eq__" (defArgs s_Pieces_eq) (defBody s_Pieces_eq) (defScope s_Pieces_eq) .none kV2 dc2 pm2 an2 cd2 ct2), pp_Pieces_eq, []⟩
  let F3 : FnI := ⟨(PySem.W.fnOf "__str__" "Pieces.__str__" (defArgs s_Pieces_str) (defBody s_Pieces_str) (defScope s_Pieces_str) .none kV3 dc3 pm3 an3 cd3 ct3), pp_Pieces_str, []⟩
  let F4 : FnI := ⟨(PySem.W.fnOf "__repr__" "Pieces.__repr__" (defArgs s_Pieces_repr) (defBody s_Pieces_repr) (defScope s_Pieces_repr) .none kV4 dc4 pm4 an4 cd4 ct4), pp_Pieces_repr, []⟩
  let F5 : FnI := ⟨(PySem.W.fnOf "_law_asked" "_law_asked" (defArgs s_L_asked) (defBody s_L_asked) (defScope s_L_asked) .none kV5 dc5 pm5 an5 cd5 ct5), pp_L_asked, []⟩
  let F6 : FnI := ⟨(PySem.W.fnOf "_law_right" "_law_right" (defArgs s_L_right) (defBody s_L_right) (defScope s_L_right) .none kV6 dc6 pm6 an6 cd6 ct6), pp_L_right, []⟩
  let F7 : FnI := ⟨(PySem.W.fnOf "_law_purse" "_law_purse" (defArgs s_L_purse) (defBody s_L_purse) (defScope s_L_purse) .none kV7 dc7 pm7 an7 cd7 ct7), pp_L_purse, []⟩
  let F8 : FnI := ⟨(PySem.W.fnOf "is_block" "is_block" (defArgs s_is_block) (defBody s_is_block) (defScope s_is_block) .none kV8 dc8 pm8 an8 cd8 ct8), pp_is_block, []⟩
  let F9 : FnI := ⟨(PySem.W.fnOf "merged" "merged" (defArgs s_merged) (defBody s_merged) (defScope s_merged) .none kV9 dc9 pm9 an9 cd9 ct9), pp_merged, []⟩
  let F10 : FnI := ⟨(PySem.W.fnOf "set_text" "set_text" (defArgs s_set_text) (defBody s_set_text) (defScope s_set_text) .none kV10 dc10 pm10 an10 cd10 ct10), pp_set_text, []⟩
  let F11 : FnI := ⟨(PySem.W.fnOf "_law_due" "_law_due" (defArgs s_L_due) (defBody s_L_due) (defScope s_L_due) .none kV11 dc11 pm11 an11 cd11 ct11), pp_L_due, []⟩
  let F12 : FnI := ⟨(PySem.W.fnOf "_law_take" "_law_take" (defArgs s_L_take) (defBody s_L_take) (defScope s_L_take) .none kV12 dc12 pm12 an12 cd12 ct12), pp_L_take, []⟩
  let F13 : FnI := ⟨(PySem.W.fnOf "_law_thing" "_law_thing" (defArgs s_L_thing) (defBody s_L_thing) (defScope s_L_thing) .none kV13 dc13 pm13 an13 cd13 ct13), pp_L_thing, []⟩
  let F14 : FnI := ⟨(PySem.W.fnOf "_law_is_block" "_law_is_block" (defArgs s_L_is_block) (defBody s_L_is_block) (defScope s_L_is_block) .none kV14 dc14 pm14 an14 cd14 ct14), pp_L_is_block, []⟩
  let F15 : FnI := ⟨(PySem.W.fnOf "is_integer" "is_integer" (defArgs s_is_integer) (defBody s_is_integer) (defScope s_is_integer) .none kV15 dc15 pm15 an15 cd15 ct15), pp_is_integer, []⟩
  let F16 : FnI := ⟨(PySem.W.fnOf "is_number" "is_number" (defArgs s_is_number) (defBody s_is_number) (defScope s_is_number) .none kV16 dc16 pm16 an16 cd16 ct16), pp_is_number, []⟩
  let F17 : FnI := ⟨(PySem.W.fnOf "block_text" "block_text" (defArgs s_block_text) (defBody s_block_text) (defScope s_block_text) .none kV17 dc17 pm17 an17 cd17 ct17), pp_block_text, []⟩
  let FI : Nat → FnI := fun i => [F0, F1, F2, F3, F4, F5, F6, F7, F8, F9, F10, F11, F12, F13, F14, F15, F16, F17].getD i F0
  let G : Gd := ⟨K, fun c => [c0].getD c 0, fun i => [a0, a1, a2, a3, a4, a5, a6, a7, a8, a9, a10, a11, a12, a13, a14, a15, a16, a17].getD i 0, fun f => stat.fnm.getD f Str.empty, stat.fnm.length, tab, [(PP5, (envOfC "_law_asked" (defScope s_L_asked) 0 0 cd5).qual ++ "<lambda>")], [(cc5, PP5)], fun j => [X0].getD j 0⟩
  have bd0 : ∀ (s : Shared) (us : List Value), us.length = 1 → Bd s F0 ⟨us, []⟩ us := fun s us hl => match us, hl with | [_], _ => .of_eq rfl
  have dv0 : ∀ ρ H, ∃ vs, RepL G ρ H f_law.dflt vs ∧ Vals vs F0.dv := no_dflt
  have dv1 : ∀ ρ H, ∃ vs, RepL G ρ H f_Pieces_init.dflt vs ∧ Vals vs F1.dv := tup0_dflt (G := G) v1_0 w1_0 o1_0
  have bd2 : ∀ (s : Shared) (us : List Value), us.length = 2 → Bd s F2 ⟨us, []⟩ us := fun s us hl => match us, hl with | [_, _], _ => .of_eq rfl
  have dv2 : ∀ ρ H, ∃ vs, RepL G ρ H f_Pieces_eq.dflt vs ∧ Vals vs F2.dv := no_dflt
  have bd3 : ∀ (s : Shared) (us : List Value), us.length = 1 → Bd s F3 ⟨us, []⟩ us := fun s us hl => match us, hl with | [_], _ => .of_eq rfl
  have dv3 : ∀ ρ H, ∃ vs, RepL G ρ H f_Pieces_str.dflt vs ∧ Vals vs F3.dv := no_dflt
  have bd4 : ∀ (s : Shared) (us : List Value), us.length = 1 → Bd s F4 ⟨us, []⟩ us := fun s us hl => match us, hl with | [_], _ => .of_eq rfl
  have dv4 : ∀ ρ H, ∃ vs, RepL G ρ H f_Pieces_repr.dflt vs ∧ Vals vs F4.dv := no_dflt
  have bd5 : ∀ (s : Shared) (us : List Value), us.length = 1 → Bd s F5 ⟨us, []⟩ us := fun s us hl => match us, hl with | [_], _ => .of_eq rfl
  have dv5 : ∀ ρ H, ∃ vs, RepL G ρ H f_L_asked.dflt vs ∧ Vals vs F5.dv := no_dflt
  have bd6 : ∀ (s : Shared) (us : List Value), us.length = 1 → Bd s F6 ⟨us, []⟩ us := fun s us hl => match us, hl with | [_], _ => .of_eq rfl
  have dv6 : ∀ ρ H, ∃ vs, RepL G ρ H f_L_right.dflt vs ∧ Vals vs F6.dv := no_dflt
  have bd7 : ∀ (s : Shared) (us : List Value), us.length = 2 → Bd s F7 ⟨us, []⟩ us := fun s us hl => match us, hl with | [_, _], _ => .of_eq rfl
  have dv7 : ∀ ρ H, ∃ vs, RepL G ρ H f_L_purse.dflt vs ∧ Vals vs F7.dv := no_dflt
  have bd8 : ∀ (s : Shared) (us : List Value), us.length = 1 → Bd s F8 ⟨us, []⟩ us := fun s us hl => match us, hl with | [_], _ => .of_eq rfl
  have dv8 : ∀ ρ H, ∃ vs, RepL G ρ H f_is_block.dflt vs ∧ Vals vs F8.dv := no_dflt
  have bd9 : ∀ (s : Shared) (us : List Value), us.length = 1 → Bd s F9 ⟨us, []⟩ us := fun s us hl => match us, hl with | [_], _ => .of_eq rfl
  have dv9 : ∀ ρ H, ∃ vs, RepL G ρ H f_merged.dflt vs ∧ Vals vs F9.dv := no_dflt
  have bd10 : ∀ (s : Shared) (us : List Value), us.length = 1 → Bd s F10 ⟨us, []⟩ us := fun s us hl => match us, hl with | [_], _ => .of_eq rfl
  have dv10 : ∀ ρ H, ∃ vs, RepL G ρ H f_set_text.dflt vs ∧ Vals vs F10.dv := no_dflt
  have bd11 : ∀ (s : Shared) (us : List Value), us.length = 1 → Bd s F11 ⟨us, []⟩ us := fun s us hl => match us, hl with | [_], _ => .of_eq rfl
  have dv11 : ∀ ρ H, ∃ vs, RepL G ρ H f_L_due.dflt vs ∧ Vals vs F11.dv := no_dflt
  have bd12 : ∀ (s : Shared) (us : List Value), us.length = 2 → Bd s F12 ⟨us, []⟩ us := fun s us hl => match us, hl with | [_, _], _ => .of_eq rfl
  have dv12 : ∀ ρ H, ∃ vs, RepL G ρ H f_L_take.dflt vs ∧ Vals vs F12.dv := no_dflt
  have bd13 : ∀ (s : Shared) (us : List Value), us.length = 1 → Bd s F13 ⟨us, []⟩ us := fun s us hl => match us, hl with | [_], _ => .of_eq rfl
  have dv13 : ∀ ρ H, ∃ vs, RepL G ρ H f_L_thing.dflt vs ∧ Vals vs F13.dv := no_dflt
  have bd14 : ∀ (s : Shared) (us : List Value), us.length = 1 → Bd s F14 ⟨us, []⟩ us := fun s us hl => match us, hl with | [_], _ => .of_eq rfl
  have dv14 : ∀ ρ H, ∃ vs, RepL G ρ H f_L_is_block.dflt vs ∧ Vals vs F14.dv := no_dflt
  have bd15 : ∀ (s : Shared) (us : List Value), us.length = 1 → Bd s F15 ⟨us, []⟩ us := fun s us hl => match us, hl with | [_], _ => .of_eq rfl
  have dv15 : ∀ ρ H, ∃ vs, RepL G ρ H f_is_integer.dflt vs ∧ Vals vs F15.dv := no_dflt
  have bd16 : ∀ (s : Shared) (us : List Value), us.length = 1 → Bd s F16 ⟨us, []⟩ us := fun s us hl => match us, hl with | [_], _ => .of_eq rfl
  have dv16 : ∀ ρ H, ∃ vs, RepL G ρ H f_is_number.dflt vs ∧ Vals vs F16.dv := no_dflt
  have bd17 : ∀ (s : Shared) (us : List Value), us.length = 1 → Bd s F17 ⟨us, []⟩ us := fun s us hl => match us, hl with | [_], _ => .of_eq rfl
  have dv17 : ∀ ρ H, ∃ vs, RepL G ρ H f_block_text.dflt vs ∧ Vals vs F17.dv := no_dflt
  have xf0 : XcF K X0 XI0 "index" := xcf_mk (a := "self") (b := "index") (st := inClass (top 8) 0) X0_l X0_m X0_sa X0_eC X0_tC X0_kC X0_no X0_iC X0_tI X0_li X0_ci rfl (by decide +kernel) (by decide +kernel) (fun us hl => match us, hl with | [_, _], _ => rfl)
  have catF : CatF K mg := ⟨⟨PySem.W.mg_none_of X Gn zb_isinstance, PySem.W.mg_none_of X Gn zb_ValueError, PySem.W.mg_none_of X Gn zb_LookupError, zsta, _, _, _, _, _, _, _, _, _, _, _, _, _, posAt zp_st, PySem.W.mg_of X Gn zst_g, zst_k, (by rw [← zt_st, ← zs_st]; exact zst_l), zst_c, .all (fun us hl => match us, hl with | [_], _ => rfl), by decide +kernel⟩, PySem.W.mg_none_of X Gn zb_repr, ⟨XW, PySem.W.mg_of X Gn XW_g⟩,
    zcta, _, _, _, _, _, _, _, _, _, _, _, _, _, posAt zp_ct, PySem.W.mg_of X Gn zct_g, zct_k, (by rw [← zt_ct, ← zs_ct]; exact zct_l), zct_c, .all (fun us hl => match us, hl with | [_], _ => rfl)⟩
  have ef0 : ErrF K mg X0 "index" 3 := errf_mk 3 rfl (by decide) X0_ga X0_gg X0_eC X0_hd X0_ha hn tk X0_hm (And.intro ⟨_, PySem.W.mg_of X Gn XE0_g, (kit_cc XD0_0 XC0 XE0_t XS0_0)⟩ (And.intro ⟨_, PySem.W.mg_of X Gn XE1_g, (kit_cc XD0_1 XC1 XE1_t XS0_1)⟩ (And.intro ⟨_, PySem.W.mg_of X Gn XE2_g, (kit_cc XD0_2 XC2 XE2_t XS0_2)⟩ (And.intro ⟨_, PySem.W.mg_of X Gn X0_g, kit_self⟩ (And.intro ⟨_, PySem.W.mg_of X Gn XE4_g, (kit_cc XD0_4 XC4 XE4_t XS0_4)⟩ (And.intro ⟨_, PySem.W.mg_of X Gn XE5_g, (kit_cc XD0_5 XC5 XE5_t XS0_5)⟩ (And.intro ⟨_, PySem.W.mg_of X Gn XE6_g, (kit_cc XD0_6 XC6 XE6_t XS0_6)⟩ (And.intro ⟨_, PySem.W.mg_of X Gn XE7_g, (kit_cc XD0_7 XC7 XE7_t XS0_7)⟩ trivial)))))))) X0_ve X0_le (by decide +kernel) (by decide +kernel) (by rfl) X0_no (PySem.W.mg_of X Gn XW_g) XW_s XW_h XW_t X0_w
  have errs : ErrsF G mg := fun c k h => allI0 (p := fun (c : Nat) (k : XcD) => ∃ fl, k.flds = [fl] ∧ ErrF G.K mg (G.xa c) (G.fnm fl) k.sort) (l := tab.xcs) (And.intro ⟨q_index, rfl, ef0⟩ trivial) c k h
  have glAll : AllM (GlP mg G) stat.gl := (And.intro (And.intro (PySem.W.mg_of X Gn x0) rfl) (And.intro (And.intro (PySem.W.mg_of X Gn x5) rfl) (And.intro (And.intro (PySem.W.mg_of X Gn x6) rfl) (And.intro (And.intro (PySem.W.mg_of X Gn x7) rfl) (And.intro (And.intro (PySem.W.mg_of X Gn x8) rfl) (And.intro (And.intro (PySem.W.mg_of X Gn x9) rfl) (And.intro (And.intro (PySem.W.mg_of X Gn x10) rfl) (And.intro (And.intro (PySem.W.mg_of X Gn x11) rfl) (And.intro (And.intro (PySem.W.mg_of X Gn x12) rfl) (And.intro (And.intro (PySem.W.mg_of X Gn x13) rfl) (And.intro (And.intro (PySem.W.mg_of X Gn x14) rfl) (And.intro (And.intro (PySem.W.mg_of X Gn x15) rfl) (And.intro (And.intro (PySem.W.mg_of X Gn x16) rfl) (And.intro (And.intro (PySem.W.mg_of X Gn x17) rfl) (And.intro (PySem.W.mg_of X Gn C0) (And.intro ⟨(PySem.W.mg_of X Gn X0_g), ⟨[q_index], 3⟩, q_index, XI0, rfl, rfl, xf0⟩ trivial))))))))))))))))
  have blAll : AllM (fun x => mg x = none) stat.bl := (And.intro (PySem.W.mg_none_of X Gn B0) (And.intro (PySem.W.mg_none_of X Gn B1) (And.intro (PySem.W.mg_none_of X Gn B2) (And.intro (PySem.W.mg_none_of X Gn B3) (And.intro (PySem.W.mg_none_of X Gn B4) (And.intro (PySem.W.mg_none_of X Gn B5) (And.intro (PySem.W.mg_none_of X Gn B6) (And.intro (PySem.W.mg_none_of X Gn B7) (And.intro (PySem.W.mg_none_of X Gn B8) (And.intro (PySem.W.mg_none_of X Gn B9) (And.intro (PySem.W.mg_none_of X Gn B10) (And.intro (PySem.W.mg_none_of X Gn B11) (And.intro (PySem.W.mg_none_of X Gn B12) (And.intro (PySem.W.mg_none_of X Gn B13) (And.intro (PySem.W.mg_none_of X Gn B14) (And.intro (PySem.W.mg_none_of X Gn B15) trivial))))))))))))))))
  have sh0 : Shape G F1 f_Pieces_init 2 [] [] := fun s us hk hl => match us, hl with | [zz0, zz1], _ => ⟨[zz0, zz1], rfl, BindsTo.of_defaults rfl (hk _ _ t1) u1 rfl rfl⟩
  have sh1 : Shape G F5 f_L_asked 1 [] [] := shape0 rfl bd5
  have sh2 : Shape G F6 f_L_right 1 [] [] := shape0 rfl bd6
  have sh3 : Shape G F7 f_L_purse 2 [] [] := shape0 rfl bd7
  have sh4 : Shape G F8 f_is_block 1 [] [] := shape0 rfl bd8
  have sh5 : Shape G F9 f_merged 1 [] [] := shape0 rfl bd9
  have sh6 : Shape G F10 f_set_text 1 [] [] := shape0 rfl bd10
  have sh7 : Shape G F11 f_L_due 1 [] [] := shape0 rfl bd11
  have sh8 : Shape G F1 f_Pieces_init 2 [1] ["blocks"] := fun s us hk hl => match us, hl with | [zz0, zz1], _ => ⟨[zz0, zz1], rfl, BindsTo.of_defaults rfl (hk _ _ t1) u1 rfl rfl⟩
  have sh9 : Shape G F12 f_L_take 2 [] [] := shape0 rfl bd12
  have sh10 : Shape G F13 f_L_thing 1 [] [] := shape0 rfl bd13
  have sh11 : Shape G F14 f_L_is_block 1 [] [] := shape0 rfl bd14
  have sh12 : Shape G F15 f_is_integer 1 [] [] := shape0 rfl bd15
  have sh13 : Shape G F16 f_is_number 1 [] [] := shape0 rfl bd16
  have sh14 : Shape G F17 f_block_text 1 [] [] := shape0 rfl bd17
  have shAll : AllM (fun e : Nat × Nat × List Nat × List Str => ∃ f, G.T.fns[e.1]? = some f ∧ Shape G (FI e.1) f e.2.1 e.2.2.1 e.2.2.2) stat.shp := (And.intro ⟨f_Pieces_init, rfl, sh0⟩ (And.intro ⟨f_L_asked, rfl, sh1⟩ (And.intro ⟨f_L_right, rfl, sh2⟩ (And.intro ⟨f_L_purse, rfl, sh3⟩ (And.intro ⟨f_is_block, rfl, sh4⟩ (And.intro ⟨f_merged, rfl, sh5⟩ (And.intro ⟨f_set_text, rfl, sh6⟩ (And.intro ⟨f_L_due, rfl, sh7⟩ (And.intro ⟨f_Pieces_init, rfl, sh8⟩ (And.intro ⟨f_L_take, rfl, sh9⟩ (And.intro ⟨f_L_thing, rfl, sh10⟩ (And.intro ⟨f_L_is_block, rfl, sh11⟩ (And.intro ⟨f_is_integer, rfl, sh12⟩ (And.intro ⟨f_is_number, rfl, sh13⟩ (And.intro ⟨f_block_text, rfl, sh14⟩ trivial)))))))))))))))
  have mkAll : AllM (fun c : Nat => ∃ k, G.T.cls[c]? = some k ∧ Mk G.K (G.ca c) (G.fa k.init)) stat.mks := (And.intro ⟨k_Pieces, rfl, ⟨Cmk0, x1, y1, Ckp0⟩⟩ trivial)
  have mthAll : AllM (fun e : Nat × Str × Nat => (∀ (c : Nat) (k : ClsD), G.T.cls[c]? = some k → k.meths.lookup e.1 = some e.2.2 → Meth G.K (G.ca c) e.2.1 (G.fa e.2.2)) ∧ (∀ (c : Nat) (k : ClsD), G.T.cls[c]? = some k → ∀ g', k.meths.lookup e.1 = some g' → g' = e.2.2) ∧
    ∀ (c : Nat) (k : ClsD), G.T.cls[c]? = some k → k.meths.lookup e.1 = some e.2.2 → ∀ q ∈ k.flds, (e.2.1 == G.fnm q) = false) stat.mth := trivial
  have smAll : AllM (fun e : Str × Str × Nat × Nat => SMeth G.K (G.ca e.2.2.1) e.2.1 (G.fa e.2.2.2)) stat.sm := trivial
  have cf0 : CF G 0 k_Pieces :=
    { ic := Cic0, mo := Cmo0
      kt := fun a m => allM_mem (p := fun a => PySem.W.kitOne K (.type a) (.ref c0) = some false) (l := ["NoneType", "bool", "int", "str", "tuple", "list", "dict"]) (And.intro (kit_tc Ccl0 Cty0 Ckt0_NoneType) (And.intro (kit_tc Ccl0 Cty0 Ckt0_bool) (And.intro (kit_tc Ccl0 Cty0 Ckt0_int) (And.intro (kit_tc Ccl0 Cty0 Ckt0_str) (And.intro (kit_tc Ccl0 Cty0 Ckt0_tuple) (And.intro (kit_tc Ccl0 Cty0 Ckt0_list) (And.intro (kit_tc Ccl0 Cty0 Ckt0_dict) trivial))))))) m
      kf := fun a m => allM_mem (p := fun a => PySem.W.kitOne K (.ref c0) (.type a) = some false) (l := ["int", "bool", "str", "tuple", "list"]) (And.intro (kit_ct (by decide +kernel) Ckf0_int) (And.intro (kit_ct (by decide +kernel) Ckf0_bool) (And.intro (kit_ct (by decide +kernel) Ckf0_str) (And.intro (kit_ct (by decide +kernel) Ckf0_tuple) (And.intro (kit_ct (by decide +kernel) Ckf0_list) trivial))))) m
      kc := fun c' h => match c', h with | 0, _ => kit_self | n + 1, h => absurd (show n + 1 < 1 from h) (by omega)
      nb1 := fun a m => allM_mem (p := fun a => PySem.W.notFirst K c0 (.type a) = true) (l := ["NoneType", "bool", "int", "str", "tuple", "list", "dict"]) (And.intro Cnb0_NoneType (And.intro Cnb0_bool (And.intro Cnb0_int (And.intro Cnb0_str (And.intro Cnb0_tuple (And.intro Cnb0_list (And.intro Cnb0_dict trivial))))))) m
      nb2 := fun c' h => match c', h with | 0, _ => Cnc0_0 | n + 1, h => absurd (show n + 1 < 1 from h) (by omega)
      cl := ⟨Cpg0, Chd0, Cpo0, Csa0⟩, nb := Cbo0, nl := Cle0
      nf := fun f m => allM_mem (p := fun f => NoAttr K c0 (stat.fnm.getD f Str.empty)) (l := k_Pieces.flds) (And.intro Cf0_1 trivial) m }
  have ow0 : Own G FI 0 k_Pieces :=
    { eq := fun f h => (by cases h; exact ⟨⟨f_Pieces_eq, rfl⟩, bd2, x2, y2, Cne0⟩)
      bop := fun op f h => match op, f, h with | .add, f, h => (by cases h) | .sub, f, h => (by cases h) | .mul, f, h => (by cases h) | .fdiv, f, h => (by cases h) | .mod, f, h => (by cases h) | .pow, f, h => (by cases h) | .or_, f, h => (by cases h) | .and_, f, h => (by cases h)
      inn := fun f h => (by cases h)
      str := fun f h => (by cases h; exact ⟨⟨f_Pieces_str, rfl⟩, bd3, x3, y3⟩)
      rpr := fun f h => (by cases h; exact ⟨⟨f_Pieces_repr, rfl⟩, bd4, x4, y4⟩)
      prop := fun f g h => allM_mem (x := (f, g)) (p := fun e : Nat × Nat => (∃ fd, G.T.fns[e.2]? = some fd) ∧ (∀ (s : Shared) (us : List Value), us.length = 1 → Bd s (FI e.2) ⟨us, []⟩ us) ∧ ∃ p, PropOf G.K (G.ca 0) (G.fnm e.1) p (G.fa e.2)) (l := k_Pieces.props) trivial (mem_lk h) }
  have clAll : AllI (fun c k => CF G c k ∧ Own G FI c k) 0 G.T.cls := (And.intro (And.intro cf0 ow0) trivial)
  have df0 : DefOk G stat 0 F0 f_law := def_ok rfl l0 e0 k0_ d_law dv0 (fun h => nomatch h)
  have df1 : DefOk G stat 1 F1 f_Pieces_init := def_ok rfl l1 e1 k1_ d_Pieces_init dv1 (fun h => nomatch h)
  have df2 : DefOk G stat 2 F2 f_Pieces_eq := def_ok rfl l2 e2 k2_ d_Pieces_eq dv2 (fun h => nomatch h)
  have df3 : DefOk G stat 3 F3 f_Pieces_str := def_ok rfl l3 e3 k3_ d_Pieces_str dv3 (fun h => nomatch h)
  have df4 : DefOk G stat 4 F4 f_Pieces_repr := def_ok rfl l4 e4 k4_ d_Pieces_repr dv4 (fun h => nomatch h)
  have df5 : DefOk G stat 5 F5 f_L_asked := def_ok rfl l5 e5 k5_ d_L_asked dv5 (fun _ => ⟨cc5, PP5, Lc5, List.mem_cons_self, List.mem_cons_self, fun q hq he => (allM_mem (p := fun q : Addr × Str => q.1 = PP5 → q.2 = (envOfC "_law_asked" (defScope s_L_asked) 0 0 cd5).qual ++ "<lambda>") (l := G.tabs) (And.intro (fun _ => rfl) trivial) hq) he⟩)
  have df6 : DefOk G stat 6 F6 f_L_right := def_ok rfl l6 e6 k6_ d_L_right dv6 (fun h => nomatch h)
  have df7 : DefOk G stat 7 F7 f_L_purse := def_ok rfl l7 e7 k7_ d_L_purse dv7 (fun h => nomatch h)
  have df8 : DefOk G stat 8 F8 f_is_block := def_ok rfl l8 e8 k8_ d_is_block dv8 (fun h => nomatch h)
  have df9 : DefOk G stat 9 F9 f_merged := def_ok rfl l9 e9 k9_ d_merged dv9 (fun h => nomatch h)
  have df10 : DefOk G stat 10 F10 f_set_text := def_ok rfl l10 e10 k10_ d_set_text dv10 (fun h => nomatch h)
  have df11 : DefOk G stat 11 F11 f_L_due := def_ok rfl l11 e11 k11_ d_L_due dv11 (fun h => nomatch h)
  have df12 : DefOk G stat 12 F12 f_L_take := def_ok rfl l12 e12 k12_ d_L_take dv12 (fun h => nomatch h)
  have df13 : DefOk G stat 13 F13 f_L_thing := def_ok rfl l13 e13 k13_ d_L_thing dv13 (fun h => nomatch h)
  have df14 : DefOk G stat 14 F14 f_L_is_block := def_ok rfl l14 e14 k14_ d_L_is_block dv14 (fun h => nomatch h)
  have df15 : DefOk G stat 15 F15 f_is_integer := def_ok rfl l15 e15 k15_ d_is_integer dv15 (fun h => nomatch h)
  have df16 : DefOk G stat 16 F16 f_is_number := def_ok rfl l16 e16 k16_ d_is_number dv16 (fun h => nomatch h)
  have df17 : DefOk G stat 17 F17 f_block_text := def_ok rfl l17 e17 k17_ d_block_text dv17 (fun h => nomatch h)
  have dfAll : AllI (fun i f => DefOk G stat i (FI i) f) 0 G.T.fns := (And.intro df0 (And.intro df1 (And.intro df2 (And.intro df3 (And.intro df4 (And.intro df5 (And.intro df6 (And.intro df7 (And.intro df8 (And.intro df9 (And.intro df10 (And.intro df11 (And.intro df12 (And.intro df13 (And.intro df14 (And.intro df15 (And.intro df16 (And.intro df17 trivial))))))))))))))))))
  refine ⟨G, stat, FI, ⟨rfl, rfl, ⟨rfl, names_nm, fun x i h => ?_, fun x c h => glp_get glAll h, fun x g h => glp_get glAll h, fun x m => (allM_mem blAll m :), fun e m => (allM_mem shAll m :), fun c m => (allM_mem mkAll m :), fun e m => (allM_mem mthAll m :), fun e m => (allM_mem smAll m :), fun _ => ⟨catF, errs⟩, fun x c h => glp_get glAll h, fun c k h => (allI0 clAll c k h).1, fun c k h => (allI0 clAll c k h).2, hn, tk, names_inj nmOk, fun c k h f m => flds_of flOk c k h f m, fun i f h => allI0 dfAll i f h⟩, hlaw, ⟨f_law, rfl⟩, fun s u => bd0 s [u] rfl, fun p h => allM_mem (p := fun p : Addr × Str => ∃ q ∈ G.cods, q.2 = p.1) (l := G.tabs) (And.intro ⟨(cc5, PP5), List.mem_cons_self, rfl⟩ trivial) h⟩, fun p hm => allM_mem (p := fun p : Addr × Addr => TabAt K h p) (l := G.cods) (And.intro (tabAt_of TT X x5 l5 Lc5 Lr5 Lp5 Ln5 Ld5) trivial) hm⟩
  have q := glp_get glAll h
  exact ⟨q.1, Option.isSome_iff_exists.mp q.2⟩
end Dn

set_option Elab.async false
set_option linter.all false
/-! M05: what is in both, what is in the first alone; counts. -/
namespace M02
def mx (i j : Int) : Int := if j > i then j else i
def mn (i j : Int) : Int := if j < i then j else i
def prs (B C : List Bk) : List Bk := B.flatMap fun b => C.map fun c => (mx b.1 c.1, mn b.2 c.2)
def shr (B C : List Bk) : List Bk := (prs B C).filter fun p => decide (p.1 < p.2)
def gp (s : Int) : List Bk → Int → List Bk
  | [], e => [(s, e)]
  | c :: r, e => (s, c.1) :: gp c.2 r e
def gps (b : Bk) (C : List Bk) : List Bk := (gp b.1 (shr [b] C) b.2).filter fun p => decide (p.1 < p.2)
def lck (B C : List Bk) : List Bk := B.flatMap fun b => gps b C
def hol : List Bk → List Bk
  | a :: b :: r => (a.2, b.1) :: hol (b :: r)
  | _ => []
theorem mem_prs {B C : List Bk} {x : Bk} : x ∈ prs B C ↔ ∃ b ∈ B, ∃ c ∈ C, x = (mx b.1 c.1, mn b.2 c.2) := by
  unfold prs
  simp only [List.mem_flatMap, List.mem_map]
  constructor
  · rintro ⟨b, hb, c, hc, rfl⟩; exact ⟨b, hb, c, hc, rfl⟩
  · rintro ⟨b, hb, c, hc, rfl⟩; exact ⟨b, hb, c, hc, rfl⟩
theorem mx_le {i j p : Int} : mx i j ≤ p ↔ i ≤ p ∧ j ≤ p := by unfold mx; split <;> omega
theorem lt_mn {i j p : Int} : p < mn i j ↔ p < i ∧ p < j := by unfold mn; split <;> omega
theorem shr_cov {B C : List Bk} {p : Int} : cov (shr B C) p ↔ cov B p ∧ cov C p := by
  unfold cov shr
  constructor
  · rintro ⟨x, hx, h1, h2⟩
    rw [List.mem_filter] at hx
    obtain ⟨b, hb, c, hc, rfl⟩ := mem_prs.mp hx.1
    have h1 := mx_le.mp h1
    have h2 := lt_mn.mp h2
    exact ⟨⟨b, hb, h1.1, h2.1⟩, ⟨c, hc, h1.2, h2.2⟩⟩
  · rintro ⟨⟨b, hb, h1, h2⟩, ⟨c, hc, h3, h4⟩⟩
    have a1 : mx b.1 c.1 ≤ p := mx_le.mpr ⟨h1, h3⟩
    have a2 : p < mn b.2 c.2 := lt_mn.mpr ⟨h2, h4⟩
    exact ⟨(mx b.1 c.1, mn b.2 c.2), List.mem_filter.mpr ⟨mem_prs.mpr ⟨b, hb, c, hc, rfl⟩, decide_eq_true (by show mx b.1 c.1 < mn b.2 c.2; omega)⟩, a1, a2⟩
theorem shr_pos {B C : List Bk} : ∀ x ∈ shr B C, x.1 < x.2 := fun x hx => of_decide_eq_true (List.mem_filter.mp hx).2
theorem shr_len {B C : List Bk} : (shr B C).length ≤ B.length * C.length := by
  unfold shr prs
  refine Nat.le_trans (List.length_filter_le _ _) ?_
  induction B with
  | nil => simp
  | cons b B ih =>
    rw [List.flatMap_cons, List.length_append, List.length_map, List.length_cons, Nat.succ_mul]
    omega
theorem shr_in {b : Bk} {C : List Bk} : ∀ x ∈ shr [b] C, b.1 ≤ x.1 ∧ x.2 ≤ b.2 := fun x hx => by
  obtain ⟨b', hb, c, hc, rfl⟩ := mem_prs.mp (List.mem_filter.mp hx).1
  rw [List.mem_singleton] at hb
  subst hb
  have h1 := mx_le.mp (Int.le_refl (mx b'.1 c.1))
  refine ⟨h1.1, ?_⟩
  show mn b'.2 c.2 ≤ b'.2
  unfold mn; split <;> omega
theorem shr_gap {b : Bk} {C : List Bk} (h : C.Pairwise (fun a b => a.2 < b.1)) : (shr [b] C).Pairwise (fun a b => a.2 < b.1) := by
  unfold shr prs
  refine List.Pairwise.filter _ ?_
  rw [List.flatMap_cons, List.flatMap_nil, List.append_nil, List.pairwise_map]
  refine h.imp fun {a c} q => ?_
  show mn b.2 a.2 < mx b.1 c.1
  unfold mn mx
  split <;> split <;> omega
theorem gp_cov {p : Int} : ∀ (C : List Bk) (s e : Int), s ≤ e → (∀ c ∈ C, s ≤ c.1 ∧ c.1 < c.2 ∧ c.2 ≤ e) → C.Pairwise (fun a b => a.2 < b.1) → (cov (gp s C e) p ↔ s ≤ p ∧ p < e ∧ ¬ cov C p)
  | [], s, e, _, _, _ => by simp [gp, cov]
  | c :: r, s, e, h0, h1, h2 => by
    obtain ⟨g1, g2⟩ := List.pairwise_cons.mp h2
    obtain ⟨a1, a2, a3⟩ := h1 c List.mem_cons_self
    have ih := gp_cov (p := p) r c.2 e a3 (fun x hx => ⟨Int.le_of_lt (g1 x hx), (h1 x (List.mem_cons_of_mem _ hx)).2⟩) g2
    have cc : ∀ (a : Bk) (l : List Bk), cov (a :: l) p ↔ (a.1 ≤ p ∧ p < a.2) ∨ cov l p := fun a l => by simp [cov]
    rw [gp, cc, ih, cc]
    have far : cov r p → c.2 < p + 1 := fun ⟨x, hx, q1, q2⟩ => by have := g1 x hx; omega
    constructor
    · rintro (⟨q1, q2⟩ | ⟨q1, q2, q3⟩)
      · refine ⟨q1, by simp only at q2; omega, ?_⟩
        rintro (⟨z1, z2⟩ | z)
        · simp only at q2; omega
        · have := far z; simp only at q2; omega
      · refine ⟨by omega, q2, ?_⟩
        rintro (⟨z1, z2⟩ | z)
        · omega
        · exact q3 z
    · rintro ⟨q1, q2, q3⟩
      by_cases z : p < c.1
      · exact .inl ⟨q1, z⟩
      · refine .inr ⟨?_, q2, fun y => q3 (.inr y)⟩
        by_cases w : p < c.2
        · exact absurd (.inl ⟨by omega, w⟩) q3
        · omega
theorem cov_filter {l : List Bk} {p : Int} : cov (l.filter fun x => decide (x.1 < x.2)) p ↔ cov l p := by
  unfold cov
  constructor
  · rintro ⟨b, hb, h⟩; exact ⟨b, (List.mem_filter.mp hb).1, h⟩
  · rintro ⟨b, hb, h1, h2⟩; exact ⟨b, List.mem_filter.mpr ⟨hb, decide_eq_true (by omega)⟩, h1, h2⟩
theorem gps_cov {b : Bk} {C : List Bk} {p : Int} (hb : b.1 < b.2) (hc : C.Pairwise (fun a b => a.2 < b.1)) : cov (gps b C) p ↔ (b.1 ≤ p ∧ p < b.2) ∧ ¬ cov C p := by
  unfold gps
  rw [cov_filter, gp_cov _ _ _ (by omega) (fun x hx => ⟨(shr_in x hx).1, shr_pos x hx, (shr_in x hx).2⟩) (shr_gap hc), shr_cov]
  have : cov [b] p ↔ b.1 ≤ p ∧ p < b.2 := by simp [cov]
  rw [this]
  constructor
  · rintro ⟨h1, h2, h3⟩; exact ⟨⟨h1, h2⟩, fun q => h3 ⟨⟨h1, h2⟩, q⟩⟩
  · rintro ⟨⟨h1, h2⟩, h3⟩; exact ⟨h1, h2, fun q => h3 q.2⟩
theorem lck_cov {B C : List Bk} {p : Int} (hB : ∀ b ∈ B, b.1 < b.2) (hc : C.Pairwise (fun a b => a.2 < b.1)) : cov (lck B C) p ↔ cov B p ∧ ¬ cov C p := by
  have key : cov (lck B C) p ↔ ∃ b ∈ B, cov (gps b C) p := by
    unfold lck cov
    constructor
    · rintro ⟨x, hx, h⟩
      obtain ⟨b, hb, hx⟩ := List.mem_flatMap.mp hx
      exact ⟨b, hb, x, hx, h⟩
    · rintro ⟨b, hb, x, hx, h⟩
      exact ⟨x, List.mem_flatMap.mpr ⟨b, hb, hx⟩, h⟩
  rw [key]
  constructor
  · rintro ⟨b, hb, h⟩
    obtain ⟨h1, h2⟩ := (gps_cov (hB b hb) hc).mp h
    exact ⟨⟨b, hb, h1⟩, h2⟩
  · rintro ⟨⟨b, hb, h1⟩, h2⟩
    exact ⟨b, hb, (gps_cov (hB b hb) hc).mpr ⟨h1, h2⟩⟩
theorem lck_pos {B C : List Bk} : ∀ x ∈ lck B C, x.1 < x.2 := fun x hx => by
  obtain ⟨b, _, hx⟩ := List.mem_flatMap.mp hx
  exact of_decide_eq_true (List.mem_filter.mp hx).2
theorem gp_len : ∀ (C : List Bk) (s e : Int), (gp s C e).length = C.length + 1
  | [], _, _ => rfl
  | c :: r, s, e => by rw [gp, List.length_cons, gp_len r, List.length_cons]
theorem lck_len {B C : List Bk} : (lck B C).length ≤ B.length * (C.length + 1) := by
  induction B with
  | nil => simp [lck]
  | cons b B ih =>
    have h1 : (gps b C).length ≤ C.length + 1 := by
      unfold gps
      refine Nat.le_trans (List.length_filter_le _ _) ?_
      rw [gp_len]
      have := shr_len (B := [b]) (C := C)
      simp at this
      omega
    show (gps b C ++ lck B C).length ≤ _
    rw [List.length_append, List.length_cons, Nat.succ_mul]
    omega
theorem nil_cov {B : List Bk} (h : ∀ b ∈ B, b.1 < b.2) : B = [] ↔ ∀ p, ¬ cov B p := by
  constructor
  · rintro rfl p ⟨b, hb, _⟩; cases hb
  · intro q
    cases B with
    | nil => rfl
    | cons b B => exact absurd ⟨b, List.mem_cons_self, Int.le_refl _, h b List.mem_cons_self⟩ (q b.1)
/-! holes -/
theorem hol_len : ∀ B : List Bk, (hol B).length ≤ B.length
  | [] => Nat.le_refl _
  | [_] => Nat.zero_le _
  | a :: b :: r => by have := hol_len (b :: r); simp only [hol, List.length_cons] at this ⊢; omega
theorem hol_mem : ∀ {B : List Bk}, Can B → ∀ x ∈ hol B, x.1 < x.2 ∧ (∃ b ∈ B, x.1 = b.2) ∧ ∃ b ∈ B, x.2 = b.1
  | [], _, x, hx => by cases hx
  | [_], _, x, hx => by cases hx
  | a :: b :: r, h, x, hx => by
    obtain ⟨g1, g2⟩ := List.pairwise_cons.mp h.gap
    rcases List.mem_cons.mp hx with rfl | hx
    · exact ⟨g1 b List.mem_cons_self, ⟨a, List.mem_cons_self, rfl⟩, ⟨b, List.mem_cons_of_mem _ List.mem_cons_self, rfl⟩⟩
    · obtain ⟨h1, ⟨y, hy, e1⟩, ⟨z, hz, e2⟩⟩ := hol_mem (B := b :: r) ⟨fun x hx => h.pos x (List.mem_cons_of_mem _ hx), g2⟩ x hx
      exact ⟨h1, ⟨y, List.mem_cons_of_mem _ hy, e1⟩, ⟨z, List.mem_cons_of_mem _ hz, e2⟩⟩
theorem can_ge {b : Bk} {r : List Bk} {p : Int} (h : Can (b :: r)) (q : cov (b :: r) p) : b.1 ≤ p := by
  obtain ⟨g1, _⟩ := List.pairwise_cons.mp h.gap
  obtain ⟨x, hx, h1, _⟩ := q
  rcases List.mem_cons.mp hx with rfl | hx
  · exact h1
  · have := g1 x hx
    have := h.pos b List.mem_cons_self
    omega
/-- what is missing between the least and the greatest -/
theorem hol_cov {p : Int} : ∀ {B : List Bk}, Can B → (cov (hol B) p ↔ ¬ cov B p ∧ (∃ x, cov B x ∧ x ≤ p) ∧ ∃ y, cov B y ∧ p ≤ y)
  | [], _ => by simp [hol, cov]
  | [a], h => by
    have hp := h.pos a List.mem_cons_self
    simp only [hol]
    constructor
    · rintro ⟨b, hb, _⟩; cases hb
    · rintro ⟨h1, ⟨x, ⟨b, hb, h2, h3⟩, h4⟩, ⟨y, ⟨c, hc, h5, h6⟩, h7⟩⟩
      rw [List.mem_singleton] at hb hc
      subst hb; subst hc
      exact absurd ⟨_, List.mem_cons_self, by omega, by omega⟩ h1
  | a :: b :: r, h => by
    obtain ⟨g1, g2⟩ := List.pairwise_cons.mp h.gap
    have hb : Can (b :: r) := ⟨fun x hx => h.pos x (List.mem_cons_of_mem _ hx), g2⟩
    have ih := hol_cov (p := p) hb
    have cc : ∀ (a : Bk) (l : List Bk) (p : Int), cov (a :: l) p ↔ (a.1 ≤ p ∧ p < a.2) ∨ cov l p := fun a l p => by simp [cov]
    have ha := h.pos a List.mem_cons_self
    have hbp := h.pos b (List.mem_cons_of_mem _ List.mem_cons_self)
    have gab := g1 b List.mem_cons_self
    rw [hol, cc, ih]
    constructor
    · rintro (⟨q1, q2⟩ | ⟨q1, ⟨x, q2, q3⟩, ⟨y, q4, q5⟩⟩)
      · simp only at q1 q2
        refine ⟨?_, ⟨a.1, (cc _ _ _).mpr (.inl ⟨Int.le_refl _, ha⟩), by omega⟩, ⟨b.1, (cc _ _ _).mpr (.inr ((cc _ _ _).mpr (.inl ⟨Int.le_refl _, hbp⟩))), by omega⟩⟩
        intro z
        rcases (cc _ _ _).mp z with z | z
        · omega
        · have := can_ge hb z; omega
      · have := can_ge hb q2
        refine ⟨?_, ⟨x, (cc _ _ _).mpr (.inr q2), q3⟩, ⟨y, (cc _ _ _).mpr (.inr q4), q5⟩⟩
        intro z
        rcases (cc _ _ _).mp z with z | z
        · omega
        · exact q1 z
    · rintro ⟨q1, ⟨x, q2, q3⟩, ⟨y, q4, q5⟩⟩
      have n1 : ¬ (a.1 ≤ p ∧ p < a.2) := fun z => q1 ((cc _ _ _).mpr (.inl z))
      have n2 : ¬ cov (b :: r) p := fun z => q1 ((cc _ _ _).mpr (.inr z))
      have xa := can_ge h q2
      by_cases z : p < b.1
      · exact .inl ⟨by show a.2 ≤ p; omega, z⟩
      · refine .inr ⟨n2, ⟨b.1, (cc _ _ _).mpr (.inl ⟨Int.le_refl _, hbp⟩), by omega⟩, ?_⟩
        rcases (cc _ _ _).mp q4 with q4 | q4
        · omega
        · exact ⟨y, q4, q5⟩
/-! counts -/
theorem filter_two {l : List Int} {q : Int → Bool} : (l.filter q).length + (l.filter fun x => !q x).length = l.length := by
  induction l with
  | nil => rfl
  | cons x l ih =>
    simp only [List.filter_cons, List.length_cons]
    cases q x <;> simp <;> omega
theorem nodup_le {l m : List Int} (h : l.Nodup) (s : ∀ x ∈ l, x ∈ m) : l.length ≤ m.length := by
  induction l generalizing m with
  | nil => exact Nat.zero_le _
  | cons x l ih =>
    obtain ⟨h1, h2⟩ := List.nodup_cons.mp h
    have hx := s x List.mem_cons_self
    have := ih (m := m.erase x) h2 fun y hy => by
      have hne : y ≠ x := fun e => h1 (e ▸ hy)
      exact (List.mem_erase_of_ne hne).mpr (s y (List.mem_cons_of_mem _ hy))
    rw [List.length_erase_of_mem hx] at this
    have := List.length_pos_of_mem hx
    rw [List.length_cons]
    omega
theorem can_pts {B : List Bk} : (∀ b ∈ B, b.1 < b.2) → B.length ≤ (pts B).length := by
  induction B with
  | nil => intro _; exact Nat.zero_le _
  | cons b B ih =>
    intro h
    have := ih fun x hx => h x (List.mem_cons_of_mem _ hx)
    have hb := h b List.mem_cons_self
    show _ ≤ (rng b.1 b.2 ++ pts B).length
    have := rng_len hb
    rw [List.length_append, List.length_cons]
    omega
end M02

set_option Elab.async false
set_option linter.all false
/-! M06: the stretches between neighbouring points. -/
namespace M02
def push (l : List Bk) (a b : Int) : List Bk := match l.getLast? with
  | some c => if c.2 = a then l.dropLast ++ [(c.1, b)] else l ++ [(a, b)]
  | none => [(a, b)]
def stp (P : Nat → Int) (T : Nat → Bool) (k : Nat) (l : List Bk) : List Bk := if T k = true ∧ P k < P (k + 1) then push l (P k) (P (k + 1)) else l
def fnd (P : Nat → Int) (T : Nat → Bool) : Nat → List Bk
  | 0 => []
  | k + 1 => stp P T k (fnd P T k)
theorem cov_cons {a : Bk} {l : List Bk} {p : Int} : cov (a :: l) p ↔ (a.1 ≤ p ∧ p < a.2) ∨ cov l p := by simp [cov]
theorem cov_one {a : Bk} {p : Int} : cov [a] p ↔ a.1 ≤ p ∧ p < a.2 := by simp [cov]
theorem cov_app' {l m : List Bk} {p : Int} : cov (l ++ m) p ↔ cov l p ∨ cov m p := by
  unfold cov
  constructor
  · rintro ⟨b, hb, h⟩
    rcases List.mem_append.mp hb with hb | hb
    · exact .inl ⟨b, hb, h⟩
    · exact .inr ⟨b, hb, h⟩
  · rintro (⟨b, hb, h⟩ | ⟨b, hb, h⟩)
    · exact ⟨b, List.mem_append_left _ hb, h⟩
    · exact ⟨b, List.mem_append_right _ hb, h⟩
theorem split_last {l : List Bk} {c : Bk} (h : l.getLast? = some c) : l = l.dropLast ++ [c] := by
  obtain ⟨ys, rfl⟩ := List.getLast?_eq_some_iff.mp h
  simp
theorem push_ok {l : List Bk} {a b : Int} (h : Can l) (he : ∀ x ∈ l, x.2 ≤ a) (hab : a < b) : Can (push l a b) ∧ (∀ x ∈ push l a b, x.2 ≤ b) ∧ (∀ p, cov (push l a b) p ↔ cov l p ∨ (a ≤ p ∧ p < b)) ∧ (push l a b).length ≤ l.length + 1 := by
  unfold push
  cases hl : l.getLast? with
  | none =>
    have e : l = [] := List.getLast?_eq_none_iff.mp hl
    subst e
    refine ⟨⟨fun x hx => ?_, ?_⟩, fun x hx => ?_, fun p => ?_, by simp⟩
    · rw [List.mem_singleton] at hx; subst hx; exact hab
    · simp
    · rw [List.mem_singleton] at hx; subst hx; exact Int.le_refl _
    · rw [cov_one]; simp [cov]
  | some c =>
    have e := split_last hl
    generalize l.dropLast = d at e
    have hc : c ∈ l := by rw [e]; simp
    have gp := h.gap
    rw [e] at gp
    obtain ⟨g1, g2, g3⟩ := List.pairwise_append.mp gp
    have cp := h.pos c hc
    have ce := he c hc
    dsimp only
    split
    · rename_i q
      refine ⟨⟨fun x hx => ?_, ?_⟩, fun x hx => ?_, fun p => ?_, ?_⟩
      · rcases List.mem_append.mp hx with hx | hx
        · exact h.pos x (by rw [e]; exact List.mem_append_left _ hx)
        · rw [List.mem_singleton] at hx; subst hx; show c.1 < b; omega
      · refine List.pairwise_append.mpr ⟨g1, by simp, fun x hx y hy => ?_⟩
        rw [List.mem_singleton] at hy; subst hy
        exact g3 x hx c (by simp)
      · rcases List.mem_append.mp hx with hx | hx
        · have := he x (by rw [e]; exact List.mem_append_left _ hx); omega
        · rw [List.mem_singleton] at hx; subst hx; exact Int.le_refl _
      · rw [e, cov_app', cov_app', cov_one, cov_one]
        show (cov d p ∨ c.1 ≤ p ∧ p < b) ↔ _
        by_cases z : cov d p
        · simp [z]
        · simp only [z, false_or]; omega
      · rw [e]; simp
    · rename_i q
      refine ⟨⟨fun x hx => ?_, ?_⟩, fun x hx => ?_, fun p => ?_, by simp⟩
      · rcases List.mem_append.mp hx with hx | hx
        · exact h.pos x hx
        · rw [List.mem_singleton] at hx; subst hx; exact hab
      · refine List.pairwise_append.mpr ⟨h.gap, by simp, fun x hx y hy => ?_⟩
        rw [List.mem_singleton] at hy; subst hy
        rw [e] at hx
        rcases List.mem_append.mp hx with hx | hx
        · have := g3 x hx c (by simp); show x.2 < a; omega
        · rw [List.mem_singleton] at hx; subst hx; show x.2 < a; omega
      · rcases List.mem_append.mp hx with hx | hx
        · have := he x hx; omega
        · rw [List.mem_singleton] at hx; subst hx; exact Int.le_refl _
      · rw [cov_app', cov_one]
theorem fnd_ok {P : Nat → Int} {T : Nat → Bool} : ∀ (n : Nat), (∀ j, j < n → P j ≤ P (j + 1)) → Can (fnd P T n) ∧ (∀ x ∈ fnd P T n, x.2 ≤ P n) ∧ (∀ p, cov (fnd P T n) p ↔ ∃ j, j < n ∧ T j = true ∧ P j ≤ p ∧ p < P (j + 1)) ∧ (fnd P T n).length ≤ n
  | 0, _ => ⟨⟨fun _ h => (by cases h), List.Pairwise.nil⟩, fun _ h => (by cases h), fun p => ⟨fun ⟨_, h, _⟩ => (by cases h), fun ⟨_, h, _⟩ => absurd h (Nat.not_lt_zero _)⟩, Nat.le_refl _⟩
  | n + 1, hm => by
    obtain ⟨h1, h2, h3, h4⟩ := fnd_ok (P := P) (T := T) n fun j hj => hm j (by omega)
    have hn := hm n (by omega)
    have lt : ∀ p, (∃ j, j < n + 1 ∧ T j = true ∧ P j ≤ p ∧ p < P (j + 1)) ↔ (∃ j, j < n ∧ T j = true ∧ P j ≤ p ∧ p < P (j + 1)) ∨ (T n = true ∧ P n ≤ p ∧ p < P (n + 1)) := fun p => by
      constructor
      · rintro ⟨j, hj, q⟩
        by_cases e : j = n
        · subst e; exact .inr q
        · exact .inl ⟨j, by omega, q⟩
      · rintro (⟨j, hj, q⟩ | q)
        · exact ⟨j, by omega, q⟩
        · exact ⟨n, by omega, q⟩
    show Can (stp P T n (fnd P T n)) ∧ (∀ x ∈ stp P T n (fnd P T n), x.2 ≤ P (n + 1)) ∧ (∀ p, cov (stp P T n (fnd P T n)) p ↔ _) ∧ (stp P T n (fnd P T n)).length ≤ n + 1
    unfold stp
    split
    · rename_i q
      obtain ⟨a1, a2, a3, a4⟩ := push_ok h1 h2 q.2
      refine ⟨a1, a2, fun p => ?_, by omega⟩
      rw [a3, h3, lt]
      simp [q.1]
    · rename_i q
      refine ⟨h1, fun x hx => by have := h2 x hx; omega, fun p => ?_, by omega⟩
      rw [h3, lt]
      constructor
      · exact .inl
      · rintro (z | ⟨z1, z2, z3⟩)
        · exact z
        · exact absurd ⟨z1, by omega⟩ q
/-- the stretch of a piece -/
theorem stretch {P : Nat → Int} {p : Int} : ∀ (d i : Nat), P i ≤ p → p < P (i + d) → ∃ j, i ≤ j ∧ j < i + d ∧ P j ≤ p ∧ p < P (j + 1)
  | 0, i, h1, h2 => absurd h2 (by show ¬ p < P i; omega)
  | d + 1, i, h1, h2 => by
    by_cases q : p < P (i + 1)
    · exact ⟨i, Nat.le_refl _, by omega, h1, q⟩
    · obtain ⟨j, a, b, c⟩ := stretch (P := P) (p := p) d (i + 1) (by omega) (by rw [show i + 1 + d = i + (d + 1) by omega]; exact h2)
      exact ⟨j, by omega, by omega, c⟩
theorem mono_le {P : Nat → Int} {n : Nat} (hm : ∀ j, j < n → P j ≤ P (j + 1)) : ∀ (d i : Nat), i + d ≤ n → P i ≤ P (i + d)
  | 0, i, _ => Int.le_refl _
  | d + 1, i, h => by
    have h1 := mono_le hm d i (by omega)
    have h2 := hm (i + d) (by omega)
    rw [show i + (d + 1) = i + d + 1 by omega]
    omega
/-- a row is the same all along a stretch -/
theorem const {P : Nat → Int} {n : Nat} {l : List Bk} (hm : ∀ j, j < n → P j ≤ P (j + 1)) (he : ∀ b ∈ l, (∃ i, i ≤ n ∧ P i = b.1) ∧ ∃ i, i ≤ n ∧ P i = b.2) {j : Nat} (hj : j < n) {p : Int} (h1 : P j ≤ p) (h2 : p < P (j + 1)) : cov l p ↔ cov l (P j) := by
  have nb : ∀ i, i ≤ n → P i ≤ P j ∨ P (j + 1) ≤ P i := fun i hi => by
    by_cases q : i ≤ j
    · left
      have := mono_le hm (j - i) i (by omega)
      rwa [show i + (j - i) = j by omega] at this
    · right
      have := mono_le hm (i - (j + 1)) (j + 1) (by omega)
      rwa [show j + 1 + (i - (j + 1)) = i by omega] at this
  constructor
  · rintro ⟨b, hb, h3, h4⟩
    obtain ⟨⟨i, hi, e1⟩, _⟩ := he b hb
    have := nb i hi
    exact ⟨b, hb, by omega, by omega⟩
  · rintro ⟨b, hb, h3, h4⟩
    obtain ⟨_, i, hi, e2⟩ := he b hb
    have := nb i hi
    exact ⟨b, hb, by omega, by omega⟩
/-- the joined stretches are the set -/
theorem joined_cov {P : Nat → Int} {T : Nat → Bool} {n : Nat} {S : Int → Prop} (hm : ∀ j, j < n → P j ≤ P (j + 1)) (hT : ∀ j, j < n → (T j = true ↔ S (P j))) (hc : ∀ j, j < n → ∀ p, P j ≤ p → p < P (j + 1) → (S p ↔ S (P j)))
    (hb : ∀ p, S p → ∃ i i', i ≤ n ∧ i' ≤ n ∧ P i ≤ p ∧ p < P i') (p : Int) : cov (fnd P T n) p ↔ S p := by
  rw [(fnd_ok n hm).2.2.1]
  constructor
  · rintro ⟨j, hj, h1, h2, h3⟩
    exact (hc j hj p h2 h3).mpr ((hT j hj).mp h1)
  · intro h
    obtain ⟨i, i', hi, hi', h1, h2⟩ := hb p h
    have lt : i < i' := by
      by_cases q : i < i'
      · exact q
      · have := mono_le hm (i - i') i' (by omega)
        rw [show i' + (i - i') = i by omega] at this
        omega
    obtain ⟨j, a, b, c, d⟩ := stretch (P := P) (p := p) (i' - i) i h1 (by rw [show i + (i' - i) = i' by omega]; exact h2)
    have hj : j < n := by omega
    exact ⟨j, hj, (hT j hj).mpr ((hc j hj p c d).mp h), c, d⟩
theorem hol_can : ∀ {B : List Bk}, Can B → Can (hol B)
  | [], _ => ⟨fun _ h => (by cases h), List.Pairwise.nil⟩
  | [_], _ => ⟨fun _ h => (by cases h), List.Pairwise.nil⟩
  | a :: b :: r, h => by
    obtain ⟨g1, g2⟩ := List.pairwise_cons.mp h.gap
    have hb : Can (b :: r) := ⟨fun x hx => h.pos x (List.mem_cons_of_mem _ hx), g2⟩
    have ih := hol_can hb
    refine ⟨fun x hx => (hol_mem h x hx).1, List.pairwise_cons.mpr ⟨fun x hx => ?_, ih.gap⟩⟩
    obtain ⟨a1, ⟨y, hy, e⟩, _⟩ := hol_mem hb x hx
    have bp := hb.pos b List.mem_cons_self
    rcases List.mem_cons.mp hy with rfl | hy
    · show _ < x.1; omega
    · have := (List.pairwise_cons.mp g2).1 y hy
      have := hb.pos y (List.mem_cons_of_mem _ hy)
      show b.1 < x.1; omega
end M02

set_option Elab.async false
set_option linter.all false
set_option maxRecDepth 100000
set_option maxHeartbeats 4000000
namespace Dn
open PySem L2 M02
/-! GB: what every law of the program may use. -/
/-! ### what the defs compute -/
@[simp] theorem bopOf_non {T : Tab} {op : Bop} : bopOf T op .non = none := rfl
@[simp] theorem bopOf_bl {T : Tab} {op : Bop} {b : Bool} : bopOf T op (.bl b) = none := rfl
@[simp] theorem bopOf_int {T : Tab} {op : Bop} {i : Int} : bopOf T op (.int i) = none := rfl
@[simp] theorem bopOf_str {T : Tab} {op : Bop} {s : Str} : bopOf T op (.str s) = none := rfl
@[simp] theorem bopOf_tup {T : Tab} {op : Bop} {l : List D} : bopOf T op (.tup l) = none := rfl
@[simp] theorem bopOf_lst {T : Tab} {op : Bop} {l : List D} : bopOf T op (.lst l) = none := rfl
@[simp] theorem bopOf_ro {T : Tab} {op : Bop} {l : List D} : bopOf T op (.ro l) = none := rfl
@[simp] theorem bopOf_cell {T : Tab} {op : Bop} {n : Nat} : bopOf T op (.cell n) = none := rfl
def pr (b : Bk) : D := .tup [.int b.1, .int b.2]
abbrev cf (k : Nat) := callF tab 1000 k
abbrev Ck (k : Nat) : Cfg := ⟨tab, callF tab 1000 k, 1000, callX tab 1000 k⟩
def Wf (M : Mem) : Prop := M.all (mbelow 0) = true
mutual
theorem below_up {m n : Nat} (h : m ≤ n) : ∀ (d : D), below m d = true → below n d = true
  | .tup l, b => by simp only [below] at b ⊢; exact belowL_up h l b
  | .lst l, b => by simp only [below] at b ⊢; exact belowL_up h l b
  | .ro l, b => by simp only [below] at b ⊢; exact belowL_up h l b
  | .obj _ l, b => by simp only [below] at b ⊢; exact belowL_up h l b
  | .cell i, b => by simp only [below, decide_eq_true_eq] at b ⊢; omega
  | .non, _ => rfl
  | .bl _, _ => rfl
  | .int _, _ => rfl
  | .str _, _ => rfl
  | .emp, _ => rfl
  | .dkt _ _, _ => rfl
theorem belowL_up {m n : Nat} (h : m ≤ n) : ∀ (l : List D), belowL m l = true → belowL n l = true
  | [], _ => rfl
  | x :: r, b => by
    simp only [belowL, Bool.and_eq_true] at b ⊢
    exact ⟨below_up h x b.1, belowL_up h r b.2⟩
end
theorem mbelow_up {n : Nat} {o : MO} (h : mbelow 0 o = true) : mbelow n o = true := by
  cases o with
  | lst l => exact belowL_up (Nat.zero_le _) l h
  | ins c fs => exact belowL_up (Nat.zero_le _) _ h
theorem Wf.all {M : Mem} (h : Wf M) (n k : Nat) : (M.take k).all (mbelow n) = true := by
  rw [List.all_eq_true]
  intro o ho
  exact mbelow_up (List.all_eq_true.mp h o (List.mem_of_mem_take ho))
theorem Wf.app {M : Mem} {o : MO} (h : Wf M) (ho : mbelow 0 o = true) : Wf (M ++ [o]) := by
  unfold Wf at h ⊢
  rw [List.all_append, h]
  simp [ho]
theorem Wf.set {M : Mem} {o : MO} (h : Wf M) (n : Nat) (ho : mbelow 0 o = true) : Wf (M.set n o) := by
  unfold Wf at h ⊢
  rw [List.all_eq_true] at h ⊢
  intro x hx
  rcases List.mem_or_eq_of_mem_set hx with hx | rfl
  · exact h x hx
  · exact ho
theorem belowL_pr : ∀ (l : List Bk) (n : Nat), belowL n (l.map pr) = true
  | [], _ => rfl
  | b :: l, n => by
    simp only [List.map_cons, belowL, pr, below, Bool.true_and, belowL_pr l n]
theorem below_row (l : List Bk) (n : Nat) : below n (.tup (l.map pr)) = true := by simp only [below]; exact belowL_pr l n
/-- a def without cells of its own -/
theorem exit_same {d : D} {M : Mem} : exitF M.length d M = some (d, M) := if_pos rfl
def fin (kp : Bool) (n : Nat) (r : Fl) (M' : Mem) : Rs D := match outOf r with
  | none => none
  | some d => if kp = true then some (d, M') else exitF n d M'
theorem call_eq {k i : Nat} {f : FnD} {xs : List D} {M : Mem} (hf : tab.fns[i]? = some f) (hx : xs.length = f.np) :
    callC (Ck (k + 1)) i [] xs M = bnd (evS (Ck k) f.body (xs.map some ++ List.replicate (f.ns - f.np) none) M) fun r M' => fin f.keep M.length r M' := by
  unfold callC argsC
  show (match (match tab.fns[i]? with | some g => arr g.np g.dflt [] xs | none => none) with | some ys => callF tab 1000 (k + 1) i ys M | none => none) = _
  rw [hf]
  simp only
  rw [arr_full hx]
  simp only [callF, hf, runF, if_pos hx]
  rfl
theorem cf_eq {k i : Nat} {f : FnD} {xs : List D} {M : Mem} (hf : tab.fns[i]? = some f) (hx : xs.length = f.np) :
    callF tab 1000 (k + 1) i xs M = bnd (evS (Ck k) f.body (xs.map some ++ List.replicate (f.ns - f.np) none) M) fun r M' => fin f.keep M.length r M' := by
  simp only [callF, hf, runF, if_pos hx]
  rfl
@[simp] theorem fin_rt {n : Nat} {d : D} {M' : Mem} : fin false n (.rt d) M' = exitF n d M' := rfl
@[simp] theorem fin_rtk {n : Nat} {d : D} {M' : Mem} : fin true n (.rt d) M' = some (d, M') := rfl
@[simp] theorem fin_nx {n : Nat} {s : En} {M' : Mem} : fin false n (.nx s) M' = exitF n .non M' := rfl
@[simp] theorem exit_same' {d : D} {M : Mem} : exitF M.length d M = some (d, M) := exit_same
theorem is_integer_i {k : Nat} {M : Mem} {i : Int} : callC (Ck (k + 1)) i_is_integer [] [.int i] M = some (.bl true, M) := by
  rw [call_eq (f := f_is_integer) rfl rfl]
  simp [f_is_integer, b_is_integer, evS, ev, isinOk, isinD, truD]
theorem is_number_i {k : Nat} {M : Mem} {i : Int} : callC (Ck (k + 2)) i_is_number [] [.int i] M = some (.bl (decide (0 ≤ i)), M) := by
  rw [call_eq (f := f_is_number) rfl rfl]
  simp [f_is_number, b_is_number, evS, ev, evs, truD, is_integer_i, cmpC, cmpD, leD]
theorem is_block_p {k : Nat} {M : Mem} {b : Bk} (h0 : 0 ≤ b.1) (h1 : b.1 < b.2) : callC (Ck (k + 3)) i_is_block [] [pr b] M = some (.bl true, M) := by
  rw [call_eq (f := f_is_block) rfl rfl]
  have at0 : atD [D.int b.1, D.int b.2] 0 = some (.int b.1) := rfl
  have at1 : atD [D.int b.1, D.int b.2] 1 = some (.int b.2) := rfl
  simp [f_is_block, b_is_block, evS, ev, evs, truD, pr, isinOk, isinD, bltC, bltD, lenB, seqD, cmpC, cmpD, eqfOf, eqD, toPy, derefD, PyData.depth, PyData.eqv, idxD, at0, at1, is_number_i, is_integer_i (k := k + 1), h0, h1, ltD]
/-! ### merged -/
theorem atD_last (l : List D) (x : D) : atD (l ++ [x]) (-1) = some x := by
  unfold atD L2.atI L2.ixN
  have h : -(((l ++ [x]).length : Nat) : Int) ≤ -1 := by rw [List.length_append, List.length_singleton]; omega
  rw [if_neg (by decide), if_pos h, Option.bind_some, show (-1 + (((l ++ [x]).length : Nat) : Int)).toNat = l.length by rw [List.length_append, List.length_singleton]; omega]
  simp
theorem ixN_last (n : Nat) : L2.ixN (n + 1) (-1) = some n := by
  unfold L2.ixN
  rw [if_neg (by decide), if_pos (by omega)]
  congr 1
  omega
theorem pairs_pr : ∀ l : List Bk, pairsD (l.map pr) = some l
  | [] => rfl
  | b :: l => by
    show (pairsD (l.map pr)).map ((b.1, b.2) :: ·) = _
    rw [pairs_pr l]; rfl
theorem sort_pr (l : List Bk) : sortD (l.map pr) = some ((sortP l).map pr) := by
  unfold sortD
  cases l with
  | nil => rfl
  | cons b l =>
    have : intsD ((b :: l).map pr) = none := rfl
    rw [this]
    simp only [pairs_pr]
    rfl
theorem sortP_len : ∀ l : List Bk, (sortP l).length = l.length := by
  have ins : ∀ (x : Bk) (l : List Bk), (insP x l).length = l.length + 1 := by
    intro x l
    induction l with
    | nil => rfl
    | cons y l ih =>
      simp only [insP]
      split
      · simp [ih]
      · simp
  intro l
  induction l with
  | nil => rfl
  | cons x l ih => simp only [sortP, ins, ih, List.length_cons]
def Val (l : List Bk) : Prop := ∀ b ∈ l, 0 ≤ b.1 ∧ b.1 < b.2
/-! ### the merged row is canonical and has the same pieces -/
theorem mem_insP {x b : Bk} : ∀ {l : List Bk}, b ∈ insP x l ↔ b = x ∨ b ∈ l
  | [] => by simp [insP]
  | y :: l => by
    simp only [insP]
    split
    · rw [List.mem_cons, mem_insP, List.mem_cons]
      constructor
      · rintro (h | h | h)
        · exact .inr (.inl h)
        · exact .inl h
        · exact .inr (.inr h)
      · rintro (h | h | h)
        · exact .inr (.inl h)
        · exact .inl h
        · exact .inr (.inr h)
    · simp
theorem mem_sortP {b : Bk} : ∀ {l : List Bk}, b ∈ sortP l ↔ b ∈ l
  | [] => by simp [sortP]
  | x :: l => by rw [sortP, mem_insP, mem_sortP, List.mem_cons]
theorem insP_le {x : Bk} : ∀ {l : List Bk}, l.Pairwise (fun a b => a.1 ≤ b.1) → (insP x l).Pairwise (fun a b => a.1 ≤ b.1)
  | [], _ => by simp [insP]
  | y :: l, h => by
    obtain ⟨h1, h2⟩ := List.pairwise_cons.mp h
    simp only [insP]
    split
    · rename_i q
      refine List.pairwise_cons.mpr ⟨fun b hb => ?_, insP_le h2⟩
      rcases mem_insP.mp hb with rfl | hb
      · unfold ltP at q
        split at q
        · omega
        · have := of_decide_eq_true q; omega
      · exact h1 b hb
    · rename_i q
      refine List.pairwise_cons.mpr ⟨fun b hb => ?_, h⟩
      have q1 : x.1 ≤ y.1 := by
        unfold ltP at q
        split at q
        · omega
        · simp only [decide_eq_true_eq] at q; omega
      rcases List.mem_cons.mp hb with rfl | hb
      · exact q1
      · exact Int.le_trans q1 (h1 b hb)
theorem sortP_le : ∀ (l : List Bk), (sortP l).Pairwise (fun a b => a.1 ≤ b.1)
  | [] => List.Pairwise.nil
  | x :: l => insP_le (sortP_le l)
/-! ### texts -/
def Sml (l : List Bk) : Prop := ∀ b ∈ l, 0 ≤ b.1 ∧ b.1 < b.2 ∧ b.2 < 10 ^ 45
theorem Sml.val {l : List Bk} (h : Sml l) : Val l := fun b hb => ⟨(h b hb).1, (h b hb).2.1⟩
theorem sml_log {i : Int} (h0 : 0 ≤ i) (h1 : i < 10 ^ 45) : i.natAbs.log2 < 1920 := by
  refine log_lt ?_
  have h2 : (10 : Nat) ^ 45 < 2 ^ 1920 := by decide +kernel
  have h3 : i.natAbs < 10 ^ 45 := by omega
  exact Nat.lt_trans h3 h2
theorem toStr_le {i : Int} (h : i.natAbs.log2 < 1920) : (toStr i).length ≤ 1921 := PyProof.Rows.int_text_len_1921 h
def dash : Str := Str.ofString "-"
def txt (b : Bk) : Str := if b.2 = b.1 + 1 then toStr b.1 else toStr b.1 ++ dash ++ toStr (b.2 - 1)
theorem txt_le {b : Bk} (h0 : 0 ≤ b.1) (h1 : b.1 < b.2) (h2 : b.2 < 10 ^ 45) : (txt b).length ≤ 3843 := by
  have e1 := toStr_le (sml_log h0 (by omega))
  have e2 := toStr_le (i := b.2 - 1) (sml_log (by omega) (by omega))
  unfold txt
  split
  · omega
  · rw [strLen_append, strLen_append]
    have : dash.length = 1 := rfl
    omega
theorem emp (a : Str) : Str.empty ++ a = a := by
  show (⟨#[] ++ a.cps⟩ : Str) = a
  simp
theorem sl : sizeLine = 16777216 := rfl
theorem cat1 {a : Str} (h : a.length ≤ sizeLine) : catS [a] Str.empty = some a := by
  simp only [catS, emp, if_pos h]
theorem cat3 {a b c : Str} (h : a.length + b.length + c.length ≤ sizeLine) : catS [a, b, c] Str.empty = some (a ++ b ++ c) := by
  simp only [catS, emp]
  rw [if_pos (by omega), if_pos (by rw [strLen_append]; omega), if_pos (by rw [strLen_append, strLen_append]; omega)]
theorem block_text_ok {k : Nat} {M : Mem} {b : Bk} (h0 : 0 ≤ b.1) (h1 : b.1 < b.2) (h2 : b.2 < 10 ^ 45) : callC (Ck (k + 1)) i_block_text [] [pr b] M = some (.str (txt b), M) := by
  rw [call_eq (f := f_block_text) rfl rfl]
  have l1 : b.1.natAbs.log2 < 1920 := sml_log h0 (by omega)
  have l2 : (b.2 - 1).natAbs.log2 < 1920 := sml_log (by omega) (by omega)
  have e1 := toStr_le l1
  have e2 := toStr_le l2
  have c1 : catS [toStr b.1] Str.empty = some (toStr b.1) := cat1 (by rw [sl]; omega)
  have c3 : catS [toStr b.1, Str.ofString "-", toStr (b.2 - 1)] Str.empty = some (toStr b.1 ++ Str.ofString "-" ++ toStr (b.2 - 1)) := cat3 (by
    rw [sl]
    have : (Str.ofString "-").length = 1 := rfl
    omega)
  by_cases q : b.2 = b.1 + 1
  · simp [f_block_text, b_block_text, evS, ev, evs, asgT, asgTs, pr, cmpC, cmpD, eqfOf, eqD, toPy, derefD, PyData.depth, PyData.eqv, binC, bopOf_int, bopOf_str, bopOf_tup, bopOf_lst, binD, truD, strD, strsD, l1, c1, txt, q]
  · simp [f_block_text, b_block_text, evS, ev, evs, asgT, asgTs, pr, cmpC, cmpD, eqfOf, eqD, toPy, derefD, PyData.depth, PyData.eqv, binC, bopOf_int, bopOf_str, bopOf_tup, bopOf_lst, binD, truD, strD, strsD, l1, l2, c3, txt, q, dash]
def space : Str := Str.ofString " "
def none_ : Str := Str.ofString "none"
def line (B : List Bk) : Str := if B = [] then none_ else Txt.join space (B.map txt)
theorem strs_map (l : List Str) : strsD (l.map D.str) = some l := by
  induction l with
  | nil => rfl
  | cons x l ih => simp only [List.map_cons, strsD, ih]; rfl
theorem sum_le {l : List Str} {m : Nat} (h : ∀ y ∈ l, y.length ≤ m) : (l.map fun x => x.length).sum ≤ l.length * m := by
  induction l with
  | nil => simp
  | cons x l ih =>
    have h1 := h x List.mem_cons_self
    have h2 := ih fun y hy => h y (List.mem_cons_of_mem _ hy)
    rw [List.map_cons, List.sum_cons, List.length_cons, Nat.succ_mul]
    omega
theorem join_fits {B : List Bk} (h : Sml B) (hz : B.length ≤ 400) : ((B.map txt).map fun x => x.length).sum + (B.map txt).length * space.length ≤ 16777216 := by
  have h1 : ((B.map txt).map fun x => x.length).sum ≤ (B.map txt).length * 3843 := sum_le fun y hy => by
    obtain ⟨b, hb, rfl⟩ := List.mem_map.mp hy
    exact txt_le (h b hb).1 (h b hb).2.1 (h b hb).2.2
  have h2 : space.length = 1 := rfl
  rw [h2, List.length_map] at *
  omega
/-! ### the law's own text and blocks -/
theorem depth_strs : ∀ l : List Str, PyData.depthAll (l.map PyData.str) = 0
  | [] => rfl
  | x :: l => by simp only [List.map_cons, PyData.depthAll, PyData.depth, depth_strs l]; rfl
theorem toPyL_strs : ∀ l : List Str, toPyL (l.map D.str) = some (l.map PyData.str)
  | [] => rfl
  | x :: l => by simp only [List.map_cons, toPyL, toPy, toPyL_strs l]; rfl
theorem depth_ints : ∀ l : List Int, PyData.depthAll (l.map PyData.int) = 0
  | [] => rfl
  | x :: l => by simp only [List.map_cons, PyData.depthAll, PyData.depth, depth_ints l]; rfl
theorem toPyL_ints : ∀ l : List Int, toPyL (l.map D.int) = some (l.map PyData.int)
  | [] => rfl
  | x :: l => by simp only [List.map_cons, toPyL, toPy, toPyL_ints l]; rfl
theorem ne_nil {M : Mem} (l : List Str) : cmpD .ne (.lst (l.map D.str)) (.lst []) M = some (!l.isEmpty) := by
  have h : eqD M (.lst (l.map D.str)) (.lst []) = some l.isEmpty := by
    unfold eqD
    simp only [derefD, toPy, toPyL_strs, toPyL, Option.map_some]
    rw [if_pos ⟨by simp only [PyData.depth, depth_strs]; omega, by simp [PyData.depth, PyData.depthAll]⟩]
    cases l <;> simp [PyData.eqv, PyData.eqvAll]
  simp only [cmpD, h, Option.map_some]
theorem in_ints {M : Mem} (a : Int) (l : List Int) : inD M (.int a) (.lst (l.map D.int)) = some (decide (a ∈ l)) := by
  unfold inD
  simp only [derefD, toPy, toPyL_ints, Option.map_some]
  rw [if_pos ⟨by simp [PyData.depth], by rw [depth_ints]; omega⟩]
  congr 1
  induction l with
  | nil => rfl
  | cons x l ih =>
    rw [List.map_cons, List.any_cons, ih]
    simp only [PyData.eqv, List.mem_cons]
    by_cases q : x = a
    · subst q; simp
    · have q' : ¬ a = x := fun e => q e.symm
      simp [q, q']
theorem atD_nat (l : List D) (i : Nat) : atD l ((i : Nat) : Int) = l[i]? := by
  unfold atD L2.atI L2.ixN
  rw [if_pos (by omega)]
  by_cases h : i < l.length
  · rw [if_pos (by omega), Option.bind_some]
    rfl
  · rw [if_neg (by omega), Option.bind_none, List.getElem?_eq_none (by omega)]
/-! ### the attributes of a set -/
def firstD (B : List Bk) : D := match B with
  | [] => .non
  | b :: _ => .int b.1
def lastD (B : List Bk) : D := match B.getLast? with
  | none => .non
  | some b => .int (b.2 - 1)
theorem cOk_toStr (i : Int) : cOk (toStr i) := cOk_of _
theorem cOk_txt (b : Bk) : cOk (txt b) := by
  unfold txt
  split
  · exact cOk_toStr _
  · exact cOk_app (cOk_app (cOk_toStr _) (cOk_of _)) (cOk_toStr _)
theorem cOk_line (B : List Bk) : cOk (line B) := by
  unfold line
  split
  · exact cOk_of _
  · rw [show Txt.join space (B.map txt) = Str.join space (B.map txt) from PySem.StrLaws.glued_eq_join _ _]
    exact cOk_join (cOk_of _) fun y hy => by
      obtain ⟨b, _, rfl⟩ := List.mem_map.mp hy
      exact cOk_txt b
theorem line_le {B : List Bk} (h : Sml B) (hz : B.length ≤ 100) : (line B).length ≤ 384500 := by
  unfold line
  split
  · show none_.length ≤ _
    have : none_.length = 4 := rfl
    omega
  · show (Builtin.Str.glued space (B.map txt)).length ≤ _
    rw [PySem.size_glued]
    have h1 : ((B.map txt).map fun x => x.length).sum ≤ (B.map txt).length * 3843 := sum_le fun y hy => by
      obtain ⟨b, hb, rfl⟩ := List.mem_map.mp hy
      exact txt_le (h b hb).1 (h b hb).2.1 (h b hb).2.2
    have h2 : space.length = 1 := rfl
    rw [h2]
    rw [List.length_map] at *
    have h3 : ((B.map txt).map fun x => x.length).sum = ((B.map txt).map (·.length)).sum := rfl
    omega
theorem ok_rows : ∀ {B : List Bk}, Sml B → okL (B.map pr) = true
  | [], _ => rfl
  | b :: B, h => by
    obtain ⟨h0, h1, h2⟩ := h b List.mem_cons_self
    have l1 : b.1.natAbs.log2 < 1920 := sml_log h0 (by omega)
    have l2 : b.2.natAbs.log2 < 1920 := sml_log (by omega) h2
    simp only [List.map_cons, okL, pr, okD, l1, l2, decide_true, Bool.true_and]
    exact ok_rows fun b' hb => h b' (List.mem_cons_of_mem _ hb)
theorem sz_rows : ∀ B : List Bk, szL (B.map pr) = B.length * 3850
  | [] => rfl
  | b :: B => by
    simp only [List.map_cons, szL, pr, szD, sz_rows B, List.length_cons]
    omega
theorem dp_rows : ∀ B : List Bk, dpL (B.map pr) ≤ 1
  | [] => by simp [dpL]
  | b :: B => by
    have := dp_rows B
    simp only [List.map_cons, dpL, pr, dpD]
    omega
theorem ok_str {s : Str} (h : cOk s) : okD (.str s) = true := cOk_iff.mp h
theorem sum_small : ∀ {B : List Bk}, Sml B → B.length ≤ 100 → 0 ≤ (B.map fun b => b.2 - b.1).sum ∧ (B.map fun b => b.2 - b.1).sum < 10 ^ 45 * (B.length + 1)
  | [], _, _ => by decide
  | b :: B, h, hz => by
    obtain ⟨h0, h1, h2⟩ := h b List.mem_cons_self
    have := sum_small (B := B) (fun b' hb => h b' (List.mem_cons_of_mem _ hb)) (by simp at hz; omega)
    simp only [List.map_cons, List.sum_cons, List.length_cons]
    omega
theorem ne_nilI {M : Mem} (l : List Int) : cmpD .ne (.lst (l.map D.int)) (.lst []) M = some (!l.isEmpty) := by
  have h : eqD M (.lst (l.map D.int)) (.lst []) = some l.isEmpty := by
    unfold eqD
    simp only [derefD, toPy, toPyL_ints, toPyL, Option.map_some]
    rw [if_pos ⟨by simp only [PyData.depth, depth_ints]; omega, by simp [PyData.depth, PyData.depthAll]⟩]
    cases l <;> simp [PyData.eqv, PyData.eqvAll]
  simp only [cmpD, h, Option.map_some]
theorem atD_neg (F : List Int) (x : Int) : atD ((F ++ [x]).map D.int) (-1) = some (.int x) := by
  rw [List.map_append]
  exact atD_last _ _
theorem atD_zero (F : List Int) (x : Int) : atD ((x :: F).map D.int) 0 = some (.int x) := by
  rw [show (0 : Int) = ((0 : Nat) : Int) from rfl, atD_nat]; rfl
theorem ne_str {k : Nat} {M : Mem} (s : Str) : cmpC (Ck k) .ne (.str s) (.str s) M = some (false, M) := by
  simp only [cmpC, eqfOf, cmpD, eq_str, Option.map_some, lft_some, Bool.not_true]
theorem eq_strC {k : Nat} {M : Mem} (s : Str) : cmpC (Ck k) .eq (.str s) (.str s) M = some (true, M) := by
  simp only [cmpC, eqfOf, cmpD, eq_str, lft_some]
theorem brepr {k : Nat} {M : Mem} {l : List D} {S : Str} (h : reprD M (.lst l) = some (.str S)) : bltC (Ck k) .repr [.lst l] M = some (.str S, M) := by
  show lft (reprD M (.lst l)) M = _
  rw [h]; rfl
/-! ### the draws -/
/-- a purse's cell -/
def purse (a b c : Int) : MO := .lst [.int a, .int b, .int c]
structure PurOk (M : Mem) (n : Nat) (a b c : Int) : Prop where
  at_ : M[n]? = some (purse a b c)
  a0 : 0 ≤ a
  b0 : 0 ≤ b
  b1 : b < 2147483029
  c0 : 0 ≤ c
  c1 : c < 1000000
theorem PurOk.lt {M : Mem} {n : Nat} {a b c : Int} (h : PurOk M n a b c) : n < M.length := (List.getElem?_eq_some_iff.mp h.at_).1
theorem i3_0 : L2.ixN 3 0 = some 0 := rfl
theorem i3_1 : L2.ixN 3 1 = some 1 := rfl
theorem i3_2 : L2.ixN 3 2 = some 2 := rfl
theorem p3_0 (x y z : D) : atD [x, y, z] 0 = some x := rfl
theorem p3_1 (x y z : D) : atD [x, y, z] 1 = some y := rfl
theorem p3_2 (x y z : D) : atD [x, y, z] 2 = some z := rfl
theorem p2_0 (x y : D) : atD [x, y] 0 = some x := rfl
theorem p2_1 (x y : D) : atD [x, y] 1 = some y := rfl
theorem mul_ok {i j : Int} (h1 : -(2 ^ 64) < j) (h2 : j < 2 ^ 64) : mulOk i j = true := by
  unfold mulOk
  rw [decide_eq_true h1, decide_eq_true h2]
  simp
theorem take_ok {k : Nat} {M : Mem} {n : Nat} {a b c m : Int} (h : PurOk M n a b c) (hm : 0 < m) (hm2 : m < 1073741824) :
    ∃ d a' b', callC (Ck (k + 1)) i_L_take [] [.cell n, .int m] M = some (.int d, M.set n (purse a' b' (c + 1))) ∧ 0 ≤ d ∧ d < m ∧ 0 ≤ a' ∧ 0 ≤ b' ∧ b' < 2147483029 := by
  have hlt := h.lt
  have ha := h.at_
  unfold purse at ha
  rw [call_eq (f := f_L_take) rfl rfl]
  have ex : ∀ (x : D) (o : MO), exitF M.length x (M.set n o) = some (x, M.set n o) := fun x o => by unfold exitF; rw [if_pos (by simp)]
  have hset : ∀ o : MO, (M.set n o)[n]? = some o := fun o => List.getElem?_set_self hlt
  by_cases q : 0 < a
  · refine ⟨a % m, a / m, b, ?_, Int.emod_nonneg _ (by omega), Int.emod_lt_of_pos _ hm, Int.ediv_nonneg h.a0 (by omega), h.b0, h.b1⟩
    simp [f_L_take, b_L_take, evS, ev, evs, asgT, asgTs, setIxD, ha, hset, i3_2, i3_0, idxD, seqD, p3_2, p3_0, p3_1, binC, bopOf_int, bopOf_str, bopOf_tup, bopOf_lst, binD, cmpC, cmpD, ltD, truD, q, bltC, bltD, divmodB, hm, hm2, ex, purse]
  · have m1 : mulOk (b) 69061 = true := mul_ok (by decide) (by decide)
    have m2 : mulOk (c + 1) (c + 1) = true := mul_ok (by have := h.c0; omega) (by have := h.c1; omega)
    have m3 : mulOk ((c + 1) * (c + 1)) 7901 = true := mul_ok (by decide) (by decide)
    have m5 : ∀ x : Int, mulOk x (x % 8191 + 4099) = true := fun x => mul_ok (by have := Int.emod_nonneg x (show (8191 : Int) ≠ 0 by decide); omega) (by have := Int.emod_lt_of_pos x (show (0 : Int) < 8191 by decide); omega)
    have key : ∀ mx b' d : Int, mx = (b * 69061 + (c + 1) * (c + 1) * 7901 + 1013) % 2147483029 → b' = mx * (mx % 8191 + 4099) % 2147483029 → d = b' / 32 % m →
        (bnd (evS (Ck k) f_L_take.body ([D.cell n, D.int m].map some ++ List.replicate (f_L_take.ns - f_L_take.np) none) M) fun r M' => fin f_L_take.keep M.length r M') = some (.int d, M.set n (purse a b' (c + 1))) := by
      intro mx b' d e1 e2 e3
      subst e3
      simp [f_L_take, b_L_take, evS, ev, evs, asgT, asgTs, setIxD, ha, hset, i3_2, i3_0, i3_1, idxD, seqD, p3_2, p3_0, p3_1, binC, bopOf_int, bopOf_str, bopOf_tup, bopOf_lst, binD, cmpC, cmpD, ltD, truD, q, bltC, bltD, intB, hm, hm2, ex, m1, m2, m3, ← e1, m5, ← e2, purse]
    refine ⟨_, a, _, key _ _ _ rfl rfl rfl, Int.emod_nonneg _ (by omega), Int.emod_lt_of_pos _ hm, h.a0, Int.emod_nonneg _ (by decide), Int.emod_lt_of_pos _ (by decide)⟩
def cellI : IR := .ite (.cmp .lt (.var 1) (.blt .len (.cons (.var 0) .nil))) (.idx (.var 0) (.var 1)) (.bin .add (.bin .add (.bin .mul (.bin .mod (.blt .int_ (.cons (.blt .sum (.cons (.slice (.var 0) .nil (.cst (.int 3))) .nil)) .nil)) (.cst (.int 999983))) (.cst (.int 3571))) (.bin .mul (.bin .mul (.cst (.int 8887)) (.var 1)) (.var 1))) (.cst (.int 31)))
theorem blen_ro {k : Nat} {M : Mem} (l : List Int) : bltC (Ck k) .len [.ro (l.map D.int)] M = some (.int (l.length : Nat), M) := by
  show lft (lenB M [.ro (l.map D.int)]) M = _
  simp only [lenB, seqD, Option.map_some, lft_some, List.length_map]
theorem bsum_l {k : Nat} {M : Mem} (ys : List Int) : bltC (Ck k) .sum [.lst (ys.map D.int)] M = some (.int ys.sum, M) := by
  have iy : intsD (ys.map D.int) = some ys := by
    have := ints_of (fun i : Int => i) ys
    simpa [Function.comp_def] using this
  show lft (sumB M [.lst (ys.map D.int)]) M = _
  simp only [sumB, seqD, Option.bind_some, iy, Option.map_some, lft_some]
theorem bint_i {k : Nat} {M : Mem} (i : Int) : bltC (Ck k) .int_ [.int i] M = some (.int i, M) := rfl
theorem cut_map (ns : List Int) : ∃ ys : List Int, cutD (ns.map D.int) none (some 3) = ys.map D.int := by
  unfold cutD
  exact ⟨_, by rw [← List.map_drop, ← List.map_take]⟩
def sumI : IR := .bin .mod (.blt .int_ (.cons (.blt .sum (.cons (.slice (.var 0) .nil (.cst (.int 3))) .nil)) .nil)) (.cst (.int 999983))
theorem sum_ok {k : Nat} {M : Mem} {ns : List Int} {a b : Option D} : ∃ x, ev (Ck k) sumI [some (.ro (ns.map .int)), a, b] M = some (.int x, M) := by
  obtain ⟨ys, hys⟩ := cut_map ns
  refine ⟨ys.sum % 999983, ?_⟩
  generalize ns.map D.int = ND at hys ⊢
  simp [sumI, ev, evs, isNil, partI, sliceD, hys, bsum_l, bint_i, binC, bopOf_int, bopOf_str, bopOf_tup, bopOf_lst, binD]
def cellE (x : IR) : IR := .bin .add (.bin .add (.bin .mul x (.cst (.int 3571))) (.bin .mul (.bin .mul (.cst (.int 8887)) (.var 1)) (.var 1))) (.cst (.int 31))
theorem cell_m {J : Int} (h0 : 0 ≤ J) (h1 : J ≤ 1000) (x : Int) : mulOk x 3571 = true ∧ mulOk 8887 J = true ∧ mulOk (8887 * J) J = true :=
  ⟨mul_ok (by decide) (by decide), mul_ok (by omega) (by omega), mul_ok (by omega) (by omega)⟩
theorem cell_b {k : Nat} {M : Mem} {J x : Int} {r c : Option D} {e : IR} (h0 : 0 ≤ J) (h1 : J ≤ 1000) (hx : ev (Ck k) e [r, some (.int J), c] M = some (.int x, M)) : ev (Ck k) (cellE e) [r, some (.int J), c] M = some (.int (x * 3571 + 8887 * J * J + 31), M) := by
  obtain ⟨m1, m2, m3⟩ := cell_m h0 h1 x
  simp only [cellE, ev, hx, bnd_some, List.getElem?_cons_succ, List.getElem?_cons_zero, binC, bopOf_int, bopOf_str, bopOf_tup, bopOf_lst, binD, lft_some, m1, m2, m3, if_true]
theorem cell_ok {k : Nat} {M : Mem} {ns : List Int} {j : Nat} (hj : j ≤ 1000) : ∃ x, ev (Ck k) cellI [some (.ro (ns.map .int)), some (.int (j : Nat)), none] M = some (.int x, M) := by
  have ln := blen_ro (k := k) (M := M) ns
  obtain ⟨x, hx⟩ := sum_ok (k := k) (M := M) (ns := ns) (a := some (.int (j : Nat))) (b := none)
  have hb := cell_b (J := (j : Int)) (by omega) (by omega) hx
  have e0 : cellI = .ite (.cmp .lt (.var 1) (.blt .len (.cons (.var 0) .nil))) (.idx (.var 0) (.var 1)) (cellE sumI) := rfl
  rw [e0]
  by_cases q : j < ns.length
  · have a0 : atD (ns.map D.int) ((j : Nat) : Int) = some (.int ns[j]) := by
      rw [atD_nat, List.getElem?_map, List.getElem?_eq_getElem q]; rfl
    refine ⟨ns[j], ?_⟩
    have q' : decide (((j : Nat) : Int) < ((ns.length : Nat) : Int)) = true := decide_eq_true (by omega)
    generalize ns.map D.int = ND at a0 ln ⊢
    simp only [ev, evs, ln, cmpC, cmpD, ltD, q', truD, lft_some, bnd_some, if_true, List.getElem?_cons_zero, List.getElem?_cons_succ, idxD, seqD, Option.bind_some, a0]
  · have q' : decide (((j : Nat) : Int) < ((ns.length : Nat) : Int)) = false := decide_eq_false (by omega)
    refine ⟨x * 3571 + 8887 * (j : Int) * (j : Int) + 31, ?_⟩
    generalize ns.map D.int = ND at ln hb ⊢
    simp only [ev, evs, ln, cmpC, cmpD, ltD, q', truD, lft_some, bnd_some, if_neg Bool.false_ne_true, List.getElem?_cons_zero, List.getElem?_cons_succ]
    exact hb
theorem purse_ok {k : Nat} {M : Mem} {ns : List Int} {j : Nat} (hj : j ≤ 1000) : ∃ a b, callC (Ck (k + 1)) i_L_purse [] [.ro (ns.map .int), .int (j : Nat)] M = some (.cell M.length, M ++ [purse a b 0]) ∧ 0 ≤ a ∧ 0 ≤ b ∧ b < 2147483029 := by
  rw [call_eq (f := f_L_purse) rfl rfl]
  obtain ⟨x, e⟩ := cell_ok (k := k) (M := M) (ns := ns) hj
  have ab : 0 ≤ absI x := by unfold absI; split <;> omega
  have f3' : ∀ z : List D, fitL 3 z = some z := fun z => if_pos (by decide)
  rw [show f_L_purse.body = .seq (.asg (.v 2) cellI) (.seq (.ret (.lst true (.cons (.ite (.cmp .ge (.blt .abs (.cons (.var 2) .nil)) (.bin .pow (.cst (.int 10)) (.cst (.int 18)))) (.blt .abs (.cons (.var 2) .nil)) (.cst (.int 0))) (.cons (.bin .mod (.blt .int_ (.cons (.var 2) .nil)) (.cst (.int 2147483029))) (.cons (.cst (.int 0)) .nil))))) .nil) from rfl]
  refine ⟨if 10 ^ 18 ≤ absI x then absI x else 0, x % 2147483029, ?_, by split <;> omega, Int.emod_nonneg _ (by decide), Int.emod_lt_of_pos _ (by decide)⟩
  generalize ns.map D.int = ND at e ⊢
  have p18 : (10 : Int) ^ 18 = 1000000000000000000 := by decide
  rw [p18]
  by_cases q : (1000000000000000000 : Int) ≤ absI x
  · simp [f_L_purse, evS, ev, evs, e, asgT, bltC, bltD, absB, intB, binC, bopOf_int, bopOf_str, bopOf_tup, bopOf_lst, binD, cmpC, cmpD, leD, truD, f3', newL, purse, q]
  · simp [f_L_purse, evS, ev, evs, e, asgT, bltC, bltD, absB, intB, binC, bopOf_int, bopOf_str, bopOf_tup, bopOf_lst, binD, cmpC, cmpD, leD, truD, f3', newL, purse, q]
def Nx (M : Mem) (n : Nat) (c : Int) (M' : Mem) (c' : Int) : Prop := ∃ a' b', M' = M.set n (purse a' b' c') ∧ PurOk M' n a' b' c'
theorem set_same {M : Mem} {n : Nat} {o : MO} (h : M[n]? = some o) : M.set n o = M := by
  apply List.ext_getElem?
  intro j
  by_cases q : n = j
  · subst q
    rw [List.getElem?_set_self (List.getElem?_eq_some_iff.mp h).1, h]
  · rw [List.getElem?_set_ne q]
theorem Nx.refl {M : Mem} {n : Nat} {a b c : Int} (h : PurOk M n a b c) : Nx M n c M c := ⟨a, b, (set_same h.at_).symm, h⟩
theorem Nx.trans {M M1 M2 : Mem} {n : Nat} {c c1 c2 : Int} (x : Nx M n c M1 c1) (y : Nx M1 n c1 M2 c2) : Nx M n c M2 c2 := by
  obtain ⟨a, b, rfl, _⟩ := x
  obtain ⟨a', b', h, p⟩ := y
  exact ⟨a', b', by rw [h, List.set_set], p⟩
theorem Nx.len {M M' : Mem} {n : Nat} {c c' : Int} (x : Nx M n c M' c') : M'.length = M.length := by
  obtain ⟨_, _, rfl, _⟩ := x
  simp
theorem Nx.wf {M M' : Mem} {n : Nat} {c c' : Int} (x : Nx M n c M' c') (h : Wf M) : Wf M' := by
  obtain ⟨_, _, rfl, _⟩ := x
  exact h.set n rfl
theorem take_nx {k : Nat} {M : Mem} {n : Nat} {a b c m : Int} (h : PurOk M n a b c) (hc : c + 1 < 1000000) (hm : 0 < m) (hm2 : m < 1073741824) :
    ∃ d M', callC (Ck (k + 1)) i_L_take [] [.cell n, .int m] M = some (.int d, M') ∧ 0 ≤ d ∧ d < m ∧ Nx M n c M' (c + 1) := by
  obtain ⟨d, a', b', e, h1, h2, h3, h4, h5⟩ := take_ok (k := k) h hm hm2
  refine ⟨d, _, e, h1, h2, a', b', rfl, ⟨List.getElem?_set_self h.lt, h3, h4, h5, by have := h.c0; omega, hc⟩⟩
theorem exit_nx {M M' : Mem} {d : D} (h : M'.length = M.length) : exitF M.length d M' = some (d, M') := by
  unfold exitF
  rw [if_pos h]
def ppr (b : Bk) : PyData := .tuple [.int b.1, .int b.2]
theorem toPyL_prs : ∀ l : List Bk, toPyL (l.map pr) = some (l.map ppr)
  | [] => rfl
  | x :: l => by
    have h : toPy (pr x) = some (ppr x) := rfl
    simp only [List.map_cons, toPyL, h, toPyL_prs l]; rfl
theorem depth_ppr (b : Bk) : (ppr b).depth = 1 := by simp [ppr, PyData.depth, PyData.depthAll]
theorem depth_prs : ∀ l : List Bk, PyData.depthAll (l.map ppr) ≤ 1
  | [] => by simp [PyData.depthAll]
  | x :: l => by
    have := depth_prs l
    simp only [List.map_cons, PyData.depthAll, depth_ppr]; omega
theorem eqv_ppr (b c : Bk) : PyData.eqv (ppr b) (ppr c) = decide (b = c) := by
  obtain ⟨b1, b2⟩ := b
  obtain ⟨c1, c2⟩ := c
  by_cases q : b1 = c1 <;> by_cases q2 : b2 = c2 <;> simp [ppr, PyData.eqv, PyData.eqvAll, q, q2]
theorem eqv_prs : ∀ (l m : List Bk), PyData.eqvAll (l.map ppr) (m.map ppr) = decide (l = m)
  | [], [] => by simp [PyData.eqvAll]
  | [], _ :: _ => by simp [PyData.eqvAll]
  | _ :: _, [] => by simp [PyData.eqvAll]
  | x :: l, y :: m => by
    simp only [List.map_cons, PyData.eqvAll, eqv_ppr, eqv_prs l m]
    by_cases q : x = y <;> by_cases q2 : l = m <;> simp [q, q2]
theorem eq_prs {M : Mem} (l m : List Bk) : eqD M (.tup (l.map pr)) (.tup (m.map pr)) = some (decide (l = m)) := by
  unfold eqD
  have d1 := depth_prs l
  have d2 := depth_prs m
  simp only [derefD, toPy, toPyL_prs, Option.map_some]
  rw [if_pos ⟨by simp only [PyData.depth]; omega, by simp only [PyData.depth]; omega⟩]
  simp only [PyData.eqv, eqv_prs]
theorem lstD_l {M : Mem} (l : List D) : lstD M (.lst l) = some l := rfl
theorem Val.app {l m : List Bk} (h : Val l) (h' : Val m) : Val (l ++ m) := fun b hb => by
  rcases List.mem_append.mp hb with q | q
  · exact h b q
  · exact h' b q
theorem Val.rev {l : List Bk} (h : Val l) : Val l.reverse := fun b hb => h b (List.mem_reverse.mp hb)
def sing (F : List Int) : List Bk := F.map fun p => (p, p + 1)
theorem mg_len : ∀ (r : List Bk) (cur : Bk), (mg cur r).length ≤ r.length + 1
  | [], cur => by simp [mg]
  | x :: r, cur => by
    unfold mg
    split
    · have := mg_len r (cur.1, max cur.2 x.2)
      first
        | (simp only [List.length_cons]; omega)
        | (have h2 := mg_len r; simp only [List.length_cons]; exact Nat.le_trans (h2 _) (by omega))
    · have := mg_len r x
      simp only [List.length_cons]; omega
theorem val_one {a b : Int} (h : 0 ≤ a) (h2 : a < b) : Val [(a, b)] := fun x hx => by
  have : x = (a, b) := by simpa using hx
  subst this
  exact ⟨h, h2⟩
theorem cf_ret {k i : Nat} {f : FnD} {xs : List D} {M M' : Mem} {d : D} (hf : tab.fns[i]? = some f) (hx : xs.length = f.np) (hk : f.keep = false) (hb : evS (Ck k) f.body (xs.map some ++ List.replicate (f.ns - f.np) none) M = some (.rt d, M')) (hl : M'.length = M.length) :
    callF tab 1000 (k + 1) i xs M = some (d, M') := by
  rw [cf_eq hf hx, hb, bnd_some, hk, fin_rt]
  exact if_pos hl
theorem call_ret {k i : Nat} {f : FnD} {xs : List D} {M M' : Mem} {d : D} (hf : tab.fns[i]? = some f) (hx : xs.length = f.np) (hk : f.keep = false) (hb : evS (Ck k) f.body (xs.map some ++ List.replicate (f.ns - f.np) none) M = some (.rt d, M')) (hl : M'.length = M.length) :
    callC (Ck (k + 1)) i [] xs M = some (d, M') := by
  rw [call_eq hf hx, hb, bnd_some, hk, fin_rt]
  exact if_pos hl
theorem fit2 (z : D) : fitL 2 z = some z := if_pos (by decide)
/-! ### shared, lacking -/
theorem tuple_l {k : Nat} {M : Mem} (l : List D) : bltC (Ck k) .tuple [.lst l] M = some (.tup l, M) := rfl
theorem zipD_ints : ∀ (l m : List Int), zipD (l.map .int) (m.map .int) = (l.zip m).map pr
  | [], _ => by simp [zipD]
  | _ :: _, [] => by simp [zipD]
  | x :: l, y :: m => by
    rw [List.map_cons, List.map_cons, zipD, zipD_ints l m]; rfl
theorem add_l {k : Nat} {M : Mem} {a b : List D} (h : a.length + b.length ≤ sizeLine) : binC (Ck k) .add (.lst a) (.lst b) M = some (.lst (a ++ b), M) := by
  show lft (fitL (a.length + b.length) (D.lst (a ++ b))) M = _
  rw [fitL, if_pos h]; rfl
theorem idx0 {C : Cfg} {M : Mem} {s : En} {b : Bk} {i : Nat} (h : s[i]? = some (some (pr b))) : ev C (.idx (.var i) (.cst (.int 0))) s M = some (.int b.1, M) := by
  simp only [ev, h, bnd_some]; rfl
theorem idx1 {C : Cfg} {M : Mem} {s : En} {b : Bk} {i : Nat} (h : s[i]? = some (some (pr b))) : ev C (.idx (.var i) (.cst (.int 1))) s M = some (.int b.2, M) := by
  simp only [ev, h, bnd_some]; rfl
theorem lst1 {C : Cfg} {M : Mem} {s : En} {a : IR} {x : D} {M1 : Mem} (h : ev C a s M = some (x, M1)) : ev C (.lst false (.cons a .nil)) s M = some (.lst [x], M1) := by
  simp only [ev, evs, h, bnd_some]; rfl
theorem tup1 {C : Cfg} {M : Mem} {s : En} {a : IR} {x : D} {M1 : Mem} (h : ev C a s M = some (x, M1)) : ev C (.tup (.cons a .nil)) s M = some (.tup [x], M1) := by
  simp only [ev, evs, h, bnd_some]; rfl
/-! ### the operators -/
theorem add_t {k : Nat} {M : Mem} {a b : List D} (h : a.length + b.length ≤ sizeLine) : binC (Ck k) .add (.tup a) (.tup b) M = some (.tup (a ++ b), M) := by
  show lft (fitL (a.length + b.length) (D.tup (a ++ b))) M = _
  rw [fitL, if_pos h]; rfl
/-! the holes -/
theorem idx_row {C : Cfg} {M : Mem} {s : En} {a i : IR} {B : List Bk} {j : Nat} {b : Bk} (h : ev C a s M = some (.tup (B.map pr), M)) (hi : ev C i s M = some (.int (j : Nat), M)) (hb : B[j]? = some b) : ev C (.idx a i) s M = some (pr b, M) := by
  simp only [ev, h, hi, bnd_some, idxD, seqD, Option.bind_some, atD_nat, List.getElem?_map, hb, Option.map_some, lft_some]
theorem idx_p0 {C : Cfg} {M M1 : Mem} {s : En} {a : IR} {b : Bk} (h : ev C a s M = some (pr b, M1)) : ev C (.idx a (.cst (.int 0))) s M = some (.int b.1, M1) := by
  simp only [ev, h, bnd_some]; rfl
theorem idx_p1 {C : Cfg} {M M1 : Mem} {s : En} {a : IR} {b : Bk} (h : ev C a s M = some (pr b, M1)) : ev C (.idx a (.cst (.int 1))) s M = some (.int b.2, M1) := by
  simp only [ev, h, bnd_some]; rfl
theorem tup2 {C : Cfg} {M M1 M2 : Mem} {s : En} {a b : IR} {x y : D} (h : ev C a s M = some (x, M1)) (k : ev C b s M1 = some (y, M2)) : ev C (.tup (.cons a (.cons b .nil))) s M = some (.tup [x, y], M2) := by
  simp only [ev, evs, h, k, bnd_some]; rfl
theorem turn1 {C : Cfg} {t : Nat} {e : IR} {s : En} {x d : D} {M M1 : Mem} (ht : t < s.length) (h : ev C e (s.set t (some x)) M = some (d, M1)) : turnE C [t] false .nil e s x M = some ([d], M1) := by
  simp only [turnE, bindT, if_neg Bool.false_ne_true, setAll, if_pos ht, lft_some, bnd_some, isNil, if_true, h]
/-! more rules -/
theorem lst3 {C : Cfg} {M M1 M2 M3 : Mem} {s : En} {a b c : IR} {x y z : D} (h : ev C a s M = some (x, M1)) (h2 : ev C b s M1 = some (y, M2)) (h3 : ev C c s M2 = some (z, M3)) : ev C (.lst false (.cons a (.cons b (.cons c .nil)))) s M = some (.lst [x, y, z], M3) := by
  simp only [ev, evs, h, h2, h3, bnd_some]; rfl
theorem lst2 {C : Cfg} {M M1 M2 : Mem} {s : En} {a b : IR} {x y : D} (h : ev C a s M = some (x, M1)) (h2 : ev C b s M1 = some (y, M2)) : ev C (.lst false (.cons a (.cons b .nil))) s M = some (.lst [x, y], M2) := by
  simp only [ev, evs, h, h2, bnd_some]; rfl
theorem repr_l {C : Cfg} {M : Mem} {l : List D} {S : Str} (h : reprD M (.lst l) = some (.str S)) : bltC C .repr [.lst l] M = some (.str S, M) := by
  show lft (reprD M (.lst l)) M = _
  rw [h]; rfl
theorem e_rep_eq {C : Cfg} {M : Mem} {s : En} {a b : IR} {l : List D} (h1 : ev C a s M = some (.lst l, M)) (h2 : ev C b s M = some (.lst l, M)) (hS : ∃ S, reprD M (.lst l) = some (.str S)) : ev C (.cmp .eq (.blt .repr (.cons a .nil)) (.blt .repr (.cons b .nil))) s M = some (.bl true, M) := by
  obtain ⟨S, hS⟩ := hS
  refine e_cmp (e_blt (es_one h1) (repr_l hS)) (e_blt (es_one h2) (repr_l hS)) ?_
  simp [cmpC, eqfOf, cmpD, eqD, toPy, derefD, PyData.depth, PyData.eqv]
theorem e_rep_ne {C : Cfg} {M : Mem} {s : En} {a b : IR} {l : List D} (h1 : ev C a s M = some (.lst l, M)) (h2 : ev C b s M = some (.lst l, M)) (hS : ∃ S, reprD M (.lst l) = some (.str S)) : ev C (.cmp .ne (.blt .repr (.cons a .nil)) (.blt .repr (.cons b .nil))) s M = some (.bl false, M) := by
  obtain ⟨S, hS⟩ := hS
  refine e_cmp (e_blt (es_one h1) (repr_l hS)) (e_blt (es_one h2) (repr_l hS)) ?_
  simp [cmpC, eqfOf, cmpD, eqD, toPy, derefD, PyData.depth, PyData.eqv]
theorem len_l {C : Cfg} {M : Mem} {l : List D} : bltC C .len [.lst l] M = some (.int (l.length : Nat), M) := rfl
theorem shown3_ok {B : List Bk} (h : Sml B) (hz : B.length ≤ 100) (M : Mem) : ∃ S, reprD M (.lst [.tup (B.map pr), .int (B.map fun b => b.2 - b.1).sum, .str (line B)]) = some (.str S) := by
  have hs := sum_small h hz
  have hl := line_le h hz
  have lg : ((B.map fun b : Bk => b.2 - b.1).sum).natAbs.log2 < 1920 := by
    refine log_lt ?_
    have h2 : (10 : Nat) ^ 45 * 101 < 2 ^ 1920 := by decide +kernel
    have h3 : ((B.map fun b : Bk => b.2 - b.1).sum).natAbs ≤ 10 ^ 45 * 101 := by omega
    exact Nat.lt_of_le_of_lt h3 h2
  have c1 : okD (.str (line B)) = true := ok_str (cOk_line B)
  have ok : okD (.lst [.tup (B.map pr), .int (B.map fun b => b.2 - b.1).sum, .str (line B)]) = true := by
    simp only [okD, okL, ok_rows h, lg, decide_true, Bool.true_and, Bool.and_true]
    simp only [okD] at c1
    exact c1
  obtain ⟨p, _, e⟩ := repr_ok (M := M) ok (by
    simp only [szD, szL, sz_rows, sl]
    omega) (by
    have := dp_rows B
    simp only [dpD, dpL]
    omega)
  exact ⟨_, e⟩
theorem ne_int {k : Nat} {M : Mem} (x : Int) : cmpC (Ck k) .ne (.int x) (.int x) M = some (false, M) := by
  simp [cmpC, eqfOf, cmpD, eqD, toPy, derefD, PyData.depth, PyData.eqv]
theorem rep_b {C : Cfg} {M : Mem} (b : Bool) : ∃ S, bltC C .repr [.bl b] M = some (.str S, M) := by cases b <;> exact ⟨_, rfl⟩
theorem rep_bb {M : Mem} (a b : Bool) : ∃ S, reprD M (.lst [.bl a, .bl b]) = some (.str S) := by cases a <;> cases b <;> exact ⟨_, rfl⟩
theorem rep_bbb {M : Mem} (a b c : Bool) : ∃ S, reprD M (.lst [.bl a, .bl b, .bl c]) = some (.str S) := by cases a <;> cases b <;> cases c <;> exact ⟨_, rfl⟩
theorem e_rep_eqb {C : Cfg} {M : Mem} {s : En} {a b : IR} {x : Bool} (h1 : ev C a s M = some (.bl x, M)) (h2 : ev C b s M = some (.bl x, M)) : ev C (.cmp .eq (.blt .repr (.cons a .nil)) (.blt .repr (.cons b .nil))) s M = some (.bl true, M) := by
  obtain ⟨S, hS⟩ := rep_b (C := C) (M := M) x
  refine e_cmp (e_blt (es_one h1) hS) (e_blt (es_one h2) hS) ?_
  simp [cmpC, eqfOf, cmpD, eqD, toPy, derefD, PyData.depth, PyData.eqv]
theorem tt {a : IR} {C : Cfg} {s : En} {M : Mem} {x y : Bool} (h : ev C a s M = some (.bl x, M)) (e : x = y) : ev C a s M = some (.bl y, M) := e ▸ h
theorem insI_le {x : Int} : ∀ {l : List Int}, l.Pairwise (· ≤ ·) → (insI x l).Pairwise (· ≤ ·)
  | [], _ => by simp [insI]
  | y :: r, h => by
    obtain ⟨h1, h2⟩ := List.pairwise_cons.mp h
    simp only [insI]
    split
    · refine List.pairwise_cons.mpr ⟨fun z hz => ?_, insI_le h2⟩
      rcases List.mem_cons.mp ((insI_perm x r).mem_iff.mp hz) with rfl | hz
      · omega
      · exact h1 z hz
    · refine List.pairwise_cons.mpr ⟨fun z hz => ?_, h⟩
      rcases List.mem_cons.mp hz with rfl | hz
      · omega
      · have := h1 z hz; omega
theorem sortI_le : ∀ l : List Int, (sortI l).Pairwise (· ≤ ·)
  | [] => List.Pairwise.nil
  | x :: r => insI_le (sortI_le r)
theorem sortI_lt {l : List Int} (h : l.Nodup) : (sortI l).Pairwise (· < ·) := by
  have h1 := sortI_le l
  have h2 : (sortI l).Nodup := (sortI_perm l).nodup_iff.mpr h
  exact (h1.and h2).imp fun {a b} q => by omega
theorem sorted_i {C : Cfg} {M : Mem} (l : List Int) : bltC C .sorted [.lst (l.map .int)] M = some (.lst ((sortI l).map .int), M) := by
  have hi : ∀ l : List Int, intsD (l.map D.int) = some l := fun l => by
    induction l with
    | nil => rfl
    | cons x l ih => rw [List.map_cons, intsD, ih]; rfl
  show lft ((seqD M (.lst (l.map D.int))).bind fun l => (sortD l).map D.lst) M = _
  simp only [seqD, Option.bind_some, sortD, hi, Option.map_some, lft_some]
theorem a_tup2 {C : Cfg} {s : En} {M M1 : Mem} {i j : Nat} {e : IR} {x y : D} (h : ev C e s M = some (.tup [x, y], M1)) (hi : i < s.length) (hj : j < s.length) : evS C (.asg (.tup (.cons (.v i) (.cons (.v j) .nil))) e) s M = some (.nx ((s.set i (some x)).set j (some y)), M1) := by
  simp only [evS, h, bnd_some, asgT, asgTs, if_pos hi, List.length_set, if_pos hj]
theorem it_rng {a b : Int} {M : Mem} (h : b - a ≤ 16777216) : itD .range2 [.int a, .int b] M = some (.st ((rng a b).map .int)) := by
  rw [it_r2 h]
  unfold rng
  rw [List.map_map]; rfl
theorem idxI0 {C : Cfg} {s : En} {M : Mem} {i : Nat} {x : Int} {F : List Int} (h : s[i]? = some (some (.lst ((x :: F).map .int)))) : ev C (.idx (.var i) (.cst (.int 0))) s M = some (.int x, M) := by
  simp only [ev, h, bnd_some, idxD, seqD, Option.bind_some, atD_zero, lft_some]
theorem idxIl {C : Cfg} {s : En} {M : Mem} {i : Nat} {x : Int} {F : List Int} (h : s[i]? = some (some (.lst ((F ++ [x]).map .int)))) : ev C (.idx (.var i) (.neg (.cst (.int 1)))) s M = some (.int x, M) := by
  simp only [ev, h, bnd_some, idxD, seqD, Option.bind_some, atD_neg, lft_some]
theorem ne_nilC {k : Nat} {M : Mem} (l : List Int) : cmpC (Ck k) .ne (.lst (l.map D.int)) (.lst []) M = some (!l.isEmpty, M) := by
  show lft (cmpD .ne (.lst (l.map D.int)) (.lst []) M) M = _
  rw [ne_nilI]; rfl
theorem eq_nilC {k : Nat} {M : Mem} (l : List Int) : cmpC (Ck k) .eq (.lst (l.map D.int)) (.lst []) M = some (l.isEmpty, M) := by
  have := ne_nilI (M := M) l
  simp only [cmpD, Option.map_eq_some_iff] at this
  obtain ⟨b, h1, h2⟩ := this
  show lft (cmpD .eq (.lst (l.map D.int)) (.lst []) M) M = _
  simp only [cmpD, h1, lft_some]
  cases b <;> cases hl : l.isEmpty <;> simp_all
theorem e_ite {C : Cfg} {s : En} {M M1 : Mem} {c a b : IR} {t : Bool} {R : Rs D} (h : ev C c s M = some (.bl t, M1)) (h1 : t = true → ev C a s M1 = R) (h2 : t = false → ev C b s M1 = R) : ev C (.ite c a b) s M = R := by
  simp only [ev, h, bnd_some, truD, lft_some]
  cases t with
  | true => rw [if_pos rfl]; exact h1 rfl
  | false => rw [if_neg Bool.false_ne_true]; exact h2 rfl
/-! ### an end of a block -/
theorem p9 {C : Cfg} {s : En} {M : Mem} : ev C (.bin .pow (.cst (.int 10)) (.cst (.int 9))) s M = some (.int 1000000000, M) := rfl
theorem p29 {C : Cfg} {s : En} {M : Mem} : ev C (.bin .pow (.cst (.int 10)) (.cst (.int 29))) s M = some (.int (10 ^ 29), M) := rfl
theorem p39 {C : Cfg} {s : En} {M : Mem} : ev C (.bin .pow (.cst (.int 10)) (.cst (.int 39))) s M = some (.int (10 ^ 39), M) := rfl
theorem add_i {C : Cfg} {M : Mem} (a b : Int) : binC C .add (.int a) (.int b) M = some (.int (a + b), M) := rfl
theorem eq_i {C : Cfg} {M : Mem} (a b : Int) : cmpC C .eq (.int a) (.int b) M = some (decide (a = b), M) := by
  simp only [cmpC, eqfOf, cmpD, eqD, derefD, toPy, PyData.depth, PyData.eqv]
  by_cases q : a = b <;> simp [q]
theorem a_if {C : Cfg} {s : En} {M M1 : Mem} {c : IR} {a b : SR} {t : Bool} {R : Rs Fl} (h : ev C c s M = some (.bl t, M1)) (h1 : t = true → evS C a s M1 = R) (h2 : t = false → evS C b s M1 = R) : evS C (.iff c a b) s M = R := by
  simp only [evS, h, bnd_some, truD, lft_some]
  cases t with
  | true => rw [if_pos rfl]; exact h1 rfl
  | false => rw [if_neg Bool.false_ne_true]; exact h2 rfl
/-! ### flat -/
/-! ### inside -/
/-! ### joined -/
theorem fl_get {T : Nat → Bool} {n j : Nat} (h : j < n) : ((List.range n).map fun i => D.bl (T i))[j]? = some (.bl (T j)) := by
  rw [List.getElem?_map, List.getElem?_range h]; rfl
theorem e_at {C : Cfg} {s : En} {M M1 : Mem} {a i : IR} {l : List D} {j : Nat} {d : D} (h : ev C a s M = some (.lst l, M)) (hi : ev C i s M = some (.int (j : Nat), M)) (hb : l[j]? = some d) : ev C (.idx a i) s M = some (d, M) := by
  simp only [ev, h, hi, bnd_some, idxD, seqD, Option.bind_some, atD_nat, hb, lft_some]
theorem e_last {C : Cfg} {s : En} {M : Mem} {a : IR} {l : List D} {d : D} (h : ev C a s M = some (.lst (l ++ [d]), M)) : ev C (.idx a (.neg (.cst (.int 1)))) s M = some (d, M) := by
  simp only [ev, h, bnd_some, idxD, seqD, Option.bind_some, atD_last, lft_some]
theorem cut_init {α : Type} (l : List α) (d : α) (f : α → D) : cutD ((l ++ [d]).map f) none (some (-1)) = l.map f := by
  have e : ((l ++ [d]).map f).length = l.length + 1 := by simp
  have h1 : HT.sIx (l.length + 1) 0 none = 0 := rfl
  have h2 : HT.sIx (l.length + 1) (l.length + 1) (some (-1)) = l.length := by
    unfold HT.sIx
    simp
    try omega
  unfold cutD
  rw [e, h1, h2, List.drop_zero, Nat.sub_zero, List.map_append, List.take_left' (by simp)]
theorem e_init {C : Cfg} {s : En} {M : Mem} {a : IR} {l : List Bk} {d : Bk} (h : ev C a s M = some (.lst ((l ++ [d]).map pr), M)) : ev C (.slice a .nil (.neg (.cst (.int 1)))) s M = some (.lst (l.map pr), M) := by
  have : ev C (.slice a .nil (.neg (.cst (.int 1)))) s M = bnd (ev C a s M) (fun x M => lft (sliceD M x none (some (-1))) M) := rfl
  rw [this, h]
  show lft ((lstD M (.lst ((l ++ [d]).map pr))).map fun l => D.lst (cutD l none (some (-1)))) M = _
  simp only [lstD, Option.map_some, lft_some, cut_init]
theorem lt_i {C : Cfg} {M : Mem} (a b : Int) : cmpC C .lt (.int a) (.int b) M = some (decide (a < b), M) := rfl
theorem e_and2 {C : Cfg} {s : En} {M : Mem} {a b : IR} {x y : Bool} (h : ev C a s M = some (.bl x, M)) (k : x = true → ev C b s M = some (.bl y, M)) : ev C (.and a b) s M = some (.bl (x && y), M) := by
  simp only [ev, h, bnd_some, truD, lft_some]
  cases x with
  | true => rw [if_pos rfl]; exact k rfl
  | false => rw [if_neg Bool.false_ne_true]; rfl
theorem ne_prs {C : Cfg} {M : Mem} (l : List Bk) : cmpC C .ne (.lst (l.map pr)) (.lst []) M = some (!l.isEmpty, M) := by
  cases l with
  | nil => simp [cmpC, eqfOf, cmpD, eqD, derefD, toPy, toPyL, PyData.depth, PyData.depthAll, PyData.eqv, PyData.eqvAll]
  | cons b r =>
    have h1 := toPyL_prs (b :: r)
    have h2 := depth_prs (b :: r)
    have e1 : toPy (derefD M (.lst ((b :: r).map pr))) = some (.list ((b :: r).map ppr)) := by
      show (toPyL ((b :: r).map pr)).map PyData.list = _
      rw [h1]; rfl
    have e2 : toPy (derefD M (.lst [])) = some (.list []) := rfl
    show lft ((eqD M (.lst ((b :: r).map pr)) (.lst [])).map (!·)) M = _
    unfold eqD
    rw [e1, e2]
    simp only
    rw [if_pos ⟨by simp only [PyData.depth]; omega, by simp [PyData.depth, PyData.depthAll]⟩]
    rfl
/-! ### what a set shows -/
theorem shown4_ok {B : List Bk} (h : Sml B) (hz : B.length ≤ 100) (M : Mem) : ∃ S, reprD M (.lst [.tup (B.map pr), .int (B.map fun b => b.2 - b.1).sum, firstD B, lastD B]) = some (.str S) := by
  have hs := sum_small h hz
  have lg : ((B.map fun b : Bk => b.2 - b.1).sum).natAbs.log2 < 1920 := by
    refine log_lt ?_
    have h2 : (10 : Nat) ^ 45 * 101 < 2 ^ 1920 := by decide +kernel
    have h3 : ((B.map fun b : Bk => b.2 - b.1).sum).natAbs ≤ 10 ^ 45 * 101 := by omega
    exact Nat.lt_of_le_of_lt h3 h2
  have o1 : okD (firstD B) = true ∧ szD (firstD B) ≤ 1921 ∧ dpD (firstD B) = 0 := by
    cases B with
    | nil => exact ⟨rfl, by decide, rfl⟩
    | cons b B =>
      obtain ⟨h0, h1, h2⟩ := h b List.mem_cons_self
      have l1 : b.1.natAbs.log2 < 1920 := sml_log h0 (by omega)
      exact ⟨by simp [firstD, okD, l1], Nat.le_refl _, rfl⟩
  have o2 : okD (lastD B) = true ∧ szD (lastD B) ≤ 1921 ∧ dpD (lastD B) = 0 := by
    unfold lastD
    cases e : B.getLast? with
    | none => exact ⟨rfl, by decide, rfl⟩
    | some b =>
      obtain ⟨h0, h1, h2⟩ := h b (List.mem_of_getLast? e)
      have l1 : (b.2 - 1).natAbs.log2 < 1920 := sml_log (by omega) (by omega)
      exact ⟨by simp [okD, l1], Nat.le_refl _, rfl⟩
  have ok : okD (.lst [.tup (B.map pr), .int (B.map fun b => b.2 - b.1).sum, firstD B, lastD B]) = true := by
    simp only [okD, okL, ok_rows h, lg, decide_true, Bool.true_and, Bool.and_true, o1.1, o2.1]
  obtain ⟨p, _, e⟩ := repr_ok (M := M) ok (by
    simp only [szD, szL, sz_rows, sl]
    omega) (by
    have := dp_rows B
    simp only [dpD, dpL, o1.2.2, o2.2.2]
    omega)
  exact ⟨_, e⟩
theorem shown2_ok {B : List Bk} (h : Sml B) (hz : B.length ≤ 100) (M : Mem) : ∃ S, reprD M (.lst [.tup (B.map pr), .int (B.map fun b => b.2 - b.1).sum]) = some (.str S) := by
  have hs := sum_small h hz
  have lg : ((B.map fun b : Bk => b.2 - b.1).sum).natAbs.log2 < 1920 := by
    refine log_lt ?_
    have h2 : (10 : Nat) ^ 45 * 101 < 2 ^ 1920 := by decide +kernel
    have h3 : ((B.map fun b : Bk => b.2 - b.1).sum).natAbs ≤ 10 ^ 45 * 101 := by omega
    exact Nat.lt_of_le_of_lt h3 h2
  have ok : okD (.lst [.tup (B.map pr), .int (B.map fun b => b.2 - b.1).sum]) = true := by
    simp only [okD, okL, ok_rows h, lg, decide_true, Bool.true_and, Bool.and_true]
  obtain ⟨p, _, e⟩ := repr_ok (M := M) ok (by
    simp only [szD, szL, sz_rows, sl]
    omega) (by
    have := dp_rows B
    simp only [dpD, dpL]
    omega)
  exact ⟨_, e⟩
theorem lst4 {C : Cfg} {M M1 M2 M3 M4 : Mem} {s : En} {a b c d : IR} {x y z u : D} (h : ev C a s M = some (x, M1)) (h2 : ev C b s M1 = some (y, M2)) (h3 : ev C c s M2 = some (z, M3)) (h4 : ev C d s M3 = some (u, M4)) : ev C (.lst false (.cons a (.cons b (.cons c (.cons d .nil))))) s M = some (.lst [x, y, z, u], M4) := by
  simp only [ev, evs, h, h2, h3, h4, bnd_some]; rfl
theorem sub_i {C : Cfg} {M : Mem} (a b : Int) : binC C .sub (.int a) (.int b) M = some (.int (a - b), M) := rfl
theorem idx_lastT {C : Cfg} {s : En} {M : Mem} {a : IR} {l : List Bk} {d : Bk} (h : ev C a s M = some (.tup ((l ++ [d]).map pr), M)) : ev C (.idx a (.neg (.cst (.int 1)))) s M = some (pr d, M) := by
  simp only [ev, h, bnd_some, idxD, seqD, Option.bind_some, List.map_append, List.map_cons, List.map_nil, atD_last, lft_some]
/-! ### a great row -/
/-- the store after more cells: the purse moved, one more list -/
theorem Nx.app {M M' : Mem} {n : Nat} {c c' : Int} {ex : Mem} (hn : n < M.length) (x : Nx (M ++ ex) n c M' c') : ∃ a' b', M' = M.set n (purse a' b' c') ++ ex ∧ PurOk M' n a' b' c' := by
  obtain ⟨a', b', e, p⟩ := x
  refine ⟨a', b', ?_, p⟩
  rw [e, List.set_append_left _ _ hn]
theorem lstN {C : Cfg} {M1 M2 M : Mem} {s : En} {a b : IR} {x y : D} (h : ev C a s M = some (x, M1)) (h2 : ev C b s M1 = some (y, M2)) : ev C (.lst true (.cons a (.cons b .nil))) s M = some (.cell M2.length, M2 ++ [.lst [x, y]]) := by
  simp only [ev, evs, h, h2, bnd_some]; rfl
theorem cell_at {M : Mem} {o : MO} : (M ++ [o])[M.length]? = some o := by simp
theorem min_c {C : Cfg} {M : Mem} {N : Nat} {u v : Int} (h : M[N]? = some (.lst [.int u, .int v])) : bltC C .minl [.cell N] M = some (.int (if v < u then v else u), M) := by
  show lft ((lstD M (.cell N)).bind fun l => (intsD l).bind fun ns => (minI ns).map D.int) M = _
  simp only [lstD, h, Option.bind_some, intsD, Option.map_some, minI, lft_some]
theorem max_c {C : Cfg} {M : Mem} {N : Nat} {u v : Int} (h : M[N]? = some (.lst [.int u, .int v])) : bltC C .maxl [.cell N] M = some (.int (if u < v then v else u), M) := by
  show lft ((lstD M (.cell N)).bind fun l => (intsD l).bind fun ns => (maxI ns).map D.int) M = _
  simp only [lstD, h, Option.bind_some, intsD, Option.map_some, maxI, lft_some]
theorem a_set0 {C : Cfg} {M M1 : Mem} {s : En} {e : IR} {i N : Nat} {x u v : D} (h : ev C e s M = some (x, M1)) (hi : s[i]? = some (some (.cell N))) (hN : M1[N]? = some (.lst [u, v])) : evS C (.asg (.ix (.var i) (.cst (.int 0))) e) s M = some (.nx s, M1.set N (.lst [x, v])) := by
  simp only [evS, h, bnd_some, asgT, ev, hi, setIxD, hN]
  rfl
theorem e_at' {C : Cfg} {s : En} {M M1 : Mem} {a i : IR} {l : List D} {j : Int} {d : D} (h : ev C a s M = some (.lst l, M)) (hi : ev C i s M = some (.int j, M1)) (h0 : 0 ≤ j) (hb : l[j.toNat]? = some d) : ev C (.idx a i) s M = some (d, M1) := by
  have e : j = ((j.toNat : Nat) : Int) := by omega
  rw [e] at hi
  simp only [ev, h, hi, bnd_some, idxD, seqD, Option.bind_some, atD_nat, hb, lft_some]
theorem exit_app {B ex : Mem} {l : List Bk} (hw : Wf B) : exitF B.length (.tup (l.map pr)) (B ++ ex) = some (.tup (l.map pr), B) := by
  unfold exitF
  by_cases q : (B ++ ex).length = B.length
  · rw [if_pos q]
    have : ex = [] := by
      rw [List.length_append] at q
      exact List.length_eq_zero_iff.mp (by omega)
    rw [this, List.append_nil]
  · rw [if_neg q, if_pos ⟨below_row _ _, by rw [List.take_left]; have := hw.all B.length B.length; rwa [List.take_length] at this, by rw [List.length_append]; omega⟩, List.take_left]
    rfl
/-! ### sets -/
/-! ### points -/
theorem e_or2 {C : Cfg} {s : En} {M : Mem} {a b : IR} {x y : Bool} (h : ev C a s M = some (.bl x, M)) (k : x = false → ev C b s M = some (.bl y, M)) : ev C (.or a b) s M = some (.bl (x || y), M) := by
  simp only [ev, h, bnd_some, truD, lft_some]
  cases x with
  | true => rw [if_pos rfl]; rfl
  | false => rw [if_neg Bool.false_ne_true]; exact k rfl
theorem cut_of {α : Type} (f : α → D) (l : List α) (lo hi : Option Int) : ∃ m : List α, cutD (l.map f) lo hi = m.map f ∧ (∀ x ∈ m, x ∈ l) ∧ m.length ≤ l.length := by
  unfold cutD
  rw [← List.map_drop, ← List.map_take]
  refine ⟨_, rfl, fun x hx => List.mem_of_mem_drop (List.mem_of_mem_take hx), ?_⟩
  rw [List.length_take, List.length_drop]
  omega
end Dn

set_option Elab.async false
set_option linter.all false
set_option maxRecDepth 100000
set_option maxHeartbeats 4000000
namespace Dn
open PySem L2 M02
/-! CU: comparisons, small rules. -/
theorem eq_s {C : Cfg} {M : Mem} (a b : Str) : cmpC C .eq (.str a) (.str b) M = some (decide (a = b), M) := by
  simp only [cmpC, eqfOf, cmpD, eqD, derefD, toPy, PyData.depth, PyData.eqv]
  by_cases q : a = b <;> simp [q]
theorem ne_s {C : Cfg} {M : Mem} (a b : Str) : cmpC C .ne (.str a) (.str b) M = some (!decide (a = b), M) := by
  simp only [cmpC, eqfOf, cmpD, eqD, derefD, toPy, PyData.depth, PyData.eqv]
  by_cases q : a = b <;> simp [q]
theorem is_non {C : Cfg} {M : Mem} (x : D) : cmpC C .is_ x .non M = some (isNon x, M) := rfl
theorem gt_i {C : Cfg} {M : Mem} (a b : Int) : cmpC C .gt (.int a) (.int b) M = some (decide (b < a), M) := rfl
theorem le_i {C : Cfg} {M : Mem} (a b : Int) : cmpC C .le (.int a) (.int b) M = some (decide (a ≤ b), M) := rfl
theorem len_s {C : Cfg} {M : Mem} (s : Str) : bltC C .len [.str s] M = some (.int (s.length : Nat), M) := rfl
theorem all_map {C : Cfg} {M : Mem} {α : Type} (l : List α) : bltC C .all [.lst (l.map fun _ => .bl true)] M = some (.bl true, M) := by
  have h : ∀ l : List α, boolsD (l.map fun _ => D.bl true) = some (l.map fun _ => true) := fun l => by
    induction l with
    | nil => rfl
    | cons x l ih => rw [List.map_cons, boolsD, ih]; rfl
  show lft ((lstD M (.lst (l.map fun _ => D.bl true))).bind fun l => (boolsD l).map fun bs => D.bl (bs.all id)) M = _
  simp only [lstD, Option.bind_some, h, Option.map_some, lft_some]
  congr 3
  simp
theorem e_or1 {C : Cfg} {s : En} {M M1 : Mem} {a b : IR} (h : ev C a s M = some (.bl true, M1)) : ev C (.or a b) s M = some (.bl true, M1) := by
  simp only [ev, h, bnd_some, truD, lft_some, if_true]
theorem num_tl {i : Int} (h : 0 ≤ i) : TL.tl (toStr i) = TL.numL i.toNat := by
  obtain ⟨n, rfl⟩ := Int.eq_ofNat_of_zero_le h
  exact TL.tl_num n
theorem num_len {i : Int} (h0 : 0 ≤ i) (h1 : i < 10 ^ 45) : (TL.numL i.toNat).length ≤ 45 := TL.numL_len (by decide) (by
  have e : ((10 ^ 45 : Nat) : Int) = (10 : Int) ^ 45 := by decide
  omega)
theorem len_num {i : Int} (h0 : 0 ≤ i) (h1 : i < 10 ^ 45) : (toStr i).length ≤ 45 := by
  rw [TL.len_tl, num_tl h0]; exact num_len h0 h1
end Dn

set_option Elab.async false
set_option linter.all false
set_option maxRecDepth 100000
set_option maxHeartbeats 4000000
namespace Dn
open PySem L2 M02
/-! GX: rules for loops that return, rows, numbers shown, what the catcher tells. -/
theorem okR_in {M : Mem} {x : D} (h : okR x = true) : isinOk M x = true := by
  cases x <;> first | rfl | (simp [okR] at h)
theorem len_t2 {C : Cfg} {M : Mem} (l : List D) : bltC C .len [.tup l] M = some (.int (l.length : Nat), M) := rfl
theorem ne_i {C : Cfg} {M : Mem} (a b : Int) : cmpC C .ne (.int a) (.int b) M = some (!decide (a = b), M) := by
  simp only [cmpC, eqfOf, cmpD, eqD, derefD, toPy, PyData.depth, PyData.eqv]
  by_cases q : a = b <;> simp [q]
theorem ge_i {C : Cfg} {M : Mem} (a b : Int) : cmpC C .ge (.int a) (.int b) M = some (decide (b ≤ a), M) := rfl
/-- slices of rows -/
theorem cut_take {α : Type} (f : α → D) (l : List α) {j : Nat} : cutD (l.map f) none (some (j : Int)) = (l.take j).map f := by
  unfold cutD
  rw [HT.sIx_nat, HT.sIx_none, List.drop_zero, Nat.sub_zero, List.length_map, ← List.map_take]
  by_cases q : j ≤ l.length
  · rw [Nat.min_eq_left q]
  · rw [Nat.min_eq_right (by omega), List.take_of_length_le (Nat.le_refl _), List.take_of_length_le (by omega)]
theorem cut_drop {α : Type} (f : α → D) (l : List α) {j : Nat} : cutD (l.map f) (some (j : Int)) none = (l.drop j).map f := by
  unfold cutD
  rw [HT.sIx_nat, HT.sIx_none, List.length_map, ← List.map_drop, ← List.map_take]
  by_cases q : j ≤ l.length
  · rw [Nat.min_eq_left q, List.take_of_length_le (by rw [List.length_drop]; exact Nat.le_refl _)]
  · rw [Nat.min_eq_right (by omega), List.drop_of_length_le (Nat.le_refl _), List.drop_of_length_le (by omega), List.take_nil]
theorem don_ix {don rest : List Nat} {x n : Nat} (h : don ++ x :: rest = List.range n) : x = don.length ∧ don.length < n := by
  have h2 : don.length < n := by
    have := congrArg List.length h
    rw [List.length_append, List.length_cons, List.length_range] at this
    omega
  refine ⟨?_, h2⟩
  have h1 := congrArg (fun l => l[don.length]?) h
  simp only [List.getElem?_append_right (Nat.le_refl _), Nat.sub_self, List.getElem?_cons_zero] at h1
  rw [List.getElem?_range h2] at h1
  cases h1; rfl
theorem str_i {C : Cfg} {M : Mem} {i : Int} (h0 : 0 ≤ i) (h1 : i < 10 ^ 45) : bltC C .str [.int i] M = some (.str (toStr i), M) := by
  show lft (if i.natAbs.log2 < 1920 then some (D.str (toStr i)) else none) M = _
  rw [if_pos (sml_log h0 h1)]; rfl
theorem e_sl_toD {C : Cfg} {s : En} {M M1 : Mem} {a i : IR} {l : List D} {j : Nat} (hn : isNil i = false) (h : ev C a s M = some (.tup l, M)) (hi : ev C i s M = some (.int (j : Nat), M1)) : ev C (.slice a .nil i) s M = some (.tup (l.take j), M1) := by
  have : ev C (.slice a .nil i) s M = bnd (ev C a s M) (fun x M => bnd (some ((none : Option Int), M)) fun lo M => bnd (if isNil i = true then some (none, M) else bnd (ev C i s M) fun d M => lft (partI d) M) fun h M => lft (sliceD M x lo h) M) := rfl
  rw [this, h]
  simp only [bnd_some, hn, Bool.false_eq_true, if_false, hi, partI, lft_some]
  have e := cut_take (id : D → D) l (j := j)
  rw [List.map_id, List.map_id] at e
  rw [← e]; rfl
theorem e_ixD {C : Cfg} {s : En} {M : Mem} {a i : IR} {l : List D} {j : Nat} {d : D} (h : ev C a s M = some (.tup l, M)) (hi : ev C i s M = some (.int (j : Nat), M)) (hb : l[j]? = some d) : ev C (.idx a i) s M = some (d, M) := by
  simp only [ev, h, hi, bnd_some, idxD, seqD, Option.bind_some, atD_nat, hb, lft_some]
theorem range_split (f : Nat → D) (a c : Nat) : (List.range (a + (1 + c))).map f = (List.range a).map f ++ f a :: (List.range c).map (fun i => f (a + (1 + i))) := by
  rw [List.range_add, List.range_add, List.map_append, List.map_map, List.map_append]
  simp [List.map_map, Function.comp_def]
theorem forS_app {f : D → En → Mem → Rs Fl} {y : D} {post : List D} {d : D} {M3 : Mem} : ∀ (pre : List D) (s : En) (M : Mem) {s1 : En} {M1 : Mem}, (∀ z ∈ pre, ∀ s M s' M', f z s M ≠ some (.bk s', M')) → forS f pre s M = some (.nx s1, M1) → f y s1 M1 = some (.rt d, M3) → forS f (pre ++ y :: post) s M = some (.rt d, M3)
  | [], s, M, s1, M1, _, h, k => by
    simp only [forS] at h
    cases h
    simp only [List.nil_append, forS, k, bnd_some]
  | p :: pre, s, M, s1, M1, hk, h, k => by
    simp only [forS] at h
    simp only [List.cons_append, forS]
    cases e1 : f p s M with
    | none => rw [e1] at h; cases h
    | some q =>
      obtain ⟨g, M2⟩ := q
      rw [e1] at h
      simp only [bnd_some] at h ⊢
      cases g with
      | nx s2 => exact forS_app pre s2 M2 (fun z hz => hk z (List.mem_cons_of_mem _ hz)) h k
      | ct s2 => exact forS_app pre s2 M2 (fun z hz => hk z (List.mem_cons_of_mem _ hz)) h k
      | bk s2 => exact absurd e1 (hk p List.mem_cons_self _ _ _ _)
      | rt d => cases h
theorem a_for_ret {C : Cfg} {s s1 s2 : En} {M M1 M2 M3 M4 : Mem} {t : TG} {it : ItK} {src : IR} {b : SR} {ds pre post : List D} {y d : D} (hb : noBk b = true) (hs : evs C src s M = some (ds, M1)) (hi : itD it ds M1 = some (.st (pre ++ y :: post))) (h : forS (fun x s M => bnd (asgT C t x s M) fun s' M => evS C b s' M) pre s M1 = some (.nx s1, M2))
    (ha : asgT C t y s1 M2 = some (s2, M3)) (k : evS C b s2 M3 = some (.rt d, M4)) : evS C (.loop t it src b) s M = some (.rt d, M4) := by
  show bnd (evs C src s M) (fun xs M => bnd (lft (itD it xs M) M) fun q M => forGo (fun x s M => bnd (asgT C t x s M) fun s' M => evS C b s' M) q s M) = _
  rw [hs]
  simp only [bnd_some, hi, lft_some, forGo]
  refine forS_app pre s M1 (fun z _ => noBk_asg hb z) h ?_
  simp only [ha, bnd_some]; exact k
theorem repr_i {M : Mem} {i : Int} (h : i.natAbs.log2 < 1920) : reprD M (.int i) = some (.str (toStr i)) := by
  have hl : (toStr i).length ≤ 1921 := PyProof.Rows.int_text_len_1921 h
  have e : (PyData.int i).shown = toStr i := by simp only [PyData.shown]; rfl
  have := reprD_is (M := M) (d := .int i) (p := .int i) rfl (by simpa [PyData.showable] using h) (by simp only [PyData.depth]; omega) (by rw [e, sl]; omega)
  rwa [e] at this
theorem repr_non {M : Mem} : reprD M .non = some (.str (Str.ofString "None")) := rfl
theorem nat_45 {j : Nat} (h : j < 1000000) : ((j : Nat) : Int) < 10 ^ 45 := by
  have : (1000000 : Int) < 10 ^ 45 := by decide
  omega
theorem nat_log {j : Nat} (h : j < 1000000) : ((j : Nat) : Int).natAbs.log2 < 1920 := sml_log (by omega) (nat_45 h)
theorem str_n {C : Cfg} {M : Mem} {j : Nat} (h : j < 1000000) : bltC C .str [.int (j : Nat)] M = some (.str (toStr (j : Nat)), M) := str_i (by omega) (nat_45 h)
theorem e_tupL {C : Cfg} {s : En} {M M1 : Mem} {l : IR} {xs : List D} (h : evs C l s M = some (xs, M1)) (hl : xs.length ≤ sizeLine) : ev C (.tup l) s M = some (.tup xs, M1) := by
  simp only [ev, h, bnd_some, fitL, if_pos hl, lft_some]
theorem brepr_g {C : Cfg} {M : Mem} {s : D} {S : Str} (ok : okR s = true) (h : reprD M s = some (.str S)) : bltC C .repr [s] M = some (.str S, M) := by
  cases s with
  | obj c l => simp [okR] at ok
  | _ => simp only [bltC, reprfOf, bltD, reprB, h, lft_some]
theorem len_tD {C : Cfg} {M : Mem} {s : En} {i : Nat} {l : List D} (h : s[i]? = some (some (.tup l))) : ev C (.blt .len (.cons (.var i) .nil)) s M = some (.int (l.length : Nat), M) := e_blt (es_one (e_var h)) (len_t2 l)
theorem range_n {C : Cfg} {M : Mem} {s : En} {i : Nat} {l : List D} (h : s[i]? = some (some (.tup l))) (hl : l.length ≤ 100) : evs C (.cons (.blt .len (.cons (.var i) .nil)) .nil) s M = some ([.int (l.length : Nat)], M) ∧ itD .range1 [.int (l.length : Nat)] M = some (.st ((List.range l.length).map fun i : Nat => D.int (i : Nat))) :=
  ⟨es_one (len_tD h), it_r1 (by omega)⟩
theorem all_p {C : Cfg} {M : Mem} {α : Type} (p : α → Bool) (l : List α) : bltC C .all [.lst (l.map fun y => .bl (p y))] M = some (.bl (l.all p), M) := by
  have h : ∀ l : List α, boolsD (l.map fun y => D.bl (p y)) = some (l.map p) := fun l => by
    induction l with
    | nil => rfl
    | cons x l ih => rw [List.map_cons, boolsD, ih]; rfl
  show lft ((lstD M (.lst (l.map fun y => D.bl (p y)))).bind fun l => (boolsD l).map fun bs => D.bl (bs.all id)) M = _
  simp only [lstD, Option.bind_some, h, Option.map_some, lft_some, List.all_map]
  rfl
def errI (i : Int) (S : Str) : D := .tup [.str (Str.ofString "error"), .int i, .str S]
theorem errI_eq {M : Mem} (i : Int) (S : Str) : eqD M (errI i S) (errI i S) = some true := by
  simp [errI, eqD, derefD, toPy, toPyL, PyData.depth, PyData.depthAll, PyData.eqv, PyData.eqvAll]
theorem back_eq {M : Mem} (S : Str) : eqD M (.tup [.str (Str.ofString "back"), .str S]) (.tup [.str (Str.ofString "back"), .str S]) = some true := by
  simp [eqD, derefD, toPy, toPyL, PyData.depth, PyData.depthAll, PyData.eqv, PyData.eqvAll]
theorem ix0_t {C : Cfg} {M : Mem} {env : En} {i : Nat} {a : D} {l : List D} (h : env[i]? = some (some (.tup (a :: l)))) : ev C (.idx (.var i) (.cst (.int 0))) env M = some (a, M) := e_ixD (j := 0) (e_var h) rfl rfl
theorem e_isin2 {C : Cfg} {s : En} {M : Mem} {i : Nat} {x : D} {t : TyK} (h : s[i]? = some (some x)) (ok : isinOk M x = true) : ev C (.isin (.var i) t) s M = some (.bl (isinD M x t), M) := by
  simp only [ev, h, bnd_some, ok, if_true]
theorem isin_t2 {C : Cfg} {s : En} {M : Mem} {i : Nat} {l : List D} (h : s[i]? = some (some (.tup l))) : ev C (.isin (.var i) .tup) s M = some (.bl true, M) := by
  simp only [ev, h, bnd_some, isinOk, if_true, isinD]
end Dn

set_option Elab.async false
set_option linter.all false
set_option maxRecDepth 100000
set_option maxHeartbeats 4000000
namespace Dn
open PySem L2 M02
/-! GE: values of every kind; what is a block; what raises. -/
theorem noC (k : Nat) : NoX (Ck k) := noX tab 1000 k
theorem cfx_eq {k i : Nat} {f : FnD} {xs : List D} {M : Mem} (hf : tab.fns[i]? = some f) (hx : xs.length = f.np) :
    callX tab 1000 (k + 1) i xs M = bnd (evSX (Ck k) f.body (xs.map some ++ List.replicate (f.ns - f.np) none) M) fun x M' => exitX M.length x M' := by
  simp only [callX, hf, runX, if_pos hx]
/-- a def that raises, without cells of its own -/
theorem cfx_ret {k i : Nat} {f : FnD} {xs : List D} {M M' : Mem} {x : Xn} (hf : tab.fns[i]? = some f) (hx : xs.length = f.np) (hb : evSX (Ck k) f.body (xs.map some ++ List.replicate (f.ns - f.np) none) M = some (x, M')) (hl : M'.length = M.length) :
    callX tab 1000 (k + 1) i xs M = some (x, M') := by
  rw [cfx_eq hf hx, hb, bnd_some]
  exact if_pos hl
theorem callXC_of {k i : Nat} {f : FnD} {ks : List Nat} {xs ys : List D} {M : Mem} {R : Rs Xn} (hf : tab.fns[i]? = some f) (ha : arr f.np f.dflt ks xs = some ys) (h : callX tab 1000 k i ys M = R) : callXC (Ck k) i ks xs M = R := by
  unfold callXC argsC
  show (match (match tab.fns[i]? with | some g => arr g.np g.dflt ks xs | none => none) with | some ys => callX tab 1000 k i ys M | none => none) = _
  rw [hf]
  simp only
  rw [ha]
  exact h
theorem callx_ret {k i : Nat} {f : FnD} {xs : List D} {M M' : Mem} {x : Xn} (hf : tab.fns[i]? = some f) (hx : xs.length = f.np) (hb : evSX (Ck k) f.body (xs.map some ++ List.replicate (f.ns - f.np) none) M = some (x, M')) (hl : M'.length = M.length) :
    callXC (Ck (k + 1)) i [] xs M = some (x, M') := callXC_of hf (arr_full hx) (cfx_ret hf hx hb hl)
/-- an own object that is not made -/
theorem mkx_gen {C : Cfg} {c : Nat} {k : ClsD} {ks : List Nat} {xs : List D} {M : Mem} {x : Xn} {o : MO} (hk : C.T.cls[c]? = some k) (h : callXC C k.init ks (.cell M.length :: xs) (M ++ [.ins c []]) = some (x, M ++ [o])) (hb : belowL M.length x.2 = true) (hw : Wf M) : mkXC C c ks xs M = some (x, M) := by
  unfold mkXC
  rw [hk]
  simp only
  rw [h]
  have b2 := hw.all M.length M.length
  rw [List.take_length] at b2
  simp only [bnd_some, exitX]
  rw [if_neg (by simp), if_pos ⟨hb, by rw [List.take_left]; exact b2, by simp⟩, List.take_left]
theorem e_makek {C : Cfg} {s : En} {M M1 M2 M3 : Mem} {c : Nat} {ks : List Nat} {l lk : IR} {xs ys : List D} {d : D} (h : evs C l s M = some (xs, M1)) (h2 : evs C lk s M1 = some (ys, M2)) (k : mkC C c ks (xs ++ ys) M2 = some (d, M3)) : ev C (.make c ks l lk) s M = some (d, M3) := by
  simp only [ev, h, h2, bnd_some]; exact k
theorem e_callk {C : Cfg} {s : En} {M M1 M2 M3 : Mem} {f : Nat} {ks : List Nat} {l lk : IR} {xs ys : List D} {d : D} (h : evs C l s M = some (xs, M1)) (h2 : evs C lk s M1 = some (ys, M2)) (k : callC C f ks (xs ++ ys) M2 = some (d, M3)) : ev C (.call f ks l lk) s M = some (d, M3) := by
  simp only [ev, h, h2, bnd_some]; exact k
mutual
theorem okR_below : ∀ (n : Nat) (d : D), okR d = true → below n d = true
  | _, .non, _ => rfl
  | _, .bl _, _ => rfl
  | _, .int _, _ => rfl
  | _, .str _, _ => rfl
  | n, .tup l, h => by simp only [okR] at h; simp only [below]; exact okRL_below n l h
  | n, .lst l, h => by simp only [okR] at h; simp only [below]; exact okRL_below n l h
  | n, .ro l, h => by simp only [okR] at h; simp only [below]; exact okRL_below n l h
  | _, .obj _ _, h => by simp [okR] at h
  | _, .cell _, h => by simp [okR] at h
  | _, .emp, _ => rfl
  | _, .dkt _ _, _ => rfl
theorem okRL_below : ∀ (n : Nat) (l : List D), okRL l = true → belowL n l = true
  | _, [], _ => rfl
  | n, x :: r, h => by
    simp only [okRL, Bool.and_eq_true] at h
    simp only [belowL, okR_below n x h.1, okRL_below n r h.2, Bool.and_self]
end
/-! ### kinds -/
def isI : D → Bool
  | .int _ => true
  | _ => false
def isN : D → Bool
  | .int i => decide (0 ≤ i)
  | _ => false
def bkD : D → Option Bk
  | .tup [.int a, .int b] => if 0 ≤ a ∧ a < b then some (a, b) else none
  | _ => none
theorem okR_len {M : Mem} {l : List D} : bltC C .len [.tup l] M = some (.int (l.length : Nat), M) := rfl
theorem e_isin {C : Cfg} {s : En} {M : Mem} {i : Nat} {x : D} {t : TyK} (h : s[i]? = some (some x)) (ok : okR x = true) : ev C (.isin (.var i) t) s M = some (.bl (isinD M x t), M) := by
  simp only [ev, h, bnd_some, okR_in ok, if_true]
theorem is_integer_g {k : Nat} {M : Mem} {x : D} (ok : okR x = true) : callC (Ck (k + 1)) i_is_integer [] [x] M = some (.bl (isI x), M) := by
  rw [call_eq (f := f_is_integer) rfl rfl]
  have h : ∀ t, ev (Ck k) (.isin (.var 0) t) [some x] M = some (.bl (isinD M x t), M) := fun t => e_isin rfl ok
  have e : evS (Ck k) b_is_integer [some x] M = some (.rt (.bl (isI x)), M) := by
    refine s_end (a_ret ?_)
    refine (e_and2 (h .int) (fun _ => e_not (h .bool))).trans ?_
    cases x <;> rfl
  rw [show evS (Ck k) f_is_integer.body ([x].map some ++ List.replicate (f_is_integer.ns - f_is_integer.np) none) M = _ from e, bnd_some, show f_is_integer.keep = false from rfl, fin_rt]
  exact exit_same
theorem is_number_g {k : Nat} {M : Mem} {x : D} (ok : okR x = true) : callC (Ck (k + 2)) i_is_number [] [x] M = some (.bl (isN x), M) := by
  refine call_ret (f := f_is_number) rfl rfl rfl ?_ rfl
  have h := is_integer_g (k := k) (M := M) ok
  refine s_end (a_ret ?_)
  by_cases q : ∃ i, x = .int i
  · obtain ⟨i, rfl⟩ := q
    exact e_and (tt (e_call (es_one (e_var rfl)) h) rfl) (e_cmp (e_var rfl) (y := .int 0) (M2 := M) rfl (ge_i _ _))
  · have h1 : isI x = false := by
      cases x <;> first | rfl | exact absurd ⟨_, rfl⟩ q
    have h2 : isN x = false := by
      cases x <;> first | rfl | exact absurd ⟨_, rfl⟩ q
    rw [h1] at h
    rw [h2]
    exact e_and2 (e_call (es_one (e_var rfl)) h) (y := false) (fun e => by cases e)
theorem e_ix0 {C : Cfg} {s : En} {M : Mem} {i : Nat} {a b : D} (h : s[i]? = some (some (.tup [a, b]))) : ev C (.idx (.var i) (.cst (.int 0))) s M = some (a, M) := by
  simp only [ev, h, bnd_some]; rfl
theorem e_ix1 {C : Cfg} {s : En} {M : Mem} {i : Nat} {a b : D} (h : s[i]? = some (some (.tup [a, b]))) : ev C (.idx (.var i) (.cst (.int 1))) s M = some (b, M) := by
  simp only [ev, h, bnd_some]; rfl
theorem bkD_not {x : D} (h : ∀ a b, x ≠ .tup [.int a, .int b]) : bkD x = none := by
  unfold bkD
  split
  · exact absurd rfl (h _ _)
  · rfl
theorem isin_tup {M : Mem} {x : D} (h : isinD M x .tup = true) : ∃ l, x = .tup l := by
  cases x <;> first | exact ⟨_, rfl⟩ | cases h
theorem int_of {x : D} (h : isI x = true) : ∃ i, x = .int i := by
  cases x <;> first | exact ⟨_, rfl⟩ | cases h
/-- the program's question whether a value is a block -/
theorem isb_p {k : Nat} {M : Mem} {x : D} (ok : okR x = true) : callC (Ck (k + 3)) i_is_block [] [x] M = some (.bl (bkD x).isSome, M) := by
  refine call_ret (f := f_is_block) rfl rfl rfl ?_ rfl
  have h1 : ∀ {C : Cfg}, ev C (.isin (.var 0) .tup) [some x] M = some (.bl (isinD M x .tup), M) := fun {C} => e_isin rfl ok
  by_cases q : isinD M x .tup = true
  · obtain ⟨l, rfl⟩ := isin_tup q
    by_cases q2 : l.length = 2
    · match l, q2 with
      | [a, b], _ =>
        have ok2 : okR a = true ∧ okR b = true := by simpa [okR, okRL] using ok
        refine s_cons (a_no (e_or (e_not (tt h1 q)) (tt (e_cmp (e_blt (es_one (e_var rfl)) (len_t2 _)) (y := .int 2) (M2 := M) rfl (ne_i _ _)) (by rfl)))) (s_end (a_ret ?_))
        refine (e_and2 (e_call (es_one (e_ix0 rfl)) (is_number_g (k := k) ok2.1)) (y := isI b && match a, b with | .int i, .int j => decide (i < j) | _, _ => false) fun n1 => ?_).trans ?_
        · refine e_and2 (e_call (es_one (e_ix1 rfl)) (is_integer_g (k := k + 1) ok2.2)) fun n2 => ?_
          have n1' : isI a = true := by cases a <;> first | rfl | cases n1
          obtain ⟨i, rfl⟩ := int_of n1'
          obtain ⟨j, rfl⟩ := int_of n2
          exact e_cmp (e_ix0 rfl) (e_ix1 rfl) (lt_i _ _)
        · congr 3
          cases a with
          | int i =>
            cases b with
            | int j =>
              simp only [isN, isI, bkD, Bool.true_and]
              by_cases c : 0 ≤ i ∧ i < j
              · rw [if_pos c, decide_eq_true c.1, decide_eq_true c.2]; rfl
              · rw [if_neg c]
                by_cases c1 : 0 ≤ i
                · rw [decide_eq_false (fun h => c ⟨c1, h⟩)]; simp
                · rw [decide_eq_false c1]; simp
            | _ => simp [isI, bkD]
          | _ => simp [isN, bkD]
    · rw [bkD_not (fun a b e => by cases e; exact q2 rfl)]
      refine s_end ?_
      refine (a_if (e_or (e_not (tt h1 q)) (tt (e_cmp (e_blt (es_one (e_var rfl)) (len_t2 _)) (y := .int 2) (M2 := M) rfl (ne_i _ _)) (y := true) (by rw [decide_eq_false (by omega)]; rfl))) (fun _ => s_end (a_ret rfl)) (fun h => by cases h))
  · rw [bkD_not (fun a b e => by subst e; exact q rfl)]
    have q : isinD M x .tup = false := by simpa using q
    exact s_end (a_if (e_or1 (tt (e_not h1) (y := true) (by rw [q]; rfl))) (fun _ => s_end (a_ret rfl)) (fun h => by cases h))
end Dn

set_option Elab.async false
set_option linter.all false
set_option maxRecDepth 100000
set_option maxHeartbeats 4000000
namespace Dn
open PySem L2 M02
/-! GF: a law's own question whether a value is a block; things of every kind. -/
theorem okL_iff : ∀ {l : List D}, okL l = true ↔ ∀ x ∈ l, okD x = true
  | [] => ⟨fun _ x h => (by cases h), fun _ => rfl⟩
  | y :: l => by
    simp only [okL, Bool.and_eq_true, okL_iff (l := l), List.forall_mem_cons]
theorem dpL_iff {n : Nat} : ∀ {l : List D}, dpL l ≤ n ↔ ∀ x ∈ l, dpD x ≤ n
  | [] => ⟨fun _ x h => (by cases h), fun _ => Nat.zero_le _⟩
  | y :: l => by
    simp only [dpL, List.forall_mem_cons, ← dpL_iff (l := l)]
    omega
theorem toPyL_len : ∀ {l : List D} {ps : List PyData}, toPyL l = some ps → ps.length = l.length
  | [], ps, h => by simp only [toPyL] at h; cases h; rfl
  | x :: r, ps, h => by
    simp only [toPyL] at h
    cases q : toPy x with
    | none => rw [q] at h; cases h
    | some a =>
      rw [q] at h
      simp only at h
      cases q2 : toPyL r with
      | none => rw [q2] at h; cases h
      | some as => rw [q2] at h; cases h; simp [toPyL_len q2]
theorem eqD_nil {M : Mem} {l : List D} (h : okL l = true) (hd : dpL l ≤ 60) : eqD M (.lst l) (.lst []) = some l.isEmpty := by
  obtain ⟨ps, h1, h2, h3, h4⟩ := show_okL l h
  have hl := toPyL_len h1
  unfold eqD
  simp only [derefD, toPy, h1, toPyL, Option.map_some]
  rw [if_pos ⟨by simp only [PyData.depth]; omega, by simp [PyData.depth, PyData.depthAll]⟩]
  cases l with
  | nil =>
    cases ps with
    | nil => simp [PyData.eqv, PyData.eqvAll]
    | cons => cases hl
  | cons =>
    cases ps with
    | nil => cases hl
    | cons => simp [PyData.eqv, PyData.eqvAll]
theorem ne_nilD {C : Cfg} {M : Mem} {l : List D} (h : okL l = true) (hd : dpL l ≤ 60) : cmpC C .ne (.lst l) (.lst []) M = some (!l.isEmpty, M) := by
  show lft ((eqD M (.lst l) (.lst [])).map (!·)) M = _
  rw [eqD_nil h hd]; rfl
theorem eq_nilD {C : Cfg} {M : Mem} {l : List D} (h : okL l = true) (hd : dpL l ≤ 60) : cmpC C .eq (.lst l) (.lst []) M = some (l.isEmpty, M) := by
  show lft (eqD M (.lst l) (.lst [])) M = _
  rw [eqD_nil h hd]; rfl
theorem turn_c {C : Cfg} {t : Nat} {cond e : IR} {s : En} {x d : D} {b : Bool} {M : Mem} (ht : t < s.length) (hc : isNil cond = false) (h : ev C cond (s.set t (some x)) M = some (.bl b, M)) (h2 : ev C e (s.set t (some x)) M = some (d, M)) : turnE C [t] false cond e s x M = some (if b = true then [d] else [], M) := by
  simp only [turnE, bindT, if_neg Bool.false_ne_true, setAll, if_pos ht, lft_some, bnd_some, hc, Bool.false_eq_true, if_false, h, truD]
  cases b with
  | true => simp only [if_true, h2, bnd_some]
  | false => simp only [Bool.false_eq_true, if_false]
theorem e_cmp2_i {C : Cfg} {s : En} {M : Mem} {a b c : IR} {i j l : Int} (h1 : ev C a s M = some (.int i, M)) (h2 : ev C b s M = some (.int j, M)) (h3 : ev C c s M = some (.int l, M)) : ev C (.cmp2 .lt .lt a b c) s M = some (.bl (decide (i < j) && decide (j < l)), M) := by
  simp only [ev, h1, h2, h3, bnd_some, cmpD, ltD, lft_some, Option.map_some]
  by_cases q : i < j
  · simp [q]
  · simp [q]
/-- the law's own question -/
theorem isb_l {k : Nat} {M : Mem} {x : D} (ok : okR x = true) (hp : ∀ a b, x = .tup [a, b] → okD a = true ∧ okD b = true ∧ dpD a ≤ 50 ∧ dpD b ≤ 50) : callC (Ck (k + 1)) i_L_is_block [] [x] M = some (.bl (bkD x).isSome, M) := by
  refine call_ret (f := f_L_is_block) rfl rfl rfl ?_ rfl
  have h1 : ∀ {C : Cfg}, ev C (.isin (.var 0) .tup) [some x, none] M = some (.bl (isinD M x .tup), M) := fun {C} => e_isin rfl ok
  by_cases q : isinD M x .tup = true
  · obtain ⟨l, rfl⟩ := isin_tup q
    by_cases q2 : l.length = 2
    · match l, q2 with
      | [a, b], _ =>
        obtain ⟨oa, ob, da, db⟩ := hp a b rfl
        have hL : okL [a, b] = true := by simp [okL, oa, ob]
        have hO : ∀ z ∈ [a, b], okD z = true := okL_iff.mp hL
        have hD : ∀ z ∈ [a, b], dpD z ≤ 50 := fun z hz => by
          simp only [List.mem_cons, List.not_mem_nil, or_false] at hz
          rcases hz with rfl | rfl <;> assumption
        have fil : ∀ p : D → Bool, okL ([a, b].filter p) = true ∧ dpL ([a, b].filter p) ≤ 60 := fun p =>
          ⟨okL_iff.mpr fun z hz => hO z ((List.mem_filter.mp hz).1), Nat.le_trans (dpL_iff.mpr fun z hz => hD z ((List.mem_filter.mp hz).1)) (by decide)⟩
        have c0 : ev (Ck k) x_L_is_block_0 [some (.tup [a, b]), none] M = some (.lst ([a, b].filter fun z => !isinD M z .int), M) := by
          have := comp_st (C := Ck k) (s := [some (.tup [a, b]), none]) (M := M) (emb := id) (it := .val) (t := [1]) (tk := false) (src := .cons (.var 0) .nil) (cond := .not (.isin (.var 1) .int)) (e := .var 1) (xs := [a, b]) (fun z => !isinD M z .int) id (es_one (e_var rfl)) (it_val rfl) (fun z hz => turn_c (by simp [wipeE]) rfl (e_not (e_isin rfl (okR_of _ (hO z hz)))) (e_var rfl))
          rwa [List.map_id] at this
        have c1 : ev (Ck k) x_L_is_block_1 [some (.tup [a, b]), none] M = some (.lst ([a, b].filter fun z => isinD M z .bool), M) := by
          have := comp_st (C := Ck k) (s := [some (.tup [a, b]), none]) (M := M) (emb := id) (it := .val) (t := [1]) (tk := false) (src := .cons (.var 0) .nil) (cond := .isin (.var 1) .bool) (e := .var 1) (xs := [a, b]) (fun z => isinD M z .bool) id (es_one (e_var rfl)) (it_val rfl) (fun z hz => turn_c (by simp [wipeE]) rfl (e_isin rfl (okR_of _ (hO z hz))) (e_var rfl))
          rwa [List.map_id] at this
        have n0 := e_cmp c0 (b := .lst false .nil) (y := .lst []) (M2 := M) rfl (ne_nilD (C := Ck k) (M := M) (fil _).1 (fil _).2)
        have n1 := e_cmp c1 (b := .lst false .nil) (y := .lst []) (M2 := M) rfl (eq_nilD (C := Ck k) (M := M) (fil _).1 (fil _).2)
        have ln : ev (Ck k) (.cmp .ne (.blt .len (.cons (.var 0) .nil)) (.cst (.int 2))) [some (.tup [a, b]), none] M = some (.bl false, M) := tt (e_cmp (e_blt (es_one (e_var rfl)) (len_t2 _)) (y := .int 2) (M2 := M) rfl (ne_i _ _)) rfl
        by_cases z0 : ([a, b].filter fun z => !isinD M z .int) = []
        · refine s_cons (a_no (e_or (e_not (tt h1 q)) (e_or ln (tt n0 (by rw [z0]; rfl))))) (s_end (a_ret ?_))
          have hall : ∀ z ∈ [a, b], isinD M z .int = true := fun z hz => by
            have := List.filter_eq_nil_iff.mp z0 z hz
            simpa using this
          by_cases z1 : ([a, b].filter fun z => isinD M z .bool) = []
          · have hno : ∀ z ∈ [a, b], isinD M z .bool = false := fun z hz => by
              have := List.filter_eq_nil_iff.mp z1 z hz
              simpa using this
            have int : ∀ z ∈ [a, b], ∃ i, z = .int i := fun z hz => by
              have u := hall z hz
              have v := hno z hz
              cases z <;> first | exact ⟨_, rfl⟩ | (cases u; done) | (cases v; done)
            obtain ⟨i, rfl⟩ := int a (by simp)
            obtain ⟨j, rfl⟩ := int b (by simp)
            refine (e_and (tt n1 (by rw [z1]; rfl)) (e_cmp2_i (i := -1) rfl (e_ix0 rfl) (e_ix1 rfl))).trans ?_
            congr 3
            simp only [bkD]
            by_cases c : 0 ≤ i ∧ i < j
            · rw [if_pos c, decide_eq_true (show -1 < i by omega), decide_eq_true c.2]; rfl
            · rw [if_neg c]
              by_cases c1 : 0 ≤ i
              · rw [decide_eq_false (p := i < j) (fun h => c ⟨c1, h⟩)]; simp
              · rw [decide_eq_false (p := -1 < i) (by omega)]; simp
          · have e1 : ([a, b].filter fun z => isinD M z .bool).isEmpty = false := by simpa [List.isEmpty_iff] using z1
            refine (e_and2 (tt n1 e1) (y := false) (fun h => by cases h)).trans ?_
            congr 3
            obtain ⟨z, hz⟩ := List.exists_mem_of_ne_nil _ z1
            have hz1 := (List.mem_filter.mp hz).1
            have hz2 := (List.mem_filter.mp hz).2
            rw [bkD_not (fun i j e => ?_)]
            · rfl
            · cases e
              simp only [List.mem_cons, List.not_mem_nil, or_false] at hz1
              rcases hz1 with rfl | rfl <;> cases hz2
        · have e0 : ([a, b].filter fun z => !isinD M z .int).isEmpty = false := by simpa [List.isEmpty_iff] using z0
          obtain ⟨z, hz⟩ := List.exists_mem_of_ne_nil _ z0
          have hz1 := (List.mem_filter.mp hz).1
          have hz2 := (List.mem_filter.mp hz).2
          rw [bkD_not (fun i j e => ?_)]
          · exact s_end (a_if (e_or (e_not (tt h1 q)) (e_or ln (tt n0 (y := true) (by rw [e0]; rfl)))) (fun _ => s_end (a_ret rfl)) (fun h => by cases h))
          · cases e
            simp only [List.mem_cons, List.not_mem_nil, or_false] at hz1
            rcases hz1 with rfl | rfl <;> cases hz2
    · rw [bkD_not (fun a b e => by cases e; exact q2 rfl)]
      exact s_end (a_if (e_or (e_not (tt h1 q)) (e_or1 (tt (e_cmp (e_blt (es_one (e_var rfl)) (len_t2 _)) (y := .int 2) (M2 := M) rfl (ne_i _ _)) (y := true) (by rw [decide_eq_false (by omega)]; rfl)))) (fun _ => s_end (a_ret rfl)) (fun h => by cases h))
  · rw [bkD_not (fun a b e => by subst e; exact q rfl)]
    have q : isinD M x .tup = false := by simpa using q
    exact s_end (a_if (e_or1 (tt (e_not h1) (y := true) (by rw [q]; rfl))) (fun _ => s_end (a_ret rfl)) (fun h => by cases h))
/-! ### things -/
structure ThD (x : D) : Prop where
  ok : okR x = true
  sz : szD x ≤ 40000
  dp : dpD x ≤ 5
  pp : ∀ a b, x = .tup [a, b] → okD a = true ∧ okD b = true
  bd : ∀ i j, x = .tup [.int i, .int j] → j < 10 ^ 41
theorem ThD.isb {x : D} (h : ThD x) {k : Nat} {M : Mem} : callC (Ck (k + 1)) i_L_is_block [] [x] M = some (.bl (bkD x).isSome, M) := isb_l h.ok fun a b e => by
  obtain ⟨h1, h2⟩ := h.pp a b e
  have h3 := h.dp
  subst e
  simp only [dpD, dpL] at h3
  exact ⟨h1, h2, by omega, by omega⟩
theorem ThD.blk {x : D} (h : ThD x) {b : Bk} (e : bkD x = some b) : x = pr b ∧ 0 ≤ b.1 ∧ b.1 < b.2 ∧ b.2 < 10 ^ 41 := by
  unfold bkD at e
  split at e
  · rename_i i j
    split at e
    · rename_i c
      cases e
      exact ⟨rfl, c.1, c.2, h.bd i j rfl⟩
    · cases e
  · cases e
/-- the same by computing -/
def thB (x : D) : Bool := okR x && decide (szD x ≤ 40000) && decide (dpD x ≤ 5) && match x with
  | .tup [.int i, .int j] => decide (j < 10 ^ 41) && okD (.int i) && okD (.int j)
  | .tup [a, b] => okD a && okD b
  | _ => true
theorem thB_ok {x : D} (h : thB x = true) : ThD x := by
  unfold thB at h
  simp only [Bool.and_eq_true, decide_eq_true_eq] at h
  obtain ⟨⟨⟨h1, h2⟩, h3⟩, h4⟩ := h
  refine ⟨h1, h2, h3, fun a b e => ?_, fun i j e => ?_⟩
  · subst e
    split at h4
    · rename_i e2
      cases e2
      simp only [Bool.and_eq_true] at h4
      exact ⟨h4.1.2, h4.2⟩
    · rename_i e2
      cases e2
      simpa only [Bool.and_eq_true] using h4
    · rename_i h5
      exact absurd rfl (h5 a b)
  · subst e
    simp only [Bool.and_eq_true, decide_eq_true_eq] at h4
    exact h4.1.1
end Dn

set_option Elab.async false
set_option linter.all false
set_option maxRecDepth 100000
set_option maxHeartbeats 4000000
namespace Dn
open PySem L2 M02
/-! GL: constants, comprehensions that draw, how a law ends. -/
mutual
/-- the value of a written constant -/
def cstD : IR → Option D
  | .cst d => some d
  | .dict0 => some .emp
  | .dict1 ks v => some (.dkt ks v)
  | .neg a => match cstD a with
    | some (.int i) => some (.int (-i))
    | _ => none
  | .tup l => match cstDs l with
    | some xs => fitL xs.length (.tup xs)
    | none => none
  | .lst k l => if k = true then none else match cstDs l with
    | some xs => fitL xs.length (.lst xs)
    | none => none
  | _ => none
def cstDs : IR → Option (List D)
  | .nil => some []
  | .cons a r => match cstD a, cstDs r with
    | some x, some xs => some (x :: xs)
    | _, _ => none
  | _ => none
end
theorem cst_ok {C : Cfg} {s : En} {M : Mem} : ∀ e : IR, (∀ d, cstD e = some d → ev C e s M = some (d, M)) ∧ (∀ ds, cstDs e = some ds → evs C e s M = some (ds, M)) := by
  intro e
  induction e with
  | cst d => exact ⟨fun x h => by simp only [cstD] at h; cases h; rfl, fun x h => by simp [cstDs] at h⟩
  | dict0 => exact ⟨fun x h => by simp only [cstD] at h; cases h; rfl, fun x h => by simp [cstDs] at h⟩
  | dict1 ks v => exact ⟨fun x h => by simp only [cstD] at h; cases h; rfl, fun x h => by simp [cstDs] at h⟩
  | neg a iha =>
    refine ⟨fun x h => ?_, fun x h => by simp [cstDs] at h⟩
    simp only [cstD] at h
    split at h
    · rename_i i q
      cases h
      simp only [ev, iha.1 _ q, bnd_some]
    · cases h
  | tup l ihl =>
    refine ⟨fun x h => ?_, fun x h => by simp [cstDs] at h⟩
    simp only [cstD] at h
    split at h
    · rename_i xs q
      simp only [ev, ihl.2 _ q, bnd_some, h, lft_some]
    · cases h
  | lst k l ihl =>
    refine ⟨fun x h => ?_, fun x h => by simp [cstDs] at h⟩
    simp only [cstD] at h
    split at h
    · cases h
    · rename_i hk
      split at h
      · rename_i xs q
        obtain ⟨h1, h2⟩ := fitL_some h
        subst h2
        simp only [ev, ihl.2 _ q, bnd_some, fitL, if_pos h1, lft_some, newL, if_neg hk]
      · cases h
  | nil => exact ⟨fun x h => by simp [cstD] at h, fun x h => by simp only [cstDs] at h; cases h; rfl⟩
  | cons a r iha ihr =>
    refine ⟨fun x h => by simp [cstD] at h, fun x h => ?_⟩
    simp only [cstDs] at h
    split at h
    · rename_i y ys q1 q2
      cases h
      simp only [evs, iha.1 _ q1, ihr.2 _ q2, bnd_some]
    · cases h
  | _ => exact ⟨fun x h => by simp [cstD] at h, fun x h => by simp [cstDs] at h⟩
theorem e_cst {C : Cfg} {s : En} {M : Mem} {e : IR} {d : D} (h : cstD e = some d) : ev C e s M = some (d, M) := (cst_ok e).1 d h
def valsOf (e : IR) : List D := match cstD e with
  | some (.lst l) => l
  | _ => []
def isL (e : IR) : Bool := match cstD e with
  | some (.lst _) => true
  | _ => false
theorem e_vals {C : Cfg} {s : En} {M : Mem} {e : IR} (h : isL e = true) : ev C e s M = some (.lst (valsOf e), M) := by
  unfold isL at h
  split at h
  · rename_i l q
    have : valsOf e = l := by unfold valsOf; rw [q]
    rw [this]
    exact e_cst q
  · cases h
/-- a written list whose items are all so -/
theorem lit_ok {p : D → Bool} {e : IR} (h : isL e = true) (h2 : (valsOf e).all p = true) (h3 : (valsOf e).length ≤ 100) : ∃ l : List D, (∀ (C : Cfg) (s : En) (M : Mem), ev C e s M = some (.lst l, M)) ∧ (∀ v ∈ l, p v = true) ∧ l.length ≤ 100 :=
  ⟨valsOf e, fun C s M => e_vals h, fun v hv => List.all_eq_true.mp h2 v hv, h3⟩
def rhs : SR → IR
  | .asg _ e => e
  | _ => .nil
def addR : SR → IR
  | .asg _ (.bin _ _ e) => e
  | _ => .nil
theorem e_lstL {C : Cfg} {s : En} {M M1 : Mem} {l : IR} {xs : List D} (h : evs C l s M = some (xs, M1)) (hl : xs.length ≤ sizeLine) : ev C (.lst false l) s M = some (.lst xs, M1) := by
  simp only [ev, h, bnd_some, fitL, if_pos hl, lft_some, newL, if_neg Bool.false_ne_true]
def srcR : SR → IR
  | .loop _ _ (.cons (.bin _ _ e) _) _ => e
  | _ => .nil
/-! ### comprehensions -/
theorem comp_go {C : Cfg} {s : En} {M M1 M2 : Mem} {it : ItK} {t : List Nat} {tk : Bool} {src cond e : IR} {ds xs ys : List D} (hs : evs C src s M = some (ds, M1)) (hi : itD it ds M1 = some (.st xs)) (h : compS (turnE C t tk cond e (wipeE s t)) xs M1 = some (ys, M2)) :
    ev C (.comp false t tk it src cond e) s M = some (.lst ys, M2) := by
  show bnd (evs C src s M) (fun xs M' => bnd (lft (itD it xs M') M') fun q M' => bnd (compGo (turnE C t tk cond e (wipeE s t)) q M') fun ys M' => newL false ys M') = _
  rw [hs]
  simp only [bnd_some, hi, lft_some, compGo, h, newL, if_neg Bool.false_ne_true]
/-- each turn draws -/
theorem comp_nx {n : Nat} {P : D → Prop} {f : D → Mem → Rs (List D)} {q : Int} (q0 : 0 ≤ q) : ∀ (xs : List D), (∀ x ∈ xs, ∀ M a b c, PurOk M n a b c → c + q < 1000000 → ∃ d M' c', f x M = some ([d], M') ∧ Nx M n c M' c' ∧ c' ≤ c + q ∧ P d) →
    ∀ M a b c, PurOk M n a b c → c + q * xs.length < 1000000 → ∃ ds M' c', compS f xs M = some (ds, M') ∧ Nx M n c M' c' ∧ c' ≤ c + q * xs.length ∧ ds.length = xs.length ∧ ∀ d ∈ ds, P d
  | [], _, M, a, b, c, p, _ => ⟨[], M, c, rfl, .refl p, by simp, rfl, fun _ h => by cases h⟩
  | x :: xs, h, M, a, b, c, p, hc => by
    have e : q * ((x :: xs).length : Nat) = q * (xs.length : Nat) + q := by
      rw [List.length_cons, Int.natCast_add, Int.mul_add]; simp
    have e0 : 0 ≤ q * (xs.length : Nat) := Int.mul_nonneg q0 (by omega)
    rw [e] at hc ⊢
    obtain ⟨d, M1, c1, e1, y1, d1, p1⟩ := h x List.mem_cons_self M a b c p (by omega)
    obtain ⟨a1, b1, _, pp⟩ := id y1
    obtain ⟨ds, M2, c2, e2, y2, d2, l2, p2⟩ := comp_nx q0 xs (fun z hz => h z (List.mem_cons_of_mem _ hz)) M1 a1 b1 c1 pp (by omega)
    refine ⟨d :: ds, M2, c2, ?_, y1.trans y2, by omega, by rw [List.length_cons, List.length_cons, l2], fun z hz => ?_⟩
    · simp only [compS, e1, bnd_some, e2]; rfl
    · rcases List.mem_cons.mp hz with rfl | hz
      · exact p1
      · exact p2 z hz
/-- each turn keeps the store in order -/
theorem comp_inv {P : Mem → Prop} {f : D → Mem → Rs (List D)} {g : D → D} : ∀ (xs : List D), (∀ x ∈ xs, ∀ M, P M → ∃ M', f x M = some ([g x], M') ∧ P M') → ∀ M, P M → ∃ M', compS f xs M = some (xs.map g, M') ∧ P M'
  | [], _, M, p => ⟨M, rfl, p⟩
  | x :: xs, h, M, p => by
    obtain ⟨M1, e1, p1⟩ := h x List.mem_cons_self M p
    obtain ⟨M2, e2, p2⟩ := comp_inv xs (fun z hz => h z (List.mem_cons_of_mem _ hz)) M1 p1
    exact ⟨M2, by simp only [compS, e1, bnd_some, e2]; rfl, p2⟩
/-! ### the law's end -/
theorem law_count {C : Cfg} {M : Mem} {ns : List Int} {s : En} {c : Int} (hc : 0 ≤ c) : ∃ N : Nat, evs C (.cons (.blt .max2 (.cons (.cst (.int 2)) (.cons (.blt .min2 (.cons (.blt .len (.cons (.var 0) .nil)) (.cons (.cst (.int c)) .nil))) .nil))) .nil) (some (.ro (ns.map .int)) :: s) M = some ([.int (N : Nat)], M) ∧ (N : Int) ≤ c + 2 := by
  have ln : lenB M [.ro (ns.map .int)] = some (.int (ns.length : Nat)) := by simp only [lenB, seqD, Option.map_some, List.length_map]
  generalize ns.map D.int = R at ln ⊢
  by_cases q : c < (ns.length : Int)
  · by_cases q2 : (2 : Int) < c
    · refine ⟨c.toNat, ?_, by omega⟩
      simp only [evs, ev, List.getElem?_cons_zero, bnd_some, ln, bltC, bltD, max2B, min2B, lft_some, if_pos q, if_pos (show c > 2 from q2)]
      rw [show ((c.toNat : Nat) : Int) = c by omega]
    · refine ⟨2, ?_, by omega⟩
      simp only [evs, ev, List.getElem?_cons_zero, bnd_some, ln, bltC, bltD, max2B, min2B, lft_some, if_pos q, if_neg (show ¬ c > 2 from q2)]
      rfl
  · by_cases q2 : (2 : Int) < (ns.length : Int)
    · refine ⟨ns.length, ?_, by omega⟩
      simp only [evs, ev, List.getElem?_cons_zero, bnd_some, ln, bltC, bltD, max2B, min2B, lft_some, if_neg q, if_pos (show (ns.length : Int) > 2 from q2)]
    · refine ⟨2, ?_, by omega⟩
      simp only [evs, ev, List.getElem?_cons_zero, bnd_some, ln, bltC, bltD, max2B, min2B, lft_some, if_neg q, if_neg (show ¬ (ns.length : Int) > 2 from q2)]
      rfl
theorem exit0 {M : Mem} {b : Bool} : ∃ M', exitF 0 (.bl b) M = some (.bl b, M') := by
  unfold exitF
  by_cases q : M.length = 0
  · exact ⟨M, if_pos q⟩
  · rw [if_neg q]
    refine ⟨[], ?_⟩
    rw [if_pos ⟨rfl, by simp, by omega⟩]
    simp [frzD]
theorem cf_out {k i : Nat} {f : FnD} {xs : List D} {M M' : Mem} {d : D} (hf : tab.fns[i]? = some f) (hx : xs.length = f.np) (hk : f.keep = false) (hb : evS (Ck k) f.body (xs.map some ++ List.replicate (f.ns - f.np) none) M = some (.rt d, M')) : callF tab 1000 (k + 1) i xs M = exitF M.length d M' := by
  rw [cf_eq hf hx, hb, bnd_some, hk, fin_rt]
/-! ### sizes -/
theorem szL_le {Z : Nat} : ∀ {l : List D}, (∀ x ∈ l, szD x ≤ Z) → szL l ≤ l.length * (Z + 2)
  | [], _ => Nat.zero_le _
  | x :: l, h => by
    have h1 := h x List.mem_cons_self
    have h2 := szL_le (l := l) fun y hy => h y (List.mem_cons_of_mem _ hy)
    simp only [szL, List.length_cons, Nat.add_mul]
    omega
theorem abs_log {i : Int} (h1 : -(10 ^ 45) < i) (h2 : i < 10 ^ 45) : i.natAbs.log2 < 1920 := by
  refine log_lt ?_
  have h3 : (10 : Nat) ^ 45 < 2 ^ 1920 := by decide +kernel
  have h4 : i.natAbs ≤ 10 ^ 45 := by omega
  exact Nat.lt_of_le_of_lt h4 h3
end Dn

set_option Elab.async false
set_option linter.all false
set_option maxRecDepth 100000
set_option maxHeartbeats 4000000
namespace Dn
open PySem L2 M02
/-! GF2: things with drawn numbers. -/
/-- ints of moderate size -/
def Mo (i : Int) : Prop := -(10 ^ 41) < i ∧ i < 10 ^ 41
theorem Mo.log {i : Int} (h : Mo i) : i.natAbs.log2 < 1920 := abs_log (by have := h.1; have e : (10 : Int) ^ 41 < 10 ^ 45 := by decide
                                                                          omega) (by have := h.2; have e : (10 : Int) ^ 41 < 10 ^ 45 := by decide
                                                                                     omega)
theorem th_pair {i j : Int} (hi : Mo i) (hj : Mo j) : ThD (.tup [.int i, .int j]) := by
  refine ⟨by simp [okR, okRL, hi.log, hj.log], by simp [szD, szL], by simp [dpD, dpL], fun a b e => ?_, fun a b e => ?_⟩
  · cases e; simp [okD, hi.log, hj.log]
  · cases e; exact hj.2
theorem th_list {i j : Int} (hi : Mo i) (hj : Mo j) : ThD (.lst [.int i, .int j]) :=
  ⟨by simp [okR, okRL, hi.log, hj.log], by simp [szD, szL], by simp [dpD, dpL], fun a b e => (by cases e), fun a b e => (by cases e)⟩
theorem th_int {i : Int} (hi : Mo i) : ThD (.int i) := ⟨by simp [okR, hi.log], by simp [szD], by simp [dpD], fun a b e => (by cases e), fun a b e => (by cases e)⟩
theorem th_one {i : Int} (hi : Mo i) : ThD (.tup [.int i]) := ⟨by simp [okR, okRL, hi.log], by simp [szD, szL], by simp [dpD, dpL], fun a b e => (by cases e), fun a b e => (by cases e)⟩
theorem th_three {i j l : Int} (hi : Mo i) (hj : Mo j) (hl : Mo l) : ThD (.tup [.int i, .int j, .int l]) := ⟨by simp [okR, okRL, hi.log, hj.log, hl.log], by simp [szD, szL], by simp [dpD, dpL], fun a b e => (by cases e), fun a b e => (by cases e)⟩
theorem th_non {i : Int} (hi : Mo i) : ThD (.tup [.int i, .non]) := by
  refine ⟨by simp [okR, okRL, hi.log], by simp [szD, szL], by simp [dpD, dpL], fun a b e => ?_, fun a b e => (by cases e)⟩
  cases e; simp [okD, hi.log]
theorem cut_sub {l : List D} {lo hi : Option Int} : (∀ x ∈ cutD l lo hi, x ∈ l) ∧ (cutD l lo hi).length ≤ l.length := by
  obtain ⟨m, e, h1, h2⟩ := cut_of (id : D → D) l lo hi
  rw [List.map_id, List.map_id] at e
  rw [e]
  exact ⟨h1, h2⟩
theorem e_slL {C : Cfg} {s : En} {M : Mem} {i : Nat} {l : List D} {lo hi : Option Int} {a b : IR} (h : s[i]? = some (some (.lst l))) (ha : (a = .nil ∧ lo = none) ∨ ∃ z, a = .cst (.int z) ∧ lo = some z) (hb : (b = .nil ∧ hi = none) ∨ ∃ z, b = .cst (.int z) ∧ hi = some z) :
    ev C (.blt .tuple (.cons (.slice (.var i) a b) .nil)) s M = some (.tup (cutD l lo hi), M) := by
  have e : ev C (.slice (.var i) a b) s M = some (.lst (cutD l lo hi), M) := by
    rcases ha with ⟨rfl, rfl⟩ | ⟨z, rfl, rfl⟩ <;> rcases hb with ⟨rfl, rfl⟩ | ⟨w, rfl, rfl⟩ <;> simp [ev, h, isNil, partI, sliceD, lstD]
  refine e_blt (es_one e) rfl
theorem bkD_pr {b : Bk} (h0 : 0 ≤ b.1) (h1 : b.1 < b.2) : bkD (pr b) = some b := by
  unfold pr bkD
  simp only
  rw [if_pos ⟨h0, h1⟩]
theorem pr_th {b : Bk} (h0 : 0 ≤ b.1) (h1 : b.1 < b.2) (h2 : b.2 < 10 ^ 41) : ThD (pr b) := by
  have e : (10 : Int) ^ 41 < 10 ^ 45 := by decide
  have l1 : b.1.natAbs.log2 < 1920 := sml_log h0 (by omega)
  have l2 : b.2.natAbs.log2 < 1920 := sml_log (by omega) (by omega)
  refine ⟨by simp [pr, okR, okRL, l1, l2], by simp [pr, szD, szL], by simp [pr, dpD, dpL], fun x y e => ?_, fun i j e => ?_⟩
  · unfold pr at e; cases e; simp [okD, l1, l2]
  · unfold pr at e; cases e; exact h2
end Dn

set_option Elab.async false
set_option linter.all false
set_option maxRecDepth 100000
set_option maxHeartbeats 4000000
namespace Dn
open PySem L2 M02
/-! GSa: sets (class Pieces): merged, made, their text. -/
def mbody (k : Nat) : D → En → Mem → Rs Fl := fun x s M => bnd (asgT (Ck k) (.tup (.cons (.v 2) (.cons (.v 3) .nil))) x s M) fun s' M => evS (Ck k)
  (.seq (.iff (.and (.var 1) (.cmp .le (.var 2) (.idx (.idx (.var 1) (.neg (.cst (.int 1)))) (.cst (.int 1))))) (.seq (.asg (.ix (.var 1) (.neg (.cst (.int 1)))) (.tup (.cons (.idx (.idx (.var 1) (.neg (.cst (.int 1)))) (.cst (.int 0))) (.cons (.blt .max2 (.cons (.idx (.idx (.var 1) (.neg (.cst (.int 1)))) (.cst (.int 1))) (.cons (.var 3) .nil))) .nil)))) .nil) (.seq (.ex (.meth .append (.var 1) (.cons (.tup (.cons (.var 2) (.cons (.var 3) .nil))) .nil))) .nil)) .nil) s' M
def mloopI : SR := .loop (.tup (.cons (.v 2) (.cons (.v 3) .nil))) .val (.cons (.blt .sorted (.cons (.var 0) .nil)) .nil)
  (.seq (.iff (.and (.var 1) (.cmp .le (.var 2) (.idx (.idx (.var 1) (.neg (.cst (.int 1)))) (.cst (.int 1))))) (.seq (.asg (.ix (.var 1) (.neg (.cst (.int 1)))) (.tup (.cons (.idx (.idx (.var 1) (.neg (.cst (.int 1)))) (.cst (.int 0))) (.cons (.blt .max2 (.cons (.idx (.idx (.var 1) (.neg (.cst (.int 1)))) (.cst (.int 1))) (.cons (.var 3) .nil))) .nil)))) .nil) (.seq (.ex (.meth .append (.var 1) (.cons (.tup (.cons (.var 2) (.cons (.var 3) .nil))) .nil))) .nil)) .nil)
theorem mstep {k : Nat} {M : Mem} {blk x y : Option D} {don : List D} {cur b : Bk} (hz : don.length + 1 < sizeLine) :
    mbody k (pr b) [blk, some (.cell M.length), x, y] (M ++ [.lst (don ++ [pr cur])]) =
      some (.nx [blk, some (.cell M.length), some (.int b.1), some (.int b.2)], M ++ [.lst (if b.1 ≤ cur.2 then don ++ [pr (cur.1, if b.2 > cur.2 then b.2 else cur.2)] else don ++ [pr cur] ++ [pr b])]) := by
  have a1 : atD [D.int cur.1, D.int cur.2] 1 = some (.int cur.2) := rfl
  have a0 : atD [D.int cur.1, D.int cur.2] 0 = some (.int cur.1) := rfl
  have f2 : ∀ z : D, fitL 2 z = some z := fun z => if_pos (by decide)
  by_cases q : b.1 ≤ cur.2
  · simp [mbody, pr, asgT, asgTs, evS, ev, evs, truD, seqD, idxD, atD_last, a1, a0, cmpC, cmpD, leD, q, bltC, bltD, max2B, f2, setIxD, ixN_last]
  · simp [mbody, pr, asgT, asgTs, evS, ev, evs, truD, seqD, idxD, atD_last, a1, a0, cmpC, cmpD, leD, q, f2, preM, mthC, hz]
theorem mfirst {k : Nat} {M : Mem} {blk x y : Option D} {b : Bk} :
    mbody k (pr b) [blk, some (.cell M.length), x, y] (M ++ [.lst []]) = some (.nx [blk, some (.cell M.length), some (.int b.1), some (.int b.2)], M ++ [.lst [pr b]]) := by
  have f2 : ∀ z : D, fitL 2 z = some z := fun z => if_pos (by decide)
  have z0 : (0 : Nat) < sizeLine := by decide
  simp [mbody, pr, asgT, asgTs, evS, ev, evs, truD, seqD, f2, preM, mthC, z0]
theorem mloop {k : Nat} {M : Mem} {blk : Option D} : ∀ (rest : List Bk) (don : List Bk) (cur : Bk) (x y : Option D), don.length + rest.length + 1 < sizeLine →
    ∃ x' y', forS (mbody k) (rest.map pr) [blk, some (.cell M.length), x, y] (M ++ [.lst (don.map pr ++ [pr cur])]) = some (.nx [blk, some (.cell M.length), x', y'], M ++ [.lst ((don ++ mg cur rest).map pr)])
  | [], don, cur, x, y, _ => ⟨x, y, by simp [forS, mg]⟩
  | b :: rest, don, cur, x, y, hz => by
    simp only [List.length_cons] at hz
    have st := mstep (k := k) (M := M) (blk := blk) (x := x) (y := y) (don := don.map pr) (cur := cur) (b := b) (by rw [List.length_map]; omega)
    rw [List.map_cons, forS, st]
    simp only [bnd_some]
    by_cases q : b.1 ≤ cur.2
    · rw [if_pos q]
      obtain ⟨x', y', e⟩ := mloop rest don (cur.1, if b.2 > cur.2 then b.2 else cur.2) (some (.int b.1)) (some (.int b.2)) (by omega)
      exact ⟨x', y', by rw [e, mg, if_pos q]⟩
    · rw [if_neg q]
      obtain ⟨x', y', e⟩ := mloop rest (don ++ [cur]) b (some (.int b.1)) (some (.int b.2)) (by rw [List.length_append, List.length_singleton]; omega)
      rw [List.map_append] at e
      refine ⟨x', y', ?_⟩
      rw [show don.map pr ++ [pr cur] ++ [pr b] = don.map pr ++ [cur].map pr ++ [pr b] from rfl, e, mg, if_neg q, List.append_assoc]
      rfl
def mgd (l : List Bk) : List Bk := mergeL (sortP l)
theorem merged_ok {k : Nat} {M : Mem} {l : List Bk} (hw : Wf M) (hz : l.length < 100000) : callC (Ck (k + 1)) i_merged [] [.tup (l.map pr)] M = some (.tup ((mgd l).map pr), M) := by
  rw [call_eq (f := f_merged) rfl rfl]
  have hs : (sizeLine : Nat) = 16777216 := rfl
  have hl := sortP_len l
  have loop : ∃ x' y', forS (mbody k) ((sortP l).map pr) [some (.tup (l.map pr)), some (.cell M.length), none, none] (M ++ [.lst []]) = some (.nx [some (.tup (l.map pr)), some (.cell M.length), x', y'], M ++ [.lst ((mgd l).map pr)]) := by
    unfold mgd
    cases h : sortP l with
    | nil => exact ⟨none, none, rfl⟩
    | cons b r =>
      rw [h, List.length_cons] at hl
      obtain ⟨x', y', e⟩ := mloop (k := k) (M := M) (blk := some (.tup (l.map pr))) r [] b (some (.int b.1)) (some (.int b.2)) (by rw [List.length_nil]; omega)
      refine ⟨x', y', ?_⟩
      rw [List.map_cons, forS, mfirst]
      simp only [bnd_some]
      rw [show (M ++ [MO.lst [pr b]]) = M ++ [MO.lst (([] : List Bk).map pr ++ [pr b])] from rfl, e]
      rfl
  obtain ⟨x', y', e⟩ := loop
  have fin1 : exitF M.length (.tup ((mgd l).map pr)) (M ++ [MO.lst ((mgd l).map pr)]) = some (.tup ((mgd l).map pr), M) := by
    unfold exitF
    rw [if_neg (by rw [List.length_append, List.length_singleton]; omega)]
    have h1 : frzD (M ++ [MO.lst ((mgd l).map pr)]) M.length (.tup ((mgd l).map pr)) = .tup ((mgd l).map pr) := rfl
    rw [h1, if_pos ⟨below_row _ _, by rw [List.take_left]; have := hw.all M.length M.length; rwa [List.take_length] at this, by rw [List.length_append]; omega⟩, List.take_left]
  have L : evS (Ck k) mloopI [some (.tup (l.map pr)), some (.cell M.length), none, none] (M ++ [.lst []]) = some (.nx [some (.tup (l.map pr)), some (.cell M.length), x', y'], M ++ [.lst ((mgd l).map pr)]) := by
    show bnd (evs (Ck k) (.cons (.blt .sorted (.cons (.var 0) .nil)) .nil) [some (.tup (l.map pr)), some (.cell M.length), none, none] (M ++ [.lst []])) (fun xs M' => bnd (lft (itD .val xs M') M') fun q M' => forGo (mbody k) q [some (.tup (l.map pr)), some (.cell M.length), none, none] M') = _
    simp [ev, evs, bltC, bltD, sortedB, seqD, sort_pr, itD, itemsD, forGo, e]
  rw [show f_merged.body = .seq (.asg (.v 1) (.lst true .nil)) (.seq mloopI (.seq (.ret (.blt .tuple (.cons (.var 1) .nil))) .nil)) from rfl]
  simp [f_merged, evS, ev, evs, fitL, newL, bltC, bltD, seqD, asgT, L, tupleB, fin1]
/-- a set made of the row l -/
def pc (l : List Bk) : D := .obj c_Pieces [.tup ((mgd l).map pr)]
def ibodyI : SR := .seq (.iff (.not (.call i_is_block [] (.cons (.var 3) .nil) .nil)) (.seq (.raise x_InvalidBlocks (.cons (.var 2) .nil)) .nil) .nil) .nil
def ibody (k : Nat) : D → En → Mem → Rs Fl := fun x s M => bnd (asgT (Ck k) (.tup (.cons (.v 2) (.cons (.v 3) .nil))) x s M) fun s' M => evS (Ck k) ibodyI s' M
def iloopI : SR := .loop (.tup (.cons (.v 2) (.cons (.v 3) .nil))) .enum (.cons (.var 1) .nil) ibodyI
theorem iloop {k : Nat} {c r : Option D} {M : Mem} : ∀ (l : List Bk) (j : Nat) (x y : Option D), Val l → ∃ x' y', forS (ibody (k + 3)) (enumFrom j (l.map pr)) [c, r, x, y] M = some (.nx [c, r, x', y'], M)
  | [], _, x, y, _ => ⟨x, y, rfl⟩
  | b :: l, j, x, y, h => by
    obtain ⟨h0, h1⟩ := h b List.mem_cons_self
    obtain ⟨x', y', e⟩ := iloop (k := k) (c := c) (r := r) (M := M) l (j + 1) (some (.int (j : Nat))) (some (pr b)) fun b' m => h b' (List.mem_cons_of_mem _ m)
    refine ⟨x', y', ?_⟩
    rw [List.map_cons, enumFrom, forS]
    have st : ibody (k + 3) (.tup [.int (j : Nat), pr b]) [c, r, x, y] M = some (.nx [c, r, some (.int (j : Nat)), some (pr b)], M) := by
      simp [ibody, ibodyI, asgT, asgTs, evS, ev, evs, is_block_p h0 h1, truD]
    rw [st]
    exact e
theorem init_ok {k : Nat} {M : Mem} {l : List Bk} (hw : Wf M) (hv : Val l) (hz : l.length < 100000) :
    callF tab 1000 (k + 4) i_Pieces_init [.cell M.length, .tup (l.map pr)] (M ++ [.ins c_Pieces []]) = some (D.non, M ++ [MO.ins c_Pieces [(q_row, D.tup ((mgd l).map pr))]]) := by
  rw [cf_eq (f := f_Pieces_init) rfl rfl]
  obtain ⟨x', y', e⟩ := iloop (k := k) (c := some (.cell M.length)) (r := some (.tup (l.map pr))) (M := M ++ [MO.ins c_Pieces []]) l 0 none none hv
  have L : evS (Ck (k + 3)) iloopI [some (.cell M.length), some (.tup (l.map pr)), none, none] (M ++ [.ins c_Pieces []]) = some (.nx [some (.cell M.length), some (.tup (l.map pr)), x', y'], M ++ [.ins c_Pieces []]) := by
    show bnd (evs (Ck (k + 3)) (.cons (.var 1) .nil) [some (.cell M.length), some (.tup (l.map pr)), none, none] (M ++ [.ins c_Pieces []])) (fun xs M' => bnd (lft (itD .enum xs M') M') fun q M' => forGo (ibody (k + 3)) q [some (.cell M.length), some (.tup (l.map pr)), none, none] M') = _
    simp [ev, evs, itD, rowD, forGo, e]
  have mk := merged_ok (k := k + 2) (M := M ++ [MO.ins c_Pieces []]) (hw.app (o := MO.ins c_Pieces []) rfl) hz
  rw [show f_Pieces_init.body = .seq (.iff (.not (.isin (.var 1) .tup)) (.seq (.raise x_InvalidBlocks (.cons (.cst .non) .nil)) .nil) .nil) (.seq iloopI (.seq (.asg (.fld (.var 0) q_row) (.call i_merged [] (.cons (.var 1) .nil) .nil)) .nil)) from rfl]
  have ex : exitF (M ++ [MO.ins c_Pieces []]).length .non (M ++ [MO.ins c_Pieces [(q_row, .tup ((mgd l).map pr))]]) = some (D.non, M ++ [MO.ins c_Pieces [(q_row, D.tup ((mgd l).map pr))]]) := by
    unfold exitF
    rw [if_pos (by simp)]
  have hk : k_Pieces.flds.contains q_row = true := rfl
  simp only [List.length_append, List.length_singleton] at ex
  simp [f_Pieces_init, evS, ev, evs, isinOk, isinD, truD, L, mk, asgT, setFldD, tab, putN, ex, k_Pieces]
theorem mk_of {k : Nat} {M : Mem} {l : List Bk} {ks : List Nat} {xs : List D} (hw : Wf M) (hv : Val l) (hz : l.length < 100000) (ha : arr 2 [.tup []] ks (.cell M.length :: xs) = some [.cell M.length, .tup (l.map pr)]) :
    mkC (Ck (k + 4)) 0 ks xs M = some (pc l, M) := by
  have i := init_ok (k := k) hw hv hz
  have c : callC (Ck (k + 4)) i_Pieces_init ks (.cell M.length :: xs) (M ++ [.ins c_Pieces []]) = some (D.non, M ++ [MO.ins c_Pieces [(q_row, D.tup ((mgd l).map pr))]]) := by
    unfold callC argsC
    show (match (match tab.fns[i_Pieces_init]? with | some g => arr g.np g.dflt ks (.cell M.length :: xs) | none => none) with | some ys => callF tab 1000 (k + 4) i_Pieces_init ys (M ++ [MO.ins c_Pieces []]) | none => none) = _
    rw [show tab.fns[i_Pieces_init]? = some f_Pieces_init from rfl]
    simp only
    rw [show arr f_Pieces_init.np f_Pieces_init.dflt ks (.cell M.length :: xs) = some [.cell M.length, .tup (l.map pr)] from ha]
    exact i
  unfold mkC
  rw [show (Ck (k + 4)).T.cls[c_Pieces]? = some k_Pieces from rfl]
  simp only
  rw [show k_Pieces.init = i_Pieces_init from rfl, c]
  have b1 : belowL M.length [D.tup ((mgd l).map pr)] = true := by
    show (below M.length (.tup ((mgd l).map pr)) && true) = true
    rw [below_row]; rfl
  have b2 := hw.all M.length M.length
  rw [List.take_length] at b2
  have g : (M ++ [MO.ins c_Pieces [(q_row, D.tup ((mgd l).map pr))]])[M.length]? = some (.ins c_Pieces [(q_row, D.tup ((mgd l).map pr))]) := by simp
  simp only [bnd_some, g]
  rw [if_pos ⟨trivial, rfl, by simp, b1, by rw [List.take_left]; exact b2⟩, List.take_left]
  rfl
theorem mk1 {k : Nat} {M : Mem} {l : List Bk} (hw : Wf M) (hv : Val l) (hz : l.length < 100000) : mkC (Ck (k + 4)) c_Pieces [] [.tup (l.map pr)] M = some (pc l, M) := mk_of hw hv hz rfl
theorem mkk {k : Nat} {M : Mem} {l : List Bk} (hw : Wf M) (hv : Val l) (hz : l.length < 100000) : mkC (Ck (k + 4)) c_Pieces [1] [.tup (l.map pr)] M = some (pc l, M) := mk_of hw hv hz rfl
theorem mk0 {k : Nat} {M : Mem} (hw : Wf M) : mkC (Ck (k + 4)) c_Pieces [] [] M = some (pc [], M) := mk_of (l := []) hw (fun _ h => by cases h) (by decide) rfl
theorem mgd_can {l : List Bk} (hv : Val l) : Can (mgd l) := by
  unfold mgd
  have hs := sortP_le l
  have hm : ∀ b ∈ sortP l, b.1 < b.2 := fun b hb => (hv b (mem_sortP.mp hb)).2
  cases h : sortP l with
  | nil => exact ⟨fun b hb => (by cases hb), List.Pairwise.nil⟩
  | cons x r =>
    rw [h] at hs hm
    obtain ⟨h1, h2⟩ := List.pairwise_cons.mp hs
    exact mg_can r x (hm x List.mem_cons_self) (fun b hb => hm b (List.mem_cons_of_mem _ hb)) h1 h2
theorem mgd_cov {l : List Bk} (hv : Val l) (p : Int) : cov (mgd l) p ↔ cov l p := by
  have e : cov (sortP l) p ↔ cov l p := by
    unfold cov
    constructor
    · rintro ⟨b, hb, h⟩; exact ⟨b, mem_sortP.mp hb, h⟩
    · rintro ⟨b, hb, h⟩; exact ⟨b, mem_sortP.mpr hb, h⟩
  rw [← e]
  unfold mgd
  have hs := sortP_le l
  have hm : ∀ b ∈ sortP l, b.1 < b.2 := fun b hb => (hv b (mem_sortP.mp hb)).2
  cases h : sortP l with
  | nil => exact Iff.rfl
  | cons x r =>
    rw [h] at hs hm
    obtain ⟨h1, h2⟩ := List.pairwise_cons.mp hs
    exact mg_cov p r x (hm x List.mem_cons_self) (fun b hb => hm b (List.mem_cons_of_mem _ hb)) h1 h2
/-- two canonical rows with the same pieces are the same -/
theorem can_eq {B B' : List Bk} (h : Can B) (h' : Can B') (e : ∀ p, cov B p ↔ cov B' p) : B = B' := by
  refine pts_inj h h' (uniq (pts_lt h) (pts_lt h') fun x => ?_)
  rw [mem_pts, mem_pts, e]
theorem mgd_of_can {B : List Bk} (h : Can B) (hv : Val B) : mgd B = B := can_eq (mgd_can hv) h fun p => mgd_cov hv p
def setI : IR := .comp false [1] false .val (.cons (.var 0) .nil) .nil (.call i_block_text [] (.cons (.var 1) .nil) .nil)
theorem set_words {k : Nat} {M : Mem} {B : List Bk} (h : Sml B) (z : Option D) : ev (Ck (k + 1)) setI [some (.tup (B.map pr)), z] M = some (.lst ((B.map txt).map .str), M) := by
  have key : compS (turnE (Ck (k + 1)) [1] false .nil (.call i_block_text [] (.cons (.var 1) .nil) .nil) (wipeE [some (.tup (B.map pr)), z] [1])) (B.map pr) M = some ((B.map txt).map .str, M) := by
    rw [compS_over (g := fun b => [D.str (txt b)]) fun b hb => ?_, flat_one, List.map_map]
    · rfl
    · have ok := block_text_ok (k := k) (M := M) (h b hb).1 (h b hb).2.1 (h b hb).2.2
      simp [turnE, bindT, setAll, wipeE, isNil, ev, evs, ok]
  show bnd (evs (Ck (k + 1)) (.cons (.var 0) .nil) [some (.tup (B.map pr)), z] M) (fun xs M' => bnd (lft (itD .val xs M') M') fun q M' => bnd (compGo (turnE (Ck (k + 1)) [1] false .nil (.call i_block_text [] (.cons (.var 1) .nil) .nil) (wipeE [some (.tup (B.map pr)), z] [1])) q M') fun ys M' => newL false ys M') = _
  simp only [evs, ev, List.getElem?_cons_zero, bnd_some, itD, itemsD, Option.map_some, lft_some, compGo, key, newL, if_neg Bool.false_ne_true]
theorem set_text_ok {k : Nat} {M : Mem} {B : List Bk} (h : Sml B) (hz : B.length ≤ 400) : callC (Ck (k + 2)) i_set_text [] [.tup (B.map pr)] M = some (.str (line B), M) := by
  rw [call_eq (f := f_set_text) rfl rfl]
  have w := set_words (k := k) (M := M) h none
  have j := join_fits h hz
  rw [show f_set_text.body = .seq (.ret (.ite (.var 0) (.meth .join (.cst (.str (Str.ofString " "))) (.cons setI .nil)) (.cst (.str (Str.ofString "none"))))) .nil from rfl]
  cases B with
  | nil => simp [f_set_text, evS, ev, truD, seqD, line, none_]
  | cons b B =>
    have so := strs_of txt (b :: B)
    rw [show (b :: B).map (D.str ∘ txt) = ((b :: B).map txt).map D.str from (List.map_map ..).symm] at so
    generalize hW : (b :: B).map txt = W at w j so
    have hl : line (b :: B) = Txt.join space W := by unfold line; rw [if_neg (by simp), hW]
    rw [hl]
    have tr : truD M (.tup ((b :: B).map pr)) = some true := rfl
    generalize (b :: B).map pr = R at w tr ⊢
    simp [f_set_text, evS, ev, evs, tr, w, preM, mthC, seqD, so, space]
    rw [show (List.map (fun x => x.length) W).sum + W.length * (Str.ofString " ").length = (List.map (fun x => x.length) W).sum + W.length * space.length from rfl, if_pos j]
    simp
def pcB (B : List Bk) : D := .obj c_Pieces [.tup (B.map pr)]
theorem at4 {k : Nat} {M : Mem} {B : List Bk} : attrC (Ck k) (pcB B) q_row M = some (.tup (B.map pr), M) := rfl
def P1 : Str := Str.ofString "Pieces('"
def P2 : Str := Str.ofString "')"
theorem str_ok {k : Nat} {M : Mem} {B : List Bk} (h : Sml B) (hz : B.length ≤ 100) : callF tab 1000 (k + 3) i_Pieces_str [pcB B] M = some (.str (line B), M) := by
  rw [cf_eq (f := f_Pieces_str) rfl rfl]
  have t := set_text_ok (k := k) (M := M) h (by omega)
  have c := cat1 (a := line B) (by have := line_le h hz; rw [sl]; omega)
  simp [f_Pieces_str, b_Pieces_str, evS, ev, evs, at4, t, strD, strsD, c]
theorem rpr_ok {k : Nat} {M : Mem} {B : List Bk} (h : Sml B) (hz : B.length ≤ 100) : callF tab 1000 (k + 3) i_Pieces_repr [pcB B] M = some (.str (P1 ++ line B ++ P2), M) := by
  rw [cf_eq (f := f_Pieces_repr) rfl rfl]
  have t := set_text_ok (k := k) (M := M) h (by omega)
  have c := cat3 (a := Str.ofString "Pieces('") (b := line B) (c := Str.ofString "')") (by
    have := line_le h hz
    have e1 : (Str.ofString "Pieces('").length = 8 := rfl
    have e2 : (Str.ofString "')").length = 2 := rfl
    rw [sl]; omega)
  simp [f_Pieces_repr, b_Pieces_repr, evS, ev, evs, at4, t, strD, strsD, c, P1, P2]
theorem bstr {k : Nat} {M : Mem} {B : List Bk} (h : Sml B) (hz : B.length ≤ 100) : bltC (Ck (k + 3)) .str [pcB B] M = some (.str (line B), M) := by
  show asS (callF tab 1000 (k + 3) i_Pieces_str [pcB B] M) = _
  rw [str_ok h hz]; rfl
theorem brpr {k : Nat} {M : Mem} {B : List Bk} (h : Sml B) (hz : B.length ≤ 100) : bltC (Ck (k + 3)) .repr [pcB B] M = some (.str (P1 ++ line B ++ P2), M) := by
  show asS (callF tab 1000 (k + 3) i_Pieces_repr [pcB B] M) = _
  rw [rpr_ok h hz]; rfl
theorem mgd_len (l : List Bk) : (mgd l).length ≤ l.length := by
  have hl := sortP_len l
  unfold mgd
  cases h : sortP l with
  | nil => simp [mergeL]
  | cons b r =>
    rw [h, List.length_cons] at hl
    have := mg_len r b
    show (mg b r).length ≤ _
    omega
theorem cov_nn {l : List Bk} (h : Val l) {p : Int} (q : cov l p) : 0 ≤ p := by
  obtain ⟨b, hb, h1, h2⟩ := q
  have := (h b hb).1
  omega
theorem mgd_val {l : List Bk} (h : Val l) : Val (mgd l) := fun b hb => by
  have hp := (mgd_can h).pos b hb
  exact ⟨cov_nn h ((mgd_cov h b.1).mp ⟨b, hb, by omega, hp⟩), hp⟩
end Dn

set_option Elab.async false
set_option linter.all false
set_option maxRecDepth 100000
set_option maxHeartbeats 4000000
namespace Dn
open PySem L2 M02
/-! ### rows of blocks and others -/
theorem split_row : ∀ (l : List D), (∀ x ∈ l, ThD x) → (∃ B : List Bk, l = B.map pr ∧ ∀ b ∈ B, 0 ≤ b.1 ∧ b.1 < b.2 ∧ b.2 < 10 ^ 41) ∨ ∃ (B : List Bk) (x : D) (post : List D), l = B.map pr ++ x :: post ∧ (∀ b ∈ B, 0 ≤ b.1 ∧ b.1 < b.2 ∧ b.2 < 10 ^ 41) ∧ bkD x = none
  | [], _ => .inl ⟨[], rfl, fun _ h => (by cases h)⟩
  | x :: r, h => by
    cases q : bkD x with
    | none => exact .inr ⟨[], x, r, rfl, fun _ h => (by cases h), q⟩
    | some b =>
      obtain ⟨rfl, b0, b1, b2⟩ := (h x List.mem_cons_self).blk q
      have hb : ∀ {B : List Bk}, (∀ c ∈ B, 0 ≤ c.1 ∧ c.1 < c.2 ∧ c.2 < 10 ^ 41) → ∀ c ∈ b :: B, 0 ≤ c.1 ∧ c.1 < c.2 ∧ c.2 < 10 ^ 41 := fun {B} hB c hc => by
        rcases List.mem_cons.mp hc with rfl | hc
        · exact ⟨b0, b1, b2⟩
        · exact hB c hc
      rcases split_row r (fun z hz => h z (List.mem_cons_of_mem _ hz)) with ⟨B, rfl, hB⟩ | ⟨B, y, post, rfl, hB, hy⟩
      · exact .inl ⟨b :: B, rfl, hb hB⟩
      · exact .inr ⟨b :: B, y, post, rfl, hb hB, hy⟩
def Bs41 (B : List Bk) : Prop := ∀ b ∈ B, 0 ≤ b.1 ∧ b.1 < b.2 ∧ b.2 < 10 ^ 41
theorem Bs41.val {B : List Bk} (h : Bs41 B) : Val B := fun b hb => ⟨(h b hb).1, (h b hb).2.1⟩
theorem Bs41.mgd {B : List Bk} (h : Bs41 B) : Sml (mgd B) := fun b hb => by
  have e : (10 : Int) ^ 41 < 10 ^ 45 := by decide
  obtain ⟨h0, h1⟩ := mgd_val h.val b hb
  obtain ⟨c, hc, c1, c2⟩ := (mgd_cov h.val (b.2 - 1)).mp ⟨b, hb, by omega, by omega⟩
  have := (h c hc).2.2
  exact ⟨h0, h1, by omega⟩
/-! ### what is due -/
def wr (l : List D) (i : Nat) : Bool := match l[i]? with
  | some x => !(bkD x).isSome
  | none => false
def wrong (l : List D) : List Nat := (List.range l.length).filter (wr l)
theorem wrong_good {B : List Bk} (h : Bs41 B) : wrong (B.map pr) = [] := by
  unfold wrong
  refine List.filter_eq_nil_iff.mpr fun i hi => ?_
  rw [List.length_map] at hi
  have hj := List.mem_range.mp hi
  unfold wr
  rw [List.getElem?_map, List.getElem?_eq_getElem hj]
  obtain ⟨h0, h1, _⟩ := h _ (List.getElem_mem hj)
  simp only [Option.map_some, bkD_pr h0 h1]
  exact fun h => by cases h
theorem wrong_bad {B : List Bk} {x : D} {post : List D} (h : Bs41 B) (hx : bkD x = none) : ∃ r, wrong (B.map pr ++ x :: post) = B.length :: r := by
  unfold wrong
  have hl : (B.map pr ++ x :: post).length = B.length + (1 + post.length) := by simp; omega
  rw [hl, List.range_add, List.filter_append]
  have e1 : (List.range B.length).filter (wr (B.map pr ++ x :: post)) = [] := by
    refine List.filter_eq_nil_iff.mpr fun i hi => ?_
    have hj := List.mem_range.mp hi
    unfold wr
    rw [List.getElem?_append_left (by rw [List.length_map]; exact hj), List.getElem?_map, List.getElem?_eq_getElem hj]
    obtain ⟨h0, h1, _⟩ := h _ (List.getElem_mem hj)
    simp only [Option.map_some, bkD_pr h0 h1]
    exact fun h => by cases h
  rw [e1, List.nil_append, List.range_add, List.map_append, List.filter_append]
  have e2 : wr (B.map pr ++ x :: post) (B.length + 0) = true := by
    unfold wr
    rw [List.getElem?_append_right (by rw [List.length_map]; omega), List.length_map, show B.length + 0 - B.length = 0 by omega]
    simp only [List.getElem?_cons_zero, hx]
    rfl
  have e3 : List.filter (wr (B.map pr ++ x :: post)) (List.map (fun x => B.length + x) (List.range 1)) = [B.length] := by
    show List.filter (wr (B.map pr ++ x :: post)) [B.length + 0] = _
    rw [List.filter_cons, if_pos e2]; rfl
  rw [e3]
  exact ⟨_, rfl⟩
theorem none_ne {i : Int} (h : 0 ≤ i) : toStr i ≠ none_ := fun e => by
  have h1 : 110 ∉ TL.tl (toStr i) := by rw [num_tl h]; exact TL.numL_free (by decide)
  rw [e] at h1
  exact h1 (by decide)
theorem wrong_lt {l : List D} {i : Nat} (h : i ∈ wrong l) : i < l.length := List.mem_range.mp (List.mem_filter.mp h).1
section
variable {k : Nat} {M : Mem} {l : List D}
theorem due_comp (ht : ∀ x ∈ l, ThD x) (hl : l.length ≤ 100) {a1 a2 : Option D} : ev (Ck (k + 1)) x_L_due_0 [some (.tup l), a1, a2] M = some (.lst ((wrong l).map fun i : Nat => .int (i : Nat)), M) := by
  obtain ⟨r1, r2⟩ := range_n (C := Ck (k + 1)) (M := M) (s := [some (.tup l), a1, a2]) (i := 0) rfl hl
  refine comp_st (emb := fun i : Nat => D.int (i : Nat)) (wr l) (fun i : Nat => D.int (i : Nat)) r1 r2 fun i hi => ?_
  have hj := List.mem_range.mp hi
  have hx : l[i]? = some l[i] := List.getElem?_eq_getElem hj
  have e : wr l i = !(bkD l[i]).isSome := by unfold wr; rw [hx]
  rw [e]
  exact turn_c (by simp [wipeE]) rfl (e_not (e_call (es_one (e_ixD (e_var rfl) (e_var rfl) hx)) (ht _ (List.getElem_mem hj)).isb)) (e_var rfl)
theorem wrong_ne (hl : l.length ≤ 100) {C : Cfg} {s : En} (h : s[1]? = some (some (.lst ((wrong l).map fun i : Nat => D.int (i : Nat))))) : ev C (.cmp .ne (.var 1) (.lst false .nil)) s M = some (.bl (!((wrong l).map fun i : Nat => D.int (i : Nat)).isEmpty), M) := by
  have ok : ∀ x ∈ (wrong l).map fun i : Nat => D.int (i : Nat), okD x = true ∧ dpD x ≤ 60 := fun x hx => by
    obtain ⟨i, hi, rfl⟩ := List.mem_map.mp hx
    have := wrong_lt hi
    exact ⟨by simp only [okD, decide_eq_true_eq]; exact nat_log (by omega), by simp [dpD]⟩
  exact e_cmp (e_var h) (y := .lst []) (M2 := M) rfl (ne_nilD (okL_iff.mpr fun x hx => (ok x hx).1) (dpL_iff.mpr fun x hx => (ok x hx).2))
theorem due_good {B : List Bk} (hB : Bs41 B) (hl : B.length ≤ 100) : callC (Ck (k + 2)) i_L_due [] [.tup (B.map pr)] M = some (.str none_, M) := by
  have ht : ∀ x ∈ B.map pr, ThD x := fun x hx => by
    obtain ⟨b, hb, rfl⟩ := List.mem_map.mp hx
    exact pr_th (hB b hb).1 (hB b hb).2.1 (hB b hb).2.2
  refine call_ret (f := f_L_due) rfl rfl rfl ?_ rfl
  refine s_cons (a_no (e_not (isin_t2 rfl))) (s_cons (a_v (due_comp ht (by rw [List.length_map]; exact hl)) (by decide : 1 < 3)) (s_end (a_ret ?_)))
  refine e_ite (wrong_ne (l := B.map pr) (by rw [List.length_map]; exact hl) rfl) (fun h => ?_) (fun _ => rfl)
  rw [wrong_good hB] at h
  cases h
theorem due_bad {B : List Bk} {x : D} {post : List D} (hB : Bs41 B) (hx : bkD x = none) (ht : ∀ y ∈ B.map pr ++ x :: post, ThD y) (hl : (B.map pr ++ x :: post).length ≤ 100) : callC (Ck (k + 2)) i_L_due [] [.tup (B.map pr ++ x :: post)] M = some (.str (toStr (B.length : Nat)), M) := by
  obtain ⟨r, hr⟩ := wrong_bad (post := post) hB hx
  have hj : B.length < 1000000 := by simp at hl; omega
  refine call_ret (f := f_L_due) rfl rfl rfl ?_ rfl
  refine s_cons (a_no (e_not (isin_t2 rfl))) (s_cons (a_v (due_comp ht hl) (by decide : 1 < 3)) (s_end (a_ret ?_)))
  refine e_ite (wrong_ne (l := B.map pr ++ x :: post) hl rfl) (fun _ => ?_) (fun h => ?_)
  · refine e_blt (es_one (e_at (M1 := M) (j := 0) (d := .int (B.length : Nat)) (e_var rfl) rfl ?_)) (str_n hj)
    rw [hr]; rfl
  · rw [hr] at h
    cases h
theorem due_row {v : D} (ok : isinOk M v = true) (no : isinD M v .tup = false) : callC (Ck (k + 1)) i_L_due [] [v] M = some (.str (Str.ofString "None"), M) := by
  refine call_ret (f := f_L_due) rfl rfl rfl ?_ rfl
  exact s_end (a_if (tt (e_not (e_isin2 rfl ok)) (y := true) (by rw [no]; rfl)) (fun _ => s_end (a_ret rfl)) (fun h => by cases h))
end
/-! ### what the program refuses -/
def xB (g : D) : Xn := (x_InvalidBlocks, [g])
theorem enum_app (x : D) (post : List D) : ∀ (l : List D) (j : Nat), enumFrom j (l ++ x :: post) = enumFrom j l ++ .tup [.int ((j + l.length : Nat) : Nat), x] :: enumFrom (j + l.length + 1) post
  | [], j => by simp [enumFrom]
  | y :: l, j => by
    rw [List.cons_append, enumFrom, enum_app x post l (j + 1), enumFrom, List.length_cons, List.cons_append, show j + 1 + l.length = j + (l.length + 1) by omega]
theorem init_row {k : Nat} {M : Mem} {c v : D} (ok : isinOk M v = true) (no : isinD M v .tup = false) : callX tab 1000 (k + 1) i_Pieces_init [c, v] M = some (xB .non, M) :=
  cfx_ret (f := f_Pieces_init) rfl rfl (x_here (x_if (tt (e_not (e_isin2 rfl ok)) (by rw [no]; rfl)) (x_here (x_raise (es_one (M1 := M) rfl) rfl rfl)))) rfl
theorem init_bad {k : Nat} {M : Mem} {c : D} {B : List Bk} {x : D} {post : List D} (hB : Bs41 B) (hx : bkD x = none) (ok : okR x = true) : callX tab 1000 (k + 4) i_Pieces_init [c, .tup (B.map pr ++ x :: post)] M = some (xB (.int (B.length : Nat)), M) := by
  obtain ⟨x', y', lp⟩ := iloop (k := k) (c := some c) (r := some (.tup (B.map pr ++ x :: post))) (M := M) B 0 none none hB.val
  refine cfx_ret (f := f_Pieces_init) rfl rfl (x_cons (noC _) (a_no (e_not (isin_t2 rfl))) (x_here ?_)) rfl
  have it : itD .enum [.tup (B.map pr ++ x :: post)] M = some (.st (enumFrom 0 (B.map pr) ++ .tup [.int ((0 + (B.map pr).length : Nat) : Nat), x] :: enumFrom (0 + (B.map pr).length + 1) post)) := by
    rw [← enum_app]; rfl
  rw [show 0 + (B.map pr).length = B.length by rw [List.length_map]; omega] at it
  refine x_loop (noC _) (s1 := [some c, some (.tup (B.map pr ++ x :: post)), x', y']) (s2 := [some c, some (.tup (B.map pr ++ x :: post)), some (.int (B.length : Nat)), some x]) (M2 := M) (M3 := M) (es_one (e_var rfl)) it lp (fun z _ => noBk_asg rfl z) rfl ?_
  exact x_here (x_if (tt (e_not (e_call (es_one (e_var rfl)) (isb_p (k := k) ok))) (by rw [hx]; rfl)) (x_here (x_raise (es_one (e_var rfl)) rfl rfl)))
theorem make_x {k : Nat} {M : Mem} {ks : List Nat} {xs ys : List D} {x : Xn} (hw : Wf M) (ha : arr 2 [.tup []] ks (.cell M.length :: xs) = some ys) (h : callX tab 1000 k i_Pieces_init ys (M ++ [.ins c_Pieces []]) = some (x, M ++ [.ins c_Pieces []])) (hb : belowL M.length x.2 = true) : mkXC (Ck k) c_Pieces ks xs M = some (x, M) :=
  mkx_gen (k := k_Pieces) rfl (callXC_of (f := f_Pieces_init) rfl ha h) hb hw
end Dn

set_option Elab.async false
set_option linter.all false
set_option maxRecDepth 100000
set_option maxHeartbeats 4000000
namespace Dn
open PySem L2 M02
/-! ### every value -/
structure VlP (v : D) : Prop where
  rp : ∀ k, ∃ A, ∀ M, bltC (Ck (k + 3)) .repr [v] M = some (.str A, M)
  iso : ∀ M, isinOk M v = true
  el : ∀ l, v = .tup l → (∀ x ∈ l, ThD x) ∧ l.length ≤ 100
def mk1I : IR := .make c_Pieces [] (.cons (.var 0) .nil) .nil
def mk2I : IR := .make c_Pieces [1] .nil (.cons (.var 0) .nil)
def endI : IR := .ite (.cmp .eq (.var 2) (.cst (.str (Str.ofString "none")))) (.cmp .eq (.idx (.var 3) (.cst (.int 0))) (.cst (.str (Str.ofString "back")))) (.cmp .eq (.var 3) (.tup (.cons (.cst (.str (Str.ofString "error"))) (.cons (.cst (.int 3)) (.cons (.var 2) .nil)))))
theorem asked_of {k : Nat} {M : Mem} {v o : D} {S A : Str} (hA : ∀ M, bltC (Ck (k + 7)) .repr [v] M = some (.str A, M)) (hd : callC (Ck (k + 7)) i_L_due [] [v] M = some (.str S, M))
    (h1 : ∀ env : En, env[0]? = some (some v) → ev (Ck (k + 7)) (.caught mk1I) env M = some (o, M)) (h2 : ∀ env : En, env[0]? = some (some v) → ev (Ck (k + 7)) (.caught mk2I) env M = some (o, M))
    (hne : cmpC (Ck (k + 7)) .ne o o M = some (false, M)) (hend : ∀ env : En, env[2]? = some (some (.str S)) → env[3]? = some (some o) → ev (Ck (k + 7)) endI env M = some (.bl true, M)) : callC (Ck (k + 8)) i_L_asked [] [v] M = some (.bl true, M) := by
  refine call_ret (f := f_L_asked) rfl rfl rfl ?_ rfl
  have rp : ∀ {env : En}, env[0]? = some (some v) → ev (Ck (k + 7)) (.blt .repr (.cons (.var 0) .nil)) env M = some (.str A, M) := fun {env} e0 => e_blt (es_one (e_var e0)) (hA M)
  refine s_cons (a_par (es_cons (rp rfl) (es_one (e_call (es_one (e_var rfl)) hd))) rfl) ?_
  refine s_cons (a_v (h1 _ rfl) (by decide : 3 < 5)) ?_
  refine s_cons (a_v (h2 _ rfl) (by decide : 4 < 5)) ?_
  refine s_cons (a_no (e_or (e_cmp (e_var rfl) (e_var rfl) hne) (tt (e_cmp (rp rfl) (e_var rfl) (ne_s A A)) (by simp)))) ?_
  exact s_end (a_ret (hend _ rfl rfl))
theorem asked_err {k : Nat} {M : Mem} {v g : D} {A S : Str} (hw : Wf M) (hA : ∀ M, bltC (Ck (k + 7)) .repr [v] M = some (.str A, M)) (hd : callC (Ck (k + 7)) i_L_due [] [v] M = some (.str S, M)) (hS : S ≠ none_)
    (hx : callX tab 1000 (k + 7) i_Pieces_init [.cell M.length, v] (M ++ [.ins c_Pieces []]) = some (xB g, M ++ [.ins c_Pieces []])) (hg : okR g = true) (hr : reprD M g = some (.str S)) : callC (Ck (k + 8)) i_L_asked [] [v] M = some (.bl true, M) := by
  have hb : belowL M.length [g] = true := by simp only [belowL, okR_below _ g hg, Bool.and_self]
  refine asked_of (o := errI 3 S) hA hd (fun env e0 => c_told (g := g) (x_makek (es_one (e_var e0)) es_nil (make_x hw rfl hx hb)) (c := x_InvalidBlocks) rfl hr) (fun env e0 => c_told (g := g) (x_makek es_nil (es_one (e_var e0)) (make_x hw rfl hx hb)) (c := x_InvalidBlocks) rfl hr) ?_ fun env e2 e3 => ?_
  · show lft ((eqD M (errI 3 S) (errI 3 S)).map (!·)) M = _
    rw [errI_eq]; rfl
  · refine e_ite (t := false) (tt (e_cmp (e_var e2) (y := .str (Str.ofString "none")) (M2 := M) rfl (eq_s _ _)) (decide_eq_false hS)) (fun h => by cases h) (fun _ => ?_)
    exact e_cmp (e_var e3) (e_tupL (es_cons (M1 := M) rfl (es_cons (M1 := M) rfl (es_one (e_var e2)))) (show 3 ≤ sizeLine by decide)) (by
      show lft (eqD M (errI 3 S) (errI 3 S)) M = _
      rw [errI_eq]; rfl)
theorem asked_back {k : Nat} {M : Mem} {B : List Bk} {A : Str} (hw : Wf M) (hA : ∀ M, bltC (Ck (k + 7)) .repr [.tup (B.map pr)] M = some (.str A, M)) (hB : Bs41 B) (hl : B.length ≤ 100) : callC (Ck (k + 8)) i_L_asked [] [.tup (B.map pr)] M = some (.bl true, M) := by
  have hz : (mgd B).length ≤ 100 := Nat.le_trans (mgd_len B) hl
  refine asked_of (o := .tup [.str (Str.ofString "back"), .str (P1 ++ line (mgd B) ++ P2)]) hA (due_good (k := k + 5) hB hl) (fun env e0 => c_back (noC _) (e_makek (es_one (e_var e0)) es_nil (mk1 (k := k + 3) hw hB.val (by omega))) (brpr (k := k + 4) hB.mgd hz)) (fun env e0 => c_back (noC _) (e_makek es_nil (es_one (e_var e0)) (mkk (k := k + 3) hw hB.val (by omega))) (brpr (k := k + 4) hB.mgd hz)) ?_ fun env e2 e3 => ?_
  · show lft ((eqD M (.tup [.str (Str.ofString "back"), .str (P1 ++ line (mgd B) ++ P2)]) (.tup [.str (Str.ofString "back"), .str (P1 ++ line (mgd B) ++ P2)])).map (!·)) M = _
    rw [back_eq]; rfl
  · refine e_ite (t := true) (tt (e_cmp (e_var e2) (y := .str (Str.ofString "none")) (M2 := M) rfl (eq_s _ _)) (decide_eq_true rfl)) (fun _ => ?_) (fun h => by cases h)
    exact tt (e_cmp (ix0_t e3) (y := .str (Str.ofString "back")) (M2 := M) rfl (eq_s _ _)) (by decide)
theorem asked_ok {k : Nat} {M : Mem} {v : D} (hw : Wf M) (hv : VlP v) : callC (Ck (k + 8)) i_L_asked [] [v] M = some (.bl true, M) := by
  obtain ⟨A, hA⟩ := hv.rp (k + 4)
  by_cases q : isinD M v .tup = true
  · obtain ⟨l, rfl⟩ := isin_tup q
    obtain ⟨ht, hl⟩ := hv.el l rfl
    rcases split_row l ht with ⟨B, rfl, hB⟩ | ⟨B, x, post, rfl, hB, hx⟩
    · exact asked_back hw hA hB (by rwa [List.length_map] at hl)
    · have hj : B.length < 1000000 := by simp at hl; omega
      exact asked_err hw hA (due_bad (k := k + 5) hB hx ht hl) (none_ne (by omega)) (init_bad (k := k + 3) hB hx (ht x (by simp)).ok) (by simp only [okR, decide_eq_true_eq]; exact nat_log hj) (repr_i (nat_log hj))
  · have q : isinD M v .tup = false := by simpa using q
    exact asked_err hw hA (due_row (k := k + 6) (hv.iso M) q) (by decide) (init_row (k := k + 6) (hv.iso _) (by
      cases v <;> first | rfl | (cases q; done))) rfl repr_non
end Dn

set_option Elab.async false
set_option linter.all false
set_option maxRecDepth 100000
set_option maxHeartbeats 4000000
namespace Dn
open PySem L2 M02
/-! ### drawn things -/
theorem thing_ok {k : Nat} {M : Mem} {n : Nat} {a b c : Int} (h : PurOk M n a b c) (hc : c + 4 < 1000000) :
    ∃ d M' c', callC (Ck (k + 2)) i_L_thing [] [.cell n] M = some (d, M') ∧ Nx M n c M' c' ∧ c' ≤ c + 4 ∧ ThD d := by
  have e39 : (10 : Int) ^ 39 + 100 < 10 ^ 41 := by decide
  have e0 : (0 : Int) < 10 ^ 39 := by decide
  obtain ⟨d0, M1, e1, l0, l1, y1⟩ := take_nx (k := k) (m := 4) h (by omega) (by decide) (by decide)
  obtain ⟨_, _, _, p1⟩ := id y1
  obtain ⟨d1, M2, e2, w0, w1, y2⟩ := take_nx (k := k) (m := 9) p1 (by omega) (by decide) (by decide)
  obtain ⟨_, _, _, p2⟩ := id y2
  obtain ⟨wy, M3, e3, v0, v1, y3⟩ := take_nx (k := k) (m := 30) p2 (by omega) (by decide) (by decide)
  obtain ⟨_, _, _, p3⟩ := id y3
  have y123 := (y1.trans y2).trans y3
  have sel : ∃ z : Int, ([.int 0, .int 1, .int 2, .int (10 ^ 39)] : List D)[d0.toNat]? = some (.int z) ∧ 0 ≤ z ∧ z ≤ 10 ^ 39 := by
    have : d0.toNat = 0 ∨ d0.toNat = 1 ∨ d0.toNat = 2 ∨ d0.toNat = 3 := by omega
    rcases this with q | q | q | q <;> rw [q]
    · exact ⟨_, rfl, by decide, by decide⟩
    · exact ⟨_, rfl, by decide, by decide⟩
    · exact ⟨_, rfl, by decide, by decide⟩
    · exact ⟨_, rfl, by decide, by decide⟩
  obtain ⟨z, hz, z0, z1⟩ := sel
  obtain ⟨low, hlow⟩ : ∃ low : Int, low = z + d1 := ⟨_, rfl⟩
  have mlow : ∀ i : Int, -10 ≤ i → i ≤ 10 → Mo (low + i) := fun i h0 h1 => ⟨by omega, by omega⟩
  have mlow0 : Mo low := ⟨by omega, by omega⟩
  have lst4 : ∀ {s : En}, ev (Ck (k + 1)) (.lst false (.cons (.cst (.int 0)) (.cons (.cst (.int 1)) (.cons (.cst (.int 2)) (.cons (.bin .pow (.cst (.int 10)) (.cst (.int 39))) .nil))))) s M = some (.lst [.int 0, .int 1, .int 2, .int (10 ^ 39)], M) := fun {s} =>
    e_lstL (es_cons (M1 := M) rfl (es_cons (M1 := M) rfl (es_cons (M1 := M) rfl (es_one (M1 := M) rfl)))) (show 4 ≤ sizeLine by decide)
  have t0 : evS (Ck (k + 1)) t_L_thing_0 [some (.cell n), none, none, none] M = some (.nx [some (.cell n), some (.int low), none, none], M2) := by
    rw [hlow]
    exact a_v (e_bin (e_at' lst4 (e_call (es_cons (e_var rfl) (es_one (M1 := M) rfl)) e1) l0 hz) (e_call (es_cons (e_var rfl) (es_one (M1 := M1) rfl)) e2) (add_i _ _)) (by decide : 1 < 4)
  have t1 : evS (Ck (k + 1)) t_L_thing_1 [some (.cell n), some (.int low), none, none] M2 = some (.nx [some (.cell n), some (.int low), some (.int wy), none], M3) :=
    a_v (e_call (es_cons (e_var rfl) (es_one (M1 := M2) rfl)) e3) (by decide : 2 < 4)
  by_cases q1 : wy < 10
  · obtain ⟨d2, M4, e4, x0, x1, y4⟩ := take_nx (k := k) (m := 4) p3 (by omega) (by decide) (by decide)
    have y := y123.trans y4
    refine ⟨.tup [.int low, .int (low + 1 + d2)], M4, c + 1 + 1 + 1 + 1, call_ret (f := f_L_thing) rfl rfl rfl ?_ y.len, y, by omega, th_pair mlow0 ⟨by omega, by omega⟩⟩
    refine s_cons t0 (s_cons t1 (s_end (a_if (tt (e_cmp (e_var rfl) (y := .int 10) (M2 := M3) rfl (lt_i _ _)) (y := true) (decide_eq_true q1)) (fun _ => s_end (a_ret ?_)) (fun h => by cases h))))
    exact tup2 (e_var rfl) (e_bin (e_bin (e_var rfl) (b := .cst (.int 1)) (y := .int 1) (M2 := M3) rfl (add_i _ _)) (e_call (es_cons (e_var rfl) (es_one (M1 := M3) rfl)) e4) (add_i _ _))
  · let l1 : List D := [.tup [.int low, .int low], .tup [.int (low + 1), .int low], .tup [.int (-1), .int low], .tup [.int (-2), .int (-1)], .tup [.int low], .tup [.int low, .int (low + 1), .int (low + 2)], .lst [.int low, .int (low + 1)]]
    let l2 : List D := [.tup [.bl true, .int 2], .tup [.int 0, .bl true], .tup [.bl false, .bl true], .tup [.non, .int 1], .tup [.int 0, .non], .tup [.str (Str.ofString "0"), .str (Str.ofString "1")], .tup [.tup [.int 0, .int 1], .int 2]]
    let l3 : List D := [.tup [.int 0, .tup [.int 1]], .non, .int low, .tup []]
    let l4 : List D := [.str (Str.ofString "01"), .emp]
    have a1 : ∀ x ∈ l1, ThD x := by
      intro x hx
      simp only [l1, List.mem_cons, List.not_mem_nil, or_false] at hx
      rcases hx with rfl | rfl | rfl | rfl | rfl | rfl | rfl
      · exact th_pair mlow0 mlow0
      · exact th_pair (mlow 1 (by omega) (by omega)) mlow0
      · exact th_pair ⟨by omega, by omega⟩ mlow0
      · exact th_pair ⟨by omega, by omega⟩ ⟨by omega, by omega⟩
      · exact th_one mlow0
      · exact th_three mlow0 (mlow 1 (by omega) (by omega)) (mlow 2 (by omega) (by omega))
      · exact th_list mlow0 (mlow 1 (by omega) (by omega))
    have a2 : ∀ x ∈ l2, ThD x := fun x hx => thB_ok (List.all_eq_true.mp (show l2.all thB = true by decide +kernel) x hx)
    have a3 : ∀ x ∈ l3, ThD x := by
      intro x hx
      simp only [l3, List.mem_cons, List.not_mem_nil, or_false] at hx
      rcases hx with rfl | rfl | rfl | rfl
      · exact thB_ok (by decide +kernel)
      · exact thB_ok (by decide +kernel)
      · exact th_int mlow0
      · exact thB_ok (by decide +kernel)
    have a4 : ∀ x ∈ l4, ThD x := fun x hx => thB_ok (List.all_eq_true.mp (show l4.all thB = true by decide +kernel) x hx)
    have all : ∀ x ∈ l1 ++ l2 ++ l3 ++ l4, ThD x := by
      intro x hx
      simp only [List.mem_append] at hx
      rcases hx with ((h | h) | h) | h
      · exact a1 x h
      · exact a2 x h
      · exact a3 x h
      · exact a4 x h
    have len : (l1 ++ l2 ++ l3 ++ l4).length = 20 := rfl
    have hlt : (wy - 10).toNat < (l1 ++ l2 ++ l3 ++ l4).length := by omega
    have hd : (l1 ++ l2 ++ l3 ++ l4)[(wy - 10).toNat]? = some ((l1 ++ l2 ++ l3 ++ l4)[(wy - 10).toNat]'hlt) := List.getElem?_eq_getElem hlt
    have td := all _ (List.getElem_mem hlt)
    generalize (l1 ++ l2 ++ l3 ++ l4)[(wy - 10).toNat]'hlt = d at hd td
    refine ⟨d, M3, c + 1 + 1 + 1, call_ret (f := f_L_thing) rfl rfl rfl ?_ y123.len, y123, by omega, td⟩
    have t2 : evS (Ck (k + 1)) t_L_thing_2 [some (.cell n), some (.int low), some (.int wy), none] M3 = some (.nx [some (.cell n), some (.int low), some (.int wy), none], M3) :=
      a_no (tt (e_cmp (e_var rfl) (y := .int 10) (M2 := M3) rfl (lt_i _ _)) (decide_eq_false q1))
    have t3 : evS (Ck (k + 1)) t_L_thing_3 [some (.cell n), some (.int low), some (.int wy), none] M3 = some (.nx [some (.cell n), some (.int low), some (.int wy), some (.lst l1)], M3) := by
      refine a_v (d := .lst l1) (M1 := M3) ?_ (by decide : 3 < 4)
      rfl
    have t4 : evS (Ck (k + 1)) t_L_thing_4 [some (.cell n), some (.int low), some (.int wy), some (.lst l1)] M3 = some (.nx [some (.cell n), some (.int low), some (.int wy), some (.lst (l1 ++ l2))], M3) := by
      refine a_v (e_bin (e_var rfl) (y := .lst l2) (M2 := M3) ?_ (add_l (show 7 + 7 ≤ sizeLine by decide))) (by decide : 3 < 4)
      rfl
    have t5 : evS (Ck (k + 1)) t_L_thing_5 [some (.cell n), some (.int low), some (.int wy), some (.lst (l1 ++ l2))] M3 = some (.nx [some (.cell n), some (.int low), some (.int wy), some (.lst (l1 ++ l2 ++ l3))], M3) := by
      refine a_v (e_bin (e_var rfl) (y := .lst l3) (M2 := M3) ?_ (add_l (show 14 + 4 ≤ sizeLine by decide))) (by decide : 3 < 4)
      rfl
    refine s_cons t0 (s_cons t1 (s_cons t2 (s_cons t3 (s_cons t4 (s_cons t5 (s_end (a_ret (e_at' (e_bin (e_var rfl) (y := .lst l4) (M2 := M3) ?_ (add_l (show 18 + 2 ≤ sizeLine by decide))) (e_bin (e_var rfl) (b := .cst (.int 10)) (y := .int 10) (M2 := M3) rfl (sub_i _ _)) (by omega) hd))))))))
    rfl
theorem vp_of {v : D} (ok : okR v = true) (sz : szD v ≤ 1000000) (dp : dpD v ≤ 8) (el : ∀ l, v = .tup l → (∀ x ∈ l, ThD x) ∧ l.length ≤ 100) : VlP v := by
  obtain ⟨S, hS⟩ := repr_okR ok (by rw [sl]; omega) (by omega)
  exact ⟨fun k => ⟨S, fun M => brepr_g ok (hS M)⟩, fun M => okR_in ok, el⟩
theorem vp_tup {l : List D} (h : ∀ x ∈ l, ThD x) (hl : l.length ≤ 20) : VlP (.tup l) := by
  have s1 := szL_le (l := l) (Z := 40000) fun x hx => (h x hx).sz
  have s2 : dpL l ≤ 5 := dpL_iff.mpr fun x hx => (h x hx).dp
  refine vp_of (by simp only [okR]; exact okR_L fun x hx => (h x hx).ok) ?_ (by simp only [dpD]; omega) (fun m e => by cases e; exact ⟨h, by omega⟩)
  simp only [szD]
  have : l.length * (40000 + 2) ≤ 20 * (40000 + 2) := Nat.mul_le_mul_right _ hl
  omega
theorem vp_lst {l : List D} (h : ∀ x ∈ l, ThD x) (hl : l.length ≤ 20) : VlP (.lst l) := by
  have s1 := szL_le (l := l) (Z := 40000) fun x hx => (h x hx).sz
  have s2 : dpL l ≤ 5 := dpL_iff.mpr fun x hx => (h x hx).dp
  refine vp_of (by simp only [okR]; exact okR_L fun x hx => (h x hx).ok) ?_ (by simp only [dpD]; omega) (fun m e => by cases e)
  simp only [szD]
  have : l.length * (40000 + 2) ≤ 20 * (40000 + 2) := Nat.mul_le_mul_right _ hl
  omega
def vpB (v : D) : Bool := okR v && decide (szD v ≤ 1000000) && decide (dpD v ≤ 8) && match v with
  | .tup l => l.all thB && decide (l.length ≤ 100)
  | _ => true
theorem vpB_ok {v : D} (h : vpB v = true) : VlP v := by
  unfold vpB at h
  simp only [Bool.and_eq_true, decide_eq_true_eq] at h
  obtain ⟨⟨⟨h1, h2⟩, h3⟩, h4⟩ := h
  refine vp_of h1 h2 h3 fun l e => ?_
  subst e
  simp only [Bool.and_eq_true, decide_eq_true_eq] at h4
  exact ⟨fun x hx => thB_ok (List.all_eq_true.mp h4.1 x hx), h4.2⟩
end Dn

set_option Elab.async false
set_option linter.all false
set_option maxRecDepth 100000
set_option maxHeartbeats 4000000
namespace Dn
open PySem L2 M02
/-! ### rows of drawn things; the law -/
theorem e_slTo {C : Cfg} {s : En} {M : Mem} {i j : Nat} {l : List D} {z : Int} (h : s[i]? = some (some (.lst l))) (hj : s[j]? = some (some (.int z))) : ev C (.slice (.var i) .nil (.var j)) s M = some (.lst (cutD l none (some z)), M) := by
  simp [ev, h, hj, isNil, partI, sliceD, lstD]
theorem e_slFrom {C : Cfg} {s : En} {M : Mem} {i j : Nat} {l : List D} {z : Int} (h : s[i]? = some (some (.lst l))) (hj : s[j]? = some (some (.int z))) : ev C (.slice (.var i) (.var j) .nil) s M = some (.lst (cutD l (some z) none), M) := by
  simp [ev, h, hj, isNil, partI, sliceD, lstD]
theorem right_turn {k : Nat} {M : Mem} {n : Nat} {a b c : Int} {x1 x2 x3 x4 x5 x6 x7 x8 : Option D} (h : PurOk M n a b c) (hw : Wf M) (hc : c + 100 < 1000000) :
    ∃ y2 y3 y4 y5 M' c', evS (Ck (k + 8)) y_L_right_0 [some (.cell n), x1, x2, x3, x4, x5, x6, x7, x8] M = some (.nx [some (.cell n), x1, y2, y3, y4, y5, x6, x7, x8], M') ∧ Nx M n c M' c' ∧ c' ≤ c + 38 := by
  obtain ⟨d2, M3, e3, c0, c1, y3⟩ := take_nx (k := k + 7) (m := 8) h (by omega) (by decide) (by decide)
  obtain ⟨aa, bb, _, p3⟩ := id y3
  have row := comp_nx (n := n) (P := ThD) (q := 4) (by decide) (f := turnE (Ck (k + 8)) [6] false .nil (.call i_L_thing [] (.cons (.var 0) .nil) .nil) (wipeE [some (.cell n), x1, x2, x3, x4, x5, x6, x7, x8] [6])) ((List.range d2.toNat).map fun i : Nat => D.int (i : Nat)) (fun x hx M a b c p hc => by
    obtain ⟨d, M', c', e, y, hle, t⟩ := thing_ok (k := k + 6) p hc
    exact ⟨d, M', c', turn1 (by simp [wipeE]) (e_call (es_one (e_var rfl)) e), y, hle, t⟩) M3 aa bb _ p3 (by rw [List.length_map, List.length_range]; omega)
  obtain ⟨ds, M4, c4, e4, y4, d4, l4, t4⟩ := row
  rw [List.length_map, List.length_range] at d4 l4
  obtain ⟨_, _, _, p4⟩ := id y4
  have erow : ev (Ck (k + 8)) x_L_right_0 [some (.cell n), x1, x2, x3, x4, x5, x6, x7, x8] M = some (.lst ds, M4) := by
    have hd2 : d2 = ((d2.toNat : Nat) : Int) := by omega
    refine comp_go (es_one (e_call (es_cons (e_var rfl) (es_one (M1 := M) rfl)) e3)) ?_ e4
    have := it_r1 (M := M3) (n := d2.toNat) (by omega)
    rwa [← hd2] at this
  have hds : ds.length ≤ 7 := by omega
  -- the blocks among them
  obtain ⟨gs, hgs⟩ : ∃ gs, gs = ds.filter fun x => (bkD x).isSome := ⟨_, rfl⟩
  have egood : ∀ {x3 x4 x5 x6 x7 x8 : Option D}, ev (Ck (k + 8)) x_L_right_1 [some (.cell n), x1, some (.lst ds), x3, x4, x5, x6, x7, x8] M4 = some (.lst gs, M4) := fun {x3 x4 x5 x6 x7 x8} => by
    rw [hgs]
    have := comp_st (C := Ck (k + 8)) (s := [some (.cell n), x1, some (.lst ds), x3, x4, x5, x6, x7, x8]) (M := M4) (emb := id) (it := .val) (t := [7]) (tk := false) (src := .cons (.var 2) .nil) (cond := .call i_L_is_block [] (.cons (.var 7) .nil) .nil) (e := .var 7) (ds := [.lst ds]) (xs := ds) (fun x => (bkD x).isSome) id (es_one (e_var rfl)) (by rw [List.map_id]; exact it_val rfl)
      (fun z hz => turn_c (by simp [wipeE]) rfl (e_call (es_one (e_var rfl)) (t4 z hz).isb) (e_var rfl))
    rwa [List.map_id] at this
  have tg : ∀ x ∈ gs, ThD x := fun x hx => t4 x (by rw [hgs] at hx; exact (List.mem_filter.mp hx).1)
  have lg : gs.length ≤ 7 := by
    rw [hgs]; exact Nat.le_trans (List.length_filter_le _ _) hds
  -- one thing between them
  obtain ⟨z, M5, e5, f0, f1, y5⟩ := take_nx (k := k + 7) (m := (gs.length : Nat) + 1) p4 (by omega) (by omega) (by omega)
  obtain ⟨_, _, _, p5⟩ := id y5
  obtain ⟨th, M6, c6, e6, y6, d6, t6⟩ := thing_ok (k := k + 6) p5 (by omega)
  have y := ((y3.trans y4).trans y5).trans y6
  have w6 : Wf M6 := y.wf hw
  obtain ⟨be, hbe⟩ : ∃ be, be = cutD gs none (some z) ++ [th] ++ cutD gs (some z) none := ⟨_, rfl⟩
  have lb : be.length ≤ 15 := by
    rw [hbe, List.length_append, List.length_append, List.length_singleton]
    have h1 := (cut_sub (l := gs) (lo := none) (hi := some z)).2
    have h2 := (cut_sub (l := gs) (lo := some z) (hi := none)).2
    omega
  have tb : ∀ x ∈ be, ThD x := fun x hx => by
    rw [hbe] at hx
    simp only [List.mem_append, List.mem_singleton] at hx
    rcases hx with (h | rfl) | h
    · exact tg x (cut_sub.1 x h)
    · exact t6
    · exact tg x (cut_sub.1 x h)
  refine ⟨some (.lst ds), some (.lst gs), some (.int z), some (.lst be), M6, c6, ?_, y, by omega⟩
  refine s_cons (a_v erow (by decide : 2 < 9)) ?_
  refine s_cons (a_v egood (by decide : 3 < 9)) ?_
  refine s_cons (a_v (e_call (es_cons (e_var rfl) (es_one (e_bin (e_blt (es_one (e_var (i := 3) rfl)) len_l) (b := .cst (.int 1)) (y := .int 1) (M2 := M4) rfl (add_i _ _)))) e5) (by decide : 4 < 9)) ?_
  have l1 := (cut_sub (l := gs) (lo := none) (hi := some z)).2
  have l2 := (cut_sub (l := gs) (lo := some z) (hi := none)).2
  refine s_cons (s' := [some (.cell n), x1, some (.lst ds), some (.lst gs), some (.int z), some (.lst be), x6, x7, x8]) (M1 := M6) ?_ ?_
  · rw [hbe]
    exact a_v (e_bin (e_bin (e_slTo (i := 3) (j := 4) (l := gs) (z := z) rfl rfl) (lst1 (e_call (es_one (e_var rfl)) e6)) (add_l (by rw [sl, List.length_singleton]; omega))) (e_slFrom (i := 3) (j := 4) (l := gs) (z := z) rfl rfl) (add_l (by rw [sl, List.length_append, List.length_singleton]; omega))) (by decide : 5 < 9)
  have hvs : ∀ v ∈ ([.tup ds, .tup gs, .tup be, .lst ds, .lst gs] : List D), VlP v := by
    intro v hv
    simp only [List.mem_cons, List.not_mem_nil, or_false] at hv
    rcases hv with rfl | rfl | rfl | rfl | rfl
    · exact vp_tup t4 (by omega)
    · exact vp_tup tg (by omega)
    · exact vp_tup tb (by omega)
    · exact vp_lst t4 (by omega)
    · exact vp_lst tg (by omega)
  refine s_cons (a_no (e_not (e_blt (es_one (x := .lst (([.tup ds, .tup gs, .tup be, .lst ds, .lst gs] : List D).map fun _ => .bl true)) (M1 := M6) ?_) (all_map _)))) rfl
  refine comp_all (emb := id) (fun _ => .bl true) (es_one (x := .lst [.tup ds, .tup gs, .tup be, .lst ds, .lst gs]) (M1 := M6) ?_) (it_val rfl) fun v hv => ?_
  · exact e_lstL (es_cons (e_blt (b := .tuple) (es_one (e_var (i := 2) rfl)) (tuple_l (k := k + 8) ds)) (es_cons (e_blt (b := .tuple) (es_one (e_var (i := 3) rfl)) (tuple_l (k := k + 8) gs)) (es_cons (e_blt (b := .tuple) (es_one (e_var (i := 5) rfl)) (tuple_l (k := k + 8) be)) (es_cons (e_var (i := 2) rfl) (es_one (e_var (i := 3) rfl)))))) (show 5 ≤ sizeLine by decide)
  · exact turn1 (by simp [wipeE]) (e_call (es_one (e_var rfl)) (asked_ok (k := k) w6 (hvs v hv)))
theorem right_ok {k : Nat} {M : Mem} {n : Nat} {a b c : Int} (h : PurOk M n a b c) (hw : Wf M) (hc : c + 300 < 1000000) : ∃ M', callC (Ck (k + 9)) i_L_right [] [.cell n] M = some (.bl true, M') ∧ Wf M' := by
  have lp := for_inv (emb := fun i : Nat => D.int (i : Nat)) (f := fun x s M => bnd (asgT (Ck (k + 8)) (.v 1) x s M) fun s' M => evS (Ck (k + 8)) y_L_right_0 s' M)
    (fun don s M' => Wf M' ∧ M'.length = M.length ∧ (∃ c' a' b', PurOk M' n a' b' c' ∧ c' ≤ c + 38 * don.length) ∧ ∃ x1 x2 x3 x4 x5 x6 x7 x8, s = [some (.cell n), x1, x2, x3, x4, x5, x6, x7, x8]) (List.range 4) [some (.cell n), none, none, none, none, none, none, none, none] M ⟨hw, rfl, ⟨c, a, b, h, by simp⟩, _, _, _, _, _, _, _, _, rfl⟩ ?_
  · obtain ⟨s', M', e, w', hl, _, x1, x2, x3, x4, x5, x6, x7, x8, rfl⟩ := lp
    refine ⟨M', call_ret (f := f_L_right) rfl rfl rfl ?_ hl, w'⟩
    exact s_cons (a_for (es_one (x := .int ((4 : Nat) : Int)) (M1 := M) rfl) (it_r1 (by omega)) e) (s_end (a_ret (M1 := M') rfl))
  · rintro don x rest s M' hx ⟨w, hl, ⟨c', a', b', p, hc'⟩, x1, x2, x3, x4, x5, x6, x7, x8, rfl⟩
    obtain ⟨rfl, hj⟩ := don_ix hx
    obtain ⟨y2, y3, y4, y5, M1, c1, e, y, d⟩ := right_turn (k := k) (x1 := some (.int (don.length : Nat))) (x2 := x2) (x3 := x3) (x4 := x4) (x5 := x5) (x6 := x6) (x7 := x7) (x8 := x8) p w (by omega)
    obtain ⟨a1, b1, _, p1⟩ := id y
    refine ⟨_, M1, e, y.wf w, by rw [y.len, hl], ⟨c1, a1, b1, p1, ?_⟩, _, _, _, _, _, _, _, _, rfl⟩
    rw [List.length_append, List.length_singleton]
    omega
theorem lit1 : ∃ l : List D, (∀ (C : Cfg) (s : En) (M : Mem), ev C (addR t_law_1) s M = some (.lst l, M)) ∧ (∀ v ∈ l, vpB v = true) ∧ l.length ≤ 100 := lit_ok (by decide +kernel) (by decide +kernel) (by decide +kernel)
theorem lit2 : ∃ l : List D, (∀ (C : Cfg) (s : En) (M : Mem), ev C (addR t_law_2) s M = some (.lst l, M)) ∧ (∀ v ∈ l, vpB v = true) ∧ l.length ≤ 100 := lit_ok (by decide +kernel) (by decide +kernel) (by decide +kernel)
theorem tl1 : t_law_1 = .asg (.v 1) (.bin .add (.var 1) (addR t_law_1)) := rfl
theorem tl2 : t_law_2 = .asg (.v 1) (.bin .add (.var 1) (addR t_law_2)) := rfl
def odd0 : List D := [.non, .int 0, .int 1, .bl true, .bl false, .str (Str.ofString ""), .str (Str.ofString "01"), .lst [], .lst [.tup [.int 0, .int 1]], .emp, .dkt [0, 1] 1, .int (10 ^ 39), .int (-1)]
theorem bs01 : Bs41 [(0, 1)] := fun b hb => by
  rw [List.mem_singleton] at hb
  subst hb
  decide
theorem odd_ok : ∀ v ∈ odd0 ++ [pc [(0, 1)]], VlP v := by
  intro v hv
  rcases List.mem_append.mp hv with h | h
  · exact vpB_ok (List.all_eq_true.mp (show odd0.all vpB = true by decide +kernel) v h)
  · rw [List.mem_singleton] at h
    subst h
    exact ⟨fun k => ⟨_, fun M => brpr (k := k) bs01.mgd (Nat.le_trans (mgd_len _) (by decide))⟩, fun M => rfl, fun l e => by cases e⟩
theorem tl0 : t_law_0 = .asg (.v 1) (rhs t_law_0) := rfl
theorem e_law0 {k : Nat} {s : En} : ev (Ck (k + 4)) (rhs t_law_0) s [] = some (.lst (odd0 ++ [pc [(0, 1)]]), []) := by
  have mk : ev (Ck (k + 4)) (.make c_Pieces [] (.cons (.tup (.cons (.tup (.cons (.cst (.int 0)) (.cons (.cst (.int 1)) .nil))) .nil)) .nil) .nil) s [] = some (pc [(0, 1)], []) := e_makek (es_one (x := .tup ([(0, 1)].map pr)) (M1 := []) rfl) es_nil (mk1 (k := k) (M := []) rfl bs01.val (by decide))
  exact e_lstL (xs := odd0 ++ [pc [(0, 1)]]) (es_cons (M1 := []) rfl (es_cons (M1 := []) rfl (es_cons (M1 := []) rfl (es_cons (M1 := []) rfl (es_cons (M1 := []) rfl (es_cons (M1 := []) rfl (es_cons (M1 := []) rfl (es_cons (M1 := []) rfl (es_cons (M1 := []) rfl (es_cons (M1 := []) rfl (es_cons (M1 := []) rfl (es_cons (M1 := []) rfl (es_cons (M1 := []) rfl (es_one mk)))))))))))))) (show 14 ≤ sizeLine by decide)
theorem sem_k {k : Nat} {ns : List Int} : ∃ M', callF tab 1000 (k + 11) 0 [.ro (ns.map .int)] [] = some (.bl true, M') := by
  obtain ⟨v1, E1, V1, N1⟩ := lit1
  obtain ⟨v2, E2, V2, N2⟩ := lit2
  obtain ⟨v0, hv0⟩ : ∃ v0, v0 = odd0 ++ [pc [(0, 1)]] := ⟨_, rfl⟩
  have N0 : v0.length = 14 := by rw [hv0]; rfl
  have all : ∀ v ∈ v0 ++ v1 ++ v2, VlP v := by
    intro v hv
    simp only [List.mem_append] at hv
    rcases hv with (h | h) | h
    · rw [hv0] at h; exact odd_ok v h
    · exact vpB_ok (V1 v h)
    · exact vpB_ok (V2 v h)
  obtain ⟨N, hN, hN2⟩ := law_count (C := Ck (k + 10)) (M := []) (ns := ns) (s := [some (.lst (v0 ++ v1 ++ v2)), none, none]) (c := 5) (by decide)
  obtain ⟨M1, e1, w1⟩ := comp_inv (P := Wf) (g := fun _ => .bl true) (f := turnE (Ck (k + 10)) [3] false .nil (.call i_L_right [] (.cons (.call i_L_purse [] (.cons (.var 0) (.cons (.var 3) .nil)) .nil) .nil) .nil) (wipeE [some (.ro (ns.map .int)), some (.lst (v0 ++ v1 ++ v2)), none, none] [3])) ((List.range N).map fun i : Nat => D.int (i : Nat)) (fun x hx M w => by
    obtain ⟨j, hj, rfl⟩ := List.mem_map.mp hx
    have hj := List.mem_range.mp hj
    obtain ⟨a, b, e, h1, h2, h3⟩ := purse_ok (k := k + 9) (M := M) (ns := ns) (j := j) (by omega)
    have p : PurOk (M ++ [purse a b 0]) M.length a b 0 := ⟨by simp, h1, h2, h3, by decide, by decide⟩
    obtain ⟨M2, e2, w2⟩ := right_ok (k := k + 1) p (w.app rfl) (by decide)
    exact ⟨M2, turn1 (by simp [wipeE]) (e_call (es_one (e_call (es_cons (e_var rfl) (es_one (e_var rfl))) e)) e2), w2⟩) [] rfl
  have ask : ev (Ck (k + 10)) x_law_0 [some (.ro (ns.map .int)), some (.lst (v0 ++ v1 ++ v2)), none, none] [] = some (.lst ((v0 ++ v1 ++ v2).map fun _ => .bl true), []) := by
    have := comp_all (C := Ck (k + 10)) (s := [some (.ro (ns.map .int)), some (.lst (v0 ++ v1 ++ v2)), none, none]) (M := []) (emb := id) (it := .val) (t := [2]) (tk := false) (src := .cons (.var 1) .nil) (cond := .nil) (e := .call i_L_asked [] (.cons (.var 2) .nil) .nil) (ds := [.lst (v0 ++ v1 ++ v2)]) (xs := v0 ++ v1 ++ v2) (fun _ => .bl true) (es_one (e_var rfl)) (by rw [List.map_id]; exact it_val rfl)
      (fun z hz => turn1 (by simp [wipeE]) (e_call (es_one (e_var rfl)) (asked_ok (k := k + 2) rfl (all z hz))))
    exact this
  have body : evS (Ck (k + 10)) b_law [some (.ro (ns.map .int)), none, none, none] [] = some (.rt (.bl true), M1) := by
    unfold b_law
    refine s_cons (s' := [some (.ro (ns.map .int)), some (.lst v0), none, none]) (M1 := []) ?_ ?_
    · rw [tl0, hv0]; exact a_v (e_law0 (k := k + 6)) (by decide : 1 < 4)
    refine s_cons (s' := [some (.ro (ns.map .int)), some (.lst (v0 ++ v1)), none, none]) (M1 := []) ?_ ?_
    · rw [tl1]; exact a_v (e_bin (e_var rfl) (E1 _ _ _) (add_l (by rw [sl]; omega))) (by decide : 1 < 4)
    refine s_cons (s' := [some (.ro (ns.map .int)), some (.lst (v0 ++ v1 ++ v2)), none, none]) (M1 := []) ?_ ?_
    · rw [tl2]; exact a_v (e_bin (e_var rfl) (E2 _ _ _) (add_l (by rw [sl, List.length_append]; omega))) (by decide : 1 < 4)
    refine s_cons (a_no (e_not (e_blt (es_one ask) (all_map _)))) ?_
    refine s_end (a_ret (e_blt (es_one (comp_go hN (it_r1 (by omega)) e1)) ?_))
    rw [List.map_map]
    exact all_map _
  obtain ⟨M2, e2⟩ := exit0 (M := M1) (b := true)
  exact ⟨M2, (cf_out (xs := [.ro (ns.map .int)]) (f := f_law) rfl rfl rfl body).trans e2⟩
theorem sem_all : ∀ ns : List Int, ns.length ≤ 63 → (∀ z ∈ ns, Builtin.Int.intBits z ≤ 1048576) → ∃ M', callF tab 1000 (12 + 1) 0 [.ro (ns.map .int)] [] = some (.bl true, M') := fun ns _ _ => sem_k (k := 2)
end Dn


set_option Elab.async false
set_option maxRecDepth 100000
open PySem PySem.W PyProof.Rows
set_option maxRecDepth 100000 in
set_option maxHeartbeats 0 in
theorem PySem.Challenge.cw_fewblocks_k04_blocks_refused_holds : PySem.Challenge.rw_fewblocks_k04_blocks_refused.Holds := by
  w_on; o_law; k_head; (case hw => w_witness2)
  k_fill
  refine Dn.dn_walk (l := PySem.Challenge.rw_fewblocks_k04_blocks_refused) Dn.tab 1000 12 0 rfl rfl ⟨by decide, by decide⟩ (fun w h Y => PySem.W.km_in_of Y) ?F Dn.sem_all
  case F =>
    intro w mean mg mb fa h TT KX G hmg
    replace hmg : mg (PySem.Str.ofString "law") = some (.ref fa) := hmg
    refine' Dn.head TT KX G hmg ?x0 ?l0 ?e0 ?k0_ ?x1 ?y1 ?l1 ?e1 ?k1_ ?t1 ?u1 ?v1_0 ?w1_0 ?o1_0 ?x2 ?y2 ?l2 ?e2 ?k2_ ?x3 ?y3 ?l3 ?e3 ?k3_ ?x4 ?y4 ?l4 ?e4 ?k4_ ?x5 ?l5 ?e5 ?k5_ ?x6 ?l6 ?e6 ?k6_ ?x7 ?l7 ?e7 ?k7_ ?x8 ?l8 ?e8 ?k8_ ?x9 ?l9 ?e9 ?k9_ ?x10 ?l10 ?e10 ?k10_ ?x11 ?l11 ?e11 ?k11_ ?x12 ?l12 ?e12 ?k12_ ?x13 ?l13 ?e13 ?k13_ ?x14 ?l14 ?e14 ?k14_ ?x15 ?l15 ?e15 ?k15_ ?x16 ?l16 ?e16 ?k16_ ?x17 ?l17 ?e17 ?k17_ ?C0 ?Ccl0 ?Cty0 ?Cic0 ?Cmo0 ?Ckt0_NoneType ?Cnb0_NoneType ?Ckt0_bool ?Cnb0_bool ?Ckt0_int ?Cnb0_int ?Ckt0_str ?Cnb0_str ?Ckt0_tuple ?Cnb0_tuple ?Ckt0_list ?Cnb0_list ?Ckt0_dict ?Cnb0_dict ?Ckf0_int ?Ckf0_bool ?Ckf0_str ?Ckf0_tuple ?Ckf0_list ?Cnc0_0 ?Cpg0 ?Chd0 ?Cpo0 ?Csa0 ?Cbo0 ?Cle0 ?Cf0_1 ?Cmk0 ?Ckp0 ?Cne0 ?Lc5 ?Lr5 ?Lp5 ?Ln5 ?Ld5 ?X0_g ?X0_l ?X0_m ?X0_sa ?X0_eC ?X0_tC ?X0_kC ?X0_no ?X0_iC ?X0_tI ?X0_li ?X0_ci ?X0_ga ?X0_gg ?X0_hd ?X0_ha ?X0_hm ?X0_ve ?X0_le ?X0_w ?XW_g ?XW_s ?XW_h ?XW_t ?XE0_g ?XE0_t ?XE1_g ?XE1_t ?XE2_g ?XE2_t ?XE4_g ?XE4_t ?XE5_g ?XE5_t ?XE6_g ?XE6_t ?XE7_g ?XE7_t ?XC0 ?XD0_0 ?XS0_0 ?XC1 ?XD0_1 ?XS0_1 ?XC2 ?XD0_2 ?XS0_2 ?XC3 ?XC4 ?XD0_4 ?XS0_4 ?XC5 ?XD0_5 ?XS0_5 ?XC6 ?XD0_6 ?XS0_6 ?XC7 ?XD0_7 ?XS0_7 ?zct_g ?zct_k ?zct_l ?zct_c ?zst_g ?zst_k ?zst_l ?zst_c ?zb_ValueError ?zb_LookupError ?zb_isinstance ?zb_repr ?hn ?tk ?B0 ?B1 ?B2 ?B3 ?B4 ?B5 ?B6 ?B7 ?B8 ?B9 ?B10 ?B11 ?B12 ?B13 ?B14 ?B15
    (case C0 => k_is)
    (case X0_g => k_is)
    (case XW_g => k_is)
    (case XE0_g => k_is)
    (case XE1_g => k_is)
    (case XE2_g => k_is)
    (case XE4_g => k_is)
    (case XE5_g => k_is)
    (case XE6_g => k_is)
    (case XE7_g => k_is)
    (case x0 => k_is)
    (case l0 => k_is)
    (case e0 => k_is)
    (case k0_ => k_is)
    (case x1 => k_is)
    (case y1 => k_is)
    (case l1 => k_is)
    (case e1 => k_is)
    (case k1_ => k_is)
    (case t1 => k_is)
    (case u1 => rfl)
    (case v1_0 => k_is)
    (case w1_0 => rfl)
    (case o1_0 => rfl)
    (case x2 => k_is)
    (case y2 => k_is)
    (case l2 => k_is)
    (case e2 => k_is)
    (case k2_ => k_is)
    (case x3 => k_is)
    (case y3 => k_is)
    (case l3 => k_is)
    (case e3 => k_is)
    (case k3_ => k_is)
    (case x4 => k_is)
    (case y4 => k_is)
    (case l4 => k_is)
    (case e4 => k_is)
    (case k4_ => k_is)
    (case x5 => k_is)
    (case l5 => k_is)
    (case e5 => k_is)
    (case k5_ => k_is)
    (case x6 => k_is)
    (case l6 => k_is)
    (case e6 => k_is)
    (case k6_ => k_is)
    (case x7 => k_is)
    (case l7 => k_is)
    (case e7 => k_is)
    (case k7_ => k_is)
    (case x8 => k_is)
    (case l8 => k_is)
    (case e8 => k_is)
    (case k8_ => k_is)
    (case x9 => k_is)
    (case l9 => k_is)
    (case e9 => k_is)
    (case k9_ => k_is)
    (case x10 => k_is)
    (case l10 => k_is)
    (case e10 => k_is)
    (case k10_ => k_is)
    (case x11 => k_is)
    (case l11 => k_is)
    (case e11 => k_is)
    (case k11_ => k_is)
    (case x12 => k_is)
    (case l12 => k_is)
    (case e12 => k_is)
    (case k12_ => k_is)
    (case x13 => k_is)
    (case l13 => k_is)
    (case e13 => k_is)
    (case k13_ => k_is)
    (case x14 => k_is)
    (case l14 => k_is)
    (case e14 => k_is)
    (case k14_ => k_is)
    (case x15 => k_is)
    (case l15 => k_is)
    (case e15 => k_is)
    (case k15_ => k_is)
    (case x16 => k_is)
    (case l16 => k_is)
    (case e16 => k_is)
    (case k16_ => k_is)
    (case x17 => k_is)
    (case l17 => k_is)
    (case e17 => k_is)
    (case k17_ => k_is)
    (case Ccl0 => k_is)
    (case Cty0 => k_is)
    (case Cic0 => k_is)
    (case Cmo0 => k_is)
    (case Ckt0_NoneType => k_is)
    (case Cnb0_NoneType => k_is)
    (case Ckt0_bool => k_is)
    (case Cnb0_bool => k_is)
    (case Ckt0_int => k_is)
    (case Cnb0_int => k_is)
    (case Ckt0_str => k_is)
    (case Cnb0_str => k_is)
    (case Ckt0_tuple => k_is)
    (case Cnb0_tuple => k_is)
    (case Ckt0_list => k_is)
    (case Cnb0_list => k_is)
    (case Ckt0_dict => k_is)
    (case Cnb0_dict => k_is)
    (case Ckf0_int => k_is)
    (case Ckf0_bool => k_is)
    (case Ckf0_str => k_is)
    (case Ckf0_tuple => k_is)
    (case Ckf0_list => k_is)
    (case Cnc0_0 => k_is)
    (case Cpg0 => k_is)
    (case Chd0 => k_is)
    (case Cpo0 => k_is)
    (case Csa0 => k_is)
    (case Cbo0 => k_is)
    (case Cle0 => k_is)
    (case Cf0_1 => k_is)
    (case Cmk0 => k_is)
    (case Ckp0 => k_is)
    (case Cne0 => k_is)
    (case Lc5 => rfl)
    (case Lr5 => k_is)
    (case Lp5 => rfl)
    (case Ln5 => kernel_rfl)
    (case Ld5 => rfl)
    (case X0_l => k_is)
    (case X0_m => decide +kernel)
    (case X0_sa => k_is)
    (case X0_eC => k_is)
    (case X0_tC => k_is)
    (case X0_kC => k_is)
    (case X0_no => k_is)
    (case X0_iC => k_is)
    (case X0_tI => k_is)
    (case X0_li => k_is)
    (case X0_ci => k_is)
    (case X0_ga => k_is)
    (case X0_gg => k_is)
    (case X0_hd => k_is)
    (case X0_ha => k_is)
    (case X0_hm => k_is)
    (case X0_ve => k_is)
    (case X0_le => k_is)
    (case X0_w => k_is)
    (case XW_s => k_is)
    (case XW_h => k_is)
    (case XW_t => k_is)
    (case XE0_t => k_is)
    (case XE1_t => k_is)
    (case XE2_t => k_is)
    (case XE4_t => k_is)
    (case XE5_t => k_is)
    (case XE6_t => k_is)
    (case XE7_t => k_is)
    (case XC0 => k_is)
    (case XD0_0 => decide)
    (case XS0_0 => k_is)
    (case XC1 => k_is)
    (case XD0_1 => decide)
    (case XS0_1 => k_is)
    (case XC2 => k_is)
    (case XD0_2 => decide)
    (case XS0_2 => k_is)
    (case XC3 => k_is)
    (case XC4 => k_is)
    (case XD0_4 => decide)
    (case XS0_4 => k_is)
    (case XC5 => k_is)
    (case XD0_5 => decide)
    (case XS0_5 => k_is)
    (case XC6 => k_is)
    (case XD0_6 => decide)
    (case XS0_6 => k_is)
    (case XC7 => k_is)
    (case XD0_7 => decide)
    (case XS0_7 => k_is)
    (case zct_g => k_is)
    (case zct_k => k_is)
    (case zct_l => k_is)
    (case zct_c => k_is)
    (case zst_g => k_is)
    (case zst_k => k_is)
    (case zst_l => k_is)
    (case zst_c => k_is)
    (case zb_ValueError => k_is)
    (case zb_LookupError => k_is)
    (case zb_isinstance => k_is)
    (case zb_repr => k_is)
    (case hn => k_is)
    (case tk => k_is)
    (case B0 => k_is)
    (case B1 => k_is)
    (case B2 => k_is)
    (case B3 => k_is)
    (case B4 => k_is)
    (case B5 => k_is)
    (case B6 => k_is)
    (case B7 => k_is)
    (case B8 => k_is)
    (case B9 => k_is)
    (case B10 => k_is)
    (case B11 => k_is)
    (case B12 => k_is)
    (case B13 => k_is)
    (case B14 => k_is)
    (case B15 => k_is)
