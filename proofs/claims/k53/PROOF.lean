import PyProof.Rows.All
import Wide.All
import OpenK.AllK
import Wide.FinOn
import KE.KStateDown
import HandS.ForMost
import HandS.Wide
import HandS.IsInst
import HandS.Style
import HandS.TupMul
import HandS.TupAny
import HandS.More
import HandS.Words
import HandS.Defaults
import HandS.Zip
import HandS.SortInts
import HandS.Dict
import HandS.DictComp
import HandS.Flt
import HandS.Lambda
import HandS.ClsMeth
import HandS.IterVal
import HandS.OwnIter
import KE.KOwnIter
import KE.KOpsOwn
import HandS.Property
import KE.KTupSum
import HandS.Zip0
import HandS.SortKw
import KE.SortKeyHeap
import HandS.Small
import HandS.MakeKwOnly
import HandS.Head0
import HandS.Head1
import HandS.Head2
import HandS.HeadEnd
import HandS.HeadHook1
import HandS.HeadHook2
import HandS.HeadHook4
import HandS.HeadWalk
import HandS.HeadNt
import PySem.Challenge.RW_dicewhobeats_k53_bounds_rooms_and_full_t
set_option Elab.async false
set_option linter.all false
set_option maxRecDepth 100000
set_option maxHeartbeats 0
section
/-! the small language: data, cells, texts without places, what they come to -/
namespace Z
open PySem PySem.Spec PyProof.Rows L2

/-- data -/
inductive D where
  | non | bl (b : Bool) | int (i : Int) | str (s : Str)
  | tup (ds : List D) | lst (ds : List D) | cell (n : Nat) | ins (c : Nat) (ds : List D)
  | scr (ns : List Int) | typ (c : Nat)
/-- what changes -/
inductive Cell where
  | lst (ds : List D) | ins (c : Nat) (ds : List D) | dct (kvs : List (Int × D)) | dead
abbrev CH := List Cell
abbrev Env := List (Option D)
inductive R (α : Type) where
  | ok (a : α) (h : CH) | ex (c : Nat) (ds : List D) (h : CH) | no
def R.bnd {α β : Type} (r : R α) (f : α → CH → R β) : R β := match r with
  | .ok a h => f a h
  | .ex c ds h => .ex c ds h
  | .no => .no
@[simp] theorem R.bnd_ok {α β : Type} (a : α) (h : CH) (f : α → CH → R β) : (R.ok a h).bnd f = f a h := (rfl)
@[simp] theorem R.bnd_no {α β : Type} (f : α → CH → R β) : (R.no : R α).bnd f = .no := (rfl)
@[simp] theorem R.bnd_ex {α β : Type} (c : Nat) (ds : List D) (h : CH) (f : α → CH → R β) : (R.ex c ds h : R α).bnd f = .ex c ds h := (rfl)
theorem R.bnd_inv {α β : Type} {r : R α} {f : α → CH → R β} {b : β} {h' : CH} (e : r.bnd f = .ok b h') : ∃ a h, r = .ok a h ∧ f a h = .ok b h' := by
  cases r with
  | ok a h => exact ⟨a, h, rfl, e⟩
  | ex c ds h => cases e
  | no => cases e
/-- what a pure call hands back -/
inductive PR where
  | ok (d : D) | ex (c : Nat) (ds : List D) | no
inductive RS where
  | nx (env : Env) (h : CH) | rt (d : D) (h : CH) | ex (c : Nat) (ds : List D) (h : CH) | no
def RS.of {α : Type} (r : R α) (f : α → CH → RS) : RS := match r with
  | .ok a h => f a h
  | .ex c ds h => .ex c ds h
  | .no => .no
@[simp] theorem RS.of_ok {α : Type} (a : α) (h : CH) (f : α → CH → RS) : RS.of (.ok a h) f = f a h := (rfl)
@[simp] theorem RS.of_no {α : Type} (f : α → CH → RS) : RS.of (.no : R α) f = .no := (rfl)
@[simp] theorem RS.of_ex {α : Type} (c : Nat) (ds : List D) (h : CH) (f : α → CH → RS) : RS.of (.ex c ds h : R α) f = .ex c ds h := (rfl)
def RS.andThen (r : RS) (f : Env → CH → RS) : RS := match r with
  | .nx e h => f e h
  | r => r
@[simp] theorem RS.andThen_nx (e : Env) (h : CH) (f : Env → CH → RS) : RS.andThen (.nx e h) f = f e h := (rfl)
@[simp] theorem RS.andThen_rt (d : D) (h : CH) (f : Env → CH → RS) : RS.andThen (.rt d h) f = .rt d h := (rfl)
@[simp] theorem RS.andThen_ex (c : Nat) (ds : List D) (h : CH) (f : Env → CH → RS) : RS.andThen (.ex c ds h) f = .ex c ds h := (rfl)
@[simp] theorem RS.andThen_no (f : Env → CH → RS) : RS.andThen .no f = .no := (rfl)

/-- written constants -/
inductive Kc where
  | non | bl (b : Bool) | int (i : Int) | str (s : Str)
  deriving DecidableEq
@[simp] def Kc.d : Kc → D
  | .non => .non
  | .bl b => .bl b
  | .int i => .int i
  | .str s => .str s
inductive Bop where
  | add | sub | mul | fdiv | mod | pow
  deriving DecidableEq
inductive Cop where
  | lt | le | gt | ge | eq | ne | is | isn | inn | nin
  deriving DecidableEq
/-- built-ins -/
inductive Bi where
  | len | sum | min | max | min2 | max2 | min3 | abs | int | list | tuple | sorted | any | all
  deriving DecidableEq
/-- methods of lists -/
inductive Mt where
  | append | pop | popAt | insert | reverse | index
  deriving DecidableEq
inductive Ty where
  | int | bool | list | tuple | own (c : Nat)
  deriving DecidableEq
/-- what makes turns -/
inductive Tn where
  | rng1 | rng2 | rng3 | enum | zip
  deriving DecidableEq
/-- targets of for, of comprehensions -/
inductive Tg where
  | nm (i : Nat) | tp (ts : List Nat)
  deriving DecidableEq

mutual
inductive E where
  | var (i : Nat)
  | con (c : Kc)
  | bin (o : Bop) (m : Bool) (a b : E)
  | neg (a : E)
  | not (a : E)
  | bo1 (o : Bool) (a : E)
  | bo (o : Bool) (a b : E)
  | cmp (o : Cop) (a b : E)
  | ife (t a b : E)
  | tup (es : Es)
  | lst (m : Bool) (es : Es)
  | call (md : Bool) (f : Nat) (es : Es)
  | callD (md : Bool) (f : Nat) (es : Es) (c : Kc)
  | callK (md : Bool) (f : Nat) (es : Es) (e : E)
  | bi (f : Bi) (m : Bool) (es : Es)
  | isi (a : E) (tp : Bool) (ts : List Ty)
  | mth (o : E) (f : Mt) (es : Es)
  | ix (a i : E)
  | slc (m : Bool) (a : E) (lo hi : Oe)
  | rev (m : Bool) (a : E)
  | comp (m : Bool) (own : List (Str × Nat)) (tg : Tg) (it : It) (c : Oe) (e : E)
  | dix (a i : E)
  | din (neg : Bool) (a b : E)
  | dcN (own : List (Str × Nat)) (i : Nat) (it : E)
  | srt (m : Bool) (l : E) (v : Nat)
  | fld (a : E) (c i : Nat)
  | fz (a : E)
  | mk (c f : Nat) (es : Es)
  | meth (kd c : Nat) (md : Bool) (f : Nat) (o : E) (es : Es)
  | ccal (c : Nat) (md : Bool) (f : Nat) (es : Es)
  | mkc (i c f : Nat) (es : Es)
  | opm (c : Nat) (md : Bool) (f : Nat) (a b : E)
  | lset (a : E)
inductive Es where
  | nil | cons (e : E) (es : Es)
inductive Oe where
  | none | some (e : E)
inductive It where
  | e (x : E) | f (fn : Tn) (es : Es) | own (x : E) (c j : Nat)
end

inductive Tgt where
  | nm (i : Nat) | tp (ts : List Nat) | sub (a i : E) | dsub (a i : E)
mutual
inductive S where
  | asg (tg : Tgt) (e : E)
  | par (i j : Nat) (a b : E)
  | aug (i : Nat) (e : E)
  | expr (e : E)
  | ret (e : E)
  | ife (t : E) (a b : Ss)
  | fr (tg : Tg) (it : It) (b : Ss) (fg : List Nat)
  | whl (t : E) (b : Ss) (fg : List Nat)
  | pass
  | frz (i : Nat)
  | fset (i c j : Nat) (e : E)
  | fg (is : List Nat)
  | nev
inductive Ss where
  | nil | cons (s : S) (ss : Ss)
end

/-! ### values -/
def SZ : Nat := 1000000
@[simp] def items (h : CH) : D → Option (List D)
  | .tup ds => some ds
  | .lst ds => some ds
  | .cell n => match h[n]? with
    | some (.lst ds) => some ds
    | _ => none
  | .scr ns => some (ns.map .int)
  | _ => none
@[simp] def lstOf (h : CH) : D → Option (List D)
  | .lst ds => some ds
  | .cell n => match h[n]? with
    | some (.lst ds) => some ds
    | _ => none
  | _ => none
/-- a new list -/
@[simp] def newL (m : Bool) (ds : List D) (h : CH) : R D := match m with
  | true => .ok (.cell h.length) (h ++ [.lst ds])
  | false => .ok (.lst ds) h
def mulOk (i j : Int) : Bool := decide (-(2 ^ 64) < i ∧ i < 2 ^ 64) || (decide (-(2 ^ 64) < j ∧ j < 2 ^ 64) || decide (i.natAbs < 2 ^ 400000 ∧ j.natAbs < 2 ^ 400000))
def divOk (j : Int) : Bool := decide (0 < j ∧ j.natAbs < 2 ^ 8000)
mutual
def toP : D → Option PyData
  | .non => some .none
  | .bl b => some (.bool b)
  | .int i => some (.int i)
  | .str s => if PyData.canLay0 (.str s) then some (.str s) else none
  | .tup ds => (toPs ds).map .tuple
  | .lst ds => (toPs ds).map .list
  | .scr _ => none
  | .cell _ => none
  | .ins _ _ => none
  | .typ _ => none
def toPs : List D → Option (List PyData)
  | [] => some []
  | d :: ds => match toP d, toPs ds with
    | some p, some ps => some (p :: ps)
    | _, _ => none
end
/-- == of data without cells -/
def eqP (x y : D) : Option Bool := match toP x, toP y with
  | some p, some q => if p.depth ≤ 64 ∧ q.depth ≤ 64 then some (PyData.eqv p q) else none
  | _, _ => none
mutual
/-- no cells -/
def D.nc : D → Bool
  | .cell _ => false
  | .tup ds => ncs ds
  | .lst ds => ncs ds
  | .ins _ ds => ncs ds
  | _ => true
def ncs : List D → Bool
  | [] => true
  | d :: ds => d.nc && ncs ds
end
mutual
/-- nothing that could change -/
def D.solid : D → Bool
  | .cell _ => false
  | .lst _ => false
  | .ins _ _ => false
  | .scr _ => false
  | .tup ds => solids ds
  | _ => true
def solids : List D → Bool
  | [] => true
  | d :: ds => d.solid && solids ds
end
mutual
/-- cells below n alone -/
def D.und (n : Nat) : D → Bool
  | .cell k => decide (k < n)
  | .tup ds => unds n ds
  | .lst ds => unds n ds
  | .ins _ ds => unds n ds
  | _ => true
def unds (n : Nat) : List D → Bool
  | [] => true
  | d :: ds => d.und n && unds n ds
end
def Cell.und (n : Nat) : Cell → Bool
  | .lst ds => unds n ds
  | .ins _ ds => unds n ds
  | .dct kvs => unds n (kvs.map (·.2))
  | .dead => true
/-- the data that a value shows now -/
def snapF (h : CH) : Nat → D → Option D
  | 0, _ => none
  | k + 1, .tup ds => (ds.mapM (snapF h k)).map .tup
  | k + 1, .lst ds => (ds.mapM (snapF h k)).map .lst
  | k + 1, .cell n => match h[n]? with
    | some (.lst ds) => (ds.mapM (snapF h k)).map .lst
    | some (.ins c ds) => (ds.mapM (snapF h k)).map (.ins c)
    | _ => none
  | k + 1, .ins c ds => (ds.mapM (snapF h k)).map (.ins c)
  | _ + 1, d => some d
def snap (h : CH) (d : D) : Option D := if d.nc then some d else snapF h 6 d
def snaps (h : CH) (ds : List D) : Option (List D) := if ncs ds then some ds else ds.mapM (snap h)
/-- the cells that a value leans on -/
def cellsF (h : CH) : Nat → D → List Nat
  | 0, _ => []
  | k + 1, .tup ds => ds.flatMap (cellsF h k)
  | k + 1, .lst ds => ds.flatMap (cellsF h k)
  | k + 1, .cell n => n :: (match h[n]? with
    | some (.lst ds) => ds.flatMap (cellsF h k)
    | some (.ins _ ds) => ds.flatMap (cellsF h k)
    | _ => [])
  | k + 1, .ins _ ds => ds.flatMap (cellsF h k)
  | _ + 1, _ => []
def kill (l : List Nat) (h : CH) : CH := h.mapIdx fun i c => if l.contains i then .dead else c
def frzD (h : CH) (d : D) : Option (D × CH) := if d.nc then some (d, h) else (snapF h 6 d).map fun x => (x, kill (cellsF h 6 d) h)

@[simp] def intsOf : List D → Option (List Int)
  | [] => some []
  | .int i :: r => (intsOf r).map (i :: ·)
  | _ :: _ => none
@[simp] def blsOf : List D → Option (List Bool)
  | [] => some []
  | .bl i :: r => (blsOf r).map (i :: ·)
  | _ :: _ => none
def minL : List Int → Int
  | [] => 0
  | [x] => x
  | x :: y :: r => min x (minL (y :: r))
def maxL : List Int → Int
  | [] => 0
  | [x] => x
  | x :: y :: r => max x (maxL (y :: r))
def insS (x : Int) : List Int → List Int
  | [] => [x]
  | y :: r => if x ≤ y then x :: y :: r else y :: insS x r
def sortL : List Int → List Int
  | [] => []
  | x :: r => insS x (sortL r)
def ixD (ds : List D) (i : Int) : Option D := if 0 ≤ i then ds[i.toNat]? else if -(ds.length : Int) ≤ i then ds[(i + ds.length).toNat]? else none
def flatD : D → Bool
  | .non => true
  | .bl _ => true
  | .int _ => true
  | .str _ => true
  | _ => false
def eqF : D → D → Bool
  | .non, .non => true
  | .bl a, .bl b => a == b
  | .bl a, .int b => (if a then 1 else 0) == b
  | .int a, .bl b => a == (if b then 1 else 0)
  | .int a, .int b => a == b
  | .str a, .str b => a == b
  | _, _ => false
def memD (x : D) (ds : List D) : Bool := ds.any fun y => eqF y x
def findD (x : D) : List D → Option Nat
  | [] => none
  | y :: r => if eqF y x then some 0 else (findD x r).map (· + 1)
def isiD : D → Ty → Option Bool
  | .non, .own _ => some false
  | .lst _, .own _ => some false
  | .tup _, .own _ => some false
  | .ins c _, .own k => if c = k then some true else none
  | _, .own _ => none
  | .bl _, .int => some true
  | .bl _, .bool => some true
  | .int _, .int => some true
  | .lst _, .list => some true
  | .tup _, .tuple => some true
  | .non, _ => some false
  | .bl _, _ => some false
  | .int _, _ => some false
  | .str _, _ => some false
  | .lst _, _ => some false
  | .tup _, _ => some false
  | _, _ => none
/-- a cell shows what it is -/
def isiV (h : CH) (d : D) (t : Ty) : Option Bool := match d with
  | .cell n => (match h[n]? with
    | some (.lst ds) => isiD (.lst ds) t
    | some (.ins c ds) => isiD (.ins c ds) t
    | _ => none)
  | d => isiD d t
def isiAny (h : CH) (d : D) : List Ty → Option Bool
  | [] => some false
  | t :: r => match isiV h d t with
    | some true => some true
    | some false => isiAny h d r
    | none => none

/-- no instance is asked -/
def noIns (h : CH) : D → Bool
  | .ins _ _ => false
  | .cell n => (match h[n]? with
    | some (.ins _ _) => false
    | _ => true)
  | _ => true
def binD (o : Bop) (m : Bool) (x y : D) (h : CH) : R D := match o with
  | .add => (match x, y with
    | .int i, .int j => .ok (.int (i + j)) h
    | .tup xs, .tup ys => if xs.length + ys.length ≤ SZ then .ok (.tup (xs ++ ys)) h else .no
    | x, y => (match lstOf h x, lstOf h y with
      | some xs, some ys => if xs.length + ys.length ≤ SZ then newL m (xs ++ ys) h else .no
      | _, _ => .no))
  | .sub => (match x, y with
    | .int i, .int j => .ok (.int (i - j)) h
    | .bl a, .bl b => .ok (.int ((if a = true then (1 : Int) else 0) - (if b = true then (1 : Int) else 0))) h
    | _, _ => .no)
  | .mul => (match x, y with
    | .int i, .int j => if mulOk i j then .ok (.int (i * j)) h else .no
    | .tup xs, .int k => if k = 1 then .ok (.tup xs) h else if xs.length ≤ 1000 ∧ xs ≠ [] ∧ 2 ≤ k ∧ k ≤ 1000 then .ok (.tup (List.replicate k.toNat xs).flatten) h else .no
    | .lst xs, .int k => if xs.length * k.toNat ≤ SZ ∧ k ≤ SZ ∧ 0 ≤ k then newL m (List.replicate k.toNat xs).flatten h else .no
    | .cell n, .int k => (match lstOf h (.cell n) with
      | some xs => if xs.length * k.toNat ≤ SZ ∧ k ≤ SZ ∧ 0 ≤ k then newL m (List.replicate k.toNat xs).flatten h else .no
      | none => .no)
    | _, _ => .no)
  | .fdiv => (match x, y with
    | .int i, .int j => if divOk j then .ok (.int (i / j)) h else .no
    | _, _ => .no)
  | .mod => (match x, y with
    | .int i, .int j => if 0 < j then .ok (.int (i % j)) h else .no
    | _, _ => .no)
  | .pow => (match x, y with
    | .int i, .int j => if 0 ≤ j ∧ j ≤ 1000000 ∧ i.natAbs < 2 ^ 64 then .ok (.int (i ^ j.toNat)) h else .no
    | _, _ => .no)
def cmpD (o : Cop) (x y : D) (h : CH) : R D := match o with
  | .lt => (match x, y with
    | .int i, .int j => .ok (.bl (decide (i < j))) h
    | _, _ => .no)
  | .le => (match x, y with
    | .int i, .int j => .ok (.bl (decide (i ≤ j))) h
    | _, _ => .no)
  | .gt => (match x, y with
    | .int i, .int j => .ok (.bl (decide (j < i))) h
    | _, _ => .no)
  | .ge => (match x, y with
    | .int i, .int j => .ok (.bl (decide (j ≤ i))) h
    | _, _ => .no)
  | .eq => (match snap h x, snap h y with
    | some a, some b => (match eqP a b with
      | some c => .ok (.bl c) h
      | none => .no)
    | _, _ => .no)
  | .ne => (match snap h x, snap h y with
    | some a, some b => (match eqP a b with
      | some c => .ok (.bl (!c)) h
      | none => .no)
    | _, _ => .no)
  | .is => (match x, y with
    | .bl a, .bl b => .ok (.bl (a == b)) h
    | .non, .non => .ok (.bl true) h
    | _, .non => .ok (.bl false) h
    | _, _ => .no)
  | .isn => (match x, y with
    | .bl a, .bl b => .ok (.bl (!(a == b))) h
    | .non, .non => .ok (.bl false) h
    | _, .non => .ok (.bl true) h
    | _, _ => .no)
  | .inn => (match items h y with
    | some ys => if flatD x && ys.all flatD then .ok (.bl (memD x ys)) h else .no
    | none => .no)
  | .nin => (match items h y with
    | some ys => if flatD x && ys.all flatD then .ok (.bl (!memD x ys)) h else .no
    | none => .no)
def sliceD (ds : List D) (lo hi : Option Int) : List D := (ds.drop (HT.sIx ds.length 0 lo)).take (HT.sIx ds.length ds.length hi - HT.sIx ds.length 0 lo)
def slcD (m : Bool) (x : D) (lo hi : Option Int) (h : CH) : R D := match x with
  | .tup ds => .ok (.tup (sliceD ds lo hi)) h
  | x => match lstOf h x with
    | some ds => newL m (sliceD ds lo hi) h
    | none => .no
@[simp] def one1 (vs : List D) (g : D → R D) : R D := match vs with
  | [x] => g x
  | _ => .no
@[simp] def two2 (vs : List D) (g : D → D → R D) : R D := match vs with
  | [x, y] => g x y
  | _ => .no
@[simp] def intsIn (h : CH) (x : D) (g : List Int → R D) : R D := match items h x with
  | some ds => (match intsOf ds with
    | some ns => g ns
    | none => .no)
  | none => .no
@[simp] def intsL (h : CH) (x : D) (g : List Int → R D) : R D := match lstOf h x with
  | some ds => (match intsOf ds with
    | some ns => g ns
    | none => .no)
  | none => .no
@[simp] def blsL (h : CH) (x : D) (g : List Bool → R D) : R D := match lstOf h x with
  | some ds => (match blsOf ds with
    | some ns => g ns
    | none => .no)
  | none => .no
def min3 (i j k : Int) : Int := if k < (if j < i then j else i) then k else (if j < i then j else i)
def biD (f : Bi) (m : Bool) (vs : List D) (h : CH) : R D := match f with
  | .len => one1 vs fun x => (match items h x with
    | some ds => .ok (.int ds.length) h
    | none => .no)
  | .sum => one1 vs fun x => intsIn h x fun ns => .ok (.int ns.sum) h
  | .min => one1 vs fun x => intsL h x fun ns => (match ns with
    | [] => .no
    | n :: ns => .ok (.int (minL (n :: ns))) h)
  | .max => one1 vs fun x => intsL h x fun ns => (match ns with
    | [] => .no
    | n :: ns => .ok (.int (maxL (n :: ns))) h)
  | .min2 => two2 vs fun x y => (match x, y with
    | .int i, .int j => .ok (.int (if j < i then j else i)) h
    | _, _ => .no)
  | .max2 => two2 vs fun x y => (match x, y with
    | .int i, .int j => .ok (.int (if j > i then j else i)) h
    | _, _ => .no)
  | .min3 => (match vs with
    | [.int i, .int j, .int k] => .ok (.int (min3 i j k)) h
    | _ => .no)
  | .abs => one1 vs fun x => (match x with
    | .int i => .ok (.int (if i < 0 then -i else i)) h
    | _ => .no)
  | .int => one1 vs fun x => (match x with
    | .int i => .ok (.int i) h
    | .bl b => .ok (.int (if b then 1 else 0)) h
    | _ => .no)
  | .list => one1 vs fun x => (match items h x with
    | some ds => newL m ds h
    | none => .no)
  | .tuple => one1 vs fun x => (match items h x with
    | some ds => .ok (.tup ds) h
    | none => .no)
  | .sorted => one1 vs fun x => intsIn h x fun ns => newL m ((sortL ns).map .int) h
  | .any => one1 vs fun x => blsL h x fun bs => .ok (.bl (bs.any id)) h
  | .all => one1 vs fun x => blsL h x fun bs => .ok (.bl (bs.all id)) h
@[simp] def onCell (x : D) (h : CH) (g : Nat → List D → R D) : R D := match x with
  | .cell n => (match h[n]? with
    | some (.lst ds) => g n ds
    | _ => .no)
  | _ => .no
def mthD (f : Mt) (x : D) (vs : List D) (h : CH) : R D := match f with
  | .index => one1 vs fun y => (match lstOf h x with
    | some ds => if flatD y && ds.all flatD then (match findD y ds with
      | some k => .ok (.int k) h
      | none => .no) else .no
    | none => .no)
  | .append => onCell x h fun n ds => one1 vs fun y => if ds.length < SZ then .ok .non (h.set n (.lst (ds ++ [y]))) else .no
  | .pop => onCell x h fun n ds => (match vs with
    | [] => (match ds[ds.length - 1]? with
      | some y => .ok y (h.set n (.lst ds.dropLast))
      | none => .no)
    | _ => .no)
  | .popAt => onCell x h fun n ds => one1 vs fun y => (match y with
    | .int i => if 0 ≤ i ∧ i < SZ then (match ds[i.toNat]? with
      | some y => .ok y (h.set n (.lst (ds.eraseIdx i.toNat)))
      | none => .no) else .no
    | _ => .no)
  | .insert => onCell x h fun n ds => two2 vs fun i y => (match i with
    | .int i => if ds.length < SZ ∧ 0 ≤ i ∧ i < SZ then .ok .non (h.set n (.lst (ds.take i.toNat ++ [y] ++ ds.drop i.toNat))) else .no
    | _ => .no)
  | .reverse => onCell x h fun n ds => (match vs with
    | [] => .ok .non (h.set n (.lst ds.reverse))
    | _ => .no)
def ixV (x i : D) (h : CH) : R D := match items h x, i with
  | some ds, .int k => (match ixD ds k with
    | some d => .ok d h
    | none => .no)
  | _, _ => .no
/-- x[i] = y -/
def setV (x i y : D) (h : CH) : Option CH := match x, i with
  | .cell n, .int k => (match h[n]? with
    | some (.lst ds) => if 0 ≤ k then (if k.toNat < ds.length then some (h.set n (.lst (ds.set k.toNat y))) else none)
      else if -(ds.length : Int) ≤ k then some (h.set n (.lst (ds.set (k + ds.length).toNat y))) else none
    | _ => none)
  | _, _ => none

/-! ### sorted by a key: the order that (-us[x], x) gives -/
def keyLe (us : List Int) (a b : Int) : Bool := decide (-(us[a.toNat]?.getD 0) < -(us[b.toNat]?.getD 0) ∨ (-(us[a.toNat]?.getD 0) = -(us[b.toNat]?.getD 0) ∧ a ≤ b))
/-- how many different ones -/
def dst (ns : List Int) : Nat := (ns.foldl (fun l x => if l.any (· == x) then l else l ++ [x]) []).length
def lsetV (x : D) (h : CH) : R D := match lstOf h x with
  | some ds => (match intsOf ds with
    | some ns => if ns.length ≤ 4000 then .ok (.int (dst ns : Nat)) h else .no
    | none => .no)
  | none => .no
def srtV (m : Bool) (x : D) (o : Option (Option D)) (h : CH) : R D := match lstOf h x, o with
  | some ds, some (some w) => (match intsOf ds, lstOf h w with
    | some ns, some es => (match intsOf es with
      | some us => if ns.length ≤ SZ ∧ us.length ≤ SZ ∧ ∀ n ∈ ns, 0 ≤ n ∧ n.toNat < us.length then newL m ((ns.mergeSort (keyLe us)).map .int) h else .no
      | none => .no)
    | _, _ => .no)
  | _, _ => .no
/-! ### instances -/
def insOf (h : CH) : D → Option (Nat × List D)
  | .ins c ds => some (c, ds)
  | .cell n => (match h[n]? with
    | some (.ins c ds) => some (c, ds)
    | _ => none)
  | _ => none
def fldV (x : D) (c i : Nat) (h : CH) : R D := match insOf h x with
  | some (k, ds) => if k = c then (match ds[i]? with
    | some d => .ok d h
    | none => .no) else .no
  | none => .no
/-- it is an instance of this class -/
def insIs (h : CH) (x : D) (c : Nat) : Bool := match insOf h x with
  | some (k, _) => decide (k = c)
  | none => false
/-- an instance comes back -/
def isIns : D → Bool
  | .ins _ _ => true
  | _ => false
def fzV (x : D) (h : CH) : R D := match frzD h x with
  | some (d, h') => .ok d h'
  | none => .no
/-- a field is set, or comes on -/
def fsetV (x : D) (c j : Nat) (y : D) (h : CH) : Option CH := match x with
  | .cell n => (match h[n]? with
    | some (.ins k ds) => if k = c ∧ j ≤ ds.length ∧ ds.length < 1000 then some (h.set n (.ins c (if j < ds.length then ds.set j y else ds ++ [y]))) else none
    | _ => none)
  | _ => none
/-! ### dicts of ints in cells -/
def getK : List (Int × D) → Int → Option D
  | [], _ => none
  | (j, d) :: r, i => if j = i then some d else getK r i
def putD : List (Int × D) → Int → D → List (Int × D)
  | [], i, d => [(i, d)]
  | (j, e) :: r, i, d => if j = i then (j, d) :: r.map (fun p => if p.1 = i then (p.1, d) else p) else (j, e) :: putD r i d
def dctOf (h : CH) : D → Option (List (Int × D))
  | .cell n => match h[n]? with
    | some (.dct kvs) => some kvs
    | _ => none
  | _ => none
def dixV (x y : D) (h : CH) : R D := match dctOf h x, y with
  | some kvs, .int k => (match getK kvs k with
    | some d => .ok d h
    | none => .no)
  | _, _ => .no
def dinV (neg : Bool) (x y : D) (h : CH) : R D := match x, dctOf h y with
  | .int k, some kvs => .ok (.bl (xor neg (getK kvs k).isSome)) h
  | _, _ => .no
def dcNV (v : D) (h : CH) : R D := match items h v with
  | some ds => (match intsOf ds with
    | some ns => if ns.length ≤ SZ then .ok (.cell h.length) (h ++ [.dct (ns.foldl (fun m k => putD m k .non) [])]) else .no
    | none => .no)
  | none => .no
/-- x[i] = y, x a dict -/
def setK (x i y : D) (h : CH) : Option CH := match x, i with
  | .cell n, .int k => (match h[n]? with
    | some (.dct kvs) => if kvs.length < SZ then some (h.set n (.dct (putD kvs k y))) else none
    | _ => none)
  | _, _ => none

/-! ### turns -/
abbrev Ck := Option (Nat × List D)
mutual
def D.beq : D → D → Bool
  | .non, .non => true
  | .bl a, .bl b => a == b
  | .int a, .int b => a == b
  | .str a, .str b => a == b
  | .tup a, .tup b => beqs a b
  | .lst a, .lst b => beqs a b
  | .cell a, .cell b => a == b
  | .ins c a, .ins k b => c == k && beqs a b
  | .scr a, .scr b => a == b
  | .typ a, .typ b => a == b
  | _, _ => false
def beqs : List D → List D → Bool
  | [], [] => true
  | a :: r, b :: s => a.beq b && beqs r s
  | _, _ => false
end
def ckOk (c : Ck) (h : CH) : Bool := match c with
  | none => true
  | some (n, ds) => (match h[n]? with
    | some (.lst es) => beqs es ds
    | _ => false)
def ckOf : D → List D → Ck
  | .cell n, ds => some (n, ds)
  | _, _ => none
def rngOk (i : Int) : Bool := decide (-(2 ^ 62) ≤ i ∧ i < 2 ^ 62)
def rngL (a : Int) (n : Nat) : List D := (List.range n).map fun i => .int (a + (i : Nat))
def rngD (a : Int) (n : Nat) : List D := (List.range n).map fun i => .int (a - (i : Nat))
def enumFrom : Nat → List D → List D
  | _, [] => []
  | k, d :: r => .tup [.int k, d] :: enumFrom (k + 1) r
def zipL : List D → List D → List D
  | x :: xs, y :: ys => .tup [x, y] :: zipL xs ys
  | _, _ => []
def itD (fn : Tn) (vs : List D) (h : CH) : R (List D × Ck) := match fn, vs with
  | .rng1, [.int n] => if rngOk n then .ok (rngL 0 n.toNat, none) h else .no
  | .rng2, [.int a, .int b] => if rngOk a && rngOk b then .ok (rngL a (b - a).toNat, none) h else .no
  | .rng3, [.int a, .int b, .int c] => if rngOk a && rngOk b && decide (c = -1) then .ok (rngD a (a - b).toNat, none) h else .no
  | .enum, [x] => (match items h x with
    | some ds => if x matches .scr _ then .no else .ok (enumFrom 0 ds, ckOf x ds) h
    | none => .no)
  | .zip, [.tup xs, .tup ys] => if xs.length = ys.length then .ok (zipL xs ys, none) h else .no
  | .zip, [.lst xs, .lst ys] => if xs.length = ys.length then .ok (zipL xs ys, none) h else .no
  | _, _ => .no
def setAll : List Nat → List D → Env → Env
  | i :: is, d :: ds, env => setAll is ds (env.set i (some d))
  | _, _, env => env
def asgTg (tg : Tg) (d : D) (env : Env) : Option Env := match tg with
  | .nm i => some (env.set i (some d))
  | .tp ts => (match d with
    | .tup ds => if ds.length = ts.length then some (setAll ts ds env) else none
    | _ => none)
def wipeE (env : Env) : List Nat → Env
  | [] => env
  | v :: vs => (wipeE env vs).set v none
def asBl (r : R D) : R Bool := r.bnd fun d h => match d with
  | .bl b => .ok b h
  | _ => .no
@[simp] theorem asBl_ok (b : Bool) (h : CH) : asBl (.ok (.bl b) h) = .ok b h := (rfl)
/-- a comprehension's turns -/
def compGo (ck : Ck) (asg : D → Option Env) (test : Env → CH → R Bool) (f : Env → CH → R D) : List D → CH → R (List D)
  | [], h => if ckOk ck h then .ok [] h else .no
  | d :: r, h => if ckOk ck h then (match asg d with
    | some env => (test env h).bnd fun b h1 => match b with
      | true => (f env h1).bnd fun y h2 => (compGo ck asg test f r h2).bnd fun ys h3 => .ok (y :: ys) h3
      | false => compGo ck asg test f r h1
    | none => .no) else .no

/-! ### calls -/
abbrev FS := Nat → List D → CH → R D
def pcall (Φ : FS) (f : Nat) (ds : List D) : PR := match Φ f ds [] with
  | .ok d _ => if d.nc then .ok d else .no
  | .ex c es _ => if ncs es then .ex c es else .no
  | .no => .no
def callP (Φ : FS) (f : Nat) (ds : List D) (h : CH) : R D := match snaps h ds with
  | some ds' => (match pcall Φ f ds' with
    | .ok d => if ncs ds || d.solid then .ok d h else .no
    | .ex c es => if ncs ds || solids es then .ex c es h else .no
    | .no => .no)
  | none => .no
def trunc (n : Nat) (d : D) (h : CH) : CH := if h.length ≤ n then h else if d.und n && (h.take n).all (Cell.und n) then h.take n else h
def callH (Φ : FS) (f : Nat) (ds : List D) (h : CH) : R D := match Φ f ds h with
  | .ok d h' => .ok d (trunc h.length d h')
  | r => r
def callM (md : Bool) (Φ : FS) (f : Nat) (ds : List D) (h : CH) : R D := match md with
  | true => callP Φ f ds h
  | false => callH Φ f ds h

/-- a new instance, made by its __init__ -/
def mkV (Φ : FS) (c f : Nat) (ds : List D) (h : CH) : R D := (Φ f (.cell h.length :: ds) (h ++ [.ins c []])).bnd fun d h2 => match d with
  | .non => .ok (.cell h.length) h2
  | _ => .no
/-! ### expressions -/
mutual
def evE (Φ : FS) : E → Env → CH → R D
  | .var i, env, h => match env[i]? with
    | some (some d) => .ok d h
    | _ => .no
  | .con c, _, h => .ok c.d h
  | .bin o m a b, env, h => (evE Φ a env h).bnd fun x h1 => (evE Φ b env h1).bnd fun y h2 => binD o m x y h2
  | .neg a, env, h => (evE Φ a env h).bnd fun x h1 => match x with
    | .int i => .ok (.int (-i)) h1
    | _ => .no
  | .not a, env, h => (asBl (evE Φ a env h)).bnd fun b h1 => .ok (.bl (!b)) h1
  | .bo1 _ a, env, h => evE Φ a env h
  | .bo o a b, env, h => (asBl (evE Φ a env h)).bnd fun x h1 => match o == x with
    | true => evE Φ b env h1
    | false => .ok (.bl x) h1
  | .cmp o a b, env, h => (evE Φ a env h).bnd fun x h1 => (evE Φ b env h1).bnd fun y h2 => cmpD o x y h2
  | .ife t a b, env, h => (asBl (evE Φ t env h)).bnd fun x h1 => match x with
    | true => evE Φ a env h1
    | false => evE Φ b env h1
  | .tup es, env, h => (evEs Φ es env h).bnd fun vs h1 => .ok (.tup vs) h1
  | .lst m es, env, h => (evEs Φ es env h).bnd fun vs h1 => newL m vs h1
  | .call md f es, env, h => (evEs Φ es env h).bnd fun vs h1 => callM md Φ f vs h1
  | .callD md f es c, env, h => (evEs Φ es env h).bnd fun vs h1 => callM md Φ f (vs ++ [c.d]) h1
  | .callK md f es e, env, h => (evEs Φ es env h).bnd fun vs h1 => (evE Φ e env h1).bnd fun v h2 => callM md Φ f (vs ++ [v]) h2
  | .bi f m es, env, h => (evEs Φ es env h).bnd fun vs h1 => biD f m vs h1
  | .isi a tp ts, env, h => (evE Φ a env h).bnd fun x h1 => match isiAny h1 x ts with
    | some b => if noIns h1 x || !tp then .ok (.bl b) h1 else .no
    | none => .no
  | .mth o f es, env, h => (evE Φ o env h).bnd fun x h1 => (evEs Φ es env h1).bnd fun vs h2 => if (lstOf h1 x).isSome then mthD f x vs h2 else .no
  | .ix a i, env, h => (evE Φ a env h).bnd fun x h1 => (evE Φ i env h1).bnd fun y h2 => ixV x y h2
  | .slc m a lo hi, env, h => (evE Φ a env h).bnd fun x h1 => (evO Φ lo env h1).bnd fun l h2 => (evO Φ hi env h2).bnd fun u h3 => slcD m x l u h3
  | .rev m a, env, h => (evE Φ a env h).bnd fun x h1 => match x with
    | x => match lstOf h1 x with
      | some ds => newL m ds.reverse h1
      | none => .no
  | .comp m own tg it c e, env, h => (evIt Φ it env h).bnd fun p h1 => (compGo p.2 (fun d => asgTg tg d (wipeE env (own.map (·.2)))) (fun en => evC Φ c en) (fun en => evE Φ e en) p.1 h1).bnd fun ys h2 => if ys.length ≤ SZ then newL m ys h2 else .no
  | .dix a i, env, h => (evE Φ a env h).bnd fun x h1 => (evE Φ i env h1).bnd fun y h2 => dixV x y h2
  | .din neg a b, env, h => (evE Φ a env h).bnd fun x h1 => (evE Φ b env h1).bnd fun y h2 => dinV neg x y h2
  | .srt m l v, env, h => (evE Φ l env h).bnd fun x h1 => srtV m x env[v]? h1
  | .lset a, env, h => (evE Φ a env h).bnd fun x h1 => lsetV x h1
  | .fld a c i, env, h => (evE Φ a env h).bnd fun x h1 => fldV x c i h1
  | .fz a, env, h => (evE Φ a env h).bnd fun x h1 => fzV x h1
  | .mk c f es, env, h => (evEs Φ es env h).bnd fun ds h1 => mkV Φ c f ds h1
  | .meth _ c md f o es, env, h => (evE Φ o env h).bnd fun x h1 => if insIs h1 x c then (evEs Φ es env h1).bnd fun vs h2 => callM md Φ f (x :: vs) h2 else .no
  | .opm c md f a b, env, h => (evE Φ a env h).bnd fun x h1 => (evE Φ b env h1).bnd fun y h2 => if insIs h2 x c then (match y with
    | .int i => (callM md Φ f [x, .int i] h2).bnd fun d h3 => if isIns d then .ok d h3 else .no
    | _ => .no) else .no
  | .ccal c md f es, env, h => (evEs Φ es env h).bnd fun vs h1 => callM md Φ f (.typ c :: vs) h1
  | .mkc i c f es, env, h => match env[i]? with
    | some (some (.typ k)) => if k = c then (evEs Φ es env h).bnd fun ds h1 => mkV Φ c f ds h1 else .no
    | _ => .no
  | .dcN _ j it, env, h => (evE Φ it env h).bnd fun v h1 => if j < env.length then dcNV v h1 else .no
def evEs (Φ : FS) : Es → Env → CH → R (List D)
  | .nil, _, h => .ok [] h
  | .cons e es, env, h => (evE Φ e env h).bnd fun v h1 => (evEs Φ es env h1).bnd fun vs h2 => .ok (v :: vs) h2
/-- a slice's part -/
def evO (Φ : FS) : Oe → Env → CH → R (Option Int)
  | .none, _, h => .ok none h
  | .some e, env, h => (evE Φ e env h).bnd fun v h1 => match v with
    | .int i => .ok (some i) h1
    | _ => .no
/-- a comprehension's if -/
def evC (Φ : FS) : Oe → Env → CH → R Bool
  | .none, _, h => .ok true h
  | .some e, env, h => asBl (evE Φ e env h)
def evIt (Φ : FS) : It → Env → CH → R (List D × Ck)
  | .e x, env, h => (evE Φ x env h).bnd fun v h1 => match items h1 v with
    | some ds => .ok (ds, ckOf v ds) h1
    | none => .no
  | .f fn es, env, h => (evEs Φ es env h).bnd fun vs h1 => itD fn vs h1
  | .own x c j, env, h => (evE Φ x env h).bnd fun v h1 => (fldV v c j h1).bnd fun d h2 => match d with
    | .tup ds => .ok (ds, none) h2
    | _ => .no
end

/-! ### statements -/
def forGo (ck : Ck) (asg : D → Env → Option Env) (f : Env → CH → RS) (fg : List Nat) : List D → Env → CH → RS
  | [], env, h => if ckOk ck h then .nx env h else .no
  | d :: r, env, h => if ckOk ck h then (match asg d env with
    | some env1 => (f env1 h).andThen fun env2 h2 => forGo ck asg f fg r (wipeE env2 fg) h2
    | none => .no) else .no
def whlN (t : Env → CH → R Bool) (f : Env → CH → RS) (fg : List Nat) : Nat → Env → CH → RS
  | 0, _, _ => .no
  | k + 1, env, h => RS.of (t env h) fun b h1 => match b with
    | true => (f env h1).andThen fun env2 h2 => whlN t f fg k (wipeE env2 fg) h2
    | false => .nx env h1
open Classical in
noncomputable def whlD (t : Env → CH → R Bool) (f : Env → CH → RS) (fg : List Nat) (env : Env) (h : CH) : RS :=
  if hx : ∃ k, whlN t f fg k env h ≠ .no then whlN t f fg (Classical.choose hx) env h else .no
theorem whlN_mono {t : Env → CH → R Bool} {f : Env → CH → RS} {fg : List Nat} : ∀ {k : Nat} {env : Env} {h : CH}, whlN t f fg k env h ≠ .no → whlN t f fg (k + 1) env h = whlN t f fg k env h
  | 0, env, h, q => absurd rfl q
  | k + 1, env, h, q => by
    have q' := q
    unfold whlN at q' ⊢
    cases e : t env h with
    | no => rfl
    | ex c ds h1 => rfl
    | ok b h1 =>
      rw [e] at q'
      simp only [RS.of_ok] at q' ⊢
      cases b with
      | false => rfl
      | true =>
        cases e2 : f env h1 with
        | nx env2 h2 =>
          rw [e2] at q'
          simp only [RS.andThen_nx] at q' ⊢
          exact whlN_mono q'
        | rt d h2 => rfl
        | ex c ds h2 => rfl
        | no => rfl
theorem whlN_le {t : Env → CH → R Bool} {f : Env → CH → RS} {fg : List Nat} {k : Nat} {env : Env} {h : CH} (q : whlN t f fg k env h ≠ .no) : ∀ m, whlN t f fg (k + m) env h = whlN t f fg k env h
  | 0 => rfl
  | m + 1 => by
    have ih := whlN_le q m
    have q2 : whlN t f fg (k + m) env h ≠ .no := by rw [ih]; exact q
    exact (whlN_mono q2).trans ih
theorem whlN_same {t : Env → CH → R Bool} {f : Env → CH → RS} {fg : List Nat} {k m : Nat} {env : Env} {h : CH} (q : whlN t f fg k env h ≠ .no) (r : whlN t f fg m env h ≠ .no) : whlN t f fg k env h = whlN t f fg m env h := by
  rw [← whlN_le q m, ← whlN_le r k, Nat.add_comm]
theorem whlD_of {t : Env → CH → R Bool} {f : Env → CH → RS} {fg : List Nat} {k : Nat} {env : Env} {h : CH} (q : whlN t f fg k env h ≠ .no) : whlD t f fg env h = whlN t f fg k env h := by
  have hx : ∃ k, whlN t f fg k env h ≠ .no := ⟨k, q⟩
  unfold whlD
  rw [dif_pos hx]
  exact whlN_same (Classical.choose_spec hx) q
theorem whlD_some {t : Env → CH → R Bool} {f : Env → CH → RS} {fg : List Nat} {env : Env} {h : CH} (q : whlD t f fg env h ≠ .no) : ∃ k, whlD t f fg env h = whlN t f fg k env h := by
  by_cases hx : ∃ k, whlN t f fg k env h ≠ .no
  · exact ⟨_, by unfold whlD; rw [dif_pos hx]⟩
  · exact absurd (by unfold whlD; rw [dif_neg hx]) q
/-- a while is one turn, then the while -/
theorem whlD_eq (t : Env → CH → R Bool) (f : Env → CH → RS) (fg : List Nat) (env : Env) (h : CH) : whlD t f fg env h = RS.of (t env h) fun b h1 => match b with
    | true => (f env h1).andThen fun env2 h2 => whlD t f fg (wipeE env2 fg) h2
    | false => .nx env h1 := by
  have one : ∀ k, whlN t f fg (k + 1) env h = RS.of (t env h) fun b h1 => match b with
    | true => (f env h1).andThen fun env2 h2 => whlN t f fg k (wipeE env2 fg) h2
    | false => .nx env h1 := fun k => rfl
  cases e : t env h with
  | no =>
    by_cases hx : ∃ k, whlN t f fg k env h ≠ .no
    · obtain ⟨k, hk⟩ := hx
      cases k with
      | zero => exact absurd rfl hk
      | succ k => rw [one, e] at hk; exact absurd rfl hk
    · unfold whlD; rw [dif_neg hx]; rfl
  | ex c ds h1 =>
    have q : whlN t f fg 1 env h ≠ .no := by rw [one, e]; simp
    rw [whlD_of q, one, e]; rfl
  | ok b h1 =>
    cases b with
    | false =>
      have q : whlN t f fg 1 env h ≠ .no := by rw [one, e]; simp
      rw [whlD_of q, one, e]; rfl
    | true =>
      simp only [RS.of_ok]
      cases e2 : f env h1 with
      | rt d h2 =>
        have q : whlN t f fg 1 env h ≠ .no := by rw [one, e]; simp [e2]
        rw [whlD_of q, one, e]; simp [e2]
      | ex c ds h2 =>
        have q : whlN t f fg 1 env h ≠ .no := by rw [one, e]; simp [e2]
        rw [whlD_of q, one, e]; simp [e2]
      | no =>
        by_cases hx : ∃ k, whlN t f fg k env h ≠ .no
        · obtain ⟨k, hk⟩ := hx
          cases k with
          | zero => exact absurd rfl hk
          | succ k => rw [one, e] at hk; simp [e2] at hk
        · unfold whlD; rw [dif_neg hx]; rfl
      | nx env2 h2 =>
        simp only [RS.andThen_nx]
        by_cases hx : ∃ k, whlN t f fg k (wipeE env2 fg) h2 ≠ .no
        · obtain ⟨k, hk⟩ := hx
          have q : whlN t f fg (k + 1) env h ≠ .no := by rw [one, e]; simp only [RS.of_ok, e2, RS.andThen_nx]; exact hk
          rw [whlD_of q, one, e, whlD_of hk]; simp only [RS.of_ok, e2, RS.andThen_nx]
        · have hn : whlD t f fg (wipeE env2 fg) h2 = .no := by unfold whlD; rw [dif_neg hx]
          rw [hn]
          have hx2 : ¬ ∃ k, whlN t f fg k env h ≠ .no := by
            rintro ⟨k, hk⟩
            cases k with
            | zero => exact absurd rfl hk
            | succ k =>
              rw [one, e] at hk
              simp only [RS.of_ok, e2, RS.andThen_nx] at hk
              exact hx ⟨k, hk⟩
          unfold whlD; rw [dif_neg hx2]

def evTgt (Φ : FS) (tg : Tgt) (v : D) (env : Env) (h : CH) : RS := match tg with
  | .nm i => .nx (env.set i (some v)) h
  | .tp ts => (match v with
    | .tup ds => if ds.length = ts.length then .nx (setAll ts ds env) h else .no
    | _ => .no)
  | .sub a i => RS.of (evE Φ a env h) fun x h1 => RS.of (evE Φ i env h1) fun y h2 => match setV x y v h2 with
    | some h3 => .nx env h3
    | none => .no
  | .dsub a i => RS.of (evE Φ a env h) fun x h1 => RS.of (evE Φ i env h1) fun y h2 => match setK x y v h2 with
    | some h3 => .nx env h3
    | none => .no
mutual
noncomputable def evS (Φ : FS) : S → Env → CH → RS
  | .asg tg e, env, h => RS.of (evE Φ e env h) fun v h1 => evTgt Φ tg v env h1
  | .par i j a b, env, h => RS.of (evE Φ a env h) fun v h1 => RS.of (evE Φ b env h1) fun w h2 => .nx ((env.set i (some v)).set j (some w)) h2
  | .aug i e, env, h => RS.of (evE Φ (.var i) env h) fun v h1 => RS.of (evE Φ e env h1) fun w h2 => match v, w with
    | .int x, .int y => .nx (env.set i (some (.int (x + y)))) h2
    | _, _ => .no
  | .expr e, env, h => RS.of (evE Φ e env h) fun _ h1 => .nx env h1
  | .ret e, env, h => RS.of (evE Φ e env h) fun v h1 => .rt v h1
  | .ife t a b, env, h => RS.of (asBl (evE Φ t env h)) fun x h1 => match x with
    | true => evSs Φ a env h1
    | false => evSs Φ b env h1
  | .fr tg it b fg, env, h => RS.of (evIt Φ it env h) fun p h1 => forGo p.2 (asgTg tg) (fun en => evSs Φ b en) fg p.1 env h1
  | .whl t b fg, env, h => whlD (fun en hh => asBl (evE Φ t en hh)) (fun en => evSs Φ b en) fg env h
  | .pass, env, h => .nx env h
  | .fset i c j e, env, h => RS.of (evE Φ e env h) fun y h1 => match env[i]? with
    | some (some x) => (match fsetV x c j y h1 with
      | some h2 => .nx env h2
      | none => .no)
    | _ => .no
  | .frz i, env, h => match env[i]? with
    | some (some d) => (match frzD h d with
      | some (d', h') => .nx (env.set i (some d')) h'
      | none => .no)
    | _ => .no
  | .fg is, env, h => .nx (wipeE env is) h
  | .nev, _, _ => .no
noncomputable def evSs (Φ : FS) : Ss → Env → CH → RS
  | .nil, env, h => .nx env h
  | .cons s ss, env, h => (evS Φ s env h).andThen fun env1 h1 => evSs Φ ss env1 h1
end

/-! ### defs -/
structure Fd where
  name : Str
  ar : Nat
  n : Nat
  body : Ss
def envOf (n : Nat) (ds : List D) : Env := ds.map some ++ List.replicate (n - ds.length) none
noncomputable def run (T : Nat → Option Fd) : Nat → FS
  | 0 => fun _ _ _ => .no
  | k + 1 => fun f ds h => match T f with
    | some fd => if ds.length = fd.ar then (match evSs (run T k) fd.body (envOf fd.n ds) h with
      | .nx _ h' => .ok .non h'
      | .rt d h' => .ok d h'
      | .ex c es h' => .ex c es h'
      | .no => .no) else .no
    | none => .no
end Z

end
section
/-! what a state of the small language stands for -/
namespace Z
open PySem PySem.Spec PyProof.Rows L2

/-- the classes' places; the tables of code objects -/
structure CLs where
  cl : Nat → Option Addr
  fn : Nat → List Str
  tb : List (Addr × Str)
instance : CoeFun CLs (fun _ => Nat → Option Addr) := ⟨CLs.cl⟩
/-- what may change: what Mut says, and tables -/
def Sh : Option HO → Prop
  | some (.tbl _) => True
  | o => Mut o
def TB : HO → Prop
  | .tbl _ => True
  | _ => False
theorem sh_mut {o : HO} (m : Mut (some o)) : Sh (some o) := by cases o <;> first | exact m | trivial
theorem sh_tb {o : HO} (m : TB o) : Sh (some o) := by cases o <;> first | exact m.elim | trivial
theorem tb_mut {o : HO} (m : Mut (some o)) : ¬ TB o := by cases o <;> first | exact fun z => z | exact m.elim
theorem tb_of {o : HO} (n : ∀ ps, o ≠ .tbl ps) : ¬ TB o := by
  cases o with
  | tbl ps => exact (n ps rfl).elim
  | _ => exact fun z => z
theorem tb_ne {o : HO} (n : ¬ TB o) : ∀ ps, o ≠ .tbl ps := fun ps z => by subst z; exact n trivial
/-- where the cells stand; what is settled -/
structure Gh where
  φ : Nat → Addr
  F : Addr → Prop

/-- a sequence that nobody may write -/
def SqF (K : PySem.W.Frag) (H : Hp) (a : Addr) (xs : List V) : Prop := (∃ o, H a = some (.frz o (.lst xs))) ∨
    ∃ (o : Obj) (its : Array Value) (n : Nat), K.lookup a = some o ∧ o.cls = .type "list" ∧ o.dict = none ∧ o.data = .seq its n ∧ its.size ≤ sizeLine ∧ Vals xs its.toList
theorem SqF.sq {K : PySem.W.Frag} {H : Hp} {a : Addr} {xs : List V} (h : SqF K H a xs) : SqL K H a xs := h.elim (fun z => .inl (.inr z)) .inr
theorem SqF.mono {K : PySem.W.Frag} {H H' : Hp} {a : Addr} {xs : List V} (h : SqF K H a xs) (k : ∀ o, H a = some o → ¬ Sh (some o) → H' a = some o) : SqF K H' a xs := h.elim (fun ⟨o, e⟩ => .inl ⟨o, k _ e fun z => z⟩) .inr
/-- the script's sequence: nobody may write it, or it is settled -/
def SqG (K : PySem.W.Frag) (F : Addr → Prop) (H : Hp) (a : Addr) (xs : List V) : Prop := SqF K H a xs ∨ (F a ∧ H a = some (.lst xs))
theorem SqG.sq {K : PySem.W.Frag} {F : Addr → Prop} {H : Hp} {a : Addr} {xs : List V} (h : SqG K F H a xs) : SqL K H a xs := h.elim (fun z => z.sq) fun z => SqL.of z.2
theorem SqG.mono {K : PySem.W.Frag} {F F' : Addr → Prop} {H H' : Hp} {a : Addr} {xs : List V} (h : SqG K F H a xs) (fr : ∀ a, F a → F' a) (k1 : ∀ o, H a = some o → ¬ Sh (some o) → H' a = some o) (k2 : ∀ o, F a → H a = some o → ¬ TB o → H' a = some o) : SqG K F' H' a xs :=
  h.elim (fun z => .inl (z.mono k1)) fun z => .inr ⟨fr _ z.1, k2 _ z.1 z.2 fun z => z⟩
section
variable (K : PySem.W.Frag) (CL : CLs) (N : Nat) (G : Gh) (H : Hp)
mutual
inductive RV : D → V → Prop
  | non : RV .non .non
  | bl (b : Bool) : RV (.bl b) (.bl b)
  | int (i : Int) : RV (.int i) (.int i)
  | str (s : Str) : RV (.str s) (.str s)
  | tup {a : Addr} {vs : List V} {ds : List D} : SqT K H a vs → RVs ds vs → RV (.tup ds) (.ref a)
  | lst {a : Addr} {vs : List V} {ds : List D} : G.F a → H a = some (.lst vs) → RVs ds vs → RV (.lst ds) (.ref a)
  | cell {n : Nat} : n < N → RV (.cell n) (.ref (G.φ n))
  | ins {c : Nat} {a C dx : Addr} {fs : List (Str × V)} {ds : List D} : G.F a → CL c = some C → H a = some (.ins C dx fs) → fs.map (·.1) = (CL.fn c).take ds.length → RVs ds (fs.map (·.2)) → RV (.ins c ds) (.ref a)
  | scr {a : Addr} {ns : List Int} : SqG K G.F H a (ns.map V.int) → RV (.scr ns) (.ref a)
  | typ {c : Nat} {C : Addr} : CL c = some C → RV (.typ c) (.ref C)
inductive RVs : List D → List V → Prop
  | nil : RVs [] []
  | cons {d : D} {v : V} {ds : List D} {vs : List V} : RV d v → RVs ds vs → RVs (d :: ds) (v :: vs)
end
/-- a cell that lives -/
def Cell.live : Cell → Bool
  | .dead => false
  | _ => true
def kvV : List (Int × D) → List (Key × V) → Prop
  | [], [] => True
  | (i, d) :: r, (k, v) :: s => k = .inl i ∧ RV K CL N G H d v ∧ kvV r s
  | _, _ => False
def RC (n : Nat) : Cell → Prop
  | .lst ds => ¬ G.F (G.φ n) ∧ ∃ vs, H (G.φ n) = some (.lst vs) ∧ RVs K CL N G H ds vs
  | .ins c ds => ¬ G.F (G.φ n) ∧ ∃ C dx fs, CL c = some C ∧ H (G.φ n) = some (.ins C dx fs) ∧ fs.map (·.1) = (CL.fn c).take ds.length ∧ RVs K CL N G H ds (fs.map (·.2))
  | .dct kvs => ¬ G.F (G.φ n) ∧ ∃ ws, H (G.φ n) = some (.dK ws) ∧ kvV K CL N G H kvs ws
  | .dead => True
end
/-- the state h is what stands in H -/
structure SR (K : PySem.W.Frag) (CL : CLs) (G : Gh) (h : CH) (H : Hp) : Prop where
  cell : ∀ n c, h[n]? = some c → RC K CL h.length G H n c
  inj : ∀ n m c e, h[n]? = some c → h[m]? = some e → c.live = true → e.live = true → G.φ n = G.φ m → n = m
  fh : ∀ a, G.F a → H a ≠ none
  tabs : LamX.Tabs CL.tb H
/-- from one state to a later one -/
structure EvR (G : Gh) (h : CH) (H : Hp) (G' : Gh) (h' : CH) (H' : Hp) : Prop where
  len : h.length ≤ h'.length
  phi : ∀ n, n < h.length → G'.φ n = G.φ n
  fr : ∀ a, G.F a → G'.F a
  frame : ∀ a o, H a = some o → ¬ TB o → (∀ n c, h[n]? = some c → c.live = true → G.φ n ≠ a) → H' a = some o
  new : ∀ n c, h'[n]? = some c → c.live = true → (n < h.length ∧ ∃ e, h[n]? = some e ∧ e.live = true) ∨ H (G'.φ n) = none
  nf : ∀ a, G'.F a → G.F a ∨ H a = none ∨ ∃ n c, h[n]? = some c ∧ c.live = true ∧ G.φ n = a
  tr : ∀ a, H a ≠ none → H' a ≠ none

variable {K : PySem.W.Frag} {CL : CLs} {N N' : Nat} {G G' G1 G2 : Gh} {H H' H1 H2 : Hp} {h h' h1 h2 : CH}

theorem SR.obj (s : SR K CL G h H) {n : Nat} {c : Cell} (e : h[n]? = some c) (l : c.live = true) : ¬ G.F (G.φ n) ∧ ∃ o, H (G.φ n) = some o ∧ Mut (some o) ∧ ∀ f, o ≠ .ext f := by
  have r := s.cell n c e
  cases c with
  | lst ds => obtain ⟨a, vs, b, _⟩ := r; exact ⟨a, _, b, trivial, fun f z => by cases z⟩
  | ins c ds => obtain ⟨a, C, dx, fs, _, b, _⟩ := r; exact ⟨a, _, b, trivial, fun f z => by cases z⟩
  | dct kvs => obtain ⟨a, ws, b, _⟩ := r; exact ⟨a, _, b, trivial, fun f z => by cases z⟩
  | dead => cases l
/-- an address that holds nothing changeable is no cell's -/
theorem SR.off (s : SR K CL G h H) {a : Addr} {o : HO} (e : H a = some o) (nm : ¬ Mut (some o)) : ∀ n c, h[n]? = some c → c.live = true → G.φ n ≠ a := fun n c q l z => by
  obtain ⟨_, u, b, m, _⟩ := s.obj q l
  rw [z, e] at b
  cases b
  exact nm m
theorem SR.offF (s : SR K CL G h H) {a : Addr} (f : G.F a) : ∀ n c, h[n]? = some c → c.live = true → G.φ n ≠ a := fun n c q l z => (s.obj q l).1 (z ▸ f)
theorem EvR.refl (G : Gh) (h : CH) (H : Hp) : EvR G h H G h H where
  len := Nat.le_refl _
  phi := fun _ _ => rfl
  fr := fun _ f => f
  frame := fun _ _ e _ _ => e
  new := fun n c e l => by
    have lt : n < h.length := by
      rcases Nat.lt_or_ge n h.length with z | z
      · exact z
      · rw [List.getElem?_eq_none z] at e; cases e
    exact .inl ⟨lt, c, e, l⟩
  nf := fun _ f => .inl f
  tr := fun _ e => e
theorem lt_of_get {α : Type} {l : List α} {n : Nat} {c : α} (e : l[n]? = some c) : n < l.length := by
  rcases Nat.lt_or_ge n l.length with z | z
  · exact z
  · rw [List.getElem?_eq_none z] at e; cases e
theorem EvR.trans (a : EvR G h H G1 h1 H1) (b : EvR G1 h1 H1 G2 h2 H2) : EvR G h H G2 h2 H2 where
  len := Nat.le_trans a.len b.len
  phi := fun n l => (b.phi n (Nat.lt_of_lt_of_le l a.len)).trans (a.phi n l)
  fr := fun x f => b.fr x (a.fr x f)
  frame := fun x o e nt no => b.frame x o (a.frame x o e nt no) nt fun n c q l z => by
    rcases a.new n c q l with ⟨lt, e1, q1, l1⟩ | f
    · exact no n e1 q1 l1 ((a.phi n lt).symm.trans z)
    · rw [z, e] at f; cases f
  new := fun n c q l => by
    rcases b.new n c q l with ⟨lt, e1, q1, l1⟩ | f
    · rcases a.new n e1 q1 l1 with z | f
      · exact .inl z
      · exact .inr (by rw [b.phi n lt]; exact f)
    · refine .inr ?_
      cases z : H (G2.φ n) with
      | none => rfl
      | some o => exact absurd f (a.tr _ (by rw [z]; simp))
  nf := fun x f => by
    rcases b.nf x f with f1 | f1 | ⟨n, c, q, l, z⟩
    · exact a.nf x f1
    · refine .inr (.inl ?_)
      cases z : H x with
      | none => rfl
      | some o => exact absurd f1 (a.tr _ (by rw [z]; simp))
    · rcases a.new n c q l with ⟨lt, e1, q1, l1⟩ | f2
      · exact .inr (.inr ⟨n, e1, q1, l1, (a.phi n lt).symm.trans z⟩)
      · exact .inr (.inl (by rw [← z]; exact f2))
  tr := fun x e => b.tr x (a.tr x e)
theorem SqT.mono {a : Addr} {vs : List V} (k : ∀ o, H a = some o → ¬ Sh (some o) → H' a = some o) (r : SqT K H a vs) : SqT K H' a vs := by
  rcases r with (r | ⟨o, r⟩) | r
  · exact .inl (.inl (k _ r (fun z => z)))
  · exact .inl (.inr ⟨o, k _ r (fun z => z)⟩)
  · exact .inr r
theorem SqL.mono' {a : Addr} {vs : List V} (k : ∀ o, H a = some o → H' a = some o) (r : SqL K H a vs) : SqL K H' a vs := by
  rcases r with (r | ⟨o, r⟩) | r
  · exact .inl (.inl (k _ r))
  · exact .inl (.inr ⟨o, k _ r⟩)
  · exact .inr r
mutual
/-- what a value stands for stays -/
theorem RV.keep (hN : N ≤ N') (phi : ∀ n, n < N → G'.φ n = G.φ n) (fr : ∀ a, G.F a → G'.F a) (k1 : ∀ a o, H a = some o → ¬ Sh (some o) → H' a = some o) (k2 : ∀ a o, G.F a → H a = some o → ¬ TB o → H' a = some o) :
    ∀ {d : D} {v : V}, RV K CL N G H d v → RV K CL N' G' H' d v
  | _, _, .non => .non
  | _, _, .bl b => .bl b
  | _, _, .int i => .int i
  | _, _, .str s => .str s
  | _, _, .tup a b => .tup (SqT.mono (k1 _) a) (RVs.keep hN phi fr k1 k2 b)
  | _, _, .lst f a b => .lst (fr _ f) (k2 _ _ f a fun z => z) (RVs.keep hN phi fr k1 k2 b)
  | .cell n, _, .cell l => by rw [← phi _ l]; exact .cell (Nat.lt_of_lt_of_le l hN)
  | _, _, .ins f a b nm c => .ins (fr _ f) a (k2 _ _ f b fun z => z) nm (RVs.keep hN phi fr k1 k2 c)
  | _, _, .scr a => .scr (a.mono fr (k1 _) (k2 _))
  | _, _, .typ a => .typ a
theorem RVs.keep (hN : N ≤ N') (phi : ∀ n, n < N → G'.φ n = G.φ n) (fr : ∀ a, G.F a → G'.F a) (k1 : ∀ a o, H a = some o → ¬ Sh (some o) → H' a = some o) (k2 : ∀ a o, G.F a → H a = some o → ¬ TB o → H' a = some o) :
    ∀ {ds : List D} {vs : List V}, RVs K CL N G H ds vs → RVs K CL N' G' H' ds vs
  | _, _, .nil => .nil
  | _, _, .cons a b => .cons (RV.keep hN phi fr k1 k2 a) (RVs.keep hN phi fr k1 k2 b)
end
theorem EvR.k1 (s : SR K CL G h H) (e : EvR G h H G' h' H') : ∀ a o, H a = some o → ¬ Sh (some o) → H' a = some o := fun a o q m => e.frame a o q (fun z => m (sh_tb z)) (s.off q fun z => m (sh_mut z))
theorem EvR.k2 (s : SR K CL G h H) (e : EvR G h H G' h' H') : ∀ a o, G.F a → H a = some o → ¬ TB o → H' a = some o := fun a o f q nt => e.frame a o q nt (s.offF f)
theorem RV.ev (s : SR K CL G h H) (e : EvR G h H G' h' H') {d : D} {v : V} (r : RV K CL h.length G H d v) : RV K CL h'.length G' H' d v := r.keep e.len e.phi e.fr (e.k1 s) (e.k2 s)
theorem RVs.ev (s : SR K CL G h H) (e : EvR G h H G' h' H') {ds : List D} {vs : List V} (r : RVs K CL h.length G H ds vs) : RVs K CL h'.length G' H' ds vs := r.keep e.len e.phi e.fr (e.k1 s) (e.k2 s)

theorem RVs.length : ∀ {ds : List D} {vs : List V}, RVs K CL N G H ds vs → ds.length = vs.length
  | _, _, .nil => rfl
  | _, _, .cons _ b => congrArg Nat.succ b.length
theorem RVs.get : ∀ {ds : List D} {vs : List V} {i : Nat} {d : D}, RVs K CL N G H ds vs → ds[i]? = some d → ∃ v, vs[i]? = some v ∧ RV K CL N G H d v
  | _, _, _, _, .nil, e => by simp at e
  | _, _, 0, _, .cons a _, e => by simp at e; subst e; exact ⟨_, rfl, a⟩
  | _, _, i + 1, d, .cons _ b, e => by
    obtain ⟨v, h1, h2⟩ := RVs.get (i := i) (d := d) b (by simpa using e)
    exact ⟨v, by simpa using h1, h2⟩
theorem RVs.append : ∀ {ds es : List D} {vs ws : List V}, RVs K CL N G H ds vs → RVs K CL N G H es ws → RVs K CL N G H (ds ++ es) (vs ++ ws)
  | _, _, _, _, .nil, s => s
  | _, _, _, _, .cons a b, s => .cons a (RVs.append b s)
theorem RVs.set {d : D} {v : V} (r : RV K CL N G H d v) : ∀ {ds : List D} {vs : List V} (i : Nat), RVs K CL N G H ds vs → RVs K CL N G H (ds.set i d) (vs.set i v)
  | _, _, _, .nil => .nil
  | _, _, 0, .cons _ t => .cons r t
  | _, _, i + 1, .cons q t => .cons q (RVs.set r i t)
theorem RVs.take : ∀ {ds : List D} {vs : List V} (n : Nat), RVs K CL N G H ds vs → RVs K CL N G H (ds.take n) (vs.take n)
  | _, _, 0, _ => .nil
  | _, _, _ + 1, .nil => .nil
  | _, _, n + 1, .cons r t => .cons r (RVs.take n t)
theorem RVs.drop : ∀ {ds : List D} {vs : List V} (n : Nat), RVs K CL N G H ds vs → RVs K CL N G H (ds.drop n) (vs.drop n)
  | _, _, 0, r => r
  | _, _, _ + 1, .nil => .nil
  | _, _, n + 1, .cons _ t => RVs.drop n t
theorem RVs.eraseIdx : ∀ {ds : List D} {vs : List V} (n : Nat), RVs K CL N G H ds vs → RVs K CL N G H (ds.eraseIdx n) (vs.eraseIdx n)
  | _, _, _, .nil => .nil
  | _, _, 0, .cons _ t => t
  | _, _, n + 1, .cons r t => .cons r (RVs.eraseIdx n t)
theorem RVs.dropLast {ds : List D} {vs : List V} (r : RVs K CL N G H ds vs) : RVs K CL N G H ds.dropLast vs.dropLast := by
  rw [List.dropLast_eq_take, List.dropLast_eq_take, r.length]
  exact r.take _
theorem RVs.insertIdx {d : D} {v : V} (r : RV K CL N G H d v) : ∀ {ds : List D} {vs : List V} (n : Nat), RVs K CL N G H ds vs → RVs K CL N G H (ds.insertIdx n d) (vs.insertIdx n v)
  | _, _, 0, q => .cons r q
  | _, _, n + 1, .nil => .nil
  | _, _, n + 1, .cons q t => .cons q (RVs.insertIdx r n t)
theorem RVs.reverse : ∀ {ds : List D} {vs : List V}, RVs K CL N G H ds vs → RVs K CL N G H ds.reverse vs.reverse
  | _, _, .nil => .nil
  | _, _, .cons q t => by
    rw [List.reverse_cons, List.reverse_cons]
    exact t.reverse.append (.cons q .nil)
theorem RVs.rep {ds : List D} {vs : List V} (r : RVs K CL N G H ds vs) : ∀ k : Nat, RVs K CL N G H (List.replicate k ds).flatten (List.replicate k vs).flatten
  | 0 => .nil
  | k + 1 => by
    rw [List.replicate_succ, List.replicate_succ, List.flatten_cons, List.flatten_cons]
    exact r.append (r.rep k)
theorem RVs.ints : ∀ {ds : List D} {vs : List V} {ns : List Int}, RVs K CL N G H ds vs → intsOf ds = some ns → vs = ns.map V.int
  | _, _, _, .nil, e => by simp at e; subst e; rfl
  | _, _, ns, .cons (d := d) r t, e => by
    cases r with
    | int i =>
      simp only [intsOf, Option.map_eq_some_iff] at e
      obtain ⟨ms, e1, rfl⟩ := e
      rw [t.ints e1]; rfl
    | _ => simp [intsOf] at e
theorem RVs.bls : ∀ {ds : List D} {vs : List V} {ns : List Bool}, RVs K CL N G H ds vs → blsOf ds = some ns → vs = ns.map V.bl
  | _, _, _, .nil, e => by simp at e; subst e; rfl
  | _, _, ns, .cons (d := d) r t, e => by
    cases r with
    | bl i =>
      simp only [blsOf, Option.map_eq_some_iff] at e
      obtain ⟨ms, e1, rfl⟩ := e
      rw [t.bls e1]; rfl
    | _ => simp [blsOf] at e
theorem RVs.ofInts : ∀ ns : List Int, RVs K CL N G H (ns.map D.int) (ns.map V.int)
  | [] => .nil
  | i :: ns => .cons (.int i) (RVs.ofInts ns)

/-! ### names -/
def RE (K : PySem.W.Frag) (CL : CLs) (N : Nat) (G : Gh) (H : Hp) (env : Env) (σ : List (Option V)) : Prop :=
  σ.length = env.length ∧ ∀ (i : Nat) (d : D), env[i]? = some (some d) → ∃ v, σ[i]? = some (some v) ∧ RV K CL N G H d v
theorem RE.ev (s : SR K CL G h H) (e : EvR G h H G' h' H') {env : Env} {σ : List (Option V)} (r : RE K CL h.length G H env σ) : RE K CL h'.length G' H' env σ :=
  ⟨r.1, fun i d q => let ⟨v, a, b⟩ := r.2 i d q; ⟨v, a, b.ev s e⟩⟩
theorem RE.set {env : Env} {σ : List (Option V)} (r : RE K CL N G H env σ) {d : D} {v : V} (q : RV K CL N G H d v) (i : Nat) : RE K CL N G H (env.set i (some d)) (σ.set i (some v)) := by
  refine ⟨by simp [r.1], fun j e z => ?_⟩
  by_cases hj : i = j
  · subst hj
    by_cases hl : i < env.length
    · rw [List.getElem?_set_self hl] at z
      cases z
      exact ⟨v, by rw [List.getElem?_set_self (by rw [r.1]; exact hl)], q⟩
    · rw [List.getElem?_eq_none (by simpa using hl)] at z; cases z
  · rw [List.getElem?_set_ne hj] at z
    obtain ⟨w, a, b⟩ := r.2 j e z
    exact ⟨w, by rw [List.getElem?_set_ne hj]; exact a, b⟩
theorem RE.forget {env : Env} {σ : List (Option V)} (r : RE K CL N G H env σ) (i : Nat) : RE K CL N G H (env.set i none) σ := by
  refine ⟨by simp [r.1], fun j e z => ?_⟩
  by_cases hj : i = j
  · subst hj
    by_cases hl : i < env.length
    · rw [List.getElem?_set_self hl] at z; cases z
    · rw [List.getElem?_eq_none (by simpa using hl)] at z; cases z
  · rw [List.getElem?_set_ne hj] at z
    exact r.2 j e z
theorem RE.wipes {env : Env} {σ : List (Option V)} (r : RE K CL N G H env σ) : ∀ l : List Nat, RE K CL N G H (wipeE env l) σ
  | [] => r
  | v :: vs => (r.wipes vs).forget v
theorem RE.wiped {env : Env} {σ : List (Option V)} (r : RE K CL N G H env σ) : ∀ l : List Nat, RE K CL N G H (wipeE env l) (wipe σ l)
  | [] => r
  | v :: vs => by
    have ih := r.wiped vs
    refine ⟨by simp [wipeE, wipe, ih.1], fun j e z => ?_⟩
    unfold wipeE at z
    by_cases hj : v = j
    · subst hj
      by_cases hl : v < (wipeE env vs).length
      · rw [List.getElem?_set_self hl] at z; cases z
      · rw [List.getElem?_eq_none (by simpa using hl)] at z; cases z
    · rw [List.getElem?_set_ne hj] at z
      obtain ⟨w, a, b⟩ := ih.2 j e z
      exact ⟨w, by unfold wipe; rw [List.getElem?_set_ne hj]; exact a, b⟩
theorem RE.start {n : Nat} {ds : List D} {vs : List V} {nm : List Str} (r : RVs K CL N G H ds vs) (hn : nm.length = n) : RE K CL N G H (envOf n ds) (start nm vs) := by
  have l := r.length
  refine ⟨by simp [L2.start, envOf, l, hn], fun i d e => ?_⟩
  unfold envOf at e
  unfold L2.start
  by_cases hi : i < ds.length
  · rw [List.getElem?_append_left (by simpa using hi), List.getElem?_map] at e
    cases q : ds[i]? with
    | none => rw [q] at e; cases e
    | some x =>
      rw [q] at e
      simp only [Option.map_some, Option.some.injEq] at e
      subst e
      obtain ⟨v, a, b⟩ := r.get q
      exact ⟨v, by rw [List.getElem?_append_left (by simpa [← l] using hi), List.getElem?_map, a]; rfl, b⟩
  · rw [List.getElem?_append_right (by simpa using hi)] at e
    rw [List.getElem?_replicate] at e
    split at e <;> cases e
end Z

end
section
/-! steps of a state -/
namespace Z
open PySem PySem.Spec PyProof.Rows L2
section
variable {K : PySem.W.Frag} {CL : CLs} {N N' : Nat} {G G' G1 G2 : Gh} {H H' H1 H2 : Hp} {h h' h1 h2 : CH} {p : Addr} {o : HO}

theorem kvV.keep (hN : N ≤ N') (phi : ∀ n, n < N → G'.φ n = G.φ n) (fr : ∀ a, G.F a → G'.F a) (k1 : ∀ a o, H a = some o → ¬ Sh (some o) → H' a = some o) (k2 : ∀ a o, G.F a → H a = some o → ¬ TB o → H' a = some o) :
    ∀ {kvs : List (Int × D)} {ws : List (Key × V)}, kvV K CL N G H kvs ws → kvV K CL N' G' H' kvs ws
  | [], [], _ => trivial
  | (_, _) :: _, (_, _) :: _, q => ⟨q.1, q.2.1.keep hN phi fr k1 k2, kvV.keep hN phi fr k1 k2 q.2.2⟩
  | [], _ :: _, q => q.elim
  | _ :: _, [], q => q.elim
theorem kvV.und : ∀ {kvs : List (Int × D)} {ws : List (Key × V)}, unds N' (kvs.map (·.2)) = true → (∀ {d : D} {v : V}, d.und N' = true → RV K CL N G H d v → RV K CL N' G H d v) → kvV K CL N G H kvs ws → kvV K CL N' G H kvs ws
  | [], [], _, _, _ => trivial
  | (_, d) :: r, (_, _) :: _, u, k, q => by
    have u' : (d.und N' && unds N' (r.map (·.2))) = true := u
    rw [Bool.and_eq_true] at u'
    exact ⟨q.1, k u'.1 q.2.1, kvV.und u'.2 k q.2.2⟩
  | [], _ :: _, _, _, q => q.elim
  | _ :: _, [], _, _, q => q.elim
theorem RC.keep (hN : N ≤ N') (phi : ∀ n, n < N → G'.φ n = G.φ n) (fr : ∀ a, G.F a → G'.F a) (k1 : ∀ a o, H a = some o → ¬ Sh (some o) → H' a = some o) (k2 : ∀ a o, G.F a → H a = some o → ¬ TB o → H' a = some o)
    {n : Nat} {c : Cell} (hp : G'.φ n = G.φ n) (hF : c.live = true → ¬ G'.F (G'.φ n)) (hH : c.live = true → H' (G.φ n) = H (G.φ n)) (r : RC K CL N G H n c) : RC K CL N' G' H' n c := by
  cases c with
  | lst ds =>
    obtain ⟨_, vs, e, q⟩ := r
    exact ⟨hF rfl, vs, by rw [hp, hH rfl]; exact e, q.keep hN phi fr k1 k2⟩
  | ins c ds =>
    obtain ⟨_, C, dx, fs, ec, e, nm, q⟩ := r
    exact ⟨hF rfl, C, dx, fs, ec, by rw [hp, hH rfl]; exact e, nm, q.keep hN phi fr k1 k2⟩
  | dct kvs =>
    obtain ⟨_, ws, e, q⟩ := r
    exact ⟨hF rfl, ws, by rw [hp, hH rfl]; exact e, q.keep hN phi fr k1 k2⟩
  | dead => trivial

theorem _root_.LamX.Tabs.upd_off {T : List (Addr × Str)} {H : Hp} {b : Addr} {u o : HO} (t : LamX.Tabs T H) (e : H b = some u) (n1 : ∀ ps, u ≠ .tbl ps) (n2 : ∀ f, u ≠ .ext f) : LamX.Tabs T (upd H b o) := fun p hp => by
  obtain ⟨ps, h1, h2, h3⟩ := t p hp
  refine ⟨ps, ?_, h2, fun pos cv hc => ?_⟩
  · rw [upd_ne fun z => by rw [z, e] at h1; exact n1 ps (Option.some.inj h1)]; exact h1
  · obtain ⟨c, e1, e2⟩ := h3 pos cv hc
    exact ⟨c, e1, by rw [upd_ne fun z => by rw [z, e] at e2; exact n2 _ (Option.some.inj e2)]; exact e2⟩
/-- a new object that never changes (or that is settled: f) -/
def Gh.more (G : Gh) (f : Prop) (p : Addr) : Gh := ⟨G.φ, fun a => G.F a ∨ (f ∧ a = p)⟩
theorem SR.new (s : SR K CL G h H) (f : Prop) (hp : H p = none) : SR K CL (G.more f p) h (upd H p o) ∧ EvR G h H (G.more f p) h (upd H p o) := by
  have ne : ∀ a u, H a = some u → a ≠ p := fun a u e => ne_of_none e hp
  refine ⟨⟨fun n c e => ?_, s.inj, fun a fa => ?_, s.tabs.ext fun a u e => by rw [upd_ne (ne a u e)]; exact e⟩, ⟨Nat.le_refl _, fun _ _ => rfl, fun a fa => .inl fa, fun a u e _ _ => by rw [upd_ne (ne a u e)]; exact e, fun n c e l => .inl ⟨lt_of_get e, c, e, l⟩, fun a fa => ?_, fun a fa => ?_⟩⟩
  · refine (s.cell n c e).keep (G := G) (G' := G.more f p) (Nat.le_refl _) (fun _ _ => rfl) (fun a fa => Or.inl fa) (fun a u q _ => by rw [upd_ne (ne a u q)]; exact q) (fun a u _ q _ => by rw [upd_ne (ne a u q)]; exact q) rfl (fun l => ?_) fun l => ?_
    · obtain ⟨nf, u, q, _⟩ := s.obj e l
      rintro (z | ⟨_, z⟩)
      · exact nf z
      · exact ne _ u q z
    · obtain ⟨nf, u, q, _⟩ := s.obj e l
      exact upd_ne (ne _ u q)
  · rcases fa with z | ⟨_, rfl⟩
    · by_cases e : a = p
      · subst e; rw [upd_same]; simp
      · rw [upd_ne e]; exact s.fh a z
    · rw [upd_same]; simp
  · rcases fa with z | ⟨_, rfl⟩
    · exact .inl z
    · exact .inr (.inl hp)
  · by_cases e : a = p
    · subst e; rw [upd_same]; simp
    · rw [upd_ne e]; exact fa
/-- a new cell -/
def Gh.cel (G : Gh) (n : Nat) (p : Addr) : Gh := ⟨fun m => if m = n then p else G.φ m, G.F⟩
theorem SR.newCell (s : SR K CL G h H) (c : Cell) (hp : H p = none) (ho : Mut (some o))
    (rc : ∀ H' G', H' = upd H p o → G' = G.cel h.length p → (∀ a u, H a = some u → H' a = some u) → (∀ n, n < h.length → G'.φ n = G.φ n) → ¬ G'.F (G'.φ h.length) → H' (G'.φ h.length) = some o → (∀ {ds : List D} {vs : List V}, RVs K CL h.length G H ds vs → RVs K CL (h.length + 1) G' H' ds vs) → RC K CL (h.length + 1) G' H' h.length c) :
    SR K CL (G.cel h.length p) (h ++ [c]) (upd H p o) ∧ EvR G h H (G.cel h.length p) (h ++ [c]) (upd H p o) := by
  have ne : ∀ a u, H a = some u → a ≠ p := fun a u e => ne_of_none e hp
  have up : ∀ a u, H a = some u → upd H p o a = some u := fun a u q => by rw [upd_ne (ne a u q)]; exact q
  have ph : ∀ n, n < h.length → (G.cel h.length p).φ n = G.φ n := fun n l => if_neg (Nat.ne_of_lt l)
  have pn : (G.cel h.length p).φ h.length = p := if_pos rfl
  have nF : ¬ (G.cel h.length p).F ((G.cel h.length p).φ h.length) := by
    rw [pn]
    intro z
    exact s.fh p z hp
  have len : (h ++ [c]).length = h.length + 1 := by simp
  have old : ∀ n e, (h ++ [c])[n]? = some e → n < h.length → h[n]? = some e := fun n e q l => by rw [List.getElem?_append_left l] at q; exact q
  have last : ∀ n e, (h ++ [c])[n]? = some e → ¬ n < h.length → n = h.length ∧ e = c := fun n e q l => by
    have l2 := lt_of_get q
    rw [len] at l2
    have e1 : n = h.length := by omega
    subst e1
    rw [List.getElem?_append_right (Nat.le_refl _)] at q
    simp at q
    exact ⟨rfl, q.symm⟩
  refine ⟨⟨fun n e q => ?_, fun n m e e' q q' l l' z => ?_, fun a fa => ?_, s.tabs.ext up⟩, ⟨by rw [len]; omega, ph, fun a fa => fa, fun a u e _ _ => up a u e, fun n e q l => ?_, fun a fa => .inl fa, fun a fa => ?_⟩⟩
  · rw [len]
    by_cases hn : n < h.length
    · have q1 := old n e q hn
      refine (s.cell n e q1).keep (Nat.le_succ _) (fun n l => ph n l) (fun a fa => fa) (fun a u q _ => up a u q) (fun a u _ q _ => up a u q) (ph n hn) (fun l => ?_) fun l => ?_
      · rw [ph n hn]; exact (s.obj q1 l).1
      · obtain ⟨nf, u, q, _⟩ := s.obj q1 l
        exact upd_ne (ne _ u q)
    · obtain ⟨rfl, rfl⟩ := last n e q hn
      exact rc _ _ rfl rfl up ph nF (by rw [pn]; exact upd_same) fun r => r.keep (Nat.le_succ _) (fun n l => ph n l) (fun a fa => fa) (fun a u q _ => up a u q) (fun a u _ q _ => up a u q)
  · by_cases hn : n < h.length
    · by_cases hm : m < h.length
      · rw [ph n hn, ph m hm] at z
        exact s.inj n m e e' (old n e q hn) (old m e' q' hm) l l' z
      · obtain ⟨rfl, rfl⟩ := last m e' q' hm
        rw [ph n hn, pn] at z
        obtain ⟨nf, u, q2, _⟩ := s.obj (old n e q hn) l
        exact absurd z (ne _ u q2)
    · obtain ⟨rfl, rfl⟩ := last n e q hn
      by_cases hm : m < h.length
      · rw [ph m hm, pn] at z
        obtain ⟨nf, u, q2, _⟩ := s.obj (old m e' q' hm) l'
        exact absurd z.symm (ne _ u q2)
      · exact (last m e' q' hm).1.symm
  · by_cases e : a = p
    · subst e; rw [upd_same]; simp
    · rw [upd_ne e]; exact s.fh a fa
  · by_cases hn : n < h.length
    · exact .inl ⟨hn, e, old n e q hn, l⟩
    · obtain ⟨rfl, rfl⟩ := last n e q hn
      exact .inr (by rw [pn]; exact hp)
  · by_cases e : a = p
    · subst e; rw [upd_same]; simp
    · rw [upd_ne e]; exact fa
/-- a cell changes -/
theorem SR.setCell (s : SR K CL G h H) {n : Nat} {c e : Cell} (q : h[n]? = some e) (l : e.live = true) (lc : c.live = true)
    (rc : ∀ H', H' = upd H (G.φ n) o → H' (G.φ n) = some o → ¬ G.F (G.φ n) → (∀ {ds : List D} {vs : List V}, RVs K CL h.length G H ds vs → RVs K CL h.length G H' ds vs) → (∀ {d : D} {v : V}, RV K CL h.length G H d v → RV K CL h.length G H' d v) → RC K CL h.length G H' n c) :
    SR K CL G (h.set n c) (upd H (G.φ n) o) ∧ EvR G h H G (h.set n c) (upd H (G.φ n) o) := by
  obtain ⟨nf, u, hu, mu, nx⟩ := s.obj q l
  have k1 : ∀ a w, H a = some w → ¬ Sh (some w) → upd H (G.φ n) o a = some w := fun a w e m => by
    rw [upd_ne (fun z => by subst z; rw [hu] at e; cases e; exact m (sh_mut mu))]; exact e
  have k2 : ∀ a w, G.F a → H a = some w → ¬ TB w → upd H (G.φ n) o a = some w := fun a w f e _ => by
    rw [upd_ne (fun z => by subst z; exact nf f)]; exact e
  have ltn := lt_of_get q
  have len : (h.set n c).length = h.length := by simp
  have at_ : ∀ m x, (h.set n c)[m]? = some x → (m = n ∧ x = c) ∨ (m ≠ n ∧ h[m]? = some x) := fun m x z => by
    by_cases hm : n = m
    · subst hm
      rw [List.getElem?_set_self ltn] at z
      cases z
      exact .inl ⟨rfl, rfl⟩
    · rw [List.getElem?_set_ne hm] at z
      exact .inr ⟨fun z => hm z.symm, z⟩
  refine ⟨⟨fun m x z => ?_, fun m k x y z z' lx ly e => ?_, fun a fa => ?_, ?_⟩, ⟨by rw [len]; exact Nat.le_refl _, fun _ _ => rfl, fun _ f => f, fun a w e _ no => ?_, fun m x z lx => ?_, fun a f => .inl f, fun a fa => ?_⟩⟩
  · rw [len]
    rcases at_ m x z with ⟨rfl, rfl⟩ | ⟨hm, z⟩
    · exact rc _ rfl upd_same nf (fun r => r.keep (Nat.le_refl _) (fun _ _ => rfl) (fun _ f => f) k1 k2) fun r => r.keep (Nat.le_refl _) (fun _ _ => rfl) (fun _ f => f) k1 k2
    · refine (s.cell m x z).keep (Nat.le_refl _) (fun _ _ => rfl) (fun _ f => f) k1 k2 rfl (fun lx => (s.obj z lx).1) fun lx => ?_
      exact upd_ne fun e => hm (s.inj m n x _ z q lx l e)
  · have hx : ∃ x', h[m]? = some x' ∧ x'.live = true := by
      rcases at_ m x z with ⟨rfl, rfl⟩ | ⟨_, z⟩
      · exact ⟨_, q, l⟩
      · exact ⟨x, z, lx⟩
    have hy : ∃ y', h[k]? = some y' ∧ y'.live = true := by
      rcases at_ k y z' with ⟨rfl, rfl⟩ | ⟨_, z'⟩
      · exact ⟨_, q, l⟩
      · exact ⟨y, z', ly⟩
    obtain ⟨x', a1, a2⟩ := hx
    obtain ⟨y', b1, b2⟩ := hy
    exact s.inj m k x' y' a1 b1 a2 b2 e
  · by_cases e : a = G.φ n
    · subst e; rw [upd_same]; simp
    · rw [upd_ne e]; exact s.fh a fa
  · exact s.tabs.upd_off hu (fun ps z => by subst z; exact mu) fun f z => nx f z
  · rw [upd_ne (fun z => no n _ q l z.symm)]; exact e
  · rcases at_ m x z with ⟨rfl, rfl⟩ | ⟨_, z⟩
    · exact .inl ⟨ltn, _, q, l⟩
    · exact .inl ⟨lt_of_get z, x, z, lx⟩
  · by_cases e : a = G.φ n
    · subst e; rw [upd_same]; simp
    · rw [upd_ne e]; exact fa

/-! ### data without cells -/
mutual
theorem RV.nc : ∀ {d : D} {v : V}, d.nc = true → RV K CL N G H d v → RV K CL N' ⟨G'.φ, G.F⟩ H d v
  | _, _, _, .non => .non
  | _, _, _, .bl b => .bl b
  | _, _, _, .int i => .int i
  | _, _, _, .str s => .str s
  | .tup ds, _, e, .tup a b => .tup a (RVs.nc (by simpa [D.nc] using e) b)
  | .lst ds, _, e, .lst f a b => .lst f a (RVs.nc (by simpa [D.nc] using e) b)
  | .cell n, _, e, .cell l => by simp [D.nc] at e
  | .ins c ds, _, e, .ins f a b nm c' => .ins f a b nm (RVs.nc (by simpa [D.nc] using e) c')
  | _, _, _, .scr a => .scr a
  | _, _, _, .typ a => .typ a
theorem RVs.nc : ∀ {ds : List D} {vs : List V}, ncs ds = true → RVs K CL N G H ds vs → RVs K CL N' ⟨G'.φ, G.F⟩ H ds vs
  | _, _, _, .nil => .nil
  | d :: ds, _, e, .cons a b => by
    simp [ncs] at e
    exact .cons (RV.nc e.1 a) (RVs.nc e.2 b)
end
mutual
theorem RV.und : ∀ {d : D} {v : V}, d.und N' = true → RV K CL N G H d v → RV K CL N' G H d v
  | _, _, _, .non => .non
  | _, _, _, .bl b => .bl b
  | _, _, _, .int i => .int i
  | _, _, _, .str s => .str s
  | .tup ds, _, e, .tup a b => .tup a (RVs.und (by simpa [D.und] using e) b)
  | .lst ds, _, e, .lst f a b => .lst f a (RVs.und (by simpa [D.und] using e) b)
  | .cell n, _, e, .cell l => .cell (by simpa [D.und] using e)
  | .ins c ds, _, e, .ins f a b nm c' => .ins f a b nm (RVs.und (by simpa [D.und] using e) c')
  | _, _, _, .scr a => .scr a
  | _, _, _, .typ a => .typ a
theorem RVs.und : ∀ {ds : List D} {vs : List V}, unds N' ds = true → RVs K CL N G H ds vs → RVs K CL N' G H ds vs
  | _, _, _, .nil => .nil
  | d :: ds, _, e, .cons a b => by
    simp [unds] at e
    exact .cons (RV.und e.1 a) (RVs.und e.2 b)
end
mutual
theorem RV.solid : ∀ {d : D} {v : V}, d.solid = true → RV K CL N G H d v → RV K CL N' G' H d v
  | _, _, _, .non => .non
  | _, _, _, .bl b => .bl b
  | _, _, _, .int i => .int i
  | _, _, _, .str s => .str s
  | .tup ds, _, e, .tup a b => .tup a (RVs.solid (by simpa [D.solid] using e) b)
  | .lst ds, _, e, .lst f a b => by simp [D.solid] at e
  | .cell n, _, e, .cell l => by simp [D.solid] at e
  | .ins c ds, _, e, .ins f a b nm c' => by simp [D.solid] at e
  | .scr ns, _, e, .scr a => by simp [D.solid] at e
  | _, _, _, .typ a => .typ a
theorem RVs.solid : ∀ {ds : List D} {vs : List V}, solids ds = true → RVs K CL N G H ds vs → RVs K CL N' G' H ds vs
  | _, _, _, .nil => .nil
  | d :: ds, _, e, .cons a b => by
    simp [solids] at e
    exact .cons (RV.solid e.1 a) (RVs.solid e.2 b)
end

/-! ### truncation -/
theorem trunc_ok (s : SR K CL G h H) (e : EvR G h H G' h' H') (s' : SR K CL G' h' H') {d : D} {v : V} (r : RV K CL h'.length G' H' d v) :
    SR K CL G' (trunc h.length d h') H' ∧ EvR G h H G' (trunc h.length d h') H' ∧ RV K CL (trunc h.length d h').length G' H' d v := by
  unfold trunc
  split
  · exact ⟨s', e, r⟩
  · rename_i hl
    split
    · rename_i hc
      rw [Bool.and_eq_true] at hc
      have len : (h'.take h.length).length = h.length := by rw [List.length_take]; omega
      have at_ : ∀ n c, (h'.take h.length)[n]? = some c → n < h.length ∧ h'[n]? = some c := fun n c q => by
        have l := lt_of_get q
        rw [len] at l
        rw [List.getElem?_take_of_lt l] at q
        exact ⟨l, q⟩
      refine ⟨⟨fun n c q => ?_, fun n m x y q q' lx ly z => s'.inj n m x y (at_ n x q).2 (at_ m y q').2 lx ly z, s'.fh, s'.tabs⟩, ⟨by rw [len]; exact Nat.le_refl _, e.phi, e.fr, e.frame, fun n c q l => ?_, e.nf, e.tr⟩, ?_⟩
      · obtain ⟨l, q1⟩ := at_ n c q
        have hu : c.und h.length = true := List.all_eq_true.mp hc.2 c (List.mem_of_getElem? q)
        have rc := s'.cell n c q1
        rw [len]
        cases c with
        | lst ds =>
          obtain ⟨a, vs, b, r⟩ := rc
          exact ⟨a, vs, b, r.und hu⟩
        | ins c ds =>
          obtain ⟨a, C, dx, fs, ec, b, nm, r⟩ := rc
          exact ⟨a, C, dx, fs, ec, b, nm, r.und hu⟩
        | dct kvs =>
          obtain ⟨a, ws, b, r⟩ := rc
          exact ⟨a, ws, b, r.und hu fun u q => q.und u⟩
        | dead => trivial
      · obtain ⟨lt, q1⟩ := at_ n c q
        exact e.new n c q1 l
      · rw [len]; exact r.und hc.1
    · exact ⟨s', e, r⟩

/-! ### snapshots -/
/-- all cells settled -/
def Gh.all (G : Gh) (h : CH) : Gh := ⟨G.φ, fun a => G.F a ∨ ∃ n c, h[n]? = some c ∧ c.live = true ∧ G.φ n = a⟩
theorem SR.empty (s : SR K CL G h H) : SR K CL (G.all h) [] H where
  cell := fun n c e => by simp at e
  inj := fun n m c e q => by simp at q
  fh := fun a f => by
    rcases f with f | ⟨n, c, e, l, rfl⟩
    · exact s.fh a f
    · obtain ⟨_, u, q, _⟩ := s.obj e l
      rw [q]; simp
  tabs := s.tabs
theorem mapM_some {α β : Type} {f : α → Option β} : ∀ {xs : List α} {ys : List β}, xs.mapM f = some ys → xs.length = ys.length ∧ ∀ (i : Nat) (x : α), xs[i]? = some x → ∃ y, ys[i]? = some y ∧ f x = some y
  | [], ys, e => by simp at e; subst e; exact ⟨rfl, fun i x q => by simp at q⟩
  | x :: xs, ys, e => by
    rw [List.mapM_cons] at e
    cases q : f x with
    | none => rw [q] at e; cases e
    | some y =>
      rw [q] at e
      cases q2 : xs.mapM f with
      | none => rw [q2] at e; cases e
      | some zs =>
        rw [q2] at e
        have e' : y :: zs = ys := by simpa using e
        subst e'
        obtain ⟨l, r⟩ := mapM_some q2
        refine ⟨by simp [l], fun i z hz => ?_⟩
        cases i with
        | zero => simp at hz; subst hz; exact ⟨y, rfl, q⟩
        | succ i => simp at hz; obtain ⟨w, a, b⟩ := r i z hz; exact ⟨w, by simpa using a, b⟩
theorem RVs.of_mapM {f : D → Option D} {N N' : Nat} {G G' : Gh} : ∀ {xs ys : List D} {vs : List V}, xs.mapM f = some ys → (∀ x y v, f x = some y → RV K CL N G H x v → RV K CL N' G' H y v) → RVs K CL N G H xs vs → RVs K CL N' G' H ys vs
  | [], ys, _, e, _, .nil => by simp at e; subst e; exact .nil
  | x :: xs, ys, _, e, k, .cons a b => by
    rw [List.mapM_cons] at e
    cases q : f x with
    | none => rw [q] at e; cases e
    | some y =>
      rw [q] at e
      cases q2 : xs.mapM f with
      | none => rw [q2] at e; cases e
      | some zs =>
        rw [q2] at e
        have e' : y :: zs = ys := by simpa using e
        subst e'
        exact .cons (k x y _ q a) (RVs.of_mapM q2 k b)
theorem snapF_ok (s : SR K CL G h H) : ∀ (k : Nat) (d d' : D) (v : V), snapF h k d = some d' → RV K CL h.length G H d v → RV K CL 0 (G.all h) H d' v := by
  intro k
  induction k with
  | zero => intro d d' v e; cases e
  | succ k ih =>
    intro d d' v e r
    have F1 : ∀ a, G.F a → (G.all h).F a := fun a f => .inl f
    cases r with
    | non => simp [snapF] at e; subst e; exact .non
    | bl b => simp [snapF] at e; subst e; exact .bl b
    | int i => simp [snapF] at e; subst e; exact .int i
    | str x => simp [snapF] at e; subst e; exact .str x
    | tup a b =>
      simp only [snapF, Option.map_eq_some_iff] at e
      obtain ⟨ys, e1, rfl⟩ := e
      exact .tup a (RVs.of_mapM e1 ih b)
    | lst f a b =>
      simp only [snapF, Option.map_eq_some_iff] at e
      obtain ⟨ys, e1, rfl⟩ := e
      exact .lst (.inl f) a (RVs.of_mapM e1 ih b)
    | @cell n l =>
      simp only [snapF] at e
      cases q : h[n]? with
      | none => rw [q] at e; cases e
      | some c =>
        rw [q] at e
        cases c with
        | lst ds =>
          simp only [Option.map_eq_some_iff] at e
          obtain ⟨ys, e1, rfl⟩ := e
          obtain ⟨_, vs, a, b⟩ := s.cell n _ q
          exact .lst (.inr ⟨n, _, q, rfl, rfl⟩) a (RVs.of_mapM e1 ih b)
        | ins c ds =>
          simp only [Option.map_eq_some_iff] at e
          obtain ⟨ys, e1, rfl⟩ := e
          obtain ⟨_, C, dx, fs, a, b, nm, r⟩ := s.cell n _ q
          exact .ins (.inr ⟨n, _, q, rfl, rfl⟩) a b (by rw [nm, (mapM_some e1).1]) (RVs.of_mapM e1 ih r)
        | dct kvs => cases e
        | dead => cases e
    | ins f a b nm c =>
      simp only [snapF, Option.map_eq_some_iff] at e
      obtain ⟨ys, e1, rfl⟩ := e
      exact .ins (.inl f) a b (by rw [nm, (mapM_some e1).1]) (RVs.of_mapM e1 ih c)
    | scr a => simp [snapF] at e; subst e; exact .scr (a.mono (fun a f => Or.inl f) (fun _ q _ => q) fun _ _ q _ => q)
    | typ a => simp [snapF] at e; subst e; exact .typ a
theorem all_nc {d : D} {v : V} (e : d.nc = true) (r : RV K CL N G H d v) : RV K CL N' (G.all h) H d v := by
  have q : RV K CL N' ⟨(G.all h).φ, G.F⟩ H d v := r.nc (G' := G.all h) e
  exact q.keep (G := ⟨(G.all h).φ, G.F⟩) (G' := G.all h) (Nat.le_refl _) (fun _ _ => rfl) (fun a f => Or.inl f) (fun _ _ q _ => q) fun _ _ _ q _ => q
theorem snap_ok (s : SR K CL G h H) {d d' : D} {v : V} (e : snap h d = some d') (r : RV K CL h.length G H d v) : RV K CL 0 (G.all h) H d' v := by
  unfold snap at e
  split at e
  · rename_i hn
    cases e
    exact all_nc hn r
  · exact snapF_ok s 6 d d' v e r
theorem snaps_ok (s : SR K CL G h H) {ds ds' : List D} {vs : List V} (e : snaps h ds = some ds') (r : RVs K CL h.length G H ds vs) : RVs K CL 0 (G.all h) H ds' vs := by
  unfold snaps at e
  split at e
  · rename_i hn
    cases e
    have q : RVs K CL 0 ⟨(G.all h).φ, G.F⟩ H ds vs := r.nc (G' := G.all h) hn
    exact q.keep (G := ⟨(G.all h).φ, G.F⟩) (G' := G.all h) (Nat.le_refl _) (fun _ _ => rfl) (fun a f => Or.inl f) (fun _ _ q _ => q) fun _ _ _ q _ => q
  · exact RVs.of_mapM e (fun x y v q rv => snap_ok s q rv) r
/-- behind a pure call -/
def Gh.back (G : Gh) (H : Hp) (G' : Gh) : Gh := ⟨G.φ, fun a => G'.F a ∧ (G.F a ∨ H a = none)⟩
theorem SR.empty0 (s : SR K CL G h H) : SR K CL G [] H where
  cell := fun n c e => by simp at e
  inj := fun n m c e q => by simp at q
  fh := s.fh
  tabs := s.tabs
theorem back_ok (s : SR K CL G h H) {G0 : Gh} (hG : ∀ a, G.F a → G0.F a) (e : EvR G0 [] H G' h' H') (s' : SR K CL G' h' H') : SR K CL (G.back H G') h H' ∧ EvR G h H (G.back H G') h H' := by
  have up : ∀ a o, H a = some o → ¬ TB o → H' a = some o := fun a o q nt => e.frame a o q nt fun n c z => by simp at z
  have fr : ∀ a, G.F a → (G.back H G').F a := fun a f => ⟨e.fr a (hG a f), .inl f⟩
  refine ⟨⟨fun n c q => ?_, s.inj, fun a f => s'.fh a f.1, s'.tabs⟩, ⟨Nat.le_refl _, fun _ _ => rfl, fr, fun a o q nt _ => up a o q nt, fun n c q l => .inl ⟨lt_of_get q, c, q, l⟩, fun a f => f.2.elim .inl fun z => .inr (.inl z), e.tr⟩⟩
  refine (s.cell n c q).keep (G := G) (G' := G.back H G') (Nat.le_refl _) (fun _ _ => rfl) fr (fun a o q ns => up a o q fun z => ns (sh_tb z)) (fun a o _ q nt => up a o q nt) rfl (fun l => ?_) fun l => ?_
  · obtain ⟨nf, u, hu, _⟩ := s.obj q l
    rintro ⟨_, z | z⟩
    · exact nf z
    · have hu' : H ((G.back H G').φ n) = some u := hu
      rw [z] at hu'; cases hu'
  · obtain ⟨nf, u, hu, mu, _⟩ := s.obj q l
    rw [hu]; exact up _ _ hu (tb_mut mu)
/-- the answer, where no cell was handed in -/
theorem back_nc (e : EvR G [] H G' h' H') {d : D} {v : V} (hn : d.nc = true) (r : RV K CL h'.length G' H' d v) : RV K CL h.length (G.back H G') H' d v := by
  have q : RV K CL h.length ⟨(G.back H G').φ, G'.F⟩ H' d v := r.nc (G' := G.back H G') hn
  exact q.keep (G := ⟨(G.back H G').φ, G'.F⟩) (G' := G.back H G') (Nat.le_refl _) (fun _ _ => rfl) (fun a f => And.intro f (by
    rcases e.nf a f with z | z | ⟨n, c, z, _⟩
    · exact .inl z
    · exact .inr z
    · simp at z)) (fun _ _ q _ => q) fun _ _ _ q _ => q
end
end Z

end
section
/-! dicts of ints in cells: look, put -/
namespace Z
open PySem PySem.Spec L2
section
variable {K : PySem.W.Frag} {CL : CLs} {N : Nat} {G : Gh} {H : Hp}
theorem kvV_len : ∀ {kvs : List (Int × D)} {ws : List (Key × V)}, kvV K CL N G H kvs ws → kvs.length = ws.length
  | [], [], _ => rfl
  | [], _ :: _, h => h.elim
  | (_, _) :: _, [], h => h.elim
  | (_, _) :: r, (_, _) :: s, h => congrArg Nat.succ (kvV_len h.2.2)
theorem kvV_get {i : Int} : ∀ {kvs : List (Int × D)} {ws : List (Key × V)}, kvV K CL N G H kvs ws → (∀ d, getK kvs i = some d → ∃ v, valV ws (.inl i : Key) = some v ∧ RV K CL N G H d v) ∧ (getK kvs i = none → valV ws (.inl i : Key) = none)
  | [], [], _ => ⟨fun d e => (by cases e), fun _ => rfl⟩
  | [], _ :: _, h => h.elim
  | (_, _) :: _, [], h => h.elim
  | (j, d) :: r, (k, v) :: s, h => by
    obtain ⟨rfl, h2, h3⟩ := h
    have ih := kvV_get (i := i) h3
    by_cases e : j = i
    · subst e
      refine ⟨fun d' e' => ?_, fun e' => ?_⟩
      · simp only [getK, if_true, Option.some.injEq] at e'
        subst e'
        exact ⟨v, valV_pos (p := ((.inl j : Key), v)) rfl, h2⟩
      · simp [getK] at e'
    · have ne : ¬ ((.inl j : Key) = .inl i) := fun z => e (by cases z; rfl)
      refine ⟨fun d' e' => ?_, fun e' => ?_⟩
      · simp only [getK, if_neg e] at e'
        obtain ⟨w, a, b⟩ := ih.1 d' e'
        exact ⟨w, (valV_neg (p := ((.inl j : Key), v)) ne).trans a, b⟩
      · simp only [getK, if_neg e] at e'
        exact (valV_neg (p := ((.inl j : Key), v)) ne).trans (ih.2 e')
theorem kvV_map {i : Int} {d : D} {v : V} (q : RV K CL N G H d v) : ∀ {kvs : List (Int × D)} {ws : List (Key × V)}, kvV K CL N G H kvs ws → kvV K CL N G H (kvs.map fun p => if p.1 = i then (p.1, d) else p) (ws.map fun kv => if kv.1 = (.inl i : Key) then (kv.1, v) else kv)
  | [], [], _ => True.intro
  | [], _ :: _, h => h.elim
  | (_, _) :: _, [], h => h.elim
  | (j, e) :: r, (k, w) :: s, h => by
    obtain ⟨rfl, h2, h3⟩ := h
    have ih := kvV_map (i := i) q h3
    simp only [List.map_cons]
    by_cases z : j = i
    · subst z
      rw [if_pos rfl, if_pos rfl]
      exact ⟨rfl, q, ih⟩
    · have ne : ¬ ((.inl j : Key) = .inl i) := fun z' => z (by cases z'; rfl)
      rw [if_neg z, if_neg ne]
      exact ⟨rfl, h2, ih⟩
theorem kvV_put {i : Int} {d : D} {v : V} (q : RV K CL N G H d v) : ∀ {kvs : List (Int × D)} {ws : List (Key × V)}, kvV K CL N G H kvs ws → kvV K CL N G H (putD kvs i d) (putK ws (.inl i : Key) v)
  | [], [], _ => ⟨rfl, q, True.intro⟩
  | [], _ :: _, h => h.elim
  | (_, _) :: _, [], h => h.elim
  | (j, e) :: r, (k, w) :: s, h => by
    obtain ⟨rfl, h2, h3⟩ := h
    by_cases z : j = i
    · subst z
      have m := kvV_map (i := j) q h3
      unfold putD putK
      rw [if_pos rfl, if_pos (by simp)]
      simp only [List.map_cons, if_true]
      exact ⟨rfl, q, m⟩
    · have ih := kvV_put (i := i) q h3
      have ne : ¬ ((.inl j : Key) = .inl i) := fun z' => z (by cases z'; rfl)
      unfold putD
      rw [if_neg z]
      unfold putK at ih ⊢
      have e1 : (((.inl j : Key), w) :: s).any (fun kv => decide (kv.1 = (.inl i : Key))) = s.any (fun kv => decide (kv.1 = (.inl i : Key))) := by simp [ne, z]
      rw [e1]
      by_cases a : s.any (fun kv => decide (kv.1 = (.inl i : Key))) = true
      · rw [if_pos a] at ih ⊢
        simp only [List.map_cons, if_neg ne]
        exact ⟨rfl, h2, ih⟩
      · rw [if_neg a] at ih ⊢
        exact ⟨rfl, h2, ih⟩
end
end Z

end
section
/-! a cell is settled -/
namespace Z
open PySem PySem.Spec L2
section
variable {K : PySem.W.Frag} {CL : CLs} {N N' : Nat} {G G' : Gh} {H H' : Hp} {h h' : CH}
def Gh.kl (G : Gh) (l : List Nat) (h : CH) : Gh := ⟨G.φ, fun a => G.F a ∨ ∃ n c, n ∈ l ∧ h[n]? = some c ∧ c.live = true ∧ G.φ n = a⟩
theorem kill_get {l : List Nat} {h : CH} {n : Nat} {c : Cell} (e : (kill l h)[n]? = some c) : ∃ c0, h[n]? = some c0 ∧ ((n ∈ l ∧ c = .dead) ∨ (n ∉ l ∧ c = c0)) := by
  unfold kill at e
  rw [List.getElem?_mapIdx] at e
  cases q : h[n]? with
  | none => rw [q] at e; cases e
  | some c0 =>
    rw [q] at e
    simp only [Option.map_some, Option.some.injEq] at e
    refine ⟨c0, rfl, ?_⟩
    by_cases hn : n ∈ l
    · rw [if_pos (by simpa using hn)] at e
      exact .inl ⟨hn, e.symm⟩
    · rw [if_neg (by simpa using hn)] at e
      exact .inr ⟨hn, e.symm⟩
theorem kill_len {l : List Nat} {h : CH} : (kill l h).length = h.length := by unfold kill; simp
theorem SR.kill (s : SR K CL G h H) (l : List Nat) : SR K CL (G.kl l h) (kill l h) H ∧ EvR G h H (G.kl l h) (kill l h) H := by
  have fr : ∀ a, G.F a → (G.kl l h).F a := fun a f => .inl f
  refine ⟨⟨fun n c e => ?_, fun n m c e a b la lb z => ?_, fun a f => ?_, s.tabs⟩, ⟨Nat.le_of_eq kill_len.symm, fun _ _ => rfl, fr, fun a o q _ _ => q, fun n c e lc => ?_, fun a f => ?_, fun a q => q⟩⟩
  · obtain ⟨c0, e0, ⟨hn, rfl⟩ | ⟨hn, rfl⟩⟩ := kill_get e
    · trivial
    · rw [kill_len]
      refine (s.cell n c e0).keep (G := G) (G' := G.kl l h) (Nat.le_refl _) (fun _ _ => rfl) fr (fun a o q _ => q) (fun a o _ q _ => q) rfl (fun lv => ?_) fun _ => rfl
      rintro (z | ⟨m, c1, hm, em, lm, z⟩)
      · exact (s.obj e0 lv).1 z
      · have : m = n := s.inj m n c1 c em e0 lm lv z
        subst this
        exact hn hm
  · obtain ⟨c0, e0, ⟨hn, rfl⟩ | ⟨hn, rfl⟩⟩ := kill_get a
    · cases la
    · obtain ⟨c1, e1, ⟨hm, rfl⟩ | ⟨hm, rfl⟩⟩ := kill_get b
      · cases lb
      · exact s.inj n m _ _ e0 e1 la lb z
  · rcases f with f | ⟨n, c, _, e, lv, rfl⟩
    · exact s.fh a f
    · obtain ⟨_, u, q, _⟩ := s.obj e lv
      rw [q]; simp
  · obtain ⟨c0, e0, ⟨hn, rfl⟩ | ⟨hn, rfl⟩⟩ := kill_get e
    · cases lc
    · exact .inl ⟨lt_of_get e0, c, e0, lc⟩
  · rcases f with f | ⟨n, c, _, e, lv, z⟩
    · exact .inl f
    · exact .inr (.inr ⟨n, c, e, lv, z⟩)
theorem RVs.of_mapM' {f : D → Option D} {N N' : Nat} {G G' : Gh} : ∀ {xs ys : List D} {vs : List V}, xs.mapM f = some ys → (∀ x ∈ xs, ∀ y v, f x = some y → RV K CL N G H x v → RV K CL N' G' H y v) → RVs K CL N G H xs vs → RVs K CL N' G' H ys vs
  | [], ys, _, e, _, .nil => by simp at e; subst e; exact .nil
  | x :: xs, ys, _, e, k, .cons a b => by
    rw [List.mapM_cons] at e
    cases q : f x with
    | none => rw [q] at e; cases e
    | some y =>
      rw [q] at e
      cases q2 : xs.mapM f with
      | none => rw [q2] at e; cases e
      | some zs =>
        rw [q2] at e
        have e' : y :: zs = ys := by simpa using e
        subst e'
        exact .cons (k x List.mem_cons_self y _ q a) (RVs.of_mapM' q2 (fun z hz => k z (List.mem_cons_of_mem _ hz)) b)
theorem snapK_ok (s : SR K CL G h H) {l : List Nat} : ∀ (k : Nat) (d d' : D) (v : V), snapF h k d = some d' → (∀ n ∈ cellsF h k d, n ∈ l) → RV K CL h.length G H d v → RV K CL N' (G.kl l h) H d' v := by
  intro k
  induction k with
  | zero => intro d d' v e; cases e
  | succ k ih =>
    intro d d' v e hl r
    cases r with
    | non => simp [snapF] at e; subst e; exact .non
    | bl b => simp [snapF] at e; subst e; exact .bl b
    | int i => simp [snapF] at e; subst e; exact .int i
    | str x => simp [snapF] at e; subst e; exact .str x
    | tup a b =>
      simp only [snapF, Option.map_eq_some_iff] at e
      obtain ⟨ys, e1, rfl⟩ := e
      simp only [cellsF, List.mem_flatMap] at hl
      exact .tup a (RVs.of_mapM' e1 (fun x hx y v q rv => ih x y v q (fun n hn => hl n ⟨x, hx, hn⟩) rv) b)
    | lst f a b =>
      simp only [snapF, Option.map_eq_some_iff] at e
      obtain ⟨ys, e1, rfl⟩ := e
      simp only [cellsF, List.mem_flatMap] at hl
      exact .lst (.inl f) a (RVs.of_mapM' e1 (fun x hx y v q rv => ih x y v q (fun n hn => hl n ⟨x, hx, hn⟩) rv) b)
    | @cell n ln =>
      simp only [snapF] at e
      cases q : h[n]? with
      | none => rw [q] at e; cases e
      | some c =>
        rw [q] at e
        cases c with
        | lst ds =>
          simp only [Option.map_eq_some_iff] at e
          obtain ⟨ys, e1, rfl⟩ := e
          obtain ⟨_, vs, a, b⟩ := s.cell n _ q
          simp only [cellsF, q, List.mem_cons, List.mem_flatMap] at hl
          exact .lst (.inr ⟨n, _, hl n (.inl rfl), q, rfl, rfl⟩) a (RVs.of_mapM' e1 (fun x hx y v q rv => ih x y v q (fun n hn => hl n (.inr ⟨x, hx, hn⟩)) rv) b)
        | ins c ds =>
          simp only [Option.map_eq_some_iff] at e
          obtain ⟨ys, e1, rfl⟩ := e
          obtain ⟨_, C, dx, fs, a, b, nm, r⟩ := s.cell n _ q
          simp only [cellsF, q, List.mem_cons, List.mem_flatMap] at hl
          exact .ins (.inr ⟨n, _, hl n (.inl rfl), q, rfl, rfl⟩) a b (by rw [nm, (mapM_some e1).1]) (RVs.of_mapM' e1 (fun x hx y v q rv => ih x y v q (fun n hn => hl n (.inr ⟨x, hx, hn⟩)) rv) r)
        | dct kvs => cases e
        | dead => cases e
    | ins f a b nm c =>
      simp only [snapF, Option.map_eq_some_iff] at e
      obtain ⟨ys, e1, rfl⟩ := e
      simp only [cellsF, List.mem_flatMap] at hl
      exact .ins (.inl f) a b (by rw [nm, (mapM_some e1).1]) (RVs.of_mapM' e1 (fun x hx y v q rv => ih x y v q (fun n hn => hl n ⟨x, hx, hn⟩) rv) c)
    | scr a => simp [snapF] at e; subst e; exact .scr (a.mono (fun a f => Or.inl f) (fun _ q _ => q) fun _ _ q _ => q)
    | typ a => simp [snapF] at e; subst e; exact .typ a
/-- what frz makes -/
theorem frz_ok (s : SR K CL G h H) {d d' : D} {v : V} (e : frzD h d = some (d', h')) (r : RV K CL h.length G H d v) : ∃ G', SR K CL G' h' H ∧ EvR G h H G' h' H ∧ RV K CL h'.length G' H d' v := by
  unfold frzD at e
  split at e
  · simp only [Option.some.injEq, Prod.mk.injEq] at e
    obtain ⟨rfl, rfl⟩ := e
    exact ⟨G, s, EvR.refl _ _ _, r⟩
  · simp only [Option.map_eq_some_iff, Prod.mk.injEq] at e
    obtain ⟨x, e1, rfl, rfl⟩ := e
    obtain ⟨a, b⟩ := s.kill (cellsF h 6 d)
    exact ⟨_, a, b, snapK_ok s 6 d x v e1 (fun n hn => hn) r⟩
end
end Z

end
section
/-! the text of the program against the text without places -/
namespace Z
open PySem PySem.Spec L2

/-- a def as callers see it -/
structure FI where
  name : Str
  ar : Nat
  kw : Option (Str × Kc)
/-- what a law's top holds -/
structure LI where
  fn : Nat → Option FI
  bn : List Str
  cl : Nat → Option Str
  tf : Option Str := none
  lm : Bool := false
  fd : Nat → List Str := fun _ => []
  mkr : Nat → Option (Str × Nat × Nat) := fun _ => none
  st : Nat → Option (Str × Str × Nat) := fun _ => none
  me : Nat → Option (Nat × Nat × Str × Nat) := fun _ => none
  cm : Nat → Option (Nat × Str × Str × Nat) := fun _ => none
  it : Nat → Option Nat := fun _ => none
def isCall : Expr → Bool
  | .Call .. => true
  | _ => false
def visB (sc : Scope) (x : Str) : Bool := match sc.names.lookup x with
  | some .local => true
  | some .cell => true
  | some .free => true
  | _ => false
theorem visB_ok {sc : Scope} {x : Str} (h : visB sc x = true) : Vis sc x := by
  unfold visB at h
  cases q : sc.names.lookup x with
  | none => rw [q] at h; cases h
  | some k =>
    rw [q] at h
    cases k with
    | «local» => exact .inl q
    | cell => exact .inr (.inl q)
    | free => exact .inr (.inr q)
    | globalExplicit => cases h
    | globalImplicit => cases h
def glB (sc : Scope) (x : Str) : Bool := decide (sc.names.lookup x = some .globalImplicit)
def isDbg (x : Str) : Bool := x == ("__debug__" : Str)
def nmB (N : List Str) (sc : Scope) (i : Nat) (x : Str) : Bool := decide (N[i]? = some x) && (visB sc x && (!(x == ("__debug__" : Str)) && !(x == ("__classdict__" : Str))))
/-- a name that may be stored: fn tells whose cells were made here -/
def stB (N : List Str) (sc : Scope) (fn : Str → Bool) (i : Nat) (x : Str) : Bool := decide (N[i]? = some x) && (decide (sc.names.lookup x = some .local) || (decide (sc.names.lookup x = some .cell) && fn x))
def chkK : Kc → Const → Bool
  | .non, .none => true
  | .bl a, .bool b => a == b
  | .int i, .int j => decide (i = j)
  | .str s, .str t => decide (s = t)
  | _, _ => false
def Bop.op : Bop → Operator
  | .add => .Add
  | .sub => .Sub
  | .mul => .Mult
  | .fdiv => .FloorDiv
  | .mod => .Mod
  | .pow => .Pow
def Cop.op : Cop → CmpOp
  | .lt => .Lt
  | .le => .LtE
  | .gt => .Gt
  | .ge => .GtE
  | .eq => .Eq
  | .ne => .NotEq
  | .is => .Is
  | .isn => .IsNot
  | .inn => .In
  | .nin => .NotIn
def Bi.name : Bi → Str
  | .len => "len"
  | .sum => "sum"
  | .min => "min"
  | .max => "max"
  | .min2 => "min"
  | .max2 => "max"
  | .min3 => "min"
  | .abs => "abs"
  | .int => "int"
  | .list => "list"
  | .tuple => "tuple"
  | .sorted => "sorted"
  | .any => "any"
  | .all => "all"
def Bi.ar : Bi → Nat
  | .min2 => 2
  | .max2 => 2
  | .min3 => 3
  | _ => 1
def Tn.name : Tn → Str
  | .rng1 => "range"
  | .rng2 => "range"
  | .rng3 => "range"
  | .enum => "enumerate"
  | .zip => "zip"
def Mt.name : Mt → Str
  | .append => "append"
  | .pop => "pop"
  | .popAt => "pop"
  | .insert => "insert"
  | .reverse => "reverse"
  | .index => "index"
def Ty.nm : Ty → Option Str
  | .int => some "int"
  | .bool => some "bool"
  | .list => some "list"
  | .tuple => some "tuple"
  | .own _ => none
def Es.len : Es → Nat
  | .nil => 0
  | .cons _ es => es.len + 1
def isSet : Expr → Bool
  | .Set .. => true
  | _ => false
def chkTgs (N : List Str) (sc : Scope) (fn : Str → Bool) : List Nat → List Expr → Bool
  | [], [] => true
  | i :: is, .Name x _ :: xs => stB N sc fn i x && chkTgs N sc fn is xs
  | _, _ => false
def chkTg (N : List Str) (sc : Scope) (fn : Str → Bool) : Tg → Expr → Bool
  | .nm i, .Name x _ => stB N sc fn i x
  | .tp is, .Tuple xs _ _ => chkTgs N sc fn is xs
  | _, _ => false
/-- the written types of an isinstance -/
def chkTy (L : LI) (sc : Scope) (t : Ty) : Expr → Bool
  | .Name x _ => (match t with
    | .own c => (match L.cl c with
      | some y => decide (x = y) && (glB sc x && !(x == ("__debug__" : Str)))
      | none => false)
    | t => decide (some x = t.nm) && (glB sc x && L.bn.contains x))
  | _ => false
def chkTys (L : LI) (sc : Scope) : List Ty → List Expr → Bool
  | [], [] => true
  | t :: ts, x :: xs => chkTy L sc t x && chkTys L sc ts xs
  | _, _ => false
def lamPB (sc scope : Scope) (wn x : Str) : Bool :=
  (match scope.kind with
    | .function => true
    | _ => false) && (!scope.isCoroutine && (!scope.isGenerator && ((scope.names.all fun y => !decide (y.2 = .cell) && (!decide (y.2 = .free) || decide (y.1 = wn))) && (decide (scope.names.lookup x = some .local) && (decide (scope.names.lookup wn = some .free) && decide (sc.names.lookup wn = some .cell))))))
/-- def f is a method (0), a property (1), __mul__ (2), __invert__ (3) of class c -/
def meB (L : LI) (kd c f n k : Nat) (m : Str) : Bool := match L.me f with
  | some (kd0, c0, m0, ar) => decide (kd0 = kd) && (decide (c0 = c) && (decide (m0 = m) && (decide (ar = n) && decide (kd = k))))
  | none => false
theorem meB_ok {L : LI} {kd c f n k : Nat} {m : Str} (h : meB L kd c f n k m = true) : kd = k ∧ L.me f = some (k, c, m, n) := by
  unfold meB at h
  split at h
  · rename_i q
    simp only [Bool.and_eq_true, decide_eq_true_eq] at h
    obtain ⟨rfl, rfl, rfl, rfl, rfl⟩ := h
    exact ⟨rfl, q⟩
  · cases h
mutual
def chkE (L : LI) (N : List Str) (sc : Scope) : E → Expr → Bool
  | .var i, x => (match x with
    | .Name y _ => nmB N sc i y
    | _ => false)
  | .con c, x => (match x with
    | .Constant k _ _ => chkK c k
    | _ => false)
  | .bin o _ a b, x => (match x with
    | .BinOp l op r _ => decide (op = o.op) && (chkE L N sc a l && chkE L N sc b r)
    | _ => false)
  | .neg a, x => (match x with
    | .UnaryOp .USub y _ => chkE L N sc a y
    | _ => false)
  | .not a, x => (match x with
    | .UnaryOp .Not y _ => chkE L N sc a y
    | _ => false)
  | .bo1 o a, x => (match x with
    | .BoolOp op [y] _ => decide (op = if o then .And else .Or) && chkE L N sc a y
    | _ => false)
  | .bo o a b, x => (match x with
    | .BoolOp op (y :: z :: r) p => decide (op = if o then .And else .Or) && (chkE L N sc a y && chkE L N sc b (.BoolOp op (z :: r) p))
    | _ => false)
  | .cmp o a b, x => (match x with
    | .Compare l [op] [r] _ => decide (op = o.op) && (chkE L N sc a l && (chkE L N sc b r && !isSet r))
    | _ => false)
  | .ife t a b, x => (match x with
    | .IfExp c y z _ => chkE L N sc t c && (chkE L N sc a y && chkE L N sc b z)
    | _ => false)
  | .tup es, x => (match x with
    | .Tuple xs _ _ => Nat.ble es.len 1000 && chkEs L N sc es xs
    | _ => false)
  | .lst _ es, x => (match x with
    | .List xs _ => Nat.ble es.len 1000 && chkEs L N sc es xs
    | _ => false)
  | .call _ f es, x => (match x with
    | .Call (.Name g _) (y :: ys) [] _ => (match L.fn f with
      | some fi => decide (fi.name = g) && (decide (fi.ar = es.len) && (decide (fi.kw = none) && (glB sc g && (!(g == ("__debug__" : Str)) && chkEs L N sc es (y :: ys)))))
      | none => false)
    | .Call (.Attribute (.Name g _) m ap) (y :: ys) [] cp => (match L.st f with
      | some (g0, m0, ar) => decide (g0 = g) && (decide (m0 = m) && (decide (ar = es.len) && (glB sc g && (!(g == ("__debug__" : Str)) && ((ap.endLine == cp.line) && (decide (ys.length ≤ 1) && chkEs L N sc es (y :: ys)))))))
      | none => false)
    | _ => false)
  | .callD _ f es c, x => (match x with
    | .Call (.Name g _) (y :: ys) [] _ => (match L.fn f with
      | some fi => decide (fi.name = g) && (decide (fi.ar = es.len + 1) && ((match fi.kw with
        | some (_, d) => decide (d = c)
        | none => false) && (glB sc g && (!(g == ("__debug__" : Str)) && chkEs L N sc es (y :: ys)))))
      | none => false)
    | _ => false)
  | .callK _ f es e, x => (match x with
    | .Call (.Name g _) (y :: ys) [⟨some k, z, _⟩] _ => (match L.fn f with
      | some fi => decide (fi.name = g) && (decide (fi.ar = es.len + 1) && ((match fi.kw with
        | some (j, _) => decide (k = j)
        | none => false) && (glB sc g && (!(g == ("__debug__" : Str)) && (chkEs L N sc es (y :: ys) && chkE L N sc e z)))))
      | none => false)
    | _ => false)
  | .bi f _ es, x => (match x with
    | .Call (.Name g _) (y :: ys) [] _ => decide (g = f.name) && (decide (es.len = f.ar) && (glB sc g && (L.bn.contains g && chkEs L N sc es (y :: ys))))
    | _ => false)
  | .isi a tp ts, x => (match x with
    | .Call (.Name g _) [y, c] [] _ => decide (g = ("isinstance" : Str)) && (glB sc g && (L.bn.contains g && (chkE L N sc a y && (match tp, c with
      | false, c => (match ts with
        | [t] => chkTy L sc t c
        | _ => false)
      | true, .Tuple cs _ _ => chkTys L sc ts cs && (decide (ts.length ≤ 8) && !ts.isEmpty)
      | true, _ => false))))
    | _ => false)
  | .mth o f es, x => (match x with
    | .Call (.Attribute y m ap) ys [] cp => decide (m = f.name) && (chkE L N sc o y && (chkEs L N sc es ys && (decide (ys.length ≤ 2) && ((ap.endLine == cp.line) && match y with
      | .Call .. => false
      | _ => true))))
    | _ => false)
  | .ix a i, x => (match x with
    | .Subscript y (.Slice ..) _ => false
    | .Subscript y z _ => chkE L N sc a y && chkE L N sc i z
    | _ => false)
  | .slc _ a lo hi, x => (match x with
    | .Subscript y (.Slice l u none _) _ => chkE L N sc a y && (chkO L N sc lo l && chkO L N sc hi u)
    | _ => false)
  | .rev _ a, x => (match x with
    | .Subscript y (.Slice none none (some (.UnaryOp .USub (.Constant (.int 1) _ _) _)) _) _ => chkE L N sc a y
    | _ => false)
  | .comp _ own tg it c e, x => (match x with
    | .ListComp elt [⟨t, i, fs, 0⟩] scope _ => blkC N sc scope own && (chkIt L N sc it i && (chkTg N (relS scope sc) (fun y => scope.names.lookup y == some .cell) tg t && (chkC L N (relS scope sc) c fs && (chkE L N (relS scope sc) e elt && (ownB tg own && (isPair it tg && !isSet i))))))
    | _ => false)
  | .dix a i, x => (match x with
    | .Subscript y (.Slice ..) _ => false
    | .Subscript y z _ => chkE L N sc a y && chkE L N sc i z
    | _ => false)
  | .din neg a b, x => (match x with
    | .Compare l [op] [r] _ => decide (op = if neg then .NotIn else .In) && (chkE L N sc a l && (chkE L N sc b r && !isSet r))
    | _ => false)
  | .srt _ l v, x => (match x with
    | .Call (.Name g _) [y] [⟨some kn, .Lambda ⟨[], [⟨z, none, _⟩], none, [], [], none, []⟩ (.Tuple [.UnaryOp .USub (.Subscript (.Name wn _) (.Name z1 _) _) _, .Name z2 _] _ _) scope _, _⟩] _ =>
      L.lm && (decide (g = ("sorted" : Str)) && (glB sc g && (L.bn.contains g && (decide (kn = ("key" : Str)) && (decide (z = ("number" : Str)) && (decide (z1 = z) && (decide (z2 = z) && (lamPB sc scope wn z && (decide (N[v]? = some wn) && (!(wn == ("__debug__" : Str)) && (!(wn == ("__classdict__" : Str)) && chkE L N sc l y)))))))))))
    | _ => false)
  | .lset a, x => (match x with
    | .Call (.Name g _) [.Call (.Name g2 _) [y] [] _] [] _ => decide (g = ("len" : Str)) && (decide (g2 = ("set" : Str)) && (glB sc g && (L.bn.contains g && (glB sc g2 && (L.bn.contains g2 && chkE L N sc a y)))))
    | _ => false)
  | .dcN own j it, x => (match x with
    | .DictComp (.Name ky _) (.Constant .none _ _) [⟨.Name t _, i, [], 0⟩] scope _ => blkC N sc scope own && (chkE L N sc it i && (stB N (relS scope sc) (fun y => scope.names.lookup y == some .cell) j t && (nmB N (relS scope sc) j ky && (decide (j ∈ own.map (·.2)) && !isSet i))))
    | _ => false)
  | .fld a c i, x => (match x with
    | .Attribute y f _ => !isCall y && (decide ((L.fd c)[i]? = some f) && chkE L N sc a y)
    | _ => false)
  | .fz a, x => isCall x && chkE L N sc a x
  | .mk c0 f es, x => (match x with
    | .Call (.Name g _) (y :: ys) [] _ => (match L.mkr c0 with
      | some (nm, f0, ar) => decide (nm = g) && (decide (f0 = f) && (decide (ar = es.len) && (glB sc g && (!(g == ("__debug__" : Str)) && chkEs L N sc es (y :: ys)))))
      | none => false)
    | _ => false)
  | .meth kd c md f o es, x => (match x with
    | .Call (.Attribute y m ap) ys [] cp => meB L kd c f (es.len + 1) 0 m && (chkE L N sc o y && (chkEs L N sc es ys && (decide (ys.length ≤ 4) && ((ap.endLine == cp.line) && !isCall y))))
    | .Attribute y m _ => meB L kd c f (es.len + 1) 1 m && (chkE L N sc o y && (!isCall y && chkEs L N sc es []))
    | .UnaryOp .Invert l _ => meB L kd c f (es.len + 1) 3 "__invert__" && (chkE L N sc o l && chkEs L N sc es [])
    | _ => false)
  | .opm c md f a b, x => (match x with
    | .BinOp l .Mult r _ => meB L 2 c f 2 2 "__mul__" && (chkE L N sc a l && chkE L N sc b r)
    | _ => false)
  | .ccal c md f es, x => (match x with
    | .Call (.Attribute (.Name g _) m ap) (y :: ys) [] cp => (match L.cm f with
      | some (c0, g0, m0, ar) => decide (c0 = c) && (decide (g0 = g) && (decide (m0 = m) && (decide (ar = es.len + 1) && (glB sc g && (!(g == ("__debug__" : Str)) && ((ap.endLine == cp.line) && (decide (ys.length ≤ 3) && chkEs L N sc es (y :: ys))))))))
      | none => false)
    | _ => false)
  | .mkc i c0 f es, x => (match x with
    | .Call (.Name g _) (y :: ys) [] _ => (match L.mkr c0 with
      | some (nm, f0, ar) => nmB N sc i g && (decide (f0 = f) && (decide (ar = es.len) && chkEs L N sc es (y :: ys)))
      | none => false)
    | _ => false)
def chkEs (L : LI) (N : List Str) (sc : Scope) : Es → List Expr → Bool
  | .nil, xs => xs.isEmpty
  | .cons e es, xs => (match xs with
    | x :: xs => chkE L N sc e x && chkEs L N sc es xs
    | [] => false)
def chkO (L : LI) (N : List Str) (sc : Scope) : Oe → Option Expr → Bool
  | .none, x => x.isNone
  | .some e, x => (match x with
    | some y => chkE L N sc e y
    | none => false)
def chkC (L : LI) (N : List Str) (sc : Scope) : Oe → List Expr → Bool
  | .none, x => x.isEmpty
  | .some e, x => (match x with
    | [y] => chkE L N sc e y
    | _ => false)
def chkIt (L : LI) (N : List Str) (sc : Scope) : It → Expr → Bool
  | .e a, x => chkE L N sc a x
  | .f fn es, x => (match x with
    | .Call (.Name g _) (y :: ys) [] _ => decide (g = fn.name) && (glB sc g && (L.bn.contains g && chkEs L N sc es (y :: ys)))
    | _ => false)
  | .own a c j, x => decide (L.it c = some j) && chkE L N sc a x
/-- the comprehension's own names are those of its target -/
def ownB : Tg → List (Str × Nat) → Bool
  | .nm i, own => decide (i ∈ own.map (·.2))
  | .tp is, own => is.all fun i => decide (i ∈ own.map (·.2))
/-- enumerate and zip want a written pair -/
def isPair : It → Tg → Bool
  | .f .enum _, .tp _ => true
  | .f .enum _, _ => false
  | .f .zip _, .tp _ => true
  | .f .zip _, _ => false
  | _, _ => true
end
/-- no star -/
theorem chkE_star {L : LI} {N : List Str} {sc : Scope} {e : E} {x : Expr} (h : chkE L N sc e x = true) : ∀ (xs : List Expr) (env : PySem.Env), starEach (x :: xs) env = (false, eval x env) :: starEach xs env := by
  intro xs env
  cases x with
  | Starred v p =>
    exfalso
    cases e <;> simp [chkE, isCall] at h
  | _ => rfl
end Z

end
section
/-! the model does what the small language says: expressions -/
namespace Z
open PySem PySem.Spec L2

/-- H is what a state of the machine shows -/
def Rl (X : Cx) (H : Hp) : Prop := ∃ pins σ s, Inv X pins σ H s
section
variable {X : Cx} {CL : CLs} {Φ : FS}
/-- what the machine makes of an expression, whatever it is -/
def tE (X : Cx) (x : Expr) : TE := fun σ H Q => ∀ pins s, Inv X pins σ H s → wpAny (model X.prog X.w) X.A (eval x X.env) (EP X pins σ Q) X.xe s
theorem tE_pe (X : Cx) (x : Expr) : PE X x (tE X x) := ⟨fun pins s σ H Q I h => h pins s I⟩
def tA (X : Cx) (xs : List Expr) : TA := fun σ H Q => ∀ pos pins s, Inv X pins σ H s → wpAny (model X.prog X.w) X.A (spliced (backTo pos (starEach xs X.env))) (AP X pins σ Q) X.xe s
theorem tA_pa (X : Cx) (xs : List Expr) : PA X xs (tA X xs) := ⟨fun pos pins s σ H Q I h => h pos pins s I⟩
def tT (X : Cx) (x : Expr) : TT := fun σ H Q => ∀ pins s, Inv X pins σ H s → wpAny (model X.prog X.w) X.A (isTrue x X.env (eval x X.env)) (TP X pins σ Q) X.xe s
theorem tT_pt (X : Cx) (x : Expr) : PT X x (tT X x) := ⟨fun pins s σ H Q I h => h pins s I⟩
def tW (X : Cx) (x : Expr) : TT := fun σ H Q => ∀ wh pins s, Inv X pins σ H s → wpAny (model X.prog X.w) X.A (isTrue x X.env wh) (TP X pins σ Q) X.xe s
theorem tW_pw (X : Cx) (x : Expr) : PW X x (tW X x) := ⟨fun wh pins s σ H Q I h => h wh pins s I⟩
theorem rl_of {pins : List (Addr × Obj)} {σ : List (Option V)} {H : Hp} {s : Shared} (I : Inv X pins σ H s) : Rl X H := ⟨pins, σ, s, I⟩
theorem PE.go {x : Expr} {t : TE} (p : PE X x t) {σ : List (Option V)} {H : Hp} {Q : VK} (h : Rl X H → t σ H fun v H' => Rl X H' → Q v H') : tE X x σ H Q := fun pins s I =>
  thn (p.run pins s σ H _ I (h (rl_of I))) fun u s' ⟨v, H', I', r, q⟩ => ⟨v, H', I', r, q (rl_of I')⟩
theorem PA.go {x : List Expr} {t : TA} (p : PA X x t) {σ : List (Option V)} {H : Hp} {Q : List V → Hp → Prop} (h : Rl X H → t σ H fun v H' => Rl X H' → Q v H') : tA X x σ H Q := fun pos pins s I =>
  thn (p.run pos pins s σ H _ I (h (rl_of I))) fun u s' ⟨v, H', I', r, q⟩ => ⟨v, H', I', r, q (rl_of I')⟩
theorem PT.go {x : Expr} {t : TT} (p : PT X x t) {σ : List (Option V)} {H : Hp} {Q : Bool → Hp → Prop} (h : Rl X H → t σ H fun v H' => Rl X H' → Q v H') : tT X x σ H Q := fun pins s I =>
  thn (p.run pins s σ H _ I (h (rl_of I))) fun u s' ⟨H', I', q⟩ => ⟨H', I', q (rl_of I')⟩
theorem PW.go {x : Expr} {t : TT} (p : PW X x t) {σ : List (Option V)} {H : Hp} {Q : Bool → Hp → Prop} (h : Rl X H → t σ H fun v H' => Rl X H' → Q v H') : tW X x σ H Q := fun wh pins s I =>
  thn (p.run wh pins s σ H _ I (h (rl_of I))) fun u s' ⟨H', I', q⟩ => ⟨H', I', q (rl_of I')⟩

/-- behind an evaluation -/
def Pst (X : Cx) (CL : CLs) (G : Gh) (h : CH) (H : Hp) (d : D) (h' : CH) (Q : VK) : Prop :=
  ∀ G' H' v, EvR G h H G' h' H' → SR X.K CL G' h' H' → RV X.K CL h'.length G' H' d v → Rl X H' → Q v H'
def Psts (X : Cx) (CL : CLs) (G : Gh) (h : CH) (H : Hp) (ds : List D) (h' : CH) (Q : List V → Hp → Prop) : Prop :=
  ∀ G' H' vs, EvR G h H G' h' H' → SR X.K CL G' h' H' → RVs X.K CL h'.length G' H' ds vs → Rl X H' → Q vs H'
def Pstb (X : Cx) (CL : CLs) (G : Gh) (h : CH) (H : Hp) (b : Bool) (h' : CH) (Q : Bool → Hp → Prop) : Prop :=
  ∀ G' H', EvR G h H G' h' H' → SR X.K CL G' h' H' → Rl X H' → Q b H'
/-- the machine evaluates x as the small language says -/
def SE (X : Cx) (CL : CLs) (Φ : FS) (e : E) (x : Expr) : Prop := ∀ (env : Env) (h h' : CH) (d : D), evE Φ e env h = .ok d h' → ∀ (G : Gh) (H : Hp) (σ : List (Option V)), SR X.K CL G h H → RE X.K CL h.length G H env σ → ∀ Q : VK, Pst X CL G h H d h' Q → tE X x σ H Q
def SEs (X : Cx) (CL : CLs) (Φ : FS) (es : Es) (xs : List Expr) : Prop := ∀ (env : Env) (h h' : CH) (ds : List D), evEs Φ es env h = .ok ds h' → ∀ (G : Gh) (H : Hp) (σ : List (Option V)), SR X.K CL G h H → RE X.K CL h.length G H env σ → ∀ Q : List V → Hp → Prop, Psts X CL G h H ds h' Q → tA X xs σ H Q
def ST (X : Cx) (CL : CLs) (Φ : FS) (e : E) (x : Expr) : Prop := ∀ (env : Env) (h h' : CH) (b : Bool), asBl (evE Φ e env h) = .ok b h' → ∀ (G : Gh) (H : Hp) (σ : List (Option V)), SR X.K CL G h H → RE X.K CL h.length G H env σ → ∀ Q : Bool → Hp → Prop, Pstb X CL G h H b h' Q → tT X x σ H Q
theorem asBl_inv {r : R D} {b : Bool} {h' : CH} (e : asBl r = .ok b h') : r = .ok (.bl b) h' := by
  obtain ⟨d, h1, e1, e2⟩ := R.bnd_inv e
  cases d with
  | bl c => cases e2; exact e1
  | _ => cases e2
theorem Pst.imp {G : Gh} {h h' : CH} {H : Hp} {d : D} {Q Q' : VK} (p : Pst X CL G h H d h' Q) (k : ∀ v H', Q v H' → Q' v H') : Pst X CL G h H d h' Q' := fun G' H' v a b c r => k _ _ (p G' H' v a b c r)
/-- further on from a later state -/
theorem Pst.from {G G1 : Gh} {h h1 h' : CH} {H H1 : Hp} {d : D} {Q : VK} (p : Pst X CL G h H d h' Q) (e : EvR G h H G1 h1 H1) : Pst X CL G1 h1 H1 d h' Q := fun G' H' v a b c r => p G' H' v (e.trans a) b c r
theorem Psts.from {G G1 : Gh} {h h1 h' : CH} {H H1 : Hp} {ds : List D} {Q : List V → Hp → Prop} (p : Psts X CL G h H ds h' Q) (e : EvR G h H G1 h1 H1) : Psts X CL G1 h1 H1 ds h' Q := fun G' H' v a b c r => p G' H' v (e.trans a) b c r
theorem Pstb.from {G G1 : Gh} {h h1 h' : CH} {H H1 : Hp} {d : Bool} {Q : Bool → Hp → Prop} (p : Pstb X CL G h H d h' Q) (e : EvR G h H G1 h1 H1) : Pstb X CL G1 h1 H1 d h' Q := fun G' H' a b r => p G' H' (e.trans a) b r
/-- nothing changes: the value stands -/
theorem Pst.here {G : Gh} {h : CH} {H : Hp} {d : D} {Q : VK} {v : V} (p : Pst X CL G h H d h Q) (s : SR X.K CL G h H) (r : RV X.K CL h.length G H d v) (l : Rl X H) : Q v H := p G H v (EvR.refl _ _ _) s r l

/-! ### values -/
/-- a sequence that is read -/
theorem items_ok {G : Gh} {h : CH} {H : Hp} {d : D} {ds : List D} {v : V} (s : SR X.K CL G h H) (e : items h d = some ds) (r : RV X.K CL h.length G H d v) :
    ∃ a vs, v = .ref a ∧ (SqL X.K H a vs ∨ SqT X.K H a vs) ∧ RVs X.K CL h.length G H ds vs := by
  cases r with
  | non => simp at e
  | bl b => simp at e
  | int i => simp at e
  | str x => simp at e
  | tup a b => simp at e; subst e; exact ⟨_, _, rfl, .inr a, b⟩
  | lst f a b => simp at e; subst e; exact ⟨_, _, rfl, .inl (SqL.of a), b⟩
  | @cell n l =>
    simp only [items] at e
    cases q : h[n]? with
    | none => rw [q] at e; cases e
    | some c =>
      rw [q] at e
      cases c with
      | lst es =>
        cases e
        obtain ⟨_, vs, a, b⟩ := s.cell n _ q
        exact ⟨_, vs, rfl, .inl (SqL.of a), b⟩
      | _ => cases e
  | ins f a b c => simp at e
  | scr a => simp at e; subst e; exact ⟨_, _, rfl, .inl a.sq, RVs.ofInts _⟩
  | typ a => simp at e
/-- a list that may be joined -/
theorem lst_ok {G : Gh} {h : CH} {H : Hp} {d : D} {ds : List D} {v : V} (s : SR X.K CL G h H) (e : lstOf h d = some ds) (r : RV X.K CL h.length G H d v) :
    ∃ a vs, v = .ref a ∧ H a = some (.lst vs) ∧ RVs X.K CL h.length G H ds vs := by
  cases r with
  | lst f a b => simp at e; subst e; exact ⟨_, _, rfl, a, b⟩
  | @cell n l =>
    simp only [lstOf] at e
    cases q : h[n]? with
    | none => rw [q] at e; cases e
    | some c =>
      rw [q] at e
      cases c with
      | lst es =>
        cases e
        obtain ⟨_, vs, a, b⟩ := s.cell n _ q
        exact ⟨_, vs, rfl, a, b⟩
      | _ => cases e
  | _ => simp at e
/-- a new list -/
theorem newL_ok {G : Gh} {h h' : CH} {H : Hp} {m : Bool} {ds : List D} {d : D} {vs : List V} {Q : VK} (s : SR X.K CL G h H) (e : newL m ds h = .ok d h') (r : RVs X.K CL h.length G H ds vs) (p : Pst X CL G h H d h' Q) :
    ∀ a, H a = none → Rl X (upd H a (.lst vs)) → Q (.ref a) (upd H a (.lst vs)) := fun a na rl => by
  cases m with
  | true =>
    simp only [newL, R.ok.injEq] at e
    obtain ⟨rfl, rfl⟩ := e
    obtain ⟨s1, e1⟩ := s.newCell (.lst ds) na (o := .lst vs) trivial fun H' G' _ _ _ _ nf hH k => ⟨nf, vs, hH, k r⟩
    refine p _ _ _ e1 s1 ?_ rl
    have q : RV X.K CL (h ++ [Cell.lst ds]).length (G.cel h.length a) (upd H a (.lst vs)) (.cell h.length) (.ref ((G.cel h.length a).φ h.length)) := .cell (by simp)
    rw [show (G.cel h.length a).φ h.length = a from if_pos rfl] at q
    exact q
  | false =>
    simp only [newL, R.ok.injEq] at e
    obtain ⟨rfl, rfl⟩ := e
    obtain ⟨s1, e1⟩ := s.new (o := .lst vs) True na
    exact p _ _ _ e1 s1 (.lst (.inr ⟨trivial, rfl⟩) upd_same (r.ev s e1)) rl
theorem newT_ok {G : Gh} {h : CH} {H : Hp} {ds : List D} {vs : List V} {Q : VK} (s : SR X.K CL G h H) (r : RVs X.K CL h.length G H ds vs) (p : Pst X CL G h H (.tup ds) h Q) :
    ∀ a, H a = none → Rl X (upd H a (.tup vs)) → Q (.ref a) (upd H a (.tup vs)) := fun a na rl => by
  obtain ⟨s1, e1⟩ := s.new (o := .tup vs) False na
  exact p _ _ _ e1 s1 (.tup (SqT.of upd_same) (r.ev s e1)) rl
theorem SZ_line {n : Nat} (h : n ≤ SZ) : n ≤ sizeLine := by rw [sizeLine_eq]; unfold SZ at h; omega
theorem SZ_lt {n : Nat} (h : n < SZ) : n < sizeLine := by rw [sizeLine_eq]; unfold SZ at h; omega
theorem log_lt {i : Int} {n : Nat} (h : i.natAbs < 2 ^ n) (h0 : 0 < n) : i.natAbs.log2 < n := PySem.Flt.log2_lt_of h0 h
theorem mulOk_ok {i j : Int} (h : mulOk i j = true) : IntMulOk i j := by
  unfold mulOk at h
  simp only [Bool.or_eq_true, decide_eq_true_eq] at h
  rcases h with h | h | ⟨h1, h2⟩
  · exact CMul.ok (.inl h)
  · exact CMul.ok (.inr h)
  · refine CMulW.ok ?_
    have a := log_lt h1 (by decide)
    have b := log_lt h2 (by decide)
    unfold CMulW
    omega
theorem op_mulZ : OpR X (binaryOp .Mult) (rI (fun i j => mulOk i j = true) fun i j => .int (i * j)) := opI fun _ _ _ _ _ _ _ hc q => PyProof.Rows.mul_int q (mulOk_ok hc)
theorem divOk_ok {i j : Int} (h : divOk j = true) : CDivW i j := by
  unfold divOk at h
  simp only [decide_eq_true_eq] at h
  exact ⟨h.1, Nat.lt_of_lt_of_le (log_lt h.2 (by decide)) (by decide)⟩
theorem op_divZ : OpR X (binaryOp .FloorDiv) (rI (fun _ j => divOk j = true) fun i j => .int (i / j)) := fun pins s σ H x y v u Q I rx ry q => by
  obtain ⟨i, j, rfl, rfl, c, q⟩ := q
  exact op_fdivW pins s σ H _ _ v u Q I rx ry ⟨i, j, rfl, rfl, divOk_ok c, q⟩
end
end Z

end
section
/-! sorted of a tuple of ints -/
namespace Z
open PySem PySem.Spec L2 PyProof.Rows
section
variable {P : Program} {w : World} {A : Around} {E : Value → Shared → Prop} {st : Shared}
/-- the heap behind a collecting: a new list holds vs -/
abbrev colH (h : Heap) (vs : List Value) : Heap := Heap.update (Heap.push h (seqObj "list" #[] 0)) h.objs.size (Obj.mapSeq fun zs => zs ++ vs.toArray)
theorem collect_tup {p : Addr} {vs : List Value} {o : Obj} {n : Nat} {Q : List Value → Shared → Prop} (h0 : st.heap.get? p = some o) (h1 : o.cls = .type "tuple") (h2 : o.data = .seq vs.toArray n) (z : vs.length ≤ sizeLine)
    (q : Q vs { st with heap := colH st.heap vs }) : wpAny (model P w) A (collect (.ref p)) Q E st := by
  have g0 := Heap.get?_push_of_some (seqObj "list" #[] 0) h0
  have g1 : (Heap.push st.heap (seqObj "list" #[] 0)).get? st.heap.objs.size = some (seqObj "list" #[] 0) := Heap.get?_push_size _ rfl
  unfold collect
  apply wpAny_bind
  apply wpAny_runValue
  apply codeAny_builtin entry_proto_collect'
  apply wpAny_bind
  refine wpAny_newList ?_ (Nat.zero_le _)
  · apply wpAny_pure
    refine ⟨Code.quiet_builtin _ (by decide +kernel), ?_⟩
    apply codeAny_builtin entry_list_iadd'
    show wpAny _ _ (Builtin.List.listExtendWith (.ref st.heap.objs.size) (.ref p) (.ref st.heap.objs.size)) _ _ { st with heap := Heap.push st.heap (seqObj "list" #[] 0) }
    unfold Builtin.List.listExtendWith
    apply wpAny_bind
    refine wpAny_typeOf (v := .ref p) (T := "tuple") ⟨o, g0, h1⟩ ?_
    have t0 : (Value.type "tuple" == Value.type "tuple") = true := by rfl
    rw [if_pos (by rw [t0, Bool.or_true])]
    apply wpAny_bind
    apply listItems_at g0 h2
    apply wpAny_bind
    apply listItems_at (n := 0) (xs := #[]) g1 rfl
    rw [if_neg (by simp)]
    apply wpAny_bind
    apply listUpdate_at (xs := #[]) (n := 0) g1 rfl
    · apply wpAny_pure
      refine wpAny_bind (m := load st.heap.objs.size) (wpAny_load (get?_update_seq g1 _) ?_)
      have e : ((#[] : Array Value) ++ vs.toArray).toList = vs := by simp
      show wpAny _ _ (pure ((#[] : Array Value) ++ vs.toArray).toList) Q E _
      rw [e]
      exact wpAny_pure q
theorem sorted_tup {p : Addr} {vs : List Value} {o : Obj} {n : Nat} {lt : Value → Value → Bool} {Q : Value → Shared → Prop} (O : SrtO.Swo lt) (h0 : st.heap.get? p = some o) (h1 : o.cls = .type "tuple") (h2 : o.data = .seq vs.toArray n) (z : vs.length ≤ sizeLine)
    (S : 2 ≤ vs.length → ∀ (g : Heap) (a : Addr), SrtO.SortableO P w A.in1.in1 { st with heap := g } a vs lt)
    (q : ∀ out : List Value, SrtO.Srtd lt out → SrtO.Stb lt out vs → Q (.ref (st.heap.objs.size + 1)) { st with heap := sortedAll st.heap vs out.toArray }) :
    wpAny (model P w) A (call (.builtin "sorted") [.ref p]) Q E st := by
  apply Calls.call_function_entry kind_sorted plain_sorted entry_sorted (args_sorted1 _)
  unfold Builtin.«sorted»
  refine wpAny_bind (m := checkCount "sorted" 1 1 _) (wpAny_pure ?_)
  refine wpAny_bind (collect_tup h0 h1 h2 z ?_)
  refine wpAny_bind (wpAny_newList ?_ z)
  have sz : (colH st.heap vs).objs.size = st.heap.objs.size + 1 := by rw [Heap.size_update, size_push']
  have at1 : ((colH st.heap vs).push (seqObj "list" vs.toArray 0)).get? (st.heap.objs.size + 1) = some (seqObj "list" vs.toArray 0) := sz ▸ Heap.get?_push_size _ rfl
  show wpAny _ _ _ _ _ { st with heap := (colH st.heap vs).push (seqObj "list" vs.toArray 0) }
  rw [sz]
  apply wpAny_bind
  apply wpAny_holding
  refine wpAny_call_entry slot_list_sort ⟨_, at1, rfl⟩ entry_list_sort ?_ (args_list_sort _)
  refine SrtO.list_sort_ord O at1 z (fun n2 => S n2 _ _) fun out a b => ⟨_, rfl, ?_⟩
  exact wpAny_pure ⟨_, rfl, q out a b⟩
end
section
variable {X : Cx}
/-- sorted(xs), ints in a list or in a tuple -/
theorem cr_sortedLT : CallR X (.builtin "sorted") (fun vs H Q => ∃ (a : Addr) (ns : List Int), vs = [V.ref a] ∧ (SqL X.K H a (ns.map V.int) ∨ SqT X.K H a (ns.map V.int)) ∧
    ∀ (us : List Int) (p : Addr), us.Perm ns → us.Pairwise (· ≤ ·) → H p = none → Q (.ref p) (upd H p (.lst (us.map V.int)))) := by
  intro pins s σ H vs us Q I r h
  obtain ⟨a, ns, e, hq, q⟩ := h
  rcases hq with hq | hq
  · exact cr_sortedI pins s σ H vs us Q I r ⟨a, ns, e, hq, q⟩
  · subst e
    obtain ⟨its, rv, ⟨o, ho, hc, n, hd⟩, hz⟩ := I.tuple hq
    rw [Vals.ref1 r]
    have ii := rv.ints
    have zl : its.length ≤ sizeLine := by rw [← rv.length]; exact hz
    refine sorted_tup SrtO.swo_int ho hc hd zl (fun n2 g b => SrtO.ints_sortable ii n2) fun out a1 a2 => ?_
    obtain ⟨k1, k2, k3⟩ := SrtO.ints_out ii a1 a2
    obtain ⟨ep, at2⟩ := sortedAll_at s.heap its out.toArray
    have lz : ((out.map SrtO.iv).map V.int).length ≤ sizeLine := by
      rw [List.length_map, k2.length_eq]
      rwa [List.length_map] at hz
    refine ⟨V.ref (s.heap.objs.size + 1), upd H (s.heap.objs.size + 1) (.lst ((out.map SrtO.iv).map V.int)), ?_, rfl, q _ _ k2 k3 (I.hok.fresh (Nat.le_succ _))⟩
    exact I.laid (t' := s.toks) (fun _ _ => sortedAll_old) (Nat.le_succ _) ⟨lz, out, ep, vals_of_ints k1, at2⟩
end
end Z

end
section
/-! one bool less another; a tuple, once -/
namespace Z
open PySem PySem.Spec L2 PyProof.Rows
theorem sub_bb (a b : Bool) :
    Gives (Builtin.«int.__sub__» ⟨[Value.bool a, Value.bool b], []⟩) (Made.int ((if a = true then (1 : Int) else 0) - (if b = true then (1 : Int) else 0))) := by
  apply Gives.of_wp
  intro M A E s Q q
  obtain ⟨h1, h2, h3, h4, h5⟩ := s
  wp_walk
  exact ⟨_, rfl, q⟩
theorem mul_one (l : Addr) (its : Array Value) (n : Nat) (dd : Option Addr) (sl : Array (Option Value)) (u : Tok) :
    Meets (Builtin.«tuple.__mul__» ⟨[Value.ref l, Value.int 1 u], []⟩) (fun _ R s => s.heap.get? l = some { cls := .type "tuple", dict := dd, data := .seq its n, slots := sl } ∧ R (.ok (.ret (Value.ref l))) s) := by
  apply Meets.of_wp
  intro prog w A R s q
  obtain ⟨h1, h2, h3, h4, h5⟩ := s
  obtain ⟨hl, q⟩ := q
  have ix := AutoSeq1.idx_int
  wp_walk using wpAny_loadPart' hl
  exact ⟨_, rfl, q⟩
variable {X : Cx}
theorem op_sub_bb : OpR X (binaryOp .Sub) (fun x y H Q => ∃ a b, x = .bl a ∧ y = .bl b ∧ Q (.int ((if a = true then (1 : Int) else 0) - (if b = true then (1 : Int) else 0))) H) := by
  intro pins s σ H x y v u Q I rx ry h
  obtain ⟨a, b, rfl, rfl, q⟩ := h
  cases rx
  cases ry
  exact binaryOp_gives (T := "bool") (op := .Sub) rfl rfl F.fills_bool_sub F.slot_bool_sub F.entry_int_sub (F.args_int_sub_2 _ _) (sub_bb a b) trivial ⟨.int _, H, I.tok _, ⟨_, rfl⟩, q⟩
theorem op_rep1 : OpR X (binaryOp .Mult) (fun x y H Q => ∃ l xs, x = .ref l ∧ y = .int 1 ∧ SqT X.K H l xs ∧ Q (.ref l) H) := by
  intro pins s σ H x y v u Q I rx ry h
  obtain ⟨l, xs, rfl, rfl, ht, q⟩ := h
  cases rx
  obtain ⟨t, rfl⟩ := ry
  obtain ⟨its, r, ⟨⟨cls, dd, data, sl⟩, ho, hc, n, hd⟩, hs⟩ := I.tuple ht
  dsimp only at hc hd
  subst hc hd
  exact wpAny_binaryOp_repeat_ref (U := "int") (T := "tuple") (by decide) ⟨_, ho, rfl⟩ (fun z => typeIs_int z 1 t) noFill_tuple_mul F.fills_int_mul F.slot_int_rmul repeat_tuple F.slot_int_index.lookup
    (call_meets F.slot_int_rmul (typeIs_int s 1 t) F.entry_int_rmul (F.args_int_rmul_2 _ _) (int_rmul_tuple 1 t l its.toArray n dd sl) ⟨ho, rfl, ⟨_, ho, rfl⟩, call_meets F.slot_tuple_mul ⟨_, ho, rfl⟩ F.entry_tuple_mul (F.args_tuple_mul_2 _ _) (mul_one l its.toArray n dd sl t) ⟨ho, V.ref l, H, I, rfl, q⟩⟩)
end Z

end
section
/-! operators -/
namespace Z
open PySem PySem.Spec L2
section
variable {X : Cx} {CL : CLs} {Φ : FS}
/-- an operator by its rule, on these data -/
def OkOp (X : Cx) (CL : CLs) (f : Value → Value → Sem Value) (dx dy : D) (h : CH) (d : D) (h' : CH) : Prop :=
  ∃ r : R2, OpR X f r ∧ ∀ (G : Gh) (H : Hp) (x y : V), SR X.K CL G h H → RV X.K CL h.length G H dx x → RV X.K CL h.length G H dy y → Rl X H → ∀ Q : VK, Pst X CL G h H d h' Q → r x y H fun v H' => Rl X H' → Q v H'
theorem OkOp.ints {f : Value → Value → Sem Value} {i j : Int} {C : Int → Int → Prop} {g : Int → Int → V} {h : CH} {d : D} (o : OpR X f (rI C g)) (c : C i j) (hd : ∀ {N : Nat} {G : Gh} {H : Hp}, RV X.K CL N G H d (g i j)) : OkOp X CL f (.int i) (.int j) h d h := by
  refine ⟨_, o, fun G H x y s rx ry rl Q p => ?_⟩
  cases rx
  cases ry
  exact ⟨i, j, rfl, rfl, c, fun _ => p.here s hd rl⟩
theorem OkOp.ints0 {f : Value → Value → Sem Value} {i j : Int} {g : Int → Int → V} {h : CH} {d : D} (o : OpR X f (rI0 g)) (hd : ∀ {N : Nat} {G : Gh} {H : Hp}, RV X.K CL N G H d (g i j)) : OkOp X CL f (.int i) (.int j) h d h := by
  refine ⟨_, o, fun G H x y s rx ry rl Q p => ?_⟩
  cases rx
  cases ry
  exact ⟨i, j, rfl, rfl, fun _ => p.here s hd rl⟩
theorem bin_add {m : Bool} {dx dy d : D} {h h' : CH} (e : binD .add m dx dy h = .ok d h') : OkOp X CL (binaryOp .Add) dx dy h d h' := by
  unfold binD at e
  simp only at e
  split at e
  · cases e
    exact .ints0 op_add (.int _)
  · rename_i xs ys
    split at e
    · rename_i hz
      cases e
      refine ⟨_, op_catA, fun G H x y s rx ry rl Q p => ?_⟩
      cases rx with
      | tup a1 b1 =>
        cases ry with
        | tup a2 b2 =>
          refine ⟨_, _, _, _, rfl, rfl, a1, a2, ?_, fun e1 _ => ?_, fun n1 e2 _ => ?_, fun n1 n2 q nq rl' => newT_ok s (b1.append b2) p q nq rl'⟩
          · rw [← b1.length, ← b2.length]; exact SZ_line hz
          · subst e1
            cases b1
            exact p.here s (.tup a2 b2) rl
          · subst e2
            cases b2
            rw [List.append_nil] at p
            exact p.here s (.tup a1 b1) rl
    · cases e
  · split at e
    · rename_i xs ys e1 e2
      split at e
      · rename_i hz
        refine ⟨rCat, op_cat, fun G H x y s rx ry rl Q p => ?_⟩
        obtain ⟨a, vs, rfl, ha, ra⟩ := lst_ok s e1 rx
        obtain ⟨b, ws, rfl, hb, rb⟩ := lst_ok s e2 ry
        refine ⟨a, b, vs, ws, rfl, rfl, ha, hb, ?_, fun q nq rl' => newL_ok s e (ra.append rb) p q nq rl'⟩
        rw [← ra.length, ← rb.length]
        exact SZ_line hz
      · cases e
    · cases e
theorem bin_sub {m : Bool} {dx dy d : D} {h h' : CH} (e : binD .sub m dx dy h = .ok d h') : OkOp X CL (binaryOp .Sub) dx dy h d h' := by
  unfold binD at e
  simp only at e
  split at e
  · cases e
    exact .ints0 op_sub (.int _)
  · rename_i a b
    cases e
    refine ⟨_, op_sub_bb, fun G H x y s rx ry rl Q p => ?_⟩
    cases rx
    cases ry
    exact ⟨a, b, rfl, rfl, fun rl' => p.here s (.int _) rl'⟩
  · cases e
theorem bin_rep {m : Bool} {dx d : D} {xs : List D} {k : Int} {h h' : CH} (e1 : lstOf h dx = some xs) (e : (if xs.length * k.toNat ≤ SZ ∧ k ≤ SZ ∧ 0 ≤ k then newL m (List.replicate k.toNat xs).flatten h else R.no) = .ok d h') : OkOp X CL (binaryOp .Mult) dx (.int k) h d h' := by
  split at e
  · rename_i hz
    refine ⟨_, op_rep, fun G H x y s rx ry rl Q p => ?_⟩
    obtain ⟨a, vs, rfl, ha, ra⟩ := lst_ok s e1 rx
    cases ry
    have hk : k ≤ 1000000 := hz.2.1
    refine ⟨a, k, vs, rfl, rfl, ha, by omega, by omega, ?_, fun q nq rl' => newL_ok s e (ra.rep _) p q nq rl'⟩
    rw [← ra.length]
    exact SZ_line hz.1
  · cases e
theorem bin_mul {m : Bool} {dx dy d : D} {h h' : CH} (e : binD .mul m dx dy h = .ok d h') : OkOp X CL (binaryOp .Mult) dx dy h d h' := by
  unfold binD at e
  simp only at e
  split at e
  · split at e
    · rename_i hc
      cases e
      exact .ints op_mulZ hc (.int _)
    · cases e
  · rename_i xs k
    split at e
    · rename_i k1
      subst k1
      cases e
      refine ⟨_, op_rep1, fun G H x y s rx ry rl Q p => ?_⟩
      cases ry
      cases rx with
      | tup a1 b1 => exact ⟨_, _, rfl, rfl, a1, fun rl' => p.here s (.tup a1 b1) rl'⟩
    split at e
    · rename_i hz
      cases e
      refine ⟨_, op_repT, fun G H x y s rx ry rl Q p => ?_⟩
      cases ry
      cases rx with
      | tup a1 b1 =>
        refine ⟨_, k, _, rfl, rfl, a1, ?_, hz.2.2.1, hz.2.2.2, by rw [← b1.length]; exact hz.1, fun q nq rl' => newT_ok s (b1.rep _) p q nq rl'⟩
        intro z
        subst z
        cases b1
        exact hz.2.1 rfl
    · cases e
  · rename_i xs k
    exact bin_rep (xs := xs) rfl e
  · rename_i n k
    split at e
    · rename_i xs e1
      exact bin_rep e1 e
    · cases e
  · cases e
theorem bin_fdiv {m : Bool} {dx dy d : D} {h h' : CH} (e : binD .fdiv m dx dy h = .ok d h') : OkOp X CL (binaryOp .FloorDiv) dx dy h d h' := by
  unfold binD at e
  simp only at e
  split at e
  · split at e
    · rename_i hc
      cases e
      exact .ints op_divZ hc (.int _)
    · cases e
  · cases e
theorem bin_mod {m : Bool} {dx dy d : D} {h h' : CH} (e : binD .mod m dx dy h = .ok d h') : OkOp X CL (binaryOp .Mod) dx dy h d h' := by
  unfold binD at e
  simp only at e
  split at e
  · split at e
    · rename_i hc
      cases e
      exact .ints op_mod hc (.int _)
    · cases e
  · cases e
theorem bin_pow {m : Bool} {dx dy d : D} {h h' : CH} (e : binD .pow m dx dy h = .ok d h') : OkOp X CL (binaryOp .Pow) dx dy h d h' := by
  unfold binD at e
  simp only at e
  split at e
  · split at e
    · rename_i hc
      cases e
      exact .ints op_pow hc (.int _)
    · cases e
  · cases e
theorem bin_ok {o : Bop} {m : Bool} {dx dy d : D} {h h' : CH} (e : binD o m dx dy h = .ok d h') : OkOp X CL (binaryOp o.op) dx dy h d h' := by
  cases o with
  | add => exact bin_add e
  | sub => exact bin_sub e
  | mul => exact bin_mul e
  | fdiv => exact bin_fdiv e
  | mod => exact bin_mod e
  | pow => exact bin_pow e

/-! ### comparisons -/
mutual
theorem toP_ok {N : Nat} {G : Gh} {H : Hp} : ∀ {d : D} {v : V} {p : PyData}, toP d = some p → RV X.K CL N G H d v → Dp X.K H v p ∧ p.canLay0 = true
  | .non, _, p, e, .non => by simp [toP] at e; subst e; exact ⟨.non, by simp [PyData.canLay0]⟩
  | .bl b, _, p, e, .bl _ => by simp [toP] at e; subst e; exact ⟨Dp.bl b, by simp [PyData.canLay0]⟩
  | .int i, _, p, e, .int _ => by simp [toP] at e; subst e; exact ⟨.int i, by simp [PyData.canLay0]⟩
  | .str s, _, p, e, .str _ => by
    simp only [toP] at e
    split at e
    · rename_i hc; cases e; exact ⟨.str s, hc⟩
    · cases e
  | .tup ds, _, p, e, .tup a b => by
    simp only [toP, Option.map_eq_some_iff] at e
    obtain ⟨ps, e1, rfl⟩ := e
    obtain ⟨q1, q2⟩ := toPs_ok e1 b
    exact ⟨.tup a q1, by simpa [PyData.canLay0] using q2⟩
  | .lst ds, _, p, e, .lst f a b => by
    simp only [toP, Option.map_eq_some_iff] at e
    obtain ⟨ps, e1, rfl⟩ := e
    obtain ⟨q1, q2⟩ := toPs_ok e1 b
    exact ⟨.lst (SqL.of a) q1, by simpa [PyData.canLay0] using q2⟩
  | .cell n, _, p, e, .cell l => by simp [toP] at e
  | .ins c ds, _, p, e, .ins f a b nm c' => by simp [toP] at e
  | .scr ns, _, p, e, .scr a => by simp [toP] at e
  | .typ c, _, p, e, .typ a => by simp [toP] at e
theorem toPs_ok {N : Nat} {G : Gh} {H : Hp} : ∀ {ds : List D} {vs : List V} {ps : List PyData}, toPs ds = some ps → RVs X.K CL N G H ds vs → DpAll X.K H vs ps ∧ PyData.canLayAll0 ps = true
  | _, _, ps, e, .nil => by simp [toPs] at e; subst e; exact ⟨.nil, by simp [PyData.canLayAll0]⟩
  | d :: ds, _, ps, e, .cons a b => by
    simp only [toPs] at e
    split at e
    · rename_i p ps' e1 e2
      cases e
      obtain ⟨q1, q2⟩ := toP_ok e1 a
      obtain ⟨q3, q4⟩ := toPs_ok e2 b
      exact ⟨.cons q1 q3, by simp [PyData.canLayAll0, q2, q4]⟩
    · cases e
end
theorem snap_rel {G : Gh} {h : CH} {H : Hp} {d d' : D} {v : V} (s : SR X.K CL G h H) (e : snap h d = some d') (r : RV X.K CL h.length G H d v) : RV X.K CL 0 (G.all h) H d' v := snap_ok s e r
theorem eqP_inv {a b : D} {c : Bool} (e : eqP a b = some c) : ∃ p q, toP a = some p ∧ toP b = some q ∧ p.depth ≤ 64 ∧ q.depth ≤ 64 ∧ c = PyData.eqv p q := by
  unfold eqP at e
  split at e
  · rename_i p q e1 e2
    split at e
    · rename_i hc
      cases e
      exact ⟨p, q, e1, e2, hc.1, hc.2, rfl⟩
    · cases e
  · cases e
theorem shaped_of {p : PyData} (h1 : p.canLay0 = true) (h2 : p.depth ≤ 64) : SeqAt.shaped p = true := by
  unfold SeqAt.shaped
  rw [h1, decide_eq_true h2]; rfl
/-- a comparison by its rule, on these data -/
def OkCmp (X : Cx) (CL : CLs) (f : Value → Value → Sem Value) (dx dy : D) (h : CH) (d : D) (h' : CH) : Prop :=
  ∃ b, d = .bl b ∧ h' = h ∧ ∃ r : R2, OpR X f r ∧ ∀ (G : Gh) (H : Hp) (x y : V), SR X.K CL G h H → RV X.K CL h.length G H dx x → RV X.K CL h.length G H dy y → ∀ Q : VK, Q (.bl b) H → r x y H Q
theorem OkCmp.ints {f : Value → Value → Sem Value} {i j : Int} {b : Bool} {g : Int → Int → V} {h : CH} (o : OpR X f (rI0 g)) (e : g i j = .bl b) : OkCmp X CL f (.int i) (.int j) h (.bl b) h := by
  refine ⟨b, rfl, rfl, _, o, fun G H x y s rx ry Q q => ?_⟩
  cases rx
  cases ry
  exact ⟨i, j, rfl, rfl, by rw [e]; exact q⟩
theorem cmp_eq {k : Nat} (hr : Room k X.A) {dx dy d : D} {h h' : CH} (e : cmpD .eq dx dy h = .ok d h') : OkCmp X CL (compareOp .Eq) dx dy h d h' := by
  unfold cmpD at e
  simp only at e
  split at e
  · rename_i a b e1 e2
    split at e
    · rename_i c e3
      cases e
      refine ⟨_, rfl, rfl, _, op_eqD hr.units, fun G H x y s rx ry Q q => ?_⟩
      obtain ⟨pa, pb, t1, t2, d1, d2, rfl⟩ := eqP_inv e3
      obtain ⟨q1, c1⟩ := toP_ok t1 (snap_ok s e1 rx)
      obtain ⟨q2, c2⟩ := toP_ok t2 (snap_ok s e2 ry)
      exact ⟨pa, pb, q1, q2, shaped_of c1 d1, shaped_of c2 d2, q⟩
    · cases e
  · cases e
theorem cmp_ne {k : Nat} (hr : Room k X.A) {dx dy d : D} {h h' : CH} (e : cmpD .ne dx dy h = .ok d h') : OkCmp X CL (compareOp .NotEq) dx dy h d h' := by
  unfold cmpD at e
  simp only at e
  split at e
  · rename_i a b e1 e2
    split at e
    · rename_i c e3
      cases e
      refine ⟨_, rfl, rfl, _, op_neD hr.units, fun G H x y s rx ry Q q => ?_⟩
      obtain ⟨pa, pb, t1, t2, d1, d2, rfl⟩ := eqP_inv e3
      obtain ⟨q1, c1⟩ := toP_ok t1 (snap_ok s e1 rx)
      obtain ⟨q2, c2⟩ := toP_ok t2 (snap_ok s e2 ry)
      exact ⟨pa, pb, q1, q2, shaped_of c1 d1, shaped_of c2 d2, q⟩
    · cases e
  · cases e
theorem flat_ok {N : Nat} {G : Gh} {H : Hp} {d : D} {v : V} (f : flatD d = true) (r : RV X.K CL N G H d v) : flatV v = true := by
  cases r <;> simp_all [flatD, flatV]
theorem flats_ok {N : Nat} {G : Gh} {H : Hp} : ∀ {ds : List D} {vs : List V}, ds.all flatD = true → RVs X.K CL N G H ds vs → vs.all flatV = true
  | _, _, _, .nil => rfl
  | d :: ds, _, f, .cons a b => by
    rw [List.all_cons, Bool.and_eq_true] at f
    rw [List.all_cons, Bool.and_eq_true]
    exact ⟨flat_ok f.1 a, flats_ok f.2 b⟩
theorem eqF_ok {N : Nat} {G : Gh} {H : Hp} {d e : D} {v w : V} (fd : flatD d = true) (fe : flatD e = true) (r : RV X.K CL N G H d v) (q : RV X.K CL N G H e w) : eqV v w = eqF d e := by
  cases r <;> cases q <;> simp_all [flatD, eqF, eqV]
theorem memD_ok {N : Nat} {G : Gh} {H : Hp} {x : D} {v : V} (fx : flatD x = true) (rx : RV X.K CL N G H x v) : ∀ {ds : List D} {vs : List V}, ds.all flatD = true → RVs X.K CL N G H ds vs → inV v vs = memD x ds
  | _, _, _, .nil => rfl
  | d :: ds, _, f, .cons a b => by
    rw [List.all_cons, Bool.and_eq_true] at f
    have ih := memD_ok fx rx f.2 b
    unfold inV memD at ih ⊢
    rw [List.any_cons, List.any_cons, ih, eqF_ok f.1 fx a rx]
theorem cmp_is {dx dy d : D} {h h' : CH} (e : cmpD .is dx dy h = .ok d h') : OkCmp X CL (compareOp .Is) dx dy h d h' := by
  unfold cmpD at e
  simp only at e
  split at e
  · cases e
    refine ⟨_, rfl, rfl, _, op_isBl, fun G H x y s rx ry Q q => ?_⟩
    cases rx
    cases ry
    refine ⟨_, _, rfl, rfl, ?_⟩
    rw [← Bool.beq_eq_decide_eq]
    exact q
  · cases e
    refine ⟨_, rfl, rfl, _, op_isN, fun G H x y s rx ry Q q => ?_⟩
    cases rx
    cases ry
    exact ⟨rfl, q⟩
  · rename_i h1 h2
    cases e
    refine ⟨_, rfl, rfl, _, op_isN, fun G H x y s rx ry Q q => ?_⟩
    cases ry
    have hx : decide (x = V.non) = false := by
      cases rx <;> simp_all
    rw [hx]
    exact ⟨rfl, q⟩
  · cases e
theorem cmp_isn {dx dy d : D} {h h' : CH} (e : cmpD .isn dx dy h = .ok d h') : OkCmp X CL (compareOp .IsNot) dx dy h d h' := by
  unfold cmpD at e
  simp only at e
  split at e
  · cases e
    refine ⟨_, rfl, rfl, _, op_notBl, fun G H x y s rx ry Q q => ?_⟩
    cases rx
    cases ry
    refine ⟨_, _, rfl, rfl, ?_⟩
    rw [← Bool.beq_eq_decide_eq]
    exact q
  · cases e
    refine ⟨_, rfl, rfl, _, op_notN, fun G H x y s rx ry Q q => ?_⟩
    cases rx
    cases ry
    exact ⟨rfl, q⟩
  · rename_i h1 h2
    cases e
    refine ⟨_, rfl, rfl, _, op_notN, fun G H x y s rx ry Q q => ?_⟩
    cases ry
    have hx : decide (x = V.non) = false := by
      cases rx <;> simp_all
    rw [hx]
    exact ⟨rfl, q⟩
  · cases e
theorem cmp_in {dx dy d : D} {h h' : CH} (e : cmpD .inn dx dy h = .ok d h') : OkCmp X CL (compareOp .In) dx dy h d h' := by
  unfold cmpD at e
  simp only at e
  split at e
  · rename_i ys e1
    split at e
    · rename_i hf
      rw [Bool.and_eq_true] at hf
      cases e
      refine ⟨_, rfl, rfl, _, op_in_seq, fun G H x y s rx ry Q q => ?_⟩
      obtain ⟨a, vs, rfl, ha, ra⟩ := items_ok s e1 ry
      refine ⟨a, vs, rfl, ha, flat_ok hf.1 rx, flats_ok hf.2 ra, ?_⟩
      rw [memD_ok hf.1 rx hf.2 ra]
      exact q
    · cases e
  · cases e
theorem cmp_nin {dx dy d : D} {h h' : CH} (e : cmpD .nin dx dy h = .ok d h') : OkCmp X CL (compareOp .NotIn) dx dy h d h' := by
  unfold cmpD at e
  simp only at e
  split at e
  · rename_i ys e1
    split at e
    · rename_i hf
      rw [Bool.and_eq_true] at hf
      cases e
      refine ⟨_, rfl, rfl, _, op_notIn_seq, fun G H x y s rx ry Q q => ?_⟩
      obtain ⟨a, vs, rfl, ha, ra⟩ := items_ok s e1 ry
      refine ⟨a, vs, rfl, ha, flat_ok hf.1 rx, flats_ok hf.2 ra, ?_⟩
      rw [memD_ok hf.1 rx hf.2 ra]
      exact q
    · cases e
  · cases e
theorem cmp_ok {k : Nat} (hr : Room k X.A) {o : Cop} {dx dy d : D} {h h' : CH} (e : cmpD o dx dy h = .ok d h') : OkCmp X CL (compareOp o.op) dx dy h d h' := by
  cases o with
  | eq => exact cmp_eq hr e
  | ne => exact cmp_ne hr e
  | is => exact cmp_is e
  | isn => exact cmp_isn e
  | inn => exact cmp_in e
  | nin => exact cmp_nin e
  | lt =>
    unfold cmpD at e
    simp only at e
    split at e
    · cases e; exact .ints op_lt rfl
    · cases e
  | le =>
    unfold cmpD at e
    simp only at e
    split at e
    · cases e; exact .ints op_le rfl
    · cases e
  | gt =>
    unfold cmpD at e
    simp only at e
    split at e
    · cases e; exact .ints op_gt rfl
    · cases e
  | ge =>
    unfold cmpD at e
    simp only at e
    split at e
    · cases e; exact .ints op_ge rfl
    · cases e
end
end Z

end
section
/-! a static method, called through its class -/
namespace Z
open PySem PySem.Spec L2 PyProof.Rows ClX
/-- C.m is a staticmethod: its record at p, its def at g -/
structure SMet (K : PySem.W.Frag) (C : Addr) (mc : Value) (m : Str) (p g : Addr) : Prop where
  at_ : PySem.W.findCls K (.ref C) mc m = some (.get (.builtin "staticmethod.__get__") (.ref p) .none (.ref C))
  rc : ∃ rest, PySem.W.recIn K p "staticmethod" = some (.ref g :: rest)
  kp : PySem.W.keepIn K (.ref g) = true
def tSMeth (C : Addr) (sp : Sp) (E : XK) (ta : TE) (t : TA) : TE := fun σ H Q => ta σ H fun x H1 => x = .ref C ∧ t σ H1 fun vs H2 => sp vs H2 Q E
section
variable {X : Cx} {CX : CXT} {k : Nat} {C p g : Addr} {mc : Value} {fd : FuncData} {ps : List Str} {sp : Sp} {E : XK} {o e : Expr} {es : List Expr} {m : Str} {pos apos : Pos} {ta : TE} {t : TA} {pl : Sem Bool}
theorem pe_smeth (he : PE X o ta) (r : CRead X.K C mc) (c : SMet X.K C mc m p g) (F : FnOk X.prog X.w X.K X.mg X.base CX k g fd ps sp) (hr : Room k X.A) (hb : Binds X.K fd ps []) (hx : Passes CX X E) (ha : PA X (e :: es) t)
    (hst : starEach (e :: es) X.env = (false, eval e X.env) :: starEach es X.env) (hpl : (backTo pos (starEach es X.env)).any (·.1) = false)
    (ht : eval (.Call (.Attribute o m apos) (e :: es) [] pos) X.env = (do
      let ov ← eval o X.env
      standAt apos.atName
      let (f, first) ← holding [ov] (getMethod ov m pl)
      callWith pos f first (backTo pos (starEach (e :: es) X.env)) (backToKw pos (keywordEach [] X.env)))) :
    PE X (.Call (.Attribute o m apos) (e :: es) [] pos) (tSMeth C sp E ta t) := by
  refine ⟨fun pins s σ H Q I h => ?_⟩
  refine PySem.W.methodCall_KW (pl := pl) (thn (he.run pins s σ H _ I h) fun u s1 ⟨x, H1, I1, rx, ex, q⟩ => ?_) ht
  subst ex
  obtain rfl : u = Value.ref C := rx
  obtain ⟨rest, hp⟩ := c.rc
  refine PySem.W.method_cls I1.kIn r.ga (PySem.W.cls_bind I1.kIn r.rd c.at_ ?_)
  refine wpAny_call (PySem.W.sm_get (s := { s1 with toks := s1.toks + 1 }) I1.kIn hp (PySem.W.handed_on rfl ?_))
  have I2 : Inv X pins σ H1 { s1 with toks := s1.toks + 1 } := I1.tok _
  refine PySem.W.callWith_K (h₀ := X.base) I.ok.mod.kin c.kp (thn (ha.run pos pins _ σ H1 _ I2 q) fun us s3 ⟨vs, H2, I3, rv, q2⟩ => ⟨I3.kIn, ?_⟩) hst hpl
  exact run_fn F hr hb .nil hx I3 rv (by rw [List.append_nil]; exact q2)
theorem eval_meth {env : PySem.Env} {args : List Expr} (hbase : attributeBase o m env (eval o env) = eval o env)
    (hfew : methodCallForm (args.length + ([] : List Keyword).length) (backTo pos (starEach args env)) (backToKw pos (keywordEach [] env)) = true) (hline : (apos.endLine == pos.line) = true) :
    eval (.Call (.Attribute o m apos) args [] pos) env = (do
      let ov ← eval o env
      standAt apos.atName
      let (f, first) ← holding [ov] (getMethod ov m (do return (← importBound o env).getD true))
      callWith pos f first (backTo pos (starEach args env)) (backToKw pos (keywordEach [] env))) := by
  have hpos : methodCallPos true o env apos pos = pure pos := by unfold methodCallPos; simp [hline]
  rw [PySem.arm_eval_Call, hbase]
  unfold methodCall calleeOf
  simp only [hfew, hpos, if_true, pure_bind]
end
end Z

end
section
/-! for x in o, o an instance whose class has def __iter__(self): return iter(self.f), f a tuple -/
namespace Z
open PySem PySem.Spec PyProof.Rows L2
/-- a def whose promise may look at the heap's size at the call -/
structure FnS (P : Program) (w : World) (K : PySem.W.Frag) (mg : Str → Option Value) (base : Heap) (k : Nat) (f : Addr) (fd : FuncData) (ps : List Str) (sp : Nat → Sp) : Prop where
  len : ∀ n vs H Q E, sp n vs H Q E → vs.length = ps.length
  run : ∀ (A : Around) (outer : List PySem.Env) (s : Shared) (H : Hp) (args : Args) (us : List Value) (vs : List V) (Q : VK) (E : XK), Room k A → Env0 P w K mg base A outer s H → BindsTo s fd args (ps.zip us) → Vals vs us → sp s.heap.objs.size vs H Q E →
    codeAny (model P w) A (.call (.ref f) args) (CR CX0 outer P w H s Q E) s
theorem fn_ofS {P : Program} {w : World} {K : PySem.W.Frag} {mg : Str → Option Value} {base : Heap} {k : Nat} {f : Addr} {name qual : Str} {params : Arguments} {body : List Stmt} {scope : Scope} {dV kV doc pm cdv ct oc : Value} {an od : Option Addr}
    {osl : Array (Option Value)} {N ps : List Str} {sp : Nat → Sp} (lk : K.lookup f = some ⟨oc, od, .func (PySem.W.fnOf name qual params body scope dV kV doc pm an cdv ct), osl⟩) (hcd : PySem.W.codeIn K cdv qual = true) (S : FnScope N ps scope)
    (len : ∀ n vs H Q E, sp n vs H Q E → vs.length = ps.length)
    (hbody : ∀ (A : Around) (outer : List PySem.Env) (s : Shared) (H : Hp) (vs : List V) (Q : VK) (E : XK), Room k (A.deeper (envOfC qual scope s.heap.objs.size f cdv)) → sp s.heap.objs.size vs H Q E →
      ∃ t, PSs (cxOf CX0 P w K mg base N qual scope f cdv A outer s H E) body t ∧ t { nx := fun _ H' => Q .non H', rt := Q } (start N vs) H) :
    FnS P w K mg base (k + 1) f (PySem.W.fnOf name qual params body scope dV kV doc pm an cdv ct) ps sp := by
  refine ⟨len, fun A outer s H args us vs Q E hr e0 hb r hsp => ?_⟩
  have hl := len _ _ _ _ _ hsp
  have KX : K.In s.heap := e0.mod.kin.keeps fun b o e => (e0.bs b o e).1
  have lim : s.heap.NoLimit := e0.mod.nolimit.keeps fun b o e => (e0.bs b o e).1
  have hkind : ∀ y ∈ ps.zip us, scope.names.lookup y.1 = some .local ∨ (scope.names.lookup y.1 = some .cell ∧ ((cellsFrom (s.heap.objs.size + 1) scope.names []).lookup y.1).isSome = true) := fun ⟨n, v⟩ hy => by
    rcases S.par n (List.of_mem_zip hy).1 with q | q
    · exact .inl q
    · exact .inr ⟨q, PySem.W.cellsFrom_some _ _ _ (.inl q)⟩
  refine codeAny_call_function hr.depth (KX _ _ lk) rfl S.co S.gen rfl (PySem.W.codeRec_of KX hcd) (hb _ _ _ _ ?_)
  refine wpAny_newFunctionEnv_cells S.kind hkind fun env he s1 x => ?_
  subst he
  refine ⟨lim.keeps x.toInCall.keep, codeAny_func ?_⟩
  obtain ⟨t, ht, hq⟩ := hbody A outer s H vs Q E (hr.deeper _) hsp
  have I : Inv (cxOf CX0 P w K mg base N qual scope f cdv A outer s H E) [] (start N vs) H s1 := inv_start S hr.hd e0 hl r x
  refine wpAny_mono (ht.run [] s1 (start N vs) H _ I hq) (fun fl s' hs => ?_) fun e s' hs => hs
  have fin : ∀ {σ' : L2.St} {H' : Hp} {v : V} {u : Value}, Inv (cxOf CX0 P w K mg base N qual scope f cdv A outer s H E) [] σ' H' s' → RelV v u → Q v H' → CE outer P w H s Q u s' :=
    fun {σ' H' v u} J rv q => ⟨v, H', J.os, J.bare, J.base, J.hok, rv, q⟩
  cases fl with
  | ret u =>
    obtain ⟨v, σ', H', J, rv, q⟩ := hs
    exact fin J rv q
  | next =>
    obtain ⟨σ', H', J, q⟩ := hs
    exact fin (v := V.non) (u := Value.none) J rfl q
  | brk =>
    obtain ⟨_, _, _, q⟩ := hs
    exact False.elim q
  | cont =>
    obtain ⟨_, _, _, q⟩ := hs
    exact False.elim q
/-- at it an iterator over the tuple at l, at its start -/
def ItT (l it : Addr) : HO := .ext fun h => h.IsTupleIter it l 0
theorem itT_ok {P : Program} {w : World} {H : Hp} {h : Heap} {l it : Addr} (e : h.IsTupleIter it l 0) : ObjOk P w H h it (ItT l it) := by
  obtain ⟨o, e1, e2⟩ := id e
  exact ⟨e, ⟨o, e1⟩, fun h1 h2 q k => q.at fun o e => k o e⟩
def rIterT (K : PySem.W.Frag) (n : Nat) : List V → Hp → VK → Prop := fun xs H Q => ∃ (l : Addr) (zs : List V), xs = [.ref l] ∧ SqT K H l zs ∧ ∀ it, H it = none → n ≤ it → Q (.ref it) (upd H it (ItT l it))
section
variable {prog : Program} {w : World} {A : Around} {E : Value → Shared → Prop} {s : Shared} {l : Addr} {items : Array Value}
theorem call_iterTu {Q : Value → Shared → Prop} (hl : s.heap.IsTuple l items) (h : Q (.ref s.heap.objs.size) { s with heap := s.heap.push { cls := .type "tuple_iterator", data := .fields #[.ref l, .int 0 0] } }) : wpAny (model prog w) A (call (.builtin "iter") [.ref l]) Q E s := by
  refine Calls.call_function_entry (by decide +kernel) (by decide +kernel) PySem.W.kdk_entry_iter (PySem.W.kdk_args_iter _) ?_
  unfold Builtin.«iter»
  refine wpAny_bind (m := someArgs "iter" 1 2 _) (wpAny_of_eq (a := [Value.ref l]) (by first | rfl | kernel_rfl!) ?_)
  show wpAny _ _ (pyIter (.ref l) >>= _) _ _ _
  refine wpAny_bind (wpAny_pyIter_tuple hl ?_)
  exact wpAny_pure ⟨_, rfl, h⟩
end
section
variable {X : Cx}
theorem call_iterT : CallR X (.builtin "iter") (rIterT X.K X.s_0.heap.objs.size) := by
  intro pins s σ H xs us Q I r h
  obtain ⟨l, zs, rfl, hq, q⟩ := h
  obtain rfl := Vals.ref1 r
  obtain ⟨its, rv, pl, hz⟩ := I.tuple hq
  refine call_iterTu (show s.heap.IsTuple l its.toArray from pl) ?_
  exact ⟨.ref s.heap.objs.size, _, I.laid (t' := s.toks) (fun b u e => Heap.get?_push_of_some _ e) (Nat.le_refl _) (itT_ok ⟨_, Heap.get?_push_size _ rfl, rfl, rfl⟩), rfl, q _ (I.hok.fresh (Nat.le_refl _)) I.sz⟩
end
/-- __iter__'s promise -/
def spIter (K : PySem.W.Frag) (C : Addr) (f : Str) : Nat → Sp := fun n vs H Q _ => ∃ a dx fs t xs, vs = [.ref a] ∧ H a = some (.ins C dx fs) ∧ fs.lookup f = some (.ref t) ∧ SqT K H t xs ∧ ∀ it, H it = none → n ≤ it → Q (.ref it) (upd H it (ItT t it))
/-- its text -/
def iterBody (f : Str) : List Stmt → Bool
  | [.Return (some (.Call (.Name x _) [.Attribute (.Name y _) g _] [] _)) _] => decide (x = ("iter" : Str)) && (decide (y = ("self" : Str)) && decide (g = f))
  | _ => false
theorem fn_iter {P : Program} {w : World} {K : PySem.W.Frag} {mg : Str → Option Value} {base : Heap} {k : Nat} {fa C : Addr} {name qual f : Str} {params : Arguments} {body : List Stmt} {scope : Scope} {dV kV doc pm cdv ct oc : Value} {an od : Option Addr}
    {osl : Array (Option Value)} (lk : K.lookup fa = some ⟨oc, od, .func (PySem.W.fnOf name qual params body scope dV kV doc pm an cdv ct), osl⟩) (hcd : PySem.W.codeIn K cdv qual = true) (S : FnScope ["self"] ["self"] scope)
    (hi : scope.names.lookup ("iter" : Str) = some .globalImplicit) (hm : mg ("iter" : Str) = none) (hb : iterBody f body = true) (c : Cls K C) (n : NoAttr K C f) :
    FnS P w K mg base (k + 1) fa (PySem.W.fnOf name qual params body scope dV kV doc pm an cdv ct) ["self"] (spIter K C f) := by
  refine fn_ofS lk hcd S (fun _ vs H Q E h => ?_) (fun A outer s H vs Q E hr h => ?_)
  · obtain ⟨a, dx, fs, t, xs, e, _⟩ := h
    rw [e]
    rfl
  · obtain ⟨a, dx, fs, t, xs, e, ea, l, hq, q⟩ := h
    subst e
    unfold iterBody at hb
    split at hb
    · simp only [Bool.and_eq_true, decide_eq_true_eq] at hb
      obtain ⟨rfl, rfl, rfl⟩ := hb
      have vis : Vis scope "self" := (S.par "self" (List.Mem.head _)).elim (fun z => .inl z) (fun z => .inr (.inl z))
      refine ⟨_, pss_one (ps_ret (pe_callB call_iterT hi hm PyProof.Rows.boot_iter (pa_cons (pe_fld (pe_var (i := 0) rfl vis) rfl) pa_nil))), ?_⟩
      exact ⟨.ref a, rfl, a, C, dx, fs, .ref t, rfl, ea, c, n, l, t, xs, rfl, hq, fun it h1 h2 => q it h1 h2⟩
    · cases hb
/-- a walk over an instance -/
def iOwn (K : PySem.W.Frag) (C : Addr) (f : Str) (tl : TE) : TI := fun σ H R => tl σ H fun x H1 => ∃ a dx fs t xs, x = .ref a ∧ H1 a = some (.ins C dx fs) ∧ fs.lookup f = some (.ref t) ∧ SqT K H1 t xs ∧ R (Itt K t) H1
theorem pi_own {X : Cx} {tg l : Expr} {tl : TE} {C g : Addr} {f : Str} {fd : FuncData} {k : Nat} (hl : PE X l tl) (hs : PySem.W.findIn X.K (.ref C) "__iter__" = some (some (.ref g))) (hf : PySem.W.isFn X.K (.ref g) = true)
    (F : FnS X.prog X.w X.K X.mg X.base k g fd ["self"] (spIter X.K C f)) (hr : Room k X.A) (hb : Binds X.K fd ["self"] []) : PI X tg l (iOwn X.K C f tl) := by
  refine ⟨fun pins s σ H R I h => ?_⟩
  refine thn (hl.run pins s σ H _ I h) fun v s1 ⟨x, H1, I1, r1, q1⟩ => ?_
  obtain ⟨a, dx, fs, t, xs, rfl, ea, lk, hq, q⟩ := q1
  cases r1
  obtain ⟨mA, J, _⟩ := ins_get I1.hok ea
  obtain ⟨od, J, _⟩ := J.look
  obtain ⟨m0, hF⟩ := I1.fr
  refine PySem.W.owit_iter hF I1.ok.mod.kin J hs hf ?_
  have sp : spIter X.K C f s1.heap.objs.size [.ref a] H1 (fun v H' => ∃ it, v = .ref it ∧ H1 it = none ∧ s1.heap.objs.size ≤ it ∧ H' = upd H1 it (ItT t it)) (fun _ _ _ => False) :=
    ⟨a, dx, fs, t, xs, rfl, ea, lk, hq, fun it h1 h2 => ⟨it, rfl, h1, h2, rfl⟩⟩
  refine wpAny_call (codeAny_mono (F.run X.A X.stack s1 H1 ⟨[.ref a], []⟩ [.ref a] [.ref a] _ _ hr I1.env0 (hb s1 [.ref a] I1.kIn rfl) (.cons rfl .nil) sp) fun r s' hq' => ?_)
  cases r with
  | error e => exact False.elim hq'
  | ok fl =>
    cases fl with
    | ret u =>
      obtain ⟨v, H', I2, rv, it, rfl, h1, h2, rfl⟩ := I1.after hq'
      cases rv
      have st : s'.heap.IsTupleIter it t 0 := (I2.hok it _ upd_same).1
      unfold PySem.W.OwitIt
      refine wpAny_specialOf (name := Str.ofString "__next__") st.typeIs PySem.F.slot_tuple_iterator_next.lookup ?_
      have ee : upd H1 it (ItT t it) it = some (.ext fun h => h.IsTupleIter it t 0) := upd_same
      refine ⟨it, [it], _, _, ItX.dropH (upd H1 it (ItT t it)) it, rfl, ItX.inv_drop I2 ee, turn_tuple t it, st, fun b hb => ?_, ?_⟩
      · have e : b = it := by simpa using hb
        rw [e]
        exact ItX.inv_fp I2 ee (Nat.le_trans I1.sz h2)
      · rw [ItX.dropH_upd h1]
        exact q
    | next => exact False.elim hq'
    | brk => exact False.elim hq'
    | cont => exact False.elim hq'
end Z

end
section
/-! operators of an own class; a class that is called by a local name; a class method -/
namespace Z
open PySem PySem.Spec L2 PyProof.Rows ClX
/-- l op r, l an instance whose class has the operator, r an int -/
structure OpOf (K : PySem.W.Frag) (C f : Addr) (op : Operator) : Prop where
  sf : PySem.W.selfFirst K C = true
  at_ : PySem.W.findIn K (.ref C) (PySem.dunder op.info.2) = some (some (.ref f))
  fn : PySem.W.isFn K (.ref f) = true
  r : PySem.W.findIn K (.ref C) (dunderR op.info.2) = some none
  i1 : ∃ fo, PySem.W.findIn K (.type "int") (PySem.dunder op.info.2) = some fo
  i2 : ∃ ro, PySem.W.findIn K (.type "int") (dunderR op.info.2) = some ro
  sub : PySem.W.subIn K (.type "int") (.ref C) = some false
theorem fnR_of {P : Program} {w : World} {K : PySem.W.Frag} {mg : Str → Option Value} {base : Heap} {CX : CXT} {k : Nat} {f : Addr} {fd : FuncData} {ps : List Str} {sp : Sp} (F : FnOk P w K mg base CX k f fd ps sp) (hb : Binds K fd ps []) : FnR P w K mg base CX k f sp := fun A outer s H us vs Q E hr e0 r hs => by
  have KX : K.In s.heap := e0.mod.kin.keeps fun b o e => (e0.bs b o e).1
  have hl : (us ++ ([] : List Value)).length = ps.length := by rw [List.append_nil, ← r.length]; exact F.len _ _ _ _ hs
  have b := hb s us KX hl
  rw [List.append_nil] at b
  exact F.run A outer s H ⟨us, []⟩ us vs Q E hr e0 b r hs
def tOpO (C : Addr) (sp : Sp) (E : XK) (ta tb : TE) : TE := fun σ H Q => ta σ H fun x H1 => tb σ H1 fun y H2 => ∃ a dx fs i, x = .ref a ∧ H2 a = some (.ins C dx fs) ∧ y = .int i ∧ sp [.ref a, .int i] H2 (fun v H3 => (∃ b, v = .ref b) ∧ Q v H3) E
def tUnO (C : Addr) (sp : Sp) (E : XK) (ta : TE) : TE := fun σ H Q => ta σ H fun x H1 => ∃ a dx fs, x = .ref a ∧ H1 a = some (.ins C dx fs) ∧ sp [.ref a] H1 Q E
section
variable {X : Cx} {CX : CXT} {k : Nat} {C p g f : Addr} {fd : FuncData} {ps : List Str} {sp : Sp} {E : XK} {a b o e : Expr} {es : List Expr} {m : Str} {pos apos : Pos} {ta tb : TE} {t : TA}
theorem pe_opo {op : Operator} (ha : PE X a ta) (hb : PE X b tb) (O : OpOf X.K C f op) (F : FnOk X.prog X.w X.K X.mg X.base CX k f fd ps sp) (hr : Room k X.A) (bd : Binds X.K fd ps []) (hx : Passes CX X E) : PE X (.BinOp a op b pos) (tOpO C sp E ta tb) := by
  refine ⟨fun pins s σ H Q I h => ?_⟩
  refine wpAny_BinOp (thn (ha.run pins s σ H _ I h) fun v s1 ⟨x, H1, I1, r1, q1⟩ => thn (hb.run pins s1 σ H1 _ I1 q1) fun u s2 ⟨y, H2, I2, r2, q2⟩ => ?_)
  obtain ⟨q, dx, fs, i, rfl, ea, rfl, hs⟩ := q2
  obtain rfl : v = Value.ref q := r1
  obtain ⟨tk, rfl⟩ := r2
  obtain ⟨mA, J, _⟩ := ins_get I2.hok ea
  obtain ⟨od, J, _⟩ := J.look
  obtain ⟨m0, hF⟩ := I2.fr
  obtain ⟨fo, i1⟩ := O.i1
  obtain ⟨ro, i2⟩ := O.i2
  refine PySem.W.ksp_binT (T := "int") hF I2.ok.mod.kin J rfl O.sf O.at_ O.fn O.r (.inl rfl) i1 i2 O.sub ?_
  refine thn (run_fn (us := [.ref q, .int i tk]) (vs := [.ref q, .int i]) F hr bd .nil hx I2 (.cons rfl (.cons ⟨tk, rfl⟩ .nil)) hs) fun r s3 z => ?_
  obtain ⟨v3, H3, I3, rv, ⟨b, rfl⟩, qv⟩ := z
  obtain rfl : r = Value.ref b := rv
  exact ⟨.ref b, H3, I3, rfl, qv⟩
theorem pe_uno (ha : PE X a ta) (hs : PySem.W.findIn X.K (.ref C) "__invert__" = some (some (.ref f))) (hf : PySem.W.isFn X.K (.ref f) = true) (F : FnOk X.prog X.w X.K X.mg X.base CX k f fd ps sp) (hr : Room k X.A) (bd : Binds X.K fd ps []) (hx : Passes CX X E) :
    PE X (.UnaryOp .Invert a pos) (tUnO C sp E ta) := by
  refine ⟨fun pins s σ H Q I h => ?_⟩
  refine UnaryOp_ (thn (ha.run pins s σ H _ I h) fun v s1 ⟨x, H1, I1, r1, q1⟩ => ?_)
  obtain ⟨q, dx, fs, rfl, ea, hq⟩ := q1
  obtain rfl : v = Value.ref q := r1
  obtain ⟨mA, J, _⟩ := ins_get I1.hok ea
  obtain ⟨od, J, _⟩ := J.look
  obtain ⟨m0, hF⟩ := I1.fr
  refine PySem.W.ksp_inv hF I1.ok.mod.kin J hs hf ?_
  exact run_fn (us := [.ref q]) (vs := [.ref q]) F hr bd .nil hx I1 (.cons rfl .nil) hq
/-- x(..), x a local name that holds a class -/
def tMakeV (i : Nat) (C : Addr) (sp : Sp) (E : XK) (t : TA) : TE := fun σ H Q => σ[i]? = some (some (.ref C)) ∧ tMake C sp [] E t σ H Q
theorem pe_makeV {i : Nat} {x : Str} (M : Mk X.K C f) (F : FnOk X.prog X.w X.K X.mg X.base CX k f fd ps sp) (hr : Room (k + 1) X.A) (hN : X.N[i]? = some x) (hv : Vis X.env.scope x) (hb : Binds X.K fd ps []) (hx : Passes CX X E) (ha : PA X (e :: es) t)
    (hd : (x == ("__debug__" : Str)) = false) (hcd : (x == ("__classdict__" : Str)) = false) (he : starEach (e :: es) X.env = (false, eval e X.env) :: starEach es X.env) (hpl : (backTo pos (starEach es X.env)).any (·.1) = false) {p : Pos} :
    PE X (.Call (.Name x p) (e :: es) [] pos) (tMakeV i C sp E t) := by
  refine ⟨fun pins s σ H Q I h => ?_⟩
  obtain ⟨hs, h⟩ := h
  refine wpAny_Call_Name_kw (thn ((pe_var (pos := p) (i := i) hN hv hd hcd).run pins s σ H (fun v H1 => v = .ref C ∧ H1 = H) I ⟨.ref C, hs, rfl, rfl⟩) fun u s1 ⟨v, H1, I1, r1, ev, eH⟩ => ?_)
  subst ev
  rw [eH] at I1
  obtain rfl : u = Value.ref C := r1
  refine PySem.W.callWith_K (h₀ := X.base) I1.ok.mod.kin M.kp (thn (ha.run pos pins s1 σ H _ I1 h) fun us s2 ⟨vs, H2, I2, r, q⟩ => ⟨I2.kIn, ?_⟩) he hpl
  exact run_make M F hr hb .nil hx I2 r q
end
end Z

end
section
/-! expressions, one by one -/
namespace Z
open PySem PySem.Spec L2

/-- a def's promise: what the small language makes of it -/
def spOf (K : PySem.W.Frag) (CL : CLs) (Φ : FS) (f ar : Nat) : Sp := fun vs H Q _ => vs.length = ar ∧ ∃ (G : Gh) (h h' : CH) (ds : List D) (d : D), SR K CL G h H ∧ RVs K CL h.length G H ds vs ∧ Φ f ds h = .ok d h' ∧
  ∀ G' H' v, EvR G h H G' h' H' → SR K CL G' h' H' → RV K CL h'.length G' H' d v → Q v H'
/-- a def that stands in the top -/
structure FOk (X : Cx) (CL : CLs) (Φ : FS) (k f : Nat) (fi : FI) : Prop where
  ex : ∃ (a : Addr) (fd : FuncData) (ps : List Str), X.mg fi.name = some (.ref a) ∧ PySem.W.keepIn X.K (.ref a) = true ∧ FnOk X.prog X.w X.K X.mg X.base CX0 k a fd ps (spOf X.K CL Φ f fi.ar) ∧
    (match fi.kw with
      | none => Binds X.K fd ps []
      | some (n, c) => (∃ u, RelV (match c with
        | .non => V.non
        | .bl b => V.bl b
        | .int i => V.int i
        | .str s => V.str s) u ∧ Binds X.K fd ps [u]) ∧ KBn X.K fd ps (fi.ar - 1) [n] (fun us ws => us ++ ws) (fun vs zs => vs ++ zs))
/-- a class that stands in the top -/
structure COk (K : PySem.W.Frag) (C : Addr) : Prop where
  lst : PySem.W.kitOne K (.type "list") (.ref C) = some false
  tup : PySem.W.kitOne K (.type "tuple") (.ref C) = some false
  non : PySem.W.kitOne K (.type "NoneType") (.ref C) = some false
  cl : Cls K C
  ha : PySem.W.findIn K (.ref C) "__class__" = some (some (.builtin "object.__class__"))
  hn : PySem.W.specialIn K (.builtin "object.__class__") "__get__" = some (some (.builtin "getset_descriptor.__get__"))
  htk : PySem.W.takesIn K (.builtin "object.__class__") = some true
  hm : PySem.W.mroIn K C (.type "object") = some true
  kt : PySem.W.kitOne K (.ref C) (.ref C) = some true
/-- an own class whose instances are made -/
structure IOk (K : PySem.W.Frag) (C : Addr) (ns : List Str) : Prop where
  cl : Cls K C
  nd : ns.Nodup
  no : ∀ f ∈ ns, NoAttr K C f
/-- a class that is called: its __init__ -/
structure MOk (X : Cx) (CL : CLs) (Φ : FS) (k c : Nat) (nm : Str) (f ar : Nat) : Prop where
  ex : ∃ (C a : Addr) (fd : FuncData) (ps : List Str), X.mg nm = some (.ref C) ∧ CL c = some C ∧ Mk X.K C a ∧ FnOk X.prog X.w X.K X.mg X.base CX0 k a fd ps (spOf X.K CL Φ f (ar + 1)) ∧ Binds X.K fd ps []
/-- a static method of a class that stands in the top -/
structure StOk (X : Cx) (CL : CLs) (Φ : FS) (k f : Nat) (cn m : Str) (ar : Nat) : Prop where
  ex : ∃ (C p g : Addr) (mc : Value) (fd : FuncData) (ps : List Str), X.mg cn = some (.ref C) ∧ ClX.CRead X.K C mc ∧ SMet X.K C mc m p g ∧ FnOk X.prog X.w X.K X.mg X.base CX0 k g fd ps (spOf X.K CL Φ f ar) ∧ Binds X.K fd ps []
/-- how a def stands in its class: a method (0), a property (1), an operator -/
def MeAt (K : PySem.W.Frag) (C : Addr) (m : Str) (a : Addr) : Nat → Prop
  | 0 => Meth K C m a
  | 1 => ∃ p, PropOf K C m p a
  | 2 => OpOf K C a .Mult
  | 3 => PySem.W.findIn K (.ref C) "__invert__" = some (some (.ref a)) ∧ PySem.W.isFn K (.ref a) = true
  | _ => False
/-- a method of an own class -/
structure MeOk (X : Cx) (CL : CLs) (Φ : FS) (k f kd c : Nat) (m : Str) (ar : Nat) : Prop where
  ex : ∃ (C a : Addr) (fd : FuncData) (ps : List Str), CL c = some C ∧ m ∉ CL.fn c ∧ Cls X.K C ∧ MeAt X.K C m a kd ∧ FnOk X.prog X.w X.K X.mg X.base CX0 k a fd ps (spOf X.K CL Φ f ar) ∧ Binds X.K fd ps []
/-- a class method -/
structure CmOk (X : Cx) (CL : CLs) (Φ : FS) (k f c : Nat) (cn m : Str) (ar : Nat) : Prop where
  ex : ∃ (C p g : Addr) (mc : Value) (fd : FuncData) (ps : List Str), X.mg cn = some (.ref C) ∧ CL c = some C ∧ ClX.CRead X.K C mc ∧ ClX.CMet X.K C mc m p g ∧ FnOk X.prog X.w X.K X.mg X.base CX0 k g fd ps (spOf X.K CL Φ f ar) ∧ Binds X.K fd ps []
/-- a class whose instances are walked -/
structure ItOk (X : Cx) (L : LI) (CL : CLs) (k c j : Nat) : Prop where
  ex : ∃ (C g : Addr) (f : Str) (fd : FuncData), CL c = some C ∧ CL.fn c = L.fd c ∧ (L.fd c)[j]? = some f ∧ (L.fd c).Nodup ∧ PySem.W.findIn X.K (.ref C) "__iter__" = some (some (.ref g)) ∧ PySem.W.isFn X.K (.ref g) = true ∧ FnS X.prog X.w X.K X.mg X.base (k + 1) g fd ["self"] (spIter X.K C f) ∧ Binds X.K fd ["self"] []
structure XC (L : LI) (CL : CLs) (Φ : FS) (k : Nat) (X : Cx) : Prop where
  calm : X.calm = true
  nd : X.N.Nodup
  room1 : Room (k + 1) X.A
  bi : ∀ x, L.bn.contains x = true → X.mg x = none
  fn : ∀ f fi, L.fn f = some fi → FOk X CL Φ k f fi
  cl : ∀ c x, L.cl c = some x → ∃ C, X.mg x = some (.ref C) ∧ CL c = some C ∧ COk X.K C
  mkr : ∀ c nm f ar, L.mkr c = some (nm, f, ar) → MOk X CL Φ k c nm f ar
  st : ∀ f cn m ar, L.st f = some (cn, m, ar) → StOk X CL Φ k f cn m ar
  me : ∀ f kd c m ar, L.me f = some (kd, c, m, ar) → MeOk X CL Φ k f kd c m ar
  cm : ∀ f c cn m ar, L.cm f = some (c, cn, m, ar) → CmOk X CL Φ k f c cn m ar
  itr : ∀ c j, L.it c = some j → ItOk X L CL k c j
  ins : ∀ c, L.fd c ≠ [] → ∃ C, CL c = some C ∧ CL.fn c = L.fd c ∧ IOk X.K C (L.fd c)
  lam : L.lm = true → ∃ c P, LamX.TabB X.base X.mg c P ∧ X.env.code = .ref c ∧ CL.tb = [(P, X.env.qual ++ "<lambda>")]
section
variable {L : LI} {X : Cx} {CL : CLs} {Φ : FS} {k : Nat}
theorem XC.room (xc : XC L CL Φ k X) : Room k X.A := xc.room1.mono (Nat.le_succ k)
theorem and3 {a b : Bool} (h : (a && b) = true) : a = true ∧ b = true := by simpa using h

theorem se_var {sc : Scope} {i : Nat} {x : Expr} (hs : X.env.scope = sc) (c : chkE L X.N sc (.var i) x = true) : SE X CL Φ (.var i) x := by
  intro env h h' d e G H σ s re Q p
  simp only [chkE] at c
  split at c
  · rename_i y pos
    unfold nmB at c
    simp only [Bool.and_eq_true, decide_eq_true_eq, Bool.not_eq_true'] at c
    obtain ⟨c1, c2, c3, c4⟩ := c
    have vis : Vis X.env.scope y := by rw [hs]; exact visB_ok c2
    refine PE.go (pe_var c1 vis c3 c4) fun rl => ?_
    simp only [evE] at e
    split at e
    · rename_i d' q
      cases e
      obtain ⟨v, a, b⟩ := re.2 i d q
      exact ⟨v, a, fun _ => p.here s b rl⟩
    · cases e
  · cases c
theorem se_con {sc : Scope} {c : Kc} {x : Expr} (ck : chkE L X.N sc (.con c) x = true) : SE X CL Φ (.con c) x := by
  intro env h h' d e G H σ s re Q p
  simp only [chkE] at ck
  simp only [evE, R.ok.injEq] at e
  obtain ⟨rfl, rfl⟩ := e
  split at ck
  · rename_i kk j pos
    cases c with
    | non =>
      cases kk <;> simp [chkK] at ck
      exact PE.go pe_non fun rl _ => p.here s .non rl
    | bl b =>
      cases kk <;> simp [chkK] at ck
      subst ck
      exact PE.go pe_bl fun rl _ => p.here s (.bl _) rl
    | int i =>
      cases kk <;> simp [chkK] at ck
      subst ck
      exact PE.go pe_int fun rl _ => p.here s (.int _) rl
    | str z =>
      cases kk <;> simp [chkK] at ck
      subst ck
      exact PE.go pe_str fun rl _ => p.here s (.str _) rl
  · cases ck
/-- two operands -/
theorem se_two {a b : E} {x y : Expr} {f : Value → Value → Sem Value} {env : Env} {h h1 h2 h' : CH} {da db d : D} (ia : SE X CL Φ a x) (ib : SE X CL Φ b y) (ea : evE Φ a env h = .ok da h1) (eb : evE Φ b env h1 = .ok db h2) (o : OkOp X CL f da db h2 d h') :
    ∃ r : R2, OpR X f r ∧ ∀ (G : Gh) (H : Hp) (σ : List (Option V)), SR X.K CL G h H → RE X.K CL h.length G H env σ → ∀ Q : VK, Pst X CL G h H d h' Q → tOp r (tE X x) (tE X y) σ H fun v H' => Rl X H' → Q v H' := by
  obtain ⟨r, hr, go⟩ := o
  refine ⟨r, hr, fun G H σ s re Q p => ?_⟩
  refine ia env h h1 da ea G H σ s re _ fun G1 H1 v e1 s1 r1 l1 => ?_
  refine ib env h1 h2 db eb G1 H1 σ s1 (re.ev s e1) _ fun G2 H2 w e2 s2 r2 l2 => ?_
  exact go G2 H2 v w s2 (r1.ev s1 e2) r2 l2 Q (p.from (e1.trans e2))
theorem se_bin {sc : Scope} {o : Bop} {m : Bool} {a b : E} {x : Expr} (ia : ∀ x, chkE L X.N sc a x = true → SE X CL Φ a x) (ib : ∀ x, chkE L X.N sc b x = true → SE X CL Φ b x) (c : chkE L X.N sc (.bin o m a b) x = true) : SE X CL Φ (.bin o m a b) x := by
  simp only [chkE] at c
  split at c
  · rename_i l op r pos
    simp only [Bool.and_eq_true, decide_eq_true_eq] at c
    obtain ⟨rfl, c1, c2⟩ := c
    intro env h h' d e G H σ s re Q p
    simp only [evE] at e
    obtain ⟨da, h1, ea, e⟩ := R.bnd_inv e
    obtain ⟨db, h2, eb, e⟩ := R.bnd_inv e
    obtain ⟨r, hr, go⟩ := se_two (ia _ c1) (ib _ c2) ea eb (bin_ok e)
    exact PE.go (pe_op hr (tE_pe X l) (tE_pe X _)) fun _ => go G H σ s re Q p
  · cases c
theorem notset {y : Expr} {op : CmpOp} (h : isSet y = false) : behindInMarks op y = false := by
  cases y <;> first | rfl | cases h
theorem se_two' {a b : E} {x y : Expr} {f : Value → Value → Sem Value} {env : Env} {h h1 h2 h' : CH} {da db d : D} (ia : SE X CL Φ a x) (ib : SE X CL Φ b y) (ea : evE Φ a env h = .ok da h1) (eb : evE Φ b env h1 = .ok db h2) (o : OkCmp X CL f da db h2 d h') :
    ∃ (c : Bool) (r : R2), d = .bl c ∧ OpR X f r ∧ ∀ (G : Gh) (H : Hp) (σ : List (Option V)), SR X.K CL G h H → RE X.K CL h.length G H env σ → ∀ Q : VK, (∀ G' H', EvR G h H G' h' H' → SR X.K CL G' h' H' → Rl X H' → Q (.bl c) H') → tOp r (tE X x) (tE X y) σ H Q := by
  obtain ⟨c, rfl, rfl, r, hr, go⟩ := o
  refine ⟨c, r, rfl, hr, fun G H σ s re Q p => ?_⟩
  refine ia env h h1 da ea G H σ s re _ fun G1 H1 v e1 s1 r1 l1 => ?_
  refine ib env h1 h' db eb G1 H1 σ s1 (re.ev s e1) _ fun G2 H2 w e2 s2 r2 l2 => ?_
  exact go G2 H2 v w s2 (r1.ev s1 e2) r2 Q (p G2 H2 (e1.trans e2) s2 l2)
theorem se_cmp (xc : XC L CL Φ k X) {sc : Scope} {o : Cop} {a b : E} {x : Expr} (ia : ∀ x, chkE L X.N sc a x = true → SE X CL Φ a x) (ib : ∀ x, chkE L X.N sc b x = true → SE X CL Φ b x) (c : chkE L X.N sc (.cmp o a b) x = true) : SE X CL Φ (.cmp o a b) x ∧ ST X CL Φ (.cmp o a b) x := by
  simp only [chkE] at c
  split at c
  · rename_i l op r pos
    simp only [Bool.and_eq_true, decide_eq_true_eq, Bool.not_eq_true'] at c
    obtain ⟨rfl, c1, c2, c3⟩ := c
    refine ⟨fun env h h' d e G H σ s re Q p => ?_, fun env h h' b e G H σ s re Q p => ?_⟩
    · simp only [evE] at e
      obtain ⟨da, h1, ea, e⟩ := R.bnd_inv e
      obtain ⟨db, h2, eb, e⟩ := R.bnd_inv e
      obtain ⟨c, r, rfl, hr, go⟩ := se_two' (ia _ c1) (ib _ c2) ea eb (cmp_ok xc.room e)
      exact PE.go (pe_cmpR hr (tE_pe X l) (tE_pe X _) (notset c3)) fun _ => go G H σ s re _ fun G' H' e' s' l' _ => p G' H' _ e' s' (.bl _) l'
    · replace e := asBl_inv e
      simp only [evE] at e
      obtain ⟨da, h1, ea, e⟩ := R.bnd_inv e
      obtain ⟨db, h2, eb, e⟩ := R.bnd_inv e
      obtain ⟨c, r, ec, hr, go⟩ := se_two' (ia _ c1) (ib _ c2) ea eb (cmp_ok xc.room e)
      cases ec
      exact PT.go (pt_cmpR hr (tE_pe X l) (tE_pe X _) (notset c3)) fun _ => go G H σ s re _ fun G' H' e' s' l' => ⟨_, rfl, fun _ => p G' H' e' s' l'⟩
  · cases c
theorem lookup_at {f : Str} {v : V} : ∀ {ns : List Str} {fs : List (Str × V)} {i : Nat}, fs.map (·.1) = ns.take fs.length → ns.Nodup → ns[i]? = some f → (fs.map (·.2))[i]? = some v → fs.lookup f = some v
  | _, [], i, _, _, _, h => by simp at h
  | [], p :: r, i, h, _, _, _ => by simp at h
  | n :: ns, (a, b) :: r, i, h, nd, hf, hv => by
    simp only [List.map_cons, List.length_cons, List.take_succ_cons, List.cons.injEq] at h
    obtain ⟨e0, h⟩ := h
    subst e0
    obtain ⟨h1, h2⟩ := List.nodup_cons.1 nd
    cases i with
    | zero =>
      simp at hf hv
      subst hf hv
      simp [List.lookup]
    | succ i =>
      simp only [List.getElem?_cons_succ, List.map_cons] at hf hv
      have ne : (f == a) = false := by
        rw [beq_eq_false_iff_ne]
        intro z
        subst z
        exact h1 (List.mem_of_getElem? hf)
      simp only [List.lookup, ne]
      exact lookup_at h h2 hf hv
theorem RVs.at_ {K : PySem.W.Frag} {N : Nat} {G : Gh} {H : Hp} : ∀ {ds : List D} {vs : List V} {i : Nat} {d : D}, RVs K CL N G H ds vs → ds[i]? = some d → ∃ v, vs[i]? = some v ∧ RV K CL N G H d v
  | [], [], i, d, .nil, h => by simp at h
  | d0 :: ds, v0 :: vs, 0, d, .cons a b, h => by simp at h; subst h; exact ⟨_, rfl, a⟩
  | d0 :: ds, v0 :: vs, i + 1, d, .cons a b, h => by
    obtain ⟨v, h1, h2⟩ := RVs.at_ (i := i) b (by simpa using h)
    exact ⟨v, by simpa using h1, h2⟩
theorem ins_at {K : PySem.W.Frag} {G : Gh} {h : CH} {H : Hp} {x : D} {v : V} {c : Nat} {ds : List D} (s : SR K CL G h H) (e : insOf h x = some (c, ds)) (r : RV K CL h.length G H x v) :
    ∃ a C dx fs, v = .ref a ∧ CL c = some C ∧ H a = some (.ins C dx fs) ∧ fs.map (·.1) = (CL.fn c).take ds.length ∧ RVs K CL h.length G H ds (fs.map (·.2)) := by
  cases r with
  | ins f a b nm q =>
    simp only [insOf, Option.some.injEq, Prod.mk.injEq] at e
    obtain ⟨rfl, rfl⟩ := e
    exact ⟨_, _, _, _, rfl, a, b, nm, q⟩
  | @cell n l =>
    simp only [insOf] at e
    cases q : h[n]? with
    | none => rw [q] at e; cases e
    | some c0 =>
      rw [q] at e
      cases c0 with
      | ins k es =>
        simp only [Option.some.injEq, Prod.mk.injEq] at e
        obtain ⟨rfl, rfl⟩ := e
        obtain ⟨_, C, dx, fs, a, b, nm, r⟩ := s.cell n _ q
        exact ⟨_, _, _, _, rfl, a, b, nm, r⟩
      | _ => cases e
  | _ => cases e
theorem se_fld (xc : XC L CL Φ k X) {sc : Scope} {a : E} {c0 i : Nat} {x : Expr} (ia : ∀ x, chkE L X.N sc a x = true → SE X CL Φ a x) (c : chkE L X.N sc (.fld a c0 i) x = true) : SE X CL Φ (.fld a c0 i) x := by
  simp only [chkE] at c
  split at c
  · rename_i y f pos
    simp only [Bool.and_eq_true, Bool.not_eq_true', decide_eq_true_eq] at c
    obtain ⟨c1, c2, c3⟩ := c
    have hne : L.fd c0 ≠ [] := fun z => by rw [z] at c2; simp at c2
    obtain ⟨C, h1, h2, io⟩ := xc.ins c0 hne
    intro env h h' d e G H σ s re Q p
    simp only [evE] at e
    obtain ⟨dx, hm, ea, ew⟩ := R.bnd_inv e
    clear e
    have hb : attributeBase y f X.env (eval y X.env) = eval y X.env := by
      cases y with
      | Call => cases c1
      | _ => rfl
    refine PE.go (pe_fld (tE_pe X y) hb) fun _ => ia _ c3 env h _ _ ea G H σ s re _ fun G1 H1 v e1 s1 r1 l1 => ?_
    unfold fldV at ew
    split at ew
    · rename_i kk ds ei
      split at ew
      · rename_i hk
        subst hk
        split at ew
        · rename_i d0 ed
          cases ew
          obtain ⟨a1, C1, dx1, fs, rfl, g1, g2, nm, rr⟩ := ins_at s1 ei r1
          rw [h1] at g1
          cases g1
          rw [h2] at nm
          obtain ⟨v1, q1, q2⟩ := RVs.at_ rr ed
          have lf : fs.length = ds.length := by
            have := rr.length
            simpa using this.symm
          exact ⟨a1, C, dx1, fs, v1, rfl, g2, io.cl, io.no f (List.mem_of_getElem? c2), lookup_at (by rw [lf]; exact nm) io.nd c2 q1, fun l2 => p G1 H1 _ e1 s1 q2 l2⟩
        · cases ew
      · cases ew
    · cases ew
  · cases c
theorem se_fz {sc : Scope} {a : E} {x : Expr} (ia : ∀ x, chkE L X.N sc a x = true → SE X CL Φ a x) (c : chkE L X.N sc (.fz a) x = true) : SE X CL Φ (.fz a) x := by
  simp only [chkE, Bool.and_eq_true] at c
  intro env h h' d e G H σ s re Q p
  simp only [evE] at e
  obtain ⟨dx, hm, ea, e⟩ := R.bnd_inv e
  refine ia _ c.2 env h _ _ ea G H σ s re _ fun G1 H1 v e1 s1 r1 l1 => ?_
  unfold fzV at e
  split at e
  · rename_i d1 h2 ef
    cases e
    obtain ⟨G2, s2, e2, r2⟩ := frz_ok s1 ef r1
    exact p G2 H1 v (e1.trans e2) s2 r2 l1
  · cases e
theorem se_neg {sc : Scope} {a : E} {x : Expr} (ia : ∀ x, chkE L X.N sc a x = true → SE X CL Φ a x) (c : chkE L X.N sc (.neg a) x = true) : SE X CL Φ (.neg a) x := by
  simp only [chkE] at c
  split at c
  · rename_i y pos
    intro env h h' d e G H σ s re Q p
    simp only [evE] at e
    obtain ⟨da, h1, ea, e⟩ := R.bnd_inv e
    split at e
    · rename_i i
      cases e
      refine PE.go (pe_un un_neg (tE_pe X y)) fun _ => ia _ c env h _ _ ea G H σ s re _ fun G1 H1 v e1 s1 r1 l1 => ?_
      cases r1
      exact ⟨i, rfl, fun _ => p G1 H1 _ e1 s1 (.int _) l1⟩
    · cases e
  · cases c
theorem se_not {sc : Scope} {a : E} {x : Expr} (ia : ∀ x, chkE L X.N sc a x = true → SE X CL Φ a x) (ta : ∀ x, chkE L X.N sc a x = true → ST X CL Φ a x) (c : chkE L X.N sc (.not a) x = true) : SE X CL Φ (.not a) x ∧ ST X CL Φ (.not a) x := by
  simp only [chkE] at c
  split at c
  · rename_i y pos
    refine ⟨fun env h h' d e G H σ s re Q p => ?_, fun env h h' b e G H σ s re Q p => ?_⟩
    · simp only [evE] at e
      obtain ⟨b, h1, ea, e⟩ := R.bnd_inv e
      cases e
      refine PE.go (pe_not (tE_pe X y)) fun _ => ia _ c env h _ _ (asBl_inv ea) G H σ s re _ fun G1 H1 v e1 s1 r1 l1 => ?_
      cases r1
      exact ⟨_, rfl, fun _ => p G1 H1 _ e1 s1 (.bl _) l1⟩
    · replace e := asBl_inv e
      simp only [evE] at e
      obtain ⟨b', h1, ea, e⟩ := R.bnd_inv e
      cases e
      refine PT.go (pt_not (tT_pt X y)) fun _ => ta _ c env h _ _ ea G H σ s re _ fun G1 H1 e1 s1 l1 => ?_
      exact fun _ => p G1 H1 e1 s1 l1
  · cases c
/-- a test of the plain kind -/
theorem st_val {e : E} {x : Expr} (ie : SE X CL Φ e x) (hp : ∀ whole, isTrue x X.env whole = (do let v ← whole; standAt x.pos; holding [v] (truthy v))) : ST X CL Φ e x := by
  intro env h h' b q G H σ s re Q p
  replace q := asBl_inv q
  refine PT.go (pt_val (tE_pe X x) hp) fun _ => ie env h _ _ q G H σ s re _ fun G1 H1 v e1 s1 r1 l1 => ?_
  cases r1
  exact ⟨_, rfl, fun _ => p G1 H1 e1 s1 l1⟩
/-- .. and, or: a test whatever the whole is -/
def SW (X : Cx) (CL : CLs) (Φ : FS) (e : E) (x : Expr) : Prop := ∀ (env : Env) (h h' : CH) (b : Bool), asBl (evE Φ e env h) = .ok b h' → ∀ (G : Gh) (H : Hp) (σ : List (Option V)), SR X.K CL G h H → RE X.K CL h.length G H env σ → ∀ Q : Bool → Hp → Prop, Pstb X CL G h H b h' Q → tW X x σ H Q
def isBo : E → Bool
  | .bo1 .. => true
  | .bo .. => true
  | _ => false
theorem SW.st {e : E} {x : Expr} (w : SW X CL Φ e x) : ST X CL Φ e x := fun env h h' b q G H σ s re Q p => PT.go (tW_pw X x).pt fun _ => w env h h' b q G H σ s re _ fun G1 H1 e1 s1 l1 _ => p G1 H1 e1 s1 l1
theorem se_bo1 {sc : Scope} {o : Bool} {a : E} {x : Expr} (ia : ∀ x, chkE L X.N sc a x = true → SE X CL Φ a x) (ta : ∀ x, chkE L X.N sc a x = true → ST X CL Φ a x) (c : chkE L X.N sc (.bo1 o a) x = true) : SE X CL Φ (.bo1 o a) x ∧ SW X CL Φ (.bo1 o a) x := by
  simp only [chkE] at c
  split at c
  · rename_i op y pos
    simp only [Bool.and_eq_true, decide_eq_true_eq] at c
    obtain ⟨rfl, c⟩ := c
    refine ⟨fun env h h' d e G H σ s re Q p => ?_, fun env h h' b e G H σ s re Q p => ?_⟩
    · simp only [evE] at e
      exact PE.go (pe_one (tE_pe X y)) fun _ => ia _ c env h _ _ e G H σ s re _ (p.imp fun _ _ q _ => q)
    · have e' : asBl (evE Φ a env h) = .ok b h' := by simpa only [evE] using e
      cases o with
      | true => exact PW.go (pw_and1 (tT_pt X y)) fun _ => ta _ c env h _ _ e' G H σ s re _ fun G1 H1 e1 s1 l1 _ => p G1 H1 e1 s1 l1
      | false => exact PW.go (pw_or1 (tT_pt X y)) fun _ => ta _ c env h _ _ e' G H σ s re _ fun G1 H1 e1 s1 l1 _ => p G1 H1 e1 s1 l1
  · cases c
theorem bo_inv {o : Bool} {a b : E} {env : Env} {h h' : CH} {d : D} (e : evE Φ (.bo o a b) env h = .ok d h') : ∃ x h1, asBl (evE Φ a env h) = .ok x h1 ∧ ((o == x) = true ∧ evE Φ b env h1 = .ok d h' ∨ (o == x) = false ∧ d = .bl x ∧ h' = h1) := by
  simp only [evE] at e
  obtain ⟨x, h1, ea, e⟩ := R.bnd_inv e
  refine ⟨x, h1, ea, ?_⟩
  cases q : (o == x) with
  | true => rw [q] at e; exact .inl ⟨rfl, e⟩
  | false => rw [q] at e; cases e; exact .inr ⟨rfl, rfl, rfl⟩
theorem se_bo {sc : Scope} {o : Bool} {a b : E} {x : Expr} (ia : ∀ x, chkE L X.N sc a x = true → SE X CL Φ a x) (ta : ∀ x, chkE L X.N sc a x = true → ST X CL Φ a x) (ib : ∀ x, chkE L X.N sc b x = true → SE X CL Φ b x) (wb : isBo b = true → ∀ x, chkE L X.N sc b x = true → SW X CL Φ b x) (hb : isBo b = true)
    (c : chkE L X.N sc (.bo o a b) x = true) : SE X CL Φ (.bo o a b) x ∧ SW X CL Φ (.bo o a b) x := by
  simp only [chkE] at c
  split at c
  · rename_i op y z r pos
    simp only [Bool.and_eq_true, decide_eq_true_eq] at c
    obtain ⟨rfl, c1, c2⟩ := c
    refine ⟨fun env h h' d e G H σ s re Q p => ?_, fun env h h' bb e G H σ s re Q p => ?_⟩
    · obtain ⟨xv, h1, ea, q⟩ := bo_inv e
      cases o with
      | true =>
        refine PE.go (pe_and (tE_pe X y) (tE_pe X _)) fun _ => ia _ c1 env h _ _ (asBl_inv ea) G H σ s re _ fun G1 H1 v e1 s1 r1 l1 => ?_
        cases r1
        refine ⟨xv, rfl, ?_⟩
        rcases q with ⟨q, eb⟩ | ⟨q, rfl, rfl⟩
        · have : xv = true := by simpa using q
          subst this
          rw [if_pos rfl]
          exact ib _ c2 env h1 _ _ eb G1 H1 σ s1 (re.ev s e1) _ ((p.from e1).imp fun _ _ q _ => q)
        · have : xv = false := by simpa using q
          subst this
          rw [if_neg (by simp)]
          exact fun _ => p G1 H1 _ e1 s1 (.bl _) l1
      | false =>
        refine PE.go (pe_or (tE_pe X y) (tE_pe X _)) fun _ => ia _ c1 env h _ _ (asBl_inv ea) G H σ s re _ fun G1 H1 v e1 s1 r1 l1 => ?_
        cases r1
        refine ⟨xv, rfl, ?_⟩
        rcases q with ⟨q, eb⟩ | ⟨q, rfl, rfl⟩
        · have : xv = false := by simpa using q
          subst this
          rw [if_neg (by simp)]
          exact ib _ c2 env h1 _ _ eb G1 H1 σ s1 (re.ev s e1) _ ((p.from e1).imp fun _ _ q _ => q)
        · have : xv = true := by simpa using q
          subst this
          rw [if_pos rfl]
          exact fun _ => p G1 H1 _ e1 s1 (.bl _) l1
    · replace e := asBl_inv e
      obtain ⟨xv, h1, ea, q⟩ := bo_inv e
      cases o with
      | true =>
        refine PW.go (pw_and (tT_pt X y) (tW_pw X _)) fun _ => ta _ c1 env h _ _ ea G H σ s re _ fun G1 H1 e1 s1 l1 => ?_
        rcases q with ⟨q, eb⟩ | ⟨q, q2, rfl⟩
        · have : xv = true := by simpa using q
          subst this
          rw [if_pos rfl]
          exact wb hb _ c2 env h1 _ _ (by rw [eb]; rfl) G1 H1 σ s1 (re.ev s e1) _ fun G2 H2 e2 s2 l2 _ => p G2 H2 (e1.trans e2) s2 l2
        · have : xv = false := by simpa using q
          subst this
          cases q2
          rw [if_neg (by simp)]
          exact fun _ => p G1 H1 e1 s1 l1
      | false =>
        refine PW.go (pw_or (tT_pt X y) (tW_pw X _)) fun _ => ta _ c1 env h _ _ ea G H σ s re _ fun G1 H1 e1 s1 l1 => ?_
        rcases q with ⟨q, eb⟩ | ⟨q, q2, rfl⟩
        · have : xv = false := by simpa using q
          subst this
          rw [if_neg (by simp)]
          exact wb hb _ c2 env h1 _ _ (by rw [eb]; rfl) G1 H1 σ s1 (re.ev s e1) _ fun G2 H2 e2 s2 l2 _ => p G2 H2 (e1.trans e2) s2 l2
        · have : xv = true := by simpa using q
          subst this
          cases q2
          rw [if_pos rfl]
          exact fun _ => p G1 H1 e1 s1 l1
  · cases c
theorem se_ife {sc : Scope} {t a b : E} {x : Expr} (tt : ∀ x, chkE L X.N sc t x = true → ST X CL Φ t x) (ia : ∀ x, chkE L X.N sc a x = true → SE X CL Φ a x) (ib : ∀ x, chkE L X.N sc b x = true → SE X CL Φ b x) (c : chkE L X.N sc (.ife t a b) x = true) : SE X CL Φ (.ife t a b) x := by
  simp only [chkE] at c
  split at c
  · rename_i y1 y2 y3 pos
    simp only [Bool.and_eq_true] at c
    obtain ⟨c1, c2, c3⟩ := c
    intro env h h' d e G H σ s re Q p
    simp only [evE] at e
    obtain ⟨xv, h1, ea, e⟩ := R.bnd_inv e
    refine PE.go (pe_ifExp (tT_pt X y1) (tE_pe X y2) (tE_pe X y3)) fun _ => tt _ c1 env h _ _ ea G H σ s re _ fun G1 H1 e1 s1 l1 => ?_
    cases xv with
    | true => exact ia _ c2 env h1 _ _ e G1 H1 σ s1 (re.ev s e1) _ ((p.from e1).imp fun _ _ q _ => q)
    | false => exact ib _ c3 env h1 _ _ e G1 H1 σ s1 (re.ev s e1) _ ((p.from e1).imp fun _ _ q _ => q)
  · cases c
/-! ### several -/
theorem ses_nil {sc : Scope} {xs : List Expr} (c : chkEs L X.N sc .nil xs = true) : SEs X CL Φ .nil xs := by
  simp only [chkEs, List.isEmpty_iff] at c
  subst c
  intro env h h' ds e G H σ s re Q p
  simp only [evEs, R.ok.injEq] at e
  obtain ⟨rfl, rfl⟩ := e
  exact PA.go pa_nil fun rl _ => p G H [] (EvR.refl _ _ _) s .nil rl
theorem ses_cons {sc : Scope} {e : E} {es : Es} {xs : List Expr} (ie : ∀ x, chkE L X.N sc e x = true → SE X CL Φ e x) (ies : ∀ x, chkEs L X.N sc es x = true → SEs X CL Φ es x) (c : chkEs L X.N sc (.cons e es) xs = true) : SEs X CL Φ (.cons e es) xs := by
  simp only [chkEs] at c
  split at c
  · rename_i x xs
    simp only [Bool.and_eq_true] at c
    intro env h h' ds q G H σ s re Q p
    simp only [evEs] at q
    obtain ⟨d, h1, ea, q⟩ := R.bnd_inv q
    obtain ⟨ds', h2, eb, q⟩ := R.bnd_inv q
    cases q
    refine PA.go (pa_cons (tE_pe X x) (tA_pa X xs) (chkE_star c.1 xs X.env)) fun _ => ie _ c.1 env h _ _ ea G H σ s re _ fun G1 H1 v e1 s1 r1 l1 => ?_
    refine ies _ c.2 env h1 _ _ eb G1 H1 σ s1 (re.ev s e1) _ fun G2 H2 vs e2 s2 r2 l2 => ?_
    exact fun _ => p G2 H2 _ (e1.trans e2) s2 (.cons (r1.ev s1 e2) r2) l2
  · cases c
theorem evEs_len : ∀ {es : Es} {env : Env} {h h' : CH} {ds : List D}, evEs Φ es env h = .ok ds h' → ds.length = es.len
  | .nil, env, h, h', ds, e => by
    simp only [evEs, R.ok.injEq] at e
    obtain ⟨rfl, _⟩ := e
    rfl
  | .cons a es, env, h, h', ds, e => by
    simp only [evEs] at e
    obtain ⟨d, h1, ea, e⟩ := R.bnd_inv e
    obtain ⟨ds', h2, eb, e⟩ := R.bnd_inv e
    cases e
    rw [List.length_cons, evEs_len eb]; rfl
theorem chkEs_len {N : List Str} {sc : Scope} : ∀ {es : Es} {xs : List Expr}, chkEs L N sc es xs = true → es.len = xs.length
  | .nil, xs, c => by
    simp only [chkEs, List.isEmpty_iff] at c
    subst c; rfl
  | .cons a es, [], c => by simp [chkEs] at c
  | .cons a es, x :: xs, c => by
    simp only [chkEs, Bool.and_eq_true] at c
    rw [List.length_cons, ← chkEs_len c.2]; rfl
theorem se_tup {sc : Scope} {es : Es} {x : Expr} (ies : ∀ x, chkEs L X.N sc es x = true → SEs X CL Φ es x) (c : chkE L X.N sc (.tup es) x = true) : SE X CL Φ (.tup es) x := by
  simp only [chkE] at c
  split at c
  · rename_i xs k' pos
    rw [Bool.and_eq_true] at c
    have hl := Nat.le_of_ble_eq_true c.1
    replace c := c.2
    intro env h h' d e G H σ s re Q p
    simp only [evE] at e
    obtain ⟨ds, h1, ea, e⟩ := R.bnd_inv e
    cases e
    refine PE.go (pe_tup (tA_pa X xs)) fun _ => ies _ c env h _ _ ea G H σ s re _ fun G1 H1 vs e1 s1 r1 l1 => ?_
    refine ⟨?_, fun a na rl => newT_ok s1 r1 (p.from e1) a na rl⟩
    rw [← r1.length, evEs_len ea]
    exact SZ_line (Nat.le_trans hl (by decide))
  · cases c
theorem se_lst {sc : Scope} {m : Bool} {es : Es} {x : Expr} (ies : ∀ x, chkEs L X.N sc es x = true → SEs X CL Φ es x) (c : chkE L X.N sc (.lst m es) x = true) : SE X CL Φ (.lst m es) x := by
  simp only [chkE] at c
  split at c
  · rename_i xs pos
    rw [Bool.and_eq_true] at c
    have hl := Nat.le_of_ble_eq_true c.1
    replace c := c.2
    intro env h h' d e G H σ s re Q p
    simp only [evE] at e
    obtain ⟨ds, h1, ea, e⟩ := R.bnd_inv e
    refine PE.go (pe_lst (tA_pa X xs)) fun _ => ies _ c env h _ _ ea G H σ s re _ fun G1 H1 vs e1 s1 r1 l1 => ?_
    refine ⟨?_, fun a na rl => newL_ok s1 e r1 (p.from e1) a na rl⟩
    rw [← r1.length, evEs_len ea]
    exact SZ_line (Nat.le_trans hl (by decide))
  · cases c
theorem se_ix {sc : Scope} {a i : E} {x : Expr} (ia : ∀ x, chkE L X.N sc a x = true → SE X CL Φ a x) (ii : ∀ x, chkE L X.N sc i x = true → SE X CL Φ i x) (c : chkE L X.N sc (.ix a i) x = true) : SE X CL Φ (.ix a i) x := by
  simp only [chkE] at c
  split at c
  · cases c
  · rename_i y z pos ns
    simp only [Bool.and_eq_true] at c
    intro env h h' d e G H σ s re Q p
    simp only [evE] at e
    obtain ⟨da, h1, ea, e⟩ := R.bnd_inv e
    obtain ⟨di, h2, ei, e⟩ := R.bnd_inv e
    have hs : PlainIx z := by
      intro o i
      cases z <;> first | rfl | exact absurd rfl (ns _ _ _ _)
    refine PE.go (pe_ix ix_seq (tE_pe X y) (tE_pe X z) hs) fun _ => ia _ c.1 env h _ _ ea G H σ s re _ fun G1 H1 v e1 s1 r1 l1 => ?_
    refine ii _ c.2 env h1 _ _ ei G1 H1 σ s1 (re.ev s e1) _ fun G2 H2 w e2 s2 r2 l2 => ?_
    unfold ixV at e
    split at e
    · rename_i ds kk e3
      split at e
      · rename_i d' e4
        cases e
        obtain ⟨p', vs, rfl, hq, rv⟩ := items_ok s2 e3 (r1.ev s1 e2)
        cases r2
        have at_ : ∃ v, atI vs kk = some v ∧ RV X.K CL h'.length G2 H2 d v := by
          have l := rv.length
          unfold ixD at e4
          unfold atI ixN
          by_cases h0 : 0 ≤ kk
          · rw [if_pos h0] at e4 ⊢
            obtain ⟨v, a1, a2⟩ := rv.get e4
            have lt := lt_of_get e4
            rw [if_pos (by omega)]
            exact ⟨v, a1, a2⟩
          · rw [if_neg h0] at e4 ⊢
            by_cases h3 : -(ds.length : Int) ≤ kk
            · rw [if_pos h3] at e4
              obtain ⟨v, a1, a2⟩ := rv.get e4
              rw [if_pos (by omega)]
              refine ⟨v, ?_, a2⟩
              show vs[(kk + vs.length).toNat]? = some v
              rw [← l]
              exact a1
            · rw [if_neg h3] at e4; cases e4
        obtain ⟨v, a1, a2⟩ := at_
        rcases hq with hq | hq
        · exact .inl ⟨_, vs, kk, v, rfl, rfl, hq, a1, fun _ => p G2 H2 v (e1.trans e2) s2 a2 l2⟩
        · exact .inr (.inl ⟨_, vs, kk, v, rfl, rfl, hq, a1, fun _ => p G2 H2 v (e1.trans e2) s2 a2 l2⟩)
      · cases e
    · cases e
  · cases c
end
end Z

end
section
/-! calls of built-ins, methods, slices -/
namespace Z
open PySem PySem.Spec L2
section
variable {L : LI} {X : Cx} {CL : CLs} {Φ : FS} {k : Nat}
/-- sum of a tuple of ints -/
theorem cr_sumT (hc : X.calm = true) : CallR X (.builtin "sum") (fun vs H Q => ∃ (a : Addr) (ns : List Int), vs = [V.ref a] ∧ SqT X.K H a (ns.map V.int) ∧ Q (.int ns.sum) H) := by
  intro pins s σ H vs us Q I r q
  obtain ⟨a, ns, rfl, ht, q⟩ := q
  obtain ⟨its, rv, tup, _⟩ := I.tuple ht
  rw [Vals.ref1 r]
  obtain ⟨xs, ex⟩ := rv.ints.allInts.items
  have en : numsOf (intItems xs).toList = ns := by rw [← ex]; exact rv.ints.numsOf
  rw [nums_intItems] at en
  rw [ex] at tup
  refine PySem.W.ktm_sumG (I.ok.hd hc) tup fun h' tk t' keep => ?_
  have es : PySem.preSum (PySem.numAt xs) xs.size = ns.sum := by
    rw [PySem.preSum_eq, List.take_of_length_le (by simp), en]
  rw [es]
  exact ⟨.int ns.sum, H, I.kept keep, ⟨_, rfl⟩, q⟩
/-- a call by values -/
def OkCall (X : Cx) (CL : CLs) (f : Value) (vs : List D) (h : CH) (d : D) (h' : CH) : Prop :=
  ∃ r : List V → Hp → VK → Prop, CallR X f r ∧ ∀ (G : Gh) (H : Hp) (xs : List V), SR X.K CL G h H → RVs X.K CL h.length G H vs xs → Rl X H → ∀ Q : VK, Pst X CL G h H d h' Q → r xs H fun v H' => Rl X H' → Q v H'
theorem minL_mem : ∀ (x : Int) (r : List Int), minL (x :: r) ∈ x :: r ∧ ∀ y ∈ x :: r, minL (x :: r) ≤ y
  | x, [] => by simp [minL]
  | x, y :: r => by
    obtain ⟨a, b⟩ := minL_mem y r
    refine ⟨?_, fun z hz => ?_⟩
    · simp only [minL]
      by_cases h : x ≤ minL (y :: r)
      · rw [Int.min_eq_left h]; exact List.mem_cons_self
      · rw [Int.min_eq_right (by omega)]; exact List.mem_cons_of_mem _ a
    · simp only [minL]
      rcases List.mem_cons.mp hz with rfl | hz
      · exact Int.min_le_left _ _
      · exact Int.le_trans (Int.min_le_right _ _) (b z hz)
theorem maxL_mem : ∀ (x : Int) (r : List Int), maxL (x :: r) ∈ x :: r ∧ ∀ y ∈ x :: r, y ≤ maxL (x :: r)
  | x, [] => by simp [maxL]
  | x, y :: r => by
    obtain ⟨a, b⟩ := maxL_mem y r
    refine ⟨?_, fun z hz => ?_⟩
    · simp only [maxL]
      by_cases h : minL (y :: r) ≤ x ∧ maxL (y :: r) ≤ x
      · rw [Int.max_eq_left h.2]; exact List.mem_cons_self
      · by_cases h2 : maxL (y :: r) ≤ x
        · rw [Int.max_eq_left h2]; exact List.mem_cons_self
        · rw [Int.max_eq_right (by omega)]; exact List.mem_cons_of_mem _ a
    · simp only [maxL]
      rcases List.mem_cons.mp hz with rfl | hz
      · exact Int.le_max_left _ _
      · exact Int.le_trans (b z hz) (Int.le_max_right _ _)
theorem insS_perm (x : Int) : ∀ r : List Int, (insS x r).Perm (x :: r)
  | [] => List.Perm.refl _
  | y :: r => by
    unfold insS
    split
    · exact List.Perm.refl _
    · exact ((insS_perm x r).cons y).trans (List.Perm.swap x y r)
theorem sortL_perm : ∀ r : List Int, (sortL r).Perm r
  | [] => List.Perm.refl _
  | x :: r => (insS_perm x _).trans ((sortL_perm r).cons x)
theorem insS_sorted (x : Int) : ∀ {r : List Int}, r.Pairwise (· ≤ ·) → (insS x r).Pairwise (· ≤ ·)
  | [], _ => by simp [insS]
  | y :: r, h => by
    unfold insS
    split
    · rename_i hx
      refine List.Pairwise.cons (fun z hz => ?_) h
      rcases List.mem_cons.mp hz with rfl | hz
      · exact hx
      · exact Int.le_trans hx (List.rel_of_pairwise_cons h hz)
    · rename_i hx
      refine List.Pairwise.cons (fun z hz => ?_) (insS_sorted x h.of_cons)
      rcases List.mem_cons.mp ((insS_perm x r).mem_iff.mp hz) with rfl | hz
      · omega
      · exact List.rel_of_pairwise_cons h hz
theorem sortL_sorted : ∀ r : List Int, (sortL r).Pairwise (· ≤ ·)
  | [] => List.Pairwise.nil
  | x :: r => insS_sorted x (sortL_sorted r)
theorem sorted_uniq {a b : List Int} (p : a.Perm b) (ha : a.Pairwise (· ≤ ·)) (hb : b.Pairwise (· ≤ ·)) : a = b := p.eq_of_pairwise (fun x y _ _ h1 h2 => Int.le_antisymm h1 h2) ha hb
theorem one_inv {x : D} {N : Nat} {G : Gh} {H : Hp} {xs : List V} (r : RVs X.K CL N G H [x] xs) : ∃ v, xs = [v] ∧ RV X.K CL N G H x v := by
  cases r with
  | cons a b => cases b; exact ⟨_, rfl, a⟩
theorem two_inv {x y : D} {N : Nat} {G : Gh} {H : Hp} {xs : List V} (r : RVs X.K CL N G H [x, y] xs) : ∃ v w, xs = [v, w] ∧ RV X.K CL N G H x v ∧ RV X.K CL N G H y w := by
  cases r with
  | cons a b => obtain ⟨w, rfl, c⟩ := one_inv b; exact ⟨_, w, rfl, a, c⟩
theorem one1_inv {vs : List D} {g : D → R D} {d : D} {h' : CH} (e : one1 vs g = .ok d h') : ∃ x, vs = [x] ∧ g x = .ok d h' := by
  unfold one1 at e
  split at e
  · exact ⟨_, rfl, e⟩
  · cases e
theorem two2_inv {vs : List D} {g : D → D → R D} {d : D} {h' : CH} (e : two2 vs g = .ok d h') : ∃ x y, vs = [x, y] ∧ g x y = .ok d h' := by
  unfold two2 at e
  split at e
  · exact ⟨_, _, rfl, e⟩
  · cases e
theorem intsIn_inv {x : D} {h : CH} {g : List Int → R D} {d : D} {h' : CH} (e : intsIn h x g = .ok d h') : ∃ ds ns, items h x = some ds ∧ intsOf ds = some ns ∧ g ns = .ok d h' := by
  unfold intsIn at e
  split at e
  · rename_i ds e1
    split at e
    · rename_i ns e2; exact ⟨ds, ns, e1, e2, e⟩
    · cases e
  · cases e
theorem intsL_inv {x : D} {h : CH} {g : List Int → R D} {d : D} {h' : CH} (e : intsL h x g = .ok d h') : ∃ ds ns, lstOf h x = some ds ∧ intsOf ds = some ns ∧ g ns = .ok d h' := by
  unfold intsL at e
  split at e
  · rename_i ds e1
    split at e
    · rename_i ns e2; exact ⟨ds, ns, e1, e2, e⟩
    · cases e
  · cases e
theorem blsL_inv {x : D} {h : CH} {g : List Bool → R D} {d : D} {h' : CH} (e : blsL h x g = .ok d h') : ∃ ds ns, lstOf h x = some ds ∧ blsOf ds = some ns ∧ g ns = .ok d h' := by
  unfold blsL at e
  split at e
  · rename_i ds e1
    split at e
    · rename_i ns e2; exact ⟨ds, ns, e1, e2, e⟩
    · cases e
  · cases e
/-- the built-in, as a value -/
def Bi.val : Bi → Value
  | .len => .builtin "len"
  | .sum => .builtin "sum"
  | .min => .builtin "min"
  | .max => .builtin "max"
  | .min2 => .builtin "min"
  | .max2 => .builtin "max"
  | .min3 => .builtin "min"
  | .abs => .builtin "abs"
  | .int => .type "int"
  | .list => .type "list"
  | .tuple => .type "tuple"
  | .sorted => .builtin "sorted"
  | .any => .builtin "any"
  | .all => .builtin "all"
theorem nuLt_int (i j : Int) : nuLt (V.int i) (V.int j) = some (decide (i < j)) := rfl
theorem min3_eq (i j k : Int) : nuMin3 (V.int i) (V.int j) (V.int k) = some (.int (min3 i j k)) := by
  unfold nuMin3 nuMin2 min3
  rw [nuLt_int]
  by_cases h : j < i
  · simp only [h, decide_true, Option.map_some, if_true, Option.bind_some]
    rw [nuLt_int]
    by_cases h2 : k < j <;> simp [h2]
  · simp only [h, decide_false, Option.map_some, Bool.false_eq_true, if_false, Option.bind_some]
    rw [nuLt_int]
    by_cases h2 : k < i <;> simp [h2]
theorem bi_ok (xc : XC L CL Φ k X) {f : Bi} {m : Bool} {vs : List D} {d : D} {h h' : CH} (e : biD f m vs h = .ok d h') : OkCall X CL f.val vs h d h' := by
  cases f with
  | len =>
    obtain ⟨x, rfl, e0⟩ := one1_inv e
    replace e := e0
    split at e
    · rename_i ds e1
      cases e
      refine ⟨_, call_len_seq, fun G H xs s r rl Q p => ?_⟩
      obtain ⟨v, rfl, rv⟩ := one_inv r
      obtain ⟨a, ws, rfl, hq, ra⟩ := items_ok s e1 rv
      refine ⟨a, ws, rfl, hq, fun _ => ?_⟩
      rw [← ra.length]
      exact p.here s (.int _) rl
    · cases e
  | sum =>
    obtain ⟨x, rfl, e0⟩ := one1_inv e
    replace e := e0
    obtain ⟨ds, ns, e1, e2, e⟩ := intsIn_inv e
    cases e
    refine ⟨_, L2.CallR.or (cr_sum xc.calm) (cr_sumT xc.calm), fun G H xs s r rl Q p => ?_⟩
    obtain ⟨v, rfl, rv⟩ := one_inv r
    obtain ⟨a, ws, rfl, hq, ra⟩ := items_ok s e1 rv
    have ew := ra.ints e2
    subst ew
    rcases hq with hq | hq
    · exact .inl ⟨a, ns, rfl, hq, fun _ => p.here s (.int _) rl⟩
    · exact .inr ⟨a, ns, rfl, hq, fun _ => p.here s (.int _) rl⟩
  | min =>
    obtain ⟨x, rfl, e0⟩ := one1_inv e
    replace e := e0
    obtain ⟨ds, ns, e1, e2, e⟩ := intsL_inv e
    split at e
    · cases e
    · rename_i n ns
      cases e
      refine ⟨_, cr_min xc.calm, fun G H xs s r rl Q p => ?_⟩
      obtain ⟨v, rfl, rv⟩ := one_inv r
      obtain ⟨a, ws, rfl, ha, ra⟩ := lst_ok s e1 rv
      have ew := ra.ints e2
      subst ew
      refine ⟨a, _, rfl, SqL.of ha, by simp, fun mm h1 h2 _ => ?_⟩
      obtain ⟨m1, m2⟩ := minL_mem n ns
      have em : mm = minL (n :: ns) := Int.le_antisymm (h2 _ m1) (m2 _ h1)
      subst em
      exact p.here s (.int _) rl
  | max =>
    obtain ⟨x, rfl, e0⟩ := one1_inv e
    replace e := e0
    obtain ⟨ds, ns, e1, e2, e⟩ := intsL_inv e
    split at e
    · cases e
    · rename_i n ns
      cases e
      refine ⟨_, cr_max xc.calm, fun G H xs s r rl Q p => ?_⟩
      obtain ⟨v, rfl, rv⟩ := one_inv r
      obtain ⟨a, ws, rfl, ha, ra⟩ := lst_ok s e1 rv
      have ew := ra.ints e2
      subst ew
      refine ⟨a, _, rfl, SqL.of ha, by simp, fun mm h1 h2 _ => ?_⟩
      obtain ⟨m1, m2⟩ := maxL_mem n ns
      have em : mm = maxL (n :: ns) := Int.le_antisymm (m2 _ h1) (h2 _ m1)
      subst em
      exact p.here s (.int _) rl
  | min2 =>
    obtain ⟨x, y, rfl, e0⟩ := two2_inv e
    replace e := e0
    split at e
    · cases e
      refine ⟨_, call_min2 xc.calm, fun G H xs s r rl Q p => ?_⟩
      obtain ⟨v, w, rfl, rv, rw⟩ := two_inv r
      cases rv
      cases rw
      exact ⟨_, _, rfl, fun _ => p.here s (.int _) rl⟩
    · cases e
  | max2 =>
    obtain ⟨x, y, rfl, e0⟩ := two2_inv e
    replace e := e0
    split at e
    · cases e
      refine ⟨_, call_max2 xc.calm, fun G H xs s r rl Q p => ?_⟩
      obtain ⟨v, w, rfl, rv, rw⟩ := two_inv r
      cases rv
      cases rw
      exact ⟨_, _, rfl, fun _ => p.here s (.int _) rl⟩
    · cases e
  | min3 =>
    have e0 : (match vs with
      | [D.int i, D.int j, D.int k] => R.ok (D.int (min3 i j k)) h
      | _ => .no) = .ok d h' := e
    split at e0
    · rename_i i j k
      cases e0
      refine ⟨_, call_min3Nu xc.calm, fun G H xs s r rl Q p => ?_⟩
      cases r with
      | cons a r =>
        cases a
        cases r with
        | cons b r =>
          cases b
          cases r with
          | cons c r =>
            cases c
            cases r
            refine ⟨_, _, _, _, rfl, min3_eq i j k, fun _ => p.here s (.int _) rl⟩
    · cases e0
  | abs =>
    obtain ⟨x, rfl, e0⟩ := one1_inv e
    replace e := e0
    split at e
    · cases e
      refine ⟨_, call_abs, fun G H xs s r rl Q p => ?_⟩
      obtain ⟨v, rfl, rv⟩ := one_inv r
      cases rv
      exact ⟨_, rfl, fun _ => p.here s (.int _) rl⟩
    · cases e
  | int =>
    obtain ⟨x, rfl, e0⟩ := one1_inv e
    replace e := e0
    split at e
    · cases e
      refine ⟨_, call_int1, fun G H xs s r rl Q p => ?_⟩
      obtain ⟨v, rfl, rv⟩ := one_inv r
      cases rv
      exact .inl ⟨_, rfl, fun _ => p.here s (.int _) rl⟩
    · cases e
      refine ⟨_, call_int1, fun G H xs s r rl Q p => ?_⟩
      obtain ⟨v, rfl, rv⟩ := one_inv r
      cases rv
      exact .inr ⟨_, rfl, fun _ => p.here s (.int _) rl⟩
    · cases e
  | list =>
    obtain ⟨x, rfl, e0⟩ := one1_inv e
    replace e := e0
    split at e
    · rename_i ds e1
      refine ⟨_, call_list_of, fun G H xs s r rl Q p => ?_⟩
      obtain ⟨v, rfl, rv⟩ := one_inv r
      obtain ⟨a, ws, rfl, hq, ra⟩ := items_ok s e1 rv
      exact ⟨a, ws, rfl, hq, fun l nl rl' => newL_ok s e ra p l nl rl'⟩
    · cases e
  | tuple =>
    obtain ⟨x, rfl, e0⟩ := one1_inv e
    replace e := e0
    split at e
    · rename_i ds e1
      cases e
      refine ⟨_, call_tuple_of, fun G H xs s r rl Q p => ?_⟩
      obtain ⟨v, rfl, rv⟩ := one_inv r
      obtain ⟨a, ws, rfl, hq, ra⟩ := items_ok s e1 rv
      rcases hq with hq | hq
      · exact ⟨a, ws, rfl, .inl ⟨hq, fun l nl rl' => newT_ok s ra p l nl rl'⟩⟩
      · exact ⟨a, ws, rfl, .inr ⟨hq, fun _ => p.here s (.tup hq ra) rl⟩⟩
    · cases e
  | sorted =>
    obtain ⟨x, rfl, e0⟩ := one1_inv e
    replace e := e0
    obtain ⟨ds, ns, e1, e2, e⟩ := intsIn_inv e
    refine ⟨_, cr_sortedLT, fun G H xs s r rl Q p => ?_⟩
    obtain ⟨v, rfl, rv⟩ := one_inv r
    obtain ⟨a, ws, rfl, hq, ra⟩ := items_ok s e1 rv
    have ew := ra.ints e2
    subst ew
    refine ⟨a, ns, rfl, hq, fun ns' l pm sd nl rl' => ?_⟩
    have en : ns' = sortL ns := sorted_uniq (pm.trans (sortL_perm ns).symm) sd (sortL_sorted ns)
    subst en
    exact newL_ok s e (RVs.ofInts _) p l nl rl'
  | any =>
    obtain ⟨x, rfl, e0⟩ := one1_inv e
    replace e := e0
    obtain ⟨ds, ns, e1, e2, e⟩ := blsL_inv e
    cases e
    refine ⟨_, cr_any xc.calm, fun G H xs s r rl Q p => ?_⟩
    obtain ⟨v, rfl, rv⟩ := one_inv r
    obtain ⟨a, ws, rfl, ha, ra⟩ := lst_ok s e1 rv
    have ew := ra.bls e2
    subst ew
    exact ⟨a, ns, rfl, SqL.of ha, fun _ => p.here s (.bl _) rl⟩
  | all =>
    obtain ⟨x, rfl, e0⟩ := one1_inv e
    replace e := e0
    obtain ⟨ds, ns, e1, e2, e⟩ := blsL_inv e
    cases e
    refine ⟨_, cr_all xc.calm, fun G H xs s r rl Q p => ?_⟩
    obtain ⟨v, rfl, rv⟩ := one_inv r
    obtain ⟨a, ws, rfl, ha, ra⟩ := lst_ok s e1 rv
    have ew := ra.bls e2
    subst ew
    exact ⟨a, ns, rfl, SqL.of ha, fun _ => p.here s (.bl _) rl⟩
theorem gl_ok {sc : Scope} {g : Str} (hs : X.env.scope = sc) (c : glB sc g = true) : Gl X g := by
  unfold glB at c
  unfold Gl
  show X.env.scope.names.lookup g = _
  rw [hs]
  exact of_decide_eq_true c
theorem backTo_plain {pos : Pos} : ∀ {es : Es} {xs : List Expr} {N : List Str} {sc : Scope} {env : PySem.Env}, chkEs L N sc es xs = true → (backTo pos (starEach xs env)).any (·.1) = false
  | .nil, xs, _, _, _, c => by
    simp only [chkEs, List.isEmpty_iff] at c
    subst c; rfl
  | .cons e es, [], _, _, _, c => by simp [chkEs] at c
  | .cons e es, x :: xs, N, sc, env, c => by
    simp only [chkEs, Bool.and_eq_true] at c
    rw [chkE_star c.1]
    show (false || (backTo pos (starEach xs env)).any (·.1)) = false
    rw [backTo_plain c.2]; rfl
theorem args_star {es : Es} {y : Expr} {ys : List Expr} {N : List Str} {sc : Scope} (c : chkEs L N sc es (y :: ys) = true) (env : PySem.Env) (pos : Pos) : starEach (y :: ys) env = (false, eval y env) :: starEach ys env ∧ (backTo pos (starEach ys env)).any (·.1) = false := by
  cases es with
  | nil => simp [chkEs] at c
  | cons e es =>
    simp only [chkEs, Bool.and_eq_true] at c
    exact ⟨chkE_star c.1 ys env, backTo_plain c.2⟩
theorem se_bi (xc : XC L CL Φ k X) {sc : Scope} (hs : X.env.scope = sc) {f : Bi} {m : Bool} {es : Es} {x : Expr} (ies : ∀ x, chkEs L X.N sc es x = true → SEs X CL Φ es x) (c : chkE L X.N sc (.bi f m es) x = true) : SE X CL Φ (.bi f m es) x := by
  simp only [chkE] at c
  split at c
  · rename_i g gp y ys pos
    simp only [Bool.and_eq_true, decide_eq_true_eq] at c
    obtain ⟨rfl, c1, c2, c3, c4⟩ := c
    intro env h h' d e G H σ s re Q p
    simp only [evE] at e
    obtain ⟨ds, h1, ea, e⟩ := R.bnd_inv e
    obtain ⟨r, hr, go⟩ := bi_ok (X := X) (CL := CL) xc e
    obtain ⟨st1, st2⟩ := args_star c4 X.env pos
    have hm := xc.bi _ c3
    have gl := gl_ok hs c2
    have fin : tCB r (tA X (y :: ys)) σ H fun v H' => Rl X H' → Q v H' :=
      ies _ c4 env h _ _ ea G H σ s re _ fun G1 H1 vs e1 s1 r1 l1 => go G1 H1 vs s1 r1 l1 Q (p.from e1)
    cases f with
    | len => exact PE.go (pe_callB hr gl hm PySem.boot_len (tA_pa X _) (by decide) (by decide) st1 st2) fun _ => fin
    | sum => exact PE.go (pe_callB hr gl hm PyProof.Rows.boot_sum (tA_pa X _) (by decide) (by decide) st1 st2) fun _ => fin
    | min => exact PE.go (pe_callB hr gl hm PyProof.Rows.boot_min (tA_pa X _) (by decide) (by decide) st1 st2) fun _ => fin
    | max => exact PE.go (pe_callB hr gl hm PyProof.Rows.boot_max (tA_pa X _) (by decide) (by decide) st1 st2) fun _ => fin
    | min2 => exact PE.go (pe_callB hr gl hm PyProof.Rows.boot_min (tA_pa X _) (by decide) (by decide) st1 st2) fun _ => fin
    | max2 => exact PE.go (pe_callB hr gl hm PyProof.Rows.boot_max (tA_pa X _) (by decide) (by decide) st1 st2) fun _ => fin
    | min3 => exact PE.go (pe_callB hr gl hm PyProof.Rows.boot_min (tA_pa X _) (by decide) (by decide) st1 st2) fun _ => fin
    | abs => exact PE.go (pe_callB hr gl hm PyProof.Rows.boot_abs (tA_pa X _) (by decide) (by decide) st1 st2) fun _ => fin
    | int => exact PE.go (pe_callTy hr gl hm PyProof.Rows.boot_int (tA_pa X _) (by decide) (by decide) st1 st2) fun _ => fin
    | list => exact PE.go (pe_callTy hr gl hm PyProof.Rows.boot_list (tA_pa X _) (by decide) (by decide) st1 st2) fun _ => fin
    | tuple => exact PE.go (pe_callTy hr gl hm PyProof.Rows.boot_tuple (tA_pa X _) (by decide) (by decide) st1 st2) fun _ => fin
    | sorted => exact PE.go (pe_callB hr gl hm PyProof.Rows.boot_sorted (tA_pa X _) (by decide) (by decide) st1 st2) fun _ => fin
    | any => exact PE.go (pe_callB hr gl hm PyProof.Rows.boot_any (tA_pa X _) (by decide) (by decide) st1 st2) fun _ => fin
    | all => exact PE.go (pe_callB hr gl hm PyProof.Rows.boot_all (tA_pa X _) (by decide) (by decide) st1 st2) fun _ => fin
  · cases c
end
end Z

end
section
/-! methods of lists, isinstance, slices -/
namespace Z
open PySem PySem.Spec L2
section
variable {L : LI} {X : Cx} {CL : CLs} {Φ : FS} {k : Nat}
/-- a method by values -/
def OkMth (X : Cx) (CL : CLs) (id : String) (x : D) (vs : List D) (h : CH) (d : D) (h' : CH) : Prop :=
  ∃ r : V → List V → Hp → VK → Prop, MtR X id r ∧ ∀ (G : Gh) (H : Hp) (v : V) (xs : List V), SR X.K CL G h H → RV X.K CL h.length G H x v → RVs X.K CL h.length G H vs xs → Rl X H → ∀ Q : VK, Pst X CL G h H d h' Q → r v xs H fun v H' => Rl X H' → Q v H'
theorem onCell_inv {x : D} {h : CH} {g : Nat → List D → R D} {d : D} {h' : CH} (e : onCell x h g = .ok d h') : ∃ n ds, x = .cell n ∧ h[n]? = some (.lst ds) ∧ g n ds = .ok d h' := by
  unfold onCell at e
  split at e
  · rename_i n
    split at e
    · rename_i ds q; exact ⟨n, ds, rfl, q, e⟩
    · cases e
  · cases e
theorem cell_at {G : Gh} {h : CH} {H : Hp} {n : Nat} {ds : List D} {v : V} (s : SR X.K CL G h H) (q : h[n]? = some (.lst ds)) (r : RV X.K CL h.length G H (.cell n) v) : v = .ref (G.φ n) ∧ ∃ vs, H (G.φ n) = some (.lst vs) ∧ RVs X.K CL h.length G H ds vs := by
  cases r with
  | cell l =>
    obtain ⟨_, vs, a, b⟩ := s.cell n _ q
    exact ⟨rfl, vs, a, b⟩
/-- a store into a list that is a cell -/
theorem store_lst {G : Gh} {h : CH} {H : Hp} {n : Nat} {ds es : List D} {ws : List V} (s : SR X.K CL G h H) (q : h[n]? = some (.lst ds)) (r : RVs X.K CL h.length G H es ws) :
    SR X.K CL G (h.set n (.lst es)) (upd H (G.φ n) (.lst ws)) ∧ EvR G h H G (h.set n (.lst es)) (upd H (G.φ n) (.lst ws)) :=
  s.setCell q rfl rfl fun H' _ e nf k1 _ => ⟨nf, ws, e, k1 r⟩
theorem set_len {h : CH} {n : Nat} {c : Cell} : (h.set n c).length = h.length := by simp
theorem findD_ok {N : Nat} {G : Gh} {H : Hp} {y : D} {w : V} (fy : flatD y = true) (ry : RV X.K CL N G H y w) : ∀ {ds : List D} {vs : List V} {j : Nat}, ds.all flatD = true → RVs X.K CL N G H ds vs → findD y ds = some j → ∃ z, vs[j]? = some z ∧ eqV z w = true ∧ ∀ (m : Nat) (z' : V), m < j → vs[m]? = some z' → eqV z' w = false
  | [], _, _, _, _, e => by simp [findD] at e
  | d :: ds, _, j, f, .cons a b, e => by
    rw [List.all_cons, Bool.and_eq_true] at f
    unfold findD at e
    have q := eqF_ok f.1 fy a ry
    split at e
    · rename_i ht
      cases e
      exact ⟨_, rfl, by rw [q]; exact ht, fun m z' hm => absurd hm (Nat.not_lt_zero _)⟩
    · rename_i hn
      simp only [Option.map_eq_some_iff] at e
      obtain ⟨i, e1, rfl⟩ := e
      obtain ⟨z, z1, z2, z3⟩ := findD_ok fy ry f.2 b e1
      refine ⟨z, z1, z2, fun m z' hm hz => ?_⟩
      cases m with
      | zero =>
        simp at hz
        subst hz
        rw [q]
        simpa using hn
      | succ m => exact z3 m z' (by omega) hz
def Mt.id : Mt → String
  | .append => "list.append"
  | .pop => "list.pop"
  | .popAt => "list.pop"
  | .insert => "list.insert"
  | .reverse => "list.reverse"
  | .index => "list.index"
theorem mth_ok {f : Mt} {x : D} {vs : List D} {d : D} {h h' : CH} (e : mthD f x vs h = .ok d h') : OkMth X CL f.id x vs h d h' := by
  cases f with
  | append =>
    obtain ⟨n, ds, rfl, q, e0⟩ := onCell_inv e
    obtain ⟨y, rfl, e1⟩ := one1_inv e0
    split at e1
    · rename_i hl
      cases e1
      refine ⟨rAppend, mt_append, fun G H v xs s rv rs rl Q p => ?_⟩
      obtain ⟨rfl, ws, hH, rw⟩ := cell_at s q rv
      obtain ⟨w, rfl, ry⟩ := one_inv rs
      obtain ⟨s1, e1⟩ := store_lst s q (rw.append (.cons ry .nil))
      refine ⟨_, ws, w, rfl, rfl, hH, by rw [← rw.length]; exact SZ_lt hl, fun rl' => p _ _ _ e1 s1 .non rl'⟩
    · cases e1
  | pop =>
    obtain ⟨n, ds, rfl, q, e0⟩ := onCell_inv e
    split at e0
    · split at e0
      · rename_i y hy
        cases e0
        refine ⟨rPop, mt_pop, fun G H v xs s rv rs rl Q p => ?_⟩
        obtain ⟨rfl, ws, hH, rw⟩ := cell_at s q rv
        cases rs
        obtain ⟨w, hw, ry⟩ := rw.get hy
        obtain ⟨s1, e1⟩ := store_lst s q rw.dropLast
        refine ⟨_, ws, w, rfl, rfl, hH, by rw [← rw.length]; exact hw, fun rl' => p _ _ _ e1 s1 (ry.ev s e1) rl'⟩
      · cases e0
    · cases e0
  | popAt =>
    obtain ⟨n, ds, rfl, q, e0⟩ := onCell_inv e
    obtain ⟨y, rfl, e1⟩ := one1_inv e0
    split at e1
    · rename_i i
      split at e1
      · rename_i hb
        split at e1
        · rename_i y hy
          cases e1
          refine ⟨rPopAt, mt_popAt, fun G H v xs s rv rs rl Q p => ?_⟩
          obtain ⟨rfl, ws, hH, rw⟩ := cell_at s q rv
          obtain ⟨u, rfl, ru⟩ := one_inv rs
          cases ru
          obtain ⟨w, hw, ry⟩ := rw.get hy
          obtain ⟨s1, e1⟩ := store_lst s q (rw.eraseIdx i.toNat)
          have lt := lt_of_get hw
          have hz : i < 1000000 := by have := hb.2; unfold SZ at this; exact this
          have sq : seqIndex? i ws.length = some i.toNat := by
            have ix : ixN ws.length i = some i.toNat := by
              unfold ixN
              rw [if_pos hb.1, if_pos (by omega)]
            exact (ixN_seq ix).1
          exact ⟨_, ws, i, i.toNat, w, rfl, rfl, hH, by omega, by omega, sq, hw, fun rl' => p _ _ _ e1 s1 (ry.ev s e1) rl'⟩
        · cases e1
      · cases e1
    · cases e1
  | insert =>
    obtain ⟨n, ds, rfl, q, e0⟩ := onCell_inv e
    obtain ⟨y0, y, rfl, e1⟩ := two2_inv e0
    split at e1
    · rename_i i
      split at e1
      · rename_i hb
        cases e1
        refine ⟨_, mt_insert, fun G H v xs s rv rs rl Q p => ?_⟩
        obtain ⟨rfl, ws, hH, rw⟩ := cell_at s q rv
        obtain ⟨u, w, rfl, ru, ry⟩ := two_inv rs
        cases ru
        obtain ⟨s1, e1⟩ := store_lst s q (((rw.take i.toNat).append (.cons ry .nil)).append (rw.drop i.toNat))
        have hz : i < 1000000 := by have := hb.2.2; unfold SZ at this; exact this
        exact ⟨_, ws, i, w, rfl, rfl, hH, by rw [← rw.length]; exact SZ_lt hb.1, hb.2.1, by omega, fun rl' => p _ _ _ e1 s1 .non rl'⟩
      · cases e1
    · cases e1
  | reverse =>
    obtain ⟨n, ds, rfl, q, e0⟩ := onCell_inv e
    split at e0
    · cases e0
      refine ⟨rReverse, mt_reverse, fun G H v xs s rv rs rl Q p => ?_⟩
      obtain ⟨rfl, ws, hH, rw⟩ := cell_at s q rv
      cases rs
      obtain ⟨s1, e1⟩ := store_lst s q rw.reverse
      exact ⟨_, ws, rfl, rfl, hH, fun rl' => p _ _ _ e1 s1 .non rl'⟩
    · cases e0
  | index =>
    obtain ⟨y, rfl, e0⟩ := one1_inv e
    split at e0
    · rename_i ds e1
      split at e0
      · rename_i hf
        rw [Bool.and_eq_true] at hf
        split at e0
        · rename_i j e2
          cases e0
          refine ⟨_, mt_index, fun G H v xs s rv rs rl Q p => ?_⟩
          obtain ⟨a, ws, rfl, hq, rw⟩ := lst_ok s e1 rv
          obtain ⟨w, rfl, ry⟩ := one_inv rs
          obtain ⟨z, z1, z2, z3⟩ := findD_ok hf.1 ry hf.2 rw e2
          exact ⟨a, ws, w, j, z, rfl, rfl, SqL.of hq, flat_ok hf.1 ry, flats_ok hf.2 rw, z1, z2, z3, fun _ => p.here s (.int _) rl⟩
        · cases e0
      · cases e0
    · cases e0

/-- the receiver is a list -/
theorem mth_lst {f : Mt} {x : D} {vs : List D} {d : D} {h h' : CH} (e : mthD f x vs h = .ok d h') : ∃ ds, lstOf h x = some ds := by
  cases f with
  | index =>
    obtain ⟨y, rfl, e0⟩ := one1_inv e
    split at e0
    · rename_i ds e1; exact ⟨ds, e1⟩
    · cases e0
  | _ =>
    obtain ⟨n, ds, rfl, q, e0⟩ := onCell_inv e
    exact ⟨ds, by simp [lstOf, q]⟩
theorem base_plain {y : Expr} {m : Str} {env : PySem.Env} (h : (match y with
    | .Call .. => false
    | _ => true) = true) : attributeBase y m env (eval y env) = eval y env := by
  cases y <;> first | rfl | cases h
/-- the receiver's evaluation tells that it is a list (also before the arguments) -/
theorem tyV_lst {N : Nat} {G : Gh} {h : CH} {H : Hp} {x : D} {v : V} {ds : List D} (s : SR X.K CL G h H) (e : lstOf h x = some ds) (r : RV X.K CL h.length G H x v) : tyV X.K "list" v H := by
  obtain ⟨a, vs, rfl, ha, _⟩ := lst_ok s e r
  exact .inl ⟨rfl, vs, SqL.of ha⟩
/-- a list is a list ahead, too -/
def isLst (h : CH) (x : D) : Bool := (lstOf h x).isSome
theorem se_mth {sc : Scope} {f : Mt} {o : E} {es : Es} {x : Expr} (io : ∀ x, chkE L X.N sc o x = true → SE X CL Φ o x) (ies : ∀ x, chkEs L X.N sc es x = true → SEs X CL Φ es x) (c : chkE L X.N sc (.mth o f es) x = true) : SE X CL Φ (.mth o f es) x := by
  simp only [chkE] at c
  split at c
  · rename_i y m ap ys cp
    simp only [Bool.and_eq_true, decide_eq_true_eq] at c
    obtain ⟨rfl, c1, c2, c3, c4, c5⟩ := c
    intro env h h' d e G H σ s re Q p
    simp only [evE] at e
    obtain ⟨dx, h1, ex, e⟩ := R.bnd_inv e
    obtain ⟨ds, h2, ea, e⟩ := R.bnd_inv e
    split at e
    · rename_i hl
      obtain ⟨ls, hl⟩ := Option.isSome_iff_exists.mp hl
      obtain ⟨r, hr, go⟩ := mth_ok (X := X) (CL := CL) e
      have hbase := base_plain (m := f.name) (env := X.env) c5
      cases ys with
      | nil =>
        cases es with
        | cons _ _ => simp [chkEs] at c2
        | nil =>
          simp only [evEs, R.ok.injEq] at ea
          obtain ⟨rfl, rfl⟩ := ea
          have fin : ∀ T, T = "list" → tBM0 X.K T r (tE X y) σ H fun v H' => Rl X H' → Q v H' := fun T hT => by
            subst hT
            exact io _ c1 env h _ _ ex G H σ s re _ fun G1 H1 v e1 s1 r1 l1 => ⟨tyV_lst (N := 0) s1 hl r1, go G1 H1 v [] s1 r1 .nil l1 Q (p.from e1)⟩
          cases f with
          | append => exact PE.go (pe_bm0 PySem.F.plainAttrs_list PySem.F.slot_list_append PySem.F.type_list_append hr (tE_pe X y) hbase c4) fun _ => fin _ rfl
          | pop => exact PE.go (pe_bm0 PySem.F.plainAttrs_list PySem.F.slot_list_pop PySem.F.type_list_pop hr (tE_pe X y) hbase c4) fun _ => fin _ rfl
          | popAt => exact PE.go (pe_bm0 PySem.F.plainAttrs_list PySem.F.slot_list_pop PySem.F.type_list_pop hr (tE_pe X y) hbase c4) fun _ => fin _ rfl
          | insert => exact PE.go (pe_bm0 PySem.F.plainAttrs_list PySem.F.slot_list_insert PySem.F.type_list_insert hr (tE_pe X y) hbase c4) fun _ => fin _ rfl
          | reverse => exact PE.go (pe_bm0 PySem.F.plainAttrs_list PySem.F.slot_list_reverse PySem.F.type_list_reverse hr (tE_pe X y) hbase c4) fun _ => fin _ rfl
          | index => exact PE.go (pe_bm0 PySem.F.plainAttrs_list PySem.F.slot_list_index PySem.F.type_list_index hr (tE_pe X y) hbase c4) fun _ => fin _ rfl
      | cons z zs =>
        obtain ⟨st1, st2⟩ := args_star c2 X.env cp
        have hfew : ((backTo cp (starEach (z :: zs) X.env)).all (fun x => !x.1) && (backToKw cp (keywordEach [] X.env)).all (fun x => x.1.isSome)
            && decide ((z :: zs).length + ([] : List Keyword).length + (if ([] : List Keyword).isEmpty then 0 else 1) < 30)) = true := by
          have a1 : (backTo cp (starEach (z :: zs) X.env)).all (fun x => !x.1) = true := by
            have b := backTo_plain (pos := cp) (env := X.env) c2
            rw [List.any_eq_false] at b
            rw [List.all_eq_true]
            intro w hw
            have := b w hw
            simpa using this
          rw [a1]
          show (true && true && decide (_ < 30)) = true
          rw [Bool.true_and, Bool.true_and, decide_eq_true_eq]
          have : (z :: zs).length ≤ 2 := c3
          show (z :: zs).length + 0 + 0 < 30
          omega
        have fin : ∀ T, T = "list" → tBM X.K T r (tE X y) (tA X (z :: zs)) σ H fun v H' => Rl X H' → Q v H' := fun T hT => by
          subst hT
          refine io _ c1 env h _ _ ex G H σ s re _ fun G1 H1 v e1 s1 r1 l1 => ⟨tyV_lst (N := 0) s1 hl r1, ?_⟩
          refine ies _ c2 env h1 _ _ ea G1 H1 σ s1 (re.ev s e1) _ fun G2 H2 vs e2 s2 r2 l2 => ?_
          exact go G2 H2 v vs s2 (r1.ev s1 e2) r2 l2 Q (p.from (e1.trans e2))
        cases f with
        | append => exact PE.go (pe_bm PySem.F.plainAttrs_list PySem.F.slot_list_append PySem.F.type_list_append hr (tE_pe X y) (tA_pa X _) hbase hfew c4 st1 st2) fun _ => fin _ rfl
        | pop => exact PE.go (pe_bm PySem.F.plainAttrs_list PySem.F.slot_list_pop PySem.F.type_list_pop hr (tE_pe X y) (tA_pa X _) hbase hfew c4 st1 st2) fun _ => fin _ rfl
        | popAt => exact PE.go (pe_bm PySem.F.plainAttrs_list PySem.F.slot_list_pop PySem.F.type_list_pop hr (tE_pe X y) (tA_pa X _) hbase hfew c4 st1 st2) fun _ => fin _ rfl
        | insert => exact PE.go (pe_bm PySem.F.plainAttrs_list PySem.F.slot_list_insert PySem.F.type_list_insert hr (tE_pe X y) (tA_pa X _) hbase hfew c4 st1 st2) fun _ => fin _ rfl
        | reverse => exact PE.go (pe_bm PySem.F.plainAttrs_list PySem.F.slot_list_reverse PySem.F.type_list_reverse hr (tE_pe X y) (tA_pa X _) hbase hfew c4 st1 st2) fun _ => fin _ rfl
        | index => exact PE.go (pe_bm PySem.F.plainAttrs_list PySem.F.slot_list_index PySem.F.type_list_index hr (tE_pe X y) (tA_pa X _) hbase hfew c4 st1 st2) fun _ => fin _ rfl
    · cases e
  · cases c
/-! ### slices -/
/-- a slice's part -/
def tO (X : Cx) (x : Option Expr) : TO := fun σ H Q => ∀ pins s, Inv X pins σ H s → wpAny (model X.prog X.w) X.A (evalPart x X.env) (fun v s' => ∃ o H', Inv X pins σ H' s' ∧ IsPart v o ∧ Q o H') X.xe s
theorem tO_po (X : Cx) (x : Option Expr) : PO X x (tO X x) := ⟨fun pins s σ H Q I h => h pins s I⟩
def SO (X : Cx) (CL : CLs) (Φ : FS) (e : Oe) (x : Option Expr) : Prop := ∀ (env : Env) (h h' : CH) (o : Option Int), evO Φ e env h = .ok o h' → ∀ (G : Gh) (H : Hp) (σ : List (Option V)), SR X.K CL G h H → RE X.K CL h.length G H env σ → ∀ Q : Option Int → Hp → Prop, (∀ G' H', EvR G h H G' h' H' → SR X.K CL G' h' H' → Rl X H' → Q o H') → tO X x σ H Q
theorem PO.go {x : Option Expr} {t : TO} (p : PO X x t) {σ : List (Option V)} {H : Hp} {Q : Option Int → Hp → Prop} (h : Rl X H → t σ H fun v H' => Rl X H' → Q v H') : tO X x σ H Q := fun pins s I =>
  thn (p.run pins s σ H _ I (h (rl_of I))) fun u s' ⟨o, H', I', r, q⟩ => ⟨o, H', I', r, q (rl_of I')⟩
theorem so_none {sc : Scope} {x : Option Expr} (c : chkO L X.N sc .none x = true) : SO X CL Φ .none x := by
  simp only [chkO, Option.isNone_iff_eq_none] at c
  subst c
  intro env h h' o e G H σ s re Q p
  simp only [evO, R.ok.injEq] at e
  obtain ⟨rfl, rfl⟩ := e
  exact PO.go po_none fun rl _ => p G H (EvR.refl _ _ _) s rl
theorem so_some {sc : Scope} {a : E} {x : Option Expr} (ia : ∀ x, chkE L X.N sc a x = true → SE X CL Φ a x) (c : chkO L X.N sc (.some a) x = true) : SO X CL Φ (.some a) x := by
  simp only [chkO] at c
  split at c
  · rename_i y
    intro env h h' o e G H σ s re Q p
    simp only [evO] at e
    obtain ⟨d, h1, ea, e⟩ := R.bnd_inv e
    split at e
    · rename_i i
      cases e
      refine PO.go (po_some (tE_pe X y)) fun _ => ia _ c env h _ _ ea G H σ s re _ fun G1 H1 v e1 s1 r1 l1 => ?_
      cases r1
      exact ⟨i, rfl, fun _ => p G1 H1 e1 s1 l1⟩
    · cases e
  · cases c
theorem RVs.cut {N : Nat} {G : Gh} {H : Hp} {ds : List D} {vs : List V} (r : RVs X.K CL N G H ds vs) (lo hi : Option Int) : RVs X.K CL N G H (sliceD ds lo hi) (cutV vs lo hi) := by
  unfold sliceD cutV
  rw [r.length]
  exact (r.drop _).take _
theorem slc_tup_inv {m : Bool} {dx d : D} {ds : List D} {lo hi : Option Int} {h h' : CH} (e : slcD m (.tup ds) lo hi h = .ok d h') : d = .tup (sliceD ds lo hi) ∧ h' = h := by
  unfold slcD at e
  cases e
  exact ⟨rfl, rfl⟩
theorem whole_cut {vs : List V} {lo hi : Option Int} (h : HT.sIx vs.length 0 lo = 0 ∧ HT.sIx vs.length vs.length hi = vs.length) : cutV vs lo hi = vs := by
  unfold cutV
  rw [h.1, h.2]
  simp
theorem se_slc {sc : Scope} {m : Bool} {a : E} {lo hi : Oe} {x : Expr} (ia : ∀ x, chkE L X.N sc a x = true → SE X CL Φ a x) (il : ∀ x, chkO L X.N sc lo x = true → SO X CL Φ lo x) (ih : ∀ x, chkO L X.N sc hi x = true → SO X CL Φ hi x) (c : chkE L X.N sc (.slc m a lo hi) x = true) : SE X CL Φ (.slc m a lo hi) x := by
  simp only [chkE] at c
  split at c
  · rename_i y l u p2 pos
    simp only [Bool.and_eq_true] at c
    obtain ⟨c1, c2, c3⟩ := c
    intro env h h' d e G H σ s re Q p
    simp only [evE] at e
    obtain ⟨dx, h1, ex, e⟩ := R.bnd_inv e
    obtain ⟨ol, h2, el, e⟩ := R.bnd_inv e
    obtain ⟨ou, h3, eu, e⟩ := R.bnd_inv e
    have mid : ∀ r : V → Option Int → Option Int → Hp → VK → Prop, (∀ G1 H1 v, EvR G h H G1 h3 H1 → SR X.K CL G1 h3 H1 → RV X.K CL h3.length G1 H1 dx v → Rl X H1 → r v ol ou H1 fun v H' => Rl X H' → Q v H') →
        tSl r (tE X y) (tO X l) (tO X u) σ H fun v H' => Rl X H' → Q v H' := fun r go => by
      refine ia _ c1 env h _ _ ex G H σ s re _ fun G1 H1 v e1 s1 r1 l1 => ?_
      refine il _ c2 env h1 _ _ el G1 H1 σ s1 (re.ev s e1) _ fun G2 H2 e2 s2 l2 => ?_
      refine ih _ c3 env h2 _ _ eu G2 H2 σ s2 ((re.ev s e1).ev s1 e2) _ fun G3 H3 e3 s3 l3 => ?_
      exact go G3 H3 v ((e1.trans e2).trans e3) s3 ((r1.ev s1 e2).ev s2 e3) l3
    unfold slcD at e
    split at e
    · rename_i ds
      cases e
      refine PE.go (pe_slice sl_tupA (tE_pe X y) (tO_po X l) (tO_po X u)) fun _ => mid _ fun G1 H1 v e1 s1 r1 l1 => ?_
      cases r1 with
      | tup a1 b1 =>
        refine ⟨_, _, rfl, a1, fun hw _ => ?_, fun _ q nq rl => newT_ok s1 (b1.cut ol ou) (p.from e1) q nq rl⟩
        have rc := b1.cut ol ou
        rw [whole_cut hw] at rc
        exact p G1 H1 _ e1 s1 (.tup a1 rc) l1
    · split at e
      · rename_i ds e0
        refine PE.go (pe_slice sl_list (tE_pe X y) (tO_po X l) (tO_po X u)) fun _ => mid _ fun G1 H1 v e1 s1 r1 l1 => ?_
        obtain ⟨b, vs, rfl, hb, rb⟩ := lst_ok s1 e0 r1
        exact ⟨b, vs, rfl, SqL.of hb, fun q nq rl => newL_ok s1 e (rb.cut ol ou) (p.from e1) q nq rl⟩
      · cases e
  · cases c
theorem se_rev {sc : Scope} {m : Bool} {a : E} {x : Expr} (ia : ∀ x, chkE L X.N sc a x = true → SE X CL Φ a x) (c : chkE L X.N sc (.rev m a) x = true) : SE X CL Φ (.rev m a) x := by
  simp only [chkE] at c
  split at c
  · intro env h h' d e G H σ s re Q p
    simp only [evE] at e
    obtain ⟨dx, h1, ex, e⟩ := R.bnd_inv e
    split at e
    · rename_i ds e0
      refine PE.go (pe_revL (tE_pe X _)) fun _ => ia _ c env h _ _ ex G H σ s re _ fun G1 H1 v e1 s1 r1 l1 => ?_
      obtain ⟨b, vs, rfl, hb, rb⟩ := lst_ok s1 e0 r1
      exact ⟨b, vs, rfl, SqL.of hb, fun q nq rl => newL_ok s1 e rb.reverse (p.from e1) q nq rl⟩
    · cases e
  · cases c
/-! ### isinstance -/
def Ty.s : Ty → String
  | .int => "int"
  | .bool => "bool"
  | .list => "list"
  | .tuple => "tuple"
  | .own _ => "?"
/-- the type as a value -/
def tyD (h : CH) : D → Value
  | .non => .type "NoneType"
  | .bl _ => .type "bool"
  | .int _ => .type "int"
  | .str _ => .type "str"
  | .tup _ => .type "tuple"
  | .cell n => (match h[n]? with
    | some (.lst _) => .type "list"
    | _ => .none)
  | _ => .type "list"
/-- the class as a value -/
inductive TyVal (CL : CLs) : Ty → V → Value → Prop
  | bi {t : Ty} : (∀ c, t ≠ .own c) → TyVal CL t (.ty t.s) (.type t.s)
  | own {c : Nat} {C : Addr} : CL c = some C → TyVal CL (.own c) (.ref C) (.ref C)
theorem TyVal.cls {t : Ty} {c : V} {u : Value} (h : TyVal CL t c u) : ClsV c u := by
  cases h with
  | bi _ => exact .ty _
  | own _ => exact .own _
theorem tyx_tup {H : Hp} {a : Addr} {vs : List V} (r : SqT X.K H a vs) : TyX X.K H (.ref a) (.type "tuple") := by
  rcases r with (r | ⟨o, r⟩) | ⟨o, _, _, h1, h2, _⟩
  · exact .base (.tup r)
  · exact .fTuple r
  · exact .kTuple h1 h2
theorem isiD_ok (xc : XC L CL Φ k X) {N : Nat} {G : Gh} {H : Hp} {d : D} {t : Ty} {b : Bool} {v c : V} {u : Value} (nc : ∀ n, d ≠ .cell n) (ni : ∀ c ds, d ≠ .ins c ds) (hC : ∀ c C, t = .own c → CL c = some C → COk X.K C) {h : CH} (e : isiD d t = some b) (r : RV X.K CL N G H d v) (tv : TyVal CL t c u) : TyX X.K H v (tyD h d) ∧ PySem.W.kitOne X.K (tyD h d) u = some b := by
  cases r with
  | non =>
    refine ⟨.base .non, ?_⟩
    cases tv with
    | own hc => cases e; exact (hC _ _ rfl hc).non
    | bi hn =>
      cases t with
      | own c => exact absurd rfl (hn c)
      | _ => cases e; exact kit_ty (by decide +kernel)
  | bl x =>
    refine ⟨.base (.bl x), ?_⟩
    cases tv with
    | own hc => cases e
    | bi hn =>
      cases t with
      | own c => exact absurd rfl (hn c)
      | _ => cases e; exact kit_ty (by decide +kernel)
  | int x =>
    refine ⟨.base (.int x), ?_⟩
    cases tv with
    | own hc => cases e
    | bi hn =>
      cases t with
      | own c => exact absurd rfl (hn c)
      | _ => cases e; exact kit_ty (by decide +kernel)
  | str x =>
    refine ⟨.base (.str x), ?_⟩
    cases tv with
    | own hc => cases e
    | bi hn =>
      cases t with
      | own c => exact absurd rfl (hn c)
      | _ => cases e; exact kit_ty (by decide +kernel)
  | tup a1 b1 =>
    refine ⟨tyx_tup a1, ?_⟩
    cases tv with
    | own hc => cases e; exact (hC _ _ rfl hc).tup
    | bi hn =>
      cases t with
      | own c => exact absurd rfl (hn c)
      | _ => cases e; exact kit_ty (by decide +kernel)
  | lst f a1 b1 =>
    refine ⟨.base (.lst a1), ?_⟩
    cases tv with
    | own hc => cases e; exact (hC _ _ rfl hc).lst
    | bi hn =>
      cases t with
      | own c => exact absurd rfl (hn c)
      | _ => cases e; exact kit_ty (by decide +kernel)
  | cell l => exact absurd rfl (nc _)
  | ins f a1 b1 c1 => exact absurd rfl (ni _ _)
  | scr a1 => cases t <;> cases e
  | typ a1 => cases t <;> cases e
theorem isiV_ok (xc : XC L CL Φ k X) {G : Gh} {h : CH} {H : Hp} {d : D} {t : Ty} {b : Bool} {v c : V} {u : Value} (s : SR X.K CL G h H) (ni : ∀ c ds, d ≠ .ins c ds) (nd : ∀ n c ds, d = .cell n → h[n]? ≠ some (.ins c ds)) (hC : ∀ c C, t = .own c → CL c = some C → COk X.K C) (e : isiV h d t = some b) (r : RV X.K CL h.length G H d v) (tv : TyVal CL t c u) : TyX X.K H v (tyD h d) ∧ PySem.W.kitOne X.K (tyD h d) u = some b := by
  cases d with
  | cell n =>
    simp only [isiV] at e
    split at e
    · rename_i ds q
      obtain ⟨rfl, ws, a1, rw⟩ := cell_at s q r
      have et : tyD h (.cell n) = .type "list" := by simp [tyD, q]
      rw [et]
      cases tv with
      | own hc => cases e; exact ⟨.base (.lst a1), (hC _ _ rfl hc).lst⟩
      | bi hn =>
        refine ⟨.base (.lst a1), ?_⟩
        cases t with
        | own c => exact absurd rfl (hn c)
        | _ => cases e; exact kit_ty (by decide +kernel)
    · rename_i c ds q
      exact absurd q (nd n c ds rfl)
    · cases e
  | ins c ds => exact absurd rfl (ni c ds)
  | _ => exact isiD_ok xc (by intro n z; cases z) (by intro c ds z; cases z) hC e r tv
theorem noIns_ok {h : CH} {d : D} (e : noIns h d = true) : (∀ c ds, d ≠ .ins c ds) ∧ ∀ n c ds, d = .cell n → h[n]? ≠ some (.ins c ds) := by
  refine ⟨fun c ds z => (by subst z; cases e), fun n c ds z q => ?_⟩
  subst z
  simp [noIns, q] at e
theorem noIns_no {h : CH} {d : D} (e : noIns h d = false) : ∃ c ds, insOf h d = some (c, ds) := by
  cases d with
  | ins c ds => exact ⟨c, ds, rfl⟩
  | cell n =>
    simp only [noIns] at e
    cases q : h[n]? with
    | none => rw [q] at e; cases e
    | some c =>
      rw [q] at e
      cases c with
      | ins c ds => exact ⟨c, ds, by simp only [insOf, q]⟩
      | _ => cases e
  | _ => cases e
theorem isiI_ok {G : Gh} {h : CH} {H : Hp} {d : D} {t : Ty} {b : Bool} {v c : V} {u : Value} {c0 : Nat} {ds : List D} (s : SR X.K CL G h H) (ei : insOf h d = some (c0, ds)) (hC : ∀ c C, t = .own c → CL c = some C → COk X.K C) (e : isiV h d t = some b) (r : RV X.K CL h.length G H d v) (tv : TyVal CL t c u) : ∃ ty, TyX X.K H v ty ∧ PySem.W.kitOne X.K ty u = some b := by
  obtain ⟨a, C, dx, fs, rfl, g1, g2, _, _⟩ := ins_at s ei r
  have e' : isiD (.ins c0 ds) t = some b := by
    cases d with
    | ins c1 es =>
      simp only [insOf, Option.some.injEq, Prod.mk.injEq] at ei
      obtain ⟨rfl, rfl⟩ := ei
      exact e
    | cell n =>
      simp only [insOf] at ei
      cases q : h[n]? with
      | none => rw [q] at ei; cases ei
      | some cc =>
        rw [q] at ei
        cases cc with
        | ins c1 es =>
          simp only [Option.some.injEq, Prod.mk.injEq] at ei
          obtain ⟨rfl, rfl⟩ := ei
          simp only [isiV, q] at e
          exact e
        | _ => cases ei
    | _ => cases ei
  cases tv with
  | bi hn =>
    cases t with
    | own k => exact absurd rfl (hn k)
    | _ => cases e'
  | @own k C' hc =>
    simp only [isiD] at e'
    split at e'
    · rename_i hk
      subst hk
      cases e'
      rw [g1] at hc
      cases hc
      have co := hC _ _ rfl g1
      exact ⟨_, .base (.ins g2 co.cl co.ha co.hn co.htk co.hm), co.kt⟩
    · cases e'
/-- a written type, as an expression -/
theorem ty_pe (xc : XC L CL Φ k X) {sc : Scope} (hs : X.env.scope = sc) {t : Ty} {x : Expr} (c : chkTy L sc t x = true) : ∃ (v : V) (u : Value), TyVal CL t v u ∧ PE X x (tC v) ∧ (∀ c C, t = .own c → CL c = some C → COk X.K C) := by
  unfold chkTy at c
  split at c
  · rename_i g gp
    split at c
    · rename_i cc
      split at c
      · rename_i y hy
        simp only [Bool.and_eq_true, decide_eq_true_eq, Bool.not_eq_true'] at c
        obtain ⟨rfl, c1, c2⟩ := c
        obtain ⟨C, h1, h2, h3⟩ := xc.cl _ _ hy
        refine ⟨.ref C, .ref C, .own h2, pe_glob (gl_ok hs c1) h1 rfl c2, fun c' C' e' h' => ?_⟩
        cases e'
        rw [h2] at h'
        cases h'
        exact h3
      · cases c
    · rename_i hn
      simp only [Bool.and_eq_true, decide_eq_true_eq] at c
      obtain ⟨c0, c1, c2⟩ := c
      have hm := xc.bi _ c2
      have gl := gl_ok hs c1
      cases t with
      | own c => exact absurd rfl (hn c)
      | int => cases c0; exact ⟨_, _, .bi hn, pe_bltn gl hm PyProof.Rows.boot_int rfl, fun c C z => nomatch z⟩
      | bool => cases c0; exact ⟨_, _, .bi hn, pe_bltn gl hm PyProof.Rows.boot_bool rfl, fun c C z => nomatch z⟩
      | list => cases c0; exact ⟨_, _, .bi hn, pe_bltn gl hm PyProof.Rows.boot_list rfl, fun c C z => nomatch z⟩
      | tuple => cases c0; exact ⟨_, _, .bi hn, pe_bltn gl hm PyProof.Rows.boot_tuple rfl, fun c C z => nomatch z⟩
  · cases c
/-- several written types, as arguments -/
theorem tys_pa (xc : XC L CL Φ k X) {sc : Scope} (hs : X.env.scope = sc) : ∀ {ts : List Ty} {xs : List Expr}, chkTys L sc ts xs = true → ∃ (vs : List V) (us : List Value), Paired ClsV vs us ∧ vs.length = ts.length ∧ PA X xs (fun _ H Q => Q vs H) ∧
    ∀ (G : Gh) (h : CH) (H : Hp) (d : D) (b : Bool) (v : V), SR X.K CL G h H → noIns h d = true → ts ≠ [] → isiAny h d ts = some b → RV X.K CL h.length G H d v → TyX X.K H v (tyD h d) ∧ PySem.W.kitAny X.K (tyD h d) us = some b
  | [], [], _ => ⟨[], [], .nil, rfl, ⟨fun pos pins s σ H Q I q => (pa_nil.run pos pins s σ H Q I q)⟩, fun _ _ _ _ _ _ _ _ z => absurd rfl z⟩
  | [], _ :: _, c => by simp [chkTys] at c
  | _ :: _, [], c => by simp [chkTys] at c
  | t :: ts, x :: xs, c => by
    simp only [chkTys, Bool.and_eq_true] at c
    obtain ⟨v, u, tv, pe, hC⟩ := ty_pe xc hs c.1
    obtain ⟨vs, us, pr, l, pa, go⟩ := tys_pa xc hs c.2
    have st : starEach (x :: xs) X.env = (false, eval x X.env) :: starEach xs X.env := by
      have c1 := c.1
      unfold chkTy at c1
      split at c1
      · rfl
      · cases c1
    refine ⟨v :: vs, u :: us, .cons tv.cls pr, by simp [l], ⟨fun pos pins s σ H Q I q => (pa_cons pe pa st).run pos pins s σ H Q I q⟩, fun G h H d b w s ni _ e r => ?_⟩
    obtain ⟨n1, n2⟩ := noIns_ok ni
    simp only [isiAny] at e
    split at e
    · rename_i h1
      cases e
      obtain ⟨q1, q2⟩ := isiV_ok xc s n1 n2 hC h1 r tv
      refine ⟨q1, ?_⟩
      unfold PySem.W.kitAny
      rw [q2]
    · rename_i h1
      obtain ⟨q1, q2⟩ := isiV_ok xc s n1 n2 hC h1 r tv
      refine ⟨q1, ?_⟩
      unfold PySem.W.kitAny
      rw [q2]
      by_cases hts : ts = []
      · subst hts
        cases e
        cases pr with
        | nil => rfl
        | cons _ _ => cases l
      · exact (go G h H d b w s ni hts e r).2
    · cases e
theorem boot_isi : bootBuiltins "isinstance" = some (.builtin "isinstance") := PyProof.Rows.boot_isinstance
theorem se_isi (xc : XC L CL Φ k X) {sc : Scope} (hs : X.env.scope = sc) {a : E} {tp : Bool} {ts : List Ty} {x : Expr} (ia : ∀ x, chkE L X.N sc a x = true → SE X CL Φ a x) (c : chkE L X.N sc (.isi a tp ts) x = true) : SE X CL Φ (.isi a tp ts) x := by
  simp only [chkE] at c
  split at c
  · rename_i g gp y cx pos
    simp only [Bool.and_eq_true, decide_eq_true_eq] at c
    obtain ⟨rfl, c1, c2, c3, c4⟩ := c
    have hm := xc.bi _ c2
    have gl := gl_ok hs c1
    intro env h h' d e G H σ s re Q p
    simp only [evE] at e
    obtain ⟨dx, h1, ex, e⟩ := R.bnd_inv e
    split at e
    · rename_i b e1
      split at e
      · rename_i ni
        cases e
        split at c4
        · rename_i cc
          split at c4
          · rename_i t
            obtain ⟨v, u, tv, pe, hC⟩ := ty_pe xc hs c4
            have st : starEach [y, cx] X.env = (false, eval y X.env) :: starEach [cx] X.env := chkE_star c3 _ _
            have st2 : starEach [cx] X.env = [(false, eval cx X.env)] := by
              unfold chkTy at c4
              split at c4
              · rfl
              · cases c4
            refine PE.go (pe_callB call_isi gl hm boot_isi (pa_cons (tE_pe X y) (pa_cons pe pa_nil st2) st) (by decide) (by decide) st (by rw [st2]; rfl)) fun _ => ia _ c3 env h _ _ ex G H σ s re _ fun G1 H1 w e2 s1 r1 l1 => ?_
            have e3 : isiV h' dx t = some b := by
              simp only [isiAny] at e1
              split at e1
              · rename_i q; cases e1; exact q
              · rename_i q; cases e1; exact q
              · cases e1
            cases hni : noIns h' dx with
            | true =>
              obtain ⟨n1, n2⟩ := noIns_ok hni
              obtain ⟨q1, q2⟩ := isiV_ok xc s1 n1 n2 hC e3 r1 tv
              exact ⟨w, v, _, u, b, rfl, tv.cls, q1, q2, fun _ => p G1 H1 _ e2 s1 (.bl _) l1⟩
            | false =>
              obtain ⟨c9, ds9, ei⟩ := noIns_no hni
              obtain ⟨ty, q1, q2⟩ := isiI_ok s1 ei hC e3 r1 tv
              exact ⟨w, v, ty, u, b, rfl, tv.cls, q1, q2, fun _ => p G1 H1 _ e2 s1 (.bl _) l1⟩
          · cases c4
        · rename_i cs kk p2
          simp only [Bool.and_eq_true, decide_eq_true_eq, Bool.not_eq_true'] at c4
          have ni : noIns h' dx = true := by simpa using ni
          obtain ⟨vs, us, pr, l, pa, go⟩ := tys_pa xc hs c4.1
          have st : starEach [y, .Tuple cs kk p2] X.env = (false, eval y X.env) :: starEach [.Tuple cs kk p2] X.env := chkE_star c3 _ _
          refine PE.go (pe_callB call_isiT gl hm boot_isi (pa_cons (tE_pe X y) (pa_cons (pe_tup pa) pa_nil (by rfl)) st) (by decide) (by decide) st (by rfl)) fun _ => ia _ c3 env h _ _ ex G H σ s re _ fun G1 H1 w e2 s1 r1 l1 => ?_
          have hts : ts ≠ [] := by
            intro z
            subst z
            exact absurd c4.2.2 (by decide)
          refine ⟨by rw [l]; exact SZ_line (Nat.le_trans c4.2.1 (by decide)), fun q nq => ?_⟩
          obtain ⟨s2, e3⟩ := s1.new (o := .tup vs) False nq
          obtain ⟨q1, q2⟩ := go _ h' _ dx b w s2 ni hts e1 (r1.ev s1 e3)
          exact ⟨w, q, vs, _, us, b, rfl, upd_same, pr, q1, q2, fun rl => p _ _ _ (e2.trans e3) s2 (.bl _) rl⟩
        · cases c4
      · cases e
    · cases e
  · cases c
end
end Z

end
section
/-! calls of defs -/
namespace Z
open PySem PySem.Spec L2
section
variable {L : LI} {X : Cx} {CL : CLs} {Φ : FS} {k : Nat}
theorem call_sp {K : PySem.W.Frag} {md : Bool} {f ar : Nat} {ds : List D} {d : D} {G : Gh} {h h' : CH} {H : Hp} {vs : List V} {Q : VK} {E0' : XK} (e : callM md Φ f ds h = .ok d h') (hl : ds.length = ar) (s : SR K CL G h H) (r : RVs K CL h.length G H ds vs)
    (p : ∀ G' H' v, EvR G h H G' h' H' → SR K CL G' h' H' → RV K CL h'.length G' H' d v → Q v H') : spOf K CL Φ f ar vs H Q E0' := by
  refine ⟨by rw [← r.length]; exact hl, ?_⟩
  cases md with
  | false =>
    have e1 : callH Φ f ds h = .ok d h' := e
    unfold callH at e1
    cases q : Φ f ds h with
    | no => rw [q] at e1; cases e1
    | ex c es hh => rw [q] at e1; cases e1
    | ok d1 hh =>
      rw [q] at e1
      simp only [R.ok.injEq] at e1
      obtain ⟨rfl, rfl⟩ := e1
      refine ⟨G, h, hh, ds, d1, s, r, q, fun G' H' v e2 s2 r2 => ?_⟩
      obtain ⟨a1, a2, a3⟩ := trunc_ok s e2 s2 r2
      exact p G' H' v a2 a1 a3
  | true =>
    have e1 : callP Φ f ds h = .ok d h' := e
    unfold callP at e1
    split at e1
    · rename_i ds' q
      split at e1
      · rename_i d1 q2
        split at e1
        · rename_i hc
          cases e1
          unfold pcall at q2
          split at q2
          · rename_i d2 hh q3
            split at q2
            · rename_i hn
              cases q2
              by_cases hnc : ncs ds = true
              · have eds : ds' = ds := by
                  unfold snaps at q
                  rw [if_pos hnc] at q
                  exact (Option.some.inj q).symm
                subst eds
                have r0 : RVs K CL 0 ⟨G.φ, G.F⟩ H ds' vs := r.nc (G' := G) hnc
                refine ⟨G, [], hh, ds', d, s.empty0, r0, q3, fun G' H' v e2 s2 r2 => ?_⟩
                obtain ⟨a1, a2⟩ := back_ok s (G0 := G) (fun a f => f) e2 s2
                exact p _ H' v a2 a1 (back_nc e2 hn r2)
              · have hs : d.solid = true := by
                  rw [Bool.or_eq_true] at hc
                  exact hc.resolve_left hnc
                refine ⟨G.all h, [], hh, ds', d, s.empty, snaps_ok s q r, q3, fun G' H' v e2 s2 r2 => ?_⟩
                obtain ⟨a1, a2⟩ := back_ok s (G0 := G.all h) (fun a f => Or.inl f) e2 s2
                exact p _ H' v a2 a1 (r2.solid hs)
            · cases q2
          · split at q2 <;> cases q2
          · cases q2
        · cases e1
      · split at e1 <;> cases e1
      · cases e1
    · cases e1
theorem se_call (xc : XC L CL Φ k X) {sc : Scope} (hs : X.env.scope = sc) {md : Bool} {f : Nat} {es : Es} {x : Expr} (ies : ∀ x, chkEs L X.N sc es x = true → SEs X CL Φ es x) (c : chkE L X.N sc (.call md f es) x = true) : SE X CL Φ (.call md f es) x := by
  simp only [chkE] at c
  split at c
  · rename_i g gp y ys pos
    split at c
    · rename_i fi hf
      simp only [Bool.and_eq_true, decide_eq_true_eq, Bool.not_eq_true'] at c
      obtain ⟨rfl, c1, c2, c3, c4, c5⟩ := c
      intro env h h' d e G H σ s re Q p
      simp only [evE] at e
      obtain ⟨ds, h1, ea, e⟩ := R.bnd_inv e
      obtain ⟨a, fd, ps, m1, m2, m3, m4⟩ := (xc.fn f fi hf).ex
      rw [c2] at m4
      obtain ⟨st1, st2⟩ := args_star c5 X.env pos
      refine PE.go (pe_call m3 xc.room (gl_ok hs c3) m1 m2 m4 .nil pass0 (tA_pa X _) c4 st1 st2) fun _ => ?_
      refine ies _ c5 env h _ _ ea G H σ s re _ fun G1 H1 vs e1 s1 r1 l1 => ?_
      rw [List.append_nil]
      exact call_sp e (by rw [evEs_len ea]; exact c1.symm) s1 r1 fun G' H' v a b c rl => p G' H' v (e1.trans a) b c rl
    · cases c
  · rename_i g gp m ap y ys cp
    split at c
    · rename_i g0 m0 ar hf
      simp only [Bool.and_eq_true, decide_eq_true_eq, Bool.not_eq_true'] at c
      obtain ⟨rfl, rfl, c1, c3, c4, c5, c6, c7⟩ := c
      intro env h h' d e G H σ s re Q p
      simp only [evE] at e
      obtain ⟨ds, h1, ea, e⟩ := R.bnd_inv e
      obtain ⟨C, pp, gg, mc, fd, ps, m1, r, sm, F, B⟩ := (xc.st f _ _ ar hf).ex
      obtain ⟨st1, st2⟩ := args_star c7 X.env cp
      have hfew : methodCallForm ((y :: ys).length + ([] : List Keyword).length) (backTo cp (starEach (y :: ys) X.env)) (backToKw cp (keywordEach [] X.env)) = true := by
        have a1 : (backTo cp (starEach (y :: ys) X.env)).all (fun x => !x.1) = true := by
          have b := backTo_plain (pos := cp) (env := X.env) c7
          rw [List.any_eq_false] at b
          rw [List.all_eq_true]
          intro w hw
          have := b w hw
          simpa using this
        unfold methodCallForm
        rw [a1]
        have a2 : (y :: ys).length + ([] : List Keyword).length + (if (backToKw cp (keywordEach [] X.env)).isEmpty then 0 else 1) < 30 := by
          have : (if (backToKw cp (keywordEach [] X.env)).isEmpty then 0 else 1) = 0 := rfl
          rw [this]
          simp
          omega
        rw [decide_eq_true a2]
        rfl
      refine PE.go (pe_smeth (pe_glob (v := .ref C) (gl_ok hs c3) m1 rfl c4) r sm F xc.room B pass0 (tA_pa X _) st1 st2 (eval_meth rfl hfew c5)) fun _ => ?_
      refine ⟨rfl, ?_⟩
      refine ies _ c7 env h _ _ ea G H σ s re _ fun G1 H1 vs e1 s1 r1 l1 => ?_
      exact call_sp e (by rw [evEs_len ea]; exact c1.symm) s1 r1 fun G' H' v a b c rl => p G' H' v (e1.trans a) b c rl
    · cases c
  · cases c
theorem se_mk (xc : XC L CL Φ k X) {sc : Scope} (hs : X.env.scope = sc) {c0 f : Nat} {es : Es} {x : Expr} (ies : ∀ x, chkEs L X.N sc es x = true → SEs X CL Φ es x) (c : chkE L X.N sc (.mk c0 f es) x = true) : SE X CL Φ (.mk c0 f es) x := by
  simp only [chkE] at c
  split at c
  · rename_i g gp y ys pos
    split at c
    · rename_i nm f0 ar hf
      simp only [Bool.and_eq_true, decide_eq_true_eq, Bool.not_eq_true'] at c
      obtain ⟨rfl, rfl, c1, c3, c4, c5⟩ := c
      intro env h h' d e G H σ s re Q p
      simp only [evE] at e
      obtain ⟨ds, h1, ea, e⟩ := R.bnd_inv e
      obtain ⟨C, a, fd, ps, m1, mC, M, F, B⟩ := (xc.mkr c0 nm f0 ar hf).ex
      obtain ⟨st1, st2⟩ := args_star c5 X.env pos
      refine PE.go (pe_make M F xc.room1 (gl_ok hs c3) m1 B .nil pass0 (tA_pa X _) c4 st1 st2) fun _ => ?_
      refine ies _ c5 env h _ _ ea G H σ s re _ fun G1 H1 vs e1 s1 r1 l1 => ?_
      intro x dx nx ndx nex
      rw [List.append_nil]
      unfold mkV at e
      obtain ⟨d2, h2, e2, e⟩ := R.bnd_inv e
      -- the two new objects
      obtain ⟨s2, ev2⟩ := s1.new (o := .own x) False ndx
      have nx2 : upd H1 dx (.own x) x = none := by rw [upd_ne (fun z => nex z.symm)]; exact nx
      obtain ⟨s3, ev3⟩ := s2.newCell (o := .ins C dx []) (.ins c0 []) nx2 trivial fun H' G' _ _ _ _ nf at_ _ => ⟨nf, C, dx, [], mC, at_, rfl, .nil⟩
      have r3 := (r1.ev s1 ev2).ev s2 ev3
      refine ⟨by simp [← r1.length, evEs_len ea, c1], _, _, h2, .cell h1.length :: ds, d2, s3, .cons ?_ r3, e2, fun G' H' v ev4 s4 r4 => ?_⟩
      · have := RV.cell (K := X.K) (CL := CL) (G := (G1.more False dx).cel h1.length x) (H := upd (upd H1 dx (.own x)) x (.ins C dx [])) (N := (h1 ++ [Cell.ins c0 []]).length) (n := h1.length) (by simp)
        simpa [Gh.cel] using this
      · cases d2 with
        | non =>
          cases r4
          cases e
          refine ⟨rfl, ?_⟩
          have lt0 : h1.length < (h1 ++ [Cell.ins c0 []]).length := by simp
          have lt := Nat.lt_of_lt_of_le lt0 ev4.len
          have ph : G'.φ h1.length = x := by
            rw [ev4.phi _ lt0]
            simp [Gh.cel]
          have := p G' H' (.ref (G'.φ h1.length)) (e1.trans (ev2.trans (ev3.trans ev4))) s4 (.cell lt)
          rw [ph] at this
          exact this
        | _ => cases e
    · cases c
  · cases c
theorem insIs_ok {h : CH} {x : D} {c : Nat} (e : insIs h x c = true) : ∃ ds, insOf h x = some (c, ds) := by
  unfold insIs at e
  split at e
  · rename_i k ds q
    have e := of_decide_eq_true e
    subst e
    exact ⟨ds, q⟩
  · cases e
theorem lookup_none {m : Str} : ∀ {fs : List (Str × V)}, m ∉ fs.map (·.1) → fs.lookup m = none
  | [], _ => rfl
  | (a, b) :: r, h => by
    simp only [List.map_cons, List.mem_cons, not_or] at h
    have ne : (m == a) = false := by
      rw [beq_eq_false_iff_ne]
      exact h.1
    simp only [List.lookup, ne]
    exact lookup_none h.2
theorem few {ys : List Expr} {cp : Pos} {es : Es} {N : List Str} {sc : Scope} (c7 : chkEs L N sc es ys = true) (c6 : ys.length ≤ 4) (env : PySem.Env) : methodCallForm (ys.length + ([] : List Keyword).length) (backTo cp (starEach ys env)) (backToKw cp (keywordEach [] env)) = true := by
  have a1 : (backTo cp (starEach ys env)).all (fun x => !x.1) = true := by
    have b := backTo_plain (pos := cp) (env := env) c7
    rw [List.any_eq_false] at b
    rw [List.all_eq_true]
    intro w hw
    have := b w hw
    simpa using this
  unfold methodCallForm
  rw [a1]
  have a2 : ys.length + ([] : List Keyword).length + (if (backToKw cp (keywordEach [] env)).isEmpty then 0 else 1) < 30 := by
    have : (if (backToKw cp (keywordEach [] env)).isEmpty then 0 else 1) = 0 := rfl
    rw [this]
    simp
    omega
  rw [decide_eq_true a2]
  rfl
theorem isCall_base {y : Expr} {m : Str} {env : PySem.Env} (h : isCall y = false) : attributeBase y m env (eval y env) = eval y env := by
  cases y <;> first | rfl | cases h
theorem ses0 {sc : Scope} {es : Es} (c : chkEs L X.N sc es [] = true) : es = .nil := by
  cases es with
  | nil => rfl
  | cons e es => simp [chkEs] at c
def noE : XK := fun _ _ _ => False
theorem se_meth (xc : XC L CL Φ k X) {sc : Scope} (hs : X.env.scope = sc) {kd c0 : Nat} {md : Bool} {f : Nat} {o : E} {es : Es} {x : Expr} (io : ∀ x, chkE L X.N sc o x = true → SE X CL Φ o x) (ies : ∀ x, chkEs L X.N sc es x = true → SEs X CL Φ es x) (c : chkE L X.N sc (.meth kd c0 md f o es) x = true) : SE X CL Φ (.meth kd c0 md f o es) x := by
  intro env h h' d e G H σ s re Q p
  simp only [evE] at e
  obtain ⟨dx, h1, ex, e⟩ := R.bnd_inv e
  split at e
  · rename_i hi
    obtain ⟨ids, hi⟩ := insIs_ok hi
    obtain ⟨ds, h2, ea, e⟩ := R.bnd_inv e
    simp only [chkE] at c
    split at c
    · rename_i y m ap ys cp
      simp only [Bool.and_eq_true, decide_eq_true_eq, Bool.not_eq_true'] at c
      obtain ⟨c1, c2, c3, c4, c5, c6⟩ := c
      obtain ⟨rfl, hm⟩ := meB_ok c1
      obtain ⟨C, a, fd, ps, q1, q2, q3, q4, F, B⟩ := (xc.me f _ c0 m _ hm).ex
      cases ys with
      | nil =>
        refine PE.go (pe_meth0 (tE_pe X y) q3 q4 F xc.room B .nil pass0 (eval_meth (isCall_base c6) (few c3 c4 X.env) c5)) fun _ => ?_
        refine io _ c2 env h _ _ ex G H σ s re _ fun G1 H1 v e1 s1 r1 l1 => ?_
        obtain ⟨a1, C1, dx1, fs, rfl, g1, g2, nm, rr⟩ := ins_at s1 hi r1
        rw [q1] at g1
        cases g1
        refine ⟨a1, dx1, fs, rfl, g2, lookup_none fun z => q2 (by rw [nm] at z; exact List.mem_of_mem_take z), ?_⟩
        cases ses0 c3
        simp only [evEs, R.ok.injEq] at ea
        obtain ⟨rfl, rfl⟩ := ea
        exact call_sp (E0' := noE) e rfl s1 (.cons r1 .nil) fun G' H' v a b c rl => p G' H' v (e1.trans a) b c rl
      | cons z zs =>
        obtain ⟨st1, st2⟩ := args_star c3 X.env cp
        refine PE.go (pe_meth (tE_pe X y) q3 q4 F xc.room B .nil pass0 (tA_pa X _) st1 st2 (eval_meth (isCall_base c6) (few c3 c4 X.env) c5)) fun _ => ?_
        refine io _ c2 env h _ _ ex G H σ s re _ fun G1 H1 v e1 s1 r1 l1 => ?_
        obtain ⟨a1, C1, dx1, fs, rfl, g1, g2, nm, rr⟩ := ins_at s1 hi r1
        rw [q1] at g1
        cases g1
        refine ⟨a1, dx1, fs, rfl, g2, lookup_none fun z => q2 (by rw [nm] at z; exact List.mem_of_mem_take z), ?_⟩
        refine ies _ c3 env h1 _ _ ea G1 H1 σ s1 (re.ev s e1) _ fun G2 H2 vs e2 s2 r2 l2 => ?_
        rw [List.append_nil]
        exact call_sp (E0' := noE) e (by rw [List.length_cons, evEs_len ea]) s2 (.cons (r1.ev s1 e2) r2) fun G' H' v a b c rl => p G' H' v ((e1.trans e2).trans a) b c rl
    · rename_i y m ap
      simp only [Bool.and_eq_true, Bool.not_eq_true'] at c
      obtain ⟨c1, c2, c3, c4⟩ := c
      obtain ⟨rfl, hm⟩ := meB_ok c1
      obtain ⟨C, a, fd, ps, q1, q2, q3, ⟨pp, q4⟩, F, B⟩ := (xc.me f _ c0 m _ hm).ex
      cases ses0 c4
      simp only [evEs, R.ok.injEq] at ea
      obtain ⟨rfl, rfl⟩ := ea
      refine PE.go (pe_prop (tE_pe X y) q3 q4 F xc.room1 B .nil pass0 (isCall_base c3)) fun _ => ?_
      refine io _ c2 env h _ _ ex G H σ s re _ fun G1 H1 v e1 s1 r1 l1 => ?_
      obtain ⟨a1, C1, dx1, fs, rfl, g1, g2, nm, rr⟩ := ins_at s1 hi r1
      rw [q1] at g1
      cases g1
      refine ⟨a1, dx1, fs, rfl, g2, ?_⟩
      exact call_sp (E0' := noE) e rfl s1 (.cons r1 .nil) fun G' H' v a b c rl => p G' H' v (e1.trans a) b c rl
    · rename_i l pos
      simp only [Bool.and_eq_true] at c
      obtain ⟨c1, c2, c3⟩ := c
      obtain ⟨rfl, hm⟩ := meB_ok c1
      obtain ⟨C, a, fd, ps, q1, q2, q3, ⟨q4, q5⟩, F, B⟩ := (xc.me f _ c0 _ _ hm).ex
      cases ses0 c3
      simp only [evEs, R.ok.injEq] at ea
      obtain ⟨rfl, rfl⟩ := ea
      refine PE.go (pe_uno (tE_pe X l) q4 q5 F xc.room B pass0) fun _ => ?_
      refine io _ c2 env h _ _ ex G H σ s re _ fun G1 H1 v e1 s1 r1 l1 => ?_
      obtain ⟨a1, C1, dx1, fs, rfl, g1, g2, nm, rr⟩ := ins_at s1 hi r1
      rw [q1] at g1
      cases g1
      refine ⟨a1, dx1, fs, rfl, g2, ?_⟩
      exact call_sp (E0' := noE) e rfl s1 (.cons r1 .nil) fun G' H' v a b c rl => p G' H' v (e1.trans a) b c rl
    · cases c
  · cases e
theorem se_opm (xc : XC L CL Φ k X) {sc : Scope} {c0 : Nat} {md : Bool} {f : Nat} {a b : E} {x : Expr} (ia : ∀ x, chkE L X.N sc a x = true → SE X CL Φ a x) (ib : ∀ x, chkE L X.N sc b x = true → SE X CL Φ b x) (c : chkE L X.N sc (.opm c0 md f a b) x = true) : SE X CL Φ (.opm c0 md f a b) x := by
  intro env h h' d e G H σ s re Q p
  simp only [evE] at e
  obtain ⟨dx, h1, ex, e⟩ := R.bnd_inv e
  obtain ⟨dy, h2, ey, e⟩ := R.bnd_inv e
  split at e
  · rename_i hi
    obtain ⟨ids, hi⟩ := insIs_ok hi
    split at e
    · rename_i i
      obtain ⟨d', h3, e1, e9⟩ := R.bnd_inv e
      split at e9
      · rename_i ok
        cases e9
        simp only [chkE] at c
        split at c
        · rename_i l r pos
          simp only [Bool.and_eq_true] at c
          obtain ⟨c1, c2, c3⟩ := c
          obtain ⟨_, hm⟩ := meB_ok c1
          obtain ⟨C, a, fd, ps, q1, q2, q3, q4, F, B⟩ := (xc.me f _ c0 _ _ hm).ex
          refine PE.go (pe_opo (tE_pe X l) (tE_pe X r) q4 F xc.room B pass0) fun _ => ?_
          refine ia _ c2 env h _ _ ex G H σ s re _ fun G1 H1 v e2 s1 r1 l1 => ?_
          refine ib _ c3 env h1 _ _ ey G1 H1 σ s1 (re.ev s e2) _ fun G2 H2 w e3 s2 r2 l2 => ?_
          have r1' := r1.ev s1 e3
          obtain ⟨a1, C1, dx1, fs, rfl, g1, g2, nm, rr⟩ := ins_at s2 hi r1'
          rw [q1] at g1
          cases g1
          cases r2
          refine ⟨a1, dx1, fs, i, rfl, g2, rfl, ?_⟩
          refine call_sp e1 rfl s2 (.cons r1' (.cons (.int i) .nil)) fun G' H' v a b c => ⟨?_, fun rl => p G' H' v ((e2.trans e3).trans a) b c rl⟩
          cases d with
          | ins k es => cases c; exact ⟨_, rfl⟩
          | _ => cases ok
        · cases c
      · cases e9
    · cases e
  · cases e
theorem se_ccal (xc : XC L CL Φ k X) {sc : Scope} (hs : X.env.scope = sc) {c0 : Nat} {md : Bool} {f : Nat} {es : Es} {x : Expr} (ies : ∀ x, chkEs L X.N sc es x = true → SEs X CL Φ es x) (c : chkE L X.N sc (.ccal c0 md f es) x = true) : SE X CL Φ (.ccal c0 md f es) x := by
  simp only [chkE] at c
  split at c
  · rename_i g gp m ap y ys cp
    split at c
    · rename_i cc g0 m0 ar hf
      simp only [Bool.and_eq_true, decide_eq_true_eq, Bool.not_eq_true'] at c
      obtain ⟨rfl, rfl, rfl, c1, c3, c4, c5, c6, c7⟩ := c
      intro env h h' d e G H σ s re Q p
      simp only [evE] at e
      obtain ⟨ds, h1, ea, e⟩ := R.bnd_inv e
      obtain ⟨C, pp, gg, mc, fd, ps, m1, m2, r, cm, F, B⟩ := (xc.cm f _ _ _ ar hf).ex
      obtain ⟨st1, st2⟩ := args_star c7 X.env cp
      refine PE.go (ClX.pe_cmeth (pe_glob (v := .ref C) (gl_ok hs c3) m1 rfl c4) r cm (fnR_of F B) xc.room pass0 (tA_pa X _) st1 st2 (eval_meth rfl (few c7 (by simp; omega) X.env) c5)) fun _ => ?_
      refine ⟨rfl, ?_⟩
      refine ies _ c7 env h _ _ ea G H σ s re _ fun G1 H1 vs e1 s1 r1 l1 => ?_
      exact call_sp e (by rw [List.length_cons, evEs_len ea]; exact c1.symm) s1 (.cons (.typ m2) r1) fun G' H' v a b c rl => p G' H' v (e1.trans a) b c rl
    · cases c
  · cases c
theorem mk_end {d : D} {h1 h' : CH} {c0 f ar : Nat} {ds : List D} {C : Addr} {vs : List V} {G1 : Gh} {H1 : Hp} {E : XK} {Q : VK} (e : mkV Φ c0 f ds h1 = .ok d h') (mC : CL c0 = some C) (hl : ds.length = ar) (s1 : SR X.K CL G1 h1 H1) (r1 : RVs X.K CL h1.length G1 H1 ds vs)
    (p : ∀ G' H' v, EvR G1 h1 H1 G' h' H' → SR X.K CL G' h' H' → RV X.K CL h'.length G' H' d v → Q v H') : ∀ x dx, H1 x = none → H1 dx = none → dx ≠ x → spOf X.K CL Φ f (ar + 1) (.ref x :: (vs ++ [])) (upd (upd H1 dx (.own x)) x (.ins C dx [])) (fun v H2 => v = .non ∧ Q (.ref x) H2) E := by
  intro x dx nx ndx nex
  rw [List.append_nil]
  unfold mkV at e
  obtain ⟨d2, h2, e2, e⟩ := R.bnd_inv e
  obtain ⟨s2, ev2⟩ := s1.new (o := .own x) False ndx
  have nx2 : upd H1 dx (.own x) x = none := by rw [upd_ne (fun z => nex z.symm)]; exact nx
  obtain ⟨s3, ev3⟩ := s2.newCell (o := .ins C dx []) (.ins c0 []) nx2 trivial fun H' G' _ _ _ _ nf at_ _ => ⟨nf, C, dx, [], mC, at_, rfl, .nil⟩
  have r3 := (r1.ev s1 ev2).ev s2 ev3
  refine ⟨by simp [← r1.length, hl], _, _, h2, .cell h1.length :: ds, d2, s3, .cons ?_ r3, e2, fun G' H' v ev4 s4 r4 => ?_⟩
  · have := RV.cell (K := X.K) (CL := CL) (G := (G1.more False dx).cel h1.length x) (H := upd (upd H1 dx (.own x)) x (.ins C dx [])) (N := (h1 ++ [Cell.ins c0 []]).length) (n := h1.length) (by simp)
    simpa [Gh.cel] using this
  · cases d2 with
    | non =>
      cases r4
      cases e
      refine ⟨rfl, ?_⟩
      have lt0 : h1.length < (h1 ++ [Cell.ins c0 []]).length := by simp
      have lt := Nat.lt_of_lt_of_le lt0 ev4.len
      have ph : G'.φ h1.length = x := by
        rw [ev4.phi _ lt0]
        simp [Gh.cel]
      have := p G' H' (.ref (G'.φ h1.length)) (ev2.trans (ev3.trans ev4)) s4 (.cell lt)
      rw [ph] at this
      exact this
    | _ => cases e
theorem se_mkc (xc : XC L CL Φ k X) {sc : Scope} (hs : X.env.scope = sc) {i c0 f : Nat} {es : Es} {x : Expr} (ies : ∀ x, chkEs L X.N sc es x = true → SEs X CL Φ es x) (c : chkE L X.N sc (.mkc i c0 f es) x = true) : SE X CL Φ (.mkc i c0 f es) x := by
  simp only [chkE] at c
  split at c
  · rename_i g gp y ys pos
    split at c
    · rename_i nm f0 ar hf
      unfold nmB at c
      simp only [Bool.and_eq_true, decide_eq_true_eq, Bool.not_eq_true'] at c
      obtain ⟨⟨n1, n2, n3, n4⟩, rfl, c1, c5⟩ := c
      intro env h h' d e G H σ s re Q p
      simp only [evE] at e
      split at e
      · rename_i kk hk
        split at e
        · rename_i ek
          subst ek
          obtain ⟨ds, h1, ea, e⟩ := R.bnd_inv e
          obtain ⟨C, a, fd, ps, m1, mC, M, F, B⟩ := (xc.mkr kk nm f0 ar hf).ex
          obtain ⟨st1, st2⟩ := args_star c5 X.env pos
          have vis : Vis X.env.scope g := by rw [hs]; exact visB_ok n2
          obtain ⟨v0, a1, a2⟩ := re.2 i _ hk
          cases a2 with
          | typ hc =>
            rw [mC] at hc
            cases hc
            refine PE.go (pe_makeV M F xc.room1 n1 vis B pass0 (tA_pa X _) n3 n4 st1 st2) fun _ => ⟨a1, ?_⟩
            refine ies _ c5 env h _ _ ea G H σ s re _ fun G1 H1 vs e1 s1 r1 l1 => ?_
            exact mk_end e mC (by rw [evEs_len ea, c1]) s1 r1 fun G' H' v a b c rl => p G' H' v (e1.trans a) b c rl
        · cases e
      · cases e
    · cases c
  · cases c
theorem kc_rv {N : Nat} {G : Gh} {H : Hp} (c : Kc) : RV X.K CL N G H c.d (match c with
    | .non => V.non
    | .bl b => V.bl b
    | .int i => V.int i
    | .str s => V.str s) := by
  cases c with
  | non => exact .non
  | bl b => exact .bl b
  | int i => exact .int i
  | str x => exact .str x
theorem se_callD (xc : XC L CL Φ k X) {sc : Scope} (hs : X.env.scope = sc) {md : Bool} {f : Nat} {es : Es} {cc : Kc} {x : Expr} (ies : ∀ x, chkEs L X.N sc es x = true → SEs X CL Φ es x) (c : chkE L X.N sc (.callD md f es cc) x = true) : SE X CL Φ (.callD md f es cc) x := by
  simp only [chkE] at c
  split at c
  · rename_i g gp y ys pos
    split at c
    · rename_i fi hf
      simp only [Bool.and_eq_true, decide_eq_true_eq, Bool.not_eq_true'] at c
      obtain ⟨rfl, c1, c2, c3, c4, c5⟩ := c
      split at c2
      · rename_i nm c0 hk
        have c2 : c0 = cc := of_decide_eq_true c2
        subst c2
        intro env h h' d e G H σ s re Q p
        simp only [evE] at e
        obtain ⟨ds, h1, ea, e⟩ := R.bnd_inv e
        obtain ⟨a, fd, ps, m1, m2, m3, m4⟩ := (xc.fn f fi hf).ex
        rw [hk] at m4
        obtain ⟨⟨u, ru, mb⟩, _⟩ := m4
        obtain ⟨st1, st2⟩ := args_star c5 X.env pos
        refine PE.go (pe_call m3 xc.room (gl_ok hs c3) m1 m2 mb (.cons ru .nil) pass0 (tA_pa X _) c4 st1 st2) fun _ => ?_
        refine ies _ c5 env h _ _ ea G H σ s re _ fun G1 H1 vs e1 s1 r1 l1 => ?_
        exact call_sp e (by rw [List.length_append, evEs_len ea]; exact c1.symm) s1 (r1.append (.cons (kc_rv c0) .nil)) fun G' H' v a b c rl => p G' H' v (e1.trans a) b c rl
      · cases c2
    · cases c
  · cases c
theorem se_callK (xc : XC L CL Φ k X) {sc : Scope} (hs : X.env.scope = sc) {md : Bool} {f : Nat} {es : Es} {ek : E} {x : Expr} (ies : ∀ x, chkEs L X.N sc es x = true → SEs X CL Φ es x) (ik : ∀ x, chkE L X.N sc ek x = true → SE X CL Φ ek x) (c : chkE L X.N sc (.callK md f es ek) x = true) : SE X CL Φ (.callK md f es ek) x := by
  simp only [chkE] at c
  split at c
  · rename_i g gp y ys kn z kp pos
    split at c
    · rename_i fi hf
      simp only [Bool.and_eq_true, decide_eq_true_eq, Bool.not_eq_true'] at c
      obtain ⟨rfl, c1, c2, c3, c4, c5, c6⟩ := c
      split at c2
      · rename_i nm c0 hk
        have c2 : kn = nm := of_decide_eq_true c2
        subst c2
        intro env h h' d e G H σ s re Q p
        simp only [evE] at e
        obtain ⟨ds, h1, ea, e⟩ := R.bnd_inv e
        obtain ⟨dv, h2, ek', e⟩ := R.bnd_inv e
        obtain ⟨a, fd, ps, m1, m2, m3, m4⟩ := (xc.fn f fi hf).ex
        rw [hk] at m4
        obtain ⟨_, mb⟩ := m4
        obtain ⟨st1, st2⟩ := args_star c5 X.env pos
        have hpl : ((backTo pos (starEach (y :: ys) X.env)).any (·.1) || (backToKw pos (keywordEach [⟨some kn, z, kp⟩] X.env)).any (·.1.isNone)) = false := by
          rw [backTo_plain c5]; rfl
        refine PE.go (pe_callN m3 xc.room (gl_ok hs c3) m1 m2 mb pass0 (tA_pa X _) (pk_cons (tE_pe X z) pk_nil) (by rfl) (by rfl) c4 st1 hpl) fun _ => ?_
        refine ies _ c5 env h _ _ ea G H σ s re _ fun G1 H1 vs e1 s1 r1 l1 => ?_
        refine ik _ c6 env h1 _ _ ek' G1 H1 σ s1 (re.ev s e1) _ fun G2 H2 w e2 s2 r2 l2 => ?_
        have l3 : ds.length = es.len := evEs_len ea
        refine ⟨by rw [← r1.length, l3]; omega, rfl, ?_⟩
        exact call_sp e (by rw [List.length_append, l3]; exact c1.symm) s2 ((r1.ev s1 e2).append (.cons r2 .nil)) fun G' H' v a b c rl => p G' H' v ((e1.trans e2).trans a) b c rl
      · cases c2
    · cases c
  · cases c
end
end Z

end
section
/-! enumerate of a tuple -/
namespace Z
open PySem PySem.Spec L2
section
variable {prog : Program} {w : World} {A : Around} {E : Value → Shared → Prop} {s : Shared}
/-- one turn of enumerate over a tuple -/
theorem enumT_next {z j t : Addr} {i : Nat} {vs : Array Value} {v o0 : Value} {Q : Value → Shared → Prop} (z0 : IsEnum s.heap z j i o0) (j0 : s.heap.IsTupleIter j t i) (t0 : s.heap.IsTuple t vs) (v0 : vs[i]? = some v) (zj : z ≠ j)
    (fin : ∀ g, IsEnumOut g z j ((i : Int) + 1) v s.heap.objs.size → g.IsTupleIter j t (i + 1) → g.get? s.heap.objs.size = some { cls := .type "tuple", data := .seq #[.int i s.toks, v] } → g.objs.size = s.heap.objs.size + 1 →
      (∀ b o, b ≠ z → b ≠ j → s.heap.get? b = some o → g.get? b = some o) → Q (.ref s.heap.objs.size) { s with heap := g, toks := s.toks + 1 }) :
    wpAny (model prog w) A (Builtin.«enumerate.__next__» ⟨[.ref z], []⟩) (fun fn s' => ∃ r, fn = .done (.ret r) ∧ Q r s') E s := by
  obtain ⟨g0, gs, dr, k, os⟩ := s
  show wpAny _ _ (field (.ref z) 2 >>= _) _ _ (⟨g0, gs, dr, k, os⟩ : Shared)
  refine wpAny_bind (wpAny_field z0 rfl (x := .ref j) rfl (wpAny_bind (RZ.nextOf_tuple_item j0 t0 v0 fun g1 j1 b1 => ?_)))
  replace b1 : Heap.SameBut j g0 g1 := b1
  have z1 : IsEnum g1 z j i o0 := (b1.2 z zj).trans z0
  show wpAny _ _ (field (.ref z) 3 >>= _) _ _ (⟨g1, gs, dr, k, os⟩ : Shared)
  refine wpAny_bind (wpAny_field z1 rfl (x := rawInt i) rfl ?_)
  show wpAny _ _ (field (.ref z) 4 >>= _) _ _ (⟨g1, gs, dr, k, os⟩ : Shared)
  refine wpAny_bind (wpAny_field z1 rfl (x := .none) rfl ?_)
  show wpAny _ _ (mkInt i >>= _) _ _ (⟨g1, gs, dr, k, os⟩ : Shared)
  refine wpAny_bind (wpAny_mkInt ?_)
  show wpAny _ _ (setField (.ref z) 3 (rawInt ((i : Int) + 1)) >>= _) _ _ (⟨g1, gs, dr, k + 1, os⟩ : Shared)
  refine wpAny_bind (wpAny_setField_rec z1 (by simp) fun g2 z2 b2 => ?_)
  replace b2 : Heap.SameBut z g1 g2 := b2
  replace z2 : IsEnum g2 z j ((i : Int) + 1) o0 := z2
  show wpAny _ _ (setField (.ref z) 4 .none >>= _) _ _ (⟨g2, gs, dr, k + 1, os⟩ : Shared)
  refine wpAny_bind (wpAny_setField_rec z2 (by simp) fun g3 z3 b3 => ?_)
  replace b3 : Heap.SameBut z g2 g3 := b3
  replace z3 : IsEnum g3 z j ((i : Int) + 1) o0 := z3
  show wpAny _ _ (newTuple [.int i k, v] >>= _) _ _ (⟨g3, gs, dr, k + 1, os⟩ : Shared)
  refine wpAny_bind (wpAny_newTuple ?_)
  have z4 : IsEnum (g3.push { cls := .type "tuple", data := .seq #[.int i k, v] }) z j ((i : Int) + 1) o0 := Heap.get?_push_of_some _ z3
  generalize q4 : g3.push { cls := .type "tuple", data := .seq #[.int i k, v] } = g4 at z4
  have n3 : g3.objs.size = g0.objs.size := by rw [b3.1, b2.1, b1.1]
  have zl : z < g0.objs.size := Heap.lt_size z0
  have p4 : g4.get? g0.objs.size = some { cls := .type "tuple", data := .seq #[.int i k, v] } := by rw [← q4, ← n3]; exact Heap.get?_push_size _ rfl
  have n4 : g4.objs.size = g0.objs.size + 1 := by rw [← q4, Heap.size_push, n3]
  have k4 : ∀ b o, b ≠ z → b ≠ j → g0.get? b = some o → g4.get? b = some o := fun b o bz bj q => by
    rw [← q4]; exact Heap.get?_push_of_some _ (b3.extBut b o bz (b2.extBut b o bz (b1.extBut b o bj q)))
  have j4 : g4.IsTupleIter j t (i + 1) := by
    rw [← q4]
    obtain ⟨o, ho, hc, hd⟩ := j1
    exact ⟨o, Heap.get?_push_of_some _ (b3.extBut _ _ (Ne.symm zj) (b2.extBut _ _ (Ne.symm zj) ho)), hc, hd⟩
  show wpAny _ _ (Builtin.SmallTypes.ownedTupleIsFree (.ref z) >>= _) _ _ (⟨g4, gs, dr, k + 1, os⟩ : Shared)
  rw [n3]
  clear q4 z3 b3 z2 b2 z1 b1 j1 n3 g3 g2 g1
  refine wpAny_bind ?_
  unfold Builtin.SmallTypes.ownedTupleIsFree
  refine wpAny_bind (wpAny_field z4 rfl (x := .none) rfl (wpAny_pure ?_))
  simp only [if_true]
  refine wpAny_bind (wpAny_rule (wpAny_bind (wpAny_field z4 rfl (x := o0) rfl (wpAny_bind (wpAny_setField_rec z4 (by simp) fun g5 z5 b5 => ?_)))))
  replace b5 : Heap.SameBut z g4 g5 := b5
  replace z5 : IsEnum g5 z j ((i : Int) + 1) v := z5
  show wpAny _ _ (Builtin.SmallTypes.ownedTupleHandOut (.ref z) (.ref g0.objs.size) >>= _) _ _ (⟨g5, gs, dr, k + 1, os⟩ : Shared)
  refine wpAny_bind ?_
  unfold Builtin.SmallTypes.ownedTupleHandOut
  refine wpAny_bind (wpAny_setField_rec z5 (by simp) fun g6 z6 b6 => ?_)
  replace b6 : Heap.SameBut z g5 g6 := b6
  replace z6 : IsEnumOut g6 z j ((i : Int) + 1) v g0.objs.size := z6
  refine wpAny_setField_rec z6 (by simp) fun g7 z7 b7 => ?_
  replace b7 : Heap.SameBut z g6 g7 := b7
  replace z7 : IsEnumOut g7 z j ((i : Int) + 1) v g0.objs.size := z7
  have up : ∀ b o, b ≠ z → g4.get? b = some o → g7.get? b = some o := fun b o bz q => b7.extBut b o bz (b6.extBut b o bz (b5.extBut b o bz q))
  refine wpAny_bind (wpAny_letGo (wpAny_pure ⟨_, rfl, fin g7 z7 ?_ (up _ _ (Nat.ne_of_gt zl) p4) (by rw [b7.1, b6.1, b5.1, n4]) fun b o bz bj q => up b o bz (k4 b o bz bj q)⟩))
  obtain ⟨o, ho, hc, hd⟩ := j4
  exact ⟨o, up j o (Ne.symm zj) ho, hc, hd⟩
theorem pyNext_enumT {z j t : Addr} {i : Nat} {vs : Array Value} {v o0 : Value} {Q : Option Value → Shared → Prop} (z0 : IsEnum s.heap z j i o0) (j0 : s.heap.IsTupleIter j t i) (t0 : s.heap.IsTuple t vs) (v0 : vs[i]? = some v) (zj : z ≠ j)
    (fin : ∀ g, IsEnumOut g z j ((i : Int) + 1) v s.heap.objs.size → g.IsTupleIter j t (i + 1) → g.get? s.heap.objs.size = some { cls := .type "tuple", data := .seq #[.int i s.toks, v] } → g.objs.size = s.heap.objs.size + 1 →
      (∀ b o, b ≠ z → b ≠ j → s.heap.get? b = some o → g.get? b = some o) → Q (some (.ref s.heap.objs.size)) { s with heap := g, toks := s.toks + 1 }) : wpAny (model prog w) A (pyNext (.ref z)) Q E s := by
  have ty : s.TypeIs (.ref z) "enumerate" := ⟨_, z0, rfl⟩
  unfold pyNext
  exact wpAny_bind (wpAny_attempt (wpAny_callSpecial?_slot (name := Str.ofString "__next__") ty F.slot_enumerate_next (wpAny_call_entry F.slot_enumerate_next ty F.entry_enumerate_next
    (enumT_next z0 j0 t0 v0 zj fun g a b c d q => wpAny_pure (fin g a b c d q)) (F.args_enumerate_next_1 _))))
theorem pyNext_enumT_end {z j t : Addr} {i : Nat} {vs : Array Value} {o0 : Value} {Q : Option Value → Shared → Prop} (hh : A.handled = none) (z0 : IsEnum s.heap z j i o0) (j0 : s.heap.IsTupleIter j t i) (t0 : s.heap.IsTuple t vs) (v0 : vs[i]? = none)
    (fin : ∀ g, Heap.ExtBut j s.heap g → Q none { s with heap := g }) : wpAny (model prog w) A (pyNext (.ref z)) Q E s := by
  have ty : s.TypeIs (.ref z) "enumerate" := ⟨_, z0, rfl⟩
  unfold pyNext
  refine wpAny_bind (wpAny_attempt (wpAny_callSpecial?_slot (name := Str.ofString "__next__") ty F.slot_enumerate_next (wpAny_call_entry F.slot_enumerate_next ty F.entry_enumerate_next ?_ (F.args_enumerate_next_1 _))))
  show wpAny _ _ (field (.ref z) 2 >>= _) _ _ s
  refine wpAny_bind (wpAny_field z0 rfl (x := .ref j) rfl (wpAny_bind (RZ.nextOf_tuple_end hh j0 t0 v0 fun g x ex st => ?_)))
  obtain ⟨o, ho, hc⟩ := st
  exact wpAny_bind (wpAny_isInstance (T := "StopIteration") (b := true) ⟨o, ho, hc⟩ isSubtype_stop (wpAny_pure (fin _ ex)))
end
theorem enumT_new (l : Addr) (vs : Array Value) (n : Nat) (dd : Option Addr) (sl : Array (Option Value)) :
    Meets (Builtin.«enumerate.__new__» ⟨[.type "enumerate", .ref l], []⟩) (fun _ R s => s.heap.get? l = some { cls := .type "tuple", dict := dd, data := .seq vs n, slots := sl } ∧
      R (.ok (.ret (.ref (s.heap.push { cls := .type "tuple_iterator", data := .fields #[.ref l, .int 0 0] }).objs.size)))
        { s with heap := (s.heap.push { cls := .type "tuple_iterator", data := .fields #[.ref l, .int 0 0] }).push { cls := .type "enumerate", data := .fields #[.none, .bool false, .ref s.heap.objs.size, rawInt 0, .none, .none] } }) :=
  .of_wp fun prog w A R s q => by
    obtain ⟨g0, gs, dr, k, os⟩ := s
    obtain ⟨tl, q⟩ := q
    have sub := sub_enumerate
    have it : Heap.IsTuple (Shared.heap ⟨g0, gs, dr, k, os⟩) l vs := ⟨_, tl, rfl, n, rfl⟩
    wp_walk using AutoSeq1.wpAny_loadPart' tl
    refine wpAny_stack_any fun st => wpAny_pure ?_
    split
    · rename_i c _ _ _ _ _
      cases (c == Value.type "enumerate") <;> (wp_walk using AutoSeq1.wpAny_loadPart' tl, wpAny_pyIter_tuple it; exact ⟨_, rfl, q⟩)
    · wp_walk using AutoSeq1.wpAny_loadPart' tl, wpAny_pyIter_tuple it
      exact ⟨_, rfl, q⟩
section
variable {prog : Program} {w : World} {A : Around} {E : Value → Shared → Prop} {s : Shared}
theorem call_enumT {l : Addr} {vs : Array Value} {Q : Value → Shared → Prop} (t0 : s.heap.IsTuple l vs)
    (fin : ∀ g, IsEnum g (s.heap.objs.size + 1) s.heap.objs.size 0 .none → g.IsTupleIter s.heap.objs.size l 0 → (∀ b o, s.heap.get? b = some o → g.get? b = some o) → Q (.ref (s.heap.objs.size + 1)) { s with heap := g }) :
    wpAny (model prog w) A (call (.type "enumerate") [.ref l]) Q E s := by
  obtain ⟨⟨c, dd, dt, sl⟩, hl, hc, n, hd⟩ := t0
  obtain rfl : c = .type "tuple" := hc
  obtain rfl : dt = .seq vs n := hd
  refine callType_new F.called_enumerate (by decide) (F.typeCall_enumerate_1 _) (F.newCall_enumerate_1 _) (fun obj => F.args_object_init_2 obj _) F.entry_enumerate_new (enumT_new l vs n dd sl) ⟨hl, ?_⟩
  have n1 : (s.heap.push { cls := .type "tuple_iterator", data := .fields #[.ref l, .int 0 0] }).objs.size = s.heap.objs.size + 1 := Heap.size_push ..
  show _ ∧ _
  rw [n1]
  have z0 : IsEnum ((s.heap.push { cls := .type "tuple_iterator", data := .fields #[.ref l, .int 0 0] }).push { cls := .type "enumerate", data := .fields #[.none, .bool false, .ref s.heap.objs.size, rawInt 0, .none, .none] }) (s.heap.objs.size + 1) s.heap.objs.size 0 .none := by
    have q := Heap.get?_push_size (s.heap.push { cls := .type "tuple_iterator", data := .fields #[.ref l, .int 0 0] }) (o := { cls := .type "enumerate", data := .fields #[.none, .bool false, .ref s.heap.objs.size, rawInt 0, .none, .none] }) rfl
    rw [n1] at q
    exact q
  exact ⟨⟨_, z0, rfl⟩, fin _ z0 ⟨_, Heap.get?_push_of_some _ (Heap.get?_push_size _ rfl), rfl, rfl⟩ fun b o x => Heap.get?_push_of_some _ (Heap.get?_push_of_some _ x)⟩
end
/-- the tuple at a, each item in a new pair -/
def IteT (K : PySem.W.Frag) (a : Addr) : L2.It :=
  ⟨fun i H => ∃ (xs : List V) (x : V), SqT K H a xs ∧ xs[i]? = some x, fun i H v H' => ∃ T x, v = .ref T ∧ H T = none ∧ H' = upd H T (.tup [.int (i : Nat), x]) ∧ ∀ xs, SqT K H a xs → xs[i]? = some x, fun i H => ∃ xs : List V, SqT K H a xs ∧ xs.length ≤ i⟩
theorem turn_enumT {P : Program} {w : World} {K : PySem.W.Frag} {elts : List Expr} {kk : Nat} {tpos : Pos} (a z j : Addr) :
    Turn P w K (.Tuple elts kk tpos) (IteT K a) [z, j] z (fun i g => (∃ o0, IsEnum g z j ((i : Nat) : Int) o0) ∧ g.IsTupleIter j a i ∧ z ≠ j) where
  mem := by simp
  obj := fun i g st b hb => by
    obtain ⟨⟨o0, z0⟩, ⟨o, ho, hc, hd⟩, _⟩ := st
    rcases List.mem_cons.mp hb with rfl | hb
    · exact ⟨_, z0, fun v q => nomatch q⟩
    · obtain rfl := List.mem_singleton.mp hb
      exact ⟨o, ho, fun v q => by rw [hd] at q; cases q⟩
  keep := fun i g g' st kp => by
    obtain ⟨⟨o0, z0⟩, ⟨o, ho, hc, hd⟩, ne⟩ := st
    exact ⟨⟨o0, kp z (by simp) _ z0⟩, ⟨o, kp j (by simp) _ ho, hc, hd⟩, ne⟩
  item := by
    intro X hP hw hK hc i pins s σ H E I hf st hg
    subst hP hw hK
    obtain ⟨⟨o0, z0⟩, j0, ne⟩ := st
    obtain ⟨xs, x, hq, hx⟩ := hg
    obtain ⟨its, rv, tu, _⟩ := I.tuple hq
    obtain ⟨u, hu, ru⟩ := rv.get hx
    have zl : z < s.heap.objs.size := Heap.lt_size z0
    have jl : j < s.heap.objs.size := by obtain ⟨_, q, _⟩ := j0; exact Heap.lt_size q
    refine pyNext_enumT z0 j0 tu (v := u) (by simpa using hu) ne fun g go jo hT hsz hk => ⟨_, rfl, wpAny_letOwnedTupleGo_enum (s := { s with heap := g, toks := s.toks + 1 }) go fun g2 zo sb => ?_⟩
    have hT2 : g2.get? s.heap.objs.size = some { cls := .type "tuple", data := .seq #[.int i s.toks, u] } := (sb.2 _ (Nat.ne_of_gt zl)).trans hT
    have new : ObjOk X.prog X.w (upd H s.heap.objs.size (.tup [.int (i : Nat), x])) g2 s.heap.objs.size (.tup [.int (i : Nat), x]) :=
      ⟨by show 2 ≤ sizeLine; decide, [.int i s.toks, u], .cons ⟨_, rfl⟩ (.cons ru .nil), ⟨_, hT2, rfl, _, rfl⟩⟩
    have I1 : Inv X pins σ (upd H s.heap.objs.size (.tup [.int (i : Nat), x])) { s with heap := g2, toks := s.toks + 1 } :=
      I.turnedNew (ch := [z, j]) (fun b ob hb q => by
        have b1 : b ≠ z := fun e => hb (by simp [e])
        have b2 : b ≠ j := fun e => hb (by simp [e])
        exact (sb.2 b b1).trans (hk b ob b1 b2 q)) hf (Nat.le_refl _) new
    have e1 : ((i + 1 : Nat) : Int) = (i : Int) + 1 := by omega
    refine ⟨.ref s.heap.objs.size, _, I1, rfl, ⟨_, x, rfl, I.hok.fresh (Nat.le_refl _), rfl, fun ys hy => by rw [I.tuple_inj hy hq]; exact hx⟩, ⟨⟨u, by rw [e1]; exact zo⟩, ?_, ne⟩, fun b hb => ?_⟩
    · obtain ⟨o, ho, c1, c2⟩ := jo
      exact ⟨o, (sb.2 j (Ne.symm ne)).trans ho, c1, c2⟩
    · have hb' : b < s.heap.objs.size := by
        rcases List.mem_cons.mp hb with rfl | hb
        · exact zl
        · obtain rfl := List.mem_singleton.mp hb
          exact jl
      rw [upd_ne (Nat.ne_of_lt hb')]
      exact (hf b hb).1
  done := by
    intro X hP hw hK hc i pins s σ H E I hf st hg
    subst hP hw hK
    obtain ⟨⟨o0, z0⟩, j0, ne⟩ := st
    obtain ⟨xs, hq, hx⟩ := hg
    obtain ⟨its, rv, tu, _⟩ := I.tuple hq
    have hl := rv.length
    obtain ⟨f0, f1, f2, f3, f4, f5⟩ := hf j (by simp)
    exact pyNext_enumT_end (I.ok.hd hc) z0 j0 tu (by simp; omega) fun g eb => ⟨rfl, I.turned (t' := s.toks) (fun b o hb q => eb b o hb q) f0 f1 f3 f4 f5⟩
  self := fun A i s Q E st q => wpAny_pyIter_enum st.1.choose_spec q
def iEnumT (K : PySem.W.Frag) (ta : TA) : TI := fun σ H R => ta σ H fun vs H1 => ∃ a xs, vs = [.ref a] ∧ SqT K H1 a xs ∧ R (IteT K a) H1
theorem pi_enumT {X : Cx} {e : Expr} {ta : TA} {p pos tpos : Pos} {elts : List Expr} {kk : Nat} (hg : Gl X "enumerate") (hm : X.mg "enumerate" = none) (ha : PA X [e] ta) (hs : starEach [e] X.env = [(false, eval e X.env)]) :
    PI X (.Tuple elts kk tpos) (.Call (.Name "enumerate" p) [e] [] pos) (iEnumT X.K ta) := by
  refine ⟨fun pins s σ H R I q => ?_⟩
  refine PyProof.Rows.Call_ (ld_blt I hg hm PyProof.Rows.boot_enumerate (PyProof.Rows.callWith_type1 (thn (ha.run pos pins s σ H _ I q) fun us s1 ⟨vs, H1, I1, r1, q1⟩ => ?_) hs rfl))
  obtain ⟨a, xs, rfl, hq, q⟩ := q1
  rw [Vals.ref1 r1]
  obtain ⟨its, rv, tu, _⟩ := I1.tuple hq
  refine call_enumT tu fun g z0 j0 hk => wpAny_pyIter_enum z0 ?_
  have I2 : Inv X pins σ H1 { s1 with heap := g } := I1.kept (t' := s1.toks) hk
  refine ⟨s1.heap.objs.size + 1, [s1.heap.objs.size + 1, s1.heap.objs.size], _, _, H1, rfl, I2, turn_enumT a _ _, ⟨⟨.none, z0⟩, j0, Nat.succ_ne_self _⟩, fun b hb => ?_, q⟩
  have hle : s1.heap.objs.size ≤ b := by
    rcases List.mem_cons.mp hb with rfl | hb
    · exact Nat.le_add_right _ _
    · obtain rfl := List.mem_singleton.mp hb
      exact Nat.le_refl _
  exact I1.fpOk hle (I1.hok.fresh hle)
end Z

end
section
/-! what makes turns; targets -/
namespace Z
open PySem PySem.Spec L2
/-- J walks the data ds from the state (G0, h0, H0) on -/
structure JOk (K : PySem.W.Frag) (CL : CLs) (J : L2.It) (ds : List D) (ck : Ck) (G0 : Gh) (h0 : CH) (H0 : Hp) : Prop where
  step : ∀ G h H i d, EvR G0 h0 H0 G h H → SR K CL G h H → ckOk ck h = true → ds[i]? = some d → J.go i H ∧ ∀ x H', J.yld i H x H' → EvR G h H G h H' ∧ SR K CL G h H' ∧ RV K CL h.length G H' d x
  stop : ∀ G h H i, EvR G0 h0 H0 G h H → SR K CL G h H → ckOk ck h = true → ds.length ≤ i → J.stop i H
def tI (X : Cx) (tg iter : Expr) : TI := fun σ H R => ∀ pins s, Inv X pins σ H s → wpAny (model X.prog X.w) X.A (eval iter X.env) (fun v s1 => wpAny (model X.prog X.w) X.A (pyIter v) (PIE X pins σ tg R) X.xe s1) X.xe s
theorem tI_pi (X : Cx) (tg iter : Expr) : PI X tg iter (tI X tg iter) := ⟨fun pins s σ H R I h => h pins s I⟩
theorem PI.go {X : Cx} {tg iter : Expr} {t : TI} (p : PI X tg iter t) {σ : List (Option V)} {H : Hp} {R : L2.It → Hp → Prop} (h : t σ H R) : tI X tg iter σ H R := fun pins s I => p.run pins s σ H R I h
def SI (X : Cx) (CL : CLs) (Φ : FS) (it : It) (tg iter : Expr) : Prop := ∀ (env : Env) (h h' : CH) (p : List D × Ck), evIt Φ it env h = .ok p h' → ∀ (G : Gh) (H : Hp) (σ : List (Option V)), SR X.K CL G h H → RE X.K CL h.length G H env σ → ∀ R : L2.It → Hp → Prop,
  (∀ J G' H', EvR G h H G' h' H' → SR X.K CL G' h' H' → JOk X.K CL J p.1 p.2 G' h' H' → R J H') → tI X tg iter σ H R
section
variable {L : LI} {X : Cx} {CL : CLs} {Φ : FS} {k : Nat}
mutual
theorem beq_eq : ∀ {a b : D}, a.beq b = true → a = b
  | .non, .non, _ => rfl
  | .bl a, .bl b, h => by simp [D.beq] at h; rw [h]
  | .int a, .int b, h => by simp [D.beq] at h; rw [h]
  | .str a, .str b, h => by simp [D.beq] at h; rw [h]
  | .tup a, .tup b, h => by simp only [D.beq] at h; rw [beqs_eq h]
  | .lst a, .lst b, h => by simp only [D.beq] at h; rw [beqs_eq h]
  | .cell a, .cell b, h => by simp [D.beq] at h; rw [h]
  | .ins c a, .ins k b, h => by simp only [D.beq, Bool.and_eq_true, beq_iff_eq] at h; rw [h.1, beqs_eq h.2]
  | .scr a, .scr b, h => by simp [D.beq] at h; rw [h]
  | .typ a, .typ b, h => by simp [D.beq] at h; rw [h]
theorem beqs_eq : ∀ {a b : List D}, beqs a b = true → a = b
  | [], [], _ => rfl
  | a :: r, b :: s, h => by
    simp only [beqs, Bool.and_eq_true] at h
    rw [beq_eq h.1, beqs_eq h.2]
end
theorem ck_some {n : Nat} {ds : List D} {h : CH} (e : ckOk (some (n, ds)) h = true) : h[n]? = some (.lst ds) := by
  simp only [ckOk] at e
  split at e
  · rename_i es q
    rw [beqs_eq e] at q
    exact q
  · cases e
/-- what a walked sequence shows, now and later -/
theorem walk_seq {G0 : Gh} {h0 : CH} {H0 : Hp} {v : D} {x : V} {ds : List D} (s0 : SR X.K CL G0 h0 H0) (e : items h0 v = some ds) (r : RV X.K CL h0.length G0 H0 v x) :
    ∃ a, x = .ref a ∧ ((∃ xs, SqL X.K H0 a xs) ∧ (∀ G h H, EvR G0 h0 H0 G h H → SR X.K CL G h H → ckOk (ckOf v ds) h = true → ∃ xs, SqL X.K H a xs ∧ RVs X.K CL h.length G H ds xs) ∨
      (∃ xs, SqT X.K H0 a xs) ∧ ∀ G h H, EvR G0 h0 H0 G h H → SR X.K CL G h H → ∃ xs, SqT X.K H a xs ∧ RVs X.K CL h.length G H ds xs) := by
  cases r with
  | tup a b => simp at e; subst e; exact ⟨_, rfl, .inr ⟨⟨_, a⟩, fun G h H ev s => ⟨_, SqT.mono (ev.k1 s0 _) a, b.ev s0 ev⟩⟩⟩
  | lst f a b => simp at e; subst e; exact ⟨_, rfl, .inl ⟨⟨_, SqL.of a⟩, fun G h H ev s _ => ⟨_, SqL.of (ev.k2 s0 _ _ f a fun z => z), b.ev s0 ev⟩⟩⟩
  | scr a => simp at e; subst e; exact ⟨_, rfl, .inl ⟨⟨_, a.sq⟩, fun G h H ev s _ => ⟨_, (a.mono ev.fr (ev.k1 s0 _) (ev.k2 s0 _)).sq, RVs.ofInts _⟩⟩⟩
  | @cell n l =>
    simp only [items] at e
    split at e
    · rename_i ds' q
      cases e
      obtain ⟨_, vs, a, b⟩ := s0.cell n _ q
      refine ⟨_, rfl, .inl ⟨⟨_, SqL.of a⟩, fun G h H ev s c => ?_⟩⟩
      obtain ⟨_, ws, a', b'⟩ := s.cell n _ (ck_some c)
      rw [ev.phi n l] at a'
      exact ⟨ws, SqL.of a', b'⟩
    · cases e
  | _ => simp at e
theorem SqL_inj {K : PySem.W.Frag} {H : Hp} {a : Addr} {xs ys : List V} {i : Nat} {x : V} (h : ∀ ys, SqL K H a ys → ys[i]? = some x) (q : SqL K H a xs) : xs[i]? = some x := h xs q
theorem si_seq {sc : Scope} {a : E} {tg iter : Expr} (ia : ∀ x, chkE L X.N sc a x = true → SE X CL Φ a x) (c : chkIt L X.N sc (.e a) iter = true) : SI X CL Φ (.e a) tg iter := by
  simp only [chkIt] at c
  intro env h h' p e G H σ s re R go
  simp only [evIt] at e
  obtain ⟨v, h1, ev, e⟩ := Z.R.bnd_inv e
  split at e
  · rename_i ds e1
    cases e
    intro pins st I
    -- the value comes first; what it is decides the walk
    have q := ia _ c env h _ _ ev G H σ s re (fun x H' => ∃ G', EvR G h H G' h' H' ∧ SR X.K CL G' h' H' ∧ RV X.K CL h'.length G' H' v x) (fun G' H' x a b c _ => ⟨G', a, b, c⟩) pins st I
    refine thn q fun u s1 ⟨x, H1, I1, r1, G1, e2, s2, rv⟩ => ?_
    obtain ⟨b, rfl, w | w⟩ := walk_seq s2 e1 rv
    · obtain ⟨⟨xs, hx⟩, w⟩ := w
      obtain ⟨its, rvl, pl, hz⟩ := I1.list hx
      cases (show u = Value.ref b from r1)
      refine wpAny_pyIter_list pl.isList ?_
      refine ⟨s1.heap.objs.size, [s1.heap.objs.size], _, _, H1, rfl, I1.kept (t' := s1.toks) fun b o e => Heap.get?_push_of_some _ e, turn_list b _, ⟨_, Heap.get?_push_size _ rfl, rfl, rfl⟩, fun c hb => ?_, go (Itl X.K b) G1 H1 e2 s2 ⟨fun G h H i d ev1 s3 ck hd => ?_, fun G h H i ev1 s3 ck hl => ?_⟩⟩
      · obtain rfl : c = s1.heap.objs.size := by simpa using hb
        exact I1.fpOk (Nat.le_refl _) (I1.hok.fresh (Nat.le_refl _))
      · obtain ⟨ys, q1, q2⟩ := w G h H ev1 s3 ck
        obtain ⟨y, y1, y2⟩ := q2.get hd
        refine ⟨⟨ys, y, q1, y1⟩, fun x' H' hy => ?_⟩
        obtain ⟨rfl, f⟩ := hy
        have ex := f ys q1
        rw [y1] at ex
        cases ex
        exact ⟨EvR.refl _ _ _, s3, y2⟩
      · obtain ⟨ys, q1, q2⟩ := w G h H ev1 s3 ck
        exact ⟨ys, q1, by rw [← q2.length]; exact hl⟩
    · obtain ⟨⟨xs, hx⟩, w⟩ := w
      obtain ⟨its, rvl, pl, hz⟩ := I1.tuple hx
      cases (show u = Value.ref b from r1)
      refine wpAny_pyIter_tuple pl ?_
      refine ⟨s1.heap.objs.size, [s1.heap.objs.size], _, _, H1, rfl, I1.kept (t' := s1.toks) fun b o e => Heap.get?_push_of_some _ e, turn_tuple b _, ⟨_, Heap.get?_push_size _ rfl, rfl, rfl⟩, fun c hb => ?_, go (Itt X.K b) G1 H1 e2 s2 ⟨fun G h H i d ev1 s3 ck hd => ?_, fun G h H i ev1 s3 ck hl => ?_⟩⟩
      · obtain rfl : c = s1.heap.objs.size := by simpa using hb
        exact I1.fpOk (Nat.le_refl _) (I1.hok.fresh (Nat.le_refl _))
      · obtain ⟨ys, q1, q2⟩ := w G h H ev1 s3
        obtain ⟨y, y1, y2⟩ := q2.get hd
        refine ⟨⟨ys, y, q1, y1⟩, fun x' H' hy => ?_⟩
        obtain ⟨rfl, f⟩ := hy
        have ex := f ys q1
        rw [y1] at ex
        cases ex
        exact ⟨EvR.refl _ _ _, s3, y2⟩
      · obtain ⟨ys, q1, q2⟩ := w G h H ev1 s3
        exact ⟨ys, q1, by rw [← q2.length]; exact hl⟩
  · cases e
theorem rngOk_iff {i : Int} (h : rngOk i = true) : -(2 ^ 62) ≤ i ∧ i < 2 ^ 62 := of_decide_eq_true h
theorem rngL_get {a : Int} {n i : Nat} {d : D} (h : (rngL a n)[i]? = some d) : i < n ∧ d = .int (a + (i : Nat)) := by
  have lt := lt_of_get h
  unfold rngL at h lt
  simp only [List.length_map, List.length_range] at lt
  rw [List.getElem?_map, List.getElem?_range lt] at h
  cases h
  exact ⟨lt, rfl⟩
theorem jok_rng {G0 : Gh} {h0 : CH} {H0 : Hp} (a : Int) (n : Nat) : JOk X.K CL (Itr a n) (rngL a n) none G0 h0 H0 where
  step := fun G h H i d ev s ck hd => by
    obtain ⟨lt, rfl⟩ := rngL_get hd
    refine ⟨lt, fun x H' hy => ?_⟩
    obtain ⟨rfl, rfl⟩ := hy
    exact ⟨EvR.refl _ _ _, s, .int _⟩
  stop := fun G h H i ev s ck hl => by
    have : (rngL a n).length = n := by simp [rngL]
    rw [this] at hl
    exact hl
theorem rngD_get {a : Int} {n i : Nat} {d : D} (h : (rngD a n)[i]? = some d) : i < n ∧ d = .int (a - (i : Nat)) := by
  have lt := lt_of_get h
  unfold rngD at h lt
  simp only [List.length_map, List.length_range] at lt
  rw [List.getElem?_map, List.getElem?_range lt] at h
  cases h
  exact ⟨lt, rfl⟩
theorem jok_rngC {G0 : Gh} {h0 : CH} {H0 : Hp} (a : Int) (n : Nat) : JOk X.K CL (Itc a (-1) n) (rngD a n) none G0 h0 H0 where
  step := fun G h H i d ev s ck hd => by
    obtain ⟨lt, rfl⟩ := rngD_get hd
    refine ⟨lt, fun x H' hy => ?_⟩
    obtain ⟨rfl, rfl⟩ := hy
    have e : a + ((i : Nat) : Int) * (-1) = a - (i : Nat) := by omega
    rw [e]
    exact ⟨EvR.refl _ _ _, s, .int _⟩
  stop := fun G h H i ev s ck hl => by
    have : (rngD a n).length = n := by simp [rngD]
    rw [this] at hl
    exact hl
theorem enum_get : ∀ {ds : List D} {k i : Nat} {d : D}, (enumFrom k ds)[i]? = some d → ∃ x, ds[i]? = some x ∧ d = .tup [.int ((k + i : Nat) : Int), x]
  | [], k, i, d, h => by simp [enumFrom] at h
  | y :: r, k, 0, d, h => by simp [enumFrom] at h; exact ⟨y, rfl, by rw [← h]; simp⟩
  | y :: r, k, i + 1, d, h => by
    obtain ⟨x, a, b⟩ := enum_get (ds := r) (k := k + 1) (i := i) (d := d) (by simpa [enumFrom] using h)
    refine ⟨x, by simpa using a, ?_⟩
    rw [b, show k + 1 + i = k + (i + 1) by omega]
theorem enum_len : ∀ (ds : List D) (k : Nat), (enumFrom k ds).length = ds.length
  | [], _ => rfl
  | _ :: r, k => by simp [enumFrom, enum_len r (k + 1)]
/-- a new pair -/
theorem pair_new {G : Gh} {h : CH} {H : Hp} {T : Addr} {d e : D} {x y : V} (s : SR X.K CL G h H) (nT : H T = none) (r : RV X.K CL h.length G H d x) (q : RV X.K CL h.length G H e y) :
    EvR G h H G h (upd H T (.tup [x, y])) ∧ SR X.K CL G h (upd H T (.tup [x, y])) ∧ RV X.K CL h.length G (upd H T (.tup [x, y])) (.tup [d, e]) (.ref T) := by
  obtain ⟨s1, e1⟩ := s.new (o := .tup [x, y]) False nT
  have eG : G.more False T = G := by
    unfold Gh.more
    cases G
    congr
    funext a
    simp
  rw [eG] at s1 e1
  exact ⟨e1, s1, .tup (SqT.of upd_same) (.cons (r.ev s e1) (.cons (q.ev s e1) .nil))⟩
/-- the second of two arguments -/
theorem two_args {L : LI} {N : List Str} {sc : Scope} {ev : PySem.Env} {es : Es} {y : Expr} {ys : List Expr} {a b : D} (hl : es.len = (y :: ys).length) (hv : [a, b].length = es.len) (c3 : chkEs L N sc es (y :: ys) = true) : ∃ z, ys = [z] ∧ starEach [z] ev = [(false, eval z ev)] := by
  have : (y :: ys).length = 2 := by rw [← hl, ← hv]; rfl
  cases ys with
  | nil => simp at this
  | cons z zs =>
    cases zs with
    | cons _ _ => simp at this
    | nil =>
      refine ⟨z, rfl, ?_⟩
      cases es with
      | nil => simp [chkEs] at c3
      | cons e1 es =>
        cases es with
        | nil => simp [chkEs] at c3
        | cons e2 es =>
          simp only [chkEs, Bool.and_eq_true] at c3
          exact chkE_star c3.2.1 [] ev
theorem zip_get : ∀ {xs ys : List D} {i : Nat} {d : D}, (zipL xs ys)[i]? = some d → ∃ x y, xs[i]? = some x ∧ ys[i]? = some y ∧ d = .tup [x, y]
  | x :: xs, y :: ys, 0, d, h => by simp [zipL] at h; exact ⟨x, y, rfl, rfl, h.symm⟩
  | x :: xs, y :: ys, i + 1, d, h => by
    obtain ⟨a, b, p, q, r⟩ := zip_get (xs := xs) (ys := ys) (i := i) (d := d) (by simpa [zipL] using h)
    exact ⟨a, b, by simpa using p, by simpa using q, r⟩
  | [], ys, i, d, h => by simp [zipL] at h
  | x :: xs, [], i, d, h => by simp [zipL] at h
theorem zip_len : ∀ (xs ys : List D), xs.length = ys.length → (zipL xs ys).length = xs.length
  | [], ys, h => by simp [zipL]
  | x :: xs, [], h => by simp at h
  | x :: xs, y :: ys, h => by simp [zipL, zip_len xs ys (by simpa using h)]
/-- what a walked list shows -/
theorem walk_lst {G0 : Gh} {h0 : CH} {H0 : Hp} {v : D} {x : V} {ds : List D} (nt : ¬ ∃ ds', v = .tup ds') (s0 : SR X.K CL G0 h0 H0) (e : items h0 v = some ds) (r : RV X.K CL h0.length G0 H0 v x) :
    ∃ a, x = .ref a ∧ (∃ xs, SqL X.K H0 a xs) ∧ (∀ G h H, EvR G0 h0 H0 G h H → SR X.K CL G h H → ckOk (ckOf v ds) h = true → ∃ xs, SqL X.K H a xs ∧ RVs X.K CL h.length G H ds xs) := by
  cases r with
  | tup a b => exact absurd ⟨_, rfl⟩ nt
  | lst f a b => simp at e; subst e; exact ⟨_, rfl, ⟨_, SqL.of a⟩, fun G h H ev s _ => ⟨_, SqL.of (ev.k2 s0 _ _ f a fun z => z), b.ev s0 ev⟩⟩
  | scr a => simp at e; subst e; exact ⟨_, rfl, ⟨_, a.sq⟩, fun G h H ev s _ => ⟨_, (a.mono ev.fr (ev.k1 s0 _) (ev.k2 s0 _)).sq, RVs.ofInts _⟩⟩
  | @cell n l =>
    simp only [items] at e
    split at e
    · rename_i ds' q
      cases e
      obtain ⟨_, vs, a, b⟩ := s0.cell n _ q
      refine ⟨_, rfl, ⟨_, SqL.of a⟩, fun G h H ev s c => ?_⟩
      obtain ⟨_, ws, a', b'⟩ := s.cell n _ (ck_some c)
      rw [ev.phi n l] at a'
      exact ⟨ws, SqL.of a', b'⟩
    · cases e
  | _ => simp at e
theorem si_own (xc : XC L CL Φ k X) {sc : Scope} {a : E} {c0 j : Nat} {tg iter : Expr} (ia : ∀ x, chkE L X.N sc a x = true → SE X CL Φ a x) (c : chkIt L X.N sc (.own a c0 j) iter = true) : SI X CL Φ (.own a c0 j) tg iter := by
  simp only [chkIt, Bool.and_eq_true, decide_eq_true_eq] at c
  obtain ⟨c1, c2⟩ := c
  obtain ⟨C, g, f, fd, q1, q2, q3, q4, q5, q6, F, B⟩ := (xc.itr c0 j c1).ex
  intro env h h' p e G H σ s re R go
  simp only [evIt] at e
  obtain ⟨v, h1, ev, e⟩ := Z.R.bnd_inv e
  obtain ⟨d, h2, ef, e⟩ := Z.R.bnd_inv e
  split at e
  · rename_i ds
    cases e
    refine PI.go (pi_own (tE_pe X iter) q5 q6 F xc.room1 B) ?_
    refine ia _ c2 env h _ _ ev G H σ s re _ fun G1 H1 x e1 s1 r1 l1 => ?_
    unfold fldV at ef
    split at ef
    · rename_i kk ds' ei
      split at ef
      · rename_i hk
        subst hk
        split at ef
        · rename_i d0 ed
          cases ef
          obtain ⟨a1, C1, dx1, fs, rfl, g1, g2, nm, rr⟩ := ins_at s1 ei r1
          rw [q1] at g1
          cases g1
          rw [q2] at nm
          obtain ⟨v1, w1, w2⟩ := RVs.at_ rr ed
          have lf : fs.length = ds'.length := by
            have := rr.length
            simpa using this.symm
          cases w2 with
          | @tup b vs _ hb rb =>
            refine ⟨a1, dx1, fs, b, vs, rfl, g2, lookup_at (by rw [lf]; exact nm) q4 q3 w1, hb, go (Itt X.K b) G1 H1 e1 s1 ⟨fun G h H i d ev1 s3 ck hd => ?_, fun G h H i ev1 s3 ck hl => ?_⟩⟩
            · have q1 := SqT.mono (ev1.k1 s1 _) hb
              obtain ⟨y, y1, y2⟩ := (rb.ev s1 ev1).get hd
              refine ⟨⟨vs, y, q1, y1⟩, fun x' H' hy => ?_⟩
              obtain ⟨rfl, f⟩ := hy
              have ex := f vs q1
              rw [y1] at ex
              cases ex
              exact ⟨EvR.refl _ _ _, s3, y2⟩
            · exact ⟨vs, SqT.mono (ev1.k1 s1 _) hb, by rw [← rb.length]; exact hl⟩
        · cases ef
      · cases ef
    · cases ef
  · cases e
theorem si_fn (xc : XC L CL Φ k X) {sc : Scope} (hs : X.env.scope = sc) {fn : Tn} {es : Es} {tg iter : Expr} {tt : Tg} (hp : isPair (.f fn es) tt = true) (ht : ∀ ts, tt = .tp ts → ∃ elts kk tp, tg = .Tuple elts kk tp) (ies : ∀ x, chkEs L X.N sc es x = true → SEs X CL Φ es x) (c : chkIt L X.N sc (.f fn es) iter = true) : SI X CL Φ (.f fn es) tg iter := by
  simp only [chkIt] at c
  split at c
  · rename_i g gp y ys pos
    simp only [Bool.and_eq_true, decide_eq_true_eq] at c
    obtain ⟨rfl, c1, c2, c3⟩ := c
    have hm := xc.bi _ c2
    have gl := gl_ok hs c1
    obtain ⟨st1, st2⟩ := args_star c3 X.env pos
    have hl := chkEs_len c3
    intro env h h' p e G H σ s re R go
    simp only [evIt] at e
    obtain ⟨vs, h1, ev, e0⟩ := Z.R.bnd_inv e
    clear e
    have hv := evEs_len ev
    -- the arguments' values
    have args : ∀ Q : List V → Hp → Prop, (∀ G' H' xs, EvR G h H G' h1 H' → SR X.K CL G' h1 H' → RVs X.K CL h1.length G' H' vs xs → Q xs H') → tA X (y :: ys) σ H Q := fun Q q => ies _ c3 env h _ _ ev G H σ s re Q fun G' H' xs a b c _ => q G' H' xs a b c
    unfold itD at e0
    split at e0
    · rename_i n
      split at e0
      · rename_i hr
        cases e0
        have ly : ys = [] := by
          have : (y :: ys).length = 1 := by rw [← hl, ← hv]; rfl
          cases ys with
          | nil => rfl
          | cons _ _ => simp at this
        subst ly
        have hr := rngOk_iff hr
        refine PI.go (pi_range1 gl hm (tA_pa X _) st1) (args _ fun G' H' xs a b r => ?_)
        obtain ⟨v, rfl, rv⟩ := one_inv r
        cases rv
        exact ⟨n, rfl, hr.1, hr.2, go _ G' H' a b (jok_rng 0 n.toNat)⟩
      · cases e0
    · rename_i a0 b0
      split at e0
      · rename_i hr
        rw [Bool.and_eq_true] at hr
        cases e0
        have ly : ∃ z, ys = [z] := by
          have : (y :: ys).length = 2 := by rw [← hl, ← hv]; rfl
          cases ys with
          | nil => simp at this
          | cons z zs => cases zs with
            | nil => exact ⟨z, rfl⟩
            | cons _ _ => simp at this
        obtain ⟨z, rfl⟩ := ly
        have h1 := rngOk_iff hr.1
        have h2 := rngOk_iff hr.2
        have st3 : starEach [z] X.env = [(false, eval z X.env)] := by
          cases es with
          | nil => simp [chkEs] at c3
          | cons e1 es =>
            cases es with
            | nil => simp [chkEs] at c3
            | cons e2 es =>
              simp only [chkEs, Bool.and_eq_true] at c3
              exact chkE_star c3.2.1 [] X.env
        refine PI.go (pi_range2 gl hm (tA_pa X _) (by rw [st1, st3]) st3) (args _ fun G' H' xs a b r => ?_)
        obtain ⟨v, w, rfl, rv, rw⟩ := two_inv r
        cases rv
        cases rw
        exact ⟨a0, b0, rfl, ⟨h1.1, h1.2, h2.1, h2.2⟩, go _ G' H' a b (jok_rng a0 (b0 - a0).toNat)⟩
      · cases e0
    · rename_i a0 b0 c0
      split at e0
      · rename_i hr
        rw [Bool.and_eq_true, Bool.and_eq_true, decide_eq_true_eq] at hr
        obtain ⟨⟨h1, h2⟩, rfl⟩ := hr
        cases e0
        have h1 := rngOk_iff h1
        have h2 := rngOk_iff h2
        have ly : ∃ z w, ys = [z, w] := by
          have : (y :: ys).length = 3 := by rw [← hl, ← hv]; rfl
          cases ys with
          | nil => simp at this
          | cons z zs => cases zs with
            | nil => simp at this
            | cons w ws => cases ws with
              | nil => exact ⟨z, w, rfl⟩
              | cons _ _ => simp at this
        obtain ⟨z, w, rfl⟩ := ly
        have st3 : starEach [z, w] X.env = [(false, eval z X.env), (false, eval w X.env)] := by
          cases es with
          | nil => simp [chkEs] at c3
          | cons e1 es =>
            cases es with
            | nil => simp [chkEs] at c3
            | cons e2 es =>
              cases es with
              | nil => simp [chkEs] at c3
              | cons e3 es =>
                simp only [chkEs, Bool.and_eq_true] at c3
                rw [chkE_star c3.2.1, chkE_star c3.2.2.1]; rfl
        have st4 : starEach [y, z, w] X.env = [(false, eval y X.env), (false, eval z X.env), (false, eval w X.env)] := by rw [st1, st3]
        refine PI.go (pi_range3 gl hm (tA_pa X _) st1 st2) (args _ fun G' H' xs a b r => ?_)
        cases r with
        | cons r1 r =>
          obtain ⟨v, w, rfl, rv, rw⟩ := two_inv r
          cases r1
          cases rv
          cases rw
          exact ⟨a0, b0, -1, (a0 - b0).toNat, rfl, RgC.neg h1.1 h1.2 h2.1 h2.2, go _ G' H' a b (jok_rngC a0 (a0 - b0).toNat)⟩
      · cases e0
    · rename_i x
      have ly : ys = [] := by
        have : (y :: ys).length = 1 := by rw [← hl, ← hv]; rfl
        cases ys with
        | nil => rfl
        | cons _ _ => simp at this
      subst ly
      cases tt with
      | nm i => cases hp
      | tp ts =>
        obtain ⟨elts, kk, tpos, rfl⟩ := ht ts rfl
        split at e0
        · rename_i ds e1
          split at e0
          · cases e0
          · rename_i ns
            cases e0
            by_cases hx : ∃ ds', x = .tup ds'
            · obtain ⟨ds', rfl⟩ := hx
              simp only [items, Option.some.injEq] at e1
              subst e1
              refine PI.go (pi_enumT gl hm (tA_pa X _) st1) (args _ fun G' H' xs a b r => ?_)
              obtain ⟨v, rfl, rv⟩ := one_inv r
              cases rv with
              | @tup ad xs _ a1 b1 =>
                refine ⟨ad, xs, rfl, a1, go _ G' H' a b ⟨fun G h H i d ev1 s3 ck hd => ?_, fun G h H i ev1 s3 ck hl => ?_⟩⟩
                · have q1 := SqT.mono (ev1.k1 b _) a1
                  have q2 := b1.ev b ev1
                  obtain ⟨d', hd', rfl⟩ := enum_get hd
                  obtain ⟨yv, y1, y2⟩ := q2.get hd'
                  refine ⟨⟨xs, yv, q1, y1⟩, fun x' H2 hy => ?_⟩
                  obtain ⟨T, x2, rfl, nT, rfl, f⟩ := hy
                  have ex := f xs q1
                  rw [y1] at ex
                  cases ex
                  rw [Nat.zero_add]
                  exact pair_new s3 nT (.int _) y2
                · have q1 := SqT.mono (ev1.k1 b _) a1
                  have q2 := b1.ev b ev1
                  exact ⟨xs, q1, by rw [← q2.length, ← enum_len _ 0]; exact hl⟩
            · refine PI.go (pi_enum gl hm (tA_pa X _) st1) (args _ fun G' H' xs a b r => ?_)
              obtain ⟨v, rfl, rv⟩ := one_inv r
              obtain ⟨ad, rfl, ⟨xs, hx⟩, w⟩ := walk_lst hx b e1 rv
              refine ⟨ad, xs, rfl, hx, go _ G' H' a b ⟨fun G h H i d ev1 s3 ck hd => ?_, fun G h H i ev1 s3 ck hl => ?_⟩⟩
              · obtain ⟨ys, q1, q2⟩ := w G h H ev1 s3 ck
                obtain ⟨d', hd', rfl⟩ := enum_get hd
                obtain ⟨yv, y1, y2⟩ := q2.get hd'
                refine ⟨⟨ys, yv, q1, y1⟩, fun x' H2 hy => ?_⟩
                obtain ⟨T, x2, rfl, nT, rfl, f⟩ := hy
                have ex := f ys q1
                rw [y1] at ex
                cases ex
                rw [Nat.zero_add]
                exact pair_new s3 nT (.int _) y2
              · obtain ⟨ys, q1, q2⟩ := w G h H ev1 s3 ck
                exact ⟨ys, q1, by rw [← q2.length, ← enum_len ds 0]; exact hl⟩
        · cases e0
    · rename_i xs0 ys0
      split at e0
      · rename_i hlen
        cases e0
        obtain ⟨z, rfl, st3⟩ : ∃ z, ys = [z] ∧ starEach [z] X.env = [(false, eval z X.env)] := two_args hl hv c3
        cases tt with
        | nm i => cases hp
        | tp ts =>
          obtain ⟨elts, kk, tpos, rfl⟩ := ht ts rfl
          refine PI.go (RZ.pi_zipA gl hm (tA_pa X _) (by rw [st1]) (by rw [st3]; rfl)) (args _ fun G' H' xs a b r => ?_)
          obtain ⟨v, w, rfl, rv, rw⟩ := two_inv r
          cases rv with
          | @tup a1 xs1 _ p1 p2 =>
            cases rw with
            | @tup a2 xs2 _ p3 p4 =>
              refine ⟨a1, a2, xs1, xs2, rfl, .inr ⟨p1, p3, go _ G' H' a b ⟨fun G h H i d ev1 s3 ck hd => ?_, fun G h H i ev1 s3 ck hl => ?_⟩⟩⟩
              · have q1 := SqT.mono (ev1.k1 b _) p1
                have q3 := SqT.mono (ev1.k1 b _) p3
                obtain ⟨d1, d2, g1, g2, rfl⟩ := zip_get hd
                obtain ⟨yv, y1, y2⟩ := (p2.ev b ev1).get g1
                obtain ⟨zv, z1, z2⟩ := (p4.ev b ev1).get g2
                refine ⟨⟨xs1, xs2, yv, zv, q1, q3, y1, z1⟩, fun x' H2 hy => ?_⟩
                obtain ⟨T, xa, xb, rfl, nT, rfl, f, g⟩ := hy
                have ex := f _ q1
                have ey := g _ q3
                rw [y1] at ex
                rw [z1] at ey
                cases ex
                cases ey
                exact pair_new s3 nT y2 z2
              · have q1 := SqT.mono (ev1.k1 b _) p1
                have q3 := SqT.mono (ev1.k1 b _) p3
                refine ⟨xs1, xs2, q1, q3, .inl ?_⟩
                rw [← p2.length]
                rw [zip_len _ _ hlen] at hl
                exact hl
      · cases e0
    · rename_i xs0 ys0
      split at e0
      · rename_i hlen
        cases e0
        obtain ⟨z, rfl, st3⟩ : ∃ z, ys = [z] ∧ starEach [z] X.env = [(false, eval z X.env)] := two_args hl hv c3
        cases tt with
        | nm i => cases hp
        | tp ts =>
          obtain ⟨elts, kk, tpos, rfl⟩ := ht ts rfl
          refine PI.go (RZ.pi_zipA gl hm (tA_pa X _) (by rw [st1]) (by rw [st3]; rfl)) (args _ fun G' H' xs a b r => ?_)
          obtain ⟨v, w, rfl, rv, rw⟩ := two_inv r
          cases rv with
          | @lst a1 xs1 _ f1 p1 p2 =>
            cases rw with
            | @lst a2 xs2 _ f2 p3 p4 =>
              refine ⟨a1, a2, xs1, xs2, rfl, .inl ⟨SqL.of p1, SqL.of p3, go _ G' H' a b ⟨fun G h H i d ev1 s3 ck hd => ?_, fun G h H i ev1 s3 ck hl => ?_⟩⟩⟩
              · have q1 := SqL.of (K := X.K) (ev1.k2 b _ _ f1 p1 fun z => z)
                have q3 := SqL.of (K := X.K) (ev1.k2 b _ _ f2 p3 fun z => z)
                obtain ⟨d1, d2, g1, g2, rfl⟩ := zip_get hd
                obtain ⟨yv, y1, y2⟩ := (p2.ev b ev1).get g1
                obtain ⟨zv, z1, z2⟩ := (p4.ev b ev1).get g2
                refine ⟨⟨xs1, xs2, yv, zv, q1, q3, y1, z1⟩, fun x' H2 hy => ?_⟩
                obtain ⟨T, xa, xb, rfl, nT, rfl, f, g⟩ := hy
                have ex := f _ q1
                have ey := g _ q3
                rw [y1] at ex
                rw [z1] at ey
                cases ex
                cases ey
                exact pair_new s3 nT y2 z2
              · have q1 := SqL.of (K := X.K) (ev1.k2 b _ _ f1 p1 fun z => z)
                have q3 := SqL.of (K := X.K) (ev1.k2 b _ _ f2 p3 fun z => z)
                refine ⟨xs1, xs2, q1, q3, .inl ?_⟩
                rw [← p2.length]
                rw [zip_len _ _ hlen] at hl
                exact hl
      · cases e0
    · cases e0
  · cases c
end
end Z

end
section
/-! targets; comprehensions -/
namespace Z
open PySem PySem.Spec L2
def gsTg : List Nat → TGs
  | [] => gNil
  | i :: is => gCons (gName i) (gsTg is)
def gTg (K : PySem.W.Frag) : Tg → TG
  | .nm i => gName i
  | .tp is => gTup K is.length (gsTg is)
theorem wipe_get (σ : List (Option V)) (j : Nat) : ∀ vs : List Nat, (wipe σ vs)[j]? = if j ∈ vs ∧ j < σ.length then some none else σ[j]?
  | [] => by simp [wipe]
  | v :: vs => by
    unfold wipe
    by_cases h : v = j
    · subst h
      by_cases hl : v < σ.length
      · rw [List.getElem?_set_self (by rw [wipe_length]; exact hl)]
        simp [hl]
      · rw [List.getElem?_eq_none (by simp [wipe_length]; omega)]
        simp [hl]
    · rw [List.getElem?_set_ne h, wipe_get σ j vs]
      have : ¬ j = v := fun e => h e.symm
      simp [this]
theorem wipe_set {σ : List (Option V)} {i : Nat} {x : Option V} {vs : List Nat} (h : i ∈ vs) : wipe (σ.set i x) vs = wipe σ vs := by
  apply List.ext_getElem?
  intro j
  rw [wipe_get, wipe_get, List.length_set]
  by_cases hj : i = j
  · subst hj
    by_cases hl : i < σ.length
    · simp [h, hl]
    · simp [h, hl]
  · rw [List.getElem?_set_ne hj]
theorem wipe_wipe (σ : List (Option V)) (vs : List Nat) : wipe (wipe σ vs) vs = wipe σ vs := by
  apply List.ext_getElem?
  intro j
  rw [wipe_get, wipe_get, wipe_length]
  by_cases h : j ∈ vs ∧ j < σ.length
  · simp [h]
  · simp [h]
section
variable {L : LI} {X : Cx} {CL : CLs} {Φ : FS} {k : Nat}
theorem stB_ok {N : List Str} {sc : Scope} {fn : Str → Bool} {i : Nat} {x : Str} (h : stB N sc fn i x = true) : N[i]? = some x ∧ Loc sc x ∧ (fn x = true ∨ sc.names.lookup x = some .local) := by
  unfold stB at h
  simp only [Bool.and_eq_true, Bool.or_eq_true, decide_eq_true_eq] at h
  obtain ⟨h1, h2 | ⟨h2, h3⟩⟩ := h
  · exact ⟨h1, .inl h2, .inr h2⟩
  · exact ⟨h1, .inr h2, .inl h3⟩
theorem pgs_tg {sc : Scope} {fn : Str → Bool} (nd : X.N.Nodup) (hs : X.env.scope = sc) (hf : X.fn = fn) : ∀ {is : List Nat} {xs : List Expr}, chkTgs X.N sc fn is xs = true → PGs X xs (gsTg is) ∧ (assignEach xs X.env).length = is.length ∧ (assignEach xs X.env).findIdx? (·.1) = none
  | [], [], _ => ⟨pgs_nil, rfl, rfl⟩
  | [], _ :: _, h => by simp [chkTgs] at h
  | i :: is, [], h => by simp [chkTgs] at h
  | i :: is, x :: xs, h => by
    cases x with
    | Name x p =>
      simp only [chkTgs, Bool.and_eq_true] at h
      obtain ⟨a, b, c⟩ := pgs_tg nd hs hf h.2
      obtain ⟨s1, s2, s3⟩ := stB_ok h.1
      subst hs hf
      refine ⟨pgs_cons (pg_name nd s1 s2 s3) a, ?_, ?_⟩
      · show (assignEach xs X.env).length + 1 = is.length + 1
        rw [b]
      · show List.findIdx? (·.1) ((false, assign (.Name x p) X.env) :: assignEach xs X.env) = none
        rw [List.findIdx?_cons]
        simp [c]
    | _ => simp [chkTgs] at h
theorem pg_tg {sc : Scope} {fn : Str → Bool} (hc : X.calm = true) (nd : X.N.Nodup) (hs : X.env.scope = sc) (hf : X.fn = fn) {tg : Tg} {x : Expr} (h : chkTg X.N sc fn tg x = true) : PG X x (gTg X.K tg) := by
  cases tg with
  | nm i =>
    cases x with
    | Name x p =>
      obtain ⟨s1, s2, s3⟩ := stB_ok (show stB X.N sc fn i x = true from h)
      subst hs hf
      exact pg_name nd s1 s2 s3
    | _ => simp [chkTg] at h
  | tp is =>
    cases x with
    | Tuple xs kk p =>
      obtain ⟨a, b, c⟩ := pgs_tg nd hs hf (show chkTgs X.N sc fn is xs = true from h)
      exact pg_tup hc a b c
    | _ => simp [chkTg] at h
theorem gs_ok {K : PySem.W.Frag} {N : Nat} {G : Gh} {H : Hp} : ∀ {is : List Nat} {ds : List D} {vs : List V} {env : Env} {σ : List (Option V)}, ds.length = is.length → RVs K CL N G H ds vs → RE K CL N G H env σ →
    ∃ σ', RE K CL N G H (setAll is ds env) σ' ∧ (∀ Q : L2.St → Hp → Prop, Q σ' H → gsTg is vs σ H Q) ∧ ∀ ws, (∀ i ∈ is, i ∈ ws) → wipe σ' ws = wipe σ ws
  | [], [], _, env, σ, _, .nil, re => ⟨σ, re, fun Q q => ⟨rfl, q⟩, fun _ _ => rfl⟩
  | [], _ :: _, _, _, _, h, _, _ => by simp at h
  | _ :: _, [], _, _, _, h, _, _ => by simp at h
  | i :: is, d :: ds, _, env, σ, h, .cons r rs, re => by
    obtain ⟨σ', a, b, c⟩ := gs_ok (is := is) (by simpa using h) rs (re.set r i)
    exact ⟨σ', a, fun Q q => ⟨_, _, rfl, b Q q⟩, fun ws hw => (c ws fun j hj => hw j (List.mem_cons_of_mem _ hj)).trans (wipe_set (hw i List.mem_cons_self))⟩
def Tg.ids : Tg → List Nat
  | .nm i => [i]
  | .tp is => is
theorem asg_ok {K : PySem.W.Frag} {N : Nat} {G : Gh} {H : Hp} {tg : Tg} {d : D} {v : V} {env env' : Env} {σ : List (Option V)} (e : asgTg tg d env = some env') (r : RV K CL N G H d v) (re : RE K CL N G H env σ) :
    ∃ σ', RE K CL N G H env' σ' ∧ (∀ Q : L2.St → Hp → Prop, Q σ' H → gTg K tg v σ H Q) ∧ ∀ ws, (∀ i ∈ tg.ids, i ∈ ws) → wipe σ' ws = wipe σ ws := by
  cases tg with
  | nm i =>
    cases e
    exact ⟨_, re.set r i, fun Q q => q, fun ws hw => wipe_set (hw i (by simp [Tg.ids]))⟩
  | tp is =>
    simp only [asgTg] at e
    split at e
    · rename_i ds
      split at e
      · rename_i hl
        cases e
        cases r with
        | tup a b =>
          obtain ⟨σ', p, q, w⟩ := gs_ok hl b re
          exact ⟨σ', p, fun Q h => ⟨_, _, rfl, a, by rw [← b.length]; exact hl, q Q h⟩, w⟩
      · cases e
    · cases e
theorem own_ok {tg : Tg} {own : List (Str × Nat)} (h : ownB tg own = true) : ∀ i ∈ tg.ids, i ∈ own.map (·.2) := by
  cases tg with
  | nm i =>
    intro j hj
    simp only [Tg.ids, List.mem_singleton] at hj
    subst hj
    exact of_decide_eq_true h
  | tp is =>
    intro j hj
    have := List.all_eq_true.1 (show (is.all fun i => decide (i ∈ own.map (·.2))) = true from h) j hj
    exact of_decide_eq_true this
theorem more_false (G : Gh) (T : Addr) : G.more False T = G := by
  unfold Gh.more
  cases G
  congr
  funext a
  simp
/-- without the object at D -/
def dl (H : Hp) (D : Addr) : Hp := fun a => if a = D then none else H a
theorem dl_upd (H : Hp) (D : Addr) (o : HO) : upd (dl H D) D o = upd H D o := by
  funext a
  by_cases h : a = D
  · subst h; rw [upd_same, upd_same]
  · rw [upd_ne h, upd_ne h]; exact if_neg h
/-- what was made beside D stands without it -/
theorem SR.del {K : PySem.W.Frag} {G G' : Gh} {h h' : CH} {Hm H' : Hp} {D : Addr} {o : HO} (s : SR K CL G h Hm) (nD : Hm D = none) (E : EvR G h (upd Hm D o) G' h' H') (s' : SR K CL G' h' H') (mo : Mut (some o)) (mx : ∀ f, o ≠ .ext f) :
    H' D = some o ∧ SR K CL G' h' (dl H' D) ∧ EvR G h Hm G' h' (dl H' D) ∧ ∀ d v, RV K CL h'.length G' H' d v → RV K CL h'.length G' (dl H' D) d v := by
  have off : ∀ n c, h[n]? = some c → c.live = true → G.φ n ≠ D := fun n c q l z => by
    obtain ⟨_, u, b, _⟩ := s.obj q l
    rw [z, nD] at b
    cases b
  have hD : H' D = some o := E.frame D o upd_same (tb_mut mo) off
  have off' : ∀ n c, h'[n]? = some c → c.live = true → G'.φ n ≠ D := fun n c q l z => by
    rcases E.new n c q l with ⟨lt, e1, q1, l1⟩ | f
    · exact off n e1 q1 l1 ((E.phi n lt).symm.trans z)
    · rw [z, upd_same] at f; cases f
  have nF0 : ¬ G.F D := fun f => s.fh D f nD
  have nF : ¬ G'.F D := fun f => by
    rcases E.nf D f with f | f | ⟨n, c, q, l, z⟩
    · exact nF0 f
    · rw [upd_same] at f; cases f
    · exact off n c q l z
  have dn : ∀ a, a ≠ D → dl H' D a = H' a := fun a h => if_neg h
  have k1 : ∀ a u, H' a = some u → ¬ Sh (some u) → dl H' D a = some u := fun a u q m => by
    have : a ≠ D := fun z => by subst z; rw [hD] at q; cases q; exact m (sh_mut mo)
    rw [dn a this]; exact q
  have k2 : ∀ a u, G'.F a → H' a = some u → ¬ TB u → dl H' D a = some u := fun a u f q _ => by
    have : a ≠ D := fun z => by subst z; exact nF f
    rw [dn a this]; exact q
  have up : ∀ a, a ≠ D → upd Hm D o a = Hm a := fun a h => upd_ne h
  refine ⟨hD, ⟨fun n c q => ?_, s'.inj, fun a f => ?_, ?_⟩, ⟨E.len, E.phi, E.fr, fun a u q nt no => ?_, fun n c q l => ?_, fun a f => ?_, fun a q => ?_⟩, fun d v r => r.keep (Nat.le_refl _) (fun _ _ => rfl) (fun _ f => f) k1 k2⟩
  · exact (s'.cell n c q).keep (G' := G') (Nat.le_refl _) (fun _ _ => rfl) (fun _ f => f) k1 k2 rfl (fun l => (s'.obj q l).1) fun l => dn _ (off' n c q l)
  · have : a ≠ D := fun z => by subst z; exact nF f
    rw [dn a this]; exact s'.fh a f
  · intro p hp
    obtain ⟨ps, h1, h2, h3⟩ := s'.tabs p hp
    refine ⟨ps, ?_, h2, fun pos cv hc => ?_⟩
    · rw [dn _ fun z => by rw [z, hD] at h1; cases h1; exact mo]; exact h1
    · obtain ⟨c, e1, e2⟩ := h3 pos cv hc
      exact ⟨c, e1, by rw [dn _ fun z => by rw [z, hD] at e2; exact mx _ (Option.some.inj e2)]; exact e2⟩
  · have : a ≠ D := fun z => by subst z; rw [nD] at q; cases q
    rw [dn a this]; exact E.frame a u (by rw [up a this]; exact q) nt no
  · rcases E.new n c q l with z | f
    · exact .inl z
    · refine .inr ?_
      rw [up _ (off' n c q l)] at f
      exact f
  · rcases E.nf a f with z | z | z
    · exact .inl z
    · by_cases e : a = D
      · subst e; exact .inr (.inl nD)
      · rw [up a e] at z; exact .inr (.inl z)
    · exact .inr (.inr z)
  · have : a ≠ D := fun z => by subst z; exact q nD
    rw [dn a this]; exact E.tr a (by rw [up a this]; exact q)
theorem RVs.del {K : PySem.W.Frag} {G : Gh} {H H' : Hp} {N : Nat} (f : ∀ d v, RV K CL N G H d v → RV K CL N G H' d v) : ∀ {ds : List D} {vs : List V}, RVs K CL N G H ds vs → RVs K CL N G H' ds vs
  | _, _, .nil => .nil
  | _, _, .cons a b => .cons (f _ _ a) (RVs.del f b)
/-- the block of a comprehension, at any place -/
def tEb (X : Cx) (scope : Scope) (x : Expr) : TE := fun σ H Q => ∀ (s : Shared) (H0 : Hp) (C : Addr) (cl : List (Str × Addr)) (fp : List Addr), tE (X.blk s H0 scope (compEnvC scope cl C X.env) fp) x σ H Q
def tTb (X : Cx) (scope : Scope) (fs : List Expr) : TT := match fs with
  | [y] => fun σ H Q => ∀ (s : Shared) (H0 : Hp) (C : Addr) (cl : List (Str × Addr)) (fp : List Addr), tT (X.blk s H0 scope (compEnvC scope cl C X.env) fp) y σ H Q
  | _ => tYes
/-- what a comprehension's parts are known to do -/
structure CPs (X : Cx) (CL : CLs) (Φ : FS) (scope : Scope) (own : List (Str × Nat)) (tg : Tg) (it : It) (c : Oe) (e : E) (elt t i : Expr) (fs : List Expr) : Prop where
  calm : X.calm = true
  nd : X.N.Nodup
  hi : SI X CL Φ it t i
  ok : BlkOk X.N X.env.scope scope own
  hg : ∀ (s : Shared) (H : Hp) (C : Addr) (cl : List (Str × Addr)) (fp : List Addr), PG (X.blk s H scope (compEnvC scope cl C X.env) fp) t (gTg X.K tg)
  he : ∀ (s : Shared) (H : Hp) (C : Addr) (cl : List (Str × Addr)) (fp : List Addr), SE (X.blk s H scope (compEnvC scope cl C X.env) fp) CL Φ e elt
  ht : (c = .none ∧ fs = []) ∨ ∃ e1 y, c = .some e1 ∧ fs = [y] ∧ ∀ (s : Shared) (H : Hp) (C : Addr) (cl : List (Str × Addr)) (fp : List Addr), ST (X.blk s H scope (compEnvC scope cl C X.env) fp) CL Φ e1 y
  ow : ∀ j ∈ tg.ids, j ∈ own.map (·.2)
  hs : ∀ x, foldedSetIterable i X.env x = pure x
theorem CPs.pts {scope : Scope} {own : List (Str × Nat)} {tg : Tg} {it : It} {c : Oe} {e : E} {elt t i : Expr} {fs : List Expr} (p : CPs X CL Φ scope own tg it c e elt t i fs) (s : Shared) (H : Hp) (C : Addr) (cl : List (Str × Addr)) (fp : List Addr) : PTs (X.blk s H scope (compEnvC scope cl C X.env) fp) fs (tTb X scope fs) := by
  rcases p.ht with ⟨_, rfl⟩ | ⟨e1, y, _, rfl, _⟩
  · exact pts_nil
  · exact pts_one ⟨fun pins s2 σ H2 Q I h => h s H C cl fp pins s2 I⟩
theorem CPs.pe {scope : Scope} {own : List (Str × Nat)} {tg : Tg} {it : It} {c : Oe} {e : E} {elt t i : Expr} {fs : List Expr} (s : Shared) (H : Hp) (C : Addr) (cl : List (Str × Addr)) (fp : List Addr) : PE (X.blk s H scope (compEnvC scope cl C X.env) fp) elt (tEb X scope elt) :=
  ⟨fun pins s2 σ H2 Q I h => h s H C cl fp pins s2 I⟩
/-- the walk of a comprehension -/
theorem CPs.lc {scope : Scope} {own : List (Str × Nat)} {tg : Tg} {it : It} {c : Oe} {e : E} {elt t i : Expr} {fs : List Expr} (p : CPs X CL Φ scope own tg it c e elt t i fs) {m : Bool} {env : Env} {h h' : CH} {d : D} (q : evE Φ (.comp m own tg it c e) env h = .ok d h')
    {G : Gh} {H : Hp} {σ : List (Option V)} (s : SR X.K CL G h H) (re : RE X.K CL h.length G H env σ) {Q : VK} (fin : ∀ G' H' v, EvR G h H G' h' H' → SR X.K CL G' h' H' → RV X.K CL h'.length G' H' d v → Q v H') :
    tLc (tI X t i) (gTg X.K tg) (tTb X scope fs) (tEb X scope elt) (own.map (·.2)) σ H Q := by
  simp only [evE] at q
  obtain ⟨pr, h1, q1, q⟩ := Z.R.bnd_inv q
  obtain ⟨ys, h2, q2, q⟩ := Z.R.bnd_inv q
  split at q
  · rename_i hsz
    refine p.hi env h h1 pr q1 G H σ s re _ fun J G1 H1 e1 s1 jok => fun D nD => ?_
    let body : Nat → Hp → Prop := fun j Hx => ∃ (Gx : Gh) (hx : CH) (Hm : Hp) (acc : List V) (yd rest : List Z.D), Hx = upd Hm D (.lst acc) ∧ Hm D = none ∧ SR X.K CL Gx hx Hm ∧ EvR G1 h1 H1 Gx hx Hm ∧ RVs X.K CL hx.length Gx Hm yd acc ∧
      compGo pr.2 (fun d => asgTg tg d (wipeE env (own.map (·.2)))) (fun en => evC Φ c en) (fun en => evE Φ e en) (pr.1.drop j) hx = .ok rest h2 ∧ yd ++ rest = ys ∧ j ≤ pr.1.length
    refine ⟨fun j m Hx => m = pr.1.length - j ∧ body j Hx, ⟨pr.1.length, rfl, G1, h1, H1, [], [], ys, rfl, nD, s1, EvR.refl _ _ _, .nil, q2, rfl, Nat.zero_le _⟩, ?_⟩
    rintro j m Hx ⟨rfl, Gx, hx, Hm, acc, yd, rest, rfl, nDm, sx, ex, rx, go, hys, hj⟩
    -- the state with the list beside it
    obtain ⟨sD, eD⟩ := sx.new (o := .lst acc) False nDm
    rw [more_false] at sD eD
    have e1x := ex.trans eD
    by_cases hlt : j < pr.1.length
    · refine .inr ?_
      obtain ⟨dj, hd⟩ : ∃ dj, pr.1[j]? = some dj := ⟨_, List.getElem?_eq_getElem hlt⟩
      have hdrop : pr.1.drop j = dj :: pr.1.drop (j + 1) := by
        rw [List.drop_eq_getElem_cons hlt]
        rw [List.getElem?_eq_getElem hlt] at hd
        cases hd
        rfl
      rw [hdrop] at go
      unfold compGo at go
      split at go
      · rename_i ck
        obtain ⟨jg, jy⟩ := jok.step Gx hx _ j dj e1x sD ck hd
        refine ⟨jg, body (j + 1), fun H' b => ⟨pr.1.length - (j + 1), by omega, rfl, b⟩, fun x H2 yl => ?_⟩
        obtain ⟨e2, s2, r2⟩ := jy x H2 yl
        split at go
        · rename_i env1 ha
          have reD : RE X.K CL hx.length Gx H2 (wipeE env (own.map (·.2))) (wipe σ (own.map (·.2))) := ((re.ev s e1).wiped _).ev s1 (e1x.trans e2)
          obtain ⟨σ', re', hg', hw'⟩ := asg_ok ha r2 reD
          refine hg' _ ⟨(hw' _ p.ow).trans (wipe_wipe _ _), ?_⟩
          obtain ⟨b, h3, ct, go⟩ := Z.R.bnd_inv go
          -- the test
          have test : ∀ Q3 : Bool → Hp → Prop, (∀ G3 H3, EvR Gx hx H2 G3 h3 H3 → SR X.K CL G3 h3 H3 → Q3 b H3) → tTb X scope fs σ' H2 Q3 := by
            intro Q3 hQ
            rcases p.ht with ⟨rfl, rfl⟩ | ⟨e1, y, rfl, rfl, st⟩
            · simp only [evC] at ct
              cases ct
              exact hQ _ _ (EvR.refl _ _ _) s2
            · intro sb H0 C cl fp
              exact st sb H0 C cl fp env1 hx h3 b ct Gx H2 σ' s2 re' Q3 fun G3 H3 a b _ => hQ G3 H3 a b
          refine test _ fun G3 H3 e3 s3 => ?_
          cases b with
          | false =>
            have go : compGo pr.2 (fun d => asgTg tg d (wipeE env (own.map (·.2)))) (fun en => evC Φ c en) (fun en => evE Φ e en) (pr.1.drop (j + 1)) h3 = .ok rest h2 := go
            show body (j + 1) H3
            obtain ⟨z1, z2, z3, z4⟩ := sx.del nDm (e2.trans e3) s3 trivial fun f z => by cases z
            refine ⟨G3, h3, dl H3 D, acc, yd, rest, ?_, if_pos rfl, z2, ex.trans z3, rx.ev sx z3, go, hys, hlt⟩
            rw [dl_upd]
            funext a
            by_cases ha : a = D
            · subst ha; rw [upd_same]; exact z1
            · rw [upd_ne ha]
          | true =>
            have go : ((evE Φ e env1 h3).bnd fun y h2' => (compGo pr.2 (fun d => asgTg tg d (wipeE env (own.map (·.2)))) (fun en => evC Φ c en) (fun en => evE Φ e en) (pr.1.drop (j + 1)) h2').bnd fun ys h3 => .ok (y :: ys) h3) = .ok rest h2 := go
            obtain ⟨y, h4, ce, go⟩ := Z.R.bnd_inv go
            obtain ⟨ys', h5, cg, go⟩ := Z.R.bnd_inv go
            simp only [R.ok.injEq] at go
            obtain ⟨rfl, rfl⟩ := go
            show tEb X scope elt σ' H3 _
            intro sb H0 C cl fp
            refine p.he sb H0 C cl fp env1 h3 h4 y ce G3 H3 σ' s3 (re'.ev s2 e3) _ fun G4 H4 v e4 s4 r4 _ => ?_
            obtain ⟨z1, z2, z3, z4⟩ := sx.del nDm ((e2.trans e3).trans e4) s4 trivial fun f z => by cases z
            refine ⟨acc, z1, ?_, G4, h4, dl H4 D, acc ++ [v], yd ++ [y], ys', (dl_upd _ _ _).symm, if_pos rfl, z2, ex.trans z3, (rx.ev sx z3).append (.cons (z4 _ _ r4) .nil), cg, by rw [← hys]; simp, hlt⟩
            refine SZ_lt (Nat.lt_of_lt_of_le ?_ hsz)
            rw [← hys, ← rx.length]
            simp only [List.length_append, List.length_cons]
            omega
        · cases go
      · cases go
    · refine .inl ?_
      have hle : pr.1.length ≤ j := Nat.le_of_not_lt hlt
      rw [List.drop_eq_nil_of_le hle] at go
      unfold compGo at go
      split at go
      · rename_i ck
        simp only [R.ok.injEq] at go
        obtain ⟨rfl, rfl⟩ := go
        rw [List.append_nil] at hys
        subst hys
        refine ⟨jok.stop Gx hx _ j e1x sD ck hle, ?_⟩
        cases m with
        | true =>
          simp only [newL, R.ok.injEq] at q
          obtain ⟨rfl, rfl⟩ := q
          obtain ⟨s9, e9⟩ := sx.newCell (.lst yd) nDm (o := .lst acc) trivial fun H' G' _ _ _ _ nf hH k => ⟨nf, acc, hH, k rx⟩
          refine fin _ _ _ ((e1.trans ex).trans e9) s9 ?_
          have q : RV X.K CL (hx ++ [Cell.lst yd]).length (Gx.cel hx.length D) (upd Hm D (.lst acc)) (.cell hx.length) (.ref ((Gx.cel hx.length D).φ hx.length)) := .cell (by simp)
          rw [show (Gx.cel hx.length D).φ hx.length = D from if_pos rfl] at q
          exact q
        | false =>
          simp only [newL, R.ok.injEq] at q
          obtain ⟨rfl, rfl⟩ := q
          obtain ⟨s9, e9⟩ := sx.new (o := .lst acc) True nDm
          exact fin _ _ _ ((e1.trans ex).trans e9) s9 (.lst (.inr ⟨trivial, rfl⟩) upd_same (rx.ev sx e9))
      · cases go
  · cases q
theorem CPs.se {scope : Scope} {own : List (Str × Nat)} {tg : Tg} {it : It} {c : Oe} {e : E} {elt t i : Expr} {fs : List Expr} {pos : Pos} {m : Bool} (p : CPs X CL Φ scope own tg it c e elt t i fs) : SE X CL Φ (.comp m own tg it c e) (.ListComp elt [⟨t, i, fs, 0⟩] scope pos) := by
  intro env h h' d q G H σ s re Q fin
  refine PE.go (pe_lc p.calm p.nd (tI_pi X t i) p.ok p.hg p.pts (CPs.pe (tg := tg) (it := it) (c := c) (e := e) (own := own) (t := t) (i := i) (fs := fs)) p.hs) fun rl => ?_
  exact p.lc q s re fun G' H' v a b r l => fin G' H' v a b r l
end
end Z

end
section
/-! dicts: read, asked, made -/
namespace Z
open PySem PySem.Spec L2
theorem kvV.map {K : PySem.W.Frag} {CL : CLs} {N N' : Nat} {G G' : Gh} {H H' : Hp} (f : ∀ {d : D} {v : V}, RV K CL N G H d v → RV K CL N' G' H' d v) : ∀ {kvs : List (Int × D)} {ws : List (Key × V)}, kvV K CL N G H kvs ws → kvV K CL N' G' H' kvs ws
  | [], [], _ => trivial
  | (_, _) :: _, (_, _) :: _, q => ⟨q.1, f q.2.1, kvV.map f q.2.2⟩
  | [], _ :: _, q => q.elim
  | _ :: _, [], q => q.elim
theorem putD_len : ∀ (m : List (Int × D)) (i : Int) (d : D), (putD m i d).length ≤ m.length + 1
  | [], _, _ => Nat.le_refl _
  | (j, e) :: r, i, d => by
    unfold putD
    split
    · simp
    · have := putD_len r i d
      simp only [List.length_cons]
      omega
theorem fold_len (d : D) : ∀ (ns : List Int) (m : List (Int × D)), (ns.foldl (fun m k => putD m k d) m).length ≤ m.length + ns.length
  | [], m => Nat.le_refl _
  | n :: ns, m => by
    have h1 := fold_len d ns (putD m n d)
    have h2 := putD_len m n d
    simp only [List.foldl_cons, List.length_cons]
    omega
theorem intsOf_get : ∀ {ds : List D} {ns : List Int} {i : Nat} {d : D}, intsOf ds = some ns → ds[i]? = some d → ∃ n, ns[i]? = some n ∧ d = .int n
  | [], _, _, _, _, e => by simp at e
  | .int a :: r, ns, i, d, h, e => by
    simp only [intsOf, Option.map_eq_some_iff] at h
    obtain ⟨ms, h1, rfl⟩ := h
    cases i with
    | zero => simp at e; exact ⟨a, rfl, e.symm⟩
    | succ i =>
      obtain ⟨n, a1, a2⟩ := intsOf_get (i := i) h1 (by simpa using e)
      exact ⟨n, by simpa using a1, a2⟩
theorem intsOf_len : ∀ {ds : List D} {ns : List Int}, intsOf ds = some ns → ds.length = ns.length
  | [], _, h => by simp at h; subst h; rfl
  | .int a :: r, ns, h => by
    simp only [intsOf, Option.map_eq_some_iff] at h
    obtain ⟨ms, h1, rfl⟩ := h
    simp [intsOf_len h1]
theorem take_snoc' {α : Type} {l : List α} {i : Nat} {x : α} (e : l[i]? = some x) : l.take (i + 1) = l.take i ++ [x] := by
  rw [List.take_succ, e]; rfl
mutual
theorem br : ∀ d : D, d.beq d = true
  | .non => rfl
  | .bl _ => by simp [D.beq]
  | .int _ => by simp [D.beq]
  | .str _ => by simp [D.beq]
  | .tup ds => by simp only [D.beq]; exact brs ds
  | .lst ds => by simp only [D.beq]; exact brs ds
  | .cell _ => by simp [D.beq]
  | .ins _ ds => by simp only [D.beq, brs ds, beq_self_eq_true, Bool.and_self]
  | .scr _ => by simp [D.beq]
  | .typ _ => by simp [D.beq]
theorem brs : ∀ ds : List D, beqs ds ds = true
  | [] => rfl
  | d :: ds => by simp only [beqs, br d, brs ds, Bool.and_self]
end
theorem wipeE_length (env : Env) : ∀ l : List Nat, (wipeE env l).length = env.length
  | [] => rfl
  | v :: vs => by unfold wipeE; rw [List.length_set]; exact wipeE_length env vs
section
variable {L : LI} {X : Cx} {CL : CLs} {Φ : FS} {k : Nat}
theorem dct_at {K : PySem.W.Frag} {G : Gh} {h : CH} {H : Hp} {x : D} {v : V} {kvs : List (Int × D)} (s : SR K CL G h H) (e : dctOf h x = some kvs) (r : RV K CL h.length G H x v) : ∃ a ws, v = .ref a ∧ H a = some (.dK ws) ∧ kvV K CL h.length G H kvs ws := by
  unfold dctOf at e
  split at e
  · rename_i n
    split at e
    · rename_i kvs' q
      cases e
      cases r with
      | cell l =>
        obtain ⟨_, ws, a, b⟩ := s.cell n _ q
        exact ⟨_, ws, rfl, a, b⟩
    · cases e
  · cases e
theorem dget_of {K : PySem.W.Frag} {G : Gh} {h : CH} {H : Hp} {kvs : List (Int × D)} {ws : List (Key × V)} {a : Addr} {i : Int} (e : H a = some (.dK ws)) (kv : kvV K CL h.length G H kvs ws) : (∀ d, getK kvs i = some d → ∃ v, DGet H a (.int i) (some v) ∧ RV K CL h.length G H d v) ∧ ∃ o, DGet H a (.int i) o ∧ o.isSome = (getK kvs i).isSome := by
  have g := kvV_get (i := i) kv
  have dg : DGet H a (kV (.inl i : Key)) (valV ws (.inl i : Key)) := DGet.k e
  refine ⟨fun d hd => ?_, ?_⟩
  · obtain ⟨v, a1, a2⟩ := g.1 d hd
    exact ⟨v, by rw [← a1]; exact dg, a2⟩
  · refine ⟨_, dg, ?_⟩
    cases q : getK kvs i with
    | none => rw [g.2 q]; rfl
    | some d => obtain ⟨v, a1, _⟩ := g.1 d q; rw [a1]; rfl
theorem se_dix (xc : XC L CL Φ k X) {sc : Scope} {a i : E} {x : Expr} (ia : ∀ x, chkE L X.N sc a x = true → SE X CL Φ a x) (ii : ∀ x, chkE L X.N sc i x = true → SE X CL Φ i x) (c : chkE L X.N sc (.dix a i) x = true) : SE X CL Φ (.dix a i) x := by
  simp only [chkE] at c
  split at c
  · cases c
  · rename_i y z pos ns
    simp only [Bool.and_eq_true] at c
    intro env h h' d e G H σ s re Q p
    simp only [evE] at e
    obtain ⟨da, h1, ea, e⟩ := R.bnd_inv e
    obtain ⟨di, h2, ei, e⟩ := R.bnd_inv e
    have hs : NoSl z := by
      intro o i
      cases z <;> first | rfl | exact absurd rfl (ns _ _ _ _)
    refine PE.go (pe_dget (hu_of xc.room) (tE_pe X y) (tE_pe X z) hs) fun _ => ia _ c.1 env h _ _ ea G H σ s re _ fun G1 H1 v e1 s1 r1 l1 => ?_
    refine ii _ c.2 env h1 _ _ ei G1 H1 σ s1 (re.ev s e1) _ fun G2 H2 w e2 s2 r2 l2 => ?_
    unfold dixV at e
    split at e
    · rename_i kvs kk e3
      split at e
      · rename_i d' e4
        cases e
        obtain ⟨a, ws, rfl, hq, kv⟩ := dct_at s2 e3 (r1.ev s1 e2)
        cases r2
        obtain ⟨v', g1, g2⟩ := (dget_of hq kv).1 _ e4
        exact ⟨a, v', rfl, g1, fun _ => p G2 H2 v' (e1.trans e2) s2 g2 l2⟩
      · cases e
    · cases e
  · cases c
theorem dinV_inv {neg : Bool} {x y d : D} {h h' : CH} (e : dinV neg x y h = .ok d h') : ∃ kk kvs, x = .int kk ∧ dctOf h y = some kvs ∧ d = .bl (xor neg (getK kvs kk).isSome) ∧ h' = h := by
  unfold dinV at e
  split at e
  · rename_i kk kvs e3
    cases e
    exact ⟨kk, kvs, rfl, e3, rfl, rfl⟩
  · cases e
theorem se_din (xc : XC L CL Φ k X) {sc : Scope} {neg : Bool} {a b : E} {x : Expr} (ia : ∀ x, chkE L X.N sc a x = true → SE X CL Φ a x) (ib : ∀ x, chkE L X.N sc b x = true → SE X CL Φ b x) (c : chkE L X.N sc (.din neg a b) x = true) : SE X CL Φ (.din neg a b) x ∧ ST X CL Φ (.din neg a b) x := by
  simp only [chkE] at c
  split at c
  · rename_i l op r pos
    simp only [Bool.and_eq_true, decide_eq_true_eq, Bool.not_eq_true'] at c
    obtain ⟨c0, c1, c2, c3⟩ := c
    have core : ∀ (env : Env) (h h' : CH) (d : D), evE Φ (.din neg a b) env h = .ok d h' → ∃ bb, d = .bl bb ∧ ∀ (G : Gh) (H : Hp) (σ : List (Option V)), SR X.K CL G h H → RE X.K CL h.length G H env σ → ∀ Q : VK, (∀ G' H', EvR G h H G' h' H' → SR X.K CL G' h' H' → Rl X H' → Q (.bl bb) H') → (if neg then tDNotIn else tDIn) (tE X l) (tE X r) σ H Q := by
      intro env h h' d e
      simp only [evE] at e
      obtain ⟨da, h1, ea, e⟩ := R.bnd_inv e
      obtain ⟨db, h2, eb, e⟩ := R.bnd_inv e
      obtain ⟨kk, kvs, rfl, e3, rfl, rfl⟩ := dinV_inv e
      · refine ⟨_, rfl, fun G H σ s re Q p => ?_⟩
        have go : ∀ P : (Option V → Bool), (∀ o, o.isSome = (getK kvs kk).isSome → P o = xor neg (getK kvs kk).isSome) → tE X l σ H fun y H1 => tE X r σ H1 fun x H2 => ∃ a o, x = .ref a ∧ DGet H2 a y o ∧ Q (.bl (P o)) H2 := by
          intro P hP
          refine ia _ c1 env h _ _ ea G H σ s re _ fun G1 H1 v e1 s1 r1 l1 => ?_
          refine ib _ c2 env h1 _ _ eb G1 H1 σ s1 (re.ev s e1) _ fun G2 H2 w e2 s2 r2 l2 => ?_
          obtain ⟨a, ws, rfl, hq, kv⟩ := dct_at s2 e3 r2
          have r1' := r1.ev s1 e2
          cases r1'
          obtain ⟨o, g1, g2⟩ := (dget_of (i := kk) hq kv).2
          exact ⟨a, o, rfl, g1, by rw [hP o g2]; exact p G2 H2 (e1.trans e2) s2 l2⟩
        cases neg with
        | true => exact go (fun o => !o.isSome) fun o ho => by simp [ho]
        | false => exact go (fun o => o.isSome) fun o ho => by simp [ho]
    have pc : PC X op l r ((if neg then tDNotIn else tDIn) (tE X l) (tE X r)) := by
      cases neg with
      | true => rw [c0]; exact pc_dnotin (hu_of xc.room) (tE_pe X l) (tE_pe X r)
      | false => rw [c0]; exact pc_din (hu_of xc.room) (tE_pe X l) (tE_pe X r)
    refine ⟨fun env h h' d e G H σ s re Q p => ?_, fun env h h' bb e G H σ s re Q p => ?_⟩
    · obtain ⟨b0, rfl, go⟩ := core env h h' d e
      exact PE.go (pe_cmp pc (notset c3)) fun _ => go G H σ s re _ fun G' H' e' s' l' _ => p G' H' _ e' s' (.bl _) l'
    · obtain ⟨b0, e0, go⟩ := core env h h' _ (asBl_inv e)
      cases e0
      exact PT.go (pt_cmp pc (notset c3)) fun _ => go G H σ s re _ fun G' H' e' s' l' => ⟨_, rfl, fun _ => p G' H' e' s' l'⟩
  · cases c

/-- {x: None for x in it}, walked -/
structure DPs (X : Cx) (CL : CLs) (Φ : FS) (scope : Scope) (own : List (Str × Nat)) (j : Nat) (it : E) (kx vx t i : Expr) : Prop where
  calm : X.calm = true
  nd : X.N.Nodup
  hi : SI X CL Φ (.e it) t i
  ok : BlkOk X.N X.env.scope scope own
  hg : ∀ (s : Shared) (H : Hp) (C : Addr) (cl : List (Str × Addr)) (fp : List Addr), PG (X.blk s H scope (compEnvC scope cl C X.env) fp) t (gTg X.K (.nm j))
  hk : ∀ (s : Shared) (H : Hp) (C : Addr) (cl : List (Str × Addr)) (fp : List Addr), SE (X.blk s H scope (compEnvC scope cl C X.env) fp) CL Φ (.var j) kx
  hv : ∀ (s : Shared) (H : Hp) (C : Addr) (cl : List (Str × Addr)) (fp : List Addr), SE (X.blk s H scope (compEnvC scope cl C X.env) fp) CL Φ (.con .non) vx
  ow : j ∈ own.map (·.2)
  hs : ∀ x, foldedSetIterable i X.env x = pure x
theorem peb (scope : Scope) (elt : Expr) (s : Shared) (H : Hp) (C : Addr) (cl : List (Str × Addr)) (fp : List Addr) : PE (X.blk s H scope (compEnvC scope cl C X.env) fp) elt (tEb X scope elt) :=
  ⟨fun pins s2 σ H2 Q I h => h s H C cl fp pins s2 I⟩
theorem DPs.dc {scope : Scope} {own : List (Str × Nat)} {j : Nat} {it : E} {kx vx t i : Expr} (p : DPs X CL Φ scope own j it kx vx t i) {env : Env} {h h' : CH} {d : D} (q : evE Φ (.dcN own j it) env h = .ok d h')
    {G : Gh} {H : Hp} {σ : List (Option V)} (s : SR X.K CL G h H) (re : RE X.K CL h.length G H env σ) {Q : VK} (fin : ∀ G' H' v, EvR G h H G' h' H' → SR X.K CL G' h' H' → RV X.K CL h'.length G' H' d v → Q v H') :
    tDc (tI X t i) (gTg X.K (.nm j)) tYes (tEb X scope kx) (tEb X scope vx) (own.map (·.2)) σ H Q := by
  simp only [evE] at q
  obtain ⟨v0, h1, q1, q⟩ := Z.R.bnd_inv q
  split at q
  rotate_left
  · cases q
  rename_i hj
  unfold dcNV at q
  split at q
  · rename_i ds hds
    split at q
    · rename_i ns hns
      split at q
      · rename_i hsz
        simp only [R.ok.injEq] at q
        obtain ⟨rfl, rfl⟩ := q
        have qit : evIt Φ (.e it) env h = .ok (ds, ckOf v0 ds) h1 := by
          simp only [evIt, q1, R.bnd_ok, hds]
        refine p.hi env h h1 _ qit G H σ s re _ fun J G1 H1 e1 s1 jok => fun Da nD => ?_
        -- the walked list stands as long as the state does
        have ck : ckOk (ckOf v0 ds) h1 = true := by
          unfold ckOf
          split
          · rename_i n ds'
            simp only [items] at hds
            split at hds
            · rename_i es qe
              cases hds
              unfold ckOk
              simp only [qe]
              exact brs _
            · cases hds
          · rfl
        have ld := intsOf_len hns
        let put : List (Int × Z.D) → Int → List (Int × Z.D) := fun m k => putD m k .non
        let body : Nat → Hp → Prop := fun a Hx => ∃ (Gx : Gh) (Hm : Hp) (acc : List (Key × V)), Hx = upd Hm Da (.dK acc) ∧ Hm Da = none ∧ SR X.K CL Gx h1 Hm ∧ EvR G1 h1 H1 Gx h1 Hm ∧ kvV X.K CL h1.length Gx Hm ((ns.take a).foldl put []) acc ∧ a ≤ ds.length
        refine ⟨fun a m Hx => m = ds.length - a ∧ body a Hx, ⟨ds.length, rfl, G1, H1, [], rfl, nD, s1, EvR.refl _ _ _, trivial, Nat.zero_le _⟩, ?_⟩
        rintro a m Hx ⟨rfl, Gx, Hm, acc, rfl, nDm, sx, ex, kx', ha⟩
        obtain ⟨sD, eD⟩ := sx.new (o := .dK acc) False nDm
        rw [more_false] at sD eD
        have e1x := ex.trans eD
        by_cases hlt : a < ds.length
        · refine .inr ?_
          obtain ⟨dj, hd⟩ : ∃ dj, ds[a]? = some dj := ⟨_, List.getElem?_eq_getElem hlt⟩
          obtain ⟨n, hn, rfl⟩ := intsOf_get hns hd
          obtain ⟨jg, jy⟩ := jok.step Gx h1 _ a _ e1x sD ck hd
          refine ⟨jg, body (a + 1), fun H' b => ⟨ds.length - (a + 1), by omega, rfl, b⟩, fun x H2 yl => ?_⟩
          obtain ⟨e2, s2, r2⟩ := jy x H2 yl
          have reD : RE X.K CL h1.length Gx H2 (wipeE env (own.map (·.2))) (wipe σ (own.map (·.2))) := ((re.ev s e1).wiped _).ev s1 (e1x.trans e2)
          obtain ⟨σ', re', hg', hw'⟩ := asg_ok (tg := .nm j) (env' := (wipeE env (own.map (·.2))).set j (some (.int n))) rfl r2 reD
          refine hg' _ ⟨(hw' _ fun i hi => by simp [Tg.ids] at hi; subst hi; exact p.ow).trans (wipe_wipe _ _), ?_⟩
          simp only [tYes, if_true]
          intro sb H0 C cl fp
          have hjl : j < (wipeE env (own.map (·.2))).length := by rw [wipeE_length]; exact hj
          have ev1 : evE Φ (.var j) ((wipeE env (own.map (·.2))).set j (some (.int n))) h1 = .ok (.int n) h1 := by
            simp only [evE, List.getElem?_set_self hjl]
          refine p.hk sb H0 C cl fp ((wipeE env (own.map (·.2))).set j (some (.int n))) h1 h1 _ ev1 Gx H2 σ' s2 re' _ fun G3 H3 y e3 s3 r3 _ => ?_
          intro sb H0 C cl fp
          refine p.hv sb H0 C cl fp ((wipeE env (own.map (·.2))).set j (some (.int n))) h1 h1 .non (by simp only [evE]; rfl) G3 H3 σ' s3 (re'.ev s2 e3) _ fun G4 H4 z e4 s4 r4 _ => ?_
          obtain ⟨z1, z2, z3, z4⟩ := sx.del nDm ((e2.trans e3).trans e4) s4 trivial fun f z => by cases z
          have kz : kvV X.K CL h1.length G4 (dl H4 Da) ((ns.take a).foldl put []) acc := kvV.map (fun r => r.ev sx z3) kx'
          have hlen : acc.length ≤ a := by
            rw [← kvV_len kx']
            have := fold_len .non (ns.take a) []
            have h5 : (ns.take a).length ≤ a := by simp; omega
            simp only [List.length_nil] at this
            have h6 : ((ns.take a).foldl put []).length ≤ 0 + (ns.take a).length := this
            omega
          cases r3
          refine ⟨acc, .inl n, rfl, z1, SZ_lt (by omega), G4, dl H4 Da, putK acc (.inl n) z, (dl_upd _ _ _).symm, if_pos rfl, z2, ex.trans z3, ?_, hlt⟩
          rw [take_snoc' hn, List.foldl_append]
          exact kvV_put (z4 _ _ r4) kz
        · refine .inl ?_
          have hle : ds.length ≤ a := Nat.le_of_not_lt hlt
          refine ⟨jok.stop Gx h1 _ a e1x sD ck hle, ?_⟩
          have eall : ns.take a = ns := List.take_of_length_le (by omega)
          rw [eall] at kx'
          obtain ⟨s9, e9⟩ := sx.newCell (.dct (ns.foldl put [])) nDm (o := .dK acc) trivial fun H' G' _ _ _ _ nf hH k => ⟨nf, acc, hH, kvV.map (fun {d v} r => by
            have q := k (ds := [d]) (vs := [v]) (.cons r .nil)
            cases q with
            | cons a b => exact a) kx'⟩
          refine fin _ _ _ ((e1.trans ex).trans e9) s9 ?_
          have q : RV X.K CL (h1 ++ [Cell.dct (ns.foldl put [])]).length (Gx.cel h1.length Da) (upd Hm Da (.dK acc)) (.cell h1.length) (.ref ((Gx.cel h1.length Da).φ h1.length)) := .cell (by simp)
          rw [show (Gx.cel h1.length Da).φ h1.length = Da from if_pos rfl] at q
          exact q
      · cases q
    · cases q
  · cases q
theorem DPs.se {scope : Scope} {own : List (Str × Nat)} {j : Nat} {it : E} {kx vx t i : Expr} {pos : Pos} (p : DPs X CL Φ scope own j it kx vx t i) {env : Env} {h h' : CH} {d : D} (q : evE Φ (.dcN own j it) env h = .ok d h') {G : Gh} {H : Hp} {σ : List (Option V)} (s : SR X.K CL G h H) (re : RE X.K CL h.length G H env σ) {Q : VK} (fin : Pst X CL G h H d h' Q) :
    tE X (.DictComp kx vx [⟨t, i, [], 0⟩] scope pos) σ H Q := by
  refine PE.go (pe_dc p.calm p.nd (tI_pi X t i) p.ok p.hg (fun _ _ _ _ _ => pts_nil) (peb scope kx) (peb scope vx) p.hs) fun rl => ?_
  exact p.dc q s re fun G' H' v a b r l => fin G' H' v a b r l
end
end Z

end
section
/-! sorted(l, key=lambda x: (-ws[x], x)) -/
namespace Z
open PySem PySem.Spec PyProof.Rows L2 LamX
section
variable {prog : Program} {w : World} {A : Around} {s : Shared} {E : Value → Shared → Prop}
theorem PlainIxNm (x : Str) (p : Pos) : PlainIx (.Name x p) := fun _ _ => rfl
/-- the body's value -/
theorem lam_body {env : PySem.Env} {m : Str → Option Value} {n u : Int} {t tu : Tok} {c b : Addr} {its : Array Value} {wn x : Str} {p1 p2 p3 p4 p5 p6 : Pos} {kk : Nat}
    (hk : env.scope.kind = .function) (hx : env.kindOf x = some .local) (hn : s.heap.Ns env.locals m) (hv : m x = some (.int n t)) (hd : (x == ("__debug__" : Str)) = false)
    (hw : env.kindOf wn = some .free) (hc : env.cells.lookup wn = some c) (hcell : s.heap.IsCell c (some (.ref b))) (hdw : (wn == ("__debug__" : Str)) = false) (hcw : (wn == ("__classdict__" : Str)) = false)
    (hb : s.heap.IsList b its) (h0 : 0 ≤ n) (h1 : n < (2 ^ 63 : Int)) (hj : its[n.toNat]? = some (.int u tu)) {Q : Value → Shared → Prop}
    (q : ∀ v h' tk, (∀ a o, s.heap.get? a = some o → h'.get? a = some o) → Reads h' v (.tuple [.int (-u), .int n]) [] → Q v { s with heap := h', toks := tk }) :
    wpAny (model prog w) A (eval (.Tuple [.UnaryOp .USub (.Subscript (.Name wn p1) (.Name x p2) p3) p4, .Name x p5] kk p6) env) Q E s := by
  refine wpAny_Tuple_spliced ?_
  show wpAny _ _ (spliced ((false, eval (.UnaryOp .USub (.Subscript (.Name wn p1) (.Name x p2) p3) p4) env) :: backTo p6 (starEach [.Name x p5] env))) _ _ s
  refine Calls.spliced_cons (UnaryOp_ (Subscript_ ?_))
  refine wpAny_Name (wpAny_loadName_free hk hw hc hcell ?_ hcw) hdw
  refine wpAny_Name (wpAny_loadName_local hk hx hn hv ?_) hd
  refine item_listR hb h0 h1 hj ?_ (PlainIxNm _ _ _ _)
  refine neg_int ?_
  show wpAny _ _ (spliced ((false, eval (.Name x p5) env) :: backTo p6 (starEach [] env))) _ _ _
  refine Calls.spliced_cons (wpAny_Name (wpAny_loadName_local hk hx hn hv ?_) hd)
  refine Calls.spliced_nil ⟨by show 2 ≤ sizeLine; rw [sizeLine_eq]; decide, ?_⟩
  refine q _ _ _ (fun a o e => Heap.get?_push_of_some _ e) ?_
  refine .tuple (Heap.get?_push_size _ rfl) rfl rfl ?_
  exact .cons (.int _ _) (.cons (.int _ _) .nil)
end
/-- the lambda's names: x its parameter, wn captured -/
structure LamP (sc scope : Scope) (wn x : Str) : Prop where
  kind : scope.kind = .function
  co : scope.isCoroutine = false
  gen : scope.isGenerator = false
  nc : ∀ y ∈ scope.names, y.2 ≠ .cell
  fr : ∀ y ∈ scope.names, y.2 = .free → y.1 = wn
  lx : scope.names.lookup x = some .local
  lw : scope.names.lookup wn = some .free
  cw : sc.names.lookup wn = some .cell
theorem lamP_by {sc scope : Scope} {wn x : Str} (h : lamPB sc scope wn x = true) : LamP sc scope wn x := by
  unfold lamPB at h
  simp only [Bool.and_eq_true, Bool.or_eq_true, Bool.not_eq_true', decide_eq_true_eq, decide_eq_false_iff_not, List.all_eq_true] at h
  obtain ⟨h1, h2, h3, h4, h5, h6, h7⟩ := h
  refine ⟨?_, h2, h3, fun y hy => (h4 y hy).1, fun y hy e => (h4 y hy).2.resolve_left fun z => z e, h5, h6, h7⟩
  split at h1
  · assumption
  · cases h1
def lamArgs (x : Str) (p : Pos) : Arguments := { posonlyargs := [], args := [{ arg := x, annotation := none, pos := p }], vararg := none, kwonlyargs := [], kw_defaults := [], kwarg := none, defaults := [] }
section
variable {X : Cx}
/-- a table of T grew by one code object, or nothing changed -/
def Grew (T : List (Addr × Str)) (H H2 : Hp) : Prop := H2 = H ∨ ∃ (P d : Addr) (q : Str) (ps : Array Value), (∃ qs, H P = some (.tbl qs)) ∧ P ≠ d ∧ H d = none ∧ H2 = upd (upd H P (.tbl ps)) d (CodeO d q)
theorem Grew.ext {T : List (Addr × Str)} {H H2 : Hp} (g : Grew T H H2) : ExtN H H2 := by
  rcases g with rfl | ⟨P, d, q, ps, ⟨qs, hP⟩, hne, hd, rfl⟩
  · exact ExtN.refl _
  · intro b o e n
    have h1 : b ≠ d := fun z => by rw [z, hd] at e; cases e
    have h2 : b ≠ P := fun z => by rw [z, hP] at e; cases e; exact n qs rfl
    rw [upd_ne h1, upd_ne h2, e]
section
variable {pins : List (Addr × Obj)} {σ : L2.St} {H : Hp} {s : Shared}
/-- the lambda made, with what becomes of the heap -/
theorem lam_new {T : List (Addr × Str)} {c P : Addr} {params : Arguments} {body : Expr} {scope : Scope} {pos : Pos} {Er Q : Value → Shared → Prop} (TB : TabB X.base X.mg c P) (hm : (P, X.env.qual ++ "<lambda>") ∈ T) (only : ∀ y ∈ T, y.1 = P → y.2 = X.env.qual ++ "<lambda>")
    (I : Inv X pins σ H s) (hT : Tabs T H) (hcode : X.env.code = .ref c) (hdef : defaultsOf params X.env = ([], [])) (hfree : ∀ y ∈ scope.names, y.2 = .free → ∃ d, X.env.cells.lookup y.1 = some d)
    (go : ∀ (f d : Addr) (pm tv : Value) (H2 : Hp) (s2 : Shared), Inv X pins σ H2 s2 → Grew T H H2 → Tabs T H2 → H2 d = some (CodeO d (X.env.qual ++ "<lambda>")) →
      s2.heap.get? f = some (PySem.W.kla_obj "<lambda>" (X.env.qual ++ "<lambda>") params body scope (cloFrom X.env.cells scope.names []) pm d tv) → Q (.ref f) s2) :
    wpAny (model X.prog X.w) X.A (eval (.Lambda params body scope pos) X.env) Q Er s := by
  obtain ⟨ps, eP, tri, known⟩ := hT _ hm
  have atP := I.hok P _ eP
  have blt := TB.bm.keeps I.bk
  apply PySem.W.kla_eval hdef
  rcases hc : codeAmong pos ps.toList with _ | cv
  · refine PySem.W.kla_makeFunction (mg := X.mg) (c := c) (P := P) (ps := ps) (closure_ok hfree) I.ok.glob (I.mod.glob.keeps I.bk) hcode (TB.code.keeps I.bk) atP tri hc TB.gP blt ?_
    intro d tv h' tk ext ge lt rec tb
    obtain ⟨d', oc, vs, t, ed, e1, e2, e3⟩ := rec
    cases ed
    have nd : H d = none := I.hok.fresh ge
    have ne : P ≠ d := ne_of_none eP nd
    have J := inv_table (t' := tk) (q := X.env.qual ++ "<lambda>") (c := d) (more := #[rawInt pos.line, rawInt pos.col, .ref d]) (h' := h'.push (PySem.W.kla_obj "<lambda>" (X.env.qual ++ "<lambda>") params body scope (cloFrom X.env.cells scope.names []) ((X.mg "__name__").getD .none) d tv)) I eP
      (fun b o hb e => Heap.get?_push_of_some _ (ext b o hb e)) (Heap.get?_push_of_some _ tb) ge ⟨oc, vs, t, Heap.get?_push_of_some _ e1, e2, e3⟩
    have g : Grew T H (upd (upd H P (.tbl (ps ++ #[rawInt pos.line, rawInt pos.col, .ref d]))) d (CodeO d (X.env.qual ++ "<lambda>"))) := .inr ⟨P, d, _, _, ⟨ps, eP⟩, ne, nd, rfl⟩
    refine go h'.objs.size d _ tv _ _ J g (fun y hy => ?_) upd_same (Heap.get?_push_size _ rfl)
    by_cases hb : y.1 = P
    · rw [only y hy hb, hb]
      refine ⟨_, (upd_ne ne).trans upd_same, ?_, fun p' cv hcv => ?_⟩
      · rw [Array.toList_append]; exact PySem.TriplesOk_snoc _ _ _ _ tri
      · rw [Array.toList_append] at hcv
        rcases among_app _ tri hcv with z | z
        · obtain ⟨c0, a1, a2⟩ := known p' cv z
          exact ⟨c0, a1, g.ext _ _ a2 codeO_ne⟩
        · exact ⟨d, z, upd_same⟩
    · obtain ⟨qs, a1, a2, a3⟩ := hT y hy
      refine ⟨qs, (upd_ne (ne_of_none a1 nd)).trans ((upd_ne hb).trans a1), a2, fun p' cv hcv => ?_⟩
      obtain ⟨c0, b1, b2⟩ := a3 p' cv hcv
      exact ⟨c0, b1, g.ext _ _ b2 codeO_ne⟩
  · obtain ⟨d, ed, hd⟩ := known pos cv hc
    cases ed
    refine PySem.W.kla_makeFunctionHit (mg := X.mg) (c := c) (P := P) (ps := ps) (closure_ok hfree) I.ok.glob (I.mod.glob.keeps I.bk) hcode (TB.code.keeps I.bk) atP tri hc blt ?_
    intro tv h' tk kp ge
    exact go h'.objs.size d ((X.mg "__name__").getD .none) tv H _ (I.kept fun b o e => Heap.get?_push_of_some _ (kp b o e)) (.inl rfl) hT hd (Heap.get?_push_size _ rfl)
end
theorem bind_number (ap : Pos) (scope : Scope) (q : Str) (cl : List (Str × Addr)) (pm cv tv v : Value) (bd : Expr) : bindArgs (PySem.W.kla_fn "<lambda>" q (lamArgs "number" ap) bd scope cl pm cv tv) ⟨[v], []⟩ = pure [(("number" : Str), v)] := rfl
/-- what sorted by that key asks -/
def tSrt (K : PySem.W.Frag) (T : List (Addr × Str)) (i : Nat) (tl : TE) : TE := fun σ H Q => tl σ H fun v H1 => Tabs T H1 ∧ ∃ (a : Addr) (ns : List Int) (b : Addr) (us : List Int), v = .ref a ∧ SqL K H1 a (ns.map V.int) ∧ σ[i]? = some (some (.ref b)) ∧ SqL K H1 b (us.map V.int) ∧ ns.length ≤ 1000000 ∧ us.length ≤ 1000000 ∧ (∀ n ∈ ns, 0 ≤ n ∧ n.toNat < us.length) ∧
  ∀ H2 p, Grew T H1 H2 → Tabs T H2 → H2 p = none → Q (.ref p) (upd H2 p (.lst ((ns.mergeSort (keyLe us)).map V.int)))
theorem ints_at {vs : List Value} {us : List Int} (r : Vals (us.map V.int) vs) {j : Nat} {u : Int} (h : us[j]? = some u) : ∃ t, vs[j]? = some (.int u t) := by
  obtain ⟨w, e, rw'⟩ := r.get (i := j) (x := V.int u) (by rw [List.getElem?_map, h]; rfl)
  obtain ⟨t, rfl⟩ := rw'
  exact ⟨t, e⟩
theorem each_ints : ∀ {vs : List Value} {ns : List Int}, Vals (ns.map V.int) vs → PySem.W.EachIs (fun v n => ∃ t, v = Value.int n t) vs ns
  | _, [], .nil => .nil
  | _, _ :: _, .cons ⟨t, e⟩ r => .cons ⟨t, e⟩ (each_ints r)
theorem each_vals : ∀ {vs : List Value} {ns : List Int}, PySem.W.EachIs (fun v n => ∃ t, v = Value.int n t) vs ns → Vals (ns.map V.int) vs
  | _, _, .nil => .nil
  | _, _, .cons ⟨t, e⟩ r => .cons ⟨t, e⟩ (each_vals r)
theorem pe_srt {T : List (Addr × Str)} {c P : Addr} {i k : Nat} {le : Expr} {tl : TE} {wn x : Str} {ap p p1 p2 p3 p4 p5 p6 lp kp pos : Pos} {kk : Nat} {scope : Scope}
    (TB : TabB X.base X.mg c P) (hcode : X.env.code = .ref c) (hmT : (P, X.env.qual ++ "<lambda>") ∈ T) (hu : ∀ p ∈ T, p.1 = P → p.2 = X.env.qual ++ "<lambda>") (hr : Room k X.A)
    (L : LamP X.env.scope scope wn x) (hN : X.N[i]? = some wn) (hx1 : (x == ("__debug__" : Str)) = false) (hw1 : (wn == ("__debug__" : Str)) = false) (hw2 : (wn == ("__classdict__" : Str)) = false)
    (hg : Gl X "sorted") (hm : X.mg "sorted" = none) (hl : PE X le tl) (hst : starEach [le] X.env = (false, eval le X.env) :: starEach [] X.env)
    (hbind : ∀ (q : Str) (cl : List (Str × Addr)) (pm cv tv v : Value) (bd : Expr), bindArgs (PySem.W.kla_fn "<lambda>" q (lamArgs x ap) bd scope cl pm cv tv) ⟨[v], []⟩ = pure [(x, v)]) :
    PE X (.Call (.Name "sorted" p) [le] [⟨some "key", .Lambda (lamArgs x ap) (.Tuple [.UnaryOp .USub (.Subscript (.Name wn p1) (.Name x p2) p3) p4, .Name x p5] kk p6) scope lp, kp⟩] pos) (tSrt X.K T i tl) := by
  refine ⟨fun pins s σ H Q I h => ?_⟩
  have hback : backTo pos (starEach [le] X.env) = (false, eval le X.env) :: backTo pos (starEach [] X.env) := by rw [hst]; rfl
  refine wpAny_Call_Name_kw (ld_blt I hg hm PyProof.Rows.boot_sorted ?_ (by decide) (by decide))
  refine PyProof.Rows.callWith_kw ?_ hback (by rw [hback]; rfl) (by rfl) (by rfl)
  rw [hback]
  refine Calls.spliced_cons (thn (hl.run pins s σ H _ I h) fun u s1 ⟨v, H1, I1, r1, hT, a, ns, b, us, ev, hs, hσ, hb, hnz, huz, hin, go⟩ => ?_)
  subst ev
  obtain rfl : u = Value.ref a := r1
  refine Calls.spliced_nil ?_
  show wpAny _ _ (evalAll [do let v ← eval (.Lambda (lamArgs x ap) (.Tuple [.UnaryOp .USub (.Subscript (.Name wn p1) (.Name x p2) p3) p4, .Name x p5] kk p6) scope lp) X.env; standAt pos; pure v]) _ _ s1
  have hfree : ∀ y ∈ scope.names, y.2 = .free → ∃ c, X.env.cells.lookup y.1 = some c := fun y hy e => by
    rw [L.fr y hy e]
    exact I1.ok.has _ (.inl L.cw)
  refine wpAny_evalAll_cons (wpAny_bind (lam_new TB hmT hu I1 hT hcode rfl hfree fun f c' pm ctv H2 s2 I2 gw T2 hco hf => wpAny_bind (wpAny_standAt (wpAny_pure ?_))))
  have eN := gw.ext
  refine wpAny_evalAll_nil ?_
  show wpAny _ _ (call (.builtin "sorted") [.ref a] [(Str.ofString "key", .ref f)]) _ _ s2
  -- what stands
  have sqk : ∀ {d : Addr} {xs : List V}, SqL X.K H1 d xs → SqL X.K H2 d xs := fun {d xs} q => by
    rcases q with (q | ⟨o', q⟩) | q
    · exact .inl (.inl (eN _ _ q fun ps z => by cases z))
    · exact .inl (.inr ⟨o', eN _ _ q fun ps z => by cases z⟩)
    · exact .inr q
  obtain ⟨its, rv, pl, hz⟩ := I2.list (sqk hs)
  obtain ⟨wts, rw_, pw, _⟩ := I2.list (sqk hb)
  obtain ⟨mloc, hloc, hvars⟩ := I2.loc
  obtain ⟨ub, rub, hub⟩ := hvars i wn _ hN hσ (.inr (.inl L.cw))
  obtain rfl : ub = Value.ref b := rub
  obtain ⟨cc, hcc, hcell⟩ : ∃ cc, X.env.cells.lookup wn = some cc ∧ s2.heap.IsCell cc (some (.ref b)) := by
    rcases hub with ⟨hk, _⟩ | ⟨_, c, hc, hcell⟩
    · have hk : X.env.scope.names.lookup wn = some .local := hk
      rw [L.cw] at hk; cases hk
    · exact ⟨c, hc, hcell⟩
  have hclo : (cloFrom X.env.cells scope.names []).lookup wn = some cc := by
    obtain ⟨c3, h3⟩ := mem_lookup (cloFrom_has (cells := X.env.cells) (acc := []) (PySem.mem_of_lookup L.lw))
    rcases cloFrom_mem (PySem.mem_of_lookup h3) with hm | ⟨h1, h2⟩
    · cases hm
    · have : c3 = cc := by
        rw [h2, hcc]; rfl
      rw [h3, this]
  obtain ⟨⟨oc, vs, t, hoc, hdc, hvc⟩, _, _⟩ := I2.hok c' _ hco
  have hzI : its.length = ns.length := by rw [← rv.length, List.length_map]
  refine PySem.W.sorted_key_data (b := false) (fun n : Int => PyData.tuple [.int (-(us[n.toNat]?.getD 0)), .int n]) pl.isList (each_ints rv) (PySem.W.AllAlike.of fun _ _ => by simp [PySem.W.alike, PySem.W.alikeAll]) (PySem.W.Sortable.tuples fun _ => ⟨_, _, rfl⟩) (by rw [sizeLine_eq]; omega) (fun n _ => ?_) (PyProof.Rows.ksk_s1 _ _) (fun _ => PyProof.Rows.ksk_l1 _ _) (fun _ => PyProof.Rows.ksk_t1 _ _) (fun v n ⟨tn, ev⟩ hn h tk kp => ?_) fun out cnt h' tk kp _ hD hlen eo => ?_
  · have hd : (PyData.tuple [.int (-(us[n.toNat]?.getD 0)), .int n]).depth = 1 := by simp [PyData.depth, PyData.depthAll]
    have := hr.un
    omega
  · subst ev
    obtain ⟨n0, n1⟩ := hin n hn
    have hus : us[n.toNat]? = some (us[n.toNat]?.getD 0) := by
      rw [List.getElem?_eq_getElem n1]; rfl
    generalize us[n.toNat]?.getD 0 = u at hus
    obtain ⟨tu, hj⟩ := ints_at rw_ hus
    refine wpAny_call (PySem.W.kla_callFunE (by have := hr.dp; show X.A.depth < _; omega) (kp _ _ hf) rfl L.co L.gen rfl ⟨c', oc, vs, t, rfl, kp _ _ hoc, hdc, hvc⟩ ?_)
    rw [hbind]
    refine wpAny_pure (wpAny_newFunctionEnv L.nc (fun y hy => ?_) (fun h₁ hns hsb => ⟨I2.nolimit.keeps kp |>.fresh _ hsb, ?_⟩) L.kind)
    · obtain rfl : y = (x, Value.int n tn) := by simpa using hy
      exact L.lx
    have kp1 : ∀ a o, h.get? a = some o → h₁.get? a = some o := fun a o e => hsb.extBut a o (Nat.ne_of_lt (Heap.lt_size e)) (Heap.get?_push_of_some _ e)
    refine PySem.W.kla_codeExpr (lam_body (env := PySem.W.envX (X.env.qual ++ "<lambda>") scope h.objs.size f (.ref c') (cloFrom X.env.cells scope.names [])) (m := fun y => [(x, Value.int n tn)].reverse.lookup y) (c := cc) (b := b) (its := wts.toArray) (n := n) (u := u) (t := tn) (tu := tu) L.kind L.lx hns ?_ hx1 L.lw hclo ?_ hw1 hw2 (by obtain ⟨o, a1, a2⟩ := pw.isList; exact ⟨o, kp1 _ _ (kp _ _ a1), a2⟩) n0 (by omega) (by simpa using hj) fun v h' tk k q => ?_)
    · simp
    · obtain ⟨o, ho, hd⟩ := hcell
      exact ⟨o, kp1 _ _ (kp _ _ ho), hd⟩
    · exact ⟨_, _, rfl, fun a o e => k a o (kp1 a o e), q⟩
  · rw [PySem.W.dataLe_ii (β := Int) (fun n => -(us[n.toNat]?.getD 0)) (fun n => n)] at eo
    have np : H2 (s2.heap.objs.size + 1) = none := I2.hok.fresh (Nat.le_succ _)
    have rel := each_vals (eo.mono fun v n q => q)
    refine ⟨.ref _, upd H2 (s2.heap.objs.size + 1) (.lst ((ns.mergeSort (keyLe us)).map V.int)), I2.laid (t' := tk) kp (Nat.le_succ _) ⟨by rw [List.length_map, List.length_mergeSort]; rw [sizeLine_eq]; omega, out, cnt, rel, hD⟩, rfl, go H2 _ gw T2 np⟩
end
end Z

end
section
/-! sorted with the lambda, in the small language -/
namespace Z
open PySem PySem.Spec PyProof.Rows L2
section
variable {L : LI} {X : Cx} {CL : CLs} {Φ : FS} {k : Nat}
/-- the heap grew by a code object -/
theorem SR.grew {K : PySem.W.Frag} {G : Gh} {h : CH} {H H2 : Hp} (s : SR K CL G h H) (g : Grew CL.tb H H2) (t : LamX.Tabs CL.tb H2) : SR K CL G h H2 ∧ EvR G h H G h H2 := by
  rcases g with rfl | ⟨P, d, q, ps, ⟨qs, hP⟩, hne, hd, rfl⟩
  · exact ⟨s, EvR.refl _ _ _⟩
  · have at_ : ∀ a u, H a = some u → ¬ TB u → upd (upd H P (.tbl ps)) d (LamX.CodeO d q) a = some u := fun a u e nt => by
      have h1 : a ≠ d := fun z => by rw [z, hd] at e; cases e
      have h2 : a ≠ P := fun z => by rw [z, hP] at e; cases e; exact nt trivial
      rw [upd_ne h1, upd_ne h2]
      exact e
    have off : ∀ n c, h[n]? = some c → c.live = true → upd (upd H P (.tbl ps)) d (LamX.CodeO d q) (G.φ n) = H (G.φ n) := fun n c e l => by
      obtain ⟨_, u, hu, mu, _⟩ := s.obj e l
      rw [hu]; exact at_ _ _ hu (tb_mut mu)
    have tr : ∀ a, H a ≠ none → upd (upd H P (.tbl ps)) d (LamX.CodeO d q) a ≠ none := fun a e => by
      by_cases h1 : a = d
      · subst h1; rw [upd_same]; simp
      · rw [upd_ne h1]
        by_cases h2 : a = P
        · subst h2; rw [upd_same]; simp
        · rw [upd_ne h2]; exact e
    refine ⟨⟨fun n c e => (s.cell n c e).keep (Nat.le_refl _) (fun _ _ => rfl) (fun _ f => f) (fun a o q ns => at_ a o q fun z => ns (sh_tb z)) (fun a o _ q nt => at_ a o q nt) rfl (fun l => (s.obj e l).1) (off n c e), s.inj, fun a f => tr a (s.fh a f), t⟩, ⟨Nat.le_refl _, fun _ _ => rfl, fun _ f => f, fun a o q nt _ => at_ a o q nt, fun n c e l => .inl ⟨lt_of_get e, c, e, l⟩, fun a f => .inl f, tr⟩⟩
theorem srtV_inv {m : Bool} {x : D} {o : Option (Option D)} {h h' : CH} {d : D} (e : srtV m x o h = .ok d h') : ∃ ds w ns es us, lstOf h x = some ds ∧ o = some (some w) ∧ intsOf ds = some ns ∧ lstOf h w = some es ∧ intsOf es = some us ∧ ns.length ≤ SZ ∧ us.length ≤ SZ ∧ (∀ n ∈ ns, 0 ≤ n ∧ n.toNat < us.length) ∧ newL m ((ns.mergeSort (keyLe us)).map .int) h = .ok d h' := by
  unfold srtV at e
  split at e
  · rename_i ds w e1
    split at e
    · rename_i ns es e2 e3
      split at e
      · rename_i us e4
        split at e
        · rename_i hc
          exact ⟨ds, w, ns, es, us, e1, rfl, e2, e3, e4, hc.1, hc.2.1, hc.2.2, e⟩
        · cases e
      · cases e
    · cases e
  · cases e
theorem se_srt (xc : XC L CL Φ k X) {sc : Scope} (hs : X.env.scope = sc) {m : Bool} {l : E} {v : Nat} {x : Expr} (il : ∀ x, chkE L X.N sc l x = true → SE X CL Φ l x) (c : chkE L X.N sc (.srt m l v) x = true) : SE X CL Φ (.srt m l v) x := by
  simp only [chkE] at c
  split at c
  · rename_i g gp y kn z ap wn p1 z1 p2 p3 p4 z2 p5 kk p6 scope lp kp pos
    simp only [Bool.and_eq_true, decide_eq_true_eq, Bool.not_eq_true'] at c
    obtain ⟨c0, rfl, c2, c3, rfl, rfl, rfl, rfl, c8, c9, c10, c11, c12⟩ := c
    subst hs
    obtain ⟨cc, P, TBx, hcode, htb⟩ := xc.lam c0
    intro env h h' d e G H σ s re Q p
    simp only [evE] at e
    obtain ⟨dl, h1, el, e⟩ := Z.R.bnd_inv e
    obtain ⟨ds, w, ns, es, us, e1, e2, e3, e4, e5, n1, n2, n3, e⟩ := srtV_inv e
    refine PE.go (pe_srt (T := CL.tb) TBx hcode (by rw [htb]; exact List.mem_cons_self) (fun q hq _ => by rw [htb] at hq; simp at hq; rw [hq]) (xc.room) (lamP_by c8) c9 (by decide) c10 c11 (gl_ok rfl c2) (xc.bi _ c3) (tE_pe X y) (chkE_star c12 _ _) fun _ _ _ _ _ _ _ => bind_number _ _ _ _ _ _ _ _ _) fun _ => ?_
    refine il _ c12 env h _ _ el G H σ s re _ fun G1 H1 u ev1 s1 r1 l1 => ?_
    obtain ⟨a, vs, rfl, ha, rvs⟩ := lst_ok s1 e1 r1
    obtain ⟨wv, hwv, rwv⟩ := (re.ev s ev1).2 v w e2
    obtain ⟨b, ws, rfl, hb, rws⟩ := lst_ok s1 e4 rwv
    have ea := rvs.ints e3
    have eb := rws.ints e5
    subst ea eb
    refine ⟨s1.tabs, a, ns, b, us, rfl, SqL.of ha, hwv, SqL.of hb, n1, n2, n3, fun H2 q gw t2 nq => fun rl => ?_⟩
    obtain ⟨s2, ev2⟩ := s1.grew gw t2
    exact newL_ok s2 e (RVs.ofInts _) (p.from (ev1.trans ev2)) q nq rl
  · cases c
end
end Z

end
section
/-! len(set(xs)) of ints that may be alike -/
namespace Z
open PySem PySem.Spec PyProof.Rows L2
theorem met_dst (ns : List Int) : (PyProof.Rows.firstMet (fun i => ns.getD i 0) ns.length).length = dst ns := by
  unfold PyProof.Rows.firstMet dst
  have e : (List.range ns.length).map (fun i => ns.getD i 0) = ns := by
    apply List.ext_getElem?
    intro i
    rw [List.getElem?_map]
    rcases Nat.lt_or_ge i ns.length with z | z
    · rw [List.getElem?_range z, List.getElem?_eq_getElem z]
      simp [List.getD_eq_getElem?_getD, List.getElem?_eq_getElem z]
    · rw [List.getElem?_eq_none (by simpa using z), List.getElem?_eq_none z]; rfl
  rw [e]
  rfl
def tLset (K : PySem.W.Frag) (ta : TE) : TE := fun σ H Q => ta σ H fun x H1 => ∃ (l : Addr) (ns : List Int), x = .ref l ∧ SqL K H1 l (ns.map V.int) ∧ ns.length ≤ 4000 ∧ Q (.int (dst ns : Nat)) H1
theorem pe_lset {X : Cx} {a : Expr} {ta : TE} {p p2 q pos : Pos} (hg : Gl X "len") (hm : X.mg "len" = none) (hg2 : Gl X "set") (hm2 : X.mg "set" = none) (ha : PE X a ta) (hc : X.calm = true)
    (na : starEach [a] X.env = (false, eval a X.env) :: starEach [] X.env) : PE X (.Call (.Name "len" p) [.Call (.Name "set" p2) [a] [] q] [] pos) (tLset X.K ta) := by
  refine ⟨fun pins s σ H Q I h => ?_⟩
  refine Call_ (ld_blt I hg hm boot_len ?_)
  refine PyProof.Rows.callWith_builtin1 (PyProof.Rows.args_cons ?_ rfl) rfl rfl
  refine Call_ (ld_blt I hg2 hm2 boot_set ?_)
  refine PyProof.Rows.callWith_type1 (PyProof.Rows.args_cons (thn (ha.run pins s σ H _ I h) fun v s1 ⟨x, H1, I1, r1, q1⟩ => PyProof.Rows.args_nil ?_) na) na rfl
  obtain ⟨l, ns, rfl, hq, hl, q1⟩ := q1
  cases r1
  obtain ⟨its, r, pl, hz⟩ := I1.list hq
  have hlen : its.toArray.size = ns.length := by rw [List.size_toArray, ← r.length, List.length_map]
  refine call_set_list (I1.ok.hd hc) pl.isList (by simpa using RZ.intsAre_vals r) (by rw [hlen]; unfold scanBound; omega) fun h' tk hS hk => ?_
  refine PyProof.Rows.args_nil ?_
  rw [hlen] at hS
  have ml := met_dst ns
  have m2 := PyProof.Rows.firstMet_length_le (fun i => ns.getD i 0) ns.length
  obtain ⟨o, es, ep, t, ho, hex, hd, _, _, _, hf, hn⟩ := hS
  rw [ml] at hn
  have I2 : Inv X pins σ H1 { s1 with heap := h', toks := tk } := I1.kept fun b o e => hk b o (Heap.lt_size e) e
  exact call_len_set ho hex hd hf (by rw [hn]; omega) ⟨.int (dst ns : Nat), H1, I2.tok _, ⟨_, by rw [hn]⟩, q1⟩
section
variable {L : LI} {X : Cx} {CL : CLs} {Φ : FS} {k : Nat}
theorem se_lset (xc : XC L CL Φ k X) {sc : Scope} (hs : X.env.scope = sc) {a : E} {x : Expr} (ia : ∀ x, chkE L X.N sc a x = true → SE X CL Φ a x) (c : chkE L X.N sc (.lset a) x = true) : SE X CL Φ (.lset a) x := by
  simp only [chkE] at c
  split at c
  · rename_i g gp g2 gp2 y qp pos
    simp only [Bool.and_eq_true, decide_eq_true_eq] at c
    obtain ⟨rfl, rfl, c2, c3, c4, c5, c6⟩ := c
    intro env h h' d e G H σ s re Q p
    simp only [evE] at e
    obtain ⟨dl, h1, el, e⟩ := Z.R.bnd_inv e
    unfold lsetV at e
    split at e
    · rename_i ds e1
      split at e
      · rename_i ns e2
        split at e
        · rename_i hn
          cases e
          refine PE.go (pe_lset (gl_ok hs c2) (xc.bi _ c3) (gl_ok hs c4) (xc.bi _ c5) (tE_pe X y) xc.calm (chkE_star c6 _ _)) fun _ => ?_
          refine ia _ c6 env h _ _ el G H σ s re _ fun G1 H1 u ev1 s1 r1 l1 => ?_
          obtain ⟨b, vs, rfl, hb, rvs⟩ := lst_ok s1 e1 r1
          have ea := rvs.ints e2
          subst ea
          exact ⟨b, ns, rfl, SqL.of hb, hn, fun rl => (p.from ev1).here s1 (.int _) rl⟩
        · cases e
      · cases e
    · cases e
  · cases c
end
end Z

end
section
/-! all expressions -/
namespace Z
open PySem PySem.Spec L2
section
variable {L : LI} {CL : CLs} {Φ : FS} {k : Nat}
/-- in a comprehension's block -/
theorem XC.blk {X : Cx} (xc : XC L CL Φ k X) (s : Shared) (H : Hp) (scope sc2 : Scope) (cl : List (Str × Addr)) (C : Addr) (fp : List Addr) : XC L CL Φ k (X.blk s H scope (compEnvC sc2 cl C X.env) fp) := ⟨xc.calm, xc.nd, xc.room1, xc.bi, fun f fi e => let ⟨h⟩ := xc.fn f fi e; ⟨h⟩, xc.cl, fun c nm f ar e => let ⟨h⟩ := xc.mkr c nm f ar e; ⟨h⟩, fun f cn m ar e => let ⟨h⟩ := xc.st f cn m ar e; ⟨h⟩, fun f kd c m ar e => let ⟨h⟩ := xc.me f kd c m ar e; ⟨h⟩, fun f c cn m ar e => let ⟨h⟩ := xc.cm f c cn m ar e; ⟨h⟩, fun c j e => let ⟨h⟩ := xc.itr c j e; ⟨h⟩, xc.ins, xc.lam⟩
theorem bo_of {N : List Str} {sc : Scope} {b : E} {op : BoolOp} {ys : List Expr} {p : Pos} (c : chkE L N sc b (.BoolOp op ys p) = true) : isBo b = true := by
  cases b <;> first | rfl | (simp [chkE, isCall] at c)
structure AllE (X : Cx) (CL : CLs) (Φ : FS) (e : E) (x : Expr) : Prop where
  se : SE X CL Φ e x
  st : ST X CL Φ e x
  sw : isBo e = true → SW X CL Φ e x
theorem AllE.of {X : Cx} {e : E} {x : Expr} (ie : SE X CL Φ e x) (nb : isBo e = false) (hp : ∀ whole, isTrue x X.env whole = (do let v ← whole; standAt x.pos; holding [v] (truthy v))) : AllE X CL Φ e x := ⟨ie, st_val ie hp, fun h => by rw [nb] at h; cases h⟩
/-- the test of a form that isTrue does not open -/
def plainT : Expr → Bool
  | .UnaryOp .Not .. => false
  | .BoolOp .. => false
  | .IfExp .. => false
  | .Compare .. => false
  | _ => true
theorem plainT_ok {x : Expr} (h : plainT x = true) (env : PySem.Env) (whole : Sem Value) : isTrue x env whole = (do let v ← whole; standAt x.pos; holding [v] (truthy v)) := by
  cases x with
  | UnaryOp o y p => cases o <;> first | rfl | cases h
  | _ => first | rfl | cases h
theorem AllE.pl {X : Cx} {e : E} {x : Expr} (ie : SE X CL Φ e x) (nb : isBo e = false) (h : plainT x = true) : AllE X CL Φ e x := .of ie nb (plainT_ok h X.env)
theorem se_pt {X : Cx} {sc : Scope} {t a b : E} {x : Expr} (tt : ∀ x, chkE L X.N sc t x = true → ST X CL Φ t x) (ia : ∀ x, chkE L X.N sc a x = true → ST X CL Φ a x) (ib : ∀ x, chkE L X.N sc b x = true → ST X CL Φ b x) (c : chkE L X.N sc (.ife t a b) x = true) : ST X CL Φ (.ife t a b) x := by
  simp only [chkE] at c
  split at c
  · rename_i y1 y2 y3 pos
    simp only [Bool.and_eq_true] at c
    obtain ⟨c1, c2, c3⟩ := c
    intro env h h' d e G H σ s re Q p
    obtain ⟨d0, h0, e, e9⟩ := Z.R.bnd_inv e
    simp only [evE] at e
    obtain ⟨xv, h1, ea, e⟩ := Z.R.bnd_inv e
    intro pins st I
    have := tt _ c1 env h _ _ ea G H σ s re (fun b H1 => tT X (if b = true then y2 else y3) σ H1 Q) (fun G1 H1 e1 s1 l1 => by
      cases xv with
      | true => exact ia _ c2 env h1 _ d (by rw [show evE Φ a env h1 = .ok d0 h0 from e]; exact e9) G1 H1 σ s1 (re.ev s e1) _ (p.from e1)
      | false => exact ib _ c3 env h1 _ d (by rw [show evE Φ b env h1 = .ok d0 h0 from e]; exact e9) G1 H1 σ s1 (re.ev s e1) _ (p.from e1)) pins st I
    show wpAny _ _ (isTrue y1 X.env (eval y1 X.env) >>= fun b => if b = true then isTrue y2 X.env (eval y2 X.env) else isTrue y3 X.env (eval y3 X.env)) _ _ _
    refine wpAny_bind (thn this fun b s1 ⟨H1, I1, q⟩ => ?_)
    cases b with
    | true => exact q pins s1 I1
    | false => exact q pins s1 I1
  · cases c
theorem chk_plain {N : List Str} {sc : Scope} {e : E} {x : Expr} (c : chkE L N sc e x = true) (h : (match e with
    | .not _ => false
    | .bo1 .. => false
    | .bo .. => false
    | .cmp .. => false
    | .ife .. => false
    | .din .. => false
    | .fz .. => false
    | .mk .. => false
    | .ccal .. => false
    | .mkc .. => false
    | .meth .. => false
    | .opm .. => false
    | _ => true) = true) : plainT x = true := by
  cases e <;> first | (cases h; done) | (simp only [chkE] at c; split at c <;> first | rfl | (cases c; done))
theorem fz_plain {N : List Str} {sc : Scope} {a : E} {x : Expr} (c : chkE L N sc (.fz a) x = true) : plainT x = true := by
  simp only [chkE, Bool.and_eq_true] at c
  cases x <;> first | rfl | (have := c.1; cases this)
theorem mk_plain {N : List Str} {sc : Scope} {c0 f : Nat} {es : Es} {x : Expr} (c : chkE L N sc (.mk c0 f es) x = true) : plainT x = true := by
  simp only [chkE] at c
  split at c
  · rfl
  · cases c
theorem meth_plain {N : List Str} {sc : Scope} {kd c0 : Nat} {md : Bool} {f : Nat} {o : E} {es : Es} {x : Expr} (c : chkE L N sc (.meth kd c0 md f o es) x = true) : plainT x = true := by
  simp only [chkE] at c
  split at c <;> first | rfl | cases c
theorem opm_plain {N : List Str} {sc : Scope} {c0 : Nat} {md : Bool} {f : Nat} {a b : E} {x : Expr} (c : chkE L N sc (.opm c0 md f a b) x = true) : plainT x = true := by
  simp only [chkE] at c
  split at c <;> first | rfl | cases c
theorem ccal_plain {N : List Str} {sc : Scope} {c0 : Nat} {md : Bool} {f : Nat} {es : Es} {x : Expr} (c : chkE L N sc (.ccal c0 md f es) x = true) : plainT x = true := by
  simp only [chkE] at c
  split at c <;> first | rfl | cases c
theorem mkc_plain {N : List Str} {sc : Scope} {i c0 f : Nat} {es : Es} {x : Expr} (c : chkE L N sc (.mkc i c0 f es) x = true) : plainT x = true := by
  simp only [chkE] at c
  split at c <;> first | rfl | cases c
theorem set_plain {i : Expr} (h : isSet i = false) (env : PySem.Env) (x : Value) : foldedSetIterable i env x = pure x := by
  cases i <;> first | rfl | cases h
theorem dps {X : Cx} (xc : XC L CL Φ k X) {sc : Scope} (hs : X.env.scope = sc) {own : List (Str × Nat)} {j : Nat} {it : E} {x : Expr} (ia : ∀ x, chkE L X.N sc it x = true → SE X CL Φ it x) (c : chkE L X.N sc (.dcN own j it) x = true) :
    ∃ kx vx t i scope pos, x = .DictComp kx vx [⟨t, i, [], 0⟩] scope pos ∧ DPs X CL Φ scope own j it kx vx t i := by
  simp only [chkE] at c
  split at c
  · rename_i ky kp kk kp2 t tp i scope pos
    simp only [Bool.and_eq_true, Bool.not_eq_true', decide_eq_true_eq] at c
    obtain ⟨c1, c2, c3, c4, c5, c6⟩ := c
    subst hs
    refine ⟨_, _, _, _, _, _, rfl, xc.calm, xc.nd, si_seq ia (by simpa only [chkIt] using c2), blkOk_by c1, fun s H C cl fp => pg_tg (X := X.blk s H scope (compEnvC scope cl C X.env) fp) (tg := .nm j) xc.calm xc.nd rfl rfl c3, fun s H C cl fp => ?_, fun s H C cl fp => ?_, c5, set_plain c6 X.env⟩
    · exact se_var (L := L) (X := X.blk s H scope (compEnvC scope cl C X.env) fp) rfl (by simp only [chkE]; exact c4)
    · exact se_con (L := L) (X := X.blk s H scope (compEnvC scope cl C X.env) fp) (sc := X.env.scope) (c := .non) rfl
  · cases c
mutual
theorem allE : ∀ (e : E) {X : Cx} (xc : XC L CL Φ k X) {sc : Scope} (hs : X.env.scope = sc) (x : Expr), chkE L X.N sc e x = true → AllE X CL Φ e x
  | .var i, X, xc, sc, hs, x, c => .pl (se_var hs c) rfl (chk_plain c rfl)
  | .con kc, X, xc, sc, hs, x, c => .pl (se_con c) rfl (chk_plain c rfl)
  | .bin o m a b, X, xc, sc, hs, x, c => .pl (se_bin (fun x c => (allE a xc hs x c).se) (fun x c => (allE b xc hs x c).se) c) rfl (chk_plain c rfl)
  | .neg a, X, xc, sc, hs, x, c => .pl (se_neg (fun x c => (allE a xc hs x c).se) c) rfl (chk_plain c rfl)
  | .not a, X, xc, sc, hs, x, c => let z := se_not (fun x c => (allE a xc hs x c).se) (fun x c => (allE a xc hs x c).st) c; ⟨z.1, z.2, fun h => nomatch h⟩
  | .bo1 o a, X, xc, sc, hs, x, c => let z := se_bo1 (fun x c => (allE a xc hs x c).se) (fun x c => (allE a xc hs x c).st) c; ⟨z.1, z.2.st, fun _ => z.2⟩
  | .bo o a b, X, xc, sc, hs, x, c => by
    have hb : isBo b = true := by
      simp only [chkE] at c
      split at c
      · simp only [Bool.and_eq_true] at c
        exact bo_of c.2.2
      · cases c
    have z := se_bo (fun x c => (allE a xc hs x c).se) (fun x c => (allE a xc hs x c).st) (fun x c => (allE b xc hs x c).se) (fun h x c => (allE b xc hs x c).sw h) hb c
    exact ⟨z.1, z.2.st, fun _ => z.2⟩
  | .cmp o a b, X, xc, sc, hs, x, c => let z := se_cmp xc (fun x c => (allE a xc hs x c).se) (fun x c => (allE b xc hs x c).se) c; ⟨z.1, z.2, fun h => nomatch h⟩
  | .ife t a b, X, xc, sc, hs, x, c => ⟨se_ife (fun x c => (allE t xc hs x c).st) (fun x c => (allE a xc hs x c).se) (fun x c => (allE b xc hs x c).se) c, se_pt (fun x c => (allE t xc hs x c).st) (fun x c => (allE a xc hs x c).st) (fun x c => (allE b xc hs x c).st) c, fun h => nomatch h⟩
  | .tup es, X, xc, sc, hs, x, c => .pl (se_tup (fun x c => allEs es xc hs x c) c) rfl (chk_plain c rfl)
  | .lst m es, X, xc, sc, hs, x, c => .pl (se_lst (fun x c => allEs es xc hs x c) c) rfl (chk_plain c rfl)
  | .call md f es, X, xc, sc, hs, x, c => .pl (se_call xc hs (fun x c => allEs es xc hs x c) c) rfl (chk_plain c rfl)
  | .callD md f es kc, X, xc, sc, hs, x, c => .pl (se_callD xc hs (fun x c => allEs es xc hs x c) c) rfl (chk_plain c rfl)
  | .callK md f es e, X, xc, sc, hs, x, c => .pl (se_callK xc hs (fun x c => allEs es xc hs x c) (fun x c => (allE e xc hs x c).se) c) rfl (chk_plain c rfl)
  | .bi f m es, X, xc, sc, hs, x, c => .pl (se_bi xc hs (fun x c => allEs es xc hs x c) c) rfl (chk_plain c rfl)
  | .isi a tp ts, X, xc, sc, hs, x, c => .pl (se_isi xc hs (fun x c => (allE a xc hs x c).se) c) rfl (chk_plain c rfl)
  | .mth o f es, X, xc, sc, hs, x, c => .pl (se_mth (fun x c => (allE o xc hs x c).se) (fun x c => allEs es xc hs x c) c) rfl (chk_plain c rfl)
  | .ix a i, X, xc, sc, hs, x, c => .pl (se_ix (fun x c => (allE a xc hs x c).se) (fun x c => (allE i xc hs x c).se) c) rfl (chk_plain c rfl)
  | .slc m a lo hi, X, xc, sc, hs, x, c => .pl (se_slc (fun x c => (allE a xc hs x c).se) (fun x c => allO lo xc hs x c) (fun x c => allO hi xc hs x c) c) rfl (chk_plain c rfl)
  | .rev m a, X, xc, sc, hs, x, c => .pl (se_rev (fun x c => (allE a xc hs x c).se) c) rfl (chk_plain c rfl)
  | .comp m own tg it c0 e, X, xc, sc, hs, x, c => by
    refine .pl ?_ rfl (chk_plain c rfl)
    simp only [chkE] at c
    split at c
    · rename_i elt t i fs scope pos
      simp only [Bool.and_eq_true, Bool.not_eq_true'] at c
      obtain ⟨c1, c2, c3, c4, c5, c6, c7, c8⟩ := c
      subst hs
      have hg : ∀ (s : Shared) (H : Hp) (C : Addr) (cl : List (Str × Addr)) (fp : List Addr), PG (X.blk s H scope (compEnvC scope cl C X.env) fp) t (gTg X.K tg) := fun s H C cl fp => pg_tg (X := X.blk s H scope (compEnvC scope cl C X.env) fp) xc.calm xc.nd rfl rfl c3
      refine CPs.se ⟨xc.calm, xc.nd, allIt it xc rfl (fun ts e => ?_) c7 i c2, blkOk_by c1, hg, fun s H C cl fp => (allE e (xc.blk s H scope scope cl C fp) rfl _ c5).se, allC c0 xc c4, own_ok c6, set_plain c8 X.env⟩
      subst e
      cases t with
      | Tuple elts kk tp => exact ⟨_, _, _, rfl⟩
      | _ => simp [chkTg] at c3
    · cases c
  | .dix a i, X, xc, sc, hs, x, c => .pl (se_dix xc (fun x c => (allE a xc hs x c).se) (fun x c => (allE i xc hs x c).se) c) rfl (chk_plain c rfl)
  | .din neg a b, X, xc, sc, hs, x, c => let z := se_din xc (fun x c => (allE a xc hs x c).se) (fun x c => (allE b xc hs x c).se) c; ⟨z.1, z.2, fun h => nomatch h⟩
  | .fld a c0 i, X, xc, sc, hs, x, c => .pl (se_fld xc (fun x c => (allE a xc hs x c).se) c) rfl (chk_plain c rfl)
  | .fz a, X, xc, sc, hs, x, c => .pl (se_fz (fun x c => (allE a xc hs x c).se) c) rfl (fz_plain c)
  | .mk c0 f es, X, xc, sc, hs, x, c => .pl (se_mk xc hs (fun x c => allEs es xc hs x c) c) rfl (mk_plain c)
  | .meth kd c0 md f o es, X, xc, sc, hs, x, c => .pl (se_meth xc hs (fun x c => (allE o xc hs x c).se) (fun x c => allEs es xc hs x c) c) rfl (meth_plain c)
  | .opm c0 md f a b, X, xc, sc, hs, x, c => .pl (se_opm xc (fun x c => (allE a xc hs x c).se) (fun x c => (allE b xc hs x c).se) c) rfl (opm_plain c)
  | .ccal c0 md f es, X, xc, sc, hs, x, c => .pl (se_ccal xc hs (fun x c => allEs es xc hs x c) c) rfl (ccal_plain c)
  | .mkc i c0 f es, X, xc, sc, hs, x, c => .pl (se_mkc xc hs (fun x c => allEs es xc hs x c) c) rfl (mkc_plain c)
  | .srt m l v, X, xc, sc, hs, x, c => .pl (se_srt xc hs (fun x c => (allE l xc hs x c).se) c) rfl (chk_plain c rfl)
  | .lset a, X, xc, sc, hs, x, c => .pl (se_lset xc hs (fun x c => (allE a xc hs x c).se) c) rfl (chk_plain c rfl)
  | .dcN own j it, X, xc, sc, hs, x, c => by
    refine .pl ?_ rfl (chk_plain c rfl)
    obtain ⟨kx, vx, t, i, scope, pos, ex, dp⟩ := dps xc hs (fun x c => (allE it xc hs x c).se) c
    subst ex
    exact fun env h h' d e G H σ s re Q fin => dp.se e s re fin
theorem allEs : ∀ (es : Es) {X : Cx} (xc : XC L CL Φ k X) {sc : Scope} (hs : X.env.scope = sc) (xs : List Expr), chkEs L X.N sc es xs = true → SEs X CL Φ es xs
  | .nil, X, xc, sc, hs, xs, c => ses_nil c
  | .cons e es, X, xc, sc, hs, xs, c => ses_cons (fun x c => (allE e xc hs x c).se) (fun x c => allEs es xc hs x c) c
theorem allO : ∀ (o : Oe) {X : Cx} (xc : XC L CL Φ k X) {sc : Scope} (hs : X.env.scope = sc) (x : Option Expr), chkO L X.N sc o x = true → SO X CL Φ o x
  | .none, X, xc, sc, hs, x, c => so_none c
  | .some e, X, xc, sc, hs, x, c => so_some (fun x c => (allE e xc hs x c).se) c
theorem allC : ∀ (o : Oe) {X : Cx} (xc : XC L CL Φ k X) {scope : Scope} {fs : List Expr}, chkC L X.N (relS scope X.env.scope) o fs = true → (o = .none ∧ fs = []) ∨ ∃ e1 y, o = .some e1 ∧ fs = [y] ∧ ∀ (s : Shared) (H : Hp) (C : Addr) (cl : List (Str × Addr)) (fp : List Addr), ST (X.blk s H scope (compEnvC scope cl C X.env) fp) CL Φ e1 y
  | .none, X, xc, scope, fs, c => .inl ⟨rfl, by simpa [chkC] using c⟩
  | .some e, X, xc, scope, fs, c => by
    simp only [chkC] at c
    split at c
    · rename_i y
      exact .inr ⟨e, y, rfl, rfl, fun s H C cl fp => (allE e (xc.blk s H scope scope cl C fp) rfl _ c).st⟩
    · cases c
theorem allIt : ∀ (it : It) {X : Cx} (xc : XC L CL Φ k X) {sc : Scope} (hs : X.env.scope = sc) {tg : Expr} {tt : Tg} (ht : ∀ ts, tt = .tp ts → ∃ elts kk tp, tg = .Tuple elts kk tp) (hp : isPair it tt = true) (i : Expr), chkIt L X.N sc it i = true → SI X CL Φ it tg i
  | .e a, X, xc, sc, hs, tg, tt, ht, hp, i, c => si_seq (fun x c => (allE a xc hs x c).se) c
  | .f fn es, X, xc, sc, hs, tg, tt, ht, hp, i, c => si_fn xc hs hp ht (fun x c => allEs es xc hs x c) c
  | .own a c0 j, X, xc, sc, hs, tg, tt, ht, hp, i, c => si_own xc (fun x c => (allE a xc hs x c).se) c
end
end
end Z

end
section
/-! statements -/
namespace Z
open PySem PySem.Spec L2
def isFun (sc : Scope) : Bool := match sc.kind with
  | .function => true
  | _ => false
theorem isFun_ok {sc : Scope} (h : isFun sc = true) : sc.kind = .function := by
  unfold isFun at h
  split at h
  · assumption
  · cases h
def lcB (sc s : Scope) (py p : Pos) (y : Str) : Bool := (py.line == p.line) && (!(s.names.any fun (n, k) => n == y && (k == .local || k == .cell)) && isFun sc)
/-- a target that is no fast local -/
def notLoc (sc : Scope) : Expr → Bool
  | .Name y _ => decide (sc.names.lookup y ≠ some .local)
  | _ => true
def asgB (sc : Scope) (t v : Expr) : Bool := match v with
  | .ListComp _ _ s p => (match t with
    | .Name y py => decide (sc.names.lookup y = some .cell) || (decide (sc.names.lookup y = some .local) && lcB sc s py p y)
    | _ => true)
  | .SetComp .. => false
  | .DictComp _ _ _ s p => (match t with
    | .Name y py => decide (sc.names.lookup y = some .local) && lcB sc s py p y
    | _ => false)
  | .Tuple vs _ _ => (match t with
    | .Name .. => true
    | .Subscript .. => true
    | .Tuple ts _ _ => vs.all (foldedForSure 8) || ts.any (notLoc sc)
    | _ => vs.all (foldedForSure 8))
  | _ => true
def isCo (v : Expr) : Bool := match v with
  | .ListComp .. => true
  | .SetComp .. => true
  | .DictComp .. => true
  | _ => false
def chkTgt (L : LI) (N : List Str) (sc : Scope) (fn : Str → Bool) : Tgt → Expr → Bool
  | .nm i, .Name x _ => stB N sc fn i x
  | .tp is, .Tuple xs _ _ => chkTgs N sc fn is xs
  | .sub a i, .Subscript y z _ => chkE L N sc a y && chkE L N sc i z
  | .dsub a i, .Subscript y z _ => chkE L N sc a y && chkE L N sc i z
  | _, _ => false
def notNm : Expr → Bool
  | .Name .. => false
  | _ => true
def notSD : Expr → Bool
  | .SetComp .. => false
  | .DictComp .. => false
  | _ => true
mutual
def chkS (L : LI) (N : List Str) (sc : Scope) (fn : Str → Bool) : S → Stmt → Bool
  | .asg tg e, x => (match x with
    | .Assign [t] v _ => chkE L N sc e v && (chkTgt L N sc fn tg t && asgB sc t v)
    | _ => false)
  | .par i j a b, x => (match x with
    | .Assign [.Tuple [.Name y py, .Name z pz] _ _] (.Tuple [l, r] _ _) _ => !(i == j) && (decide (N[i]? = some y) && (decide (N[j]? = some z) && (decide (sc.names.lookup y = some .local) && (decide (sc.names.lookup z = some .local) && ((!(y == z)) && ((pz.line == py.line) && (isFun sc &&
        (chkE L N sc a l && (chkE L N sc b r && (!([l, r].all (foldedForSure 8)) && !([l, r].all (constantsAlone 8))))))))))))
    | _ => false)
  | .aug i e, x => (match x with
    | .AugAssign (.Name y _) .Add v _ => stB N sc fn i y && chkE L N sc e v
    | _ => false)
  | .expr e, x => (match x with
    | .Expr v _ => chkE L N sc e v && !isCo v
    | _ => false)
  | .ret e, x => (match x with
    | .Return (some v) _ => chkE L N sc e v
    | .Return none _ => (match e with
      | .con .non => true
      | _ => false)
    | _ => false)
  | .ife t a b, x => (match x with
    | .If c p q _ => chkE L N sc t c && (chkSs L N sc fn a p && chkSs L N sc fn b q)
    | _ => false)
  | .fr tg it b _, x => (match x with
    | .For t i body [] _ => chkIt L N sc it i && (chkTg N sc fn tg t && (chkSs L N sc fn b body && (isPair it tg && !isSet i)))
    | _ => false)
  | .whl t b _, x => (match x with
    | .While c body [] _ => chkE L N sc t c && chkSs L N sc fn b body
    | _ => false)
  | .pass, x => (match x with
    | .Pass _ => true
    | .Expr (.Constant (.str _) _ _) _ => true
    | _ => false)
  | .frz _, _ => false
  | .fg _, _ => false
  | .fset i c j e, x => (match x with
    | .Assign [.Attribute y f p2] v _ => chkE L N sc e v && (chkE L N sc (.var i) y && (decide ((L.fd c)[j]? = some f) && (asgB sc (.Attribute y f p2) v && notNm (.Attribute y f p2))))
    | _ => false)
  | .nev, _ => true
def chkSs (L : LI) (N : List Str) (sc : Scope) (fn : Str → Bool) : Ss → List Stmt → Bool
  | .nil, xs => xs.isEmpty
  | .cons s ss, xs => (match s with
    | .frz _ => chkSs L N sc fn ss xs
    | .fg _ => chkSs L N sc fn ss xs
    | _ => (match xs with
      | x :: xs => chkS L N sc fn s x && chkSs L N sc fn ss xs
      | [] => false))
end
section
variable {L : LI} {CL : CLs} {Φ : FS} {k : Nat}
def tS (X : Cx) (x : Stmt) : TS := fun D σ H => ∀ pins s, Inv X pins σ H s → wpAny (model X.prog X.w) X.A (exec x X.env) (SP X pins D) X.xe s
theorem tS_ps (X : Cx) (x : Stmt) : PS X x (tS X x) := ⟨fun pins s σ H D I h => h pins s I⟩
def tSs (X : Cx) (x : List Stmt) : TS := fun D σ H => ∀ pins s, Inv X pins σ H s → wpAny (model X.prog X.w) X.A (execs x X.env) (SP X pins D) X.xe s
theorem tSs_ps (X : Cx) (x : List Stmt) : PSs X x (tSs X x) := ⟨fun pins s σ H D I h => h pins s I⟩
theorem PS.go {X : Cx} {x : Stmt} {t : TS} (p : PS X x t) {σ : List (Option V)} {H : Hp} {D : Ends} (h : t D σ H) : tS X x D σ H := fun pins s I => p.run pins s σ H D I h
theorem PSs.go {X : Cx} {x : List Stmt} {t : TS} (p : PSs X x t) {σ : List (Option V)} {H : Hp} {D : Ends} (h : t D σ H) : tSs X x D σ H := fun pins s I => p.run pins s σ H D I h
/-- behind a statement -/
def PstS (X : Cx) (CL : CLs) (G : Gh) (h : CH) (H : Hp) (r : RS) (D : Ends) : Prop := match r with
  | .nx env' h' => ∀ G' H' σ', EvR G h H G' h' H' → SR X.K CL G' h' H' → RE X.K CL h'.length G' H' env' σ' → D.nx σ' H'
  | .rt d h' => ∀ G' H' v, EvR G h H G' h' H' → SR X.K CL G' h' H' → RV X.K CL h'.length G' H' d v → D.rt v H'
  | _ => False
theorem PstS.from {X : Cx} {G G1 : Gh} {h h1 : CH} {H H1 : Hp} {r : RS} {D : Ends} (p : PstS X CL G h H r D) (e : EvR G h H G1 h1 H1) : PstS X CL G1 h1 H1 r D := by
  cases r with
  | nx env' h' => exact fun G' H' σ' a b c => p G' H' σ' (e.trans a) b c
  | rt d h' => exact fun G' H' v a b c => p G' H' v (e.trans a) b c
  | ex c ds h' => exact p
  | no => exact p
def SSt (X : Cx) (CL : CLs) (Φ : FS) (s : S) (x : Stmt) : Prop := ∀ (env : Env) (h : CH) (G : Gh) (H : Hp) (σ : List (Option V)), SR X.K CL G h H → RE X.K CL h.length G H env σ → ∀ D : Ends, PstS X CL G h H (evS Φ s env h) D → tS X x D σ H
def SSts (X : Cx) (CL : CLs) (Φ : FS) (s : Ss) (x : List Stmt) : Prop := ∀ (env : Env) (h : CH) (G : Gh) (H : Hp) (σ : List (Option V)), SR X.K CL G h H → RE X.K CL h.length G H env σ → ∀ D : Ends, PstS X CL G h H (evSs Φ s env h) D → tSs X x D σ H
theorem of_inv {X : Cx} {α : Type} {r : R α} {f : α → CH → RS} {G : Gh} {h : CH} {H : Hp} {D : Ends} (p : PstS X CL G h H (RS.of r f) D) : ∃ a h1, r = .ok a h1 ∧ PstS X CL G h H (f a h1) D := by
  cases r with
  | ok a h1 => exact ⟨a, h1, rfl, p⟩
  | ex c ds h1 => exact p.elim
  | no => exact p.elim
variable {X : Cx}
/-- the value first -/
theorem se_then {e : E} {x : Expr} (a : SE X CL Φ e x) {env : Env} {h h1 : CH} {d : D} (q : evE Φ e env h = .ok d h1) {G : Gh} {H : Hp} {σ : List (Option V)} (s : SR X.K CL G h H) (re : RE X.K CL h.length G H env σ) {Q : VK}
    (p : ∀ G1 H1 v, EvR G h H G1 h1 H1 → SR X.K CL G1 h1 H1 → RV X.K CL h1.length G1 H1 d v → RE X.K CL h1.length G1 H1 env σ → Q v H1) : tE X x σ H Q := a env h h1 d q G H σ s re Q fun G1 H1 v e1 s1 r1 _ => p G1 H1 v e1 s1 r1 (re.ev s e1)
theorem sw_no {v t : Expr} {l : Nat} {env : PySem.Env} (h : isCo v = false) : swapsWith v t l env = pure false := by
  cases v <;> first | rfl | cases h
theorem sw_cell {elt : Expr} {gs : List Comprehension} {scope : Scope} {pos py : Pos} {y : Str} {l : Nat} {env : PySem.Env} (hy : env.scope.names.lookup y = some .cell) : swapsWith (.ListComp elt gs scope pos) (some (.Name y py)) l env = pure false := by
  have ky : env.kindOf y = some .cell := hy
  have : (some NameKind.cell == some NameKind.local) = false := by decide
  unfold swapsWith
  simp only [ky, this, Bool.and_false, Bool.false_and]
theorem sd_of {sc : Scope} {t v : Expr} (hn : notNm t = true) (h : asgB sc t v = true) : notSD v = true := by cases v <;> first | rfl | (cases h; done) | (cases t <;> first | (cases h; done) | cases hn)
theorem sw_else {v t : Expr} {l : Nat} {env : PySem.Env} (h : notNm t = true) (h2 : notSD v = true) : swapsWith v (some t) l env = pure false := by
  cases v <;> first | rfl | (cases h2; done) | (cases t <;> first | rfl | (cases h; done))
theorem swn {ts vs : List Expr} {k j : Nat} {p q : Pos} {env : PySem.Env} (h : vs.all (foldedForSure 8) = true) : swappedStores [.Tuple ts k p] (.Tuple vs j q) env = pure none := by
  unfold swappedStores
  simp only [h, if_true]
  repeat' split
  all_goals rfl
theorem fm_lt {f : Expr → Option Str} {g : Expr → Bool} (hf : ∀ t, g t = true → f t = none) : ∀ ts : List Expr, ts.any g = true → (ts.filterMap f).length < ts.length
  | [], h => by cases h
  | t :: r, h => by
    rw [List.any_cons, Bool.or_eq_true] at h
    have le : (r.filterMap f).length ≤ r.length := List.length_filterMap_le _ _
    rw [List.filterMap_cons]
    rcases h with h | h
    · rw [hf t h]
      simp only [List.length_cons]
      omega
    · have ih := fm_lt hf r h
      split <;> simp only [List.length_cons] <;> omega
theorem swn4 {ts vs : List Expr} {k j : Nat} {p q : Pos} {env : PySem.Env} (h : ts.any (notLoc env.scope) = true) : swappedStores [.Tuple ts k p] (.Tuple vs j q) env = pure none := by
  unfold swappedStores
  dsimp only
  split
  · rfl
  · split
    · rfl
    · refine if_pos ?_
      rw [Bool.or_eq_true]
      refine .inl (bne_iff_ne.mpr (Nat.ne_of_lt (fm_lt (g := notLoc env.scope) (fun t ht => ?_) ts h)))
      cases t with
      | Name y pos =>
        have ht : decide (env.scope.names.lookup y ≠ some .local) = true := ht
        have hk : (env.kindOf y == some .local) = false := by
          show (env.scope.names.lookup y == some .local) = false
          simpa using ht
        simp only [hk, Bool.false_and]
        rfl
      | _ => rfl
theorem swn2 {t v : Expr} {env : PySem.Env} (h : (match v with
    | .Tuple .. => false
    | _ => true) = true) : swappedStores [t] v env = pure none := by
  cases v <;> first | (cases h; done) | (cases t <;> rfl)
theorem swn3 {t v : Expr} {env : PySem.Env} (h : (match t with
    | .Name .. => true
    | .Subscript .. => true
    | _ => false) = true) : swappedStores [t] v env = pure none := by
  cases t <;> first | (cases h; done) | (cases v <;> rfl)
theorem sw_two {y z : Str} {py pz pt pt2 : Pos} {kt k2 : Nat} {l r : Expr} {env : PySem.Env} (hk : env.scope.kind = .function) (hy : env.scope.names.lookup y = some .local) (hz : env.scope.names.lookup z = some .local) (hne : (y == z) = false) (hl : (pz.line == py.line) = true)
    (hs : [l, r].any (fun | .Starred .. => true | _ => false) = false) (h1 : [l, r].all (foldedForSure 8) = false) (h2 : [l, r].all (constantsAlone 8) = false) :
    swappedStores [.Tuple [.Name y py, .Name z pz] kt pt] (.Tuple [l, r] k2 pt2) env = pure (some [y, z]) := by
  have ky : env.kindOf y = some .local := hy
  have kz : env.kindOf z = some .local := hz
  have hb : env.blockKind = .function := by unfold PySem.Env.blockKind; rw [hk]; rfl
  have hne2 : (z == y) = false := by
    cases q : (z == y) with
    | false => rfl
    | true => rw [eq_of_beq q] at hne; simp at hne
  have hl' : pz.line = py.line := eq_of_beq hl
  simp only [List.all_cons, List.all_nil, Bool.and_true] at h1 h2
  simp only [List.any_cons, List.any_nil, Bool.or_false] at hs
  unfold swappedStores
  simp [ky, kz, hb, hl', Expr.pos, hne2, List.eraseDups_cons, h1, h2, hs]
  intro q
  rw [Bool.or_eq_false_iff] at hs
  rcases q with q | q
  · cases l <;> first | (cases q; done) | (cases hs.1; done)
  · cases r <;> first | (cases q; done) | (cases hs.2; done)
theorem noStar {N : List Str} {sc : Scope} {a : E} {l : Expr} (h : chkE L N sc a l = true) : (match l with
    | .Starred .. => true
    | _ => false) = false := by
  cases l <;> first | rfl | (exfalso; cases a <;> simp [chkE, isCall] at h)
theorem ix_assign {N : List Str} {sc : Scope} {i : E} {y z : Expr} {pos : Pos} {env : PySem.Env} (h : chkE L N sc i z = true) (v : Value) : assign (.Subscript y z pos) env v = (do
      let ov ← holding [v] (eval y env)
      let iv ← holding [v, ov] (eval z env)
      standAt pos
      holding [v, ov, iv] (setItem ov iv v)
      release [v, ov, iv] []) := by
  cases z <;> first | rfl | (exfalso; cases i <;> simp [chkE, isCall] at h)
theorem setV_ok {G : Gh} {h h' : CH} {H : Hp} {x i y : D} {o iv v : V} {Q : Hp → Prop} (s : SR X.K CL G h H) (e : setV x i y h = some h') (rx : RV X.K CL h.length G H x o) (ri : RV X.K CL h.length G H i iv) (ry : RV X.K CL h.length G H y v)
    (p : ∀ H', EvR G h H G h' H' → SR X.K CL G h' H' → Q H') : rSetL o iv v H Q := by
  unfold setV at e
  split at e
  · rename_i n k
    split at e
    · rename_i ds q
      obtain ⟨rfl, vs, hv, rv⟩ := cell_at s q rx
      cases ri
      have hl := rv.length
      have go : ∀ j, some (h.set n (.lst (ds.set j y))) = some h' → ixN vs.length k = some j → rSetL (.ref (G.φ n)) (.int k) v H Q := fun j e1 e2 => by
        cases e1
        obtain ⟨a, b⟩ := store_lst s q (rv.set ry j)
        exact ⟨_, vs, k, j, rfl, rfl, hv, e2, p _ b a⟩
      split at e
      · rename_i h0
        split at e
        · rename_i h1
          refine go _ e ?_
          unfold ixN
          rw [if_pos h0, if_pos (by omega)]
        · cases e
      · rename_i h0
        split at e
        · rename_i h1
          refine go _ e ?_
          unfold ixN
          rw [if_neg h0, if_pos (by omega), hl]
        · cases e
    · cases e
  · cases e
theorem setK_ok {G : Gh} {h h' : CH} {H : Hp} {x i y : D} {o iv v : V} {Q : Hp → Prop} (s : SR X.K CL G h H) (e : setK x i y h = some h') (rx : RV X.K CL h.length G H x o) (ri : RV X.K CL h.length G H i iv) (ry : RV X.K CL h.length G H y v)
    (p : ∀ H', EvR G h H G h' H' → SR X.K CL G h' H' → Q H') : rSetD o iv v H Q := by
  unfold setK at e
  split at e
  · rename_i n k
    split at e
    · rename_i kvs q
      split at e
      · rename_i hz
        cases e
        cases rx
        cases ri
        obtain ⟨_, ws, hv, kv⟩ := s.cell n _ q
        obtain ⟨s1, e1⟩ := s.setCell (c := .dct (putD kvs k y)) (o := .dK (putK ws (.inl k : Key) v)) q rfl rfl fun H' _ hH nf _ f => ⟨nf, _, hH, kvV_put (f ry) (kvV.map f kv)⟩
        exact ⟨_, _, rfl, DPut.k (k := (.inl k : Key)) hv (by rw [← kvV_len kv]; exact SZ_lt hz), p _ e1 s1⟩
      · cases e
    · cases e
  · cases e
theorem sw_trueD {kx vx : Expr} {gs : List Comprehension} {scope : Scope} {pos py : Pos} {y : Str} {l : Nat} {env : PySem.Env} (hk : env.scope.kind = .function) (hy : env.scope.names.lookup y = some .local) (hl : (py.line == pos.line) = true)
    (ha : (scope.names.any fun (n, k) => n == y && (k == .local || k == .cell)) = false) : swapsWith (.DictComp kx vx gs scope pos) (some (.Name y py)) l env = pure true := by
  have ky : env.kindOf y = some .local := hy
  have hb : env.blockKind = .function := by unfold PySem.Env.blockKind; rw [hk]; rfl
  unfold swapsWith
  simp only [hb, ky, ha, Expr.pos, hl]
  rfl
theorem ps_setDc {i : Nat} {y : Str} {py : Pos} {kx vx tg iter : Expr} {ifs : List Expr} {scope : Scope} {own : List (Str × Nat)} {pos spos : Pos} {wi : TI} {g : TG} {tt : TT} {tk tv : TE} (hc : X.calm = true) (hN : X.N.Nodup) (hy : X.N[i]? = some y) (hyl : X.env.scope.names.lookup y = some .local)
    (hsw : swapsWith (.DictComp kx vx [⟨tg, iter, ifs, 0⟩] scope pos) (some (.Name y py)) spos.line X.env = pure true) (hi : PI X tg iter wi) (ok : BlkOk X.N X.env.scope scope own)
    (hg : ∀ (s : Shared) (H : Hp) (C : Addr) (cl : List (Str × Addr)) (fp : List Addr), PG (X.blk s H scope (compEnvC scope cl C X.env) fp) tg g) (ht : ∀ (s : Shared) (H : Hp) (C : Addr) (cl : List (Str × Addr)) (fp : List Addr), PTs (X.blk s H scope (compEnvC scope cl C X.env) fp) ifs tt)
    (hk : ∀ (s : Shared) (H : Hp) (C : Addr) (cl : List (Str × Addr)) (fp : List Addr), PE (X.blk s H scope (compEnvC scope cl C X.env) fp) kx tk) (he : ∀ (s : Shared) (H : Hp) (C : Addr) (cl : List (Str × Addr)) (fp : List Addr), PE (X.blk s H scope (compEnvC scope cl C X.env) fp) vx tv) (hs : ∀ x, foldedSetIterable iter X.env x = pure x) :
    PS X (.Assign [.Name y py] (.DictComp kx vx [⟨tg, iter, ifs, 0⟩] scope pos) spos) (tAsg (tDc wi g tt tk tv (own.map (·.2))) (gName i)) := by
  refine ⟨fun pins s σ H D I h => ?_⟩
  rw [exec_Assign_Name_used _ _ _ _ hsw]
  refine wpAny_bind (wpAny_standAt (wpAny_bind ?_))
  show wpAny _ X.A (do let _ ← comprehension (.DictComp kx vx [⟨tg, iter, ifs, 0⟩] scope pos) scope X.env (firstIterPos [⟨tg, iter, ifs, 0⟩] pos) newDict false (eval iter X.env) (some (assign (.Name y py) X.env))) _ _ s
  have h : tDc wi g tt tk tv (own.map (·.2)) σ H (fun x H1 => gName i x σ H1 D.nx) := h
  refine wpAny_bind (thn (dc_core (Qf := fun _ s' => SP X pins D .next s') hc hN I hi ok hg ht hk he hs h fun L C s' m H' I' q hn f => ?_) fun _ s' hq => wpAny_pure (wpAny_pure hq))
  show wpAny _ _ (assign (.Name y py) X.env (.ref L)) _ _ _
  refine wpAny_assign_Name (store_ok2 (v := V.ref L) I' hN hy (.inl hyl) rfl (fun s2 I2 ⟨a, sb, ha⟩ => ?_) (.inr hyl))
  obtain ⟨f0, f1, f2, f3, f4, f5⟩ := f
  have haC : C ≠ a := by
    rcases ha with z | z
    · rw [z]; exact f1
    · exact fun e => f4 y a z e.symm
  refine ⟨m, hn.sameBut sb haC, fun h3 sb3 => ?_⟩
  exact ⟨_, H', I2.turned (t' := s2.toks) (fun b o hb e => (sb3.2 b hb).trans e) f0 f1 f3 f4 f5, q⟩
theorem ss_asg (xc : XC L CL Φ k X) {sc : Scope} {fn : Str → Bool} (hs : X.env.scope = sc) (hf : X.fn = fn) {tg : Tgt} {e : E} {x : Stmt} (c : chkS L X.N sc fn (.asg tg e) x = true) : SSt X CL Φ (.asg tg e) x := by
  simp only [chkS] at c
  split at c
  · rename_i t v pos
    simp only [Bool.and_eq_true] at c
    obtain ⟨c1, c2, c3⟩ := c
    subst hs hf
    have se := (allE e xc rfl v c1).se
    intro env h G H σ s re D p
    simp only [evS] at p
    obtain ⟨d, h1, q, p⟩ := of_inv p
    cases tg with
    | nm i =>
      cases t with
      | Name y py =>
        obtain ⟨b1, b2, b3⟩ := stB_ok (show stB X.N X.env.scope X.fn i y = true from c2)
        have fin : ∀ G1 H1 w, EvR G h H G1 h1 H1 → SR X.K CL G1 h1 H1 → RV X.K CL h1.length G1 H1 d w → RE X.K CL h1.length G1 H1 env σ → gName i w σ H1 D.nx := fun G1 H1 w e1 s1 r1 re1 => p G1 H1 _ e1 s1 (re1.set r1 i)
        by_cases hco : isCo v = true
        · cases v with
          | ListComp elt gs scope p2 =>
            simp only [asgB, Bool.or_eq_true, Bool.and_eq_true, decide_eq_true_eq] at c3
            rcases c3 with c3 | ⟨c3, c4⟩
            · exact PS.go (ps_set xc.nd b1 b2 (tE_pe X _) (sw_cell c3) b3) (se_then se q s re fin)
            · unfold lcB at c4
              simp only [Bool.and_eq_true, Bool.not_eq_true'] at c4
              obtain ⟨c5, c6, c7⟩ := c4
              cases e with
              | comp m own tg it c0 e =>
                simp only [chkE] at c1
                split at c1
                · rename_i elt t i2 fs scope pos2 heq
                  cases heq
                  simp only [Bool.and_eq_true, Bool.not_eq_true'] at c1
                  obtain ⟨d1, d2, d3, d4, d5, d6, d7, d8⟩ := c1
                  have hg : ∀ (s : Shared) (H : Hp) (C : Addr) (cl : List (Str × Addr)) (fp : List Addr), PG (X.blk s H scope (compEnvC scope cl C X.env) fp) t (gTg X.K tg) := fun s H C cl fp => pg_tg (X := X.blk s H scope (compEnvC scope cl C X.env) fp) xc.calm xc.nd rfl rfl d3
                  have hi : SI X CL Φ it t i2 := by
                    refine allIt it xc rfl (fun ts e => ?_) d7 i2 d2
                    subst e
                    cases t with
                    | Tuple elts kk tp => exact ⟨_, _, _, rfl⟩
                    | _ => simp [chkTg] at d3
                  have cp : CPs X CL Φ scope own tg it c0 e elt t i2 fs := ⟨xc.calm, xc.nd, hi, blkOk_by d1, hg, fun s H C cl fp => (allE e (xc.blk s H scope scope cl C fp) rfl _ d5).se, allC c0 xc d4, own_ok d6, set_plain d8 X.env⟩
                  refine PS.go (ps_setLc xc.calm xc.nd b1 c3 (sw_true (isFun_ok c7) c3 c5 c6) (tI_pi X t i2) cp.ok cp.hg cp.pts (CPs.pe (tg := tg) (it := it) (c := c0) (e := e) (own := own) (t := t) (i := i2) (fs := fs)) cp.hs) ?_
                  exact cp.lc q s re fun G1 H1 w e1 s1 r1 => fin G1 H1 w e1 s1 r1 (re.ev s e1)
                · cases c1
              | _ => simp [chkE, isCall] at c1
          | SetComp _ _ _ _ => cases c3
          | DictComp kx vx gs scope p2 =>
            simp only [asgB, Bool.and_eq_true, decide_eq_true_eq] at c3
            obtain ⟨c3, c4⟩ := c3
            unfold lcB at c4
            simp only [Bool.and_eq_true, Bool.not_eq_true'] at c4
            obtain ⟨c5, c6, c7⟩ := c4
            cases e with
            | dcN own j it =>
              obtain ⟨kx, vx, t, i2, scope, pos2, ex, dp⟩ := dps xc rfl (fun x c => (allE it xc rfl x c).se) c1
              cases ex
              refine PS.go (ps_setDc xc.calm xc.nd b1 c3 (sw_trueD (isFun_ok c7) c3 c5 c6) (tI_pi X t i2) dp.ok dp.hg (fun _ _ _ _ _ => pts_nil) (peb scope kx) (peb scope vx) dp.hs) ?_
              exact dp.dc q s re fun G1 H1 w e1 s1 r1 => fin G1 H1 w e1 s1 r1 (re.ev s e1)
            | _ => simp [chkE, isCall] at c1
          | _ => cases hco
        · exact PS.go (ps_set xc.nd b1 b2 (tE_pe X _) (sw_no (by simpa using hco)) b3) (se_then se q s re fin)
      | _ => simp [chkTgt] at c2
    | tp is =>
      cases t with
      | Tuple xs kk tp =>
        have c2 : chkTgs X.N X.env.scope X.fn is xs = true := c2
        have pg : PG X (.Tuple xs kk tp) (gTg X.K (.tp is)) := pg_tg (tg := .tp is) xc.calm xc.nd rfl rfl c2
        have hw : swappedStores [.Tuple xs kk tp] v X.env = pure none := by
          cases v with
          | Tuple vs _ _ =>
            have c3 : (vs.all (foldedForSure 8) || xs.any (notLoc X.env.scope)) = true := c3
            rw [Bool.or_eq_true] at c3
            exact c3.elim swn swn4
          | _ => exact swn2 rfl
        have hsw : swapsWithSole [.Tuple xs kk tp] v pos.line X.env = pure false := sw_else (v := v) (t := .Tuple xs kk tp) (l := pos.line) (env := X.env) rfl (sd_of rfl c3)
        refine PS.go (ps_asg (tE_pe X _) pg hsw hw) (se_then se q s re fun G1 H1 w e1 s1 r1 re1 => ?_)
        simp only [evTgt] at p
        split at p
        · rename_i ds
          split at p
          · rename_i hl
            have ha : asgTg (.tp is) (.tup ds) env = some (setAll is ds env) := by simp [asgTg, hl]
            obtain ⟨σ', a1, a2, _⟩ := asg_ok ha r1 re1
            exact a2 _ (p G1 H1 σ' e1 s1 a1)
          · exact p.elim
        · exact p.elim
      | _ => simp [chkTgt] at c2
    | sub a i =>
      cases t with
      | Subscript y z tp =>
        have c2 : (chkE L X.N X.env.scope a y && chkE L X.N X.env.scope i z) = true := c2
        rw [Bool.and_eq_true] at c2
        have hsw : swapsWithSole [.Subscript y z tp] v pos.line X.env = pure false := sw_else (v := v) (t := .Subscript y z tp) (l := pos.line) (env := X.env) rfl (sd_of rfl c3)
        refine PS.go (ps_asg (tE_pe X _) (pg_sub (tE_pe X y) (tE_pe X z) set_list (ix_assign c2.2)) hsw (swn3 rfl)) (se_then se q s re fun G1 H1 w e1 s1 r1 re1 => ?_)
        simp only [evTgt] at p
        obtain ⟨dx, h2, q2, p⟩ := of_inv p
        obtain ⟨di, h3, q3, p⟩ := of_inv p
        refine se_then (allE a xc rfl y c2.1).se q2 s1 re1 fun G2 H2 w2 e2 s2 r2 re2 => ?_
        refine se_then (allE i xc rfl z c2.2).se q3 s2 re2 fun G3 H3 w3 e3 s3 r3 re3 => ?_
        split at p
        · rename_i h4 e4
          exact setV_ok s3 e4 (r2.ev s2 e3) r3 ((r1.ev s1 e2).ev s2 e3) fun H4 e4 s4 => p G3 H4 σ (((e1.trans e2).trans e3).trans e4) s4 (re3.ev s3 e4)
        · exact p.elim
      | _ => simp [chkTgt] at c2
    | dsub a i =>
      cases t with
      | Subscript y z tp =>
        have c2 : (chkE L X.N X.env.scope a y && chkE L X.N X.env.scope i z) = true := c2
        rw [Bool.and_eq_true] at c2
        have hsw : swapsWithSole [.Subscript y z tp] v pos.line X.env = pure false := sw_else (v := v) (t := .Subscript y z tp) (l := pos.line) (env := X.env) rfl (sd_of rfl c3)
        refine PS.go (ps_asg (tE_pe X _) (pg_sub (tE_pe X y) (tE_pe X z) (set_dict (hu_of xc.room)) (ix_assign c2.2)) hsw (swn3 rfl)) (se_then se q s re fun G1 H1 w e1 s1 r1 re1 => ?_)
        simp only [evTgt] at p
        obtain ⟨dx, h2, q2, p⟩ := of_inv p
        obtain ⟨di, h3, q3, p⟩ := of_inv p
        refine se_then (allE a xc rfl y c2.1).se q2 s1 re1 fun G2 H2 w2 e2 s2 r2 re2 => ?_
        refine se_then (allE i xc rfl z c2.2).se q3 s2 re2 fun G3 H3 w3 e3 s3 r3 re3 => ?_
        split at p
        · rename_i h4 e4
          exact setK_ok s3 e4 (r2.ev s2 e3) r3 ((r1.ev s1 e2).ev s2 e3) fun H4 e4 s4 => p G3 H4 σ (((e1.trans e2).trans e3).trans e4) s4 (re3.ev s3 e4)
        · exact p.elim
      | _ => simp [chkTgt] at c2
  · cases c
theorem putF_set {f : Str} {v : V} : ∀ {ns : List Str} {fs : List (Str × V)} {j : Nat}, fs.map (·.1) = ns.take fs.length → ns.Nodup → ns[j]? = some f → j < fs.length → (putF f v fs).map (·.1) = fs.map (·.1) ∧ (putF f v fs).map (·.2) = (fs.map (·.2)).set j v
  | _, [], j, _, _, _, h => by simp at h
  | [], p :: r, j, h, _, _, _ => by simp at h
  | n :: ns, (a, b) :: r, j, h, nd, hf, hj => by
    simp only [List.map_cons, List.length_cons, List.take_succ_cons, List.cons.injEq] at h
    obtain ⟨e0, h⟩ := h
    subst e0
    obtain ⟨h1, h2⟩ := List.nodup_cons.1 nd
    cases j with
    | zero =>
      simp at hf
      subst hf
      simp [putF]
    | succ j =>
      simp only [List.getElem?_cons_succ] at hf
      have ne : ¬ a = f := fun z => by subst z; exact h1 (List.mem_of_getElem? hf)
      obtain ⟨q1, q2⟩ := putF_set (v := v) h h2 hf (by simpa using hj)
      simp only [putF, if_neg ne, List.map_cons, q1, q2, List.set_cons_succ, and_self]
theorem putF_new {f : Str} {v : V} : ∀ {fs : List (Str × V)}, f ∉ fs.map (·.1) → putF f v fs = fs ++ [(f, v)]
  | [], _ => rfl
  | (a, b) :: r, h => by
    simp only [List.map_cons, List.mem_cons, not_or] at h
    have ne : ¬ a = f := fun z => h.1 z.symm
    simp only [putF, if_neg ne, putF_new h.2, List.cons_append]
theorem ss_fset (xc : XC L CL Φ k X) {sc : Scope} {fn : Str → Bool} (hs : X.env.scope = sc) (hf : X.fn = fn) {i c0 j : Nat} {e : E} {x : Stmt} (c : chkS L X.N sc fn (.fset i c0 j e) x = true) : SSt X CL Φ (.fset i c0 j e) x := by
  simp only [chkS] at c
  split at c
  · rename_i y f p2 v pos
    simp only [Bool.and_eq_true, decide_eq_true_eq] at c
    obtain ⟨c1, c2, c3, c4, c5⟩ := c
    subst hs hf
    have se := (allE e xc rfl v c1).se
    have so := (allE (.var i) xc rfl y c2).se
    have hne : L.fd c0 ≠ [] := fun z => by rw [z] at c3; simp at c3
    obtain ⟨C, h1, h2, io⟩ := xc.ins c0 hne
    intro env h G H σ s re D p
    simp only [evS] at p
    obtain ⟨d, hm, q, p⟩ := of_inv p
    refine PS.go (ps_fld (tE_pe X y) (tE_pe X v) (sw_else c5 (sd_of c5 c4))) ?_
    refine se_then se q s re fun G1 H1 w e1 s1 r1 re1 => ?_
    cases hv : env[i]? with
    | none => rw [hv] at p; exact p.elim
    | some o =>
      rw [hv] at p
      cases o with
      | none => exact p.elim
      | some xd =>
        refine se_then so (show evE Φ (.var i) env hm = .ok xd hm by simp only [evE, hv]) s1 re1 fun G2 H2 xv e2 s2 r2 re2 => ?_
        have r1' := r1.ev s1 e2
        simp only at p
        cases hq : fsetV xd c0 j d hm with
        | none => rw [hq] at p; exact p.elim
        | some h3 =>
          rw [hq] at p
          unfold fsetV at hq
          split at hq
          · rename_i n
            split at hq
            · rename_i kk ds qn
              split at hq
              · rename_i cond
                obtain ⟨rfl, cj, cl⟩ := cond
                cases hq
                cases r2
                obtain ⟨nf, C', dx, fs, ec, eh, nm, rr⟩ := s2.cell n _ qn
                rw [h1] at ec
                cases ec
                rw [h2] at nm
                have lf : fs.length = ds.length := by
                  have := rr.length
                  simpa using this.symm
                have nm' : fs.map (·.1) = (L.fd kk).take fs.length := by rw [lf]; exact nm
                have key : (putF f w fs).map (·.1) = (L.fd kk).take (if j < ds.length then ds.set j d else ds ++ [d]).length ∧ RVs X.K CL hm.length G2 H2 (if j < ds.length then ds.set j d else ds ++ [d]) ((putF f w fs).map (·.2)) := by
                  by_cases hj : j < ds.length
                  · obtain ⟨q1, q2⟩ := putF_set (v := w) nm' io.nd c3 (by omega)
                    rw [if_pos hj, q1, q2, List.length_set]
                    exact ⟨nm, rr.set r1' j⟩
                  · have ej : j = ds.length := by omega
                    have nin : f ∉ fs.map (·.1) := fun z => by
                      rw [nm] at z
                      obtain ⟨m, hm', em⟩ := List.getElem_of_mem z
                      rw [List.getElem_take] at em
                      have ml : m < ds.length := by simp at hm'; omega
                      obtain ⟨jl, ej2⟩ := List.getElem?_eq_some_iff.1 c3
                      have P := List.pairwise_iff_getElem.1 io.nd m j (by omega) jl (by omega)
                      exact P (em.trans ej2.symm)
                    rw [if_neg hj, putF_new nin]
                    refine ⟨?_, ?_⟩
                    · rw [List.map_append, nm, List.length_append, List.length_singleton, ← ej]
                      obtain ⟨jl, ej2⟩ := List.getElem?_eq_some_iff.1 c3
                      rw [List.take_succ_eq_append_getElem jl, ej2]
                      rfl
                    · rw [List.map_append]
                      exact rr.append (.cons r1' .nil)
                obtain ⟨sr, ev⟩ := s2.setCell (o := .ins C dx (putF f w fs)) (c := .ins kk (if j < ds.length then ds.set j d else ds ++ [d])) qn rfl rfl fun H' _ e nf k1 _ => ⟨nf, C, dx, _, h1, e, by rw [h2]; exact key.1, k1 key.2⟩
                refine ⟨_, C, dx, fs, rfl, eh, io.cl, io.no f (List.mem_of_getElem? c3), by omega, ?_⟩
                exact p _ _ _ (e1.trans (e2.trans ev)) sr (re2.ev s2 ev)
              · cases hq
            · cases hq
          · cases hq
  · cases c
theorem ss_par (xc : XC L CL Φ k X) {sc : Scope} {fn : Str → Bool} (hs : X.env.scope = sc) (hf : X.fn = fn) {i j : Nat} {a b : E} {x : Stmt} (c : chkS L X.N sc fn (.par i j a b) x = true) : SSt X CL Φ (.par i j a b) x := by
  simp only [chkS] at c
  split at c
  · rename_i y py z pz kt pt l r k2 pt2 pos
    simp only [Bool.and_eq_true, Bool.not_eq_true', decide_eq_true_eq] at c
    obtain ⟨c1, c2, c3, c4, c5, c6, c7, c8, c9, c10, c11, c12⟩ := c
    subst hs hf
    intro env h G H σ s re D p
    simp only [evS] at p
    obtain ⟨d1, h1, q1, p⟩ := of_inv p
    obtain ⟨d2, h2, q2, p⟩ := of_inv p
    have hij : i ≠ j := by simpa using c1
    have pa : PA X [l, r] (tA X [l, r]) := tA_pa X _
    have nst : [l, r].any (fun | .Starred .. => true | _ => false) = false := by
      have a1 := noStar c9
      have a2 := noStar c10
      simp only [List.any_cons, List.any_nil, Bool.or_false]
      rw [Bool.or_eq_false_iff]
      constructor
      · cases l <;> first | rfl | cases a1
      · cases r <;> first | rfl | cases a2
    have hw := sw_two (kt := kt) (k2 := k2) (pt := pt) (pt2 := pt2) (isFun_ok c8) c4 c5 c6 c7 nst c11 c12
    refine PS.go (ps_par xc.calm xc.nd c2 c3 hij c4 c5 pa hw) ?_
    have ses : SEs X CL Φ (.cons a (.cons b .nil)) [l, r] := allEs _ xc rfl _ (by simp [chkEs, c9, c10])
    refine ses env h h2 [d1, d2] (by simp only [evEs, q1, q2, R.bnd_ok]) G H σ s re _ fun G1 H1 vs e1 s1 r1 _ => ?_
    obtain ⟨v, w, rfl, rv, rw'⟩ := two_inv r1
    exact ⟨v, w, rfl, p G1 H1 _ e1 s1 (((re.ev s e1).set rv i).set rw' j)⟩
  · cases c
theorem ss_aug (xc : XC L CL Φ k X) {sc : Scope} {fn : Str → Bool} (hs : X.env.scope = sc) (hf : X.fn = fn) {i : Nat} {e : E} {x : Stmt} (c : chkS L X.N sc fn (.aug i e) x = true) : SSt X CL Φ (.aug i e) x := by
  simp only [chkS] at c
  split at c
  · rename_i y py v pos
    simp only [Bool.and_eq_true] at c
    obtain ⟨c1, c2⟩ := c
    subst hs hf
    obtain ⟨b1, b2, b3⟩ := stB_ok c1
    intro env h G H σ s re D p
    simp only [evS] at p
    obtain ⟨d1, h1, q1, p1⟩ := of_inv p
    obtain ⟨d2, h2, q2, p2⟩ := of_inv p1
    clear p
    simp only [evE] at q1
    split at q1
    · rename_i d0 hd0
      cases q1
      obtain ⟨v0, a1, a2⟩ := re.2 i d1 hd0
      refine PS.go (ps_aug xc.nd b1 b2 (tE_pe X _) ip_add b3) ⟨v0, a1, ?_⟩
      refine se_then (allE e xc rfl v c2).se q2 s re fun G1 H1 w e1 s1 r1 re1 => ?_
      clear p1
      split at p2
      · cases a2
        cases r1
        exact ⟨_, _, rfl, rfl, p2 G1 H1 _ e1 s1 (re1.set (.int _) i)⟩
      · exact p2.elim
    · cases q1
  · cases c
theorem ss_expr (xc : XC L CL Φ k X) {sc : Scope} {fn : Str → Bool} (hs : X.env.scope = sc) (hf : X.fn = fn) {e : E} {x : Stmt} (c : chkS L X.N sc fn (.expr e) x = true) : SSt X CL Φ (.expr e) x := by
  simp only [chkS] at c
  split at c
  · rename_i v pos
    simp only [Bool.and_eq_true, Bool.not_eq_true'] at c
    subst hs hf
    intro env h G H σ s re D p
    simp only [evS] at p
    obtain ⟨d1, h1, q1, p⟩ := of_inv p
    have hsw : swapsWith v none pos.line X.env = pure false := by
      have := c.2
      cases v <;> first | rfl | cases this
    exact PS.go (ps_expr (tE_pe X v) hsw) (se_then (allE e xc rfl v c.1).se q1 s re fun G1 H1 w e1 s1 r1 re1 => p G1 H1 σ e1 s1 re1)
  · cases c
theorem ss_ret (xc : XC L CL Φ k X) {sc : Scope} {fn : Str → Bool} (hs : X.env.scope = sc) (hf : X.fn = fn) {e : E} {x : Stmt} (c : chkS L X.N sc fn (.ret e) x = true) : SSt X CL Φ (.ret e) x := by
  simp only [chkS] at c
  split at c
  · rename_i v pos
    subst hs hf
    intro env h G H σ s re D p
    simp only [evS] at p
    obtain ⟨d1, h1, q1, p⟩ := of_inv p
    exact PS.go (ps_ret (tE_pe X v)) (se_then (allE e xc rfl v c).se q1 s re fun G1 H1 w e1 s1 r1 re1 => p G1 H1 w e1 s1 r1)
  · split at c
    · intro env h G H σ s re D p
      exact PS.go ps_retN (p G H _ (EvR.refl _ _ _) s .non)
    · cases c
  · cases c
end
end Z

end
section
/-! loops; all statements -/
namespace Z
open PySem PySem.Spec L2
section
variable {L : LI} {CL : CLs} {Φ : FS} {k : Nat} {X : Cx}
theorem andThen_of {G : Gh} {h : CH} {H : Hp} {r : RS} {f : Env → CH → RS} {D : Ends} {N : L2.St → Hp → Prop} (p : PstS X CL G h H (r.andThen f) D) (n : ∀ env2 h2 G' H' σ', r = .nx env2 h2 → EvR G h H G' h2 H' → SR X.K CL G' h2 H' → RE X.K CL h2.length G' H' env2 σ' → PstS X CL G' h2 H' (f env2 h2) D → N σ' H') {bk ct : L2.St → Hp → Prop} : PstS X CL G h H r { D with nx := N, ct := ct, bk := bk } := by
  cases r with
  | nx env2 h2 => exact fun G' H' σ' a b c => n env2 h2 G' H' σ' rfl a b c (PstS.from p a)
  | rt d h2 => exact p
  | ex c ds h2 => exact p
  | no => exact p
theorem ss_if (xc : XC L CL Φ k X) {sc : Scope} {fn : Str → Bool} (hs : X.env.scope = sc) {t : E} {a b : Ss} {x : Stmt} (ia : ∀ xs, chkSs L X.N sc fn a xs = true → SSts X CL Φ a xs) (ib : ∀ xs, chkSs L X.N sc fn b xs = true → SSts X CL Φ b xs)
    (c : chkS L X.N sc fn (.ife t a b) x = true) : SSt X CL Φ (.ife t a b) x := by
  simp only [chkS] at c
  split at c
  · rename_i y q1 q2 pos
    simp only [Bool.and_eq_true] at c
    intro env h G H σ s re D p
    simp only [evS] at p
    obtain ⟨v, h1, e1, p1⟩ := of_inv p
    refine PS.go (ps_if (tT_pt X y) (tSs_ps X q1) (tSs_ps X q2)) ?_
    refine (allE t xc hs y c.1).st env h h1 v e1 G H σ s re _ fun G1 H1 ev s1 _ => ?_
    cases v with
    | true => exact ia _ c.2.1 env h1 G1 H1 σ s1 (re.ev s ev) D (PstS.from p1 ev)
    | false => exact ib _ c.2.2 env h1 G1 H1 σ s1 (re.ev s ev) D (PstS.from p1 ev)
  · cases c
theorem ss_for (xc : XC L CL Φ k X) (xe : X.xe = fun _ _ => False) {sc : Scope} {fn : Str → Bool} (hs : X.env.scope = sc) (hf : X.fn = fn) {tg : Tg} {it : It} {b : Ss} {fg : List Nat} {x : Stmt} (ib : ∀ xs, chkSs L X.N sc fn b xs = true → SSts X CL Φ b xs)
    (c : chkS L X.N sc fn (.fr tg it b fg) x = true) : SSt X CL Φ (.fr tg it b fg) x := by
  simp only [chkS] at c
  split at c
  · rename_i t i body pos
    simp only [Bool.and_eq_true, Bool.not_eq_true'] at c
    obtain ⟨c1, c2, c3, c4, c5⟩ := c
    intro env h G H σ s re D p
    simp only [evS] at p
    obtain ⟨pr, h1, e1, p1⟩ := of_inv p
    clear p
    have hp : PassesOwn (model X.prog X.w) X.A X.env X.xe := by rw [xe]; exact PassesOwn.never
    have si : SI X CL Φ it t i := by
      refine allIt it xc hs (fun ts e => ?_) c4 i c1
      subst e
      cases t with
      | Tuple elts kk tp => exact ⟨_, _, _, rfl⟩
      | _ => simp [chkTg] at c2
    refine PS.go (ps_for hp xc.calm (tI_pi X t i) (pg_tg xc.calm xc.nd hs hf c2) (tSs_ps X body) (set_plain c5 X.env)) ?_
    refine si env h h1 pr e1 G H σ s re _ fun J G1 H1 ev1 s1 jok => ?_
    let W : Nat → L2.St → Hp → Prop := fun j σ Hx => ∃ (Gx : Gh) (hx : CH) (en : Env), SR X.K CL Gx hx Hx ∧ EvR G1 h1 H1 Gx hx Hx ∧ RE X.K CL hx.length Gx Hx en σ ∧ PstS X CL Gx hx Hx (forGo pr.2 (asgTg tg) (fun en => evSs Φ b en) fg (pr.1.drop j) en hx) D ∧ j ≤ pr.1.length
    refine ⟨fun j m σ Hx => m = pr.1.length - j ∧ W j σ Hx, ⟨_, rfl, G1, h1, env, s1, EvR.refl _ _ _, re.ev s ev1, PstS.from p1 ev1, Nat.zero_le _⟩, ?_⟩
    rintro j m σ2 Hx ⟨rfl, Gx, hx, en, sx, ex, rex, px, hj⟩
    by_cases hlt : j < pr.1.length
    · refine .inr ?_
      obtain ⟨dj, hd⟩ : ∃ dj, pr.1[j]? = some dj := ⟨_, List.getElem?_eq_getElem hlt⟩
      have hdrop : pr.1.drop j = dj :: pr.1.drop (j + 1) := by
        rw [List.drop_eq_getElem_cons hlt]
        rw [List.getElem?_eq_getElem hlt] at hd
        cases hd
        rfl
      rw [hdrop] at px
      unfold forGo at px
      split at px
      · rename_i ck
        obtain ⟨jg, jy⟩ := jok.step Gx hx Hx j dj ex sx ck hd
        refine ⟨jg, W (j + 1), fun σ' H' w => ⟨pr.1.length - (j + 1), by omega, rfl, w⟩, fun x H2 yl => ?_⟩
        obtain ⟨e2, s2, r2⟩ := jy x H2 yl
        split at px
        · rename_i env1 ha
          obtain ⟨σ', re', hg', _⟩ := asg_ok ha r2 (rex.ev sx e2)
          refine hg' _ ?_
          refine ib body c3 env1 hx Gx H2 σ' s2 re' _ (andThen_of (PstS.from px e2) fun env2 h2 G' H' σ'' _ a b c pp => ?_)
          exact ⟨G', h2, wipeE env2 fg, b, (ex.trans e2).trans a, c.wipes fg, pp, hlt⟩
        · exact px.elim
      · exact px.elim
    · refine .inl ?_
      have hle : pr.1.length ≤ j := Nat.le_of_not_lt hlt
      rw [List.drop_eq_nil_of_le hle] at px
      unfold forGo at px
      split at px
      · rename_i ck
        exact ⟨jok.stop Gx hx Hx j ex sx ck hle, px Gx Hx σ2 (EvR.refl _ _ _) sx rex⟩
      · exact px.elim
  · cases c
theorem ss_whl (xc : XC L CL Φ k X) (xe : X.xe = fun _ _ => False) {sc : Scope} {fn : Str → Bool} (hs : X.env.scope = sc) {t : E} {b : Ss} {fg : List Nat} {x : Stmt} (ib : ∀ xs, chkSs L X.N sc fn b xs = true → SSts X CL Φ b xs)
    (c : chkS L X.N sc fn (.whl t b fg) x = true) : SSt X CL Φ (.whl t b fg) x := by
  simp only [chkS] at c
  split at c
  · rename_i y body pos
    simp only [Bool.and_eq_true] at c
    obtain ⟨c1, c2⟩ := c
    intro env h G H σ s re D p
    simp only [evS] at p
    have hp : PassesOwn (model X.prog X.w) X.A X.env X.xe := by rw [xe]; exact PassesOwn.never
    refine PS.go (ps_while hp (tT_pt X y) (tSs_ps X body)) ?_
    have nn : whlD (fun en hh => asBl (evE Φ t en hh)) (fun en => evSs Φ b en) fg env h ≠ .no := fun z => by rw [z] at p; exact p.elim
    obtain ⟨n0, hn0⟩ := whlD_some nn
    rw [hn0] at p
    clear nn hn0
    refine ⟨fun m σ Hx => ∃ (Gx : Gh) (hx : CH) (en : Env), SR X.K CL Gx hx Hx ∧ RE X.K CL hx.length Gx Hx en σ ∧ PstS X CL Gx hx Hx (whlN (fun en hh => asBl (evE Φ t en hh)) (fun en => evSs Φ b en) fg m en hx) D, ⟨n0, G, h, env, s, re, p⟩, ?_⟩
    rintro m σ2 Hx ⟨Gx, hx, en, sx, rex, px⟩
    cases m with
    | zero => exact px.elim
    | succ m =>
      unfold whlN at px
      obtain ⟨v, h1, e1, p1⟩ := of_inv px
      refine (allE t xc hs y c1).st en hx h1 v e1 Gx Hx σ2 sx rex _ fun G1 H1 ev s1 _ => ?_
      cases v with
      | true =>
        rw [if_pos rfl]
        refine ⟨fun σ' H' => ∃ (Gx : Gh) (hx : CH) (en : Env), SR X.K CL Gx hx H' ∧ RE X.K CL hx.length Gx H' en σ' ∧ PstS X CL Gx hx H' (whlN (fun en hh => asBl (evE Φ t en hh)) (fun en => evSs Φ b en) fg m en hx) D, fun σ' H' w => ⟨m, Nat.lt_succ_self m, w⟩, ?_⟩
        refine ib body c2 en h1 G1 H1 σ2 s1 (rex.ev sx ev) _ (andThen_of (PstS.from p1 ev) fun env2 h2 G' H' σ'' _ a b c pp => ?_)
        exact ⟨G', h2, wipeE env2 fg, b, c.wipes fg, pp⟩
      | false =>
        rw [if_neg (by decide)]
        exact p1 G1 H1 σ2 ev s1 (rex.ev sx ev)
  · cases c
mutual
theorem allS (xc : XC L CL Φ k X) (xe : X.xe = fun _ _ => False) {sc : Scope} {fn : Str → Bool} (hs : X.env.scope = sc) (hf : X.fn = fn) : ∀ (s : S) (x : Stmt), chkS L X.N sc fn s x = true → SSt X CL Φ s x
  | .asg tg e, x, c => ss_asg xc hs hf c
  | .par i j a b, x, c => ss_par xc hs hf c
  | .aug i e, x, c => ss_aug xc hs hf c
  | .expr e, x, c => ss_expr xc hs hf c
  | .ret e, x, c => ss_ret xc hs hf c
  | .ife t a b, x, c => ss_if xc hs (fun xs c => allSs xc xe hs hf a xs c) (fun xs c => allSs xc xe hs hf b xs c) c
  | .fr tg it b fg, x, c => ss_for xc xe hs hf (fun xs c => allSs xc xe hs hf b xs c) c
  | .whl t b fg, x, c => ss_whl xc xe hs (fun xs c => allSs xc xe hs hf b xs c) c
  | .pass, x, c => by
    simp only [chkS] at c
    split at c
    · exact fun env h G H σ s re D p => PS.go ps_pass (p G H σ (EvR.refl _ _ _) s re)
    · exact fun env h G H σ s re D p => PS.go ps_doc (p G H σ (EvR.refl _ _ _) s re)
    · cases c
  | .fset i c0 j e, x, c => ss_fset xc hs hf c
  | .frz i, x, c => by cases c
  | .fg is, x, c => by cases c
  | .nev, x, c => fun env h G H σ s re D p => p.elim
theorem allSs (xc : XC L CL Φ k X) (xe : X.xe = fun _ _ => False) {sc : Scope} {fn : Str → Bool} (hs : X.env.scope = sc) (hf : X.fn = fn) : ∀ (s : Ss) (x : List Stmt), chkSs L X.N sc fn s x = true → SSts X CL Φ s x
  | .nil, x, c => by
    simp only [chkSs, List.isEmpty_iff] at c
    subst c
    exact fun env h G H σ s re D p => PSs.go pss_nil (p G H σ (EvR.refl _ _ _) s re)
  | .cons s ss, x, c => by
    by_cases hg : (∃ i, s = .frz i) ∨ ∃ is, s = .fg is
    · intro env h G H σ st re D p
      rcases hg with ⟨i, rfl⟩ | ⟨is, rfl⟩
      · simp only [chkSs] at c
        simp only [evSs, evS] at p
        split at p
        · rename_i d hd
          split at p
          · rename_i d' h' hfz
            obtain ⟨v, a1, a2⟩ := re.2 i d hd
            obtain ⟨G', s', e', r'⟩ := frz_ok st hfz a2
            refine allSs xc xe hs hf ss x c (env.set i (some d')) h' G' H σ s' ?_ D (PstS.from p e')
            have re' := re.ev st e'
            refine ⟨by rw [List.length_set]; exact re'.1, fun j dj hj => ?_⟩
            by_cases hij : i = j
            · subst hij
              rw [List.getElem?_set_self (lt_of_get hd)] at hj
              cases hj
              exact ⟨v, a1, r'⟩
            · rw [List.getElem?_set_ne hij] at hj
              exact re'.2 j dj hj
          · exact p.elim
        · exact p.elim
      · simp only [chkSs] at c
        simp only [evSs, evS, RS.andThen_nx] at p
        exact allSs xc xe hs hf ss x c (wipeE env is) h G H σ st (re.wipes is) D p
    · have c' : ∃ y ys, x = y :: ys ∧ chkS L X.N sc fn s y = true ∧ chkSs L X.N sc fn ss ys = true := by
        unfold chkSs at c
        split at c
        · exact absurd (.inl ⟨_, rfl⟩) hg
        · exact absurd (.inr ⟨_, rfl⟩) hg
        · split at c
          · rw [Bool.and_eq_true] at c
            exact ⟨_, _, rfl, c.1, c.2⟩
          · cases c
      obtain ⟨y, ys, rfl, c1, c2⟩ := c'
      intro env h G H σ st re D p
      simp only [evSs] at p
      refine PSs.go (pss_cons (tS_ps X y) (tSs_ps X ys)) ?_
      refine allS xc xe hs hf s y c1 env h G H σ st re _ (andThen_of (bk := D.bk) (ct := D.ct) p fun env2 h2 G' H' σ' _ a b c pp => ?_)
      exact allSs xc xe hs hf ss ys c2 env2 h2 G' H' σ' b c D pp
end
end
end Z

end
section
/-! defs; a law's end -/
namespace Z
open PySem PySem.Spec PyProof.Rows L2
structure Def where
  nm : Str
  params : Arguments
  body : List Stmt
  sc : Scope
  N : List Str
  ps : List Str
  kw : Option (Str × Kc)
  b : Ss
  own : Option Str := none
  knd : Nat := 0
def Kc.v : Kc → V
  | .non => .non
  | .bl b => .bl b
  | .int i => .int i
  | .str s => .str s
def kwV : Option (Str × Kc) → List (Str × V)
  | none => []
  | some (k, c) => [(k, c.v)]
/-- its name in its module -/
def Def.qual (d : Def) : Str := match d.own with
  | none => d.nm
  | some c => c ++ "." ++ d.nm
/-- where it stands: in the module, in a class (knd 0: a method; 1: a static method; 2: a class method; 3: a property) -/
def Def.ad (K : PySem.W.Frag) (d : Def) : Addr := match d.own with
  | none => He.ga K d.nm
  | some c => (match d.knd with
    | 0 => He.ma K (He.ga K c) d.nm
    | 1 => He5.wf K (He.ga K c) "staticmethod" d.nm
    | 3 => He5.wf K (He.ga K c) "property" d.nm
    | _ => He5.wf K (He.ga K c) "classmethod" d.nm)
def Def.fd (d : Def) : Fd := ⟨d.nm, d.ps.length, d.N.length, d.b⟩
def Def.fi (d : Def) : FI := ⟨d.nm, d.ps.length, d.kw⟩
def tabOf (defs : List Def) : Nat → Option Fd := fun i => (defs[i]?).map Def.fd
def fnOf' (defs : List Def) : Nat → Option FI := fun i => (defs[i]?).bind fun d => if d.own = none then some d.fi else none
def Def.scB (d : Def) : Bool := isFun d.sc && (!d.sc.isCoroutine && (!d.sc.isGenerator && (decide d.N.Nodup && (decide (d.N.take d.ps.length = d.ps) && ((d.ps.all fun x => decide (d.sc.names.lookup x = some .local) || decide (d.sc.names.lookup x = some .cell)) && d.sc.names.all fun y => !decide (y.2 = .free))))))
/-- as the def nm sees it -/
def LI.at_ (L : LI) (d : Def) : LI := ⟨L.fn, L.bn, L.cl, L.tf, decide (d.own = none ∧ L.tf = some d.nm), L.fd, L.mkr, L.st, L.me, L.cm, L.it⟩
def Def.chk (L : LI) (d : Def) : Bool := chkSs (L.at_ d) d.N d.sc (fun _ => true) d.b d.body
theorem Def.scOk {d : Def} (h : d.scB = true) : FnScope d.N d.ps d.sc := by
  unfold Def.scB at h
  simp only [Bool.and_eq_true, Bool.not_eq_true', decide_eq_true_eq, List.all_eq_true, Bool.or_eq_true, decide_eq_false_iff_not] at h
  obtain ⟨h1, h2, h3, h4, h5, h6, h7⟩ := h
  exact ⟨isFun_ok h1, h2, h3, h4, h5, h6, h7⟩
/-- how the parameters are bound -/
def Def.binds (d : Def) : Prop := match d.kw with
  | none => ∀ (kV doc pm : Value) (an : Option Addr) (cdv ct : Value) (us : List Value), us.length = d.ps.length → bindArgs (PySem.W.fnOf d.nm d.qual d.params d.body d.sc .none kV doc pm an cdv ct) ⟨us, []⟩ = pure (d.ps.zip us)
  | some (k, _) => (∀ (D : Addr) (doc pm : Value) (an : Option Addr) (cdv ct : Value) (us ks : List Value), us.length = d.ps.length - 1 → ks.length = 1 →
      KwChain D ([k].zip ks) (bindArgs (PySem.W.fnOf d.nm d.qual d.params d.body d.sc .none (.ref D) doc pm an cdv ct) ⟨us, []⟩) (d.ps.zip (us ++ ks))) ∧ d.ps.length ≠ 0 ∧
    ∀ (D : Addr) (doc pm : Value) (an : Option Addr) (cdv ct : Value) (us ws : List Value), us.length = d.ps.length - 1 → ws.length = 1 → bindArgs (PySem.W.fnOf d.nm d.qual d.params d.body d.sc .none (.ref D) doc pm an cdv ct) ⟨us, [k].zip ws⟩ = pure (d.ps.zip (us ++ ws))
abbrev Def.At (K : PySem.W.Frag) (d : Def) (fd : FuncData) : Prop := FunD K d.nm d.qual d.params d.body d.sc [] (kwV d.kw) (d.ad K) fd
/-- what the top holds -/
structure Facts (K : PySem.W.Frag) (mg : Str → Option Value) (CL : CLs) (L : LI) (defs : List Def) : Prop where
  fnL : L.fn = fnOf' defs
  def_ : ∀ (i : Nat) (d : Def), defs[i]? = some d → (∃ fd, d.At K fd) ∧ (d.own = none → mg d.nm = some (.ref (He.ga K d.nm)))
  bi : ∀ x, L.bn.contains x = true → mg x = none
  cl : ∀ c x, L.cl c = some x → ∃ C, mg x = some (.ref C) ∧ CL c = some C ∧ COk K C
  mkr : ∀ c nm f ar, L.mkr c = some (nm, f, ar) → ∃ C, mg nm = some (.ref C) ∧ CL c = some C ∧ ∃ d, defs[f]? = some d ∧ d.kw = none ∧ d.ps.length = ar + 1 ∧ Mk K C (d.ad K)
  st : ∀ f cn m ar, L.st f = some (cn, m, ar) → ∃ (C p : Addr) (mc : Value), mg cn = some (.ref C) ∧ ClX.CRead K C mc ∧ ∃ d, defs[f]? = some d ∧ d.kw = none ∧ d.ps.length = ar ∧ SMet K C mc m p (d.ad K)
  me : ∀ f kd c m ar, L.me f = some (kd, c, m, ar) → ∃ C, CL c = some C ∧ m ∉ CL.fn c ∧ Cls K C ∧ ∃ d, defs[f]? = some d ∧ d.kw = none ∧ d.ps.length = ar ∧ MeAt K C m (d.ad K) kd
  cm : ∀ f c cn m ar, L.cm f = some (c, cn, m, ar) → ∃ (C p : Addr) (mc : Value), mg cn = some (.ref C) ∧ CL c = some C ∧ ClX.CRead K C mc ∧ ∃ d, defs[f]? = some d ∧ d.kw = none ∧ d.ps.length = ar ∧ ClX.CMet K C mc m p (d.ad K)
  itr : ∀ c j, L.it c = some j → ∃ (C g : Addr) (f : Str) (fd : FuncData), CL c = some C ∧ CL.fn c = L.fd c ∧ (L.fd c)[j]? = some f ∧ (L.fd c).Nodup ∧ PySem.W.findIn K (.ref C) "__iter__" = some (some (.ref g)) ∧ PySem.W.isFn K (.ref g) = true ∧
    (∀ (P : Program) (w : World) (base : Heap) (k : Nat), FnS P w K mg base (k + 1) g fd ["self"] (spIter K C f)) ∧ Binds K fd ["self"] []
  ins : ∀ c, L.fd c ≠ [] → ∃ C, CL c = some C ∧ CL.fn c = L.fd c ∧ IOk K C (L.fd c)
section
variable {P : Program} {w : World} {K : PySem.W.Frag} {mg : Str → Option Value} {base : Heap} {CL : CLs} {L : LI} {defs : List Def}
theorem Def.fad {K : PySem.W.Frag} {d : Def} (h : d.own = none) : d.ad K = He.ga K d.nm := by unfold Def.ad; rw [h]
theorem FOk.mk' {X : Cx} {Φ : FS} {k i : Nat} {d : Def} {fd : FuncData} (F : d.At X.K fd) (hm : X.mg d.nm = some (.ref (d.ad X.K))) (hb : d.binds) (ok : FnOk X.prog X.w X.K X.mg X.base CX0 k (d.ad X.K) fd d.ps (spOf X.K CL Φ i d.ps.length)) : FOk X CL Φ k i d.fi := by
  refine ⟨_, fd, d.ps, hm, F.kp, ok, ?_⟩
  obtain ⟨nm, params, body, sc, N, ps, kw, b, own, knd⟩ := d
  cases kw with
  | none => exact FunD.bindsN F hb
  | some q =>
    obtain ⟨n, c⟩ := q
    obtain ⟨h1, h0, h2⟩ := hb
    have hn : (ps.length - 1) + 1 = ps.length := by
      have : ps.length ≠ 0 := h0
      omega
    refine ⟨?_, ?_⟩
    · obtain ⟨ds, r, B⟩ := FunD.binds0 (ps := ps) F (ps.length - 1) (by simp [kwV]) hn h1
      have r : Vals [c.v] ds := r
      cases r with
      | cons a t =>
        cases t
        refine ⟨_, ?_, B⟩
        cases c <;> exact a
    · obtain ⟨mv, KB⟩ := FunD.kbinds0 (ps := ps) F (ps.length - 1) [n] [] (g := fun us mv ws => us ++ ws) (by simp [kwV]) (fun q hq => by simp at hq) (fun a _ c => a.append c) (fun D doc pm an cdv ct us mv ws l1 l2 l3 => by
        have : mv = [] := List.eq_nil_of_length_eq_zero l2
        subst this
        exact h2 D doc pm an cdv ct us ws l1 l3)
      exact KB
/-- the def with a lambda: its table -/
def LamF (K : PySem.W.Frag) (mg : Str → Option Value) (base : Heap) (CL : CLs) (L : LI) : Prop := ∀ nm, L.tf = some nm → LamX.TabB base mg (He.cT K (nm, none)).1 (He.cT K (nm, none)).2 ∧ CL.tb = [((He.cT K (nm, none)).2, nm ++ ".<locals>." ++ "<lambda>")]
theorem run_ok (S : Facts K mg CL L defs) (hl : LamF K mg base CL L) (hb : ∀ (i : Nat) (d : Def), defs[i]? = some d → d.binds) (hs : ∀ (i : Nat) (d : Def), defs[i]? = some d → d.scB = true) (hc : ∀ (i : Nat) (d : Def), defs[i]? = some d → d.chk L = true) :
    ∀ (k : Nat) (i : Nat) (d : Def), defs[i]? = some d → ∀ fd, d.At K fd → FnOk P w K mg base CX0 (2 * k) (d.ad K) fd d.ps (spOf K CL (run (tabOf defs) k) i d.ps.length)
  | 0, i, d, hd, fd, F => ⟨fun vs H Q E h => h.1, fun A outer s H args us vs Q E hr he hbt hv h => by
      obtain ⟨_, G, h0, h', ds, dd, _, _, e, _⟩ := h
      cases e⟩
  | k + 1, i, d, hd, fd, F => by
    obtain ⟨oc, od, dV, kV, doc, pm, an, cdv, ct, osl, efd, lk, hcd, _, _⟩ := F.ex
    subst efd
    show FnOk P w K mg base CX0 ((2 * k + 1) + 1) _ _ _ _
    refine fn_of lk hcd (Def.scOk (hs i d hd)) (fun vs H Q E h => h.1) fun A outer s H vs Q E hr h => ?_
    obtain ⟨hlen, G, h0, h', ds, dd, sr, rv, e, post⟩ := h
    refine ⟨_, PSs.nox (tSs_ps _ d.body), ?_⟩
    generalize hX : (cxOf CX0 P w K mg base d.N d.qual d.sc (d.ad K) cdv A outer s H E).nox = X
    have x1 : X.env.qual = d.qual ++ ".<locals>." := by subst hX; rfl
    have x2 : X.env.code = cdv := by subst hX; rfl
    have x3 : X.base = base := by subst hX; rfl
    have x4 : X.mg = mg := by subst hX; rfl
    have xl : (L.at_ d).lm = true → ∃ c P, LamX.TabB X.base X.mg c P ∧ X.env.code = .ref c ∧ CL.tb = [(P, X.env.qual ++ "<lambda>")] := fun hlm => by
      have hlm' : decide (d.own = none ∧ L.tf = some d.nm) = true := hlm
      obtain ⟨ho, htf⟩ := of_decide_eq_true hlm'
      obtain ⟨t1, t2⟩ := hl d.nm htf
      obtain ⟨c, ecd⟩ := He.codeIn_ref hcd
      have ek : d.ad K = He.fAd K (d.nm, none) := Def.fad ho
      have eq : d.qual = d.nm := by unfold Def.qual; rw [ho]
      rw [ek] at lk
      have ec : He.codeOf K (d.nm, none) = c := He.codeOf_eq (p := (d.nm, none)) lk ecd
      rw [x1, x2, x3, x4, eq]
      have t1' : LamX.TabB base mg (He.codeOf K (d.nm, none)) (He.cT K (d.nm, none)).2 := t1
      rw [ec] at t1'
      exact ⟨c, _, t1', ecd, t2⟩
    have xc : XC (L.at_ d) CL (run (tabOf defs) k) (2 * k) X := by
      clear x1 x2 x3 x4
      subst hX
      refine ⟨rfl, (Def.scOk (hs i d hd)).nd, hr, S.bi, fun f fi e => ?_, S.cl, fun c nm f ar e => ?_, fun f cn m ar e => ?_, fun f kd c m ar e => ?_, fun f c cn m ar e => ?_, fun c j e => ?_, S.ins, xl⟩
      rotate_left
      · obtain ⟨C, m1, m2, d2, q, kw0, pl, M⟩ := S.mkr c nm f ar e
        obtain ⟨⟨fd2, F2⟩, _⟩ := S.def_ f d2 q
        refine ⟨C, _, fd2, d2.ps, m1, m2, M, pl ▸ run_ok S hl hb hs hc k f d2 q fd2 F2, ?_⟩
        have B := hb f d2 q
        obtain ⟨nm, params, body, sc, N, ps, kw, b, own, knd⟩ := d2
        cases kw0
        exact FunD.bindsN F2 B
      · obtain ⟨C, p, mc, m1, r, d2, q, kw0, pl, sm⟩ := S.st f cn m ar e
        obtain ⟨⟨fd2, F2⟩, _⟩ := S.def_ f d2 q
        refine ⟨C, p, _, mc, fd2, d2.ps, m1, r, sm, pl ▸ run_ok S hl hb hs hc k f d2 q fd2 F2, ?_⟩
        have B := hb f d2 q
        obtain ⟨nm, params, body, sc, N, ps, kw, b, own, knd⟩ := d2
        cases kw0
        exact FunD.bindsN F2 B
      · obtain ⟨C, q1, q2, q3, d2, q, kw0, pl, M⟩ := S.me f kd c m ar e
        obtain ⟨⟨fd2, F2⟩, _⟩ := S.def_ f d2 q
        refine ⟨C, _, fd2, d2.ps, q1, q2, q3, M, pl ▸ run_ok S hl hb hs hc k f d2 q fd2 F2, ?_⟩
        have B := hb f d2 q
        obtain ⟨nm, params, body, sc, N, ps, kw, b, own, knd⟩ := d2
        cases kw0
        exact FunD.bindsN F2 B
      · obtain ⟨C, p, mc, m1, m2, r, d2, q, kw0, pl, sm⟩ := S.cm f c cn m ar e
        obtain ⟨⟨fd2, F2⟩, _⟩ := S.def_ f d2 q
        refine ⟨C, p, _, mc, fd2, d2.ps, m1, m2, r, sm, pl ▸ run_ok S hl hb hs hc k f d2 q fd2 F2, ?_⟩
        have B := hb f d2 q
        obtain ⟨nm, params, body, sc, N, ps, kw, b, own, knd⟩ := d2
        cases kw0
        exact FunD.bindsN F2 B
      · obtain ⟨C, g, f, fd2, q1, q2, q3, q4, q5, q6, F, B⟩ := S.itr c j e
        exact ⟨C, g, f, fd2, q1, q2, q3, q4, q5, q6, F _ _ _ _, B⟩
      have e : L.fn f = some fi := e
      rw [S.fnL] at e
      unfold fnOf' at e
      cases q : defs[f]? with
      | none => rw [q] at e; cases e
      | some d2 =>
        rw [q] at e
        simp only [Option.bind_some] at e
        split at e
        · rename_i ho
          cases e
          obtain ⟨⟨fd2, F2⟩, hm⟩ := S.def_ f d2 q
          exact FOk.mk' F2 (by rw [Def.fad ho]; exact hm ho) (hb f d2 q) (run_ok S hl hb hs hc k f d2 q fd2 F2)
        · cases e
    have all : SSts X CL (run (tabOf defs) k) d.b d.body := by
      have c := hc i d hd
      unfold Def.chk at c
      subst hX
      exact allSs xc rfl rfl rfl d.b d.body c
    have eK : X.K = K := by subst hX; rfl
    unfold run tabOf at e
    rw [hd] at e
    simp only [Option.map_some, Def.fd] at e
    rw [if_pos (by rw [rv.length]; exact hlen)] at e
    have re : RE K CL h0.length G H (envOf d.N.length ds) (L2.start d.N vs) := RE.start rv rfl
    subst hX
    refine all (envOf d.N.length ds) h0 G H _ sr re _ ?_
    change (match evSs (run (tabOf defs) k) d.b (envOf d.N.length ds) h0 with
      | .nx _ h' => R.ok D.non h'
      | .rt d h' => .ok d h'
      | .ex c es h' => .ex c es h'
      | .no => .no) = .ok dd h' at e
    revert e
    cases evSs (run (tabOf defs) k) d.b (envOf d.N.length ds) h0 with
    | nx env2 h2 =>
      intro e
      simp only [R.ok.injEq] at e
      obtain ⟨rfl, rfl⟩ := e
      exact fun G' H' σ' a b c => post G' H' V.non a b RV.non
    | rt d2 h2 =>
      intro e
      simp only [R.ok.injEq] at e
      obtain ⟨rfl, rfl⟩ := e
      exact fun G' H' v a b c => post G' H' v a b c
    | ex c es h2 => intro e; cases e
    | no => intro e; cases e
theorem law_sp {k i : Nat} {H : Hp} {a : Addr} {ns : List Int} (hS : SqL K H a (ns.map V.int)) (ht : ∀ p ∈ CL.tb, H p.1 = some (.tbl #[])) {h' : CH} (e : run (tabOf defs) k i [.scr ns] [] = .ok (.bl true) h') (E : XK) :
    spOf K CL (run (tabOf defs) k) i 1 [.ref a] H (fun v _ => v = .bl true) E := by
  have tabs : LamX.Tabs CL.tb H := fun p hp => LamX.TabS.nil (ht p hp)
  have go : ∀ F : Addr → Prop, (∀ b, F b → H b ≠ none) → SqG K F H a (ns.map V.int) → spOf K CL (run (tabOf defs) k) i 1 [.ref a] H (fun v _ => v = .bl true) E := fun F hF q => by
    refine ⟨rfl, ⟨fun _ => 0, F⟩, [], h', [.scr ns], .bl true, ⟨fun n c z => by simp at z, fun n m c e z => by simp at z, hF, tabs⟩, .cons (.scr q) .nil, e, fun G' H' v _ _ r => ?_⟩
    cases r
    rfl
  rcases hS with (h | ⟨o, h⟩) | h
  · exact go (fun b => b = a) (fun b z => by subst z; rw [h]; simp) (.inr ⟨rfl, h⟩)
  · exact go (fun _ => False) (fun _ z => z.elim) (.inl (.inl ⟨o, h⟩))
  · exact go (fun _ => False) (fun _ z => z.elim) (.inl (.inr h))
end
/-- a def as the head tells it -/
def Def.hd (d : Def) : He5.DefA := ⟨fun K => d.ad K, d.nm, d.qual, d.params, d.body, d.sc, [], match d.kw with
  | none => []
  | some (k, .non) => [(k, .non)]
  | some (k, .bl b) => [(k, .bl b)]
  | some (k, .int b) => [(k, .int b)]
  | some (k, .str b) => [(k, .str b)]⟩
theorem Def.at_ {K : PySem.W.Frag} {d : Def} {fd : FuncData} (h : FunD K d.hd.name d.hd.qual d.hd.params d.hd.body d.hd.scope (d.hd.dvs K) (d.hd.kws K) (d.hd.at_ K) fd) : d.At K fd := by
  obtain ⟨nm, params, body, sc, N, ps, kw, b, own, knd⟩ := d
  cases kw with
  | none => exact h
  | some q =>
    obtain ⟨k, c⟩ := q
    cases c <;> exact h
/-- what the finished part must say of a method -/
def Def.exB (K : PySem.W.Frag) (d : Def) : Bool := match d.own, d.knd with
  | some c, 1 => PySem.W.readsIn K (He.ga K c) (.type "type") && (He5.wrapB K (He.ga K c) "staticmethod" "staticmethod.__get__" d.nm && decide (d.kw = none))
  | some c, 2 => PySem.W.readsIn K (He.ga K c) (.type "type") && (He5.wrapB K (He.ga K c) "classmethod" "classmethod.__get__" d.nm && (PySem.W.fnIn K (He5.wf K (He.ga K c) "classmethod" d.nm) && decide (d.kw = none)))
  | some c, 3 => He.eqO (PySem.W.findIn K (.ref (He.ga K c)) d.nm) (some (some (.ref (He.ma K (He.ga K c) d.nm)))) && (He.eqO (PySem.W.specialIn K (.ref (He.ma K (He.ga K c) d.nm)) "__get__") (some (some (.builtin "property.__get__"))) &&
    (decide (PySem.W.takesIn K (.ref (He.ma K (He.ga K c) d.nm)) = some true) && ((match PySem.W.recIn K (He.ma K (He.ga K c) d.nm) "property" with
      | some (.ref _ :: _) => true
      | _ => false) && decide (d.kw = none))))
  | some c, 0 => decide (d.kw = none) && (if d.nm = ("__mul__" : Str) then
      PySem.W.selfFirst K (He.ga K c) && (He.eqO (PySem.W.findIn K (.ref (He.ga K c)) (PySem.dunder (Operator.Mult).info.2)) (some (some (.ref (He.ma K (He.ga K c) d.nm)))) && (PySem.W.isFn K (.ref (He.ma K (He.ga K c) d.nm)) &&
      (He.eqO (PySem.W.findIn K (.ref (He.ga K c)) (dunderR (Operator.Mult).info.2)) (some none) && ((PySem.W.findIn K (.type "int") (PySem.dunder (Operator.Mult).info.2)).isSome && ((PySem.W.findIn K (.type "int") (dunderR (Operator.Mult).info.2)).isSome &&
      decide (PySem.W.subIn K (.type "int") (.ref (He.ga K c)) = some false))))))
    else if d.nm = ("__init__" : Str) then true
    else He.eqO (PySem.W.findIn K (.ref (He.ga K c)) d.nm) (some (some (.ref (He.ma K (He.ga K c) d.nm)))) && (PySem.W.isFn K (.ref (He.ma K (He.ga K c) d.nm)) && PySem.W.keepIn K (.ref (He.ma K (He.ga K c) d.nm))))
  | _, _ => true
def stM (defs : List Def) : Nat → Option (Str × Str × Nat) := fun i => (defs[i]?).bind fun d => match d.own, d.knd with
  | some c, 1 => some (c, d.nm, d.ps.length)
  | _, _ => none
/-- a class whose instances are walked: its name, the field, the text of __iter__ -/
structure ItD where
  cn : Str
  c : Nat
  j : Nat
  f : Str
  params : Arguments
  body : List Stmt
  sc : Scope
def ItD.hd (d : ItD) : He5.DefA := ⟨fun K => He.ma K (He.ga K d.cn) "__iter__", "__iter__", d.cn ++ "." ++ "__iter__", d.params, d.body, d.sc, [], []⟩
def ItD.exB (K : PySem.W.Frag) (d : ItD) : Bool := He.eqO (PySem.W.findIn K (.ref (He.ga K d.cn)) "__iter__") (some (some (.ref (He.ma K (He.ga K d.cn) "__iter__")))) && PySem.W.isFn K (.ref (He.ma K (He.ga K d.cn) "__iter__"))
def ItD.binds (d : ItD) : Prop := ∀ (kV doc pm : Value) (an : Option Addr) (cdv ct : Value) (us : List Value), us.length = 1 → bindArgs (PySem.W.fnOf "__iter__" (d.cn ++ "." ++ "__iter__") d.params d.body d.sc .none kV doc pm an cdv ct) ⟨us, []⟩ = pure ((["self"] : List Str).zip us)
def ItD.scB (d : ItD) : Bool := isFun d.sc && (!d.sc.isCoroutine && (!d.sc.isGenerator && ((decide (d.sc.names.lookup ("self" : Str) = some .local) || decide (d.sc.names.lookup ("self" : Str) = some .cell)) && ((d.sc.names.all fun y => !decide (y.2 = .free)) && (decide (d.sc.names.lookup ("iter" : Str) = some .globalImplicit) && iterBody d.f d.body)))))
theorem ItD.scOk {d : ItD} (h : d.scB = true) : FnScope ["self"] ["self"] d.sc ∧ d.sc.names.lookup ("iter" : Str) = some .globalImplicit ∧ iterBody d.f d.body = true := by
  unfold ItD.scB at h
  simp only [Bool.and_eq_true, Bool.not_eq_true', decide_eq_true_eq, List.all_eq_true, Bool.or_eq_true, decide_eq_false_iff_not] at h
  obtain ⟨h1, h2, h3, h4, h5, h6, h7⟩ := h
  exact ⟨⟨isFun_ok h1, h2, h3, by decide, rfl, fun x hx => by
    have : x = "self" := by simpa using hx
    subst this
    exact h4, h5⟩, h6, h7⟩
def itM (its : List ItD) : Nat → Option Nat := fun c => (its.find? fun d => d.c == c).map ItD.j
/-! ### the Hook -/
open He in
/-- what is told: facts, defs at their places, the Bool ex, the defs' tables: empty, not in K -/
structure SaysY (fa : List Fa) (fn : List He5.DefA) (tf : List Defn) (ex : PySem.W.Frag → Bool) (w : World) (h : Heap) (K : PySem.W.Frag) : Prop where
  d : He5.SaysA fa fn K
  more : ex K = true
  hd : ∀ p ∈ tf, PySem.W.codeHdIn K (cT K p).1 (cT K p).2 = true
  out : ∀ p ∈ tf, K.lookup (cT K p).2 = none
  empty : ∀ p ∈ tf, h.get? (cT K p).2 = some { cls := .none, data := .fields #[] }
def KY (n : Nat) (g : Addr → Option Obj) : PySem.W.Frag := He.frT g (He5.asA g n)
def obsY (n : Nat) (fa : List He.Fa) (fn : List He5.DefA) (tf : List He.Defn) (ex : PySem.W.Frag → Bool) (g : Addr → Option Obj) : He.AlD × Bool := (He5.obsA fa fn (KY n g), ex (KY n g) && He.tabsB g tf (KY n g))
def valY (fn : List He5.DefA) : He.AlD × Bool := (He5.valA fn, true)
open He in
theorem saysY_of {n : Nat} {fa : List Fa} {fn : List He5.DefA} {tf : List Defn} {ex : PySem.W.Frag → Bool} {w : World} {h : Heap} (e : obsY n fa fn tf ex h.get? = valY fn) : SaysY fa fn tf ex w h (KY n h.get?) := by
  have e1 : He5.obsA fa fn (KY n h.get?) = He5.valA fn := congrArg (fun z : He.AlD × Bool => z.1) e
  have e2 : (ex (KY n h.get?) && tabsB h.get? tf (KY n h.get?)) = true := congrArg (fun z : He.AlD × Bool => z.2) e
  obtain ⟨h1, h2⟩ := ba e2
  have key : ∀ p ∈ tf, PySem.W.codeHdIn (KY n h.get?) (cT (KY n h.get?) p).1 (cT (KY n h.get?) p).2 = true ∧ ∃ o, h.get? (cT (KY n h.get?) p).2 = some o ∧ emptyTab o = true := fun p hp => by
    obtain ⟨h3, h4⟩ := ba (List.all_eq_true.mp h2 p hp)
    refine ⟨h3, ?_⟩
    cases q : h.get? (cT (KY n h.get?) p).2 with
    | none =>
      rw [q] at h4
      cases h4
    | some o =>
      rw [q] at h4
      exact ⟨o, rfl, h4⟩
  exact ⟨e1, h1, fun p hp => (key p hp).1, fun p hp => by
    obtain ⟨_, o, q, z⟩ := key p hp
    exact frT_none q z, fun p hp => by
    obtain ⟨_, o, q, z⟩ := key p hp
    rw [q, emptyTab_eq z]⟩
def hookY (n : Nat) (fa : List He.Fa) (fn : List He5.DefA) (tf : List He.Defn) (ex : PySem.W.Frag → Bool) : PySem.W.Hook where
  α := He.AlD × Bool
  obs := fun s => obsY n fa fn tf ex s.heap.get?
  val := fun _ => valY fn
  says := fun w h => ∃ K : PySem.W.Frag, K.In h ∧ SaysY fa fn tf ex w h K
  of := fun _ _ e => ⟨_, He.frT_in, saysY_of e⟩
  keeps := fun _ _ _ ⟨K, hK, c⟩ k => ⟨K, PySem.W.Frag.In.keeps hK k, ⟨c.d, c.more, c.hd, c.out, fun p hp => k _ _ (c.empty p hp)⟩⟩
theorem obsY_eq {n : Nat} {fa : List He.Fa} {fn : List He5.DefA} {tf : List He.Defn} {ex : PySem.W.Frag → Bool} {g : Addr → Option Obj} {s : Shared} (h : ∀ a, g a = s.heap.get? a) : obsY n fa fn tf ex g = (hookY n fa fn tf ex).obs s := by
  have e : g = s.heap.get? := funext h
  rw [e] <;> rfl
/-- an own class: its name, its fields, its __init__ and how many arguments that takes -/
structure CD where
  nm : Str
  fs : List Str
  mkr : Option (Nat × Nat)
/-- what the finished part must say of it -/
def CD.exB (K : PySem.W.Frag) (d : CD) : Bool := decide (PySem.W.kitOne K (.type "list") (.ref (He.ga K d.nm)) = some false) && (decide (PySem.W.kitOne K (.type "tuple") (.ref (He.ga K d.nm)) = some false) && (decide (PySem.W.kitOne K (.type "NoneType") (.ref (He.ga K d.nm)) = some false) &&
  (decide (PySem.W.findIn K (.ref (He.ga K d.nm)) "__class__" = some (some (.builtin "object.__class__"))) && (decide (PySem.W.specialIn K (.builtin "object.__class__") "__get__" = some (some (.builtin "getset_descriptor.__get__"))) && (decide (PySem.W.takesIn K (.builtin "object.__class__") = some true) &&
  (decide (PySem.W.mroIn K (He.ga K d.nm) (.type "object") = some true) && decide (PySem.W.kitOne K (.ref (He.ga K d.nm)) (.ref (He.ga K d.nm)) = some true)))))))
def CD.okB (defs : List Def) (d : CD) : Bool := decide d.fs.Nodup && (match d.mkr with
  | none => true
  | some (f, ar) => (match defs[f]? with
    | some e => decide (e.own = some d.nm) && (decide (e.knd = 0) && (decide (e.nm = "__init__") && (e.kw.isNone && decide (e.ps.length = ar + 1))))
    | none => false))
def clsN (cs : List CD) : Nat → Option Str := fun c => (cs[c]?).map CD.nm
def clsF (cs : List CD) : Nat → List Str := fun c => ((cs[c]?).map CD.fs).getD []
def clsM (cs : List CD) : Nat → Option (Str × Nat × Nat) := fun c => (cs[c]?).bind fun d => d.mkr.map fun p => (d.nm, p.1, p.2)
/-- a class's number -/
def cix (cs : List CD) (c : Str) : Option Nat := cs.findIdx? fun d => decide (d.nm = c)
theorem cix_ok {cs : List CD} {c : Str} {i : Nat} (h : cix cs c = some i) : ∃ d, cs[i]? = some d ∧ d.nm = c := by
  unfold cix at h
  obtain ⟨hl, h1, _⟩ := List.findIdx?_eq_some_iff_getElem.mp h
  exact ⟨cs[i], List.getElem?_eq_getElem hl, of_decide_eq_true h1⟩
def meM (defs : List Def) (cs : List CD) : Nat → Option (Nat × Nat × Str × Nat) := fun i => (defs[i]?).bind fun d => match d.own, d.knd with
  | some c, 0 => if d.nm = ("__init__" : Str) then none else (cix cs c).bind fun k => if ((cs[k]?).map CD.fs).getD [] |>.contains d.nm then none else some (if d.nm = ("__mul__" : Str) then 2 else if d.nm = ("__invert__" : Str) then 3 else 0, k, d.nm, d.ps.length)
  | some c, 3 => (cix cs c).bind fun k => if ((cs[k]?).map CD.fs).getD [] |>.contains d.nm then none else some (1, k, d.nm, d.ps.length)
  | _, _ => none
def cmM (defs : List Def) (cs : List CD) : Nat → Option (Nat × Str × Str × Nat) := fun i => (defs[i]?).bind fun d => match d.own, d.knd with
  | some c, 2 => (cix cs c).map fun k => (k, c, d.nm, d.ps.length)
  | _, _ => none
def liOf (defs : List Def) (bn : List Str) (cs : List CD) (tf : Option Str) (its : List ItD) : LI := ⟨fnOf' defs, bn, clsN cs, tf, false, clsF cs, clsM cs, stM defs, meM defs cs, cmM defs cs, itM its⟩
def ItD.okB (cs : List CD) (d : ItD) : Bool := decide (cix cs d.cn = some d.c) && (match cs[d.c]? with
  | some k => decide (k.fs[d.j]? = some d.f) && decide (k.fs.Nodup)
  | none => false)
def clsA (K : PySem.W.Frag) (cs : List CD) : Nat → Option Addr := fun c => (cs[c]?).map fun d => He.ga K d.nm
theorem cread_of {K : PySem.W.Frag} {C : Addr} (h : PySem.W.readsIn K C (.type "type") = true) : ClX.CRead K C (.type "type") := by
  refine ⟨h, ?_⟩
  unfold PySem.W.readsIn at h
  obtain ⟨h, _⟩ := He.ba h
  obtain ⟨h, _⟩ := He.ba h
  obtain ⟨h, h3⟩ := He.ba h
  obtain ⟨_, h2⟩ := He.ba h
  unfold PySem.W.specialIn
  rw [beq_iff_eq.mp h2, Option.bind_some]
  exact beq_iff_eq.mp h3
theorem facts_of {K : PySem.W.Frag} {h : Heap} {mg : Str → Option Value} {fa : List He.Fa} {defs : List Def} {bn : List Str} {tf : Option Str} {tb : List (Addr × Str)} {cs : List CD} {its : List ItD} (X : K.In h) (G : h.Ns mainGlobals mg) (c : He5.SaysA fa (defs.map Def.hd ++ its.map ItD.hd) K)
    (h1 : ∀ d ∈ defs, d.own = none → He.Fa.glo d.nm ∈ fa) (h2 : ∀ x ∈ bn, He.Fa.free x ∈ fa)
    (h3 : ∀ d ∈ cs, He.Fa.glo d.nm ∈ fa ∧ He.Fa.cls d.nm ∈ fa ∧ (∀ f ∈ d.fs, He.Fa.noat d.nm f ∈ fa) ∧ (d.mkr ≠ none → He.Fa.mkr d.nm ∈ fa)) (h4 : ∀ d ∈ cs, d.exB K = true) (h5 : ∀ d ∈ cs, d.okB defs = true) (h6 : ∀ d ∈ defs, d.exB K = true ∧ ∀ o, d.own = some o → He.Fa.glo o ∈ fa)
    (h7 : ∀ d ∈ its, d.exB K = true ∧ d.okB cs = true ∧ d.scB = true ∧ d.binds ∧ mg "iter" = none) :
    Facts K mg ⟨clsA K cs, clsF cs, tb⟩ (liOf defs bn cs tf its) defs := by
  have fact : ∀ f ∈ fa, f.ok K = true := fun f hf => by
    obtain ⟨i, hi⟩ := List.mem_iff_getElem?.mp hf
    exact c.fact i hi
  have at_ : ∀ {i : Nat} {d : CD}, cs[i]? = some d → d ∈ cs := fun e => List.mem_of_getElem? e
  refine ⟨rfl, fun i d hd => ⟨?_, fun ho => ?_⟩, fun x hx => ?_, fun i x e => ?_, fun i nm f ar e => ?_, fun f cn m ar e => ?_, fun f kd c0 m ar e => ?_, fun f c0 cn m ar e => ?_, fun c0 j e => ?_, fun i hne => ?_⟩
  · obtain ⟨fd, F⟩ := c.def_ i (d := d.hd) (by rw [List.getElem?_append_left (by rw [List.length_map]; exact lt_of_get hd), List.getElem?_map, hd]; rfl)
    exact ⟨fd, Def.at_ F⟩
  · exact He.glo_ok X G (fact _ (h1 d (List.mem_of_getElem? hd) ho))
  · exact He.free_ok X G (fact _ (h2 x (by have hx : bn.contains x = true := hx; simpa using hx)))
  · have e : (cs[i]?).map CD.nm = some x := e
    cases q : cs[i]? with
    | none => rw [q] at e; cases e
    | some d =>
      rw [q] at e
      cases e
      obtain ⟨g1, g2, _, _⟩ := h3 d (at_ q)
      have ex := h4 d (at_ q)
      unfold CD.exB at ex
      simp only [Bool.and_eq_true, decide_eq_true_eq] at ex
      obtain ⟨x1, x2, x3, x4, x5, x6, x7, x8⟩ := ex
      exact ⟨He.ga K d.nm, He.glo_ok X G (fact _ g1), by show (cs[i]?).map _ = _; rw [q]; rfl, x1, x2, x3, He.cls_ok (fact _ g2), x4, x5, x6, x7, x8⟩
  · have e : ((cs[i]?).bind fun d => d.mkr.map fun p => (d.nm, p.1, p.2)) = some (nm, f, ar) := e
    cases q : cs[i]? with
    | none => rw [q] at e; cases e
    | some d =>
      rw [q] at e
      simp only [Option.bind_some, Option.map_eq_some_iff, Prod.mk.injEq, Prod.exists] at e
      obtain ⟨f', ar', em, rfl, rfl, rfl⟩ := e
      obtain ⟨g1, g2, _, g4⟩ := h3 d (at_ q)
      have ok := h5 d (at_ q)
      unfold CD.okB at ok
      rw [em] at ok
      simp only [Bool.and_eq_true, decide_eq_true_eq] at ok
      obtain ⟨_, ok⟩ := ok
      cases qd : defs[f']? with
      | none => rw [qd] at ok; cases ok
      | some e2 =>
        rw [qd] at ok
        simp only [Bool.and_eq_true, decide_eq_true_eq, Option.isNone_iff_eq_none] at ok
        obtain ⟨o1, o5, o2, o3, o4⟩ := ok
        refine ⟨He.ga K d.nm, He.glo_ok X G (fact _ g1), by show (cs[i]?).map _ = _; rw [q]; rfl, e2, rfl, o3, o4, ?_⟩
        have ek : e2.ad K = He.ma K (He.ga K d.nm) "__init__" := by
          unfold Def.ad
          rw [o1, o2, o5]
          rfl
        rw [ek]
        exact He.mkr_ok (fact _ (g4 (by rw [em]; simp)))
  · have e : ((defs[f]?).bind fun d => match d.own, d.knd with
      | some c, 1 => some (c, d.nm, d.ps.length)
      | _, _ => none) = some (cn, m, ar) := e
    cases q : defs[f]? with
    | none => rw [q] at e; cases e
    | some d =>
      rw [q, Option.bind_some] at e
      obtain ⟨x, g⟩ := h6 d (List.mem_of_getElem? q)
      obtain ⟨fd, F⟩ := c.def_ f (d := d.hd) (by rw [List.getElem?_append_left (by rw [List.length_map]; exact lt_of_get q), List.getElem?_map, q]; rfl)
      have F := Def.at_ F
      have kp := F.kp
      unfold Def.exB at x
      unfold Def.ad at kp
      split at e
      · rename_i cc ho hk
        cases e
        rw [ho, hk] at x
        rw [ho, hk] at kp
        obtain ⟨x1, x2⟩ := He.ba x
        obtain ⟨x2, x3⟩ := He.ba x2
        obtain ⟨w1, w2⟩ := He5.wrapB_ok x2
        have ea : d.ad K = He5.wf K (He.ga K cn) "staticmethod" d.nm := by
          unfold Def.ad
          rw [ho, hk]
          rfl
        have sm : SMet K (He.ga K cn) (.type "type") d.nm (He.ma K (He.ga K cn) d.nm) (d.ad K) := by
          rw [ea]
          exact ⟨w1, w2, kp⟩
        exact ⟨_, _, .type "type", He.glo_ok X G (fact _ (g _ ho)), cread_of x1, d, rfl, of_decide_eq_true x3, rfl, sm⟩
      · cases e
  · have e : ((defs[f]?).bind fun d => match d.own, d.knd with
      | some c, 0 => if d.nm = ("__init__" : Str) then none else (cix cs c).bind fun k => if ((cs[k]?).map CD.fs).getD [] |>.contains d.nm then none else some (if d.nm = ("__mul__" : Str) then 2 else if d.nm = ("__invert__" : Str) then 3 else 0, k, d.nm, d.ps.length)
      | some c, 3 => (cix cs c).bind fun k => if ((cs[k]?).map CD.fs).getD [] |>.contains d.nm then none else some (1, k, d.nm, d.ps.length)
      | _, _ => none) = some (kd, c0, m, ar) := e
    cases q : defs[f]? with
    | none => rw [q] at e; cases e
    | some d =>
      rw [q, Option.bind_some] at e
      obtain ⟨x, g⟩ := h6 d (List.mem_of_getElem? q)
      unfold Def.exB at x
      split at e
      · rename_i cc ho hk
        rw [ho, hk] at x
        simp only at x
        split at e
        · cases e
        · rename_i hni
          obtain ⟨k, hk2, e⟩ := Option.bind_eq_some_iff.mp e
          obtain ⟨cd, c1, c2⟩ := cix_ok hk2
          split at e
          · cases e
          · rename_i hnc
            simp only [Option.some.injEq, Prod.mk.injEq] at e
            obtain ⟨ek, rfl, rfl, rfl⟩ := e
            have hcl : He.Fa.cls cd.nm ∈ fa := (h3 cd (at_ c1)).2.1
            have ea : d.ad K = He.ma K (He.ga K cc) d.nm := by
              unfold Def.ad
              rw [ho, hk]
              rfl
            obtain ⟨x1, x2⟩ := He.ba x
            refine ⟨He.ga K cc, by show (cs[k]?).map _ = _; rw [c1]; show some (He.ga K cd.nm) = _; rw [c2], fun z => hnc (by
              have z : d.nm ∈ ((cs[k]?).map CD.fs).getD [] := z
              simpa using z), by rw [← c2]; exact He.cls_ok (fact _ hcl), d, rfl, of_decide_eq_true x1, rfl, ?_⟩
            rw [ea]
            by_cases hm : d.nm = ("__mul__" : Str)
            · rw [if_pos hm] at ek x2
              subst ek
              obtain ⟨y1, y2⟩ := He.ba x2
              obtain ⟨y2, y3⟩ := He.ba y2
              obtain ⟨y3, y4⟩ := He.ba y3
              obtain ⟨y4, y5⟩ := He.ba y4
              obtain ⟨y5, y6⟩ := He.ba y5
              obtain ⟨y6, y7⟩ := He.ba y6
              exact ⟨y1, He.eqO_ok y2, y3, He.eqO_ok y4, Option.isSome_iff_exists.mp y5, Option.isSome_iff_exists.mp y6, of_decide_eq_true y7⟩
            · rw [if_neg hm] at ek x2
              rw [if_neg hni] at x2
              obtain ⟨y1, y2⟩ := He.ba x2
              obtain ⟨y2, y3⟩ := He.ba y2
              by_cases hv : d.nm = ("__invert__" : Str)
              · rw [if_pos hv] at ek
                subst ek
                rw [hv] at y1 y2 ⊢
                exact ⟨He.eqO_ok y1, y2⟩
              · rw [if_neg hv] at ek
                subst ek
                exact ⟨He.eqO_ok y1, y2, y3⟩
      · rename_i cc ho hk
        rw [ho, hk] at x
        obtain ⟨k, hk2, e⟩ := Option.bind_eq_some_iff.mp e
        obtain ⟨cd, c1, c2⟩ := cix_ok hk2
        split at e
        · cases e
        · rename_i hnc
          simp only [Option.some.injEq, Prod.mk.injEq] at e
          obtain ⟨rfl, rfl, rfl, rfl⟩ := e
          have hcl : He.Fa.cls cd.nm ∈ fa := (h3 cd (at_ c1)).2.1
          have ea : d.ad K = He5.wf K (He.ga K cc) "property" d.nm := by
            unfold Def.ad
            rw [ho, hk]
            rfl
          obtain ⟨y1, y2⟩ := He.ba x
          obtain ⟨y2, y3⟩ := He.ba y2
          obtain ⟨y3, y4⟩ := He.ba y3
          obtain ⟨y4, y5⟩ := He.ba y4
          refine ⟨He.ga K cc, by show (cs[k]?).map _ = _; rw [c1]; show some (He.ga K cd.nm) = _; rw [c2], fun z => hnc (by
              have z : d.nm ∈ ((cs[k]?).map CD.fs).getD [] := z
              simpa using z), by rw [← c2]; exact He.cls_ok (fact _ hcl), d, rfl, of_decide_eq_true y5, rfl, ?_⟩
          rw [ea]
          refine ⟨_, He.eqO_ok y1, He.eqO_ok y2, of_decide_eq_true y3, ?_⟩
          unfold He5.wf
          split at y4
          · rename_i f r er
            exact ⟨r, by rw [er]⟩
          · cases y4
      · cases e
  · have e : ((defs[f]?).bind fun d => match d.own, d.knd with
      | some c, 2 => (cix cs c).map fun k => (k, c, d.nm, d.ps.length)
      | _, _ => none) = some (c0, cn, m, ar) := e
    cases q : defs[f]? with
    | none => rw [q] at e; cases e
    | some d =>
      rw [q, Option.bind_some] at e
      obtain ⟨x, g⟩ := h6 d (List.mem_of_getElem? q)
      unfold Def.exB at x
      split at e
      · rename_i cc ho hk
        rw [ho, hk] at x
        obtain ⟨k, hk2, e⟩ := Option.map_eq_some_iff.mp e
        obtain ⟨cd, c1, c2⟩ := cix_ok hk2
        simp only [Prod.mk.injEq] at e
        obtain ⟨rfl, rfl, rfl, rfl⟩ := e
        have ea : d.ad K = He5.wf K (He.ga K cc) "classmethod" d.nm := by
          unfold Def.ad
          rw [ho, hk]
          rfl
        obtain ⟨x1, x2⟩ := He.ba x
        obtain ⟨x2, x3⟩ := He.ba x2
        obtain ⟨x3, x4⟩ := He.ba x3
        refine ⟨He.ga K cc, He.ma K (He.ga K cc) d.nm, .type "type", He.glo_ok X G (fact _ (g _ ho)), by show (cs[k]?).map _ = _; rw [c1]; show some (He.ga K cd.nm) = _; rw [c2], cread_of x1, d, rfl, of_decide_eq_true x4, rfl, ?_⟩
        rw [ea]
        exact He5.cmet_of x2 x3
      · cases e
  · have e : (its.find? fun d => d.c == c0).map ItD.j = some j := e
    obtain ⟨d, hf, ej⟩ := Option.map_eq_some_iff.mp e
    have hmem := List.mem_of_find?_eq_some hf
    have hc : d.c = c0 := by simpa using List.find?_some hf
    obtain ⟨z1, z2, z3, z4, z5⟩ := h7 d hmem
    obtain ⟨i, hi⟩ := List.mem_iff_getElem?.mp hmem
    obtain ⟨fd, F⟩ := c.def_ (defs.length + i) (d := d.hd) (by
      rw [List.getElem?_append_right (by simp), List.length_map, Nat.add_sub_cancel_left, List.getElem?_map, hi]; rfl)
    unfold ItD.okB at z2
    obtain ⟨z2, z6⟩ := He.ba z2
    have z2 := of_decide_eq_true z2
    obtain ⟨cd, c1, c2⟩ := cix_ok z2
    rw [c1] at z6
    obtain ⟨z6, z7⟩ := He.ba z6
    have z6 := of_decide_eq_true z6
    have z7 := of_decide_eq_true z7
    subst hc ej
    have ef : clsF cs d.c = cd.fs := by unfold clsF; rw [c1]; rfl
    obtain ⟨y1, y2⟩ := He.ba z1
    obtain ⟨g1, g2, g3, _⟩ := h3 cd (at_ c1)
    have cls : Cls K (He.ga K d.cn) := by rw [← c2]; exact He.cls_ok (fact _ g2)
    have noat : NoAttr K (He.ga K d.cn) d.f := by rw [← c2]; exact He.noat_ok (fact _ (g3 _ (List.mem_of_getElem? z6)))
    refine ⟨He.ga K d.cn, He.ma K (He.ga K d.cn) "__iter__", d.f, fd, by show (cs[d.c]?).map _ = _; rw [c1]; show some (He.ga K cd.nm) = _; rw [c2], rfl, by show (clsF cs d.c)[d.j]? = _; rw [ef]; exact z6, by show (clsF cs d.c).Nodup; rw [ef]; exact z7, He.eqO_ok y1, y2, fun P w base k => ?_, ?_⟩
    · obtain ⟨oc, od, dV, kV, doc, pm, an, cdv, ct, osl, efd, lk, hcd, _, _⟩ := F.ex
      subst efd
      obtain ⟨S1, S2, S3⟩ := ItD.scOk z3
      exact fn_iter (k := k) lk hcd S1 S2 z5 S3 cls noat
    · exact FunD.bindsN F z4
  · have hne : ((cs[i]?).map CD.fs).getD [] ≠ [] := hne
    cases q : cs[i]? with
    | none => rw [q] at hne; exact absurd rfl hne
    | some d =>
      obtain ⟨g1, g2, g3, _⟩ := h3 d (at_ q)
      have ok := h5 d (at_ q)
      unfold CD.okB at ok
      simp only [Bool.and_eq_true, decide_eq_true_eq] at ok
      have ef : clsF cs i = d.fs := by unfold clsF; rw [q]; rfl
      refine ⟨He.ga K d.nm, by show (cs[i]?).map _ = _; rw [q]; rfl, rfl, ?_⟩
      show IOk K _ (clsF cs i)
      rw [ef]
      exact ⟨He.cls_ok (fact _ g2), ok.1, fun f hf => He.noat_ok (fact _ (g3 f hf))⟩
/-- the tables that a head tells -/
def tfs : Option Str → List He.Defn
  | none => []
  | some nm => [(nm, none)]
def tbOf (K : PySem.W.Frag) : Option Str → List (Addr × Str)
  | none => []
  | some nm => [((He.cT K (nm, none)).2, nm ++ ".<locals>." ++ "<lambda>")]
/-- what the end of a law wants -/
theorem law_at {l : PySem.W.OpenLaw} {w : World} {K : PySem.W.Frag} {mg : Str → Option Value} {fa0 : List He.Fa} {ex : PySem.W.Frag → Bool} {h : Heap} {tf : Option Str} {defs : List Def} {L : LI} {cl : Nat → Option Addr} {fnn : Nat → List Str} {d0 : Def} {x : Str} {k n : Nat} {fd : FuncData} {fns : List He5.DefA}
    (KX : K.In h) (G : h.Ns mainGlobals mg) (c : SaysY fa0 fns (tfs tf) ex w h K) (etf : L.tf = tf) (S : Facts K mg ⟨cl, fnn, tbOf K tf⟩ L defs)
    (hb : ∀ (i : Nat) (d : Def), defs[i]? = some d → d.binds) (hs : ∀ (i : Nat) (d : Def), defs[i]? = some d → d.scB = true) (hc : ∀ (i : Nat) (d : Def), defs[i]? = some d → d.chk L = true)
    (hd : defs[0]? = some d0) (hown : d0.own = none) (F : d0.At K fd) (hp : d0.ps = [x]) (hbd : ∀ (s : Shared) (u : Value), BindsTo s fd ⟨[u], []⟩ [(x, u)])
    (H : ∀ ns : List Int, ns.length ≤ n → ∃ h', run (tabOf defs) k 0 [.scr ns] [] = .ok (.bl true) h') : LamX.LawAtS l w K CX0 (2 * k) n x mg (He.ga K d0.nm) h := by
  have hcs : ∀ p ∈ (tfs tf).map (He.cT K), ∃ q ∈ tfs tf, p = He.cT K q := fun p hp => by
    obtain ⟨q, a, b⟩ := List.mem_map.1 hp
    exact ⟨q, a, b.symm⟩
  refine ⟨fd, (tfs tf).map (He.cT K), spOf K ⟨cl, fnn, tbOf K tf⟩ (run (tabOf defs) k) 0 1, fun p hp => ?_, fun p hp => ?_, fun p hp => ?_, hbd, fun Hp a ns hl _ hH hS => ?_, fun base hK hG hT => ?_⟩
  · obtain ⟨q, hq, rfl⟩ := hcs p hp; exact c.empty q hq
  · obtain ⟨q, hq, rfl⟩ := hcs p hp; exact c.out q hq
  · obtain ⟨q, hq, rfl⟩ := hcs p hp; exact PySem.W.codeHd_of_K KX (c.hd q hq)
  · obtain ⟨h', e⟩ := H ns hl
    refine law_sp hS (fun p hp => ?_) e _
    cases tf with
    | none => cases hp
    | some nm =>
      obtain rfl : p = ((He.cT K (nm, none)).2, nm ++ ".<locals>." ++ "<lambda>") := by simpa [tbOf] using hp
      exact hH (He.cT K (nm, none)) (by simp [tfs])
  · have := run_ok (P := l.prog) (w := w) (base := base) S (fun nm e => by
      rw [etf] at e
      subst e
      exact ⟨hT _ (by simp [tfs]), rfl⟩) hb hs hc k 0 d0 hd fd F
    rw [hp, Def.fad hown] at this
    exact this
/-! ### what a law's head tells -/
def faOf (defs : List Def) (bn : List Str) (cs : List CD) : List He.Fa :=
  (defs.filter fun d => d.own.isNone).map (fun d => He.Fa.glo d.nm) ++ (bn.map He.Fa.free ++ cs.flatMap fun d => He.Fa.glo d.nm :: He.Fa.cls d.nm :: (d.fs.map (He.Fa.noat d.nm) ++ (if d.mkr.isNone then [] else [He.Fa.mkr d.nm])))
def exOf (defs : List Def) (cs : List CD) (its : List ItD) (K : PySem.W.Frag) : Bool := cs.all (CD.exB K) && (defs.all (Def.exB K) && its.all (ItD.exB K))
def ownOk (defs : List Def) (cs : List CD) : Bool := defs.all fun d => match d.own with
  | none => true
  | some c => (cix cs c).isSome
theorem facts_law {K : PySem.W.Frag} {w : World} {h : Heap} {mg : Str → Option Value} {defs : List Def} {bn : List Str} {tf : Option Str} {tb : List (Addr × Str)} {cs : List CD} {its : List ItD} (X : K.In h) (G : h.Ns mainGlobals mg) (c : SaysY (faOf defs bn cs) (defs.map Def.hd ++ its.map ItD.hd) (tfs tf) (exOf defs cs its) w h K)
    (h1 : ∀ d ∈ cs, d.okB defs = true) (h2 : ownOk defs cs = true) (h3 : ∀ d ∈ its, d.okB cs = true ∧ d.scB = true ∧ d.binds) (h4 : its = [] ∨ ("iter" : Str) ∈ bn) : Facts K mg ⟨clsA K cs, clsF cs, tb⟩ (liOf defs bn cs tf its) defs := by
  have cm : ∀ d ∈ cs, ∀ f ∈ (He.Fa.glo d.nm :: He.Fa.cls d.nm :: (d.fs.map (He.Fa.noat d.nm) ++ (if d.mkr.isNone then [] else [He.Fa.mkr d.nm]))), f ∈ faOf defs bn cs := fun d hd f hf => by
    unfold faOf
    exact List.mem_append_right _ (List.mem_append_right _ (List.mem_flatMap.mpr ⟨d, hd, hf⟩))
  have bm : ∀ x ∈ bn, He.Fa.free x ∈ faOf defs bn cs := fun x hx => by
    unfold faOf
    exact List.mem_append_right _ (List.mem_append_left _ (List.mem_map_of_mem hx))
  have ex := c.more
  unfold exOf at ex
  obtain ⟨e1, e2⟩ := He.ba ex
  obtain ⟨e2, e3⟩ := He.ba e2
  have fact : ∀ f ∈ faOf defs bn cs, f.ok K = true := fun f hf => by
    obtain ⟨i, hi⟩ := List.mem_iff_getElem?.mp hf
    exact c.d.fact i hi
  refine facts_of X G c.d (fun d hd ho => ?_) bm (fun d hd => ⟨cm d hd _ (by simp), cm d hd _ (by simp), fun f hf => cm d hd _ (by simp [hf]), fun hm => cm d hd _ ?_⟩) (fun d hd => List.all_eq_true.mp e1 d hd) h1 (fun d hd => ⟨List.all_eq_true.mp e2 d hd, fun o ho => ?_⟩) fun d hd => ⟨List.all_eq_true.mp e3 d hd, (h3 d hd).1, (h3 d hd).2.1, (h3 d hd).2.2, ?_⟩
  · unfold faOf
    exact List.mem_append_left _ (List.mem_map_of_mem (f := fun d : Def => He.Fa.glo d.nm) (List.mem_filter.mpr ⟨hd, by rw [ho]; rfl⟩))
  · cases q : d.mkr with
    | none => exact absurd q hm
    | some p => simp
  · have := List.all_eq_true.mp h2 d hd
    rw [ho] at this
    obtain ⟨k, hk⟩ := Option.isSome_iff_exists.mp this
    obtain ⟨cd, c1, rfl⟩ := cix_ok hk
    exact cm cd (List.mem_of_getElem? c1) _ (by simp)
  · rcases h4 with rfl | h4
    · cases hd
    · exact He.free_ok X G (fact _ (bm _ h4))
end Z

end
section
/-! the Hook with the addresses written out -/
namespace Z
open PySem PySem.Spec PyProof.Rows L2
section
def KL (n : List Addr) (g : Addr → Option Obj) : PySem.W.Frag := He.frT g n
def obsL (n : List Addr) (fa : List He.Fa) (fn : List He5.DefA) (tf : List He.Defn) (ex : PySem.W.Frag → Bool) (g : Addr → Option Obj) : He.AlD × Bool := (He5.obsA fa fn (KL n g), ex (KL n g) && He.tabsB g tf (KL n g))
def valL (fn : List He5.DefA) : He.AlD × Bool := (He5.valA fn, true)
open He in
theorem saysL_of {n : List Addr} {fa : List Fa} {fn : List He5.DefA} {tf : List Defn} {ex : PySem.W.Frag → Bool} {w : World} {h : Heap} (e : obsL n fa fn tf ex h.get? = valL fn) : SaysY fa fn tf ex w h (KL n h.get?) := by
  have e1 : He5.obsA fa fn (KL n h.get?) = He5.valA fn := congrArg (fun z : He.AlD × Bool => z.1) e
  have e2 : (ex (KL n h.get?) && tabsB h.get? tf (KL n h.get?)) = true := congrArg (fun z : He.AlD × Bool => z.2) e
  obtain ⟨h1, h2⟩ := ba e2
  have key : ∀ p ∈ tf, PySem.W.codeHdIn (KL n h.get?) (cT (KL n h.get?) p).1 (cT (KL n h.get?) p).2 = true ∧ ∃ o, h.get? (cT (KL n h.get?) p).2 = some o ∧ emptyTab o = true := fun p hp => by
    obtain ⟨h3, h4⟩ := ba (List.all_eq_true.mp h2 p hp)
    refine ⟨h3, ?_⟩
    cases q : h.get? (cT (KL n h.get?) p).2 with
    | none =>
      rw [q] at h4
      cases h4
    | some o =>
      rw [q] at h4
      exact ⟨o, rfl, h4⟩
  exact ⟨e1, h1, fun p hp => (key p hp).1, fun p hp => by
    obtain ⟨_, o, q, z⟩ := key p hp
    exact frT_none q z, fun p hp => by
    obtain ⟨_, o, q, z⟩ := key p hp
    rw [q, emptyTab_eq z]⟩
def hookL (n : List Addr) (fa : List He.Fa) (fn : List He5.DefA) (tf : List He.Defn) (ex : PySem.W.Frag → Bool) : PySem.W.Hook where
  α := He.AlD × Bool
  obs := fun s => obsL n fa fn tf ex s.heap.get?
  val := fun _ => valL fn
  says := fun w h => ∃ K : PySem.W.Frag, K.In h ∧ SaysY fa fn tf ex w h K
  of := fun _ _ e => ⟨_, He.frT_in, saysL_of e⟩
  keeps := fun _ _ _ ⟨K, hK, c⟩ k => ⟨K, PySem.W.Frag.In.keeps hK k, ⟨c.d, c.more, c.hd, c.out, fun p hp => k _ _ (c.empty p hp)⟩⟩
theorem obsL_eq {n : List Addr} {fa : List He.Fa} {fn : List He5.DefA} {tf : List He.Defn} {ex : PySem.W.Frag → Bool} {g : Addr → Option Obj} {s : Shared} (h : ∀ a, g a = s.heap.get? a) : obsL n fa fn tf ex g = (hookL n fa fn tf ex).obs s := by
  have e : g = s.heap.get? := funext h
  rw [e] <;> rfl
end
end Z

end
section
/-! evaluation, step by step -/
namespace Z
open PySem PySem.Spec
section
variable {Φ : FS} {env : Env} {h : CH}
def varR (o : Option (Option D)) (h : CH) : R D := match o with
    | some (some d) => .ok d h
    | _ => .no
@[simp] theorem varR_some (d : D) (h : CH) : varR (some (some d)) h = .ok d h := (rfl)
@[simp] theorem e_var (i : Nat) : evE Φ (.var i) env h = varR env[i]? h := by simp only [evE]; rfl
@[simp] theorem e_con (c : Kc) : evE Φ (.con c) env h = .ok c.d h := by simp only [evE]
@[simp] theorem e_bin (o : Bop) (m : Bool) (a b : E) : evE Φ (.bin o m a b) env h = (evE Φ a env h).bnd fun x h1 => (evE Φ b env h1).bnd fun y h2 => binD o m x y h2 := by simp only [evE]
def negR (x : D) (h1 : CH) : R D := match x with
    | .int i => .ok (.int (-i)) h1
    | _ => .no
@[simp] theorem negR_int (i : Int) (h : CH) : negR (.int i) h = .ok (.int (-i)) h := (rfl)
@[simp] theorem e_neg (a : E) : evE Φ (.neg a) env h = (evE Φ a env h).bnd negR := by simp only [evE]; rfl
@[simp] theorem e_not (a : E) : evE Φ (.not a) env h = (asBl (evE Φ a env h)).bnd fun b h1 => .ok (.bl (!b)) h1 := by simp only [evE]
@[simp] theorem e_bo1 (o : Bool) (a : E) : evE Φ (.bo1 o a) env h = evE Φ a env h := by simp only [evE]
/-- and, or -/
def boF (o x : Bool) (h1 : CH) (r : R D) : R D := if o = x then r else .ok (.bl x) h1
@[simp] theorem boF_same (o : Bool) (h1 : CH) (r : R D) : boF o o h1 r = r := if_pos rfl
@[simp] theorem boF_tf (h1 : CH) (r : R D) : boF true false h1 r = .ok (.bl false) h1 := (rfl)
@[simp] theorem boF_ft (h1 : CH) (r : R D) : boF false true h1 r = .ok (.bl true) h1 := (rfl)
@[simp] theorem e_bo (o : Bool) (a b : E) : evE Φ (.bo o a b) env h = (asBl (evE Φ a env h)).bnd fun x h1 => boF o x h1 (evE Φ b env h1) := by
  simp only [evE]
  congr 1
  funext x h1
  cases o <;> cases x <;> rfl
@[simp] theorem e_cmp (o : Cop) (a b : E) : evE Φ (.cmp o a b) env h = (evE Φ a env h).bnd fun x h1 => (evE Φ b env h1).bnd fun y h2 => cmpD o x y h2 := by simp only [evE]
@[simp] theorem e_ife (t a b : E) : evE Φ (.ife t a b) env h = (asBl (evE Φ t env h)).bnd fun x h1 => if x = true then evE Φ a env h1 else evE Φ b env h1 := by
  simp only [evE]
  congr 1
  funext x h1
  cases x <;> rfl
@[simp] theorem e_tup (es : Es) : evE Φ (.tup es) env h = (evEs Φ es env h).bnd fun vs h1 => .ok (.tup vs) h1 := by simp only [evE]
@[simp] theorem e_lst (m : Bool) (es : Es) : evE Φ (.lst m es) env h = (evEs Φ es env h).bnd fun vs h1 => newL m vs h1 := by simp only [evE]
@[simp] theorem e_call (md : Bool) (f : Nat) (es : Es) : evE Φ (.call md f es) env h = (evEs Φ es env h).bnd fun vs h1 => callM md Φ f vs h1 := by simp only [evE]
@[simp] theorem e_callD (md : Bool) (f : Nat) (es : Es) (c : Kc) : evE Φ (.callD md f es c) env h = (evEs Φ es env h).bnd fun vs h1 => callM md Φ f (vs ++ [c.d]) h1 := by simp only [evE]
@[simp] theorem e_callK (md : Bool) (f : Nat) (es : Es) (e : E) : evE Φ (.callK md f es e) env h = (evEs Φ es env h).bnd fun vs h1 => (evE Φ e env h1).bnd fun v h2 => callM md Φ f (vs ++ [v]) h2 := by simp only [evE]
@[simp] theorem e_bi (f : Bi) (m : Bool) (es : Es) : evE Φ (.bi f m es) env h = (evEs Φ es env h).bnd fun vs h1 => biD f m vs h1 := by simp only [evE]
theorem snapF_cell {h : CH} {z : Nat} {ds : List D} (k : Nat) (e : h[z]? = some (.lst ds)) : snapF h (k + 1) (.cell z) = (ds.mapM (snapF h k)).map .lst := by simp only [snapF, e]
theorem cellsF_cell {h : CH} {z : Nat} {ds : List D} (k : Nat) (e : h[z]? = some (.lst ds)) : cellsF h (k + 1) (.cell z) = z :: ds.flatMap (cellsF h k) := by simp only [cellsF, e]
/-- isinstance -/
def isiR (h : CH) (x : D) (ts : List Ty) : R D := match isiAny h x ts with
  | some b => .ok (.bl b) h
  | none => .no
/-- .. with a written tuple of types: no instance -/
def isiT (h : CH) (x : D) (ts : List Ty) : R D := match isiAny h x ts with
  | some b => if noIns h x then .ok (.bl b) h else .no
  | none => .no
@[simp] theorem e_isi (a : E) (ts : List Ty) : evE Φ (.isi a false ts) env h = (evE Φ a env h).bnd fun x h1 => isiR h1 x ts := by
  simp only [evE, isiR, Bool.not_false, Bool.or_true, if_true] <;> rfl
@[simp] theorem e_isiT (a : E) (ts : List Ty) : evE Φ (.isi a true ts) env h = (evE Φ a env h).bnd fun x h1 => isiT h1 x ts := by
  simp only [evE, isiT, Bool.not_true, Bool.or_false] <;> rfl
@[simp] theorem e_fld (a : E) (c i : Nat) : evE Φ (.fld a c i) env h = (evE Φ a env h).bnd fun x h1 => fldV x c i h1 := by simp only [evE]
@[simp] theorem e_fz (a : E) : evE Φ (.fz a) env h = (evE Φ a env h).bnd fun x h1 => fzV x h1 := by simp only [evE]
@[simp] theorem e_mk (c f : Nat) (es : Es) : evE Φ (.mk c f es) env h = (evEs Φ es env h).bnd fun ds h1 => mkV Φ c f ds h1 := by simp only [evE]
/-- a method -/
def mthR (x : D) (f : Mt) (vs : List D) (h : CH) (h1 : CH) : R D := if (lstOf h1 x).isSome then mthD f x vs h else .no
@[simp] theorem e_mth (o : E) (f : Mt) (es : Es) : evE Φ (.mth o f es) env h = (evE Φ o env h).bnd fun x h1 => (evEs Φ es env h1).bnd fun vs h2 => mthR x f vs h2 h1 := by simp only [evE]; rfl
@[simp] theorem e_ix (a i : E) : evE Φ (.ix a i) env h = (evE Φ a env h).bnd fun x h1 => (evE Φ i env h1).bnd fun y h2 => ixV x y h2 := by simp only [evE]
@[simp] theorem e_slc (m : Bool) (a : E) (lo hi : Oe) : evE Φ (.slc m a lo hi) env h = (evE Φ a env h).bnd fun x h1 => (evO Φ lo env h1).bnd fun l h2 => (evO Φ hi env h2).bnd fun u h3 => slcD m x l u h3 := by simp only [evE]
theorem e_comp (m : Bool) (own : List (Str × Nat)) (tg : Tg) (it : It) (c : Oe) (e : E) : evE Φ (.comp m own tg it c e) env h = (evIt Φ it env h).bnd fun p h1 => (compGo p.2 (fun d => asgTg tg d (wipeE env (own.map (·.2)))) (fun en => evC Φ c en) (fun en => evE Φ e en) p.1 h1).bnd fun ys h2 => if ys.length ≤ SZ then newL m ys h2 else .no := by simp only [evE]
@[simp] theorem e_dix (a i : E) : evE Φ (.dix a i) env h = (evE Φ a env h).bnd fun x h1 => (evE Φ i env h1).bnd fun y h2 => dixV x y h2 := by simp only [evE]
@[simp] theorem e_din (neg : Bool) (a b : E) : evE Φ (.din neg a b) env h = (evE Φ a env h).bnd fun x h1 => (evE Φ b env h1).bnd fun y h2 => dinV neg x y h2 := by simp only [evE]
@[simp] theorem e_dcN (own : List (Str × Nat)) (j : Nat) (it : E) : evE Φ (.dcN own j it) env h = (evE Φ it env h).bnd fun v h1 => if j < env.length then dcNV v h1 else .no := by simp only [evE]
@[simp] theorem e_lset (a : E) : evE Φ (.lset a) env h = (evE Φ a env h).bnd fun x h1 => lsetV x h1 := by simp only [evE]
@[simp] theorem e_srt (m : Bool) (l : E) (v : Nat) : evE Φ (.srt m l v) env h = (evE Φ l env h).bnd fun x h1 => srtV m x env[v]? h1 := by simp only [evE]
@[simp] theorem es_nil : evEs Φ .nil env h = .ok [] h := by simp only [evEs]
@[simp] theorem es_cons (e : E) (es : Es) : evEs Φ (.cons e es) env h = (evE Φ e env h).bnd fun v h1 => (evEs Φ es env h1).bnd fun vs h2 => .ok (v :: vs) h2 := by simp only [evEs]
def intR (v : D) (h1 : CH) : R (Option Int) := match v with
    | .int i => .ok (some i) h1
    | _ => .no
@[simp] theorem intR_int (i : Int) (h : CH) : intR (.int i) h = .ok (some i) h := (rfl)
@[simp] theorem o_none : evO Φ .none env h = .ok none h := by simp only [evO]
@[simp] theorem o_some (e : E) : evO Φ (.some e) env h = (evE Φ e env h).bnd intR := by simp only [evO]; rfl
@[simp] theorem c_none : evC Φ .none env h = .ok true h := by simp only [evC]
@[simp] theorem c_some (e : E) : evC Φ (.some e) env h = asBl (evE Φ e env h) := by simp only [evC]
def itR (v : D) (h1 : CH) : R (List D × Ck) := match items h1 v with
    | some ds => .ok (ds, ckOf v ds) h1
    | none => .no
theorem itR_of {v : D} {h1 : CH} {ds : List D} (e : items h1 v = some ds) : itR v h1 = .ok (ds, ckOf v ds) h1 := by unfold itR; rw [e]
@[simp] theorem it_e (x : E) : evIt Φ (.e x) env h = (evE Φ x env h).bnd itR := by simp only [evIt]; rfl
@[simp] theorem it_f (fn : Tn) (es : Es) : evIt Φ (.f fn es) env h = (evEs Φ es env h).bnd fun vs h1 => itD fn vs h1 := by simp only [evIt]
@[simp] theorem s_asg (tg : Tgt) (e : E) : evS Φ (.asg tg e) env h = RS.of (evE Φ e env h) fun v h1 => evTgt Φ tg v env h1 := by simp only [evS]
@[simp] theorem s_par (i j : Nat) (a b : E) : evS Φ (.par i j a b) env h = RS.of (evE Φ a env h) fun v h1 => RS.of (evE Φ b env h1) fun w h2 => .nx ((env.set i (some v)).set j (some w)) h2 := by simp only [evS]
@[simp] theorem s_expr (e : E) : evS Φ (.expr e) env h = RS.of (evE Φ e env h) fun _ h1 => .nx env h1 := by simp only [evS]
@[simp] theorem s_ret (e : E) : evS Φ (.ret e) env h = RS.of (evE Φ e env h) fun v h1 => .rt v h1 := by simp only [evS]
@[simp] theorem s_ife (t : E) (a b : Ss) : evS Φ (.ife t a b) env h = RS.of (asBl (evE Φ t env h)) fun x h1 => if x = true then evSs Φ a env h1 else evSs Φ b env h1 := by
  simp only [evS]
  congr 1
  funext x h1
  cases x <;> rfl
theorem s_fr (tg : Tg) (it : It) (b : Ss) (fg : List Nat) : evS Φ (.fr tg it b fg) env h = RS.of (evIt Φ it env h) fun p h1 => forGo p.2 (asgTg tg) (fun en => evSs Φ b en) fg p.1 env h1 := by simp only [evS]
theorem s_whl (t : E) (b : Ss) (fg : List Nat) : evS Φ (.whl t b fg) env h = whlD (fun en hh => asBl (evE Φ t en hh)) (fun en => evSs Φ b en) fg env h := by simp only [evS]
@[simp] theorem s_pass : evS Φ .pass env h = .nx env h := by simp only [evS]
@[simp] theorem s_fg (is : List Nat) : evS Φ (.fg is) env h = .nx (wipeE env is) h := by simp only [evS]
theorem s_frz {i : Nat} {d d' : D} {h' : CH} (e : env[i]? = some (some d)) (q : frzD h d = some (d', h')) : evS Φ (.frz i) env h = .nx (env.set i (some d')) h' := by simp only [evS, e, q]
@[simp] theorem ss_nil : evSs Φ .nil env h = .nx env h := by simp only [evSs]
@[simp] theorem ss_cons (s : S) (ss : Ss) : evSs Φ (.cons s ss) env h = (evS Φ s env h).andThen fun env1 h1 => evSs Φ ss env1 h1 := by simp only [evSs]
@[simp] theorem t_nm (i : Nat) (v : D) : evTgt Φ (.nm i) v env h = .nx (env.set i (some v)) h := (rfl)
@[simp] theorem t_tp (ts : List Nat) (ds : List D) : evTgt Φ (.tp ts) (.tup ds) env h = if ds.length = ts.length then .nx (setAll ts ds env) h else .no := (rfl)
@[simp] theorem t_sub (a i : E) (v : D) : evTgt Φ (.sub a i) v env h = RS.of (evE Φ a env h) fun x h1 => RS.of (evE Φ i env h1) fun y h2 => match setV x y v h2 with
    | some h3 => .nx env h3
    | none => .no := rfl
@[simp] theorem t_dsub (a i : E) (v : D) : evTgt Φ (.dsub a i) v env h = RS.of (evE Φ a env h) fun x h1 => RS.of (evE Φ i env h1) fun y h2 => match setK x y v h2 with
    | some h3 => .nx env h3
    | none => .no := rfl
@[simp] theorem wipe_nil : wipeE env [] = env := (rfl)
@[simp] theorem wipe_cons (v : Nat) (vs : List Nat) : wipeE env (v :: vs) = (wipeE env vs).set v none := (rfl)
@[simp] theorem setAll_nil (ds : List D) : setAll [] ds env = env := by cases ds <;> rfl
@[simp] theorem setAll_cons (i : Nat) (is : List Nat) (d : D) (ds : List D) : setAll (i :: is) (d :: ds) env = setAll is ds (env.set i (some d)) := (rfl)
end
/-! ### a def's end -/
def fin : RS → R D
  | .nx _ h' => .ok .non h'
  | .rt d h' => .ok d h'
  | .ex c es h' => .ex c es h'
  | .no => .no
@[simp] theorem fin_nx (e : Env) (h : CH) : fin (.nx e h) = .ok .non h := (rfl)
@[simp] theorem fin_rt (d : D) (h : CH) : fin (.rt d h) = .ok d h := (rfl)
@[simp] theorem fin_if (c : Prop) [Decidable c] (a b : RS) : fin (if c then a else b) = if c then fin a else fin b := by split <;> rfl
@[simp] theorem andThen_if (c : Prop) [Decidable c] (a b : RS) (f : Env → CH → RS) : (if c then a else b).andThen f = if c then a.andThen f else b.andThen f := by split <;> rfl
theorem run_eq {T : Nat → Option Fd} {k f : Nat} {ds : List D} {h : CH} {fd : Fd} (e : T f = some fd) (hl : ds.length = fd.ar) : run T (k + 1) f ds h = fin (evSs (run T k) fd.body (envOf fd.n ds) h) := by
  conv => lhs; unfold run
  rw [e]
  simp only
  rw [if_pos hl]
  cases evSs (run T k) fd.body (envOf fd.n ds) h <;> rfl
/-! ### calls -/
theorem snaps_nc {h : CH} {ds : List D} (e : ncs ds = true) : snaps h ds = some ds := by unfold snaps; rw [if_pos e]
theorem call_nc {Φ : FS} {f : Nat} {ds : List D} {h h' : CH} {d : D} (e : ncs ds = true) (q : Φ f ds [] = .ok d h') (n : d.nc = true) : callM true Φ f ds h = .ok d h := by
  show callP Φ f ds h = _
  unfold callP pcall
  rw [snaps_nc e]
  simp only [q, n, e, if_true, Bool.true_or]
theorem call_snap {Φ : FS} {f : Nat} {ds ds' : List D} {h h' : CH} {d : D} (e : snaps h ds = some ds') (q : Φ f ds' [] = .ok d h') (n : d.nc = true) (s : d.solid = true) : callM true Φ f ds h = .ok d h := by
  show callP Φ f ds h = _
  unfold callP pcall
  rw [e]
  simp only [q, n, s, if_true, Bool.or_true]
theorem call_heap {Φ : FS} {f : Nat} {ds : List D} {h h' : CH} {d : D} (q : Φ f ds h = .ok d h') : callM false Φ f ds h = .ok d (trunc h.length d h') := by
  show callH Φ f ds h = _
  unfold callH
  rw [q]
theorem trunc_same {n : Nat} {d : D} {h : CH} (e : h.length ≤ n) : trunc n d h = h := by unfold trunc; rw [if_pos e]
/-! ### walks -/
theorem forGo_inv {ck : Ck} {asg : D → Env → Option Env} {f : Env → CH → RS} {fg : List Nat} (I : Nat → Env → CH → Prop) : ∀ (ds : List D) (b : Nat) (env : Env) (h : CH), I b env h → (∀ i env h, i ≤ b + ds.length → I i env h → ckOk ck h = true) →
    (∀ i d env h, ds[i]? = some d → I (b + i) env h → ∃ env1 env2 h2, asg d env = some env1 ∧ f env1 h = .nx env2 h2 ∧ I (b + i + 1) (wipeE env2 fg) h2) → ∃ env' h', forGo ck asg f fg ds env h = .nx env' h' ∧ I (b + ds.length) env' h'
  | [], b, env, h, i0, c, _ => ⟨env, h, by unfold forGo; rw [if_pos (c b env h (Nat.le_refl _) i0)], i0⟩
  | d :: r, b, env, h, i0, c, st => by
    obtain ⟨env1, env2, h2, a1, a2, a3⟩ := st 0 d env h rfl i0
    obtain ⟨env', h', e1, e2⟩ := forGo_inv I r (b + 1) (wipeE env2 fg) h2 a3 (fun i env h hi => c i env h (by simp only [List.length_cons]; omega)) (fun i d env h hd hI => by
      have q := st (i + 1) d env h (by simpa using hd) (by rw [show b + (i + 1) = b + 1 + i by omega]; exact hI)
      rw [show b + (i + 1) + 1 = b + 1 + i + 1 by omega] at q
      exact q)
    refine ⟨env', h', ?_, by rw [show b + (d :: r).length = b + 1 + r.length by simp only [List.length_cons]; omega]; exact e2⟩
    unfold forGo
    rw [if_pos (c b env h (by simp) i0), a1]
    simp only [a2, RS.andThen_nx]
    exact e1
/-- a walk that may end early: every turn goes on or hands back -/
theorem forGo_inv2 {ck : Ck} {asg : D → Env → Option Env} {f : Env → CH → RS} {fg : List Nat} (I : Nat → Env → CH → Prop) (J : RS → Prop) : ∀ (ds : List D) (b : Nat) (env : Env) (h : CH), I b env h → (∀ i env h, i ≤ b + ds.length → I i env h → ckOk ck h = true) →
    (∀ i d env h, ds[i]? = some d → I (b + i) env h → ∃ env1, asg d env = some env1 ∧ ((∃ env2 h2, f env1 h = .nx env2 h2 ∧ I (b + i + 1) (wipeE env2 fg) h2) ∨ ∃ v h2, f env1 h = .rt v h2 ∧ J (.rt v h2))) → (∃ env' h', forGo ck asg f fg ds env h = .nx env' h' ∧ I (b + ds.length) env' h') ∨ ∃ v h', forGo ck asg f fg ds env h = .rt v h' ∧ J (.rt v h')
  | [], b, env, h, i0, c, _ => .inl ⟨env, h, by unfold forGo; rw [if_pos (c b env h (Nat.le_refl _) i0)], i0⟩
  | d :: r, b, env, h, i0, c, st => by
    obtain ⟨env1, a1, ⟨env2, h2, a2, a3⟩ | ⟨v, h2, a2, a3⟩⟩ := st 0 d env h rfl i0
    · have q := forGo_inv2 I J r (b + 1) (wipeE env2 fg) h2 a3 (fun i env h hi => c i env h (by simp only [List.length_cons]; omega)) (fun i d env h hd hI => by
        have q := st (i + 1) d env h (by simpa using hd) (by rw [show b + (i + 1) = b + 1 + i by omega]; exact hI)
        rw [show b + (i + 1) + 1 = b + 1 + i + 1 by omega] at q
        exact q)
      have e0 : forGo ck asg f fg (d :: r) env h = forGo ck asg f fg r (wipeE env2 fg) h2 := by
        conv => lhs; unfold forGo
        rw [if_pos (c b env h (by simp) i0), a1]
        simp only [a2, RS.andThen_nx]
      rw [e0, show b + (d :: r).length = b + 1 + r.length by simp only [List.length_cons]; omega]
      exact q
    · refine .inr ⟨v, h2, ?_, a3⟩
      unfold forGo
      rw [if_pos (c b env h (by simp) i0), a1]
      simp only [a2, RS.andThen_rt]
/-- a comprehension whose turns leave the heap -/
theorem compGo_pure {ck : Ck} {asg : D → Option Env} {test : Env → CH → R Bool} {f : Env → CH → R D} {h : CH} (c : ckOk ck h = true) {p : D → Bool} {F : D → D} : ∀ (ds : List D), (∀ d ∈ ds, ∃ env, asg d = some env ∧ test env h = .ok (p d) h ∧ (p d = true → f env h = .ok (F d) h)) → compGo ck asg test f ds h = .ok ((ds.filter p).map F) h
  | [], _ => by unfold compGo; rw [if_pos c]; rfl
  | d :: r, st => by
    obtain ⟨env, a1, a2, a3⟩ := st d List.mem_cons_self
    have ih := compGo_pure c r fun x hx => st x (List.mem_cons_of_mem _ hx)
    unfold compGo
    rw [if_pos c, a1]
    simp only [a2, R.bnd_ok]
    cases q : p d with
    | false =>
      simp only [List.filter_cons, q, Bool.false_eq_true, if_false]
      exact ih
    | true =>
      simp only [List.filter_cons, q, if_true, a3 q, R.bnd_ok, ih, List.map_cons]
theorem compGo_map {ck : Ck} {asg : D → Option Env} {f : Env → CH → R D} {h : CH} (c : ckOk ck h = true) {F : D → D} (ds : List D) (st : ∀ d ∈ ds, ∃ env, asg d = some env ∧ f env h = .ok (F d) h) : compGo ck asg (fun _ h => .ok true h) f ds h = .ok (ds.map F) h := by
  have := compGo_pure (test := fun _ h => .ok true h) (p := fun _ => true) c (F := F) ds (fun d hd => by
    obtain ⟨env, a, b⟩ := st d hd
    exact ⟨env, a, rfl, fun _ => b⟩)
  rw [this, List.filter_eq_self.2 fun _ _ => rfl]
/-- any comprehension without a test, by its turns -/
theorem compGo_inv {ck : Ck} {asg : D → Option Env} {f : Env → CH → R D} (I : List D → CH → Prop) : ∀ (ds : List D) (done : List D) (h : CH), I done h → (∀ dn h, I dn h → ckOk ck h = true) → (∀ i d dn h, ds[i]? = some d → dn.length = done.length + i → I dn h → ∃ env y h2, asg d = some env ∧ f env h = .ok y h2 ∧ I (dn ++ [y]) h2) →
    ∃ ys h', compGo ck asg (fun _ h => .ok true h) f ds h = .ok ys h' ∧ ys.length = ds.length ∧ I (done ++ ys) h'
  | [], done, h, i0, c, _ => ⟨[], h, by unfold compGo; rw [if_pos (c done h i0)], rfl, by simpa using i0⟩
  | d :: r, done, h, i0, c, st => by
    obtain ⟨env, y, h2, a1, a2, a3⟩ := st 0 d done h rfl (by simp) i0
    obtain ⟨ys, h', e1, e2, e3⟩ := compGo_inv I r (done ++ [y]) h2 a3 c (fun i d dn h hd hl hI => st (i + 1) d dn h (by simpa using hd) (by rw [hl]; simp; omega) hI)
    refine ⟨y :: ys, h', ?_, by simp [e2], by simpa using e3⟩
    unfold compGo
    rw [if_pos (c done h i0), a1]
    simp only [R.bnd_ok, a2, e1]
mutual
theorem beq_refl' : ∀ d : D, d.beq d = true
  | .non => rfl
  | .bl a => by simp [D.beq]
  | .int a => by simp [D.beq]
  | .str a => by simp [D.beq]
  | .tup a => by simp only [D.beq]; exact beqs_refl a
  | .lst a => by simp only [D.beq]; exact beqs_refl a
  | .cell a => by simp [D.beq]
  | .ins c a => by simp only [D.beq, beqs_refl a, beq_self_eq_true, Bool.and_self]
  | .scr a => by simp [D.beq]
  | .typ a => by simp [D.beq]
theorem beqs_refl : ∀ ds : List D, beqs ds ds = true
  | [] => rfl
  | a :: r => by simp only [beqs, beq_refl' a, beqs_refl r, Bool.and_self]
end
@[simp] theorem ck_none (h : CH) : ckOk none h = true := (rfl)
theorem ck_cell {h : CH} {n : Nat} {ds : List D} (e : h[n]? = some (.lst ds)) : ckOk (some (n, ds)) h = true := by
  unfold ckOk
  simp only [e, beqs_refl]
/-! ### data of ints -/
abbrev iL (r : List Int) : List D := r.map .int
abbrev tR (r : List Int) : D := .tup (iL r)
abbrev lR (r : List Int) : D := .lst (iL r)
abbrev tT2 (t : List (List Int)) : D := .tup (t.map tR)
abbrev lL2 (t : List (List Int)) : D := .lst (t.map lR)
abbrev tL2 (t : List (List Int)) : D := .tup (t.map lR)
abbrev lT2 (t : List (List Int)) : D := .lst (t.map tR)
@[simp] theorem ncs_map {α : Type} {f : α → D} (l : List α) (h : ∀ x, (f x).nc = true) : ncs (l.map f) = true := by
  induction l with
  | nil => rfl
  | cons a r ih => simp only [List.map_cons, ncs, h, ih, Bool.and_self]
@[simp] theorem solids_map {α : Type} {f : α → D} (l : List α) (h : ∀ x, (f x).solid = true) : solids (l.map f) = true := by
  induction l with
  | nil => rfl
  | cons a r ih => simp only [List.map_cons, solids, h, ih, Bool.and_self]
@[simp] theorem unds_map {α : Type} {f : α → D} {n : Nat} (l : List α) (h : ∀ x, (f x).und n = true) : unds n (l.map f) = true := by
  induction l with
  | nil => rfl
  | cons a r ih => simp only [List.map_cons, unds, h, ih, Bool.and_self]
theorem nc_int (i : Int) : (D.int i).nc = true := rfl
theorem so_int (i : Int) : (D.int i).solid = true := rfl
@[simp] theorem nc_tR (r : List Int) : (tR r).nc = true := ncs_map r nc_int
@[simp] theorem nc_lR (r : List Int) : (lR r).nc = true := ncs_map r nc_int
@[simp] theorem so_tR (r : List Int) : (tR r).solid = true := solids_map r so_int
@[simp] theorem nc_tT2 (t : List (List Int)) : (tT2 t).nc = true := ncs_map t nc_tR
@[simp] theorem nc_lL2 (t : List (List Int)) : (lL2 t).nc = true := ncs_map t nc_lR
@[simp] theorem nc_lT2 (t : List (List Int)) : (lT2 t).nc = true := ncs_map t nc_tR
@[simp] theorem nc_tL2 (t : List (List Int)) : (tL2 t).nc = true := ncs_map t nc_lR
@[simp] theorem so_tT2 (t : List (List Int)) : (tT2 t).solid = true := solids_map t so_tR
mutual
theorem und_nc : ∀ {d : D} {n : Nat}, d.nc = true → d.und n = true
  | .non, _, _ => rfl
  | .bl _, _, _ => rfl
  | .int _, _, _ => rfl
  | .str _, _, _ => rfl
  | .scr _, _, _ => rfl
  | .typ _, _, _ => rfl
  | .tup ds, n, h => unds_nc (ds := ds) h
  | .lst ds, n, h => unds_nc (ds := ds) h
  | .ins _ ds, n, h => unds_nc (ds := ds) h
  | .cell _, _, h => by cases h
theorem unds_nc : ∀ {ds : List D} {n : Nat}, ncs ds = true → unds n ds = true
  | [], _, _ => rfl
  | d :: ds, n, h => by
    simp only [ncs, Bool.and_eq_true] at h
    simp only [unds, und_nc h.1, unds_nc h.2, Bool.and_self]
end
@[simp] theorem intsOf_map (r : List Int) : intsOf (iL r) = some r := by
  induction r with
  | nil => rfl
  | cons a r ih => simp only [iL, List.map_cons, intsOf]; rw [show intsOf (List.map D.int r) = some r from ih]; rfl
theorem iL_get (r : List Int) (i : Nat) : (iL r)[i]? = (r[i]?).map .int := by simp
end Z

end
section
/-! what values come to -/
namespace Z
open PySem PySem.Spec
mutual
/-- ints, in lists and tuples, at most n deep -/
def pl : Nat → D → Bool
  | _ + 1, .int _ => true
  | _ + 1, .non => true
  | n + 1, .tup ds => pls n ds
  | n + 1, .lst ds => pls n ds
  | _, _ => false
def pls : Nat → List D → Bool
  | _, [] => true
  | n, d :: ds => pl n d && pls n ds
end
mutual
theorem pl_ok : ∀ (n : Nat) (d : D), pl n d = true → ∃ p, toP d = some p ∧ p.depth ≤ n
  | 0, .int _, h => by simp [pl] at h
  | 0, .non, h => by simp [pl] at h
  | 0, .tup _, h => by simp [pl] at h
  | 0, .lst _, h => by simp [pl] at h
  | n + 1, .int i, _ => ⟨.int i, rfl, by simp [PyData.depth]⟩
  | n + 1, .non, _ => ⟨.none, rfl, by simp [PyData.depth]⟩
  | n + 1, .tup ds, h => by
    obtain ⟨ps, e, q⟩ := pls_ok n ds (by simpa [pl] using h)
    exact ⟨.tuple ps, by simp [toP, e], by simp [PyData.depth]; omega⟩
  | n + 1, .lst ds, h => by
    obtain ⟨ps, e, q⟩ := pls_ok n ds (by simpa [pl] using h)
    exact ⟨.list ps, by simp [toP, e], by simp [PyData.depth]; omega⟩
  | 0, .bl _, h => by simp [pl] at h
  | n + 1, .bl _, h => by simp [pl] at h
  | 0, .str _, h => by simp [pl] at h
  | n + 1, .str _, h => by simp [pl] at h
  | 0, .cell _, h => by simp [pl] at h
  | n + 1, .cell _, h => by simp [pl] at h
  | 0, .ins _ _, h => by simp [pl] at h
  | n + 1, .ins _ _, h => by simp [pl] at h
  | 0, .scr _, h => by simp [pl] at h
  | n + 1, .scr _, h => by simp [pl] at h
theorem pls_ok : ∀ (n : Nat) (ds : List D), pls n ds = true → ∃ ps, toPs ds = some ps ∧ PyData.depthAll ps ≤ n
  | n, [], _ => ⟨[], rfl, by simp [PyData.depthAll]⟩
  | n, d :: ds, h => by
    simp only [pls, Bool.and_eq_true] at h
    obtain ⟨p, e, q⟩ := pl_ok n d h.1
    obtain ⟨ps, e2, q2⟩ := pls_ok n ds h.2
    exact ⟨p :: ps, by simp [toPs, e, e2], by simp [PyData.depthAll]; omega⟩
end
mutual
theorem pl_eqv : ∀ (n m : Nat) (d e : D) (p q : PyData), pl n d = true → pl m e = true → toP d = some p → toP e = some q → PyData.eqv p q = d.beq e
  | 0, m, d, e, p, q, h, _, _, _ => by cases d <;> simp [pl] at h
  | n + 1, 0, d, e, p, q, _, h, _, _ => by cases e <;> simp [pl] at h
  | n + 1, m + 1, d, e, p, q, h1, h2, e1, e2 => by
    cases d with
    | int i =>
      simp only [toP, Option.some.injEq] at e1
      subst e1
      cases e with
      | int j => simp only [toP, Option.some.injEq] at e2; subst e2; simp [PyData.eqv, D.beq]
      | non => simp only [toP, Option.some.injEq] at e2; subst e2; simp [PyData.eqv, D.beq]
      | tup fs => simp only [toP, Option.map_eq_some_iff] at e2; obtain ⟨a, _, rfl⟩ := e2; simp [PyData.eqv, D.beq]
      | lst fs => simp only [toP, Option.map_eq_some_iff] at e2; obtain ⟨a, _, rfl⟩ := e2; simp [PyData.eqv, D.beq]
      | _ => simp [pl] at h2
    | non =>
      simp only [toP, Option.some.injEq] at e1
      subst e1
      cases e with
      | int j => simp only [toP, Option.some.injEq] at e2; subst e2; simp [PyData.eqv, D.beq]
      | non => simp only [toP, Option.some.injEq] at e2; subst e2; simp [PyData.eqv, D.beq]
      | tup fs => simp only [toP, Option.map_eq_some_iff] at e2; obtain ⟨a, _, rfl⟩ := e2; simp [PyData.eqv, D.beq]
      | lst fs => simp only [toP, Option.map_eq_some_iff] at e2; obtain ⟨a, _, rfl⟩ := e2; simp [PyData.eqv, D.beq]
      | _ => simp [pl] at h2
    | tup ds =>
      simp only [toP, Option.map_eq_some_iff] at e1
      obtain ⟨ps, e1, rfl⟩ := e1
      cases e with
      | int j => simp only [toP, Option.some.injEq] at e2; subst e2; simp [PyData.eqv, D.beq]
      | non => simp only [toP, Option.some.injEq] at e2; subst e2; simp [PyData.eqv, D.beq]
      | tup fs =>
        simp only [toP, Option.map_eq_some_iff] at e2
        obtain ⟨qs, e2, rfl⟩ := e2
        simp only [PyData.eqv, D.beq]
        exact pls_eqv n m ds fs ps qs (by simpa [pl] using h1) (by simpa [pl] using h2) e1 e2
      | lst fs => simp only [toP, Option.map_eq_some_iff] at e2; obtain ⟨a, _, rfl⟩ := e2; simp [PyData.eqv, D.beq]
      | _ => simp [pl] at h2
    | lst ds =>
      simp only [toP, Option.map_eq_some_iff] at e1
      obtain ⟨ps, e1, rfl⟩ := e1
      cases e with
      | int j => simp only [toP, Option.some.injEq] at e2; subst e2; simp [PyData.eqv, D.beq]
      | non => simp only [toP, Option.some.injEq] at e2; subst e2; simp [PyData.eqv, D.beq]
      | lst fs =>
        simp only [toP, Option.map_eq_some_iff] at e2
        obtain ⟨qs, e2, rfl⟩ := e2
        simp only [PyData.eqv, D.beq]
        exact pls_eqv n m ds fs ps qs (by simpa [pl] using h1) (by simpa [pl] using h2) e1 e2
      | tup fs => simp only [toP, Option.map_eq_some_iff] at e2; obtain ⟨a, _, rfl⟩ := e2; simp [PyData.eqv, D.beq]
      | _ => simp [pl] at h2
    | _ => simp [pl] at h1
theorem pls_eqv : ∀ (n m : Nat) (ds es : List D) (ps qs : List PyData), pls n ds = true → pls m es = true → toPs ds = some ps → toPs es = some qs → PyData.eqvAll ps qs = beqs ds es
  | n, m, [], [], ps, qs, _, _, e1, e2 => by simp [toPs] at e1 e2; subst e1 e2; rfl
  | n, m, [], e :: es, ps, qs, _, h2, e1, e2 => by
    simp only [pls, Bool.and_eq_true] at h2
    obtain ⟨q, e3, _⟩ := pl_ok m e h2.1
    obtain ⟨qs', e4, _⟩ := pls_ok m es h2.2
    simp only [toPs, e3, e4, Option.some.injEq] at e1 e2
    subst e1 e2; rfl
  | n, m, d :: ds, [], ps, qs, h1, _, e1, e2 => by
    simp only [pls, Bool.and_eq_true] at h1
    obtain ⟨q, e3, _⟩ := pl_ok n d h1.1
    obtain ⟨qs', e4, _⟩ := pls_ok n ds h1.2
    simp only [toPs, e3, e4, Option.some.injEq] at e1 e2
    subst e1 e2; rfl
  | n, m, d :: ds, e :: es, ps, qs, h1, h2, e1, e2 => by
    simp only [pls, Bool.and_eq_true] at h1 h2
    obtain ⟨q, e3, _⟩ := pl_ok n d h1.1
    obtain ⟨qs', e4, _⟩ := pls_ok n ds h1.2
    obtain ⟨q2, e5, _⟩ := pl_ok m e h2.1
    obtain ⟨qs2, e6, _⟩ := pls_ok m es h2.2
    simp only [toPs, e3, e4, e5, e6, Option.some.injEq] at e1 e2
    subst e1 e2
    simp only [PyData.eqvAll, beqs, pl_eqv n m d e q q2 h1.1 h2.1 e3 e5, pls_eqv n m ds es qs' qs2 h1.2 h2.2 e4 e6]
end
theorem eqP_pl {d e : D} {n m : Nat} (h1 : pl n d = true) (h2 : pl m e = true) (hn : n ≤ 64) (hm : m ≤ 64) : eqP d e = some (d.beq e) := by
  obtain ⟨p, e1, q1⟩ := pl_ok n d h1
  obtain ⟨q, e2, q2⟩ := pl_ok m e h2
  unfold eqP
  rw [e1, e2]
  simp only
  rw [if_pos ⟨by omega, by omega⟩, pl_eqv n m d e p q h1 h2 e1 e2]
theorem pls_map {α : Type} {f : α → D} {n : Nat} (l : List α) (h : ∀ x, pl n (f x) = true) : pls n (l.map f) = true := by
  induction l with
  | nil => rfl
  | cons a r ih => simp only [List.map_cons, pls, h, ih, Bool.and_self]
theorem pl_tR (r : List Int) : pl 2 (tR r) = true := by show pls 1 _ = true; exact pls_map r fun _ => rfl
theorem pl_lR (r : List Int) : pl 2 (lR r) = true := by show pls 1 _ = true; exact pls_map r fun _ => rfl
theorem pl_tT2 (t : List (List Int)) : pl 3 (tT2 t) = true := by show pls 2 _ = true; exact pls_map t pl_tR
theorem pl_lT2 (t : List (List Int)) : pl 3 (lT2 t) = true := by show pls 2 _ = true; exact pls_map t pl_tR
theorem pl_lL2 (t : List (List Int)) : pl 3 (lL2 t) = true := by show pls 2 _ = true; exact pls_map t pl_lR
section
variable {h : CH}
theorem snap_nc {d : D} (e : d.nc = true) : snap h d = some d := by unfold snap; rw [if_pos e]
theorem eq_pl {d e d' e' : D} {n m : Nat} (s1 : snap h d = some d') (s2 : snap h e = some e') (h1 : pl n d' = true) (h2 : pl m e' = true) (hn : n ≤ 64 := by decide) (hm : m ≤ 64 := by decide) : cmpD .eq d e h = .ok (.bl (d'.beq e')) h := by
  unfold cmpD
  simp only [s1, s2, eqP_pl h1 h2 hn hm]
theorem ne_pl {d e d' e' : D} {n m : Nat} (s1 : snap h d = some d') (s2 : snap h e = some e') (h1 : pl n d' = true) (h2 : pl m e' = true) (hn : n ≤ 64 := by decide) (hm : m ≤ 64 := by decide) : cmpD .ne d e h = .ok (.bl (!d'.beq e')) h := by
  unfold cmpD
  simp only [s1, s2, eqP_pl h1 h2 hn hm]
@[simp] theorem eq_int (i j : Int) : cmpD .eq (.int i) (.int j) h = .ok (.bl (decide (i = j))) h := by
  rw [eq_pl (n := 1) (m := 1) (snap_nc rfl) (snap_nc rfl) rfl rfl]
  congr 2
@[simp] theorem ne_int (i j : Int) : cmpD .ne (.int i) (.int j) h = .ok (.bl (!decide (i = j))) h := by
  rw [ne_pl (n := 1) (m := 1) (snap_nc rfl) (snap_nc rfl) rfl rfl]
  congr 2
@[simp] theorem lt_int (i j : Int) : cmpD .lt (.int i) (.int j) h = .ok (.bl (decide (i < j))) h := (rfl)
@[simp] theorem le_int (i j : Int) : cmpD .le (.int i) (.int j) h = .ok (.bl (decide (i ≤ j))) h := (rfl)
@[simp] theorem gt_int (i j : Int) : cmpD .gt (.int i) (.int j) h = .ok (.bl (decide (j < i))) h := (rfl)
@[simp] theorem ge_int (i j : Int) : cmpD .ge (.int i) (.int j) h = .ok (.bl (decide (j ≤ i))) h := (rfl)
@[simp] theorem is_non : cmpD .is .non .non h = .ok (.bl true) h := (rfl)
@[simp] theorem isn_non : cmpD .isn .non .non h = .ok (.bl false) h := (rfl)
theorem beq_iff {d e : D} : d.beq e = true ↔ d = e := by
  constructor
  · exact fun h => beqD_eq h
  · rintro rfl; exact beq_refl' d
where
  beqD_eq : ∀ {a b : D}, a.beq b = true → a = b
  | .non, .non, _ => rfl
  | .bl a, .bl b, h => by simp [D.beq] at h; rw [h]
  | .int a, .int b, h => by simp [D.beq] at h; rw [h]
  | .str a, .str b, h => by simp [D.beq] at h; rw [h]
  | .tup a, .tup b, h => by simp only [D.beq] at h; rw [beqsD_eq h]
  | .lst a, .lst b, h => by simp only [D.beq] at h; rw [beqsD_eq h]
  | .cell a, .cell b, h => by simp [D.beq] at h; rw [h]
  | .ins c a, .ins k b, h => by simp only [D.beq, Bool.and_eq_true, beq_iff_eq] at h; rw [h.1, beqsD_eq h.2]
  | .scr a, .scr b, h => by simp [D.beq] at h; rw [h]
  | .typ a, .typ b, h => by simp [D.beq] at h; rw [h]
  beqsD_eq : ∀ {a b : List D}, beqs a b = true → a = b
  | [], [], _ => rfl
  | a :: r, b :: s, h => by
    simp only [beqs, Bool.and_eq_true] at h
    rw [beqD_eq h.1, beqsD_eq h.2]
theorem beq_dec (d e : D) [Decidable (d = e)] : d.beq e = decide (d = e) := by
  by_cases q : d = e
  · rw [decide_eq_true q]; exact beq_iff.2 q
  · rw [decide_eq_false q]
    cases z : d.beq e with
    | false => rfl
    | true => exact absurd (beq_iff.1 z) q
@[simp] theorem add_int (m : Bool) (i j : Int) : binD .add m (.int i) (.int j) h = .ok (.int (i + j)) h := (rfl)
@[simp] theorem sub_int (m : Bool) (i j : Int) : binD .sub m (.int i) (.int j) h = .ok (.int (i - j)) h := (rfl)
theorem mul_ok {m : Bool} {i j : Int} (q : mulOk i j = true) : binD .mul m (.int i) (.int j) h = .ok (.int (i * j)) h := by
  show (if mulOk i j then R.ok (D.int (i * j)) h else .no) = _
  rw [if_pos q]
theorem mulOk_l {i j : Int} (h1 : -(2 ^ 64) < i) (h2 : i < 2 ^ 64) : mulOk i j = true := by
  unfold mulOk
  rw [decide_eq_true ⟨h1, h2⟩, Bool.true_or]
theorem mulOk_r {i j : Int} (h1 : -(2 ^ 64) < j) (h2 : j < 2 ^ 64) : mulOk i j = true := by
  unfold mulOk
  rw [decide_eq_true (p := -(2 ^ 64) < j ∧ j < 2 ^ 64) ⟨h1, h2⟩, Bool.true_or, Bool.or_true]
theorem mod_ok {m : Bool} {i j : Int} (q : 0 < j) : binD .mod m (.int i) (.int j) h = .ok (.int (i % j)) h := by
  show (if 0 < j then R.ok (D.int (i % j)) h else .no) = _
  rw [if_pos q]
theorem add_lst {m : Bool} {x y : D} {xs ys : List D} (hx : lstOf h x = some xs) (hy : lstOf h y = some ys) (hl : xs.length + ys.length ≤ SZ) : binD .add m x y h = newL m (xs ++ ys) h := by
  cases x <;> cases y <;> simp_all [binD, lstOf]
@[simp] theorem add_tup (m : Bool) (xs ys : List D) : binD .add m (.tup xs) (.tup ys) h = if xs.length + ys.length ≤ SZ then .ok (.tup (xs ++ ys)) h else .no := (rfl)
theorem len_ok {m : Bool} {x : D} {ds : List D} (e : items h x = some ds) : biD .len m [x] h = .ok (.int ds.length) h := by simp only [biD, one1, e]
theorem sum_ok {m : Bool} {x : D} {r : List Int} (e : items h x = some (iL r)) : biD .sum m [x] h = .ok (.int r.sum) h := by simp only [biD, one1, intsIn, e, intsOf_map]
theorem min_ok {m : Bool} {x : D} {r : List Int} (e : lstOf h x = some (iL r)) (hr : r ≠ []) : biD .min m [x] h = .ok (.int (minL r)) h := by
  simp only [biD, one1, intsL, e, intsOf_map]
  cases r with
  | nil => exact absurd rfl hr
  | cons a r => rfl
theorem max_ok {m : Bool} {x : D} {r : List Int} (e : lstOf h x = some (iL r)) (hr : r ≠ []) : biD .max m [x] h = .ok (.int (maxL r)) h := by
  simp only [biD, one1, intsL, e, intsOf_map]
  cases r with
  | nil => exact absurd rfl hr
  | cons a r => rfl
theorem list_ok {m : Bool} {x : D} {ds : List D} (e : items h x = some ds) : biD .list m [x] h = newL m ds h := by simp only [biD, one1, e]
theorem tuple_ok {m : Bool} {x : D} {ds : List D} (e : items h x = some ds) : biD .tuple m [x] h = .ok (.tup ds) h := by simp only [biD, one1, e]
@[simp] theorem int_ok (m : Bool) (i : Int) : biD .int m [.int i] h = .ok (.int i) h := (rfl)
theorem blsOf_map (r : List Bool) : blsOf (r.map .bl) = some r := by
  induction r with
  | nil => rfl
  | cons a r ih => simp only [List.map_cons, blsOf, ih]; rfl
theorem any_ok {m : Bool} {x : D} {r : List Bool} (e : lstOf h x = some (r.map .bl)) : biD .any m [x] h = .ok (.bl (r.any id)) h := by simp only [biD, one1, blsL, e, blsOf_map]
theorem ix_ok {x : D} {ds : List D} {k : Nat} {d : D} (e : items h x = some ds) (q : ds[k]? = some d) : ixV x (.int k) h = .ok d h := by
  unfold ixV
  simp only [e, ixD]
  rw [if_pos (by omega), show ((k : Nat) : Int).toNat = k by omega, q]
theorem ix_int {x : D} {ds : List D} {k : Int} {d : D} (e : items h x = some ds) (h0 : 0 ≤ k) (q : ds[k.toNat]? = some d) : ixV x (.int k) h = .ok d h := by
  unfold ixV
  simp only [e, ixD]
  rw [if_pos h0, q]
theorem ix_last {x : D} {ds : List D} {d : D} (e : items h x = some (ds ++ [d])) : ixV x (.int (-1)) h = .ok d h := by
  unfold ixV
  simp only [e, ixD]
  rw [if_neg (by decide), if_pos (by simp; omega)]
  have : ((-1 : Int) + ((ds ++ [d]).length : Int)).toNat = ds.length := by simp; omega
  rw [this]
  simp
end
end Z

end
section
namespace Z
theorem forGo_to {ck : Ck} {asg : D → Env → Option Env} {f : Env → CH → RS} {fg : List Nat} {C : RS → Prop} (I : Nat → Env → CH → Prop) {ds : List D} {env : Env} {h : CH} (i0 : I 0 env h) (c : ∀ i env h, i ≤ ds.length → I i env h → ckOk ck h = true)
    (st : ∀ i d env h, ds[i]? = some d → I i env h → ∃ env1 env2 h2, asg d env = some env1 ∧ f env1 h = .nx env2 h2 ∧ I (i + 1) (wipeE env2 fg) h2) (go : ∀ env' h', I ds.length env' h' → C (.nx env' h')) : C (forGo ck asg f fg ds env h) := by
  obtain ⟨env', h', e1, e2⟩ := forGo_inv (ck := ck) (asg := asg) (f := f) (fg := fg) I ds 0 env h i0 (fun i env h hi => c i env h (by omega)) (fun i d env h hd hI => by
    rw [Nat.zero_add] at hI ⊢
    exact st i d env h hd hI)
  rw [e1]
  rw [Nat.zero_add] at e2
  exact go env' h' e2
def oT (o : Option Env) (P : Env → Prop) : Prop := ∃ e, o = some e ∧ P e
@[simp] theorem oT_some (e : Env) (P : Env → Prop) : oT (some e) P ↔ P e := ⟨fun ⟨_, a, b⟩ => by cases a; exact b, fun h => ⟨e, rfl, h⟩⟩
def nT (r : RS) (P : Env → CH → Prop) : Prop := ∃ e h, r = .nx e h ∧ P e h
@[simp] theorem nT_nx (e : Env) (h : CH) (P : Env → CH → Prop) : nT (.nx e h) P ↔ P e h := ⟨fun ⟨_, _, a, b⟩ => by cases a; exact b, fun q => ⟨e, h, rfl, q⟩⟩
@[simp] theorem asg_nm (i : Nat) (d : D) (env : Env) : asgTg (.nm i) d env = some (env.set i (some d)) := (rfl)
@[simp] theorem asg_tp (ts : List Nat) (ds : List D) (env : Env) : asgTg (.tp ts) (.tup ds) env = if ds.length = ts.length then some (setAll ts ds env) else none := (rfl)
/-- over numbers -/
theorem forGo_rng {ck : Ck} {asg : D → Env → Option Env} {f : Env → CH → RS} {fg : List Nat} {C : RS → Prop} {n : Nat} {g : Nat → D} (I : Nat → Env → CH → Prop) {env : Env} {h : CH} (i0 : I 0 env h) (c : ∀ i env h, i ≤ n → I i env h → ckOk ck h = true)
    (st : ∀ i env h, i < n → I i env h → oT (asg (g i) env) fun env1 => nT (f env1 h) fun env2 h2 => I (i + 1) (wipeE env2 fg) h2) (go : ∀ env' h', I n env' h' → C (.nx env' h')) : C (forGo ck asg f fg ((List.range n).map g) env h) :=
  forGo_to I i0 (fun i env h hi => c i env h (by simpa using hi)) (fun i d env h hd hI => by
    have lt : i < n := by
      rcases Nat.lt_or_ge i n with z | z
      · exact z
      · rw [List.getElem?_eq_none (by simpa using z)] at hd; cases hd
    rw [List.getElem?_map, List.getElem?_range lt] at hd
    cases hd
    obtain ⟨env1, a, env2, h2, b, c⟩ := st i env h lt hI
    exact ⟨env1, env2, h2, a, b, c⟩) fun env' h' e => go env' h' (by simpa using e)
/-- a walk that changes nothing -/
theorem forGo_same {ck : Ck} {asg : D → Env → Option Env} {f : Env → CH → RS} {fg : List Nat} {n : Nat} {g : Nat → D} {env0 : Env} {h : CH} (c : ckOk ck h = true)
    (st : ∀ i, i < n → oT (asg (g i) env0) fun env1 => nT (f env1 h) fun env2 h2 => h2 = h ∧ wipeE env2 fg = env0) : forGo ck asg f fg ((List.range n).map g) env0 h = .nx env0 h :=
  forGo_rng (C := fun r => r = .nx env0 h) (fun _ env h' => env = env0 ∧ h' = h) ⟨rfl, rfl⟩ (fun i env h' _ e => by rw [e.2]; exact c) (fun i env h' hi e => by
    obtain ⟨rfl, rfl⟩ := e
    obtain ⟨env1, a, env2, h2, b, rfl, c2⟩ := st i hi
    exact ⟨env1, a, env2, _, b, c2, rfl⟩) fun env' h' e => by rw [e.1, e.2]
theorem comp_rng {ck : Ck} {asg : D → Option Env} {f : Env → CH → R D} {h : CH} {n : Nat} {g : Nat → D} (c : ckOk ck h = true) (G : Nat → D) (st : ∀ i, i < n → oT (asg (g i)) fun env => f env h = .ok (G i) h) : compGo ck asg (fun _ h => .ok true h) f ((List.range n).map g) h = .ok ((List.range n).map G) h := by
  obtain ⟨ys, h', e1, e2, e3⟩ := compGo_inv (ck := ck) (asg := asg) (f := f) (fun dn hh => hh = h ∧ dn = (List.range dn.length).map G) ((List.range n).map g) [] h ⟨rfl, rfl⟩ (fun dn hh e => by rw [e.1]; exact c) (fun i d dn hh hd hl e => by
    have lt : i < n := by
      rcases Nat.lt_or_ge i n with z | z
      · exact z
      · rw [List.getElem?_eq_none (by simpa using z)] at hd; cases hd
    rw [List.getElem?_map, List.getElem?_range lt] at hd
    cases hd
    obtain ⟨env, a, b⟩ := st i lt
    obtain ⟨rfl, e2⟩ := e
    refine ⟨env, G i, hh, a, b, rfl, ?_⟩
    have : dn.length = i := by simpa using hl
    rw [List.length_append, List.length_singleton, List.range_succ, List.map_append, ← e2, this]
    rfl)
  rw [e1]
  obtain ⟨rfl, e3⟩ := e3
  simp only [List.nil_append] at e3
  rw [e3]
  have : ys.length = n := by simpa using e2
  rw [this]
@[simp] theorem evC_none_fun (Φ : FS) : (fun en => evC Φ .none en) = fun _ h => .ok true h := by
  funext en h
  simp
variable {h : CH} {k : Nat}
/-- a list or a tuple -/
def W (b : Bool) (ds : List D) : D := if b then .tup ds else .lst ds
@[simp] theorem items_W (b : Bool) (ds : List D) : items h (W b ds) = some ds := by cases b <;> rfl
theorem nc_W (b : Bool) {ds : List D} (e : ncs ds = true) : (W b ds).nc = true := by cases b <;> exact e
@[simp] theorem ck_W (b : Bool) (ds es : List D) : ckOf (W b ds) es = none := by cases b <;> rfl
/-! ### tables of a function -/
abbrev F2 := Nat → Nat → Int
def rowF (n : Nat) (f : F2) (i : Nat) : List Int := (List.range n).map (f i)
def mat (n : Nat) (f : F2) : List (List Int) := (List.range n).map (rowF n f)
def Skew (n : Nat) (f : F2) : Prop := ∀ i j, i < n → j < n → f i j = - f j i
/-- how a table is written -/
def tabD (a b : Bool) (n : Nat) (f : F2) : D := W a ((List.range n).map fun i => W b (iL (rowF n f i)))
theorem tab_tt (n : Nat) (f : F2) : tabD true true n f = tT2 (mat n f) := by simp [tabD, W, mat]
theorem tab_ff (n : Nat) (f : F2) : tabD false false n f = lL2 (mat n f) := by simp [tabD, W, mat]
theorem ncs_iL (r : List Int) : ncs (iL r) = true := ncs_map r nc_int
theorem nc_tab (a b : Bool) (n : Nat) (f : F2) : (tabD a b n f).nc = true := nc_W a (ncs_map _ fun i => nc_W b (ncs_iL _))
theorem range_get {n i : Nat} (h : i < n) : (List.range n)[i]? = some i := List.getElem?_range h
theorem rng_map_get {α : Type} {n i : Nat} (g : Nat → α) (h : i < n) : ((List.range n).map g)[i]? = some (g i) := by rw [List.getElem?_map, range_get h]; rfl
theorem rowF_get {n : Nat} {f : F2} {i j : Nat} (h : j < n) : (iL (rowF n f i))[j]? = some (.int (f i j)) := by
  unfold iL rowF
  rw [List.map_map]
  exact rng_map_get _ h
theorem len_rowF (n : Nat) (f : F2) (i : Nat) : (rowF n f i).length = n := by simp [rowF]
/-- x[i][j] of a table -/
theorem tab_row {a b : Bool} {n : Nat} {f : F2} {i : Nat} (hi : i < n) : ixV (tabD a b n f) (.int i) h = .ok (W b (iL (rowF n f i))) h := ix_ok (items_W _ _) (rng_map_get _ hi)
theorem row_at {b : Bool} {n : Nat} {f : F2} {i j : Nat} (hj : j < n) : ixV (W b (iL (rowF n f i))) (.int j) h = .ok (.int (f i j)) h := ix_ok (items_W _ _) (rowF_get hj)
theorem it_rng1 {n : Nat} (e : n < 1000000) : itD .rng1 [.int (n : Nat)] h = .ok ((List.range n).map (fun i : Nat => D.int i), none) h := by
  have : rngOk (n : Nat) = true := by unfold rngOk; exact decide_eq_true ⟨by omega, by omega⟩
  show (if rngOk (n : Nat) then R.ok (rngL 0 ((n : Nat) : Int).toNat, (none : Ck)) h else .no) = _
  rw [if_pos this]
  simp [rngL]
@[simp] theorem items_tab (a b : Bool) (n : Nat) (f : F2) : items h (tabD a b n f) = some ((List.range n).map fun i => W b (iL (rowF n f i))) := items_W _ _
@[simp] theorem ck_tab (a b : Bool) (n : Nat) (f : F2) (es : List D) : ckOf (tabD a b n f) es = none := ck_W _ _ _
@[simp] theorem len_tab {m : Bool} (a b : Bool) (n : Nat) (f : F2) : biD .len m [tabD a b n f] h = .ok (.int (n : Nat)) h := by
  rw [len_ok (items_tab _ _ _ _)]
  simp
@[simp] theorem len_row {m : Bool} (b : Bool) (n : Nat) (f : F2) (i : Nat) : biD .len m [W b (iL (rowF n f i))] h = .ok (.int (n : Nat)) h := by
  rw [len_ok (items_W _ _)]
  simp [len_rowF]
@[simp] theorem itR_tab (a b : Bool) (n : Nat) (f : F2) : itR (tabD a b n f) h = .ok ((List.range n).map (fun i => W b (iL (rowF n f i))), none) h := by rw [itR_of (items_tab _ _ _ _), ck_tab]
end Z

end
section
/-! tables in cells -/
namespace Z
theorem forGo_list {α : Type} {ck : Ck} {asg : D → Env → Option Env} {f : Env → CH → RS} {fg : List Nat} {C : RS → Prop} {l : List α} {g : α → D} (I : Nat → Env → CH → Prop) {env : Env} {h : CH} (i0 : I 0 env h) (c : ∀ i env h, i ≤ l.length → I i env h → ckOk ck h = true)
    (st : ∀ i x env h, l[i]? = some x → I i env h → oT (asg (g x) env) fun env1 => nT (f env1 h) fun env2 h2 => I (i + 1) (wipeE env2 fg) h2) (go : ∀ env' h', I l.length env' h' → C (.nx env' h')) : C (forGo ck asg f fg (l.map g) env h) :=
  forGo_to I i0 (fun i env h hi => c i env h (by simpa using hi)) (fun i d env h hd hI => by
    rw [List.getElem?_map] at hd
    cases q : l[i]? with
    | none => rw [q] at hd; cases hd
    | some x =>
      rw [q] at hd
      cases hd
      obtain ⟨env1, a, env2, h2, b, c⟩ := st i x env h q hI
      exact ⟨env1, env2, h2, a, b, c⟩) fun env' h' e => go env' h' (by simpa using e)
/-- f with one entry set -/
def stF (f : F2) (i j : Nat) (v : Int) : F2 := fun a b => if a = i ∧ b = j then v else f a b
structure Mx (h : CH) (m : Nat) (cs : Nat → Nat) (n : Nat) (f : F2) : Prop where
  top : h[m]? = some (.lst ((List.range n).map fun i => .cell (cs i)))
  row : ∀ i, i < n → h[cs i]? = some (.lst (iL (rowF n f i)))
  inj : ∀ i j, i < n → j < n → cs i = cs j → i = j
  out : ∀ i, i < n → cs i ≠ m
variable {h h' : CH} {m n : Nat} {cs : Nat → Nat} {f : F2}
theorem Mx.at_row (M : Mx h m cs n f) {i : Nat} (hi : i < n) : ixV (.cell m) (.int i) h = .ok (.cell (cs i)) h := ix_ok (ds := (List.range n).map fun i => .cell (cs i)) (by simp only [items, M.top]) (rng_map_get _ hi)
theorem Mx.at_ (M : Mx h m cs n f) {i j : Nat} (hi : i < n) (hj : j < n) : ixV (.cell (cs i)) (.int j) h = .ok (.int (f i j)) h := ix_ok (ds := iL (rowF n f i)) (by simp only [items, M.row i hi]) (rowF_get hj)
theorem rowF_set {i j : Nat} (v : Int) (hj : j < n) : (iL (rowF n f i)).set j (.int v) = iL (rowF n (stF f i j v) i) := by
  apply List.ext_getElem?
  intro k
  by_cases hk : k < n
  · rw [rowF_get hk]
    by_cases e : j = k
    · subst e
      rw [List.getElem?_set_self (by simp [len_rowF]; exact hk)]
      simp [stF]
    · rw [List.getElem?_set_ne e, rowF_get hk]
      have : ¬ k = j := fun z => e z.symm
      simp [stF, this]
  · rw [List.getElem?_eq_none (by simp [len_rowF]; omega), List.getElem?_eq_none (by simp [len_rowF]; omega)]
theorem rowF_other {i a j : Nat} (v : Int) (e : a ≠ i) : rowF n (stF f i j v) a = rowF n f a := by
  unfold rowF
  apply List.map_congr_left
  intro b _
  simp [stF, e]
/-- what a store leaves -/
structure FrM (h h' : CH) (cs : Nat → Nat) (n : Nat) : Prop where
  len : h'.length = h.length
  oth : ∀ x, (∀ i, i < n → x ≠ cs i) → h'[x]? = h[x]?
theorem FrM.refl : FrM h h cs n := ⟨rfl, fun _ _ => rfl⟩
theorem FrM.trans {h2 : CH} (a : FrM h h' cs n) (b : FrM h' h2 cs n) : FrM h h2 cs n := ⟨b.len.trans a.len, fun x q => (b.oth x q).trans (a.oth x q)⟩
theorem Mx.put (M : Mx h m cs n f) {i j : Nat} (v : Int) (hi : i < n) (hj : j < n) : ∃ h', setV (.cell (cs i)) (.int j) (.int v) h = some h' ∧ Mx h' m cs n (stF f i j v) ∧ FrM h h' cs n := by
  have lt : cs i < h.length := by
    rcases Nat.lt_or_ge (cs i) h.length with z | z
    · exact z
    · have := M.row i hi
      rw [List.getElem?_eq_none z] at this; cases this
  refine ⟨h.set (cs i) (.lst (iL (rowF n (stF f i j v) i))), ?_, ⟨?_, fun a ha => ?_, M.inj, M.out⟩, ⟨by simp, fun x hx => by rw [List.getElem?_set_ne (fun e => hx i hi e.symm)]⟩⟩
  · unfold setV
    simp only [M.row i hi]
    rw [if_pos (by omega), if_pos (by simp [len_rowF]; exact hj), ← rowF_set v hj]
    simp
  · rw [List.getElem?_set_ne (M.out i hi)]; exact M.top
  · by_cases e : i = a
    · subst e
      rw [List.getElem?_set_self lt]
    · rw [List.getElem?_set_ne (fun z => e (M.inj i a hi ha z)), rowF_other v (fun z => e z.symm)]
      exact M.row a ha
theorem mapM_map {α β γ : Type} {F : β → Option γ} {g : α → β} {G : α → γ} : ∀ (l : List α), (∀ x ∈ l, F (g x) = some (G x)) → (l.map g).mapM F = some (l.map G)
  | [], _ => rfl
  | a :: r, h => by
    rw [List.map_cons, List.mapM_cons, h a List.mem_cons_self, mapM_map r fun x hx => h x (List.mem_cons_of_mem _ hx)]
    rfl
theorem snapF_ints (k : Nat) (r : List Int) : (iL r).mapM (snapF h (k + 1)) = some (iL r) := mapM_map (F := snapF h (k + 1)) (g := D.int) (G := D.int) r fun x _ => rfl
theorem Mx.snapF (M : Mx h m cs n f) (k : Nat) : snapF h (k + 3) (.cell m) = some (tabD false false n f) := by
  rw [snapF_cell (k + 2) M.top]
  rw [mapM_map (F := Z.snapF h (k + 2)) (g := fun i => D.cell (cs i)) (G := fun i => W false (iL (rowF n f i))) (List.range n) fun i hi => by
    rw [snapF_cell (k + 1) (M.row i (List.mem_range.1 hi)), snapF_ints]
    rfl]
  rfl
theorem Mx.snap (M : Mx h m cs n f) : snap h (.cell m) = some (tabD false false n f) := by
  unfold Z.snap
  rw [if_neg (by simp [D.nc])]
  exact M.snapF 3
/-- rows laid as new cells -/
theorem comp_cells {ck : Ck} {asg : D → Option Env} {F : Env → CH → R D} {g : Nat → D} {G : Nat → Cell} (c : ∀ l : CH, ckOk ck (h ++ l) = true) (st : ∀ i l, i < n → l.length = i → oT (asg (g i)) fun env => F env (h ++ l) = .ok (.cell (h ++ l).length) ((h ++ l) ++ [G i])) :
    compGo ck asg (fun _ h => .ok true h) F ((List.range n).map g) h = .ok ((List.range n).map fun i => .cell (h.length + i)) (h ++ (List.range n).map G) := by
  obtain ⟨ys, h', e1, e2, e3⟩ := compGo_inv (ck := ck) (asg := asg) (f := F) (fun dn hh => hh = h ++ (List.range dn.length).map G ∧ dn = (List.range dn.length).map fun i => .cell (h.length + i)) ((List.range n).map g) [] h ⟨by simp, rfl⟩ (fun dn hh e => by rw [e.1]; exact c _) (fun i d dn hh hd hl e => by
    have lt : i < n := by
      rcases Nat.lt_or_ge i n with z | z
      · exact z
      · rw [List.getElem?_eq_none (by simpa using z)] at hd; cases hd
    rw [List.getElem?_map, List.getElem?_range lt] at hd
    cases hd
    have hl : dn.length = i := by simpa using hl
    obtain ⟨rfl, e2⟩ := e
    obtain ⟨env, a, b⟩ := st i ((List.range dn.length).map G) lt (by simpa using hl)
    refine ⟨env, _, _, a, b, ?_, ?_⟩
    · rw [List.length_append, List.length_singleton, List.range_succ, List.map_append, hl, List.append_assoc]; rfl
    · have e5 : (dn ++ [D.cell (h ++ List.map G (List.range dn.length)).length]).length = dn.length + 1 := by simp
      rw [e5, List.range_succ, List.map_append, ← e2]
      simp)
  rw [e1]
  have hy : ys.length = n := by simpa using e2
  obtain ⟨rfl, e3⟩ := e3
  simp only [List.nil_append] at e3 ⊢
  rw [hy] at e3 ⊢
  rw [e3]
theorem Mx.new (h : CH) (n : Nat) (f : F2) : Mx (h ++ (List.range n).map (fun i => Cell.lst (iL (rowF n f i))) ++ [.lst ((List.range n).map fun i => .cell (h.length + i))]) (h.length + n) (fun i => h.length + i) n f where
  top := by
    rw [List.getElem?_append_right (by simp)]
    simp
  row := fun i hi => by
    rw [List.getElem?_append_left (by simp; omega), List.getElem?_append_right (by simp)]
    simp [hi]
  inj := fun i j _ _ e => by
    have : h.length + i = h.length + j := e
    omega
  out := fun i hi e => by
    have : h.length + i = h.length + n := e
    omega
/-! ### sequences of numbers -/
theorem list_rng {α : Type} (c : List Nat) (g : Nat → α) : c.map g = (List.range c.length).map fun i => g (c[i]?.getD 0) := by
  apply List.ext_getElem?
  intro i
  by_cases hi : i < c.length
  · rw [rng_map_get _ hi, List.getElem?_map, List.getElem?_eq_getElem hi]; rfl
  · rw [List.getElem?_eq_none (by simp; omega), List.getElem?_eq_none (by simp; omega)]
theorem enum_get' : ∀ (ds : List D) (k i : Nat), (enumFrom k ds)[i]? = (ds[i]?).map fun x => D.tup [.int ((k + i : Nat) : Int), x]
  | [], k, i => by simp [enumFrom]
  | y :: r, k, 0 => by simp [enumFrom]
  | y :: r, k, i + 1 => by
    rw [enumFrom, List.getElem?_cons_succ, List.getElem?_cons_succ, enum_get' r (k + 1) i, show k + 1 + i = k + (i + 1) by omega]
theorem enum_rng (n : Nat) (g : Nat → D) : enumFrom 0 ((List.range n).map g) = (List.range n).map fun i : Nat => D.tup [.int i, g i] := by
  apply List.ext_getElem?
  intro i
  rw [enum_get']
  by_cases hi : i < n
  · rw [rng_map_get _ hi, rng_map_get _ hi]; simp
  · rw [List.getElem?_eq_none (by simp; omega), List.getElem?_eq_none (by simp; omega)]; rfl
theorem it_enum {x : D} {ds : List D} (e : items h x = some ds) (ns : ∀ l, x ≠ .scr l) : itD .enum [x] h = .ok (enumFrom 0 ds, ckOf x ds) h := by
  simp only [itD, e]
  cases x with
  | scr l => exact absurd rfl (ns l)
  | _ => rfl
theorem W_ns (b : Bool) (ds : List D) (l : List Int) : W b ds ≠ .scr l := by cases b <;> intro e <;> cases e
theorem slice_to (ds : List D) (k : Nat) : sliceD ds none (some (k : Nat)) = ds.take k := by
  unfold sliceD
  rw [HT.sIx_none, HT.sIx_nat, List.drop_zero, Nat.sub_zero]
  by_cases e : k ≤ ds.length
  · rw [Nat.min_eq_left e]
  · rw [Nat.min_eq_right (by omega), List.take_length, List.take_of_length_le (by omega)]
theorem slice_from (ds : List D) (k : Nat) : sliceD ds (some (k : Nat)) none = ds.drop k := by
  unfold sliceD
  rw [HT.sIx_none, HT.sIx_nat]
  by_cases e : k ≤ ds.length
  · rw [Nat.min_eq_left e, List.take_of_length_le (by simp)]
  · rw [Nat.min_eq_right (by omega), List.drop_length, List.drop_of_length_le (by omega), List.take_nil]
theorem memD_iN (x : Nat) (c : List Nat) : memD (.int x) (c.map fun x : Nat => D.int x) = decide (x ∈ c) := by
  induction c with
  | nil => rfl
  | cons a r ih =>
    have : memD (.int x) ((a :: r).map fun x : Nat => D.int x) = ((decide ((a : Int) = x)) || memD (.int x) (r.map fun x : Nat => D.int x)) := by
      simp [memD, eqF]
      rfl
    rw [this, ih]
    by_cases e : a = x
    · subst e; simp
    · have e2 : ¬ ((a : Int) = x) := by omega
      have e3 : ¬ x = a := fun z => e z.symm
      simp [e2, e3]
theorem inn_iN {d : D} {x : Nat} {c : List Nat} (e : items h d = some (c.map fun x : Nat => D.int x)) : cmpD .inn (.int x) d h = .ok (.bl (decide (x ∈ c))) h := by
  simp only [cmpD, e]
  rw [if_pos (by simp [flatD]), memD_iN]
theorem snaps_map (ds : List D) : snaps h ds = ds.mapM (snap h) := by
  unfold snaps
  split
  · rename_i e
    have : ∀ l : List D, ncs l = true → l.mapM (snap h) = some l := by
      intro l
      induction l with
      | nil => intro _; rfl
      | cons a r ih =>
        intro q
        simp only [ncs, Bool.and_eq_true] at q
        rw [List.mapM_cons, snap_nc q.1, ih q.2]
        rfl
    exact (this ds e).symm
  · rfl
theorem snaps_one {d d' : D} (e : snap h d = some d') : snaps h [d] = some [d'] := by rw [snaps_map, List.mapM_cons, e]; rfl
theorem snaps_two {d d' e e' : D} (q : snap h d = some d') (r : snap h e = some e') : snaps h [d, e] = some [d', e'] := by rw [snaps_map, List.mapM_cons, q, List.mapM_cons, r]; rfl
theorem snaps_three {d d' e e' g g' : D} (q : snap h d = some d') (r : snap h e = some e') (t : snap h g = some g') : snaps h [d, e, g] = some [d', e', g'] := by rw [snaps_map, List.mapM_cons, q, List.mapM_cons, r, List.mapM_cons, t]; rfl
end Z

end
section
/-! the defs of law k53, without places (printed by zgen.py) -/
namespace ZK53
open Z
/-- 0: law; slots 0 script, 1 drawn, 2 many, 3 bounds, 4 table, 5 kept, 6 one, 7 other, 8 scores, 9 chosen, 10 numbers, 11 odd, 12 told, 13 faces, 14 due, 15 i, 16 number, 17 level, 18 step, 19 row, 20 j -/
def b_law : Ss := (.cons (.asg (.nm 1) (.call false 1 (.cons (.var 0) .nil)))
  (.cons (.asg (.nm 2) (.ix (.lst false (.cons (.con (.int 3)) (.cons (.con (.int 4)) (.cons (.con (.int 2)) (.cons (.con (.int 5)) (.cons (.con (.int 1)) (.cons (.con (.int 8)) (.cons (.con (.int 6)) (.cons (.con (.int 3)) .nil))))))))) (.call false 2 (.cons (.var 1) (.cons (.con (.int 8)) .nil)))))
  (.cons (.asg (.nm 3) (.call false 3 (.cons (.var 1) (.cons (.var 2) (.cons (.con (.bl false)) .nil)))))
  (.cons (.asg (.nm 4) (.call false 4 (.cons (.var 1) (.cons (.var 3) .nil))))
  (.cons (.asg (.nm 5) (.comp false [("row", 19)] (.nm 19) (.e (.var 3)) .none (.bi .tuple false (.cons (.var 19) .nil))))
  (.cons (.ife (.bo false (.not (.call true 6 (.cons (.call true 7 (.cons (.var 3) .nil)) (.cons (.var 3) .nil)))) (.bo1 false (.not (.call true 5 (.cons (.var 4) (.cons (.var 3) .nil))))))
  (.cons (.ret (.con (.bl false)))
  .nil)
  .nil)
  (.cons (.asg (.nm 6) (.call false 2 (.cons (.var 1) (.cons (.var 2) .nil))))
  (.cons (.asg (.nm 7) (.call false 2 (.cons (.var 1) (.cons (.var 2) .nil))))
  (.cons (.ife (.cmp .ne (.var 6) (.var 7))
  (.cons (.asg (.nm 18) (.bin .add false (.con (.int 1)) (.call false 2 (.cons (.var 1) (.cons (.con (.int 3)) .nil)))))
  (.cons (.asg (.sub (.ix (.var 4) (.var 6)) (.var 7)) (.bin .add false (.ix (.ix (.var 4) (.var 6)) (.var 7)) (.var 18)))
  (.cons (.asg (.sub (.ix (.var 4) (.var 7)) (.var 6)) (.bin .sub false (.ix (.ix (.var 4) (.var 7)) (.var 6)) (.var 18)))
  .nil)))
  .nil)
  (.cons (.ife (.not (.call true 5 (.cons (.var 4) (.cons (.var 3) .nil))))
  (.cons (.ret (.con (.bl false)))
  .nil)
  .nil)
  (.cons (.asg (.nm 8) (.comp false [("row", 19)] (.nm 19) (.e (.var 4)) .none (.bi .sum false (.cons (.var 19) .nil))))
  (.cons (.asg (.nm 9) (.comp false [("number", 16)] (.nm 16) (.f .rng1 (.cons (.var 2) .nil)) (.some (.cmp .eq (.call false 2 (.cons (.var 1) (.cons (.con (.int 2)) .nil))) (.con (.int 1)))) (.var 16)))
  (.cons (.fr (.nm 10) (.e (.lst false (.cons (.var 9) (.cons (.lst false .nil) (.cons (.lst false (.cons (.var 6) .nil)) (.cons (.comp false [("number", 16)] (.nm 16) (.f .rng1 (.cons (.var 2) .nil)) .none (.var 16)) .nil))))))
  (.cons (.asg (.nm 12) (.call true 8 (.cons (.var 3) (.cons (.bi .list false (.cons (.var 8) .nil)) (.cons (.var 10) .nil)))))
  (.cons (.ife (.bo false (.not (.call true 10 (.cons (.var 12) .nil))) (.bo1 false (.cmp .ne (.var 12) (.call true 9 (.cons (.var 3) (.cons (.var 8) (.cons (.var 10) .nil)))))))
  (.cons (.ret (.con (.bl false)))
  .nil)
  .nil)
  .nil)) [10, 12])
  (.cons (.asg (.nm 11) (.comp false [("number", 16)] (.nm 16) (.f .rng1 (.cons (.var 2) .nil)) (.some (.cmp .eq (.bin .mod false (.bi .int false (.cons (.bin .add false (.ix (.var 8) (.var 16)) (.bi .sum false (.cons (.ix (.var 3) (.var 16)) .nil))) .nil)) (.con (.int 2))) (.con (.int 1)))) (.var 16)))
  (.cons (.asg (.nm 12) (.call true 11 (.cons (.var 3) (.cons (.var 8) .nil))))
  (.cons (.ife (.bo false (.cmp .ne (.cmp .is (.var 12) (.con .non)) (.cmp .eq (.bi .len false (.cons (.var 11) .nil)) (.con (.int 0)))) (.bo1 false (.bo true (.cmp .isn (.var 12) (.con .non)) (.bo1 true (.bo false (.not (.call true 10 (.cons (.var 12) .nil))) (.bo1 false (.cmp .ne (.var 12) (.ix (.var 11) (.con (.int 0))))))))))
  (.cons (.ret (.con (.bl false)))
  .nil)
  .nil)
  (.cons (.asg (.nm 13) (.comp false [("number", 16)] (.nm 16) (.f .rng1 (.cons (.var 2) .nil)) .none (.bin .add false (.con (.int 1)) (.call false 12 (.cons (.var 1) (.cons (.con (.int 19)) .nil))))))
  (.cons (.asg (.nm 14) (.comp true [("i", 15)] (.nm 15) (.f .rng1 (.cons (.var 2) .nil)) .none (.comp true [("j", 20)] (.nm 20) (.f .rng1 (.cons (.var 2) .nil)) .none (.bin .mul false (.ix (.var 13) (.var 15)) (.ix (.var 13) (.var 20))))))
  (.cons (.fr (.nm 15) (.f .rng1 (.cons (.var 2) .nil))
  (.cons (.asg (.sub (.ix (.var 14) (.var 15)) (.var 15)) (.con (.int 0)))
  .nil) [15])
  (.cons (.asg (.nm 16) (.call false 12 (.cons (.var 1) (.cons (.con (.int 400)) .nil))))
  (.cons (.asg (.nm 17) (.comp true [("i", 15)] (.nm 15) (.f .rng1 (.cons (.var 2) .nil)) .none (.comp true [("j", 20)] (.nm 20) (.f .rng1 (.cons (.var 2) .nil)) .none (.var 16))))
  (.cons (.fr (.nm 15) (.f .rng1 (.cons (.var 2) .nil))
  (.cons (.asg (.sub (.ix (.var 17) (.var 15)) (.var 15)) (.con (.int 0)))
  .nil) [15])
  (.cons (.ife (.bo false (.not (.call true 6 (.cons (.call true 14 (.cons (.var 13) .nil)) (.cons (.var 14) .nil)))) (.bo1 false (.not (.call true 6 (.cons (.call true 13 (.cons (.var 2) (.cons (.var 16) .nil))) (.cons (.var 17) .nil))))))
  (.cons (.ret (.con (.bl false)))
  .nil)
  .nil)
  (.cons (.ret (.bo true (.call false 15 (.cons (.var 1) .nil)) (.bo1 true (.cmp .eq (.comp false [("row", 19)] (.nm 19) (.e (.var 3)) .none (.bi .tuple false (.cons (.var 19) .nil))) (.var 5)))))
  .nil))))))))))))))))))))))))
/-- 1: _law_draws; slots 0 script, 1 drawn, 2 at, 3 cell, 4 turn, 5 state -/
def b_law_draws_m : Ss := (.cons (.asg (.nm 1) (.lst true .nil))
  (.cons (.fr (.nm 2) (.f .rng1 (.cons (.bi .min2 false (.cons (.bi .len false (.cons (.var 0) .nil)) (.cons (.con (.int 63)) .nil))) .nil))
  (.cons (.asg (.nm 3) (.bi .int false (.cons (.ix (.var 0) (.var 2)) .nil)))
  (.cons (.ife (.cmp .lt (.var 3) (.con (.int 0)))
  (.cons (.asg (.nm 3) (.bin .sub false (.con (.int 3)) (.bin .mul false (.con (.int 2)) (.var 3))))
  .nil)
  .nil)
  (.cons (.ife (.cmp .ge (.var 3) (.bin .pow false (.con (.int 10)) (.con (.int 18))))
  (.cons (.fr (.nm 4) (.f .rng1 (.cons (.con (.int 42)) .nil))
  (.cons (.ife (.cmp .gt (.var 3) (.con (.int 0)))
  (.cons (.expr (.mth (.var 1) .append (.cons (.bin .mod false (.bi .int false (.cons (.var 3) .nil)) (.con (.int 24))) .nil)))
  (.cons (.asg (.nm 3) (.bin .fdiv false (.var 3) (.con (.int 24))))
  .nil))
  .nil)
  .nil) [4])
  .nil)
  (.cons (.asg (.nm 5) (.bin .mod false (.bi .int false (.cons (.bin .add false (.bin .add false (.bin .mul false (.var 3) (.con (.int 50331653))) (.bin .mul false (.var 2) (.con (.int 12582917)))) (.con (.int 29))) .nil)) (.con (.int 2147483629))))
  (.cons (.fr (.nm 4) (.f .rng1 (.cons (.con (.int 7)) .nil))
  (.cons (.asg (.nm 5) (.bin .mod false (.bi .int false (.cons (.bin .add false (.bin .add false (.bin .add false (.bin .mul false (.var 5) (.var 5)) (.bin .mul false (.var 4) (.con (.int 6151)))) (.bin .mul false (.var 2) (.con (.int 97)))) (.con (.int 7))) .nil)) (.con (.int 2147483587))))
  (.cons (.expr (.mth (.var 1) .append (.cons (.var 5) .nil)))
  .nil)) [4])
  .nil)))
  .nil))) [2, 3, 4, 5])
  (.cons (.expr (.mth (.var 1) .reverse .nil))
  (.cons (.ret (.var 1))
  .nil))))
/-- 2: _law_take; slots 0 drawn, 1 many -/
def b_law_take : Ss := (.cons (.ife (.cmp .eq (.bi .len false (.cons (.var 0) .nil)) (.con (.int 0)))
  (.cons (.ret (.con (.int 0)))
  .nil)
  .nil)
  (.cons (.ret (.bin .mod false (.bi .int false (.cons (.mth (.var 0) .pop .nil) .nil)) (.var 1)))
  .nil))
/-- 3: _law_bounds; slots 0 drawn, 1 many, 2 positive, 3 top, 4 shape, 5 rows, 6 one, 7 other, 8 bound -/
def b_law_bounds : Ss := (.cons (.asg (.nm 3) (.ix (.lst false (.cons (.con (.int 3)) (.cons (.con (.int 1)) (.cons (.con (.int 6)) (.cons (.con (.int 400)) (.cons (.con (.int 40)) .nil)))))) (.call false 2 (.cons (.var 0) (.cons (.con (.int 5)) .nil)))))
  (.cons (.asg (.nm 4) (.call false 2 (.cons (.var 0) (.cons (.con (.int 4)) .nil))))
  (.cons (.asg (.nm 5) (.comp true [("one", 6)] (.nm 6) (.f .rng1 (.cons (.var 1) .nil)) .none (.comp true [("other", 7)] (.nm 7) (.f .rng1 (.cons (.var 1) .nil)) .none (.con (.int 0)))))
  (.cons (.fr (.nm 6) (.f .rng1 (.cons (.var 1) .nil))
  (.cons (.fr (.nm 7) (.f .rng2 (.cons (.bin .add false (.var 6) (.con (.int 1))) (.cons (.var 1) .nil)))
  (.cons (.asg (.nm 8) (.call false 12 (.cons (.var 0) (.cons (.var 3) .nil))))
  (.cons (.ife (.cmp .eq (.var 4) (.con (.int 1)))
  (.cons (.asg (.nm 8) (.var 3))
  .nil)
  .nil)
  (.cons (.ife (.bo true (.cmp .eq (.var 4) (.con (.int 2))) (.bo1 true (.cmp .eq (.call false 2 (.cons (.var 0) (.cons (.con (.int 2)) .nil))) (.con (.int 1)))))
  (.cons (.asg (.nm 8) (.con (.int 0)))
  .nil)
  .nil)
  (.cons (.ife (.var 2)
  (.cons (.asg (.nm 8) (.bi .max2 false (.cons (.con (.int 1)) (.cons (.var 8) .nil))))
  .nil)
  .nil)
  (.cons (.asg (.sub (.ix (.var 5) (.var 6)) (.var 7)) (.var 8))
  (.cons (.asg (.sub (.ix (.var 5) (.var 7)) (.var 6)) (.var 8))
  .nil)))))) [7, 8])
  .nil) [6, 7, 8])
  (.cons (.frz 5)
  (.cons (.ret (.var 5))
  .nil))))))
/-- 4: _law_entries; slots 0 drawn, 1 bounds, 2 many, 3 shape, 4 rows, 5 one, 6 other, 7 bound, 8 word, 9 entry -/
def b_law_entries_mm : Ss := (.cons (.asg (.nm 2) (.bi .len false (.cons (.var 1) .nil)))
  (.cons (.asg (.nm 3) (.call false 2 (.cons (.var 0) (.cons (.con (.int 4)) .nil))))
  (.cons (.asg (.nm 4) (.comp true [("one", 5)] (.nm 5) (.f .rng1 (.cons (.var 2) .nil)) .none (.comp true [("other", 6)] (.nm 6) (.f .rng1 (.cons (.var 2) .nil)) .none (.con (.int 0)))))
  (.cons (.fr (.nm 5) (.f .rng1 (.cons (.var 2) .nil))
  (.cons (.fr (.nm 6) (.f .rng2 (.cons (.bin .add false (.var 5) (.con (.int 1))) (.cons (.var 2) .nil)))
  (.cons (.asg (.nm 7) (.ix (.ix (.var 1) (.var 5)) (.var 6)))
  (.cons (.asg (.nm 8) (.call false 2 (.cons (.var 0) (.cons (.con (.int 5)) .nil))))
  (.cons (.asg (.nm 9) (.bin .sub false (.call false 12 (.cons (.var 0) (.cons (.bin .mul false (.con (.int 2)) (.var 7)) .nil))) (.var 7)))
  (.cons (.ife (.bo false (.cmp .eq (.var 3) (.con (.int 1))) (.bo1 false (.cmp .eq (.var 8) (.con (.int 1)))))
  (.cons (.asg (.nm 9) (.var 7))
  .nil)
  .nil)
  (.cons (.ife (.bo true (.cmp .eq (.var 3) (.con (.int 2))) (.bo1 true (.cmp .eq (.var 5) (.con (.int 0)))))
  (.cons (.asg (.nm 9) (.neg (.var 7)))
  .nil)
  .nil)
  (.cons (.ife (.bo true (.cmp .eq (.var 3) (.con (.int 3))) (.bo1 true (.cmp .eq (.bin .mod false (.bi .int false (.cons (.bin .sub false (.var 7) (.var 9)) .nil)) (.con (.int 2))) (.con (.int 1)))))
  (.cons (.asg (.nm 9) (.bin .add false (.var 9) (.con (.int 1))))
  .nil)
  .nil)
  (.cons (.asg (.sub (.ix (.var 4) (.var 5)) (.var 6)) (.var 9))
  (.cons (.asg (.sub (.ix (.var 4) (.var 6)) (.var 5)) (.neg (.var 9)))
  .nil)))))))) [6, 7, 8, 9])
  .nil) [5, 6, 7, 8, 9])
  (.cons (.ret (.var 4))
  .nil)))))
/-- 5: _law_judged; slots 0 table, 1 bounds, 2 full, 3 told -/
def b_law_judged : Ss := (.cons (.fr (.nm 2) (.e (.lst false (.cons (.con (.bl false)) (.cons (.con (.bl true)) .nil))))
  (.cons (.asg (.nm 3) (.ife (.var 2) (.call true 16 (.cons (.var 0) (.cons (.var 1) .nil))) (.call true 17 (.cons (.var 0) (.cons (.var 1) .nil)))))
  (.cons (.ife (.bo false (.not (.isi (.var 3) false [.bool])) (.bo1 false (.cmp .ne (.var 3) (.call true 18 (.cons (.var 0) (.cons (.var 1) (.cons (.var 2) .nil)))))))
  (.cons (.ret (.con (.bl false)))
  .nil)
  .nil)
  .nil)) [2, 3])
  (.cons (.ret (.con (.bl true)))
  .nil))
/-- 6: _law_same; slots 0 told, 1 rows, 2 at, 3 entry -/
def b_law_same : Ss := (.cons (.ife (.bo false (.not (.isi (.var 0) false [.tuple])) (.bo1 false (.cmp .ne (.bi .len false (.cons (.var 0) .nil)) (.bi .len false (.cons (.var 1) .nil)))))
  (.cons (.ret (.con (.bl false)))
  .nil)
  .nil)
  (.cons (.fr (.nm 2) (.f .rng1 (.cons (.bi .len false (.cons (.var 1) .nil)) .nil))
  (.cons (.ife (.bo false (.not (.isi (.ix (.var 0) (.var 2)) false [.tuple])) (.bo1 false (.cmp .ne (.bi .list false (.cons (.ix (.var 0) (.var 2)) .nil)) (.bi .list false (.cons (.ix (.var 1) (.var 2)) .nil)))))
  (.cons (.ret (.con (.bl false)))
  .nil)
  .nil)
  (.cons (.fr (.nm 3) (.e (.ix (.var 0) (.var 2)))
  (.cons (.ife (.not (.call true 10 (.cons (.var 3) .nil)))
  (.cons (.ret (.con (.bl false)))
  .nil)
  .nil)
  .nil) [3])
  .nil)) [2, 3])
  (.cons (.ret (.con (.bl true)))
  .nil)))
/-- 7: check_bounds; slots 0 bounds, 1 many, 2 row, 3 i, 4 j, 5 here, 6 there -/
def b_check_bounds : Ss := (.cons (.ife (.bo false (.not (.call true 19 (.cons (.var 0) .nil))) (.bo1 false (.cmp .eq (.bi .len false (.cons (.var 0) .nil)) (.con (.int 0)))))
  (.cons .nev
  .nil)
  .nil)
  (.cons (.asg (.nm 1) (.bi .len false (.cons (.var 0) .nil)))
  (.cons (.fr (.nm 2) (.e (.var 0))
  (.cons (.ife (.bo false (.not (.call true 19 (.cons (.var 2) .nil))) (.bo1 false (.cmp .ne (.bi .len false (.cons (.var 2) .nil)) (.var 1))))
  (.cons .nev
  .nil)
  .nil)
  .nil) [2])
  (.cons (.fr (.nm 3) (.f .rng1 (.cons (.var 1) .nil))
  (.cons (.fr (.nm 4) (.f .rng1 (.cons (.var 1) .nil))
  (.cons (.par 5 6 (.ix (.ix (.var 0) (.var 3)) (.var 4)) (.ix (.ix (.var 0) (.var 4)) (.var 3)))
  (.cons (.ife (.bo false (.not (.call true 20 (.cons (.var 5) .nil))) (.bo false (.not (.call true 20 (.cons (.var 6) .nil))) (.bo false (.cmp .lt (.var 5) (.con (.int 0))) (.bo1 false (.cmp .ne (.var 5) (.var 6))))))
  (.cons .nev
  .nil)
  .nil)
  (.cons (.ife (.bo true (.cmp .eq (.var 3) (.var 4)) (.bo1 true (.cmp .ne (.var 5) (.con (.int 0)))))
  (.cons .nev
  .nil)
  .nil)
  .nil))) [4, 5, 6])
  .nil) [3, 4, 5, 6])
  (.cons (.ret (.bi .tuple false (.cons (.comp false [("row", 2)] (.nm 2) (.e (.var 0)) .none (.bi .tuple false (.cons (.var 2) .nil))) .nil)))
  .nil)))))
/-- 8: room_in; slots 0 bounds, 1 scores, 2 numbers, 3 chosen, 4 most, 5 due, 6 number -/
def b_room_in : Ss := (.cons (.asg (.tp [4, 5]) (.call true 21 (.cons (.var 0) (.cons (.var 1) .nil))))
  (.cons (.asg (.nm 3) (.call true 22 (.cons (.var 2) (.cons (.bi .len false (.cons (.var 4) .nil)) .nil))))
  (.cons (.ret (.bin .sub false (.call true 23 (.cons (.var 4) (.cons (.var 3) .nil))) (.bi .sum false (.cons (.comp false [("number", 6)] (.nm 6) (.e (.var 3)) .none (.ix (.var 5) (.var 6))) .nil))))
  .nil)))
/-- 9: _law_room; slots 0 bounds, 1 scores, 2 chosen, 3 found, 4 one, 5 other -/
def b_law_room : Ss := (.cons (.asg (.nm 3) (.con (.int 0)))
  (.cons (.fr (.nm 4) (.e (.var 2))
  (.cons (.fr (.nm 5) (.f .rng1 (.cons (.bi .len false (.cons (.var 0) .nil)) .nil))
  (.cons (.ife (.cmp .nin (.var 5) (.var 2))
  (.cons (.asg (.nm 3) (.bin .add false (.var 3) (.ix (.ix (.var 0) (.var 4)) (.var 5))))
  .nil)
  .nil)
  .nil) [5])
  (.cons (.asg (.nm 3) (.bin .sub false (.var 3) (.ix (.var 1) (.var 4))))
  .nil)) [4, 5])
  (.cons (.ret (.var 3))
  .nil)))
/-- 10: _law_int; slots 0 value -/
def b_law_int : Ss := (.cons (.ret (.bo true (.isi (.var 0) false [.int]) (.bo1 true (.not (.isi (.var 0) false [.bool])))))
  .nil)
/-- 11: odd_die; slots 0 bounds, 1 scores, 2 most, 3 due -/
def b_odd_die : Ss := (.cons (.asg (.tp [2, 3]) (.call true 21 (.cons (.var 0) (.cons (.var 1) .nil))))
  (.cons (.ret (.call true 24 (.cons (.var 2) (.cons (.var 3) .nil))))
  .nil))
/-- 12: _law_wide; slots 0 drawn, 1 most, 2 found, 3 turn -/
def b_law_wide : Ss := (.cons (.asg (.nm 2) (.con (.int 0)))
  (.cons (.fr (.nm 3) (.f .rng1 (.cons (.con (.int 4)) .nil))
  (.cons (.asg (.nm 2) (.bin .add false (.bin .mul false (.con (.int 24)) (.var 2)) (.call false 2 (.cons (.var 0) (.cons (.con (.int 24)) .nil)))))
  .nil) [3])
  (.cons (.ret (.bin .mod false (.bi .int false (.cons (.var 2) .nil)) (.bin .add false (.var 1) (.con (.int 1)))))
  .nil)))
/-- 13: equal_bounds; slots 0 many, 1 number, 2 i, 3 j -/
def b_equal_bounds : Ss := (.cons (.expr (.call true 25 (.cons (.var 0) (.cons (.con (.str "many")) (.cons (.con (.int 1)) .nil)))))
  (.cons (.expr (.call true 25 (.cons (.var 1) (.cons (.con (.str "number")) (.cons (.con (.int 0)) .nil)))))
  (.cons (.ret (.bi .tuple false (.cons (.comp false [("i", 2)] (.nm 2) (.f .rng1 (.cons (.var 0) .nil)) .none (.bi .tuple false (.cons (.comp false [("j", 3)] (.nm 3) (.f .rng1 (.cons (.var 0) .nil)) .none (.ife (.cmp .ne (.var 2) (.var 3)) (.var 1) (.con (.int 0)))) .nil))) .nil)))
  .nil)))
/-- 14: product_bounds; slots 0 faces, 1 told, 2 many, 3 i, 4 j -/
def b_product_bounds : Ss := (.cons (.asg (.nm 1) (.call true 26 (.cons (.var 0) .nil)))
  (.cons (.asg (.nm 2) (.bi .len false (.cons (.var 1) .nil)))
  (.cons (.ret (.bi .tuple false (.cons (.comp false [("i", 3)] (.nm 3) (.f .rng1 (.cons (.var 2) .nil)) .none (.bi .tuple false (.cons (.comp false [("j", 4)] (.nm 4) (.f .rng1 (.cons (.var 2) .nil)) .none (.ife (.cmp .ne (.var 3) (.var 4)) (.bin .mul false (.ix (.var 1) (.var 3)) (.ix (.var 1) (.var 4))) (.con (.int 0)))) .nil))) .nil)))
  .nil)))
/-- 15: _law_deck_full; slots 0 drawn, 1 many, 2 word, 3 turn, 4 cup, 5 number -/
def b_law_deck_full : Ss := (.cons (.asg (.nm 1) (.bin .add false (.con (.int 2)) (.call false 2 (.cons (.var 0) (.cons (.con (.int 3)) .nil)))))
  (.cons (.asg (.nm 2) (.comp true [("number", 5)] (.nm 5) (.f .rng1 (.cons (.var 1) .nil)) .none (.var 5)))
  (.cons (.fr (.nm 3) (.f .rng1 (.cons (.call false 2 (.cons (.var 0) (.cons (.con (.int 6)) .nil))) .nil))
  (.cons (.expr (.mth (.var 2) .insert (.cons (.call false 2 (.cons (.var 0) (.cons (.bin .add false (.bi .len false (.cons (.var 2) .nil)) (.con (.int 1))) .nil))) (.cons (.call false 2 (.cons (.var 0) (.cons (.var 1) .nil))) .nil))))
  .nil) [3])
  (.cons (.frz 2)
  (.cons (.asg (.nm 4) (.ccal 0 true 27 (.cons (.var 2) (.cons (.var 1) .nil))))
  (.cons (.ret (.cmp .is (.call true 16 (.cons (.call true 28 (.cons (.var 4) .nil)) (.cons (.call true 14 (.cons (.call true 29 (.cons (.var 4) .nil)) .nil)) .nil))) (.con (.bl true))))
  .nil))))))
/-- 16: is_full; slots 0 table, 1 bounds, 2 rows, 3 most, 4 i, 5 row, 6 j, 7 entry -/
def b_is_full : Ss := (.cons (.asg (.tp [2, 3]) (.call true 30 (.cons (.var 0) (.cons (.var 1) .nil))))
  (.cons (.fr (.tp [4, 5]) (.f .enum (.cons (.var 2) .nil))
  (.cons (.fr (.tp [6, 7]) (.f .enum (.cons (.var 5) .nil))
  (.cons (.ife (.bo false (.cmp .gt (.bi .abs false (.cons (.var 7) .nil)) (.ix (.ix (.var 3) (.var 4)) (.var 6))) (.bo1 false (.cmp .eq (.bin .mod false (.bin .sub false (.ix (.ix (.var 3) (.var 4)) (.var 6)) (.var 7)) (.con (.int 2))) (.con (.int 1)))))
  (.cons (.ret (.con (.bl false)))
  .nil)
  .nil)
  .nil) [6, 7])
  .nil) [4, 5, 6, 7])
  (.cons (.ret (.con (.bl true)))
  .nil)))
/-- 17: is_within; slots 0 table, 1 bounds, 2 rows, 3 most, 4 i, 5 row, 6 j, 7 entry -/
def b_is_within : Ss := (.cons (.asg (.tp [2, 3]) (.call true 30 (.cons (.var 0) (.cons (.var 1) .nil))))
  (.cons (.fr (.tp [4, 5]) (.f .enum (.cons (.var 2) .nil))
  (.cons (.fr (.tp [6, 7]) (.f .enum (.cons (.var 5) .nil))
  (.cons (.ife (.cmp .gt (.bi .abs false (.cons (.var 7) .nil)) (.ix (.ix (.var 3) (.var 4)) (.var 6)))
  (.cons (.ret (.con (.bl false)))
  .nil)
  .nil)
  .nil) [6, 7])
  .nil) [4, 5, 6, 7])
  (.cons (.ret (.con (.bl true)))
  .nil)))
/-- 18: _law_within; slots 0 table, 1 bounds, 2 full, 3 one, 4 other -/
def b_law_within : Ss := (.cons (.fr (.nm 3) (.f .rng1 (.cons (.bi .len false (.cons (.var 1) .nil)) .nil))
  (.cons (.fr (.nm 4) (.f .rng1 (.cons (.bi .len false (.cons (.var 1) .nil)) .nil))
  (.cons (.ife (.cmp .gt (.bi .abs false (.cons (.ix (.ix (.var 0) (.var 3)) (.var 4)) .nil)) (.ix (.ix (.var 1) (.var 3)) (.var 4)))
  (.cons (.ret (.con (.bl false)))
  .nil)
  .nil)
  (.cons (.ife (.bo true (.var 2) (.bo1 true (.cmp .eq (.bin .mod false (.bi .int false (.cons (.bin .sub false (.ix (.ix (.var 1) (.var 3)) (.var 4)) (.ix (.ix (.var 0) (.var 3)) (.var 4))) .nil)) (.con (.int 2))) (.con (.int 1)))))
  (.cons (.ret (.con (.bl false)))
  .nil)
  .nil)
  .nil)) [4])
  .nil) [3, 4])
  (.cons (.ret (.con (.bl true)))
  .nil))
/-- 19: is_row; slots 0 value -/
def b_is_row : Ss := (.cons (.ret (.isi (.var 0) true [.list, .tuple]))
  .nil)
/-- 20: is_int; slots 0 value -/
def b_is_int : Ss := (.cons (.ret (.bo true (.isi (.var 0) false [.int]) (.bo1 true (.not (.isi (.var 0) false [.bool])))))
  .nil)
/-- 21: bounds_and_scores; slots 0 bounds, 1 scores, 2 most, 3 due -/
def b_bounds_and_scores : Ss := (.cons (.asg (.nm 2) (.call true 7 (.cons (.var 0) .nil)))
  (.cons (.asg (.nm 3) (.call true 31 (.cons (.var 1) .nil)))
  (.cons (.ife (.cmp .ne (.bi .len false (.cons (.var 2) .nil)) (.bi .len false (.cons (.var 3) .nil)))
  (.cons .nev
  .nil)
  .nil)
  (.cons (.ret (.tup (.cons (.var 2) (.cons (.var 3) .nil))))
  .nil))))
/-- 22: set_of; slots 0 row, 1 many -/
def b_set_of : Ss := (.cons (.ret (.bi .tuple false (.cons (.bi .sorted false (.cons (.call true 32 (.cons (.var 0) (.cons (.var 1) .nil))) .nil)) .nil)))
  .nil)
/-- 23: crossing_sum; slots 0 most, 1 chosen, 2 i, 3 j, 4 entry -/
def b_crossing_sum : Ss := (.cons (.ret (.bi .sum false (.cons (.comp false [("i", 2)] (.nm 2) (.e (.var 1)) .none (.bi .sum false (.cons (.comp false [("j", 3), ("entry", 4)] (.tp [3, 4]) (.f .enum (.cons (.ix (.var 0) (.var 2)) .nil)) (.some (.cmp .nin (.var 3) (.var 1))) (.var 4)) .nil))) .nil)))
  .nil)
/-- 24: uneven_die; slots 0 most, 1 due, 2 number, 3 row -/
def b_uneven_die : Ss := (.cons (.fr (.tp [2, 3]) (.f .enum (.cons (.var 0) .nil))
  (.cons (.ife (.cmp .eq (.bin .mod false (.bin .add false (.ix (.var 1) (.var 2)) (.bi .sum false (.cons (.var 3) .nil))) (.con (.int 2))) (.con (.int 1)))
  (.cons (.ret (.var 2))
  .nil)
  .nil)
  .nil) [2, 3])
  (.cons (.ret (.con .non))
  .nil))
/-- 25: check_int; slots 0 value, 1 name, 2 low -/
def b_check_int : Ss := (.cons (.ife (.bo false (.not (.call true 20 (.cons (.var 0) .nil))) (.bo1 false (.cmp .lt (.var 0) (.var 2))))
  (.cons .nev
  .nil)
  .nil)
  (.cons (.ret (.var 0))
  .nil))
/-- 26: faces_row; slots 0 row, 1 entry -/
def b_faces_row : Ss := (.cons (.ife (.bo false (.not (.call true 19 (.cons (.var 0) .nil))) (.bo1 false (.cmp .eq (.bi .len false (.cons (.var 0) .nil)) (.con (.int 0)))))
  (.cons .nev
  .nil)
  .nil)
  (.cons (.fr (.nm 1) (.e (.var 0))
  (.cons (.ife (.bo false (.not (.call true 20 (.cons (.var 1) .nil))) (.bo1 false (.cmp .lt (.var 1) (.con (.int 1)))))
  (.cons .nev
  .nil)
  .nil)
  .nil) [1])
  (.cons (.ret (.bi .tuple false (.cons (.var 0) .nil)))
  .nil)))
/-- 27: Cup.of_word; slots 0 cls, 1 word, 2 many, 3 letters, 4 i, 5 letter -/
def b_Cup_of_word : Ss := (.cons (.expr (.call true 25 (.cons (.var 2) (.cons (.con (.str "many")) (.cons (.con (.int 1)) .nil)))))
  (.cons (.asg (.nm 3) (.call true 33 (.cons (.var 1) (.cons (.var 2) .nil))))
  (.cons (.ret (.fz (.mkc 0 0 34 (.cons (.comp false [("i", 4)] (.nm 4) (.f .rng1 (.cons (.var 2) .nil)) .none (.comp false [("letter", 5)] (.nm 5) (.e (.var 3)) .none (.bi .int false (.cons (.cmp .eq (.var 5) (.var 4)) .nil)))) .nil))))
  .nil)))
/-- 28: table_of; slots 0 cup, 1 rows, 2 many, 3 leads, 4 i, 5 j, 6 row, 7 worth -/
def b_table_of : Ss := (.cons (.asg (.nm 1) (.call true 35 (.cons (.var 0) .nil)))
  (.cons (.asg (.nm 2) (.bi .len false (.cons (.var 1) .nil)))
  (.cons (.asg (.nm 3) (.comp true [("row", 6)] (.nm 6) (.e (.var 1)) .none (.bin .mul true (.lst false (.cons (.con (.int 0)) .nil)) (.var 2))))
  (.cons (.fr (.nm 4) (.f .rng1 (.cons (.var 2) .nil))
  (.cons (.fr (.nm 5) (.f .rng2 (.cons (.bin .add false (.var 4) (.con (.int 1))) (.cons (.var 2) .nil)))
  (.cons (.asg (.nm 7) (.call true 36 (.cons (.ix (.var 1) (.var 4)) (.cons (.ix (.var 1) (.var 5)) .nil))))
  (.cons (.asg (.sub (.ix (.var 3) (.var 4)) (.var 5)) (.var 7))
  (.cons (.asg (.sub (.ix (.var 3) (.var 5)) (.var 4)) (.neg (.var 7)))
  .nil))) [5, 7])
  .nil) [4, 5, 7])
  (.cons (.ret (.bi .tuple false (.cons (.comp false [("row", 6)] (.nm 6) (.e (.var 3)) .none (.bi .tuple false (.cons (.var 6) .nil))) .nil)))
  .nil)))))
/-- 29: face_numbers; slots 0 cup, 1 row -/
def b_face_numbers : Ss := (.cons (.ret (.bi .tuple false (.cons (.comp false [("row", 1)] (.nm 1) (.e (.call true 37 (.cons (.var 0) .nil))) .none (.bi .sum false (.cons (.var 1) .nil))) .nil)))
  .nil)
/-- 30: table_and_bounds; slots 0 table, 1 bounds, 2 rows, 3 most -/
def b_table_and_bounds : Ss := (.cons (.asg (.nm 2) (.call true 38 (.cons (.var 0) .nil)))
  (.cons (.asg (.nm 3) (.call true 7 (.cons (.var 1) .nil)))
  (.cons (.ife (.cmp .ne (.bi .len false (.cons (.var 2) .nil)) (.bi .len false (.cons (.var 3) .nil)))
  (.cons .nev
  .nil)
  .nil)
  (.cons (.ret (.tup (.cons (.var 2) (.cons (.var 3) .nil))))
  .nil))))
/-- 31: scores_row; slots 0 row, 1 entry -/
def b_scores_row : Ss := (.cons (.ife (.bo false (.not (.call true 19 (.cons (.var 0) .nil))) (.bo1 false (.cmp .eq (.bi .len false (.cons (.var 0) .nil)) (.con (.int 0)))))
  (.cons .nev
  .nil)
  .nil)
  (.cons (.fr (.nm 1) (.e (.var 0))
  (.cons (.ife (.not (.call true 20 (.cons (.var 1) .nil)))
  (.cons .nev
  .nil)
  .nil)
  .nil) [1])
  (.cons (.ife (.cmp .ne (.bi .sum false (.cons (.var 0) .nil)) (.con (.int 0)))
  (.cons .nev
  .nil)
  .nil)
  (.cons (.ret (.bi .tuple false (.cons (.var 0) .nil)))
  .nil))))
/-- 32: picked; slots 0 row, 1 many, 2 met, 3 place, 4 entry -/
def b_picked : Ss := (.cons (.ife (.not (.call true 19 (.cons (.var 0) .nil)))
  (.cons .nev
  .nil)
  .nil)
  (.cons (.asg (.nm 2) (.lst true .nil))
  (.cons (.fr (.tp [3, 4]) (.f .enum (.cons (.var 0) .nil))
  (.cons (.ife (.bo false (.not (.call true 20 (.cons (.var 4) .nil))) (.bo false (.cmp .lt (.var 4) (.con (.int 0))) (.bo false (.cmp .ge (.var 4) (.var 1)) (.bo1 false (.cmp .inn (.var 4) (.var 2))))))
  (.cons .nev
  .nil)
  .nil)
  (.cons (.expr (.mth (.var 2) .append (.cons (.var 4) .nil)))
  .nil)) [3, 4])
  (.cons (.ret (.bi .tuple false (.cons (.var 2) .nil)))
  .nil))))
/-- 33: letters_of; slots 0 word, 1 many, 2 place, 3 letter -/
def b_letters_of : Ss := (.cons (.ife (.not (.call true 19 (.cons (.var 0) .nil)))
  (.cons .nev
  .nil)
  .nil)
  (.cons (.fr (.tp [2, 3]) (.f .enum (.cons (.var 0) .nil))
  (.cons (.ife (.bo false (.not (.call true 20 (.cons (.var 3) .nil))) (.bo false (.cmp .lt (.var 3) (.con (.int 0))) (.bo1 false (.cmp .ge (.var 3) (.var 1)))))
  (.cons .nev
  .nil)
  .nil)
  .nil) [2, 3])
  (.cons (.ife (.cmp .lt (.lset (.var 0)) (.var 1))
  (.cons .nev
  .nil)
  .nil)
  (.cons (.ret (.bi .tuple false (.cons (.var 0) .nil)))
  .nil))))
/-- 34: Cup.__init__; slots 0 self, 1 dice -/
def b_Cup_init : Ss := (.cons (.fset 0 0 0 (.call true 35 (.cons (.var 1) .nil)))
  (.cons (.fset 0 0 1 (.bi .len false (.cons (.ix (.fld (.var 0) 0 0) (.con (.int 0))) .nil)))
  .nil))
/-- 35: dice_of; slots 0 cup, 1 i, 2 row -/
def b_dice_of : Ss := (.cons (.ife (.isi (.var 0) false [.own 0])
  (.cons (.ret (.fld (.var 0) 0 0))
  .nil)
  .nil)
  (.cons (.ife (.bo false (.not (.call true 19 (.cons (.var 0) .nil))) (.bo1 false (.cmp .eq (.bi .len false (.cons (.var 0) .nil)) (.con (.int 0)))))
  (.cons .nev
  .nil)
  .nil)
  (.cons (.fr (.tp [1, 2]) (.f .enum (.cons (.var 0) .nil))
  (.cons (.ife (.bo false (.not (.call true 39 (.cons (.var 2) .nil))) (.bo1 false (.cmp .ne (.bi .len false (.cons (.var 2) .nil)) (.bi .len false (.cons (.ix (.var 0) (.con (.int 0))) .nil)))))
  (.cons .nev
  .nil)
  .nil)
  .nil) [1, 2])
  (.cons (.ret (.bi .tuple false (.cons (.comp false [("row", 2)] (.nm 2) (.e (.var 0)) .none (.bi .tuple false (.cons (.var 2) .nil))) .nil)))
  .nil))))
/-- 36: count_lead; slots 0 one, 1 other, 2 total, 3 mine_lower, 4 theirs_lower, 5 mine, 6 theirs -/
def b_count_lead : Ss := (.cons (.asg (.nm 2) (.con (.int 0)))
  (.cons (.asg (.nm 3) (.con (.int 0)))
  (.cons (.asg (.nm 4) (.con (.int 0)))
  (.cons (.fr (.tp [5, 6]) (.f .zip (.cons (.var 0) (.cons (.var 1) .nil)))
  (.cons (.asg (.nm 2) (.bin .sub false (.bin .add false (.var 2) (.bin .mul false (.var 5) (.var 4))) (.bin .mul false (.var 6) (.var 3))))
  (.cons (.asg (.nm 3) (.bin .add false (.var 3) (.var 5)))
  (.cons (.asg (.nm 4) (.bin .add false (.var 4) (.var 6)))
  .nil))) [5, 6])
  (.cons (.ret (.var 2))
  .nil)))))
/-- 37: Cup.checked; slots 0 dice -/
def b_Cup_checked : Ss := (.cons (.ret (.call true 35 (.cons (.var 0) .nil)))
  .nil)
/-- 38: check_table; slots 0 rows, 1 many, 2 row, 3 i, 4 j, 5 here, 6 there -/
def b_check_table : Ss := (.cons (.ife (.bo false (.not (.call true 19 (.cons (.var 0) .nil))) (.bo1 false (.cmp .eq (.bi .len false (.cons (.var 0) .nil)) (.con (.int 0)))))
  (.cons .nev
  .nil)
  .nil)
  (.cons (.asg (.nm 1) (.bi .len false (.cons (.var 0) .nil)))
  (.cons (.fr (.nm 2) (.e (.var 0))
  (.cons (.ife (.bo false (.not (.call true 19 (.cons (.var 2) .nil))) (.bo1 false (.cmp .ne (.bi .len false (.cons (.var 2) .nil)) (.var 1))))
  (.cons .nev
  .nil)
  .nil)
  .nil) [2])
  (.cons (.fr (.nm 3) (.f .rng1 (.cons (.var 1) .nil))
  (.cons (.fr (.nm 4) (.f .rng1 (.cons (.var 1) .nil))
  (.cons (.par 5 6 (.ix (.ix (.var 0) (.var 3)) (.var 4)) (.ix (.ix (.var 0) (.var 4)) (.var 3)))
  (.cons (.ife (.bo false (.not (.call true 20 (.cons (.var 5) .nil))) (.bo false (.not (.call true 20 (.cons (.var 6) .nil))) (.bo1 false (.cmp .ne (.var 5) (.neg (.var 6))))))
  (.cons .nev
  .nil)
  .nil)
  .nil)) [4, 5, 6])
  .nil) [3, 4, 5, 6])
  (.cons (.ret (.bi .tuple false (.cons (.comp false [("row", 2)] (.nm 2) (.e (.var 0)) .none (.bi .tuple false (.cons (.var 2) .nil))) .nil)))
  .nil)))))
/-- 39: is_die; slots 0 row, 1 entry -/
def b_is_die : Ss := (.cons (.ife (.not (.call true 19 (.cons (.var 0) .nil)))
  (.cons (.ret (.con (.bl false)))
  .nil)
  .nil)
  (.cons (.ret (.bo true (.bi .all false (.cons (.comp false [("entry", 1)] (.nm 1) (.e (.var 0)) .none (.bo true (.call true 20 (.cons (.var 1) .nil)) (.bo1 true (.cmp .ge (.var 1) (.con (.int 0)))))) .nil)) (.bo1 true (.cmp .gt (.bi .sum false (.cons (.var 0) .nil)) (.con (.int 0))))))
  .nil))
def tb : Nat → Option Fd
  | 0 => some ⟨"law", 1, 21, b_law⟩
  | 1 => some ⟨"_law_draws", 1, 6, b_law_draws_m⟩
  | 2 => some ⟨"_law_take", 2, 2, b_law_take⟩
  | 3 => some ⟨"_law_bounds", 3, 9, b_law_bounds⟩
  | 4 => some ⟨"_law_entries", 2, 10, b_law_entries_mm⟩
  | 5 => some ⟨"_law_judged", 2, 4, b_law_judged⟩
  | 6 => some ⟨"_law_same", 2, 4, b_law_same⟩
  | 7 => some ⟨"check_bounds", 1, 7, b_check_bounds⟩
  | 8 => some ⟨"room_in", 3, 7, b_room_in⟩
  | 9 => some ⟨"_law_room", 3, 6, b_law_room⟩
  | 10 => some ⟨"_law_int", 1, 1, b_law_int⟩
  | 11 => some ⟨"odd_die", 2, 4, b_odd_die⟩
  | 12 => some ⟨"_law_wide", 2, 4, b_law_wide⟩
  | 13 => some ⟨"equal_bounds", 2, 4, b_equal_bounds⟩
  | 14 => some ⟨"product_bounds", 1, 5, b_product_bounds⟩
  | 15 => some ⟨"_law_deck_full", 1, 6, b_law_deck_full⟩
  | 16 => some ⟨"is_full", 2, 8, b_is_full⟩
  | 17 => some ⟨"is_within", 2, 8, b_is_within⟩
  | 18 => some ⟨"_law_within", 3, 5, b_law_within⟩
  | 19 => some ⟨"is_row", 1, 1, b_is_row⟩
  | 20 => some ⟨"is_int", 1, 1, b_is_int⟩
  | 21 => some ⟨"bounds_and_scores", 2, 4, b_bounds_and_scores⟩
  | 22 => some ⟨"set_of", 2, 2, b_set_of⟩
  | 23 => some ⟨"crossing_sum", 2, 5, b_crossing_sum⟩
  | 24 => some ⟨"uneven_die", 2, 4, b_uneven_die⟩
  | 25 => some ⟨"check_int", 3, 3, b_check_int⟩
  | 26 => some ⟨"faces_row", 1, 2, b_faces_row⟩
  | 27 => some ⟨"of_word", 3, 6, b_Cup_of_word⟩
  | 28 => some ⟨"table_of", 1, 8, b_table_of⟩
  | 29 => some ⟨"face_numbers", 1, 2, b_face_numbers⟩
  | 30 => some ⟨"table_and_bounds", 2, 4, b_table_and_bounds⟩
  | 31 => some ⟨"scores_row", 1, 2, b_scores_row⟩
  | 32 => some ⟨"picked", 2, 5, b_picked⟩
  | 33 => some ⟨"letters_of", 2, 4, b_letters_of⟩
  | 34 => some ⟨"__init__", 2, 2, b_Cup_init⟩
  | 35 => some ⟨"dice_of", 1, 3, b_dice_of⟩
  | 36 => some ⟨"count_lead", 2, 7, b_count_lead⟩
  | 37 => some ⟨"checked", 1, 1, b_Cup_checked⟩
  | 38 => some ⟨"check_table", 1, 7, b_check_table⟩
  | 39 => some ⟨"is_die", 1, 2, b_is_die⟩
  | _ => none
theorem u_law {k : Nat} {ds : List D} {h : CH} (hl : ds.length = 1) : run tb (k + 1) 0 ds h = fin (evSs (run tb k) b_law (envOf 21 ds) h) := run_eq (fd := ⟨"law", 1, 21, b_law⟩) rfl hl
theorem u_law_draws_m {k : Nat} {ds : List D} {h : CH} (hl : ds.length = 1) : run tb (k + 1) 1 ds h = fin (evSs (run tb k) b_law_draws_m (envOf 6 ds) h) := run_eq (fd := ⟨"_law_draws", 1, 6, b_law_draws_m⟩) rfl hl
theorem u_law_take {k : Nat} {ds : List D} {h : CH} (hl : ds.length = 2) : run tb (k + 1) 2 ds h = fin (evSs (run tb k) b_law_take (envOf 2 ds) h) := run_eq (fd := ⟨"_law_take", 2, 2, b_law_take⟩) rfl hl
theorem u_law_bounds {k : Nat} {ds : List D} {h : CH} (hl : ds.length = 3) : run tb (k + 1) 3 ds h = fin (evSs (run tb k) b_law_bounds (envOf 9 ds) h) := run_eq (fd := ⟨"_law_bounds", 3, 9, b_law_bounds⟩) rfl hl
theorem u_law_entries_mm {k : Nat} {ds : List D} {h : CH} (hl : ds.length = 2) : run tb (k + 1) 4 ds h = fin (evSs (run tb k) b_law_entries_mm (envOf 10 ds) h) := run_eq (fd := ⟨"_law_entries", 2, 10, b_law_entries_mm⟩) rfl hl
theorem u_law_judged {k : Nat} {ds : List D} {h : CH} (hl : ds.length = 2) : run tb (k + 1) 5 ds h = fin (evSs (run tb k) b_law_judged (envOf 4 ds) h) := run_eq (fd := ⟨"_law_judged", 2, 4, b_law_judged⟩) rfl hl
theorem u_law_same {k : Nat} {ds : List D} {h : CH} (hl : ds.length = 2) : run tb (k + 1) 6 ds h = fin (evSs (run tb k) b_law_same (envOf 4 ds) h) := run_eq (fd := ⟨"_law_same", 2, 4, b_law_same⟩) rfl hl
theorem u_check_bounds {k : Nat} {ds : List D} {h : CH} (hl : ds.length = 1) : run tb (k + 1) 7 ds h = fin (evSs (run tb k) b_check_bounds (envOf 7 ds) h) := run_eq (fd := ⟨"check_bounds", 1, 7, b_check_bounds⟩) rfl hl
theorem u_room_in {k : Nat} {ds : List D} {h : CH} (hl : ds.length = 3) : run tb (k + 1) 8 ds h = fin (evSs (run tb k) b_room_in (envOf 7 ds) h) := run_eq (fd := ⟨"room_in", 3, 7, b_room_in⟩) rfl hl
theorem u_law_room {k : Nat} {ds : List D} {h : CH} (hl : ds.length = 3) : run tb (k + 1) 9 ds h = fin (evSs (run tb k) b_law_room (envOf 6 ds) h) := run_eq (fd := ⟨"_law_room", 3, 6, b_law_room⟩) rfl hl
theorem u_law_int {k : Nat} {ds : List D} {h : CH} (hl : ds.length = 1) : run tb (k + 1) 10 ds h = fin (evSs (run tb k) b_law_int (envOf 1 ds) h) := run_eq (fd := ⟨"_law_int", 1, 1, b_law_int⟩) rfl hl
theorem u_odd_die {k : Nat} {ds : List D} {h : CH} (hl : ds.length = 2) : run tb (k + 1) 11 ds h = fin (evSs (run tb k) b_odd_die (envOf 4 ds) h) := run_eq (fd := ⟨"odd_die", 2, 4, b_odd_die⟩) rfl hl
theorem u_law_wide {k : Nat} {ds : List D} {h : CH} (hl : ds.length = 2) : run tb (k + 1) 12 ds h = fin (evSs (run tb k) b_law_wide (envOf 4 ds) h) := run_eq (fd := ⟨"_law_wide", 2, 4, b_law_wide⟩) rfl hl
theorem u_equal_bounds {k : Nat} {ds : List D} {h : CH} (hl : ds.length = 2) : run tb (k + 1) 13 ds h = fin (evSs (run tb k) b_equal_bounds (envOf 4 ds) h) := run_eq (fd := ⟨"equal_bounds", 2, 4, b_equal_bounds⟩) rfl hl
theorem u_product_bounds {k : Nat} {ds : List D} {h : CH} (hl : ds.length = 1) : run tb (k + 1) 14 ds h = fin (evSs (run tb k) b_product_bounds (envOf 5 ds) h) := run_eq (fd := ⟨"product_bounds", 1, 5, b_product_bounds⟩) rfl hl
theorem u_law_deck_full {k : Nat} {ds : List D} {h : CH} (hl : ds.length = 1) : run tb (k + 1) 15 ds h = fin (evSs (run tb k) b_law_deck_full (envOf 6 ds) h) := run_eq (fd := ⟨"_law_deck_full", 1, 6, b_law_deck_full⟩) rfl hl
theorem u_is_full {k : Nat} {ds : List D} {h : CH} (hl : ds.length = 2) : run tb (k + 1) 16 ds h = fin (evSs (run tb k) b_is_full (envOf 8 ds) h) := run_eq (fd := ⟨"is_full", 2, 8, b_is_full⟩) rfl hl
theorem u_is_within {k : Nat} {ds : List D} {h : CH} (hl : ds.length = 2) : run tb (k + 1) 17 ds h = fin (evSs (run tb k) b_is_within (envOf 8 ds) h) := run_eq (fd := ⟨"is_within", 2, 8, b_is_within⟩) rfl hl
theorem u_law_within {k : Nat} {ds : List D} {h : CH} (hl : ds.length = 3) : run tb (k + 1) 18 ds h = fin (evSs (run tb k) b_law_within (envOf 5 ds) h) := run_eq (fd := ⟨"_law_within", 3, 5, b_law_within⟩) rfl hl
theorem u_is_row {k : Nat} {ds : List D} {h : CH} (hl : ds.length = 1) : run tb (k + 1) 19 ds h = fin (evSs (run tb k) b_is_row (envOf 1 ds) h) := run_eq (fd := ⟨"is_row", 1, 1, b_is_row⟩) rfl hl
theorem u_is_int {k : Nat} {ds : List D} {h : CH} (hl : ds.length = 1) : run tb (k + 1) 20 ds h = fin (evSs (run tb k) b_is_int (envOf 1 ds) h) := run_eq (fd := ⟨"is_int", 1, 1, b_is_int⟩) rfl hl
theorem u_bounds_and_scores {k : Nat} {ds : List D} {h : CH} (hl : ds.length = 2) : run tb (k + 1) 21 ds h = fin (evSs (run tb k) b_bounds_and_scores (envOf 4 ds) h) := run_eq (fd := ⟨"bounds_and_scores", 2, 4, b_bounds_and_scores⟩) rfl hl
theorem u_set_of {k : Nat} {ds : List D} {h : CH} (hl : ds.length = 2) : run tb (k + 1) 22 ds h = fin (evSs (run tb k) b_set_of (envOf 2 ds) h) := run_eq (fd := ⟨"set_of", 2, 2, b_set_of⟩) rfl hl
theorem u_crossing_sum {k : Nat} {ds : List D} {h : CH} (hl : ds.length = 2) : run tb (k + 1) 23 ds h = fin (evSs (run tb k) b_crossing_sum (envOf 5 ds) h) := run_eq (fd := ⟨"crossing_sum", 2, 5, b_crossing_sum⟩) rfl hl
theorem u_uneven_die {k : Nat} {ds : List D} {h : CH} (hl : ds.length = 2) : run tb (k + 1) 24 ds h = fin (evSs (run tb k) b_uneven_die (envOf 4 ds) h) := run_eq (fd := ⟨"uneven_die", 2, 4, b_uneven_die⟩) rfl hl
theorem u_check_int {k : Nat} {ds : List D} {h : CH} (hl : ds.length = 3) : run tb (k + 1) 25 ds h = fin (evSs (run tb k) b_check_int (envOf 3 ds) h) := run_eq (fd := ⟨"check_int", 3, 3, b_check_int⟩) rfl hl
theorem u_faces_row {k : Nat} {ds : List D} {h : CH} (hl : ds.length = 1) : run tb (k + 1) 26 ds h = fin (evSs (run tb k) b_faces_row (envOf 2 ds) h) := run_eq (fd := ⟨"faces_row", 1, 2, b_faces_row⟩) rfl hl
theorem u_Cup_of_word {k : Nat} {ds : List D} {h : CH} (hl : ds.length = 3) : run tb (k + 1) 27 ds h = fin (evSs (run tb k) b_Cup_of_word (envOf 6 ds) h) := run_eq (fd := ⟨"of_word", 3, 6, b_Cup_of_word⟩) rfl hl
theorem u_table_of {k : Nat} {ds : List D} {h : CH} (hl : ds.length = 1) : run tb (k + 1) 28 ds h = fin (evSs (run tb k) b_table_of (envOf 8 ds) h) := run_eq (fd := ⟨"table_of", 1, 8, b_table_of⟩) rfl hl
theorem u_face_numbers {k : Nat} {ds : List D} {h : CH} (hl : ds.length = 1) : run tb (k + 1) 29 ds h = fin (evSs (run tb k) b_face_numbers (envOf 2 ds) h) := run_eq (fd := ⟨"face_numbers", 1, 2, b_face_numbers⟩) rfl hl
theorem u_table_and_bounds {k : Nat} {ds : List D} {h : CH} (hl : ds.length = 2) : run tb (k + 1) 30 ds h = fin (evSs (run tb k) b_table_and_bounds (envOf 4 ds) h) := run_eq (fd := ⟨"table_and_bounds", 2, 4, b_table_and_bounds⟩) rfl hl
theorem u_scores_row {k : Nat} {ds : List D} {h : CH} (hl : ds.length = 1) : run tb (k + 1) 31 ds h = fin (evSs (run tb k) b_scores_row (envOf 2 ds) h) := run_eq (fd := ⟨"scores_row", 1, 2, b_scores_row⟩) rfl hl
theorem u_picked {k : Nat} {ds : List D} {h : CH} (hl : ds.length = 2) : run tb (k + 1) 32 ds h = fin (evSs (run tb k) b_picked (envOf 5 ds) h) := run_eq (fd := ⟨"picked", 2, 5, b_picked⟩) rfl hl
theorem u_letters_of {k : Nat} {ds : List D} {h : CH} (hl : ds.length = 2) : run tb (k + 1) 33 ds h = fin (evSs (run tb k) b_letters_of (envOf 4 ds) h) := run_eq (fd := ⟨"letters_of", 2, 4, b_letters_of⟩) rfl hl
theorem u_Cup_init {k : Nat} {ds : List D} {h : CH} (hl : ds.length = 2) : run tb (k + 1) 34 ds h = fin (evSs (run tb k) b_Cup_init (envOf 2 ds) h) := run_eq (fd := ⟨"__init__", 2, 2, b_Cup_init⟩) rfl hl
theorem u_dice_of {k : Nat} {ds : List D} {h : CH} (hl : ds.length = 1) : run tb (k + 1) 35 ds h = fin (evSs (run tb k) b_dice_of (envOf 3 ds) h) := run_eq (fd := ⟨"dice_of", 1, 3, b_dice_of⟩) rfl hl
theorem u_count_lead {k : Nat} {ds : List D} {h : CH} (hl : ds.length = 2) : run tb (k + 1) 36 ds h = fin (evSs (run tb k) b_count_lead (envOf 7 ds) h) := run_eq (fd := ⟨"count_lead", 2, 7, b_count_lead⟩) rfl hl
theorem u_Cup_checked {k : Nat} {ds : List D} {h : CH} (hl : ds.length = 1) : run tb (k + 1) 37 ds h = fin (evSs (run tb k) b_Cup_checked (envOf 1 ds) h) := run_eq (fd := ⟨"checked", 1, 1, b_Cup_checked⟩) rfl hl
theorem u_check_table {k : Nat} {ds : List D} {h : CH} (hl : ds.length = 1) : run tb (k + 1) 38 ds h = fin (evSs (run tb k) b_check_table (envOf 7 ds) h) := run_eq (fd := ⟨"check_table", 1, 7, b_check_table⟩) rfl hl
theorem u_is_die {k : Nat} {ds : List D} {h : CH} (hl : ds.length = 1) : run tb (k + 1) 39 ds h = fin (evSs (run tb k) b_is_die (envOf 2 ds) h) := run_eq (fd := ⟨"is_die", 1, 2, b_is_die⟩) rfl hl
end ZK53

end
section
namespace ZK53
open PySem PySem.Spec PyProof.Rows L2 Z
def top (i : Nat) : Stmt := PySem.Challenge.pw_dicewhobeats_k53_bounds_rooms_and_full_t.main.body.getD i (.Pass ⟨0, 0, 0, 0⟩)
def ctop (i j : Nat) : Stmt := match top i with | .ClassDef _ _ _ b _ _ _ _ _ _ _ => b.getD j (.Pass ⟨0, 0, 0, 0⟩) | s => s
def d_law : Def := ⟨"law", defArgs (top 55), defBody (top 55), defScope (top 55), ["script", "drawn", "many", "bounds", "table", "kept", "one", "other", "scores", "chosen", "numbers", "odd", "told", "faces", "due", "i", "number", "level", "step", "row", "j"], ["script"], none, b_law, none, 0⟩
def d_law_draws_m : Def := ⟨"_law_draws", defArgs (top 44), defBody (top 44), defScope (top 44), ["script", "drawn", "at", "cell", "turn", "state"], ["script"], none, b_law_draws_m, none, 0⟩
def d_law_take : Def := ⟨"_law_take", defArgs (top 45), defBody (top 45), defScope (top 45), ["drawn", "many"], ["drawn", "many"], none, b_law_take, none, 0⟩
def d_law_bounds : Def := ⟨"_law_bounds", defArgs (top 48), defBody (top 48), defScope (top 48), ["drawn", "many", "positive", "top", "shape", "rows", "one", "other", "bound"], ["drawn", "many", "positive"], none, b_law_bounds, none, 0⟩
def d_law_entries_mm : Def := ⟨"_law_entries", defArgs (top 49), defBody (top 49), defScope (top 49), ["drawn", "bounds", "many", "shape", "rows", "one", "other", "bound", "word", "entry"], ["drawn", "bounds"], none, b_law_entries_mm, none, 0⟩
def d_law_judged : Def := ⟨"_law_judged", defArgs (top 53), defBody (top 53), defScope (top 53), ["table", "bounds", "full", "told"], ["table", "bounds"], none, b_law_judged, none, 0⟩
def d_law_same : Def := ⟨"_law_same", defArgs (top 52), defBody (top 52), defScope (top 52), ["told", "rows", "at", "entry"], ["told", "rows"], none, b_law_same, none, 0⟩
def d_check_bounds : Def := ⟨"check_bounds", defArgs (top 32), defBody (top 32), defScope (top 32), ["bounds", "many", "row", "i", "j", "here", "there"], ["bounds"], none, b_check_bounds, none, 0⟩
def d_room_in : Def := ⟨"room_in", defArgs (top 40), defBody (top 40), defScope (top 40), ["bounds", "scores", "numbers", "chosen", "most", "due", "number"], ["bounds", "scores", "numbers"], none, b_room_in, none, 0⟩
def d_law_room : Def := ⟨"_law_room", defArgs (top 50), defBody (top 50), defScope (top 50), ["bounds", "scores", "chosen", "found", "one", "other"], ["bounds", "scores", "chosen"], none, b_law_room, none, 0⟩
def d_law_int : Def := ⟨"_law_int", defArgs (top 47), defBody (top 47), defScope (top 47), ["value"], ["value"], none, b_law_int, none, 0⟩
def d_odd_die : Def := ⟨"odd_die", defArgs (top 42), defBody (top 42), defScope (top 42), ["bounds", "scores", "most", "due"], ["bounds", "scores"], none, b_odd_die, none, 0⟩
def d_law_wide : Def := ⟨"_law_wide", defArgs (top 46), defBody (top 46), defScope (top 46), ["drawn", "most", "found", "turn"], ["drawn", "most"], none, b_law_wide, none, 0⟩
def d_equal_bounds : Def := ⟨"equal_bounds", defArgs (top 34), defBody (top 34), defScope (top 34), ["many", "number", "i", "j"], ["many", "number"], none, b_equal_bounds, none, 0⟩
def d_product_bounds : Def := ⟨"product_bounds", defArgs (top 33), defBody (top 33), defScope (top 33), ["faces", "told", "many", "i", "j"], ["faces"], none, b_product_bounds, none, 0⟩
def d_law_deck_full : Def := ⟨"_law_deck_full", defArgs (top 54), defBody (top 54), defScope (top 54), ["drawn", "many", "word", "turn", "cup", "number"], ["drawn"], none, b_law_deck_full, none, 0⟩
def d_is_full : Def := ⟨"is_full", defArgs (top 37), defBody (top 37), defScope (top 37), ["table", "bounds", "rows", "most", "i", "row", "j", "entry"], ["table", "bounds"], none, b_is_full, none, 0⟩
def d_is_within : Def := ⟨"is_within", defArgs (top 36), defBody (top 36), defScope (top 36), ["table", "bounds", "rows", "most", "i", "row", "j", "entry"], ["table", "bounds"], none, b_is_within, none, 0⟩
def d_law_within : Def := ⟨"_law_within", defArgs (top 51), defBody (top 51), defScope (top 51), ["table", "bounds", "full", "one", "other"], ["table", "bounds", "full"], none, b_law_within, none, 0⟩
def d_is_row : Def := ⟨"is_row", defArgs (top 11), defBody (top 11), defScope (top 11), ["value"], ["value"], none, b_is_row, none, 0⟩
def d_is_int : Def := ⟨"is_int", defArgs (top 10), defBody (top 10), defScope (top 10), ["value"], ["value"], none, b_is_int, none, 0⟩
def d_bounds_and_scores : Def := ⟨"bounds_and_scores", defArgs (top 38), defBody (top 38), defScope (top 38), ["bounds", "scores", "most", "due"], ["bounds", "scores"], none, b_bounds_and_scores, none, 0⟩
def d_set_of : Def := ⟨"set_of", defArgs (top 14), defBody (top 14), defScope (top 14), ["row", "many"], ["row", "many"], none, b_set_of, none, 0⟩
def d_crossing_sum : Def := ⟨"crossing_sum", defArgs (top 39), defBody (top 39), defScope (top 39), ["most", "chosen", "i", "j", "entry"], ["most", "chosen"], none, b_crossing_sum, none, 0⟩
def d_uneven_die : Def := ⟨"uneven_die", defArgs (top 41), defBody (top 41), defScope (top 41), ["most", "due", "number", "row"], ["most", "due"], none, b_uneven_die, none, 0⟩
def d_check_int : Def := ⟨"check_int", defArgs (top 12), defBody (top 12), defScope (top 12), ["value", "name", "low"], ["value", "name", "low"], none, b_check_int, none, 0⟩
def d_faces_row : Def := ⟨"faces_row", defArgs (top 29), defBody (top 29), defScope (top 29), ["row", "entry"], ["row"], none, b_faces_row, none, 0⟩
def d_Cup_of_word : Def := ⟨"of_word", defArgs (ctop 18 2), defBody (ctop 18 2), defScope (ctop 18 2), ["cls", "word", "many", "letters", "i", "letter"], ["cls", "word", "many"], none, b_Cup_of_word, (some "Cup"), 2⟩
def d_table_of : Def := ⟨"table_of", defArgs (top 25), defBody (top 25), defScope (top 25), ["cup", "rows", "many", "leads", "i", "j", "row", "worth"], ["cup"], none, b_table_of, none, 0⟩
def d_face_numbers : Def := ⟨"face_numbers", defArgs (top 28), defBody (top 28), defScope (top 28), ["cup", "row"], ["cup"], none, b_face_numbers, none, 0⟩
def d_table_and_bounds : Def := ⟨"table_and_bounds", defArgs (top 35), defBody (top 35), defScope (top 35), ["table", "bounds", "rows", "most"], ["table", "bounds"], none, b_table_and_bounds, none, 0⟩
def d_scores_row : Def := ⟨"scores_row", defArgs (top 30), defBody (top 30), defScope (top 30), ["row", "entry"], ["row"], none, b_scores_row, none, 0⟩
def d_picked : Def := ⟨"picked", defArgs (top 13), defBody (top 13), defScope (top 13), ["row", "many", "met", "place", "entry"], ["row", "many"], none, b_picked, none, 0⟩
def d_letters_of : Def := ⟨"letters_of", defArgs (top 20), defBody (top 20), defScope (top 20), ["word", "many", "place", "letter"], ["word", "many"], none, b_letters_of, none, 0⟩
def d_Cup_init : Def := ⟨"__init__", defArgs (ctop 18 1), defBody (ctop 18 1), defScope (ctop 18 1), ["self", "dice"], ["self", "dice"], none, b_Cup_init, (some "Cup"), 0⟩
def d_dice_of : Def := ⟨"dice_of", defArgs (top 19), defBody (top 19), defScope (top 19), ["cup", "i", "row"], ["cup"], none, b_dice_of, none, 0⟩
def d_count_lead : Def := ⟨"count_lead", defArgs (top 23), defBody (top 23), defScope (top 23), ["one", "other", "total", "mine_lower", "theirs_lower", "mine", "theirs"], ["one", "other"], none, b_count_lead, none, 0⟩
def d_Cup_checked : Def := ⟨"checked", defArgs (ctop 18 3), defBody (ctop 18 3), defScope (ctop 18 3), ["dice"], ["dice"], none, b_Cup_checked, (some "Cup"), 1⟩
def d_check_table : Def := ⟨"check_table", defArgs (top 26), defBody (top 26), defScope (top 26), ["rows", "many", "row", "i", "j", "here", "there"], ["rows"], none, b_check_table, none, 0⟩
def d_is_die : Def := ⟨"is_die", defArgs (top 16), defBody (top 16), defScope (top 16), ["row", "entry"], ["row"], none, b_is_die, none, 0⟩
def defs : List Def := [d_law, d_law_draws_m, d_law_take, d_law_bounds, d_law_entries_mm, d_law_judged, d_law_same, d_check_bounds, d_room_in, d_law_room, d_law_int, d_odd_die, d_law_wide, d_equal_bounds, d_product_bounds, d_law_deck_full, d_is_full, d_is_within, d_law_within, d_is_row, d_is_int, d_bounds_and_scores, d_set_of, d_crossing_sum, d_uneven_die, d_check_int, d_faces_row, d_Cup_of_word, d_table_of, d_face_numbers, d_table_and_bounds, d_scores_row, d_picked, d_letters_of, d_Cup_init, d_dice_of, d_count_lead, d_Cup_checked, d_check_table, d_is_die]
def bn : List Str := ["abs", "all", "bool", "classmethod", "enumerate", "int", "isinstance", "len", "list", "max", "min", "range", "set", "sorted", "staticmethod", "sum", "tuple", "zip"]
def tf : Option Str := none
def cs : List CD := [⟨"Cup", ["dice", "ranks"], some (34, 1)⟩]
def its : List ItD := []
def li : LI := liOf defs bn cs tf its
theorem its_ok : ∀ d ∈ its, d.okB cs = true ∧ d.scB = true ∧ d.binds := fun d hd => by
  cases hd
theorem cs_ok : ∀ d ∈ cs, d.okB defs = true := List.all_eq_true.1 (by decide +kernel)
theorem ls_law : d_law.scB = true := by kernel_rfl
theorem lc_law : d_law.chk li = true := by kernel_rfl
theorem lp_law : d_law.binds := fun _ _ _ _ _ _ us hl => match us, hl with | [_], _ => rfl
theorem ls_law_draws_m : d_law_draws_m.scB = true := by kernel_rfl
theorem lc_law_draws_m : d_law_draws_m.chk li = true := by kernel_rfl
theorem lp_law_draws_m : d_law_draws_m.binds := fun _ _ _ _ _ _ us hl => match us, hl with | [_], _ => rfl
theorem ls_law_take : d_law_take.scB = true := by kernel_rfl
theorem lc_law_take : d_law_take.chk li = true := by kernel_rfl
theorem lp_law_take : d_law_take.binds := fun _ _ _ _ _ _ us hl => match us, hl with | [_, _], _ => rfl
theorem ls_law_bounds : d_law_bounds.scB = true := by kernel_rfl
theorem lc_law_bounds : d_law_bounds.chk li = true := by kernel_rfl
theorem lp_law_bounds : d_law_bounds.binds := fun _ _ _ _ _ _ us hl => match us, hl with | [_, _, _], _ => rfl
theorem ls_law_entries_mm : d_law_entries_mm.scB = true := by kernel_rfl
theorem lc_law_entries_mm : d_law_entries_mm.chk li = true := by kernel_rfl
theorem lp_law_entries_mm : d_law_entries_mm.binds := fun _ _ _ _ _ _ us hl => match us, hl with | [_, _], _ => rfl
theorem ls_law_judged : d_law_judged.scB = true := by kernel_rfl
theorem lc_law_judged : d_law_judged.chk li = true := by kernel_rfl
theorem lp_law_judged : d_law_judged.binds := fun _ _ _ _ _ _ us hl => match us, hl with | [_, _], _ => rfl
theorem ls_law_same : d_law_same.scB = true := by kernel_rfl
theorem lc_law_same : d_law_same.chk li = true := by kernel_rfl
theorem lp_law_same : d_law_same.binds := fun _ _ _ _ _ _ us hl => match us, hl with | [_, _], _ => rfl
theorem ls_check_bounds : d_check_bounds.scB = true := by kernel_rfl
theorem lc_check_bounds : d_check_bounds.chk li = true := by kernel_rfl
theorem lp_check_bounds : d_check_bounds.binds := fun _ _ _ _ _ _ us hl => match us, hl with | [_], _ => rfl
theorem ls_room_in : d_room_in.scB = true := by kernel_rfl
theorem lc_room_in : d_room_in.chk li = true := by kernel_rfl
theorem lp_room_in : d_room_in.binds := fun _ _ _ _ _ _ us hl => match us, hl with | [_, _, _], _ => rfl
theorem ls_law_room : d_law_room.scB = true := by kernel_rfl
theorem lc_law_room : d_law_room.chk li = true := by kernel_rfl
theorem lp_law_room : d_law_room.binds := fun _ _ _ _ _ _ us hl => match us, hl with | [_, _, _], _ => rfl
theorem ls_law_int : d_law_int.scB = true := by kernel_rfl
theorem lc_law_int : d_law_int.chk li = true := by kernel_rfl
theorem lp_law_int : d_law_int.binds := fun _ _ _ _ _ _ us hl => match us, hl with | [_], _ => rfl
theorem ls_odd_die : d_odd_die.scB = true := by kernel_rfl
theorem lc_odd_die : d_odd_die.chk li = true := by kernel_rfl
theorem lp_odd_die : d_odd_die.binds := fun _ _ _ _ _ _ us hl => match us, hl with | [_, _], _ => rfl
theorem ls_law_wide : d_law_wide.scB = true := by kernel_rfl
theorem lc_law_wide : d_law_wide.chk li = true := by kernel_rfl
theorem lp_law_wide : d_law_wide.binds := fun _ _ _ _ _ _ us hl => match us, hl with | [_, _], _ => rfl
theorem ls_equal_bounds : d_equal_bounds.scB = true := by kernel_rfl
theorem lc_equal_bounds : d_equal_bounds.chk li = true := by kernel_rfl
theorem lp_equal_bounds : d_equal_bounds.binds := fun _ _ _ _ _ _ us hl => match us, hl with | [_, _], _ => rfl
theorem ls_product_bounds : d_product_bounds.scB = true := by kernel_rfl
theorem lc_product_bounds : d_product_bounds.chk li = true := by kernel_rfl
theorem lp_product_bounds : d_product_bounds.binds := fun _ _ _ _ _ _ us hl => match us, hl with | [_], _ => rfl
theorem ls_law_deck_full : d_law_deck_full.scB = true := by kernel_rfl
theorem lc_law_deck_full : d_law_deck_full.chk li = true := by kernel_rfl
theorem lp_law_deck_full : d_law_deck_full.binds := fun _ _ _ _ _ _ us hl => match us, hl with | [_], _ => rfl
theorem ls_is_full : d_is_full.scB = true := by kernel_rfl
theorem lc_is_full : d_is_full.chk li = true := by kernel_rfl
theorem lp_is_full : d_is_full.binds := fun _ _ _ _ _ _ us hl => match us, hl with | [_, _], _ => rfl
theorem ls_is_within : d_is_within.scB = true := by kernel_rfl
theorem lc_is_within : d_is_within.chk li = true := by kernel_rfl
theorem lp_is_within : d_is_within.binds := fun _ _ _ _ _ _ us hl => match us, hl with | [_, _], _ => rfl
theorem ls_law_within : d_law_within.scB = true := by kernel_rfl
theorem lc_law_within : d_law_within.chk li = true := by kernel_rfl
theorem lp_law_within : d_law_within.binds := fun _ _ _ _ _ _ us hl => match us, hl with | [_, _, _], _ => rfl
theorem ls_is_row : d_is_row.scB = true := by kernel_rfl
theorem lc_is_row : d_is_row.chk li = true := by kernel_rfl
theorem lp_is_row : d_is_row.binds := fun _ _ _ _ _ _ us hl => match us, hl with | [_], _ => rfl
theorem ls_is_int : d_is_int.scB = true := by kernel_rfl
theorem lc_is_int : d_is_int.chk li = true := by kernel_rfl
theorem lp_is_int : d_is_int.binds := fun _ _ _ _ _ _ us hl => match us, hl with | [_], _ => rfl
theorem ls_bounds_and_scores : d_bounds_and_scores.scB = true := by kernel_rfl
theorem lc_bounds_and_scores : d_bounds_and_scores.chk li = true := by kernel_rfl
theorem lp_bounds_and_scores : d_bounds_and_scores.binds := fun _ _ _ _ _ _ us hl => match us, hl with | [_, _], _ => rfl
theorem ls_set_of : d_set_of.scB = true := by kernel_rfl
theorem lc_set_of : d_set_of.chk li = true := by kernel_rfl
theorem lp_set_of : d_set_of.binds := fun _ _ _ _ _ _ us hl => match us, hl with | [_, _], _ => rfl
theorem ls_crossing_sum : d_crossing_sum.scB = true := by kernel_rfl
theorem lc_crossing_sum : d_crossing_sum.chk li = true := by kernel_rfl
theorem lp_crossing_sum : d_crossing_sum.binds := fun _ _ _ _ _ _ us hl => match us, hl with | [_, _], _ => rfl
theorem ls_uneven_die : d_uneven_die.scB = true := by kernel_rfl
theorem lc_uneven_die : d_uneven_die.chk li = true := by kernel_rfl
theorem lp_uneven_die : d_uneven_die.binds := fun _ _ _ _ _ _ us hl => match us, hl with | [_, _], _ => rfl
theorem ls_check_int : d_check_int.scB = true := by kernel_rfl
theorem lc_check_int : d_check_int.chk li = true := by kernel_rfl
theorem lp_check_int : d_check_int.binds := fun _ _ _ _ _ _ us hl => match us, hl with | [_, _, _], _ => rfl
theorem ls_faces_row : d_faces_row.scB = true := by kernel_rfl
theorem lc_faces_row : d_faces_row.chk li = true := by kernel_rfl
theorem lp_faces_row : d_faces_row.binds := fun _ _ _ _ _ _ us hl => match us, hl with | [_], _ => rfl
theorem ls_Cup_of_word : d_Cup_of_word.scB = true := by kernel_rfl
theorem lc_Cup_of_word : d_Cup_of_word.chk li = true := by kernel_rfl
theorem lp_Cup_of_word : d_Cup_of_word.binds := fun _ _ _ _ _ _ us hl => match us, hl with | [_, _, _], _ => rfl
theorem ls_table_of : d_table_of.scB = true := by kernel_rfl
theorem lc_table_of : d_table_of.chk li = true := by kernel_rfl
theorem lp_table_of : d_table_of.binds := fun _ _ _ _ _ _ us hl => match us, hl with | [_], _ => rfl
theorem ls_face_numbers : d_face_numbers.scB = true := by kernel_rfl
theorem lc_face_numbers : d_face_numbers.chk li = true := by kernel_rfl
theorem lp_face_numbers : d_face_numbers.binds := fun _ _ _ _ _ _ us hl => match us, hl with | [_], _ => rfl
theorem ls_table_and_bounds : d_table_and_bounds.scB = true := by kernel_rfl
theorem lc_table_and_bounds : d_table_and_bounds.chk li = true := by kernel_rfl
theorem lp_table_and_bounds : d_table_and_bounds.binds := fun _ _ _ _ _ _ us hl => match us, hl with | [_, _], _ => rfl
theorem ls_scores_row : d_scores_row.scB = true := by kernel_rfl
theorem lc_scores_row : d_scores_row.chk li = true := by kernel_rfl
theorem lp_scores_row : d_scores_row.binds := fun _ _ _ _ _ _ us hl => match us, hl with | [_], _ => rfl
theorem ls_picked : d_picked.scB = true := by kernel_rfl
theorem lc_picked : d_picked.chk li = true := by kernel_rfl
theorem lp_picked : d_picked.binds := fun _ _ _ _ _ _ us hl => match us, hl with | [_, _], _ => rfl
theorem ls_letters_of : d_letters_of.scB = true := by kernel_rfl
theorem lc_letters_of : d_letters_of.chk li = true := by kernel_rfl
theorem lp_letters_of : d_letters_of.binds := fun _ _ _ _ _ _ us hl => match us, hl with | [_, _], _ => rfl
theorem ls_Cup_init : d_Cup_init.scB = true := by kernel_rfl
theorem lc_Cup_init : d_Cup_init.chk li = true := by kernel_rfl
theorem lp_Cup_init : d_Cup_init.binds := fun _ _ _ _ _ _ us hl => match us, hl with | [_, _], _ => rfl
theorem ls_dice_of : d_dice_of.scB = true := by kernel_rfl
theorem lc_dice_of : d_dice_of.chk li = true := by kernel_rfl
theorem lp_dice_of : d_dice_of.binds := fun _ _ _ _ _ _ us hl => match us, hl with | [_], _ => rfl
theorem ls_count_lead : d_count_lead.scB = true := by kernel_rfl
theorem lc_count_lead : d_count_lead.chk li = true := by kernel_rfl
theorem lp_count_lead : d_count_lead.binds := fun _ _ _ _ _ _ us hl => match us, hl with | [_, _], _ => rfl
theorem ls_Cup_checked : d_Cup_checked.scB = true := by kernel_rfl
theorem lc_Cup_checked : d_Cup_checked.chk li = true := by kernel_rfl
theorem lp_Cup_checked : d_Cup_checked.binds := fun _ _ _ _ _ _ us hl => match us, hl with | [_], _ => rfl
theorem ls_check_table : d_check_table.scB = true := by kernel_rfl
theorem lc_check_table : d_check_table.chk li = true := by kernel_rfl
theorem lp_check_table : d_check_table.binds := fun _ _ _ _ _ _ us hl => match us, hl with | [_], _ => rfl
theorem ls_is_die : d_is_die.scB = true := by kernel_rfl
theorem lc_is_die : d_is_die.chk li = true := by kernel_rfl
theorem lp_is_die : d_is_die.binds := fun _ _ _ _ _ _ us hl => match us, hl with | [_], _ => rfl
theorem all_s : ∀ (i : Nat) (d : Def), defs[i]? = some d → d.scB = true
  | 0, _, h => by cases h; exact ls_law
  | 1, _, h => by cases h; exact ls_law_draws_m
  | 2, _, h => by cases h; exact ls_law_take
  | 3, _, h => by cases h; exact ls_law_bounds
  | 4, _, h => by cases h; exact ls_law_entries_mm
  | 5, _, h => by cases h; exact ls_law_judged
  | 6, _, h => by cases h; exact ls_law_same
  | 7, _, h => by cases h; exact ls_check_bounds
  | 8, _, h => by cases h; exact ls_room_in
  | 9, _, h => by cases h; exact ls_law_room
  | 10, _, h => by cases h; exact ls_law_int
  | 11, _, h => by cases h; exact ls_odd_die
  | 12, _, h => by cases h; exact ls_law_wide
  | 13, _, h => by cases h; exact ls_equal_bounds
  | 14, _, h => by cases h; exact ls_product_bounds
  | 15, _, h => by cases h; exact ls_law_deck_full
  | 16, _, h => by cases h; exact ls_is_full
  | 17, _, h => by cases h; exact ls_is_within
  | 18, _, h => by cases h; exact ls_law_within
  | 19, _, h => by cases h; exact ls_is_row
  | 20, _, h => by cases h; exact ls_is_int
  | 21, _, h => by cases h; exact ls_bounds_and_scores
  | 22, _, h => by cases h; exact ls_set_of
  | 23, _, h => by cases h; exact ls_crossing_sum
  | 24, _, h => by cases h; exact ls_uneven_die
  | 25, _, h => by cases h; exact ls_check_int
  | 26, _, h => by cases h; exact ls_faces_row
  | 27, _, h => by cases h; exact ls_Cup_of_word
  | 28, _, h => by cases h; exact ls_table_of
  | 29, _, h => by cases h; exact ls_face_numbers
  | 30, _, h => by cases h; exact ls_table_and_bounds
  | 31, _, h => by cases h; exact ls_scores_row
  | 32, _, h => by cases h; exact ls_picked
  | 33, _, h => by cases h; exact ls_letters_of
  | 34, _, h => by cases h; exact ls_Cup_init
  | 35, _, h => by cases h; exact ls_dice_of
  | 36, _, h => by cases h; exact ls_count_lead
  | 37, _, h => by cases h; exact ls_Cup_checked
  | 38, _, h => by cases h; exact ls_check_table
  | 39, _, h => by cases h; exact ls_is_die
  | n + 40, _, h => by cases h
theorem all_c : ∀ (i : Nat) (d : Def), defs[i]? = some d → d.chk li = true
  | 0, _, h => by cases h; exact lc_law
  | 1, _, h => by cases h; exact lc_law_draws_m
  | 2, _, h => by cases h; exact lc_law_take
  | 3, _, h => by cases h; exact lc_law_bounds
  | 4, _, h => by cases h; exact lc_law_entries_mm
  | 5, _, h => by cases h; exact lc_law_judged
  | 6, _, h => by cases h; exact lc_law_same
  | 7, _, h => by cases h; exact lc_check_bounds
  | 8, _, h => by cases h; exact lc_room_in
  | 9, _, h => by cases h; exact lc_law_room
  | 10, _, h => by cases h; exact lc_law_int
  | 11, _, h => by cases h; exact lc_odd_die
  | 12, _, h => by cases h; exact lc_law_wide
  | 13, _, h => by cases h; exact lc_equal_bounds
  | 14, _, h => by cases h; exact lc_product_bounds
  | 15, _, h => by cases h; exact lc_law_deck_full
  | 16, _, h => by cases h; exact lc_is_full
  | 17, _, h => by cases h; exact lc_is_within
  | 18, _, h => by cases h; exact lc_law_within
  | 19, _, h => by cases h; exact lc_is_row
  | 20, _, h => by cases h; exact lc_is_int
  | 21, _, h => by cases h; exact lc_bounds_and_scores
  | 22, _, h => by cases h; exact lc_set_of
  | 23, _, h => by cases h; exact lc_crossing_sum
  | 24, _, h => by cases h; exact lc_uneven_die
  | 25, _, h => by cases h; exact lc_check_int
  | 26, _, h => by cases h; exact lc_faces_row
  | 27, _, h => by cases h; exact lc_Cup_of_word
  | 28, _, h => by cases h; exact lc_table_of
  | 29, _, h => by cases h; exact lc_face_numbers
  | 30, _, h => by cases h; exact lc_table_and_bounds
  | 31, _, h => by cases h; exact lc_scores_row
  | 32, _, h => by cases h; exact lc_picked
  | 33, _, h => by cases h; exact lc_letters_of
  | 34, _, h => by cases h; exact lc_Cup_init
  | 35, _, h => by cases h; exact lc_dice_of
  | 36, _, h => by cases h; exact lc_count_lead
  | 37, _, h => by cases h; exact lc_Cup_checked
  | 38, _, h => by cases h; exact lc_check_table
  | 39, _, h => by cases h; exact lc_is_die
  | n + 40, _, h => by cases h
theorem all_p : ∀ (i : Nat) (d : Def), defs[i]? = some d → d.binds
  | 0, _, h => by cases h; exact lp_law
  | 1, _, h => by cases h; exact lp_law_draws_m
  | 2, _, h => by cases h; exact lp_law_take
  | 3, _, h => by cases h; exact lp_law_bounds
  | 4, _, h => by cases h; exact lp_law_entries_mm
  | 5, _, h => by cases h; exact lp_law_judged
  | 6, _, h => by cases h; exact lp_law_same
  | 7, _, h => by cases h; exact lp_check_bounds
  | 8, _, h => by cases h; exact lp_room_in
  | 9, _, h => by cases h; exact lp_law_room
  | 10, _, h => by cases h; exact lp_law_int
  | 11, _, h => by cases h; exact lp_odd_die
  | 12, _, h => by cases h; exact lp_law_wide
  | 13, _, h => by cases h; exact lp_equal_bounds
  | 14, _, h => by cases h; exact lp_product_bounds
  | 15, _, h => by cases h; exact lp_law_deck_full
  | 16, _, h => by cases h; exact lp_is_full
  | 17, _, h => by cases h; exact lp_is_within
  | 18, _, h => by cases h; exact lp_law_within
  | 19, _, h => by cases h; exact lp_is_row
  | 20, _, h => by cases h; exact lp_is_int
  | 21, _, h => by cases h; exact lp_bounds_and_scores
  | 22, _, h => by cases h; exact lp_set_of
  | 23, _, h => by cases h; exact lp_crossing_sum
  | 24, _, h => by cases h; exact lp_uneven_die
  | 25, _, h => by cases h; exact lp_check_int
  | 26, _, h => by cases h; exact lp_faces_row
  | 27, _, h => by cases h; exact lp_Cup_of_word
  | 28, _, h => by cases h; exact lp_table_of
  | 29, _, h => by cases h; exact lp_face_numbers
  | 30, _, h => by cases h; exact lp_table_and_bounds
  | 31, _, h => by cases h; exact lp_scores_row
  | 32, _, h => by cases h; exact lp_picked
  | 33, _, h => by cases h; exact lp_letters_of
  | 34, _, h => by cases h; exact lp_Cup_init
  | 35, _, h => by cases h; exact lp_dice_of
  | 36, _, h => by cases h; exact lp_count_lead
  | 37, _, h => by cases h; exact lp_Cup_checked
  | 38, _, h => by cases h; exact lp_check_table
  | 39, _, h => by cases h; exact lp_is_die
  | n + 40, _, h => by cases h
theorem tab_eq : tabOf defs = tb := by
  funext i
  match i with
  | 0 => rfl
  | 1 => rfl
  | 2 => rfl
  | 3 => rfl
  | 4 => rfl
  | 5 => rfl
  | 6 => rfl
  | 7 => rfl
  | 8 => rfl
  | 9 => rfl
  | 10 => rfl
  | 11 => rfl
  | 12 => rfl
  | 13 => rfl
  | 14 => rfl
  | 15 => rfl
  | 16 => rfl
  | 17 => rfl
  | 18 => rfl
  | 19 => rfl
  | 20 => rfl
  | 21 => rfl
  | 22 => rfl
  | 23 => rfl
  | 24 => rfl
  | 25 => rfl
  | 26 => rfl
  | 27 => rfl
  | 28 => rfl
  | 29 => rfl
  | 30 => rfl
  | 31 => rfl
  | 32 => rfl
  | 33 => rfl
  | 34 => rfl
  | 35 => rfl
  | 36 => rfl
  | 37 => rfl
  | 38 => rfl
  | 39 => rfl
  | n + 40 => rfl
end ZK53

end
section
namespace ZK53
open PySem PySem.Spec PyProof.Rows L2 Z
abbrev R : PySem.W.OpenRow := PySem.W.OpenLaw.row PySem.Challenge.rw_dicewhobeats_k53_bounds_rooms_and_full_t
abbrev fns : List He5.DefA := defs.map Def.hd ++ its.map ItD.hd
def as0 : List Nat := [3, 6, 4, 21, 31, 51, 70, 89, 108, 127, 146, 155, 162, 169, 176, 183, 188, 325, 334, 341, 346, 353, 358, 363, 368, 375, 382, 387, 392, 397, 404, 411, 418, 425, 430, 435, 442, 449, 456, 463, 470, 477, 482, 487, 494, 501, 508, 515, 520, 525, 0, 20, 30, 50, 69, 88, 107, 126, 145, 154, 161, 168, 175, 182, 187, 324, 333, 340, 345, 352, 357, 362, 367, 374, 381, 386, 391, 396, 403, 410, 417, 424, 429, 434, 441, 448, 455, 462, 469, 476, 481, 486, 493, 500, 507, 514, 519, 524, 15, 16, 17, 18, 19, 29, 32, 48, 49, 67, 68, 86, 87, 105, 106, 124, 125, 143, 144, 149, 150, 151, 152, 153, 156, 157, 158, 159, 160, 163, 164, 165, 166, 167, 170, 171, 172, 173, 174, 177, 178, 179, 180, 181, 184, 185, 186, 202, 209, 219, 228, 235, 242, 249, 256, 263, 270, 275, 280, 287, 294, 301, 308, 315, 322, 323, 326, 327, 330, 331, 332, 335, 336, 337, 338, 339, 342, 343, 344, 347, 348, 349, 350, 351, 354, 355, 356, 359, 360, 361, 364, 365, 366, 369, 370, 371, 372, 373, 376, 377, 378, 379, 380, 383, 384, 385, 388, 389, 390, 393, 394, 395, 398, 399, 400, 401, 402, 405, 406, 407, 408, 409, 412, 413, 414, 415, 416, 419, 420, 421, 422, 423, 426, 427, 428, 431, 432, 433, 436, 437, 438, 439, 440, 443, 444, 445, 446, 447, 450, 451, 452, 453, 454, 457, 458, 459, 460, 461, 464, 465, 466, 467, 468, 471, 472, 473, 474, 475, 478, 479, 480, 483, 484, 485, 488, 489, 490, 491, 492, 495, 496, 497, 498, 499, 502, 503, 504, 505, 506, 509, 510, 511, 512, 513, 516, 517, 518, 521, 522, 523, 47, 66, 85, 104, 123, 142, 201, 207, 208, 217, 218, 227, 234, 241, 248, 255, 262, 269, 274, 279, 286, 293, 300, 307, 314, 321, 42, 43, 44, 45, 46, 61, 62, 63, 64, 65, 80, 81, 82, 83, 84, 99, 100, 101, 102, 103, 118, 119, 120, 121, 122, 137, 138, 139, 140, 141, 196, 197, 198, 199, 200, 206, 210, 216, 220, 226, 229, 230, 231, 232, 233, 236, 237, 238, 239, 240, 243, 244, 245, 246, 247, 250, 251, 252, 253, 254, 257, 258, 259, 260, 261, 264, 265, 266, 267, 268, 271, 272, 273, 276, 277, 278, 281, 282, 283, 284, 285, 288, 289, 290, 291, 292, 295, 296, 297, 298, 299, 302, 303, 304, 305, 306, 309, 310, 311, 312, 313, 316, 317, 318, 319, 320, 2]
abbrev hk : PySem.W.Hook := hookL as0 (faOf defs bn cs) fns (tfs tf) (exOf defs cs its)
def ob (s : PySem.W.SharedT) : He.AlD × Bool := obsL as0 (faOf defs bn cs) fns (tfs tf) (exOf defs cs its) (HandSHeadRun.getT s)
theorem ob_eq (s : PySem.W.SharedT) : ob s = hk.obs s.abs := obsL_eq (HandSHeadRun.getT_eq s)
def nm0 : List PySem.Str := ["_wall", "DiceError", "BadNumber", "BadCup", "BadTable", "BadWord", "OtherSize", "BadSet", "is_int", "is_row", "check_int", "picked", "set_of", "is_die", "Cup", "dice_of", "letters_of", "stacked", "count_lead", "table_of"]
def nm1 : List PySem.Str := ["check_table", "face_numbers", "faces_row", "scores_row", "check_bounds", "product_bounds", "equal_bounds", "table_and_bounds", "is_within", "is_full", "bounds_and_scores", "crossing_sum", "room_in", "uneven_die", "odd_die", "_law_draws", "_law_take", "_law_wide", "_law_int", "_law_bounds"]
def nm2 : List PySem.Str := ["_law_entries", "_law_room", "_law_within", "_law_same", "_law_judged", "_law_deck_full"]
def nms : List PySem.Str := nm0 ++ nm1 ++ nm2
theorem map3 {α β γ δ : Type} {x : Option α} {f : α → β} {g : α → γ} {k : α → δ} {a : β} {b : γ} {c : δ} (h1 : x.map f = some a) (h2 : x.map g = some b) (h3 : x.map k = some c) : x.map (fun s => (f s, g s, k s)) = some (a, b, c) := by
  cases x with
  | none => cases h1
  | some s => simp only [Option.map_some, Option.some.injEq] at h1 h2 h3 ⊢; rw [h1, h2, h3]
open HandSHeadRun PySem.W PySem.Calls in
def RunP {β : Type} (w : World) (f : PySem.W.SharedT → β) (a : β) : Prop := ∀ os : OsState, (endF (stepQ (denQ tabQ) R.prog w) 12000 R.prog w os).map f = some a
open HandSHeadRun PySem.W PySem.Calls in
theorem runs1 (w : World) : RunP w (fun s => looksF R.prog (boot_heap w.params) s.abs) true := by
  intro os
  kernel_rfl
open HandSHeadRun PySem.W PySem.Calls in
theorem runs2 (w : World) : RunP w (fun s => seenQ (PySem.W.view R.prog [55]) nms (importedModules R.prog.main.body) (fun s => xlAt (PySem.W.view R.prog [55]) [] s && recOk R.toRowW.records s) s.abs) (openGood (PySem.W.view R.prog [55]) nms) := by
  intro os
  kernel_rfl
theorem runs3 (w : World) : RunP w ob (hk.val w) := by
  intro os
  kernel_rfl
theorem runs (w : World) : HandSHeadRun.RunEq R (PySem.W.view R.prog [55]) hk ob 12000 nms w := fun os => map3 (runs1 w os) (runs2 w os) (runs3 w os)
theorem own_ok : ownOk defs cs = true := by decide +kernel
theorem it_ok : its = [] ∨ ("iter" : PySem.Str) ∈ bn := by first | exact .inl rfl | exact .inr (by decide +kernel)
theorem binds_law {K : PySem.W.Frag} {fd : FuncData} (F : d_law.At K fd) (s : Shared) (u : Value) : BindsTo s fd ⟨[u], []⟩ [("script", u)] := FunD.bindsA (ps := ["script"]) F lp_law s [u] rfl
end ZK53
open PySem PySem.W PySem.Calls PyProof.Rows
theorem ZK53.holds_of (H : ∀ ns : List Int, ns.length ≤ 63 → ∃ h', Z.run ZK53.tb 20 0 [.scr ns] [] = .ok (.bl true) h') : PySem.Challenge.rw_dicewhobeats_k53_bounds_rooms_and_full_t.Holds := by
  w_on; o_law
  refine HandSHeadRun.head_any (r := OpenLaw.row PySem.Challenge.rw_dicewhobeats_k53_bounds_rooms_and_full_t) (q := view (OpenLaw.row PySem.Challenge.rw_dicewhobeats_k53_bounds_rooms_and_full_t).prog [55]) (H := ZK53.hk) (ob := ZK53.ob) (M := 12000) (loose := ZK53.nms) (d := HandSHeadRun.topDef (OpenLaw.row PySem.Challenge.rw_dicewhobeats_k53_bounds_rooms_and_full_t).prog 55) (kwd := []) ZK53.ob_eq
    (by kernel_rfl) (fun s => by kernel_rfl) ZK53.runs (by kernel_rfl) (by kernel_rfl) (by kernel_rfl) (by rfl) (by first | assumption | decide +kernel) (by decide +kernel) ⟨rfl, rfl, rfl, rfl, rfl, by decide +kernel⟩ ?hw ?hc
  case hw => w_witness2
  case hc =>
    refine LamX.walk_ofTsE (l := PySem.Challenge.rw_dicewhobeats_k53_bounds_rooms_and_full_t) (n := 63) (k := 40) (x := "script") (CX := fun _ => L2.CX0) rfl (by decide) (by kernel_rfl) ⟨rfl, by decide, by decide⟩ ?F (fun _ _ _ _ _ z => z)
    intro w mg fa h Y G hmg0
    obtain ⟨K, KX, c⟩ := Y
    have hmg : mg ("law" : PySem.Str) = some (.ref fa) := by
      have e : (HandSHeadRun.topDef (OpenLaw.row PySem.Challenge.rw_dicewhobeats_k53_bounds_rooms_and_full_t).prog 55).name = ("law" : PySem.Str) := by kernel_rfl
      rw [← e]
      exact hmg0
    have S := Z.facts_law (tb := Z.tbOf K ZK53.tf) KX G c ZK53.cs_ok ZK53.own_ok ZK53.its_ok ZK53.it_ok
    obtain ⟨⟨fd, F⟩, hm⟩ := S.def_ 0 ZK53.d_law rfl
    have e := hmg.symm.trans (hm rfl)
    cases e
    refine ⟨K, KX, Z.law_at (n := 63) (k := 20) KX G c rfl S ZK53.all_p ZK53.all_s ZK53.all_c rfl rfl F rfl (fun s u => ZK53.binds_law F s u) fun ns hl => ?_⟩
    rw [ZK53.tab_eq]
    exact H ns hl

end
section
/-! what is wished behind a run -/
namespace Z
/-- r ends well, and Q holds behind it -/
def WR {α : Type} (r : R α) (Q : α → CH → Prop) : Prop := ∃ a h, r = .ok a h ∧ Q a h
/-- .. of statements: Qn where they go on, Qr where they hand back -/
def WS (r : RS) (Qn : Env → CH → Prop) (Qr : D → CH → Prop) : Prop := (∃ e h, r = .nx e h ∧ Qn e h) ∨ ∃ d h, r = .rt d h ∧ Qr d h
section
variable {α β : Type} {Φ : FS} {env : Env} {h : CH} {Q : α → CH → Prop} {Qn : Env → CH → Prop} {Qr : D → CH → Prop}
@[simp] theorem wr_ok (a : α) (h : CH) (Q : α → CH → Prop) : WR (.ok a h) Q ↔ Q a h := ⟨fun ⟨_, _, e, q⟩ => by cases e; exact q, fun q => ⟨a, h, rfl, q⟩⟩
@[simp] theorem wr_no (Q : α → CH → Prop) : WR (.no : R α) Q ↔ False := ⟨fun ⟨_, _, e, _⟩ => (by cases e), False.elim⟩
@[simp] theorem wr_bnd (r : R α) (f : α → CH → R β) (Q : β → CH → Prop) : WR (r.bnd f) Q ↔ WR r fun a h => WR (f a h) Q := by
  cases r with
  | ok a h => simp
  | ex c ds h => exact ⟨fun ⟨_, _, e, _⟩ => (by cases e), fun ⟨_, _, e, _⟩ => by cases e⟩
  | no => simp
@[simp] theorem wr_asBl (r : R D) (Q : Bool → CH → Prop) : WR (asBl r) Q ↔ WR r fun d h => ∃ b, d = .bl b ∧ Q b h := by
  cases r with
  | ok a h =>
    cases a with
    | bl b => rw [asBl_ok, wr_ok, wr_ok]; exact ⟨fun q => ⟨b, rfl, q⟩, fun ⟨_, e, q⟩ => by cases e; exact q⟩
    | _ => exact ⟨fun ⟨_, _, e, _⟩ => (by cases e), fun z => by rw [wr_ok] at z; obtain ⟨_, e, _⟩ := z; cases e⟩
  | ex c ds h => exact ⟨fun ⟨_, _, e, _⟩ => (by cases e), fun ⟨_, _, e, _⟩ => by cases e⟩
  | no => exact ⟨fun ⟨_, _, e, _⟩ => (by cases e), fun ⟨_, _, e, _⟩ => by cases e⟩
@[simp] theorem wr_if (c : Prop) [Decidable c] (a b : R α) (Q : α → CH → Prop) : WR (if c then a else b) Q ↔ if c then WR a Q else WR b Q := by split <;> rfl
@[simp] theorem ex_bl (b : Bool) (Q : Bool → Prop) : (∃ c, D.bl b = .bl c ∧ Q c) ↔ Q b := ⟨fun ⟨_, e, q⟩ => by cases e; exact q, fun q => ⟨b, rfl, q⟩⟩
theorem wr_mono {r : R α} {Q' : α → CH → Prop} (w : WR r Q) (k : ∀ a h, Q a h → Q' a h) : WR r Q' := let ⟨a, h, e, q⟩ := w; ⟨a, h, e, k a h q⟩
theorem wr_eq {r : R α} {a : α} {h : CH} (e : r = .ok a h) (q : Q a h) : WR r Q := ⟨a, h, e, q⟩
theorem eq_wr {r : R α} {a : α} {h : CH} (w : WR r fun b h' => b = a ∧ h' = h) : r = .ok a h := by
  obtain ⟨b, h', e, rfl, rfl⟩ := w
  exact e
@[simp] theorem ws_nx (e : Env) (h : CH) : WS (.nx e h) Qn Qr ↔ Qn e h := by
  constructor
  · rintro (⟨_, _, e, q⟩ | ⟨_, _, e, q⟩)
    · cases e; exact q
    · cases e
  · exact fun q => .inl ⟨e, h, rfl, q⟩
@[simp] theorem ws_rt (d : D) (h : CH) : WS (.rt d h) Qn Qr ↔ Qr d h := by
  constructor
  · rintro (⟨_, _, e, q⟩ | ⟨_, _, e, q⟩)
    · cases e
    · cases e; exact q
  · exact fun q => .inr ⟨d, h, rfl, q⟩
@[simp] theorem ws_no : WS .no Qn Qr ↔ False := ⟨fun z => (by rcases z with ⟨_, _, e, q⟩ | ⟨_, _, e, q⟩ <;> cases e), False.elim⟩
@[simp] theorem ws_of (r : R α) (f : α → CH → RS) : WS (RS.of r f) Qn Qr ↔ WR r fun a h => WS (f a h) Qn Qr := by
  cases r with
  | ok a h => simp
  | ex c ds h => exact ⟨fun z => (by rcases z with ⟨_, _, e, q⟩ | ⟨_, _, e, q⟩ <;> cases e), fun ⟨_, _, e, _⟩ => by cases e⟩
  | no => simp
@[simp] theorem ws_then (r : RS) (f : Env → CH → RS) : WS (r.andThen f) Qn Qr ↔ WS r (fun e h => WS (f e h) Qn Qr) Qr := by
  cases r with
  | nx e h => simp
  | rt d h => simp
  | ex c ds h => exact ⟨fun z => (by rcases z with ⟨_, _, e, q⟩ | ⟨_, _, e, q⟩ <;> cases e), fun z => by rcases z with ⟨_, _, e, q⟩ | ⟨_, _, e, q⟩ <;> cases e⟩
  | no => simp
@[simp] theorem ws_if (c : Prop) [Decidable c] (a b : RS) : WS (if c then a else b) Qn Qr ↔ if c then WS a Qn Qr else WS b Qn Qr := by split <;> rfl
@[simp] theorem wr_fin (r : RS) (Q : D → CH → Prop) : WR (fin r) Q ↔ WS r (fun _ h => Q .non h) Q := by
  cases r with
  | nx e h => simp
  | rt d h => simp
  | ex c ds h => exact ⟨fun ⟨_, _, e, _⟩ => (by cases e), fun z => by rcases z with ⟨_, _, e, q⟩ | ⟨_, _, e, q⟩ <;> cases e⟩
  | no => exact ⟨fun ⟨_, _, e, _⟩ => (by cases e), fun z => by rcases z with ⟨_, _, e, q⟩ | ⟨_, _, e, q⟩ <;> cases e⟩
theorem ws_mono {r : RS} {Qn' : Env → CH → Prop} {Qr' : D → CH → Prop} (w : WS r Qn Qr) (k : ∀ e h, Qn e h → Qn' e h) (k2 : ∀ d h, Qr d h → Qr' d h) : WS r Qn' Qr' := by
  rcases w with ⟨a, h, e, q⟩ | ⟨a, h, e, q⟩
  · exact .inl ⟨a, h, e, k a h q⟩
  · exact .inr ⟨a, h, e, k2 a h q⟩
theorem ws_eq {r : RS} {e : Env} {h : CH} (z : r = .nx e h) (q : Qn e h) : WS r Qn Qr := .inl ⟨e, h, z, q⟩
/-! ### calls -/
/-- a call in the current heap -/
theorem wr_heap {f : Nat} {ds : List D} {Q : D → CH → Prop} (w : WR (Φ f ds h) fun d h' => Q d (trunc h.length d h')) : WR (callM false Φ f ds h) Q := by
  obtain ⟨d, h', e, q⟩ := w
  exact ⟨d, _, call_heap e, q⟩
/-- a pure call on data without cells -/
theorem wr_pure {f : Nat} {ds : List D} {Q : D → CH → Prop} (n : ncs ds = true) (w : WR (Φ f ds []) fun d _ => d.nc = true ∧ Q d h) : WR (callM true Φ f ds h) Q := by
  obtain ⟨d, h', e, n', q⟩ := w
  exact ⟨d, h, call_nc n e n', q⟩
/-- .. on cells' snapshots -/
theorem wr_snap {f : Nat} {ds ds' : List D} {Q : D → CH → Prop} (s : snaps h ds = some ds') (w : WR (Φ f ds' []) fun d _ => d.nc = true ∧ d.solid = true ∧ Q d h) : WR (callM true Φ f ds h) Q := by
  obtain ⟨d, h', e, n', so, q⟩ := w
  exact ⟨d, h, call_snap s e n' so, q⟩
/-! ### walks -/
theorem ws_forD {ck : Ck} {asg : D → Env → Option Env} {f : Env → CH → RS} {fg : List Nat} (I : Nat → Env → CH → Prop) {ds : List D} {env : Env} {h : CH} (i0 : I 0 env h) (c : ∀ i env h, i ≤ ds.length → I i env h → ckOk ck h = true)
    (st : ∀ i d env h, ds[i]? = some d → I i env h → oT (asg d env) fun env1 => WS (f env1 h) (fun env2 h2 => I (i + 1) (wipeE env2 fg) h2) Qr) (go : ∀ env' h', I ds.length env' h' → Qn env' h') : WS (forGo ck asg f fg ds env h) Qn Qr := by
  rcases forGo_inv2 (ck := ck) (asg := asg) (f := f) (fg := fg) I (fun r => ∃ d h, r = .rt d h ∧ Qr d h) ds 0 env h i0 (fun i env h hi => c i env h (by omega)) (fun i d env h hd hI => by
    rw [Nat.zero_add] at hI ⊢
    obtain ⟨env1, a, w⟩ := st i d env h hd hI
    refine ⟨env1, a, ?_⟩
    rcases w with ⟨e, h2, e2, q⟩ | ⟨d, h2, e2, q⟩
    · exact .inl ⟨e, h2, e2, q⟩
    · exact .inr ⟨d, h2, e2, _, _, rfl, q⟩) with ⟨env', h', e1, e2⟩ | ⟨v, h', e1, _, _, e2, q⟩
  · rw [Nat.zero_add] at e2
    exact .inl ⟨_, _, e1, go _ _ e2⟩
  · cases e2
    exact .inr ⟨_, _, e1, q⟩
/-- over a list -/
theorem ws_for {γ : Type} {ck : Ck} {asg : D → Env → Option Env} {f : Env → CH → RS} {fg : List Nat} {l : List γ} {g : γ → D} (I : Nat → Env → CH → Prop) {env : Env} {h : CH} (i0 : I 0 env h) (c : ∀ i env h, i ≤ l.length → I i env h → ckOk ck h = true)
    (st : ∀ i x env h, l[i]? = some x → I i env h → oT (asg (g x) env) fun env1 => WS (f env1 h) (fun env2 h2 => I (i + 1) (wipeE env2 fg) h2) Qr) (go : ∀ env' h', I l.length env' h' → Qn env' h') : WS (forGo ck asg f fg (l.map g) env h) Qn Qr :=
  ws_forD I i0 (fun i env h hi => c i env h (by simpa using hi)) (fun i d env h hd hI => by
    rw [List.getElem?_map] at hd
    cases q : l[i]? with
    | none => rw [q] at hd; cases hd
    | some x => rw [q] at hd; cases hd; exact st i x env h q hI) fun env' h' e => go env' h' (by simpa using e)
/-- over numbers -/
theorem ws_rng {ck : Ck} {asg : D → Env → Option Env} {f : Env → CH → RS} {fg : List Nat} {n : Nat} {g : Nat → D} (I : Nat → Env → CH → Prop) {env : Env} {h : CH} (i0 : I 0 env h) (c : ∀ i env h, i ≤ n → I i env h → ckOk ck h = true)
    (st : ∀ i env h, i < n → I i env h → oT (asg (g i) env) fun env1 => WS (f env1 h) (fun env2 h2 => I (i + 1) (wipeE env2 fg) h2) Qr) (go : ∀ env' h', I n env' h' → Qn env' h') : WS (forGo ck asg f fg ((List.range n).map g) env h) Qn Qr :=
  ws_for I i0 (fun i env h hi => c i env h (by simpa using hi)) (fun i x env h hx hI => by
    have lt : i < n := by
      rcases Nat.lt_or_ge i n with z | z
      · exact z
      · rw [List.getElem?_eq_none (by simpa using z)] at hx; cases hx
    rw [List.getElem?_range lt] at hx
    cases hx
    exact st i env h lt hI) fun env' h' e => go env' h' (by simpa using e)
/-- a walk whose states are known -/
theorem ws_rngS {ck : Ck} {asg : D → Env → Option Env} {f : Env → CH → RS} {fg : List Nat} {n : Nat} {g : Nat → D} (S : Nat → Env) (hS : env = S 0) (c : ckOk ck h = true)
    (st : ∀ i, i < n → oT (asg (g i) (S i)) fun env1 => WS (f env1 h) (fun env2 h2 => wipeE env2 fg = S (i + 1) ∧ h2 = h) Qr) (go : Qn (S n) h) : WS (forGo ck asg f fg ((List.range n).map g) env h) Qn Qr :=
  ws_rng (fun i e h' => e = S i ∧ h' = h) ⟨hS, rfl⟩ (fun i e h' _ z => by rw [z.2]; exact c) (fun i e h' hi z => by
    obtain ⟨rfl, rfl⟩ := z
    exact st i hi) fun e h' z => by rw [z.1, z.2]; exact go
/-- checks: the first that fails hands back -/
theorem ws_chk {γ : Type} {ck : Ck} {asg : D → Env → Option Env} {f : Env → CH → RS} {fg : List Nat} {l : List γ} {g : γ → D} (P : Nat → γ → Prop) (c : ckOk ck h = true)
    (st : ∀ i x, l[i]? = some x → (∀ j y, j < i → l[j]? = some y → P j y) → oT (asg (g x) env) fun env1 => WS (f env1 h) (fun env2 h2 => wipeE env2 fg = env ∧ h2 = h ∧ P i x) Qr) (go : (∀ i x, l[i]? = some x → P i x) → Qn env h) : WS (forGo ck asg f fg (l.map g) env h) Qn Qr :=
  ws_for (fun i e h' => e = env ∧ h' = h ∧ ∀ j y, j < i → l[j]? = some y → P j y) ⟨rfl, rfl, fun j y z => by omega⟩ (fun i e h' _ z => by rw [z.2.1]; exact c) (fun i x e h' hx z => by
    obtain ⟨rfl, rfl, z⟩ := z
    obtain ⟨env1, a, w⟩ := st i x hx z
    exact ⟨env1, a, ws_mono w (fun e2 h2 ⟨a, b, c⟩ => ⟨a, b, fun j y hj hy => by
      rcases Nat.lt_succ_iff_lt_or_eq.1 hj with h1 | rfl
      · exact z j y h1 hy
      · rw [hx] at hy; cases hy; exact c⟩) fun _ _ q => q⟩) fun e h' z => by
    rw [z.1, z.2.1]
    exact go fun i x hx => z.2.2 i x (lt_of_get' hx) hx
where
  lt_of_get' {α : Type} {l : List α} {n : Nat} {c : α} (e : l[n]? = some c) : n < l.length := by
    rcases Nat.lt_or_ge n l.length with z | z
    · exact z
    · rw [List.getElem?_eq_none z] at e; cases e
theorem ws_chkR {ck : Ck} {asg : D → Env → Option Env} {f : Env → CH → RS} {fg : List Nat} {n : Nat} {g : Nat → D} (P : Nat → Prop) (c : ckOk ck h = true)
    (st : ∀ i, i < n → (∀ j, j < i → P j) → oT (asg (g i) env) fun env1 => WS (f env1 h) (fun env2 h2 => wipeE env2 fg = env ∧ h2 = h ∧ P i) Qr) (go : (∀ i, i < n → P i) → Qn env h) : WS (forGo ck asg f fg ((List.range n).map g) env h) Qn Qr :=
  ws_rng (fun i e h' => e = env ∧ h' = h ∧ ∀ j, j < i → P j) ⟨rfl, rfl, fun j z => by omega⟩ (fun i e h' _ z => by rw [z.2.1]; exact c) (fun i e h' hi z => by
    obtain ⟨rfl, rfl, z⟩ := z
    obtain ⟨env1, a, w⟩ := st i hi z
    exact ⟨env1, a, ws_mono w (fun e2 h2 ⟨a, b, c⟩ => ⟨a, b, fun j hj => by
      rcases Nat.lt_succ_iff_lt_or_eq.1 hj with h1 | rfl
      · exact z j h1
      · exact c⟩) fun _ _ q => q⟩) fun e h' z => by
    rw [z.1, z.2.1]
    exact go z.2.2
/-- a while by an invariant and a count -/
theorem ws_whl {t : Env → CH → R Bool} {f : Env → CH → RS} {fg : List Nat} (I : Nat → Env → CH → Prop) : ∀ (n : Nat) {env : Env} {h : CH}, I n env h → (∀ n env h, I n env h → WR (t env h) fun b h1 => (b = true → WS (f env h1) (fun e2 h2 => ∃ m, m < n ∧ I m (wipeE e2 fg) h2) Qr) ∧ (b = false → Qn env h1)) → WS (whlD t f fg env h) Qn Qr := by
  intro n
  induction n using Nat.strongRecOn with
  | _ n ih =>
    intro env h i0 st
    rw [whlD_eq]
    rw [ws_of]
    obtain ⟨b, h1, e, q⟩ := st n env h i0
    refine ⟨b, h1, e, ?_⟩
    cases b with
    | true =>
      show WS ((f env h1).andThen fun env2 h2 => whlD t f fg (wipeE env2 fg) h2) Qn Qr
      rw [ws_then]
      exact ws_mono (q.1 rfl) (fun e2 h2 ⟨m, hm, im⟩ => ih m hm im st) fun _ _ q => q
    | false => exact (ws_nx _ _).2 (q.2 rfl)
/-! ### comprehensions -/
/-- over a list: kept by p, made by G -/
theorem wr_comp {γ : Type} {ck : Ck} {asg : D → Option Env} {test : Env → CH → R Bool} {f : Env → CH → R D} {l : List γ} {g : γ → D} (p : γ → Bool) (G : γ → D) {Q : List D → CH → Prop} (c : ckOk ck h = true)
    (st : ∀ x ∈ l, oT (asg (g x)) fun env => WR (test env h) (fun b h1 => b = p x ∧ h1 = h) ∧ (p x = true → WR (f env h) fun d h1 => d = G x ∧ h1 = h)) (go : Q ((l.filter p).map G) h) : WR (compGo ck asg test f (l.map g) h) Q := by
  have key : ∀ l' : List γ, (∀ x ∈ l', x ∈ l) → compGo ck asg test f (l'.map g) h = .ok ((l'.filter p).map G) h := by
    intro l'
    induction l' with
    | nil => intro _; simp only [List.map_nil, List.filter_nil]; unfold compGo; rw [if_pos c]
    | cons a r ih =>
      intro hm
      have ih' := ih fun x hx => hm x (List.mem_cons_of_mem _ hx)
      obtain ⟨env, e1, e2, e3⟩ := st a (hm a List.mem_cons_self)
      have e2 := eq_wr e2
      simp only [List.map_cons]
      unfold compGo
      rw [if_pos c, e1]
      simp only [e2, R.bnd_ok]
      cases q : p a with
      | false => simp only [List.filter_cons, q, Bool.false_eq_true, if_false]; exact ih'
      | true => simp only [List.filter_cons, q, if_true, eq_wr (e3 q), R.bnd_ok, ih', List.map_cons]
  exact wr_eq (key l fun _ h => h) go
/-- without a test -/
theorem wr_map {γ : Type} {ck : Ck} {asg : D → Option Env} {f : Env → CH → R D} {l : List γ} {g : γ → D} (G : γ → D) {Q : List D → CH → Prop} (c : ckOk ck h = true)
    (st : ∀ x ∈ l, oT (asg (g x)) fun env => WR (f env h) fun d h1 => d = G x ∧ h1 = h) (go : Q (l.map G) h) : WR (compGo ck asg (fun _ h => .ok true h) f (l.map g) h) Q :=
  wr_comp (fun _ => true) G c (fun x hx => by
    obtain ⟨env, a, b⟩ := st x hx
    exact ⟨env, a, ⟨true, h, rfl, rfl, rfl⟩, fun _ => b⟩) (by rw [List.filter_eq_self.2 fun _ _ => rfl]; exact go)
theorem wr_mapR {ck : Ck} {asg : D → Option Env} {f : Env → CH → R D} {n : Nat} {g : Nat → D} (G : Nat → D) {Q : List D → CH → Prop} (c : ckOk ck h = true)
    (st : ∀ i, i < n → oT (asg (g i)) fun env => WR (f env h) fun d h1 => d = G i ∧ h1 = h) (go : Q ((List.range n).map G) h) : WR (compGo ck asg (fun _ h => .ok true h) f ((List.range n).map g) h) Q :=
  wr_map G c (fun i hi => st i (List.mem_range.1 hi)) go
end
/-! ### what is walked -/
theorem enumFrom_map {γ : Type} (g : γ → D) : ∀ (l : List γ) (k : Nat), enumFrom k (l.map g) = (List.range l.length).map fun i => D.tup [.int ((k + i : Nat) : Int), ((l[i]?).map g).getD .non]
  | [], k => rfl
  | a :: r, k => by
    simp only [List.map_cons, enumFrom, List.length_cons]
    rw [List.range_succ_eq_map, List.map_cons, List.map_map, enumFrom_map g r (k + 1)]
    congr 1
    apply List.map_congr_left
    intro i hi
    simp only [Function.comp, List.getElem?_cons_succ]
    congr 4
    omega
theorem enum_iL (l : List Int) : enumFrom 0 (iL l) = (List.range l.length).map fun i => D.tup [.int (i : Nat), .int (l[i]?.getD 0)] := by
  rw [show iL l = l.map .int from rfl, enumFrom_map]
  apply List.map_congr_left
  intro i hi
  simp only [Nat.zero_add]
  have hl := List.mem_range.1 hi
  rw [List.getElem?_eq_getElem hl]
  rfl
end Z
namespace Z
theorem le_SZ {n : Nat} (h : n ≤ 1000) : n ≤ SZ := by unfold SZ; omega
/-- the first n worths of a function -/
def vec (n : Nat) (s : Nat → Int) : List Int := (List.range n).map s
theorem vec_len (n : Nat) (s : Nat → Int) : (vec n s).length = n := by simp [vec]
theorem iL_vec (n : Nat) (s : Nat → Int) : iL (vec n s) = (List.range n).map fun i => D.int (s i) := by simp [vec]
theorem rowF_vec (n : Nat) (f : F2) (i : Nat) : rowF n f i = vec n (f i) := rfl
variable {h : CH}
/-- ints in a row -/
abbrev vD (b : Bool) (n : Nat) (s : Nat → Int) : D := W b (iL (vec n s))
theorem vec_at {b : Bool} {n : Nat} {s : Nat → Int} {i : Nat} (hi : i < n) : ixV (vD b n s) (.int i) h = .ok (.int (s i)) h := ix_ok (items_W _ _) (by rw [iL_vec]; exact rng_map_get _ hi)
@[simp] theorem len_vec {m : Bool} (b : Bool) (n : Nat) (s : Nat → Int) : biD .len m [vD b n s] h = .ok (.int (n : Nat)) h := by
  rw [len_ok (items_W _ _)]
  simp [vec_len]
@[simp] theorem sum_vec {m : Bool} (b : Bool) (n : Nat) (s : Nat → Int) : biD .sum m [vD b n s] h = .ok (.int (vec n s).sum) h := sum_ok (items_W _ _)
@[simp] theorem itR_vec (b : Bool) (n : Nat) (s : Nat → Int) : itR (vD b n s) h = .ok ((List.range n).map (fun i => D.int (s i)), none) h := by rw [itR_of (items_W _ _), ck_W, iL_vec]
@[simp] theorem tuple_vec {m : Bool} (b : Bool) (n : Nat) (s : Nat → Int) : biD .tuple m [vD b n s] h = .ok (vD true n s) h := tuple_ok (items_W _ _)
@[simp] theorem sum_rowW {m : Bool} (b : Bool) (n : Nat) (f : F2) (i : Nat) : biD .sum m [W b (iL (rowF n f i))] h = .ok (.int (rowF n f i).sum) h := sum_ok (items_W _ _)
theorem it_enumV (b : Bool) (n : Nat) (s : Nat → Int) : itD .enum [vD b n s] h = .ok ((List.range n).map (fun i : Nat => D.tup [.int i, .int (s i)]), none) h := by
  rw [it_enum (items_W _ _) (W_ns _ _), ck_W, iL_vec, enum_rng]
theorem it_enumT (a b : Bool) (n : Nat) (f : F2) : itD .enum [tabD a b n f] h = .ok ((List.range n).map (fun i : Nat => D.tup [.int i, W b (iL (rowF n f i))]), none) h := by
  rw [it_enum (items_tab _ _ _ _) (W_ns _ _), ck_tab, enum_rng]
theorem it_rngN {n : Nat} (e : n ≤ 1000) : itD .rng1 [.int (n : Nat)] h = .ok ((List.range n).map (fun i : Nat => D.int i), none) h := it_rng1 (by omega)
theorem mod2 (m : Bool) (i : Int) : binD .mod m (.int i) (.int 2) h = .ok (.int (i % 2)) h := mod_ok (by decide)
theorem ncs_one {d : D} (e : d.nc = true) : ncs [d] = true := by simp [ncs, e]
theorem ncs_two {d e : D} (h1 : d.nc = true) (h2 : e.nc = true) : ncs [d, e] = true := by simp [ncs, h1, h2]
theorem ncs_three {d e g : D} (h1 : d.nc = true) (h2 : e.nc = true) (h3 : g.nc = true) : ncs [d, e, g] = true := by simp [ncs, h1, h2, h3]
@[simp] theorem nc_vec (b : Bool) (n : Nat) (s : Nat → Int) : (vD b n s).nc = true := nc_W b (ncs_iL _)
@[simp] theorem nc_tabD (a b : Bool) (n : Nat) (f : F2) : (tabD a b n f).nc = true := nc_tab a b n f
@[simp] theorem nc_Wi (b : Bool) (r : List Int) : (W b (iL r)).nc = true := nc_W b (ncs_iL _)
def oD : Option Nat → D
  | none => .non
  | some i => .int i
theorem nc_oD (o : Option Nat) : (oD o).nc = true := by cases o <;> rfl
@[simp] theorem is_int_non (i : Int) : cmpD .is (.int i) .non h = .ok (.bl false) h := (rfl)
@[simp] theorem is_tup_non (d : List D) : cmpD .is (.tup d) .non h = .ok (.bl false) h := (rfl)
@[simp] theorem is_lst_non (d : List D) : cmpD .is (.lst d) .non h = .ok (.bl false) h := (rfl)
@[simp] theorem isn_int_non (i : Int) : cmpD .isn (.int i) .non h = .ok (.bl true) h := (rfl)
@[simp] theorem isn_tup_non (d : List D) : cmpD .isn (.tup d) .non h = .ok (.bl true) h := (rfl)
@[simp] theorem isn_lst_non (d : List D) : cmpD .isn (.lst d) .non h = .ok (.bl true) h := (rfl)
@[simp] theorem is_bl (a b : Bool) : cmpD .is (.bl a) (.bl b) h = .ok (.bl (a == b)) h := (rfl)
@[simp] theorem isn_bl (a b : Bool) : cmpD .isn (.bl a) (.bl b) h = .ok (.bl (!(a == b))) h := (rfl)
@[simp] theorem oD_none : oD none = .non := (rfl)
@[simp] theorem oD_some (i : Nat) : oD (some i) = .int i := (rfl)
@[simp] theorem newL_f (ds : List D) : newL false ds h = .ok (.lst ds) h := (rfl)
@[simp] theorem newL_t (ds : List D) : newL true ds h = .ok (.cell h.length) (h ++ [.lst ds]) := (rfl)
theorem it_enumR (b : Bool) (n : Nat) (f : F2) (i : Nat) : itD .enum [W b (iL (rowF n f i))] h = .ok ((List.range n).map (fun j : Nat => D.tup [.int j, .int (f i j)]), none) h := it_enumV b n (f i)
@[simp] theorem itR_lst (ds : List D) : itR (.lst ds) h = .ok (ds, none) h := (rfl)
@[simp] theorem itR_tup (ds : List D) : itR (.tup ds) h = .ok (ds, none) h := (rfl)
@[simp] theorem min3_ok (m : Bool) (i j l : Int) : biD .min3 m [.int i, .int j, .int l] h = .ok (.int (min3 i j l)) h := (rfl)
end Z

end
section
/-! numbers, sums, ways: no program -/
namespace Z
theorem pigeon : ∀ (n : Nat) (l : List Nat), l.Nodup → (∀ x ∈ l, x < n) → l.length ≤ n
  | 0, [], _, _ => Nat.le_refl _
  | 0, a :: r, _, h => absurd (h a List.mem_cons_self) (by omega)
  | n + 1, l, nd, h => by
    have ih := pigeon n (l.erase n) (nd.erase n) fun x hx => by
      have q := (List.Nodup.mem_erase_iff nd).1 hx
      have := h x q.2
      have : x ≠ n := q.1
      omega
    rw [List.length_erase] at ih
    split at ih <;> omega
def iN (c : List Nat) : List D := c.map fun x : Nat => D.int x
@[simp] theorem iN_len (c : List Nat) : (iN c).length = c.length := by simp [iN]
theorem iN_at {c : List Nat} {i x : Nat} (h : c[i]? = some x) : (iN c)[i]? = some (.int (x : Nat)) := by unfold iN; rw [List.getElem?_map, h]; rfl
def lks (w : List Nat) : List (Nat × Nat) := w.zip w.tail
abbrev pD (p : Nat × Nat) : D := .tup [.int p.1, .int p.2]
theorem iN_iL (l : List Nat) : iN l = iL (l.map fun x : Nat => (x : Int)) := by rw [show iL (l.map fun x : Nat => (x : Int)) = (l.map fun x : Nat => (x : Int)).map D.int from rfl, List.map_map]; rfl
@[simp] theorem intsOf_iN (l : List Nat) : intsOf (iN l) = some (l.map fun x : Nat => (x : Int)) := by rw [iN_iL]; exact intsOf_map _
theorem iN_get {c : List Nat} {i : Nat} (hi : i < c.length) : (iN c)[i]? = some (.int (c[i] : Nat)) := by
  unfold iN
  rw [List.getElem?_map, List.getElem?_eq_getElem hi]; rfl
theorem lks_len (w : List Nat) : (lks w).length = w.length - 1 := by simp [lks]
theorem lks_map (w : List Nat) : (lks w).map pD = (List.range (w.length - 1)).map fun i => D.tup [.int ((w[i]?.getD 0 : Nat) : Int), .int ((w[i + 1]?.getD 0 : Nat) : Int)] := by
  apply List.ext_getElem?
  intro i
  by_cases hi : i < w.length - 1
  · rw [rng_map_get _ hi, List.getElem?_map, List.getElem?_eq_getElem (by rw [lks_len]; exact hi)]
    have h1 : i < w.length := by omega
    have h2 : i + 1 < w.length := by omega
    simp [lks, pD, h1, h2]
  · rw [List.getElem?_eq_none (by simp [lks_len]; omega), List.getElem?_eq_none (by simp; omega)]
def upd2 (f : F2) (p : Nat × Nat) (a : Int) : F2 := stF (stF f p.1 p.2 (f p.1 p.2 + a)) p.2 p.1 (stF f p.1 p.2 (f p.1 p.2 + a) p.2 p.1 - a)
def shift (f : F2) (ps : List (Nat × Nat)) (a : Int) : F2 := ps.foldl (fun g p => upd2 g p a) f
theorem shift_snoc (f : F2) (ps : List (Nat × Nat)) (p : Nat × Nat) (a : Int) : shift f (ps ++ [p]) a = upd2 (shift f ps a) p a := by simp [shift]
theorem take_snoc {α : Type} {l : List α} {i : Nat} {x : α} (e : l[i]? = some x) : l.take (i + 1) = l.take i ++ [x] := by
  rw [List.take_succ, e]; rfl
theorem nc_iN (c : List Nat) : ncs (iN c) = true := ncs_map c fun _ => rfl
/-- the two stores of one link -/
theorem put2 {h : CH} {m n : Nat} {cs : Nat → Nat} {f : F2} (M : Mx h m cs n f) {i j : Nat} (hi : i < n) (hj : j < n) (a : Int) : ∃ h1 h2, setV (.cell (cs i)) (.int j) (.int (f i j + a)) h = some h1 ∧ Mx h1 m cs n (stF f i j (f i j + a)) ∧
    setV (.cell (cs j)) (.int i) (.int (stF f i j (f i j + a) j i - a)) h1 = some h2 ∧ Mx h2 m cs n (upd2 f (i, j) a) ∧ FrM h h2 cs n := by
  obtain ⟨h1, a1, a2, a3⟩ := M.put (f i j + a) hi hj
  obtain ⟨h2, b1, b2, b3⟩ := a2.put (stF f i j (f i j + a) j i - a) hj hi
  exact ⟨h1, h2, a1, a2, b1, b2, a3.trans b3⟩
theorem find_iN {j : Nat} : ∀ {l : List Nat}, j ∈ l → ∃ t, findD (.int j) (l.map fun x : Nat => D.int x) = some t ∧ l[t]? = some j
  | [], h => by simp at h
  | a :: r, h => by
    by_cases e : a = j
    · subst e
      exact ⟨0, by simp [findD, eqF], rfl⟩
    · have hr : j ∈ r := by
        rcases List.mem_cons.1 h with z | z
        · exact absurd z.symm e
        · exact z
      obtain ⟨t, h1, h2⟩ := find_iN hr
      have e2 : ¬ ((a : Int) = j) := by omega
      exact ⟨t + 1, by simp [findD, eqF, e2, h1], by simpa using h2⟩
def cnt (ps : List (Nat × Nat)) (x y : Nat) : Int := ((ps.filter fun p => decide (p.1 = x ∧ p.2 = y)).length : Nat)
theorem cnt_nil (x y : Nat) : cnt [] x y = 0 := rfl
theorem cnt_cons (p : Nat × Nat) (ps : List (Nat × Nat)) (x y : Nat) : cnt (p :: ps) x y = (if p.1 = x ∧ p.2 = y then 1 else 0) + cnt ps x y := by
  unfold cnt
  by_cases h : p.1 = x ∧ p.2 = y
  · simp [List.filter_cons, h]; omega
  · simp [List.filter_cons, h]
theorem upd2_val (f : F2) (i j : Nat) (a : Int) (x y : Nat) : upd2 f (i, j) a x y = f x y + (if i = x ∧ j = y then a else 0) - (if j = x ∧ i = y then a else 0) := by
  unfold upd2 stF
  simp only
  by_cases h1 : x = i <;> by_cases h2 : y = j <;> by_cases h3 : x = j <;> by_cases h4 : y = i <;> simp_all <;> (try split) <;> (try split) <;> simp_all <;> omega
theorem shift_val (a : Int) (x y : Nat) : ∀ (ps : List (Nat × Nat)) (f : F2), shift f ps a x y = f x y + a * (cnt ps x y - cnt ps y x)
  | [], f => by simp [shift, cnt]
  | (i, j) :: ps, f => by
    have ih := shift_val a x y ps (upd2 f (i, j) a)
    have e : shift f ((i, j) :: ps) a = shift (upd2 f (i, j) a) ps a := rfl
    rw [e, ih, upd2_val, cnt_cons, cnt_cons]
    have e1 : (i = y ∧ j = x) ↔ (j = x ∧ i = y) := And.comm
    simp only [e1]
    by_cases h1 : i = x ∧ j = y
    · by_cases h2 : j = x ∧ i = y
      · simp only [if_pos h1, if_pos h2, Int.mul_sub, Int.mul_add, Int.mul_one, Int.mul_zero]; omega
      · simp only [if_pos h1, if_neg h2, Int.mul_sub, Int.mul_add, Int.mul_one, Int.mul_zero]; omega
    · by_cases h2 : j = x ∧ i = y
      · simp only [if_neg h1, if_pos h2, Int.mul_sub, Int.mul_add, Int.mul_one, Int.mul_zero]; omega
      · simp only [if_neg h1, if_neg h2, Int.mul_sub, Int.mul_add, Int.mul_one, Int.mul_zero]; omega
theorem shift_skew {n : Nat} {f : F2} (sk : Skew n f) (ps : List (Nat × Nat)) (a : Int) : Skew n (shift f ps a) := fun i j hi hj => by
  rw [shift_val, shift_val, sk i j hi hj, Int.mul_sub, Int.mul_sub]
  omega
/-- what is lacking -/
def dif (s f : F2) : F2 := fun x y => s x y - f x y
theorem dif_shift (s f : F2) (ps : List (Nat × Nat)) (a : Int) : dif s (shift f ps a) = shift (dif s f) ps (-a) := by
  funext x y
  unfold dif
  rw [shift_val, shift_val, Int.neg_mul]
  omega
theorem sum_map_add (g k : Nat → Int) : ∀ l : List Nat, (l.map fun y => g y + k y).sum = (l.map g).sum + (l.map k).sum
  | [] => rfl
  | a :: r => by
    simp only [List.map_cons, List.sum_cons, sum_map_add g k r]
    omega
theorem sum_one (j : Nat) (a : Int) : ∀ n, ((List.range n).map fun y => if j = y then a else 0).sum = if j < n then a else 0
  | 0 => by simp
  | n + 1 => by
    rw [List.range_succ, List.map_append, List.sum_append, sum_one j a n]
    by_cases h : j < n
    · have : ¬ j = n := by omega
      have : j < n + 1 := by omega
      simp [*]
    · by_cases h2 : j = n
      · subst h2; simp
      · have : ¬ j < n + 1 := by omega
        simp [*]
theorem row_upd2 {n : Nat} (f : F2) {i j : Nat} (hi : i < n) (hj : j < n) (a : Int) (x : Nat) : (rowF n (upd2 f (i, j) a) x).sum = (rowF n f x).sum + (if i = x then a else 0) - (if j = x then a else 0) := by
  have e : rowF n (upd2 f (i, j) a) x = (List.range n).map fun y => f x y + ((if j = y then (if i = x then a else 0) else 0) + (if i = y then (if j = x then -a else 0) else 0)) := by
    unfold rowF
    apply List.map_congr_left
    intro y _
    rw [upd2_val]
    by_cases h1 : i = x <;> by_cases h2 : j = y <;> by_cases h3 : j = x <;> by_cases h4 : i = y <;> simp [h1, h2, h3, h4] <;> omega
  rw [e, sum_map_add, sum_map_add, sum_one, sum_one, if_pos hi, if_pos hj]
  unfold rowF
  by_cases h3 : j = x <;> simp [h3] <;> omega
def c1 (ps : List (Nat × Nat)) (x : Nat) : Int := ((ps.map (·.1)).count x : Nat)
def c2 (ps : List (Nat × Nat)) (x : Nat) : Int := ((ps.map (·.2)).count x : Nat)
theorem row_shift {n : Nat} (a : Int) (x : Nat) : ∀ (ps : List (Nat × Nat)) (f : F2), (∀ p ∈ ps, p.1 < n ∧ p.2 < n) → (rowF n (shift f ps a) x).sum = (rowF n f x).sum + a * (c1 ps x - c2 ps x)
  | [], f, _ => by simp [shift, c1, c2]
  | (i, j) :: ps, f, h => by
    have e : shift f ((i, j) :: ps) a = shift (upd2 f (i, j) a) ps a := rfl
    obtain ⟨hi, hj⟩ := h (i, j) List.mem_cons_self
    rw [e, row_shift a x ps _ fun p hp => h p (List.mem_cons_of_mem _ hp), row_upd2 f hi hj]
    unfold c1 c2
    simp only [List.map_cons, List.count_cons]
    by_cases h1 : i = x <;> by_cases h2 : j = x <;> simp [h1, h2, Int.mul_sub, Int.mul_add] <;> omega
theorem cnt_c1 (x y : Nat) : ∀ ps : List (Nat × Nat), cnt ps x y ≤ c1 ps x
  | [] => by simp [cnt, c1]
  | p :: ps => by
    have ih := cnt_c1 x y ps
    rw [cnt_cons]
    unfold c1 at ih ⊢
    rw [List.map_cons, List.count_cons]
    by_cases h : p.1 = x
    · simp only [h, true_and, beq_self_eq_true, if_true]
      split <;> omega
    · have : ¬ (p.1 = x ∧ p.2 = y) := fun z => h z.1
      rw [if_neg this]
      have e : (p.1 == x) = false := by simpa using h
      simp only [e]
      simp
      omega
theorem cnt_mem {x y : Nat} : ∀ {ps : List (Nat × Nat)}, (x, y) ∈ ps → 1 ≤ cnt ps x y
  | [], h => by simp at h
  | p :: ps, h => by
    rw [cnt_cons]
    have p0 : 0 ≤ cnt ps x y := by unfold cnt; omega
    rcases List.mem_cons.1 h with rfl | h
    · simp; omega
    · have := cnt_mem h
      split <;> omega
theorem cnt_out {x y : Nat} {ps : List (Nat × Nat)} (h : (x, y) ∉ ps) : cnt ps x y = 0 := by
  unfold cnt
  have : (ps.filter fun p => decide (p.1 = x ∧ p.2 = y)) = [] := by
    rw [List.filter_eq_nil_iff]
    rintro ⟨a, b⟩ hp
    simp only [decide_eq_true_eq]
    rintro ⟨rfl, rfl⟩
    exact h hp
  rw [this]; rfl

/-! ### sums -/
def sg (n : Nat) (g : Nat → Int) : Int := (vec n g).sum
theorem sg_zero (g : Nat → Int) : sg 0 g = 0 := rfl
theorem sg_succ (n : Nat) (g : Nat → Int) : sg (n + 1) g = sg n g + g n := by simp [sg, vec, List.range_succ]
theorem rowF_sum (n : Nat) (f : F2) (i : Nat) : (rowF n f i).sum = sg n (f i) := rfl
theorem sg_congr {n : Nat} {g k : Nat → Int} (h : ∀ i, i < n → g i = k i) : sg n g = sg n k := by
  induction n with
  | zero => rfl
  | succ n ih => rw [sg_succ, sg_succ, ih fun i hi => h i (by omega), h n (by omega)]
theorem sg_add (n : Nat) (g k : Nat → Int) : sg n (fun i => g i + k i) = sg n g + sg n k := by
  induction n with
  | zero => rfl
  | succ n ih => rw [sg_succ, sg_succ, sg_succ, ih]; omega
theorem sg_sub (n : Nat) (g k : Nat → Int) : sg n (fun i => g i - k i) = sg n g - sg n k := by
  induction n with
  | zero => rfl
  | succ n ih => rw [sg_succ, sg_succ, sg_succ, ih]; omega
theorem sg_neg (n : Nat) (g : Nat → Int) : sg n (fun i => - g i) = - sg n g := by
  induction n with
  | zero => rfl
  | succ n ih => rw [sg_succ, sg_succ, ih]; omega
theorem sg_mul (n : Nat) (a : Int) (g : Nat → Int) : sg n (fun i => a * g i) = a * sg n g := by
  induction n with
  | zero => simp [sg_zero]
  | succ n ih => rw [sg_succ, sg_succ, ih, Int.mul_add]
theorem sg_const0 (n : Nat) : sg n (fun _ => 0) = 0 := by
  induction n with
  | zero => rfl
  | succ n ih => rw [sg_succ, ih]; rfl
theorem sg_swap (n m : Nat) (g : F2) : sg n (fun i => sg m (g i)) = sg m fun j => sg n fun i => g i j := by
  induction n with
  | zero => rw [sg_zero]; exact (sg_const0 m).symm
  | succ n ih => rw [sg_succ, ih, ← sg_add]; exact sg_congr fun j _ => (sg_succ n _).symm
theorem sg_le {n : Nat} {g k : Nat → Int} (h : ∀ i, i < n → g i ≤ k i) : sg n g ≤ sg n k := by
  induction n with
  | zero => exact Int.le_refl _
  | succ n ih =>
    rw [sg_succ, sg_succ]
    have := ih fun i hi => h i (by omega)
    have := h n (by omega)
    omega
theorem sg_nonneg {n : Nat} {g : Nat → Int} (h : ∀ i, i < n → 0 ≤ g i) : 0 ≤ sg n g := by
  have := sg_le h
  rwa [sg_const0] at this
theorem sg_lt {n : Nat} {g k : Nat → Int} (h : ∀ i, i < n → g i ≤ k i) (hs : ∃ i, i < n ∧ g i < k i) : sg n g < sg n k := by
  induction n with
  | zero => obtain ⟨i, hi, _⟩ := hs; omega
  | succ n ih =>
    rw [sg_succ, sg_succ]
    obtain ⟨i, hi, hl⟩ := hs
    by_cases e : i = n
    · subst e
      have := sg_le (n := i) fun j hj => h j (by omega)
      omega
    · have := ih (fun j hj => h j (by omega)) ⟨i, by omega, hl⟩
      have := h n (by omega)
      omega
/-- all are 0 if none is above 0 and the sum is 0 -/
theorem sg_zero_all {n : Nat} {g : Nat → Int} (h : ∀ i, i < n → g i ≤ 0) (h0 : sg n g = 0) : ∀ i, i < n → g i = 0 := fun i hi => by
  rcases Int.lt_or_eq_of_le (h i hi) with z | z
  · have := sg_lt h ⟨i, hi, z⟩
    rw [h0, sg_const0] at this
    omega
  · exact z
theorem sg_ite (n : Nat) (j : Nat) (a : Int) : sg n (fun y => if j = y then a else 0) = if j < n then a else 0 := sum_one j a n
/-- what a set's members have together -/
def sS (S : List Nat) (g : Nat → Int) : Int := (S.map g).sum
def inS (S : List Nat) (i : Nat) (a : Int) : Int := if i ∈ S then a else 0
theorem sS_sg {n : Nat} {g : Nat → Int} : ∀ {S : List Nat}, S.Nodup → (∀ x ∈ S, x < n) → sS S g = sg n fun i => inS S i (g i)
  | [], _, _ => by
    have : sg n (fun i => inS [] i (g i)) = sg n fun _ => 0 := sg_congr fun i _ => by simp [inS]
    rw [this, sg_const0]; rfl
  | a :: S, nd, h => by
    rw [List.nodup_cons] at nd
    have ih := sS_sg (g := g) nd.2 fun x hx => h x (List.mem_cons_of_mem _ hx)
    have e : sg n (fun i => inS (a :: S) i (g i)) = sg n fun i => (if a = i then g a else 0) + inS S i (g i) := sg_congr fun i _ => by
      unfold inS
      by_cases h1 : a = i
      · subst h1; simp [nd.1]
      · have : ¬ i = a := fun z => h1 z.symm
        simp [h1, this]
    rw [e, sg_add, sg_ite, if_pos (h a List.mem_cons_self), ← ih]
    simp [sS]
theorem sg_skew {n : Nat} {f : F2} (sk : Skew n f) : sg n (fun i => sg n (f i)) = 0 := by
  have h1 := sg_swap n n f
  have h2 : sg n (fun j => sg n fun i => f i j) = - sg n fun i => sg n (f i) := by
    rw [← sg_neg]
    exact sg_congr fun j hj => by rw [← sg_neg]; exact sg_congr fun i hi => sk i j hi hj
  omega
/-! ### ways -/
theorem lks_cons (a b : Nat) (r : List Nat) : lks (a :: b :: r) = (a, b) :: lks (b :: r) := rfl
theorem lks_mem {w : List Nat} {p : Nat × Nat} (h : p ∈ lks w) : p.1 ∈ w ∧ p.2 ∈ w := by
  obtain ⟨a, b⟩ := p
  have := List.of_mem_zip h
  exact ⟨this.1, List.mem_of_mem_tail this.2⟩
/-- a way without repeats has each link once -/
theorem path_cnt : ∀ {w : List Nat}, w.Nodup → ∀ {x y : Nat}, (x, y) ∈ lks w → cnt (lks w) x y = 1 ∧ cnt (lks w) y x = 0
  | [], _, x, y, h => by simp [lks] at h
  | [a], _, x, y, h => by simp [lks] at h
  | a :: b :: r, nd, x, y, h => by
    rw [List.nodup_cons] at nd
    rw [lks_cons] at h ⊢
    rw [cnt_cons, cnt_cons]
    have na : ∀ z, (a, z) ∉ lks (b :: r) := fun z q => nd.1 (lks_mem q).1
    have na2 : ∀ z, (z, a) ∉ lks (b :: r) := fun z q => nd.1 (lks_mem q).2
    have hab : a ≠ b := fun e => nd.1 (by rw [e]; exact List.mem_cons_self)
    rcases List.mem_cons.1 h with e | e
    · cases e
      refine ⟨by simp [cnt_out (na b)], ?_⟩
      have h1 : ¬ (a = b ∧ b = a) := fun z => hab z.1
      simp [h1, cnt_out (na2 b)]
    · obtain ⟨h1, h2⟩ := path_cnt nd.2 e
      have x1 : ¬ (a = x ∧ b = y) := fun z => na y (by rw [z.1]; exact e)
      have x2 : ¬ (a = y ∧ b = x) := fun z => na2 x (by rw [z.1]; exact e)
      simp [x1, x2, h1, h2]
theorem path_cnt0 {w : List Nat} {x y : Nat} (h1 : (x, y) ∉ lks w) (h2 : (y, x) ∉ lks w) : cnt (lks w) x y - cnt (lks w) y x = 0 := by rw [cnt_out h1, cnt_out h2]; rfl
/-- what a way brings its first and its last -/
theorem path_c : ∀ {w : List Nat} {a z : Nat}, w.head? = some a → w.getLast? = some z → ∀ x, c1 (lks w) x - c2 (lks w) x = (if a = x then 1 else 0) - (if z = x then 1 else 0)
  | [], _, _, h, _, _ => by simp at h
  | [b], a, z, h1, h2, x => by
    simp at h1 h2
    subst h1 h2
    simp [lks, c1, c2]
  | b :: b' :: r, a, z, h1, h2, x => by
    simp at h1
    subst h1
    have ih := path_c (w := b' :: r) (a := b') (z := z) rfl (by rw [List.getLast?_cons_cons] at h2; exact h2) x
    rw [lks_cons]
    unfold c1 c2 at ih ⊢
    simp only [List.map_cons, List.count_cons]
    by_cases e1 : b = x <;> by_cases e2 : b' = x <;> simp [e1, e2] at ih ⊢ <;> omega
end Z

end
section
/-! flows in tables: no program -/
namespace Z
/-- the room of a set -/
def room (n : Nat) (c : F2) (s : Nat → Int) (S : List Nat) : Int := sg n fun i => if i ∈ S then (sg n fun j => if j ∈ S then 0 else c i j) - s i else 0
/-- within the bounds -/
structure Flw (n : Nat) (c f : F2) : Prop where
  sk : Skew n f
  le : ∀ i j, i < n → j < n → f i j ≤ c i j
def Par (n : Nat) (c f : F2) : Prop := ∀ i j, i < n → j < n → (c i j - f i j) % 2 = 0
theorem sg_skewS {n : Nat} {f : F2} (sk : Skew n f) (S : List Nat) : sg n (fun i => if i ∈ S then sg n (fun j => if j ∈ S then f i j else 0) else 0) = 0 := by
  have e : sg n (fun i => if i ∈ S then sg n (fun j => if j ∈ S then f i j else 0) else 0) = sg n fun i => sg n fun j => if i ∈ S ∧ j ∈ S then f i j else 0 := sg_congr fun i _ => by
    by_cases h : i ∈ S
    · simp [h]
    · simp [h, sg_const0]
  rw [e]
  exact sg_skew (f := fun i j => if i ∈ S ∧ j ∈ S then f i j else 0) fun i j hi hj => by
    by_cases h1 : i ∈ S <;> by_cases h2 : j ∈ S <;> simp [h1, h2, sk i j hi hj]
theorem room_skew {n : Nat} {c f : F2} {s : Nat → Int} (sk : Skew n f) (S : List Nat) : room n c s S = sg n fun i => if i ∈ S then (sg n fun j => if j ∈ S then 0 else c i j - f i j) + (sg n (f i) - s i) else 0 := by
  have h0 := sg_skewS sk S
  have e : (sg n fun i => if i ∈ S then (sg n fun j => if j ∈ S then 0 else c i j - f i j) + (sg n (f i) - s i) else 0) = (sg n fun i => if i ∈ S then (sg n fun j => if j ∈ S then 0 else c i j) - s i else 0) + sg n fun i => if i ∈ S then sg n (fun j => if j ∈ S then f i j else 0) else 0 := by
    rw [← sg_add]
    refine sg_congr fun i _ => ?_
    by_cases h : i ∈ S
    · simp only [h, if_true]
      have e1 : sg n (fun j => if j ∈ S then 0 else c i j - f i j) = sg n (fun j => if j ∈ S then 0 else c i j) - sg n fun j => if j ∈ S then 0 else f i j := by
        rw [← sg_sub]
        exact sg_congr fun j _ => by split <;> omega
      have e2 : sg n (f i) = sg n (fun j => if j ∈ S then f i j else 0) + sg n fun j => if j ∈ S then 0 else f i j := by
        rw [← sg_add]
        exact sg_congr fun j _ => by split <;> omega
      omega
    · simp [h]
  rw [e, h0]
  unfold room
  omega
/-- a table within the bounds leaves room -/
theorem Flw.room {n : Nat} {c f : F2} {s : Nat → Int} (F : Flw n c f) (hs : ∀ i, i < n → sg n (f i) = s i) (S : List Nat) : 0 ≤ Z.room n c s S := by
  rw [room_skew F.sk S]
  refine sg_nonneg fun i hi => ?_
  split
  · have := sg_nonneg (n := n) (g := fun j => if j ∈ S then 0 else c i j - f i j) fun j hj => by
      have := F.le i j hi hj
      split <;> omega
    have := hs i hi
    omega
  · omega
/-- a set that no way leaves, and that lacks -/
theorem Flw.shut {n : Nat} {c f : F2} {s : Nat → Int} (F : Flw n c f) {S : List Nat} (lt : ∀ x ∈ S, x < n) (out : ∀ a ∈ S, ∀ b, b < n → 0 < c a b - f a b → b ∈ S) (no : ∀ x ∈ S, 0 ≤ s x - sg n (f x)) (st : ∃ x ∈ S, 0 < s x - sg n (f x)) : Z.room n c s S < 0 := by
  rw [room_skew F.sk S]
  have z : ∀ i, i < n → i ∈ S → (sg n fun j => if j ∈ S then 0 else c i j - f i j) = 0 := fun i hi h => by
    have : (sg n fun j => if j ∈ S then 0 else c i j - f i j) = sg n fun _ => 0 := sg_congr fun j hj => by
      by_cases hj' : j ∈ S
      · simp [hj']
      · have h1 : ¬ 0 < c i j - f i j := fun z => hj' (out i h j hj z)
        have := F.le i j hi hj
        simp only [hj', if_false]
        omega
    rw [this, sg_const0]
  have := sg_lt (n := n) (g := fun i => if i ∈ S then (sg n fun j => if j ∈ S then 0 else c i j - f i j) + (sg n (f i) - s i) else 0) (k := fun _ => 0) (fun i hi => by
    by_cases h : i ∈ S
    · simp only [h, if_true]
      rw [z i hi h]
      have := no i h
      omega
    · simp [h]) (by
    obtain ⟨x, hx, h0⟩ := st
    refine ⟨x, lt x hx, ?_⟩
    simp only [hx, if_true]
    rw [z x (lt x hx) hx]
    omega)
  rwa [sg_const0] at this
theorem room_nil (n : Nat) (c : F2) (s : Nat → Int) : room n c s [] = 0 := by
  unfold room
  simp [sg_const0]
/-- raised along a way -/
theorem Flw.shift {n : Nat} {c f : F2} (F : Flw n c f) {w : List Nat} (nd : w.Nodup) {a : Int} (a0 : 0 ≤ a) (hw : ∀ p ∈ lks w, a ≤ c p.1 p.2 - f p.1 p.2) : Flw n c (shift f (lks w) a) := ⟨shift_skew F.sk _ _, fun x y hx hy => by
  rw [shift_val]
  have := F.le x y hx hy
  by_cases h : (x, y) ∈ lks w
  · obtain ⟨h1, h2⟩ := path_cnt nd h
    have := hw _ h
    simp only at this
    rw [h1, h2]
    omega
  · rw [cnt_out h]
    have h3 : 0 ≤ cnt (lks w) y x := by unfold cnt; omega
    have := Int.mul_nonneg a0 h3
    rw [Int.mul_sub, Int.mul_zero]
    omega⟩
theorem Par.shift {n : Nat} {c f : F2} (P : Par n c f) (ps : List (Nat × Nat)) {a : Int} (ha : a % 2 = 0) : Par n c (Z.shift f ps a) := fun x y hx hy => by
  have := P x y hx hy
  rw [shift_val]
  obtain ⟨b, rfl⟩ : ∃ b, a = 2 * b := ⟨a / 2, by omega⟩
  rw [Int.mul_assoc]
  omega
theorem minL_of {α : Type} {l : List α} {g : α → Int} (h : l ≠ []) : (∃ x ∈ l, minL (l.map g) = g x) ∧ ∀ x ∈ l, minL (l.map g) ≤ g x := by
  cases l with
  | nil => exact absurd rfl h
  | cons a r =>
    obtain ⟨h1, h2⟩ := minL_mem (g a) (r.map g)
    rw [List.map_cons]
    refine ⟨?_, fun x hx => h2 _ (by rw [← List.map_cons]; exact List.mem_map_of_mem hx)⟩
    rw [← List.map_cons] at h1 ⊢
    obtain ⟨x, hx, e⟩ := List.mem_map.1 h1
    exact ⟨x, hx, e.symm⟩
theorem min3_le (i j k : Int) : min3 i j k ≤ i ∧ min3 i j k ≤ j ∧ min3 i j k ≤ k := by
  unfold min3
  split <;> split <;> omega
theorem min3_cases (i j k : Int) : min3 i j k = i ∨ min3 i j k = j ∨ min3 i j k = k := by
  unfold min3
  split <;> split <;> simp
/-! ### rows of ints in cells -/
def up1 (s : Nat → Int) (i : Nat) (v : Int) : Nat → Int := fun j => if j = i then v else s j
theorem vec_set {n : Nat} {s : Nat → Int} {i : Nat} (v : Int) (hi : i < n) : (iL (vec n s)).set i (.int v) = iL (vec n (up1 s i v)) := by
  rw [iL_vec, iL_vec]
  apply List.ext_getElem?
  intro j
  by_cases hj : j < n
  · rw [rng_map_get _ hj]
    by_cases e : i = j
    · subst e
      rw [List.getElem?_set_self (by simpa using hi)]
      simp [up1]
    · rw [List.getElem?_set_ne e, rng_map_get _ hj]
      have : ¬ j = i := fun z => e z.symm
      simp [up1, this]
  · rw [List.getElem?_eq_none (by simp; omega), List.getElem?_eq_none (by simp; omega)]
theorem setV_vec {h : CH} {q n : Nat} {s : Nat → Int} {i : Nat} (e : h[q]? = some (.lst (iL (vec n s)))) (hi : i < n) (v : Int) : setV (.cell q) (.int i) (.int v) h = some (h.set q (.lst (iL (vec n (up1 s i v))))) := by
  unfold setV
  simp only [e]
  rw [if_pos (by omega), if_pos (by simp [vec_len]; exact hi), show ((i : Nat) : Int).toNat = i by omega, vec_set v hi]
theorem cell_vec {h : CH} {q n : Nat} {s : Nat → Int} {i : Nat} (e : h[q]? = some (.lst (iL (vec n s)))) (hi : i < n) : ixV (.cell q) (.int i) h = .ok (.int (s i)) h := ix_ok (ds := iL (vec n s)) (by simp only [items, e]) (by rw [iL_vec]; exact rng_map_get _ hi)
/-- cells other than W stand -/
structure Fr (h h' : CH) (W : Nat → Prop) : Prop where
  len : h.length ≤ h'.length
  oth : ∀ x, x < h.length → ¬ W x → h'[x]? = h[x]?
theorem Fr.refl {h : CH} {W : Nat → Prop} : Fr h h W := ⟨Nat.le_refl _, fun _ _ _ => rfl⟩
theorem Fr.trans {h h1 h2 : CH} {W : Nat → Prop} (a : Fr h h1 W) (b : Fr h1 h2 W) : Fr h h2 W := ⟨Nat.le_trans a.len b.len, fun x hx nw => (b.oth x (Nat.lt_of_lt_of_le hx a.len) nw).trans (a.oth x hx nw)⟩
theorem Fr.imp {h h1 : CH} {W W' : Nat → Prop} (a : Fr h h1 W) (k : ∀ x, x < h.length → W x → W' x) : Fr h h1 W' := ⟨a.len, fun x hx nw => a.oth x hx fun w => nw (k x hx w)⟩
theorem trunc_get {n i : Nat} {d : D} {h : CH} (hi : i < n) : (trunc n d h)[i]? = h[i]? := by
  unfold trunc
  split
  · rfl
  · split
    · rw [List.getElem?_take_of_lt hi]
    · rfl
theorem trunc_len {n : Nat} {d : D} {h : CH} (hn : n ≤ h.length) : n ≤ (trunc n d h).length := by
  unfold trunc
  split
  · exact hn
  · split
    · rw [List.length_take]; omega
    · exact hn
theorem Fr.trunc {h h' : CH} {W : Nat → Prop} (a : Fr h h' W) (d : D) : Fr h (trunc h.length d h') W := ⟨trunc_len a.len, fun x hx nw => (trunc_get hx).trans (a.oth x hx nw)⟩
theorem Mx.lt {h : CH} {m n : Nat} {cs : Nat → Nat} {f : F2} (M : Mx h m cs n f) : m < h.length ∧ ∀ i, i < n → cs i < h.length := ⟨ws_chk.lt_of_get' M.top, fun i hi => ws_chk.lt_of_get' (M.row i hi)⟩
theorem Mx.trunc {h h' : CH} {m n : Nat} {cs : Nat → Nat} {f f' : F2} (M : Mx h m cs n f) (M' : Mx h' m cs n f') (d : D) : Mx (trunc h.length d h') m cs n f' :=
  ⟨(trunc_get M.lt.1).trans M'.top, fun i hi => (trunc_get (M.lt.2 i hi)).trans (M'.row i hi), M.inj, M.out⟩
/-- the table stands where its cells do -/
theorem Mx.stay {h h' : CH} {m n : Nat} {cs : Nat → Nat} {f : F2} (M : Mx h m cs n f) (e1 : h'[m]? = h[m]?) (e2 : ∀ i, i < n → h'[cs i]? = h[cs i]?) : Mx h' m cs n f := ⟨e1.trans M.top, fun i hi => (e2 i hi).trans (M.row i hi), M.inj, M.out⟩
theorem FrM.fr {h h' : CH} {cs : Nat → Nat} {n : Nat} (F : FrM h h' cs n) : Fr h h' (fun x => ∃ i, i < n ∧ x = cs i) := ⟨Nat.le_of_eq F.len.symm, fun x _ nw => F.oth x fun i hi e => nw ⟨i, hi, e⟩⟩
end Z
namespace Z
/-- what is lacking -/
def lac (n : Nat) (s : Nat → Int) (f : F2) : Nat → Int := fun i => s i - sg n (f i)
def posN (n : Nat) (g : Nat → Int) : List Nat := (List.range n).filter fun i => decide (0 < g i)
def negN (n : Nat) (g : Nat → Int) : List Nat := (List.range n).filter fun i => decide (g i < 0)
theorem mem_posN {n : Nat} {g : Nat → Int} {i : Nat} : i ∈ posN n g ↔ i < n ∧ 0 < g i := by simp [posN]
theorem mem_negN {n : Nat} {g : Nat → Int} {i : Nat} : i ∈ negN n g ↔ i < n ∧ g i < 0 := by simp [negN]
theorem nd_posN (n : Nat) (g : Nat → Int) : (posN n g).Nodup := List.nodup_range.filter _
theorem vec_congr {n : Nat} {s t : Nat → Int} (h : ∀ i, i < n → s i = t i) : vec n s = vec n t := List.map_congr_left fun i hi => h i (List.mem_range.1 hi)
def msr (n : Nat) (g : Nat → Int) : Nat := (sg n fun i => max (g i) 0).toNat
/-- what a shift along a way leaves lacking -/
theorem lac_shift {n : Nat} {s : Nat → Int} {f : F2} {w : List Nat} (lt : ∀ x ∈ w, x < n) {a z : Nat} (ha : w.head? = some a) (hz : w.getLast? = some z) (amt : Int) (x : Nat) : lac n s (shift f (lks w) amt) x = lac n s f x - amt * ((if a = x then 1 else 0) - (if z = x then 1 else 0)) := by
  unfold lac
  have := row_shift (n := n) amt x (lks w) f fun p hp => ⟨lt _ (lks_mem hp).1, lt _ (lks_mem hp).2⟩
  rw [rowF_sum, rowF_sum, path_c ha hz] at this
  omega
theorem msr_lt {n : Nat} {g g' : Nat → Int} {a z : Nat} {amt : Int} (ha : a < n) (hz : z < n) (ne : a ≠ z) (h1 : 1 ≤ amt) (h2 : amt ≤ g a) (h3 : amt ≤ - g z) (e : ∀ x, g' x = g x - amt * ((if a = x then 1 else 0) - (if z = x then 1 else 0))) : msr n g' < msr n g := by
  have p0 : 0 ≤ sg n fun i => max (g' i) 0 := sg_nonneg fun i _ => by omega
  have : (sg n fun i => max (g' i) 0) < sg n fun i => max (g i) 0 := by
    refine sg_lt (fun i hi => ?_) ⟨a, ha, ?_⟩
    · rw [e i]
      by_cases h4 : a = i
      · have h5 : ¬ z = i := fun z => ne (h4.trans z.symm)
        simp [h4, h5]; omega
      · by_cases h5 : z = i
        · subst h5; simp [h4]; omega
        · simp [h4, h5]
    · rw [e a]
      have h5 : ¬ z = a := fun z => ne z.symm
      simp [h5]; omega
  unfold msr
  omega
theorem anyT {n : Nat} {g : Nat → Bool} : (((List.range n).map g).any id = true) ↔ ∃ i, i < n ∧ g i = true := by simp
end Z
namespace Z
theorem sg_mod2 {n : Nat} {g k : Nat → Int} (h : ∀ i, i < n → (g i - k i) % 2 = 0) : (sg n g - sg n k) % 2 = 0 := by
  induction n with
  | zero => rfl
  | succ n ih =>
    rw [sg_succ, sg_succ]
    have := ih fun i hi => h i (by omega)
    have := h n (by omega)
    omega
/-- bounds -/
structure Bnd (n : Nat) (c : F2) : Prop where
  pos : ∀ i j, i < n → j < n → 0 ≤ c i j
  sym : ∀ i j, i < n → j < n → c i j = c j i
  dia : ∀ i, i < n → c i i = 0
/-- a table to begin with -/
def fst0 (full : Bool) (c : F2) : F2 := fun i j => if full then c i j % 2 * (if i < j then 1 else -1) else 0
theorem fst0_flw {n : Nat} {c : F2} (B : Bnd n c) (full : Bool) : Flw n c (fst0 full c) := by
  cases full with
  | false => exact ⟨fun i j _ _ => by simp [fst0], fun i j hi hj => by simp [fst0]; exact B.pos i j hi hj⟩
  | true =>
    refine ⟨fun i j hi hj => ?_, fun i j hi hj => ?_⟩
    · have e := B.sym i j hi hj
      simp only [fst0, if_true, e]
      by_cases h1 : i < j
      · have h2 : ¬ j < i := by omega
        simp [h1, h2]
      · by_cases h2 : j < i
        · simp [h1, h2]
        · have : i = j := by omega
          subst this
          simp [B.dia i hi]
    · have := B.pos i j hi hj
      simp only [fst0, if_true]
      split <;> omega
theorem fst0_par {n : Nat} (c : F2) : Par n c (fst0 true c) := fun i j hi hj => by
  simp only [fst0, if_true]
  split <;> omega
/-- what a filling leaves -/
structure Fil (n : Nat) (c : F2) (s : Nat → Int) (full : Bool) (f : F2) : Prop where
  fl : Flw n c f
  par : full = true → Par n c f ∧ ∀ i, i < n → lac n s f i % 2 = 0
/-- score and bounds have an odd sum -/
def odB (n : Nat) (c : F2) (s : Nat → Int) (i : Nat) : Bool := decide ((s i + (rowF n c i).sum) % 2 = 1)
theorem fst0_fil {n : Nat} {c : F2} (B : Bnd n c) {full : Bool} {s : Nat → Int} (ev : full = true → ∀ i, i < n → odB n c s i = false) : Fil n c s full (fst0 full c) := ⟨fst0_flw B full, fun hf => by
  subst hf
  refine ⟨fst0_par c, fun i hi => ?_⟩
  have h1 := ev rfl i hi
  have h2 := sg_mod2 (n := n) (g := c i) (k := fst0 true c i) fun j hj => fst0_par (n := n) c i j hi hj
  unfold odB at h1
  rw [rowF_sum] at h1
  have h1 := of_decide_eq_false h1
  unfold lac
  omega⟩
/-- a table of the parity asked has even sums -/
theorem par_even {n : Nat} {c f : F2} {s : Nat → Int} (P : Par n c f) (hs : ∀ i, i < n → sg n (f i) = s i) (i : Nat) (hi : i < n) : odB n c s i = false := by
  have h2 := sg_mod2 (n := n) (g := c i) (k := f i) fun j hj => P i j hi hj
  have := hs i hi
  unfold odB
  rw [rowF_sum]
  exact decide_eq_false (by omega)
/-- a set told too much -/
structure Crowd (n : Nat) (c : F2) (s : Nat → Int) (S : List Nat) : Prop where
  sd : S.Pairwise (fun a b : Nat => a < b)
  lt : ∀ x ∈ S, x < n
  rm : room n c s S < 0
/-- nothing lacks where the sum is 0 -/
theorem lac_done {n : Nat} {s : Nat → Int} {f : F2} (sk : Skew n f) (s0 : sg n s = 0) (h : ∀ i, i < n → lac n s f i ≤ 0) : ∀ i, i < n → sg n (f i) = s i := fun i hi => by
  have e : sg n (lac n s f) = 0 := by
    have : sg n (lac n s f) = sg n s - sg n fun i => sg n (f i) := sg_sub n s fun i => sg n (f i)
    rw [this, s0, sg_skew sk]; rfl
  have := sg_zero_all h e i hi
  unfold lac at this
  omega
end Z

end
section
/-! rooms of all sets, and how far an entry goes: no program -/
namespace Z
/-- all sets of numbers below m -/
def sets : Nat → List (List Nat)
  | 0 => [[]]
  | m + 1 => sets m ++ (sets m).map fun S => S ++ [m]
theorem sets_len : ∀ m, (sets m).length = 2 ^ m
  | 0 => rfl
  | m + 1 => by simp only [sets, List.length_append, List.length_map, sets_len m, Nat.pow_succ]; omega
theorem sets_in : ∀ {m : Nat} {S : List Nat}, S ∈ sets m → S.Pairwise (fun a b : Nat => a < b) ∧ (∀ x ∈ S, x < m) ∧ S.length ≤ m
  | 0, S, h => by
    rcases List.mem_singleton.1 h with rfl
    exact ⟨List.Pairwise.nil, fun x hx => (List.not_mem_nil hx).elim, Nat.le_refl _⟩
  | m + 1, S, h => by
    rcases List.mem_append.1 h with h | h
    · obtain ⟨a, b, c⟩ := sets_in h
      exact ⟨a, fun x hx => Nat.lt_succ_of_lt (b x hx), Nat.le_succ_of_le c⟩
    · obtain ⟨T, hT, rfl⟩ := List.mem_map.1 h
      obtain ⟨a, b, c⟩ := sets_in hT
      refine ⟨List.pairwise_append.2 ⟨a, by simp, fun x hx y hy => ?_⟩, fun x hx => ?_, by simp; exact c⟩
      · rw [List.mem_singleton.1 hy]; exact b x hx
      · rcases List.mem_append.1 hx with z | z
        · exact Nat.lt_succ_of_lt (b x z)
        · rw [List.mem_singleton.1 z]; omega
theorem in_sets : ∀ {m : Nat} {S : List Nat}, S.Pairwise (fun a b : Nat => a < b) → (∀ x ∈ S, x < m) → S ∈ sets m
  | 0, S, a, b => by
    cases S with
    | nil => exact List.mem_singleton.2 rfl
    | cons x r => exact absurd (b x List.mem_cons_self) (by omega)
  | m + 1, S, a, b => by
    by_cases hm : m ∈ S
    · have ne : S ≠ [] := by intro z; subst z; cases hm
      have dl := List.dropLast_concat_getLast ne
      have a2 := a
      rw [← dl] at a2
      have a3 := List.pairwise_append.1 a2
      have last : S.getLast ne = m := by
        have h1 := b _ (List.getLast_mem ne)
        rw [← dl] at hm
        rcases List.mem_append.1 hm with z | z
        · have := a3.2.2 m z _ (List.mem_singleton.2 rfl)
          omega
        · exact (List.mem_singleton.1 z).symm
      rw [← dl, last]
      refine List.mem_append.2 (.inr (List.mem_map.2 ⟨_, in_sets a3.1 fun x hx => ?_, rfl⟩))
      have := a3.2.2 x hx _ (List.mem_singleton.2 rfl)
      omega
    · refine List.mem_append.2 (.inl (in_sets a fun x hx => ?_))
      have := b x hx
      have : x ≠ m := fun z => hm (z ▸ hx)
      omega
theorem room_sS {n : Nat} {c : F2} {s : Nat → Int} {S : List Nat} (nd : S.Nodup) (lt : ∀ x ∈ S, x < n) : room n c s S = sS S fun i => (sg n fun j => if j ∈ S then 0 else c i j) - s i := by
  rw [sS_sg nd lt]; rfl
/-- some set is told too much -/
def crB (n : Nat) (c : F2) (s : Nat → Int) : Bool := (sets n).any fun S => decide (room n c s S < 0)
theorem crB_iff {n : Nat} {c : F2} {s : Nat → Int} : crB n c s = true ↔ ∃ S, Crowd n c s S := by
  unfold crB
  rw [List.any_eq_true]
  constructor
  · rintro ⟨S, hS, h0⟩
    obtain ⟨a, b, _⟩ := sets_in hS
    exact ⟨S, a, b, of_decide_eq_true h0⟩
  · rintro ⟨S, a, b, h0⟩
    exact ⟨S, in_sets a b, decide_eq_true h0⟩
theorem lt_nodup {S : List Nat} (h : S.Pairwise (fun a b : Nat => a < b)) : S.Nodup := h.imp fun z => Nat.ne_of_lt z

theorem sg_term {n : Nat} {g : Nat → Int} (h : ∀ i, i < n → 0 ≤ g i) {j : Nat} (hj : j < n) : g j ≤ sg n g := by
  have e : sg n (fun y => if j = y then g j else 0) ≤ sg n g := sg_le fun i hi => by
    by_cases z : j = i
    · subst z; simp
    · simp [z]; exact h i hi
  rw [sg_ite, if_pos hj] at e
  exact e
/-- the room, where the scores are reached -/
theorem room_flw {n : Nat} {c f : F2} {s : Nat → Int} (F : Flw n c f) (hs : ∀ i, i < n → sg n (f i) = s i) (S : List Nat) : room n c s S = sg n fun x => if x ∈ S then sg n (fun y => if y ∈ S then 0 else c x y - f x y) else 0 := by
  rw [room_skew F.sk S]
  refine sg_congr fun x hx => ?_
  by_cases m : x ∈ S
  · simp only [m, if_true, hs x hx]; omega
  · simp only [m, if_false]
theorem room_up {n : Nat} {c f : F2} {s : Nat → Int} (B : Bnd n c) (F : Flw n c f) (hs : ∀ i, i < n → sg n (f i) = s i) {S : List Nat} {i j : Nat} (hi : i < n) (hj : j < n) (jS : j ∈ S) (iS : i ∉ S) : f i j ≤ room n c s S - c i j := by
  rw [room_flw F hs S]
  have nn : ∀ x, x < n → ∀ y, y < n → 0 ≤ (if y ∈ S then 0 else c x y - f x y) := fun x hx y hy => by
    split
    · omega
    · have := F.le x y hx hy; omega
  have t1 := sg_term (n := n) (g := fun x => if x ∈ S then sg n (fun y => if y ∈ S then 0 else c x y - f x y) else 0) (fun x hx => by
    split
    · exact sg_nonneg fun y hy => nn x hx y hy
    · omega) hj
  have t2 := sg_term (n := n) (g := fun y => if y ∈ S then 0 else c j y - f j y) (fun y hy => nn j hj y hy) hi
  simp only [jS, if_true] at t1
  simp only [iS, if_false] at t2
  have e1 := B.sym i j hi hj
  have e2 := F.sk i j hi hj
  omega
/-- what can be raised, a pair left out -/
def sp2 (c f : F2) (i j : Nat) : F2 := stF (stF (fun x y => c x y - f x y) i j 0) j i 0
theorem sp2_eq (c f : F2) (i j x y : Nat) : sp2 c f i j x y = if (x = j ∧ y = i) ∨ (x = i ∧ y = j) then 0 else c x y - f x y := by
  unfold sp2 stF
  by_cases a : x = j ∧ y = i
  · rw [if_pos a, if_pos (.inl a)]
  · by_cases b : x = i ∧ y = j
    · rw [if_neg a, if_pos b, if_pos (.inr b)]
    · rw [if_neg a, if_neg b, if_neg (fun z => z.elim a b)]
theorem room_shut {n : Nat} {c f : F2} {s : Nat → Int} (B : Bnd n c) (F : Flw n c f) (hs : ∀ i, i < n → sg n (f i) = s i) {S : List Nat} {i j : Nat} (hi : i < n) (hj : j < n) (jS : j ∈ S) (iS : i ∉ S) (lt : ∀ x ∈ S, x < n)
    (out : ∀ a ∈ S, ∀ b, b < n → 0 < sp2 c f i j a b → b ∈ S) : room n c s S = c i j + f i j := by
  rw [room_flw F hs S]
  have e1 := B.sym i j hi hj
  have e2 := F.sk i j hi hj
  have z : ∀ x, x ∈ S → ∀ y, y < n → y ∉ S → ¬ (x = j ∧ y = i) → c x y - f x y = 0 := fun x hx y hy hn ne => by
    have h1 := F.le x y (lt x hx) hy
    have h2 : ¬ 0 < sp2 c f i j x y := fun q => hn (out x hx y hy q)
    rw [sp2_eq, if_neg (fun q => q.elim ne (fun q => iS (q.1 ▸ hx)))] at h2
    omega
  have row : ∀ x, x < n → (if x ∈ S then sg n (fun y => if y ∈ S then 0 else c x y - f x y) else 0) = if j = x then c j i - f j i else 0 := fun x hx => by
    by_cases m : x ∈ S
    · simp only [m, if_true]
      by_cases xj : j = x
      · subst xj
        simp only [if_true]
        have : ∀ y, y < n → (if y ∈ S then 0 else c j y - f j y) = if i = y then c j i - f j i else 0 := fun y hy => by
          by_cases yS : y ∈ S
          · have : ¬ i = y := fun q => iS (q ▸ yS)
            simp only [yS, if_true, this, if_false]
          · by_cases yi : i = y
            · subst yi; simp only [iS, if_false, if_true]
            · simp only [yS, if_false, yi]
              exact z j jS y hy yS fun q => yi q.2.symm
        rw [sg_congr this, sg_ite, if_pos hi]
      · simp only [xj, if_false]
        have : ∀ y, y < n → (if y ∈ S then 0 else c x y - f x y) = (fun _ => (0 : Int)) y := fun y hy => by
          by_cases yS : y ∈ S
          · simp only [yS, if_true]
          · simp only [yS, if_false]
            exact z x m y hy yS fun q => xj q.1.symm
        rw [sg_congr this, sg_const0]
    · have : ¬ j = x := fun q => m (q ▸ jS)
      simp only [m, if_false, this]
  rw [sg_congr row, sg_ite, if_pos hj]
  omega
/-- the least of what the sets let -/
def gstep (n : Nat) (c : F2) (s : Nat → Int) (i j : Nat) (a : Int) (S : List Nat) : Int := if j ∈ S ∧ i ∉ S then (if room n c s S - c i j < a then room n c s S - c i j else a) else a
def grt (n : Nat) (c : F2) (s : Nat → Int) (i j : Nat) : Int := (sets n).foldl (gstep n c s i j) (c i j)
theorem gfold_le {n : Nat} {c : F2} {s : Nat → Int} {i j : Nat} : ∀ (l : List (List Nat)) (a : Int), l.foldl (gstep n c s i j) a ≤ a ∧ ∀ S ∈ l, j ∈ S → i ∉ S → l.foldl (gstep n c s i j) a ≤ room n c s S - c i j
  | [], a => ⟨Int.le_refl _, fun S h => (List.not_mem_nil h).elim⟩
  | T :: r, a => by
    obtain ⟨h1, h2⟩ := gfold_le (n := n) (c := c) (s := s) (i := i) (j := j) r (gstep n c s i j a T)
    have h3 : gstep n c s i j a T ≤ a := by
      unfold gstep
      split
      · split <;> omega
      · omega
    refine ⟨Int.le_trans h1 h3, fun S hS jS iS => ?_⟩
    rcases List.mem_cons.1 hS with rfl | hS
    · refine Int.le_trans h1 ?_
      unfold gstep
      rw [if_pos ⟨jS, iS⟩]
      split <;> omega
    · exact h2 S hS jS iS
theorem gfold_ge {n : Nat} {c : F2} {s : Nat → Int} {i j : Nat} {v : Int} : ∀ (l : List (List Nat)) (a : Int), v ≤ a → (∀ S ∈ l, j ∈ S → i ∉ S → v ≤ room n c s S - c i j) → v ≤ l.foldl (gstep n c s i j) a
  | [], a, h, _ => h
  | T :: r, a, h, k => gfold_ge r _ (by
    unfold gstep
    split
    · rename_i q
      have := k T List.mem_cons_self q.1 q.2
      split <;> omega
    · exact h) fun S hS => k S (List.mem_cons_of_mem _ hS)
/-- what the pushing reaches is the greatest -/
theorem grt_eq {n : Nat} {c f : F2} {s : Nat → Int} (B : Bnd n c) (F : Flw n c f) (hs : ∀ i, i < n → sg n (f i) = s i) {i j : Nat} (hi : i < n) (hj : j < n)
    (e : f i j = c i j ∨ ∃ S : List Nat, S.Pairwise (fun a b : Nat => a < b) ∧ (∀ x ∈ S, x < n) ∧ j ∈ S ∧ i ∉ S ∧ room n c s S = c i j + f i j) : f i j = grt n c s i j := by
  apply Int.le_antisymm
  · exact gfold_ge _ _ (F.le i j hi hj) fun S _ jS iS => room_up B F hs hi hj jS iS
  · obtain ⟨h1, h2⟩ := gfold_le (n := n) (c := c) (s := s) (i := i) (j := j) (sets n) (c i j)
    rcases e with e | ⟨S, a, b, jS, iS, e⟩
    · rw [e]; exact h1
    · have := h2 S (in_sets a b) jS iS
      unfold grt
      omega
theorem grt_ge {n : Nat} {c f : F2} {s : Nat → Int} (B : Bnd n c) (F : Flw n c f) (hs : ∀ i, i < n → sg n (f i) = s i) {i j : Nat} (hi : i < n) (hj : j < n) : f i j ≤ grt n c s i j :=
  gfold_ge _ _ (F.le i j hi hj) fun S _ jS iS => room_up B F hs hi hj jS iS
/-- one raising along a closed way -/
theorem push_flw {n : Nat} {c f : F2} (F : Flw n c f) {i j : Nat} (hi : i < n) (hj : j < n) (ne : i ≠ j) {w : List Nat} (nd : w.Nodup) (lt : ∀ x ∈ w, x < n) (hd : w.head? = some j) (la : w.getLast? = some i) {a : Int} (a1 : 1 ≤ a)
    (hw : ∀ p ∈ lks w, a ≤ sp2 c f i j p.1 p.2) (ha : a ≤ c i j - f i j) :
    Flw n c (shift f (lks (i :: w)) a) ∧ shift f (lks (i :: w)) a i j = f i j + a ∧ (∀ x, sg n (shift f (lks (i :: w)) a x) = sg n (f x)) := by
  obtain ⟨r, rfl⟩ : ∃ r, w = j :: r := by
    cases w with
    | nil => cases hd
    | cons x r => cases hd; exact ⟨r, rfl⟩
  have no1 : (i, j) ∉ lks (j :: r) := fun z => by
    have := hw _ z
    rw [sp2_eq, if_pos (.inr ⟨rfl, rfl⟩)] at this
    omega
  have no2 : (j, i) ∉ lks (j :: r) := fun z => by
    have := hw _ z
    rw [sp2_eq, if_pos (.inl ⟨rfl, rfl⟩)] at this
    omega
  have G := F.shift nd (show 0 ≤ a by omega) fun p hp => by
    have := hw p hp
    rw [sp2_eq] at this
    split at this
    · omega
    · exact this
  have val : ∀ x y, shift f (lks (i :: j :: r)) a x y = shift f (lks (j :: r)) a x y + a * ((if i = x ∧ j = y then 1 else 0) - (if i = y ∧ j = x then 1 else 0)) := fun x y => by
    rw [shift_val, shift_val, lks_cons, cnt_cons, cnt_cons, Int.add_assoc, ← Int.mul_add]
    congr 2
    omega
  have ij : shift f (lks (j :: r)) a i j = f i j := by
    rw [shift_val, cnt_out no1, cnt_out no2]; simp
  have ji : shift f (lks (j :: r)) a j i = f j i := by
    rw [shift_val, cnt_out no1, cnt_out no2]; simp
  refine ⟨⟨shift_skew F.sk _ _, fun x y hx hy => ?_⟩, ?_, fun x => ?_⟩
  · rw [val]
    by_cases h1 : i = x ∧ j = y
    · obtain ⟨rfl, rfl⟩ := h1
      have : ¬ (i = j ∧ j = i) := fun z => ne z.1
      simp only [and_self, if_true, this, if_false, ij]
      omega
    · by_cases h2 : i = y ∧ j = x
      · obtain ⟨rfl, rfl⟩ := h2
        have := F.le j i hj hi
        simp only [h1, and_self, if_true, if_false, ji]
        omega
      · have := G.le x y hx hy
        simp only [h1, h2, if_false]
        omega
  · rw [val, ij]
    have : ¬ (i = j ∧ j = i) := fun z => ne z.1
    simp only [and_self, if_true, this, if_false]
    omega
  · have lt' : ∀ p ∈ lks (i :: j :: r), p.1 < n ∧ p.2 < n := fun p hp => by
      rw [lks_cons] at hp
      rcases List.mem_cons.1 hp with rfl | hp
      · exact ⟨hi, hj⟩
      · exact ⟨lt _ (lks_mem hp).1, lt _ (lks_mem hp).2⟩
    have := row_shift (n := n) a x (lks (i :: j :: r)) f lt'
    rw [rowF_sum, rowF_sum] at this
    rw [this, path_c (w := i :: j :: r) (a := i) (z := i) rfl (by rw [List.getLast?_cons_cons]; exact la) x]
    omega
end Z

end
section
/-! score orders, first dice, blocks: no program -/
namespace Z
/-! ### lists of numbers, sorted -/
def srtN (l : List Nat) : List Nat := l.mergeSort fun a b => decide (a ≤ b)
theorem srtN_perm (l : List Nat) : (srtN l).Perm l := List.mergeSort_perm _ _
theorem srtN_le (l : List Nat) : (srtN l).Pairwise (fun a b : Nat => a ≤ b) :=
  (List.pairwise_mergeSort (le := fun a b : Nat => decide (a ≤ b)) (fun a b c h1 h2 => by simp at *; omega) (fun a b => by simp; omega) l).imp fun h => of_decide_eq_true h
theorem srtN_lt {l : List Nat} (nd : l.Nodup) : (srtN l).Pairwise (fun a b : Nat => a < b) :=
  ((srtN_le l).and ((srtN_perm l).nodup_iff.2 nd)).imp fun h => Nat.lt_of_le_of_ne h.1 h.2
theorem lt_uniq {a b : List Nat} (ha : a.Pairwise (fun a b : Nat => a < b)) (hb : b.Pairwise (fun a b : Nat => a < b)) (p : a.Perm b) : a = b :=
  p.eq_of_pairwise (fun x y _ _ h1 h2 => absurd h1 (Nat.lt_asymm h2)) ha hb
theorem srtN_eq {l S : List Nat} (h : S.Pairwise (fun a b : Nat => a < b)) (p : S.Perm l) : srtN l = S :=
  lt_uniq (srtN_lt (p.nodup_iff.1 (h.imp Nat.ne_of_lt))) h ((srtN_perm l).trans p.symm)
theorem perm_of_mem {a b : List Nat} (ha : a.Nodup) (hb : b.Nodup) (h : ∀ x, x ∈ a ↔ x ∈ b) : a.Perm b := (List.perm_ext_iff_of_nodup ha hb).2 h
theorem srtN_nil : srtN [] = [] := by simp [srtN]
/-! ### sums over sets -/
theorem sS_perm {g : Nat → Int} {a b : List Nat} (p : a.Perm b) : sS a g = sS b g := by
  unfold sS
  induction p with
  | nil => rfl
  | cons x _ ih => simp only [List.map_cons, List.sum_cons, ih]
  | swap x y l => simp only [List.map_cons, List.sum_cons]; omega
  | trans _ _ h1 h2 => exact h1.trans h2
theorem sS_app (g : Nat → Int) (a b : List Nat) : sS (a ++ b) g = sS a g + sS b g := by
  unfold sS; rw [List.map_append, List.sum_append]
theorem sS_range (n : Nat) (g : Nat → Int) : sS (List.range n) g = sg n g := rfl
/-- the room of a set of told faces -/
def rmF (n : Nat) (fa s : Nat → Int) (S : List Nat) : Int := sS S fa * (sg n fa - sS S fa) - sS S s
theorem rmF_perm {n : Nat} {fa s : Nat → Int} {a b : List Nat} (p : a.Perm b) : rmF n fa s a = rmF n fa s b := by unfold rmF; rw [sS_perm p, sS_perm p]
/-! ### the order -/
def Bef (w : Nat → Int) (a b : Nat) : Prop := w b < w a ∨ (w a = w b ∧ a < b)
structure Ord (n : Nat) (w : Nat → Int) (R : List Nat) : Prop where
  pm : R.Perm (List.range n)
  pw : R.Pairwise (Bef w)
theorem Ord.uniq {n : Nat} {w : Nat → Int} {R R' : List Nat} (a : Ord n w R) (b : Ord n w R') : R = R' :=
  (a.pm.trans b.pm.symm).eq_of_pairwise (fun x y _ _ h1 h2 => by unfold Bef at h1 h2; omega) a.pw b.pw
theorem Ord.nd {n : Nat} {w : Nat → Int} {R : List Nat} (a : Ord n w R) : R.Nodup := a.pm.nodup_iff.2 List.nodup_range
theorem Ord.len {n : Nat} {w : Nat → Int} {R : List Nat} (a : Ord n w R) : R.length = n := by rw [a.pm.length_eq, List.length_range]
theorem Ord.lt {n : Nat} {w : Nat → Int} {R : List Nat} (a : Ord n w R) {x : Nat} (h : x ∈ R) : x < n := List.mem_range.1 (a.pm.mem_iff.1 h)
theorem Ord.mem {n : Nat} {w : Nat → Int} {R : List Nat} (a : Ord n w R) {x : Nat} (h : x < n) : x ∈ R := a.pm.mem_iff.2 (List.mem_range.2 h)
def rk (n : Nat) (w : Nat → Int) : List Nat := (List.range n).mergeSort fun a b => decide (w b < w a ∨ (w a = w b ∧ a ≤ b))
theorem rk_ord (n : Nat) (w : Nat → Int) : Ord n w (rk n w) := by
  refine ⟨List.mergeSort_perm _ _, ?_⟩
  have h := List.pairwise_mergeSort (le := fun a b : Nat => decide (w b < w a ∨ (w a = w b ∧ a ≤ b))) (fun a b c h1 h2 => by simp at *; omega) (fun a b => by simp; omega) (List.range n)
  have nd : (rk n w).Nodup := (List.mergeSort_perm _ _).nodup_iff.2 List.nodup_range
  exact (h.and nd).imp fun {a b} h => by
    have h1 := of_decide_eq_true h.1
    have h2 := h.2
    unfold Bef
    omega
/-! ### worths: scores by face -/
def prd (n : Nat) (fa : Nat → Int) : Int := ((List.range n).map fa).foldl (fun a b => a * b) 1
def wrt (n : Nat) (fa s : Nat → Int) : Nat → Int := fun i => s i * (prd n fa / fa i)
theorem prd_succ (n : Nat) (fa : Nat → Int) : prd (n + 1) fa = prd n fa * fa n := by unfold prd; rw [List.range_succ, List.map_append, List.foldl_append]; rfl
theorem prd_pos {n : Nat} {fa : Nat → Int} (h : ∀ i, i < n → 1 ≤ fa i) : 1 ≤ prd n fa := by
  induction n with
  | zero => exact Int.le_refl _
  | succ n ih =>
    rw [prd_succ]
    have h1 := ih fun i hi => h i (by omega)
    have h2 := h n (by omega)
    have := Int.mul_le_mul h1 h2 (by omega) (by omega)
    simpa using this
theorem prd_le {n : Nat} {fa : Nat → Int} {t : Int} (h : ∀ i, i < n → 1 ≤ fa i ∧ fa i ≤ t) : prd n fa ≤ t ^ n := by
  induction n with
  | zero => rw [Int.pow_zero]; exact Int.le_refl _
  | succ n ih =>
    rw [prd_succ, Int.pow_succ]
    have h1 := ih fun i hi => h i (by omega)
    have h2 := h n (by omega)
    have h3 := prd_pos fun i hi => (h i (Nat.lt_succ_of_lt hi)).1
    exact Int.mul_le_mul h1 h2.2 (by omega) (by omega)
theorem prd_dvd {n : Nat} {fa : Nat → Int} : ∀ {i : Nat}, i < n → fa i ∣ prd n fa := by
  induction n with
  | zero => intro i hi; omega
  | succ n ih =>
    intro i hi
    rw [prd_succ]
    rcases Nat.lt_or_ge i n with h | h
    · exact Int.dvd_mul_of_dvd_left (ih h)
    · have : i = n := by omega
      subst this
      exact Int.dvd_mul_left _ _
theorem prd_q {n : Nat} {fa : Nat → Int} (h : ∀ i, i < n → 1 ≤ fa i) {i : Nat} (hi : i < n) : 1 ≤ prd n fa / fa i ∧ prd n fa / fa i * fa i = prd n fa := by
  have e := Int.ediv_mul_cancel (prd_dvd (fa := fa) hi)
  refine ⟨?_, e⟩
  have h1 := h i hi
  have h2 := prd_pos h
  rcases Int.lt_or_le 0 (prd n fa / fa i) with z | z
  · exact z
  · have := Int.mul_le_mul_of_nonneg_right z (show 0 ≤ fa i by omega)
    omega
/-- by worths as by scores and faces -/
theorem wrt_lt {n : Nat} {fa s : Nat → Int} (h : ∀ i, i < n → 1 ≤ fa i) {a b : Nat} (ha : a < n) (hb : b < n) : wrt n fa s b < wrt n fa s a ↔ s b * fa a < s a * fa b := by
  obtain ⟨qa, ea⟩ := prd_q h ha
  obtain ⟨qb, eb⟩ := prd_q h hb
  unfold wrt
  generalize prd n fa / fa a = x at *
  generalize prd n fa / fa b = y at *
  have pp := prd_pos h
  have fa1 := h a ha
  have fb1 := h b hb
  generalize prd n fa = W at *
  have e1 : (s b * y) * (fa a * fa b) = (s b * fa a) * W := by rw [← eb]; grind
  have e2 : (s a * x) * (fa a * fa b) = (s a * fa b) * W := by rw [← ea]; grind
  have ff : 0 < fa a * fa b := Int.mul_pos (by omega) (by omega)
  constructor
  · intro z
    have := Int.mul_lt_mul_of_pos_right z ff
    rw [e1, e2] at this
    exact Int.lt_of_mul_lt_mul_right this (by omega)
  · intro z
    have := Int.mul_lt_mul_of_pos_right z (show 0 < W by omega)
    rw [← e1, ← e2] at this
    exact Int.lt_of_mul_lt_mul_right this (by omega)
theorem wrt_le {n : Nat} {fa s : Nat → Int} (h : ∀ i, i < n → 1 ≤ fa i) {a b : Nat} (ha : a < n) (hb : b < n) : wrt n fa s b ≤ wrt n fa s a ↔ s b * fa a ≤ s a * fa b := by
  have := wrt_lt (s := s) h hb ha
  omega
/-! ### first dice -/
theorem sS_cons (g : Nat → Int) (a : Nat) (r : List Nat) : sS (a :: r) g = g a + sS r g := by unfold sS; rw [List.map_cons, List.sum_cons]
theorem sS_nil (g : Nat → Int) : sS [] g = 0 := rfl
theorem sS_pos {g : Nat → Int} : ∀ {l : List Nat}, (∀ x ∈ l, 1 ≤ g x) → l ≠ [] → 0 < sS l g
  | [], _, h => absurd rfl h
  | [a], h, _ => by
    rw [sS_cons, sS_nil]
    have := h a List.mem_cons_self
    omega
  | a :: b :: r, h, _ => by
    rw [sS_cons]
    have h1 := h a List.mem_cons_self
    have h2 := sS_pos (l := b :: r) (fun x hx => h x (List.mem_cons_of_mem _ hx)) (by simp)
    omega
theorem find_cut {g : Nat → Int} : ∀ {R : List Nat} {x : Int}, R ≠ [] → 0 ≤ x → x ≤ sS R g → ∃ A e B, R = A ++ e :: B ∧ sS A g ≤ x ∧ x ≤ sS A g + g e ∧ (x = sS A g + g e → B = [])
  | [], _, h, _, _ => absurd rfl h
  | [a], x, _, h0, h1 => ⟨[], a, [], rfl, by rw [sS_nil]; exact h0, by rw [sS_cons, sS_nil] at h1; rw [sS_nil]; omega, fun _ => rfl⟩
  | a :: b :: r, x, _, h0, h1 => by
    rcases Int.lt_or_le x (g a) with z | z
    · exact ⟨[], a, b :: r, rfl, by rw [sS_nil]; exact h0, by rw [sS_nil]; omega, fun e => by rw [sS_nil] at e; omega⟩
    · obtain ⟨A, e, B, q1, q2, q3, q4⟩ := find_cut (g := g) (R := b :: r) (x := x - g a) (by simp) (by omega) (by rw [sS_cons] at h1; omega)
      refine ⟨a :: A, e, B, by rw [q1]; rfl, ?_, ?_, fun h => ?_⟩
      · rw [sS_cons]; omega
      · rw [sS_cons]; omega
      · rw [sS_cons] at h; exact q4 (by omega)
section
variable {n : Nat} {fa s : Nat → Int} {A B : List Nat} {e : Nat}
theorem cut_w {w : Nat → Int} (O : Ord n w (A ++ e :: B)) : (∀ i ∈ A, w e ≤ w i) ∧ ∀ i, i < n → i ∉ A → w i ≤ w e := by
  obtain ⟨h1, h2, h3⟩ := List.pairwise_append.1 O.pw
  refine ⟨fun i hi => ?_, fun i hi hn => ?_⟩
  · have := h3 i hi e List.mem_cons_self
    unfold Bef at this
    omega
  · rcases List.mem_append.1 (O.mem hi) with z | z
    · exact absurd z hn
    · rcases List.mem_cons.1 z with rfl | z
      · exact Int.le_refl _
      · have := (List.pairwise_cons.1 h2).1 i z
        unfold Bef at this
        omega
/-- what a die beyond the cut is short of -/
def dd (fa s : Nat → Int) (e i : Nat) : Int := fa e * s i - s e * fa i
theorem cut_dd (h : ∀ i, i < n → 1 ≤ fa i) (O : Ord n (wrt n fa s) (A ++ e :: B)) : (∀ i ∈ A, 0 ≤ dd fa s e i) ∧ ∀ i, i < n → i ∉ A → dd fa s e i ≤ 0 := by
  obtain ⟨h1, h2⟩ := cut_w O
  have he : e < n := O.lt (List.mem_append_right _ List.mem_cons_self)
  refine ⟨fun i hi => ?_, fun i hi hn => ?_⟩
  · have hi' : i < n := O.lt (List.mem_append_left _ hi)
    have := (wrt_le h hi' he).1 (h1 i hi)
    have c := Int.mul_comm (s i) (fa e)
    unfold dd
    omega
  · have := (wrt_le h he hi).1 (h2 i hi hn)
    have c := Int.mul_comm (s i) (fa e)
    unfold dd
    omega
theorem sS_dd (S : List Nat) : sS S (dd fa s e) = fa e * sS S s - s e * sS S fa := by
  induction S with
  | nil => simp [sS_nil]
  | cons a r ih => rw [sS_cons, sS_cons, sS_cons, ih]; unfold dd; grind
theorem cut_nd {w : Nat → Int} (O : Ord n w (A ++ B)) : A.Nodup ∧ ∀ x ∈ A, x < n := ⟨(List.nodup_append.1 O.nd).1, fun x hx => O.lt (List.mem_append_left _ hx)⟩
theorem cut_term (h : ∀ i, i < n → 1 ≤ fa i) (O : Ord n (wrt n fa s) (A ++ e :: B)) (S : List Nat) (i : Nat) (hi : i < n) : inS S i (dd fa s e i) ≤ inS A i (dd fa s e i) := by
  obtain ⟨h1, h2⟩ := cut_dd h O
  unfold inS
  by_cases a : i ∈ A
  · have := h1 i a
    simp only [a, if_true]
    split <;> omega
  · have := h2 i hi a
    simp only [a, if_false]
    split <;> omega
theorem cut_lin (h : ∀ i, i < n → 1 ≤ fa i) (O : Ord n (wrt n fa s) (A ++ e :: B)) {S : List Nat} (nd : S.Nodup) (lt : ∀ x ∈ S, x < n) : fa e * (sS S s - sS A s) ≤ s e * (sS S fa - sS A fa) := by
  obtain ⟨an, al⟩ := cut_nd O
  have h1 : sS S (dd fa s e) ≤ sS A (dd fa s e) := by
    rw [sS_sg nd lt, sS_sg an al]
    exact sg_le fun i hi => cut_term h O S i hi
  rw [sS_dd, sS_dd] at h1
  have e1 := Int.mul_sub (fa e) (sS S s) (sS A s)
  have e2 := Int.mul_sub (s e) (sS S fa) (sS A fa)
  omega
theorem cut_room (h : ∀ i, i < n → 1 ≤ fa i) (O : Ord n (wrt n fa s) (A ++ e :: B)) {S : List Nat} (nd : S.Nodup) (lt : ∀ x ∈ S, x < n) {t : Int} (ht : sS S fa = sS A fa + t) :
    (fa e - t) * rmF n fa s A + t * rmF n fa s (A ++ [e]) + fa e * (t * (fa e - t)) ≤ fa e * rmF n fa s S := by
  have l := cut_lin h O nd lt
  have e1 : fa e * rmF n fa s S - ((fa e - t) * rmF n fa s A + t * rmF n fa s (A ++ [e]) + fa e * (t * (fa e - t))) = s e * (sS S fa - sS A fa) - fa e * (sS S s - sS A s) := by
    unfold rmF
    rw [sS_app, sS_app, sS_cons, sS_cons, sS_nil, sS_nil, ht]
    grind
  omega
/-- no first dice are told too much: no set is -/
theorem room_all (h : ∀ i, i < n → 1 ≤ fa i) {R : List Nat} (O : Ord n (wrt n fa s) R) (n1 : 1 ≤ n) (H : ∀ A B, R = A ++ B → 0 ≤ rmF n fa s A) {S : List Nat} (nd : S.Nodup) (lt : ∀ x ∈ S, x < n) : 0 ≤ rmF n fa s S := by
  have ne : R ≠ [] := fun z => by have := O.len; rw [z] at this; simp at this; omega
  have x0 : 0 ≤ sS S fa := by
    rw [sS_sg nd lt]
    exact sg_nonneg fun i hi => by unfold inS; have := h i hi; split <;> omega
  have xF : sS S fa ≤ sS R fa := by
    rw [sS_perm O.pm, sS_range, sS_sg nd lt]
    exact sg_le fun i hi => by unfold inS; have := h i hi; split <;> omega
  obtain ⟨A, e, B, rfl, c1, c2, c3⟩ := find_cut ne x0 xF
  have he : e < n := O.lt (List.mem_append_right _ List.mem_cons_self)
  have f1 := h e he
  have k := cut_room h O nd lt (t := sS S fa - sS A fa) (by omega)
  have r1 := H A _ rfl
  have r2 := H (A ++ [e]) B (by simp)
  have p1 := Int.mul_nonneg (show 0 ≤ fa e - (sS S fa - sS A fa) by omega) r1
  have p2 := Int.mul_nonneg (show 0 ≤ sS S fa - sS A fa by omega) r2
  have p3 := Int.mul_nonneg (show 0 ≤ fa e by omega) (Int.mul_nonneg (show 0 ≤ sS S fa - sS A fa by omega) (show 0 ≤ fa e - (sS S fa - sS A fa) by omega))
  rcases Int.lt_or_le (rmF n fa s S) 0 with z | z
  · have := Int.mul_neg_of_pos_of_neg (show 0 < fa e by omega) z
    omega
  · exact z
/-- a tight set is first dice -/
theorem tight_first (h : ∀ i, i < n → 1 ≤ fa i) {R : List Nat} (O : Ord n (wrt n fa s) R) (n1 : 1 ≤ n) (H : ∀ A B, R = A ++ B → 0 ≤ rmF n fa s A) {S : List Nat} (nd : S.Nodup) (lt : ∀ x ∈ S, x < n) (S0 : S ≠ []) (r0 : rmF n fa s S = 0) : ∃ A B, R = A ++ B ∧ S.Perm A := by
  have ne : R ≠ [] := fun z => by have := O.len; rw [z] at this; simp at this; omega
  have x0 := sS_pos (g := fa) (l := S) (fun x hx => h x (lt x hx)) S0
  have xF : sS S fa ≤ sS R fa := by
    rw [sS_perm O.pm, sS_range, sS_sg nd lt]
    exact sg_le fun i hi => by unfold inS; have := h i hi; split <;> omega
  obtain ⟨A, e, B, rfl, c1, c2, c3⟩ := find_cut ne (Int.le_of_lt x0) xF
  have he : e < n := O.lt (List.mem_append_right _ List.mem_cons_self)
  obtain ⟨an, al⟩ := cut_nd O
  have f1 := h e he
  have k := cut_room h O nd lt (t := sS S fa - sS A fa) (by omega)
  have li := cut_lin h O nd lt
  have r1 := H A _ rfl
  have r2 := H (A ++ [e]) B (by simp)
  rw [r0] at k
  have p1 := Int.mul_nonneg (show 0 ≤ fa e - (sS S fa - sS A fa) by omega) r1
  have p2 := Int.mul_nonneg (show 0 ≤ sS S fa - sS A fa by omega) r2
  have p3 := Int.mul_nonneg (show 0 ≤ fa e by omega) (Int.mul_nonneg (show 0 ≤ sS S fa - sS A fa by omega) (show 0 ≤ fa e - (sS S fa - sS A fa) by omega))
  have q3 : fa e * ((sS S fa - sS A fa) * (fa e - (sS S fa - sS A fa))) = 0 := by omega
  -- S holds all that a set of the same faces holds
  have same : ∀ T : List Nat, T.Nodup → (∀ x ∈ T, x < n) → (∀ x ∈ T, x ∈ S) → sS S fa = sS T fa → S.Perm T := fun T tn tl ts eq => by
    refine perm_of_mem nd tn fun x => ⟨fun hx => ?_, ts x⟩
    apply Classical.byContradiction
    intro no
    have hlt := sg_lt (n := n) (g := fun i => inS T i (fa i)) (k := fun i => inS S i (fa i)) (fun i hi => by
      unfold inS
      have := h i hi
      by_cases a : i ∈ T
      · simp only [a, ts i a, if_true]; omega
      · simp only [a, if_false]; split <;> omega) ⟨x, lt x hx, by
      have := h x (lt x hx)
      simp only [inS, hx, no, if_true, if_false]; omega⟩
    rw [← sS_sg tn tl, ← sS_sg nd lt] at hlt
    omega
  rcases Int.mul_eq_zero.1 q3 with z | z
  · omega
  rcases Int.mul_eq_zero.1 z with t0 | tf
  · -- all of A is in S
    have rA : rmF n fa s A = 0 := by
      have : fa e * rmF n fa s A = 0 := by
        rw [t0, Int.sub_zero] at p1 k
        rw [t0] at p2
        omega
      rcases Int.mul_eq_zero.1 this with z | z
      · omega
      · exact z
    have eqs : fa e * (sS S s - sS A s) = s e * (sS S fa - sS A fa) := by
      have e1 : sS S fa = sS A fa := by omega
      have : sS S s = sS A s := by
        have a1 : sS S fa * (sg n fa - sS S fa) - sS S s = 0 := r0
        have a2 : sS A fa * (sg n fa - sS A fa) - sS A s = 0 := rA
        rw [e1] at a1
        omega
      rw [this, e1]
      simp
    have dz : ∀ i, i < n → inS A i (dd fa s e i) - inS S i (dd fa s e i) = 0 := by
      have tot : sg n (fun i => inS A i (dd fa s e i) - inS S i (dd fa s e i)) = 0 := by
        rw [sg_sub, ← sS_sg an al, ← sS_sg nd lt, sS_dd, sS_dd]
        have e1 := Int.mul_sub (fa e) (sS S s) (sS A s)
        have e2 := Int.mul_sub (s e) (sS S fa) (sS A fa)
        omega
      have tot' : sg n (fun i => -(inS A i (dd fa s e i) - inS S i (dd fa s e i))) = 0 := by rw [sg_neg, tot]; rfl
      intro i hi
      have := sg_zero_all (n := n) (fun i hi => by have := cut_term h O S i hi; show -(inS A i (dd fa s e i) - inS S i (dd fa s e i)) ≤ 0; omega) tot' i hi
      omega
    have sub : ∀ i ∈ A, i ∈ S := fun i hi => by
      apply Classical.byContradiction
      intro no
      have d0 := dz i (al i hi)
      simp only [inS, hi, no, if_true, if_false] at d0
      have An : A ≠ [] := fun z => by rw [z] at hi; cases hi
      obtain ⟨A0, p, rfl⟩ : ∃ A0 p, A = A0 ++ [p] := ⟨A.dropLast, A.getLast An, (List.dropLast_concat_getLast An).symm⟩
      have hp : p < n := al p (by simp)
      have O2 : Ord n (wrt n fa s) (A0 ++ p :: (e :: B)) := by
        have : A0 ++ [p] ++ e :: B = A0 ++ p :: (e :: B) := by simp
        rwa [this] at O
      have w1 := (cut_w O).1 p (by simp)
      have w2 : wrt n fa s p ≤ wrt n fa s i := by
        rcases List.mem_append.1 hi with z | z
        · exact (cut_w O2).1 i z
        · rw [List.mem_singleton.1 z]; exact Int.le_refl _
      have w3 : wrt n fa s i ≤ wrt n fa s e := (wrt_le h he (al i hi)).2 (by
        unfold dd at d0
        have := Int.mul_comm (s i) (fa e)
        omega)
      have w4 : s p * fa e = s e * fa p := Int.le_antisymm ((wrt_le h he hp).1 (by omega)) ((wrt_le h hp he).1 w1)
      have g0 := H A0 ([p] ++ e :: B) (by simp)
      have fp := h p hp
      have id1 : fa e * rmF n fa s A0 + fa p * rmF n fa s ((A0 ++ [p]) ++ [e]) = (fa e + fa p) * rmF n fa s (A0 ++ [p]) - fa e * fa p * (fa e + fa p) + (fa e * s p - fa p * s e) := by
        unfold rmF
        rw [sS_app, sS_app, sS_app, sS_app, sS_cons, sS_cons, sS_cons, sS_cons, sS_nil, sS_nil]
        grind
      rw [rA, Int.mul_zero] at id1
      have m1 := Int.mul_nonneg (show 0 ≤ fa e by omega) g0
      have m2 := Int.mul_nonneg (show 0 ≤ fa p by omega) r2
      have m3 : 0 < fa e * fa p * (fa e + fa p) := Int.mul_pos (Int.mul_pos (by omega) (by omega)) (by omega)
      have m4 := Int.mul_comm (s p) (fa e)
      have m5 := Int.mul_comm (s e) (fa p)
      omega
    exact ⟨A, e :: B, rfl, same A an al sub (by omega)⟩
  · have B0 := c3 (by omega)
    subst B0
    have eq : sS S fa = sS (A ++ [e]) fa := by rw [sS_app, sS_cons, sS_nil]; omega
    refine ⟨A ++ [e], [], by simp, ?_⟩
    have all : ∀ x, x < n → x ∈ S := fun x hx => by
      apply Classical.byContradiction
      intro no
      have hlt := sg_lt (n := n) (g := fun i => inS S i (fa i)) (k := fa) (fun i hi => by
        unfold inS
        have := h i hi
        split <;> omega) ⟨x, hx, by
        have := h x hx
        simp only [inS, no, if_false]; omega⟩
      rw [← sS_sg nd lt, eq, sS_perm O.pm, sS_range] at hlt
      omega
    exact same _ O.nd (fun x hx => O.lt hx) (fun x hx => all x (O.lt hx)) eq
end
end Z

end
section
/-! evaluation: slices, sorted lists of numbers, score orders -/
namespace Z
variable {h : CH}
theorem nc_iNW (b : Bool) (S : List Nat) : (W b (iN S)).nc = true := nc_W b (nc_iN S)
theorem iN_take (l : List Nat) (k : Nat) : (iN l).take k = iN (l.take k) := by simp [iN, List.map_take]
theorem iN_drop (l : List Nat) (k : Nat) : (iN l).drop k = iN (l.drop k) := by simp [iN, List.map_drop]
theorem slc_to (l : List Nat) (k : Nat) : slcD false (.lst (iN l)) none (some (k : Nat)) h = .ok (.lst (iN (l.take k))) h := by
  simp only [slcD, lstOf, slice_to, newL, iN_take]
theorem slc_ft (l : List Nat) {j k : Nat} (hj : j ≤ k) (hk : k ≤ l.length) : slcD false (.lst (iN l)) (some (j : Nat)) (some (k : Nat)) h = .ok (.lst (iN ((l.take k).drop j))) h := by
  have e : sliceD (iN l) (some (j : Nat)) (some (k : Nat)) = (iN ((l.take k).drop j)) := by
    unfold sliceD
    rw [HT.sIx_nat, HT.sIx_nat, iN_len, Nat.min_eq_left (Nat.le_trans hj hk), Nat.min_eq_left hk, iN_drop, iN_take, List.drop_take]
  simp only [slcD, lstOf, e, newL]
theorem fdiv_ok {m : Bool} {i j : Int} (h1 : 1 ≤ j) (h2 : j ≤ 1000000) : binD .fdiv m (.int i) (.int j) h = .ok (.int (i / j)) h := by
  have e : divOk j = true := by
    unfold divOk
    have : j.natAbs < 2 ^ 8000 := Nat.lt_of_le_of_lt (show j.natAbs ≤ 2 ^ 20 by omega) (Nat.pow_lt_pow_right (by omega) (by omega))
    exact decide_eq_true ⟨by omega, this⟩
  show (if divOk j then R.ok (D.int (i / j)) h else .no) = _
  rw [if_pos e]
theorem toNat_map (l : List Nat) : (l.map fun x : Nat => (x : Int)).map Int.toNat = l := by
  rw [List.map_map]
  have e : (Int.toNat ∘ fun x : Nat => (x : Int)) = id := by funext x; simp
  rw [e, List.map_id]
theorem map_toNat {T : List Int} (h : ∀ t ∈ T, 0 ≤ t) : (T.map Int.toNat).map (fun x : Nat => (x : Int)) = T := by
  rw [List.map_map]
  conv => rhs; rw [← List.map_id T]
  apply List.map_congr_left
  intro t ht
  have := h t ht
  simp; omega
/-- sorted, of numbers -/
theorem sortL_srtN (l : List Nat) : (sortL (l.map fun x : Nat => (x : Int))).map D.int = iN (srtN l) := by
  have e : sortL (l.map fun x : Nat => (x : Int)) = (srtN l).map fun x : Nat => (x : Int) := by
    refine sorted_uniq ((sortL_perm _).trans ((srtN_perm l).symm.map _)) (sortL_sorted _) ?_
    rw [List.pairwise_map]
    exact (srtN_le l).imp fun h => by omega
  rw [e, List.map_map]
  rfl
theorem sorted_N {m : Bool} {x : D} {l : List Nat} (e : items h x = some (iN l)) : biD .sorted m [x] h = newL m (iN (srtN l)) h := by
  simp only [biD, one1, intsIn, e, intsOf_iN, sortL_srtN]
/-- sorted by the key -/
theorem srt_rk (n : Nat) (w : Nat → Int) : (((List.range n).map fun x : Nat => (x : Int)).mergeSort (keyLe (vec n w))).map D.int = iN (rk n w) := by
  generalize hT : ((List.range n).map fun x : Nat => (x : Int)).mergeSort (keyLe (vec n w)) = T
  have pm : T.Perm ((List.range n).map fun x : Nat => (x : Int)) := hT ▸ List.mergeSort_perm _ _
  have mem : ∀ t ∈ T, ∃ x : Nat, x < n ∧ t = x := fun t ht => by
    obtain ⟨x, hx, e⟩ := List.mem_map.1 (pm.mem_iff.1 ht)
    exact ⟨x, List.mem_range.1 hx, e.symm⟩
  have key : ∀ a b : Nat, a < n → b < n → (keyLe (vec n w) a b = true ↔ (w b < w a ∨ (w a = w b ∧ a ≤ b))) := fun a b ha hb => by
    unfold keyLe
    have e1 : (vec n w)[((a : Nat) : Int).toNat]?.getD 0 = w a := by simp [vec, ha]
    have e2 : (vec n w)[((b : Nat) : Int).toNat]?.getD 0 = w b := by simp [vec, hb]
    rw [e1, e2, decide_eq_true_iff]
    omega
  have sd : T.Pairwise fun a b => keyLe (vec n w) a b = true := hT ▸ List.pairwise_mergeSort (fun a b c h1 h2 => by simp [keyLe] at *; omega) (fun a b => by simp [keyLe]; omega) _
  have nn : ∀ t ∈ T, 0 ≤ t := fun t ht => by obtain ⟨x, _, rfl⟩ := mem t ht; omega
  have p2 : (T.map Int.toNat).Perm (List.range n) := by
    have := pm.map Int.toNat
    rwa [toNat_map] at this
  have nd : (T.map Int.toNat).Nodup := p2.nodup_iff.2 List.nodup_range
  have o : Ord n w (T.map Int.toNat) := by
    refine ⟨p2, ?_⟩
    rw [List.pairwise_map]
    have nd3 : T.Pairwise fun a b => Int.toNat a ≠ Int.toNat b := by
      unfold List.Nodup at nd
      rwa [List.pairwise_map] at nd
    refine List.Pairwise.imp_of_mem (R := fun a b => keyLe (vec n w) a b = true ∧ Int.toNat a ≠ Int.toNat b) (fun {a b} ha hb hab => ?_) (sd.and nd3)
    obtain ⟨x, hx, rfl⟩ := mem a ha
    obtain ⟨y, hy, rfl⟩ := mem b hb
    have := (key x y hx hy).1 hab.1
    have ne := hab.2
    unfold Bef
    simp at ne ⊢
    omega
  have e := o.uniq (rk_ord n w)
  rw [← e, ← map_toNat nn, List.map_map]
  rw [map_toNat nn]
  rfl
/-- a list of ints is settled -/
theorem cells_int {z : Nat} {l : List Int} (e : h[z]? = some (.lst (iL l))) : cellsF h 6 (.cell z) = [z] := by
  rw [cellsF_cell 5 e]
  simp [List.flatMap_eq_nil_iff, cellsF]
theorem int_frz {z : Nat} {l : List Int} (e : h[z]? = some (.lst (iL l))) : frzD h (.cell z) = some (.lst (iL l), kill [z] h) := by
  unfold frzD
  rw [if_neg (by simp [D.nc]), ← cells_int e]
  rw [snapF_cell 5 e]
  rw [snapF_ints]
  rfl
theorem nat_frz {z : Nat} {l : List Nat} (e : h[z]? = some (.lst (iN l))) : frzD h (.cell z) = some (.lst (iN l), kill [z] h) := by
  rw [iN_iL] at e ⊢
  exact int_frz e
/-- the first number below n that has p -/
def fstD (n : Nat) (p : Nat → Bool) : Option Nat := (List.range n).find? p
theorem find_some_of {n : Nat} {p : Nat → Bool} {i : Nat} (hi : i < n) (hp : p i = true) (hj : ∀ j, j < i → p j = false) : fstD n p = some i := by
  unfold fstD
  rw [List.find?_eq_some_iff_append]
  refine ⟨hp, List.range i, (List.range (n - i - 1)).map (· + (i + 1)), ?_, fun a ha => by simp [hj a (List.mem_range.1 ha)]⟩
  apply List.ext_getElem?
  intro j
  by_cases h1 : j < i
  · rw [List.getElem?_range (by omega), List.getElem?_append_left (by simpa using h1), List.getElem?_range h1]
  · rw [List.getElem?_append_right (by simpa using h1)]
    simp only [List.length_range]
    by_cases h2 : j = i
    · subst h2; simp [hi]
    · obtain ⟨m, rfl⟩ : ∃ m, j = i + 1 + m := ⟨j - i - 1, by omega⟩
      rw [show i + 1 + m - i = m + 1 by omega, List.getElem?_cons_succ, List.getElem?_map]
      by_cases h3 : i + 1 + m < n
      · rw [List.getElem?_range h3, List.getElem?_range (by omega)]; simp; omega
      · rw [List.getElem?_eq_none (by simp; omega), List.getElem?_eq_none (by simp; omega)]; rfl
theorem find_none_of {n : Nat} {p : Nat → Bool} (hj : ∀ j, j < n → p j = false) : fstD n p = none := by
  unfold fstD
  rw [List.find?_eq_none]
  intro x hx
  simp [hj x (List.mem_range.1 hx)]
theorem find_none {n : Nat} {p : Nat → Bool} (h : fstD n p = none) {j : Nat} (hj : j < n) : p j = false := by
  unfold fstD at h
  rw [List.find?_eq_none] at h
  have := h j (List.mem_range.2 hj)
  simpa using this
theorem find_some {n : Nat} {p : Nat → Bool} {i : Nat} (h : fstD n p = some i) : i < n ∧ p i = true := by
  unfold fstD at h
  exact ⟨List.mem_range.1 (List.mem_of_find?_eq_some h), List.find?_some h⟩
theorem it_rng1n {n : Nat} (hn : n ≤ 1000) : itD .rng2 [.int 1, .int (n : Nat)] h = .ok ((List.range (n - 1)).map (fun j : Nat => D.int ((j : Int) + 1)), none) h := by
  show (if rngOk 1 && rngOk (n : Nat) then R.ok (rngL 1 ((n : Int) - 1).toNat, (none : Ck)) h else .no) = _
  have o1 : rngOk 1 = true := decide_eq_true ⟨by omega, by omega⟩
  have o2 : rngOk (n : Nat) = true := decide_eq_true ⟨by omega, by omega⟩
  rw [o1, o2, show ((n : Int) - 1).toNat = n - 1 by omega]
  have : rngL 1 (n - 1) = (List.range (n - 1)).map fun j : Nat => D.int ((j : Int) + 1) := by
    unfold rngL
    apply List.map_congr_left
    intro j _
    show D.int (1 + (j : Int)) = D.int ((j : Int) + 1)
    rw [Int.add_comm]
  rw [this]
  rfl
theorem slc_to1 (l : List Nat) (k : Nat) : slcD false (.lst (iN l)) none (some ((k : Int) + 1)) h = .ok (.lst (iN (l.take (k + 1)))) h := slc_to l (k + 1)
/-! ### sets told too much, by first dice -/
def ovk (n : Nat) (fa s : Nat → Int) (R : List Nat) : Option Nat := fstD (n - 1) fun i => decide (rmF n fa s (R.take (i + 1)) < 0)
def ovD (n : Nat) (fa s : Nat → Int) (R : List Nat) : D := match ovk n fa s R with
  | some i => W true (iN (srtN (R.take (i + 1))))
  | none => .non
def crF (n : Nat) (fa s : Nat → Int) : Bool := (sets n).any fun S => decide (rmF n fa s S < 0)
theorem rmF_nil (n : Nat) (fa s : Nat → Int) : rmF n fa s [] = 0 := by unfold rmF; rw [sS_nil, sS_nil]; omega
theorem rmF_full {n : Nat} {fa s : Nat → Int} {R : List Nat} {w : Nat → Int} (O : Ord n w R) (s0 : sg n s = 0) : rmF n fa s R = 0 := by
  unfold rmF
  rw [sS_perm O.pm, sS_perm O.pm, sS_range, sS_range, s0, Int.sub_self, Int.mul_zero]
  rfl
theorem firsts_ok {n : Nat} {fa s : Nat → Int} {R : List Nat} {w : Nat → Int} (O : Ord n w R) (s0 : sg n s = 0) (h : ovk n fa s R = none) {A B : List Nat} (e : R = A ++ B) : 0 ≤ rmF n fa s A := by
  have eA : A = R.take A.length := by rw [e]; simp
  have ln := O.len
  have la : A.length ≤ n := by rw [← ln, e]; simp
  rcases Nat.eq_zero_or_pos A.length with z | z
  · have : A = [] := List.length_eq_zero_iff.1 z
    rw [this, rmF_nil]; omega
  · rcases Nat.lt_or_ge A.length n with q | q
    · have := find_none h (j := A.length - 1) (by omega)
      rw [show A.length - 1 + 1 = A.length by omega, ← eA] at this
      have := of_decide_eq_false this
      omega
    · have : A = R := by rw [eA, List.take_of_length_le (by omega)]
      rw [this, rmF_full O s0]; omega
theorem crF_iff {n : Nat} {fa s : Nat → Int} (h : ∀ i, i < n → 1 ≤ fa i) (n1 : 1 ≤ n) (s0 : sg n s = 0) {R : List Nat} (O : Ord n (wrt n fa s) R) : crF n fa s = (ovk n fa s R).isSome := by
  cases q : ovk n fa s R with
  | none =>
    unfold crF
    rw [Option.isSome_none, List.any_eq_false]
    intro S hS
    obtain ⟨a, b, _⟩ := sets_in hS
    have := room_all h O n1 (fun A B e => firsts_ok O s0 q e) (lt_nodup a) b
    simp
    omega
  | some i =>
    obtain ⟨hi, hp⟩ := find_some q
    have hp := of_decide_eq_true hp
    unfold crF
    rw [Option.isSome_some, List.any_eq_true]
    have nd : (R.take (i + 1)).Nodup := O.nd.sublist (List.take_sublist _ _)
    refine ⟨srtN (R.take (i + 1)), in_sets (srtN_lt nd) (fun x hx => O.lt (List.mem_of_mem_take ((srtN_perm _).mem_iff.1 hx))), decide_eq_true ?_⟩
    rw [rmF_perm (srtN_perm _)]
    exact hp
/-- a comprehension whose turns act -/
theorem wr_compI {ck : Ck} {asg : D → Option Env} {f : Env → CH → R D} {n : Nat} {g : Nat → D} {Q : List D → CH → Prop} (I : Nat → List D → CH → Prop) (i0 : I 0 [] h) (c : ∀ i dn h, i ≤ n → I i dn h → ckOk ck h = true)
    (st : ∀ i dn h, i < n → I i dn h → oT (asg (g i)) fun env => WR (f env h) fun d h' => I (i + 1) (dn ++ [d]) h') (go : ∀ dn h', I n dn h' → Q dn h') : WR (compGo ck asg (fun _ h => .ok true h) f ((List.range n).map g) h) Q := by
  obtain ⟨ys, h', e1, e2, e3⟩ := compGo_inv (ck := ck) (asg := asg) (f := f) (fun dn h => dn.length ≤ n ∧ I dn.length dn h) ((List.range n).map g) [] h ⟨Nat.zero_le _, i0⟩ (fun dn h e => c _ _ _ e.1 e.2) (fun i d dn h hd hl e => by
    have lt : i < n := by
      rcases Nat.lt_or_ge i n with z | z
      · exact z
      · rw [List.getElem?_eq_none (by simpa using z)] at hd; cases hd
    rw [List.getElem?_map, List.getElem?_range lt] at hd
    cases hd
    have hl : dn.length = i := by simpa using hl
    obtain ⟨env, a, d, h2, b, q⟩ := st i dn h lt (hl ▸ e.2)
    refine ⟨env, d, h2, a, b, by simp; omega, ?_⟩
    rw [List.length_append, List.length_singleton, hl]
    exact q)
  rw [List.nil_append] at e3
  have hy : ys.length = n := by simpa using e2
  exact wr_eq e1 (go ys h' (hy ▸ e3.2))
theorem ne_self {d : D} {m : Nat} (nc : d.nc = true) (p : pl m d = true) (hm : m ≤ 64) : cmpD .ne d d h = .ok (.bl false) h := by
  rw [ne_pl (snap_nc nc) (snap_nc nc) p p hm hm, beq_refl']; rfl
theorem eq_self {d : D} {m : Nat} (nc : d.nc = true) (p : pl m d = true) (hm : m ≤ 64) : cmpD .eq d d h = .ok (.bl true) h := by
  rw [eq_pl (snap_nc nc) (snap_nc nc) p p hm hm, beq_refl']
theorem pl_iN (b : Bool) (l : List Nat) : pl 2 (W b (iN l)) = true := by
  rw [iN_iL]
  cases b
  · exact pl_lR _
  · exact pl_tR _
/-- told faces and scores -/
structure Tld (n : Nat) (fa s : Nat → Int) : Prop where
  n1 : 1 ≤ n
  n8 : n ≤ 8
  fp : ∀ i, i < n → 1 ≤ fa i
  ft : ∀ i, i < n → fa i ≤ 100
  s0 : sg n s = 0
theorem Tld.n1000 {n : Nat} {fa s : Nat → Int} (T : Tld n fa s) : n ≤ 1000 := by have := T.n8; omega
theorem it_enumN (b : Bool) (S : List Nat) : itD .enum [W b (iN S)] h = .ok ((List.range S.length).map (fun i : Nat => D.tup [.int i, .int ((S[i]?.getD 0 : Nat) : Int)]), none) h := by
  rw [it_enum (items_W _ _) (W_ns _ _), ck_W]
  unfold iN
  rw [enumFrom_map]
  congr 2
  apply List.map_congr_left
  intro i hi
  have hi := List.mem_range.1 hi
  simp [hi]
theorem app_natT {q : Nat} {l : List Nat} (e : h[q]? = some (.lst (iN l))) (hl : l.length < 900000) (v : Nat) : mthR (.cell q) .append [.int (v : Nat)] h h = .ok .non (h.set q (.lst (iN (l ++ [v])))) := by
  have z : (iN l).length < SZ := by unfold SZ; simp; omega
  simp only [mthR, mthD, onCell, lstOf, e, one1, Option.isSome_some, if_true]
  rw [if_pos z]
  simp [iN]
theorem nodup_take {α : Type} {c : List α} (nd : c.Nodup) {i : Nat} {x : α} (hx : c[i]? = some x) : ¬ x ∈ c.take i := by
  intro z
  obtain ⟨j, hj, e⟩ := List.getElem_of_mem z
  rw [List.getElem_take] at e
  obtain ⟨hi, e2⟩ := List.getElem?_eq_some_iff.1 hx
  have hj' : j < i := by simp at hj; omega
  exact List.pairwise_iff_getElem.1 nd j i (by omega) hi hj' (e.trans e2.symm)
theorem srtN_tuple (l : List Nat) (h : CH) : biD .tuple false [.lst (iN l)] h = .ok (W true (iN l)) h := tuple_ok rfl
theorem srtN_lst (l : List Nat) (h : CH) : biD .sorted false [.lst (iN l)] h = .ok (.lst (iN (srtN l))) h := sorted_N rfl
end Z

end
section
/-! blocks: no program -/
namespace Z
variable {h : CH}
theorem sets_nodup : ∀ m, (sets m).Nodup
  | 0 => by simp [sets]
  | m + 1 => by
    simp only [sets]
    rw [List.nodup_append]
    refine ⟨sets_nodup m, ?_, fun a ha b hb e => ?_⟩
    · refine List.Pairwise.map _ (fun a b ne e => ne ?_) (sets_nodup m)
      exact List.append_cancel_right e
    · obtain ⟨S, hS, rfl⟩ := List.mem_map.1 hb
      have := (sets_in ha).2.1 m (by rw [e]; simp)
      omega
/-- the blocks after the first j dice, and where the next begins -/
def bkF (n : Nat) (fa s : Nat → Int) (R : List Nat) : Nat → List (List Nat) × Nat
  | 0 => ([], 0)
  | j + 1 => if rmF n fa s (R.take (j + 1)) = 0 then ((bkF n fa s R j).1 ++ [srtN ((R.take (j + 1)).drop (bkF n fa s R j).2)], j + 1) else bkF n fa s R j
theorem bkF_le (n : Nat) (fa s : Nat → Int) (R : List Nat) : ∀ j, (bkF n fa s R j).2 ≤ j ∧ (bkF n fa s R j).1.length ≤ j
  | 0 => ⟨Nat.le_refl _, Nat.le_refl _⟩
  | j + 1 => by
    have := bkF_le n fa s R j
    unfold bkF
    split
    · exact ⟨Nat.le_refl _, by simp; omega⟩
    · omega
def bkD (l : List (List Nat)) : List D := l.map fun b => W true (iN b)
theorem bkD_snoc (l : List (List Nat)) (b : List Nat) : bkD (l ++ [b]) = bkD l ++ [W true (iN b)] := by simp [bkD]
theorem bkD_len (l : List (List Nat)) : (bkD l).length = l.length := by simp [bkD]
theorem nc_bk (l : List (List Nat)) : ncs (bkD l) = true := ncs_map _ fun b => nc_iNW _ _
theorem blk_eq {R : List Nat} (nd : R.Nodup) {j p : Nat} (hp : p ≤ j) : (srtN (R.take j)).filter (fun x => decide (x ∉ srtN (R.take p))) = srtN ((R.take j).drop p) := by
  have ndj : (R.take j).Nodup := nd.sublist (List.take_sublist _ _)
  have e : R.take j = R.take p ++ (R.take j).drop p := by
    conv => lhs; rw [← List.take_append_drop p (R.take j)]
    rw [List.take_take, Nat.min_eq_left hp]
  have ndd : ((R.take j).drop p).Nodup := ndj.sublist (List.drop_sublist _ _)
  refine lt_uniq ((srtN_lt ndj).filter _) (srtN_lt ndd) (perm_of_mem (((srtN_perm _).nodup_iff.2 ndj).filter _) ((srtN_perm _).nodup_iff.2 ndd) fun x => ?_)
  rw [List.mem_filter, decide_eq_true_iff, (srtN_perm (R.take j)).mem_iff, (srtN_perm (R.take p)).mem_iff, (srtN_perm ((R.take j).drop p)).mem_iff]
  rw [e] at ndj
  obtain ⟨_, _, dis⟩ := List.nodup_append.1 ndj
  constructor
  · rintro ⟨h1, h2⟩
    rw [e] at h1
    rcases List.mem_append.1 h1 with z | z
    · exact absurd z h2
    · exact z
  · intro h1
    exact ⟨List.mem_of_mem_drop h1, fun z => dis x z x h1 rfl⟩
theorem it_rng1s {n : Nat} (hn : n ≤ 900) : itD .rng2 [.int 1, .int ((n : Int) + 1)] h = .ok ((List.range n).map (fun j : Nat => D.int ((j : Int) + 1)), none) h := it_rng1n (n := n + 1) (h := h) (by omega) |>.trans (by rfl)
theorem slc_ft1 (l : List Nat) {j k : Nat} (hj : j ≤ k + 1) (hk : k + 1 ≤ l.length) : slcD false (.lst (iN l)) (some (j : Nat)) (some ((k : Int) + 1)) h = .ok (.lst (iN ((l.take (k + 1)).drop j))) h := slc_ft l hj hk
/-- a tight set of j dice is the first j -/
theorem tight_eq {n : Nat} {fa s : Nat → Int} (h : ∀ i, i < n → 1 ≤ fa i) {R : List Nat} (O : Ord n (wrt n fa s) R) (n1 : 1 ≤ n) (H : ∀ A B, R = A ++ B → 0 ≤ rmF n fa s A) {S : List Nat} (hS : S ∈ sets n) (r0 : rmF n fa s S = 0) {j : Nat} (hj : S.length = j + 1) : S = srtN (R.take (j + 1)) := by
  obtain ⟨a, b, _⟩ := sets_in hS
  obtain ⟨A, B, e, p⟩ := tight_first h O n1 H (lt_nodup a) b (fun z => by rw [z] at hj; simp at hj) r0
  have la : A.length = j + 1 := by rw [← p.length_eq, hj]
  have : R.take (j + 1) = A := by rw [e, ← la]; simp
  rw [this]
  exact (srtN_eq a p).symm
/-- the bounds of told faces -/
def fcp (fa : Nat → Int) : F2 := fun i j => if i = j then 0 else fa i * fa j
theorem sS_lin (g s : Nat → Int) (c : Int) (S : List Nat) : sS S (fun i => g i * c - s i) = sS S g * c - sS S s := by
  induction S with
  | nil => simp [sS_nil]
  | cons a r ih => rw [sS_cons, sS_cons, sS_cons, ih]; grind
theorem sS_congr {g k : Nat → Int} {S : List Nat} (h : ∀ x ∈ S, g x = k x) : sS S g = sS S k := by
  unfold sS
  rw [List.map_congr_left h]
theorem rmF_room {n : Nat} {fa s : Nat → Int} {S : List Nat} (nd : S.Nodup) (lt : ∀ x ∈ S, x < n) : rmF n fa s S = room n (fcp fa) s S := by
  have inner : ∀ i, i ∈ S → (sg n fun j => if j ∈ S then 0 else fcp fa i j) = fa i * (sg n fa - sS S fa) := fun i hi => by
    rw [sS_sg nd lt, ← sg_sub, ← sg_mul]
    refine sg_congr fun j _ => ?_
    unfold inS fcp
    by_cases m : j ∈ S
    · simp [m]
    · have : ¬ i = j := fun e => m (e ▸ hi)
      simp [m, this]
  rw [room_sS nd lt, sS_congr (k := fun i => fa i * (sg n fa - sS S fa) - s i) fun i hi => by rw [inner i hi], sS_lin]
  rfl
theorem crF_flw {n : Nat} {fa s : Nat → Int} {f : F2} (F : Flw n (fcp fa) f) (hs : ∀ i, i < n → sg n (f i) = s i) : crF n fa s = false := by
  unfold crF
  rw [List.any_eq_false]
  intro S hS
  obtain ⟨a, b, _⟩ := sets_in hS
  have := F.room hs S
  rw [← rmF_room (lt_nodup a) b] at this
  simp
  omega
end Z

end
section
/-! who beats whom: blocks and closed rows; no program -/
namespace Z
theorem nd_sub_len : ∀ {l1 l2 : List Nat}, l1.Nodup → (∀ x ∈ l1, x ∈ l2) → l1.length ≤ l2.length
  | [], _, _, _ => Nat.zero_le _
  | a :: r, l2, nd, h => by
    obtain ⟨na, nr⟩ := List.nodup_cons.1 nd
    have ha := h a List.mem_cons_self
    have ih := nd_sub_len (l1 := r) (l2 := l2.erase a) nr fun x hx => (List.mem_erase_of_ne (show x ≠ a from fun e => na (e ▸ hx))).2 (h x (List.mem_cons_of_mem _ hx))
    rw [List.length_erase_of_mem ha] at ih
    have : 0 < l2.length := List.length_pos_of_mem ha
    simp only [List.length_cons]
    omega
structure Trn (n : Nat) (bt : Nat → Nat → Bool) : Prop where
  irr : ∀ i, bt i i = false
  tot : ∀ i j, i < n → j < n → i ≠ j → bt i j = !bt j i
/-- signs -/
def sn (bt : Nat → Nat → Bool) : F2 := fun i j => (if bt i j = true then 1 else 0) - (if bt j i = true then 1 else 0)
def one1f : Nat → Int := fun _ => 1
def snS (n : Nat) (bt : Nat → Nat → Bool) : Nat → Int := fun i => sg n (sn bt i)
section
variable {n : Nat} {bt : Nat → Nat → Bool}
theorem sn_skew : Skew n (sn bt) := fun i j _ _ => by unfold sn; omega
theorem snS_sum : sg n (snS n bt) = 0 := sg_skew sn_skew
theorem sn_flw : Flw n (fcp one1f) (sn bt) := ⟨sn_skew, fun i j hi hj => by
  unfold sn fcp one1f
  by_cases e : i = j
  · subst e; simp
  · simp only [e, if_false]; split <;> split <;> omega⟩
theorem one_pos : ∀ i, i < n → 1 ≤ one1f i := fun _ _ => Int.le_refl _
/-- tight: all inside beat all outside -/
theorem tight_dom (T : Trn n bt) {S : List Nat} (nd : S.Nodup) (lt : ∀ x ∈ S, x < n) : rmF n one1f (snS n bt) S = 0 ↔ ∀ x ∈ S, ∀ y, y < n → y ∉ S → bt x y = true := by
  rw [rmF_room nd lt, room_flw (s := snS n bt) sn_flw (fun _ _ => rfl) S]
  have term : ∀ x, x < n → ∀ y, y < n → y ∉ S → x ∈ S → fcp one1f x y - sn bt x y = if bt x y = true then 0 else 2 := fun x hx y hy yS xS => by
    have ne : x ≠ y := fun e => yS (e ▸ xS)
    have t := T.tot x y hx hy ne
    unfold fcp one1f sn
    cases q : bt y x <;> simp [q] at t <;> simp [t, ne]
  constructor
  · intro h x xS y hy yS
    have hx := lt x xS
    have nn : ∀ x, x < n → 0 ≤ (if x ∈ S then sg n (fun y => if y ∈ S then 0 else fcp one1f x y - sn bt x y) else 0) := fun x hx => by
      split
      · refine sg_nonneg fun y hy => ?_
        have := (sn_flw (bt := bt)).le x y hx hy
        split <;> omega
      · omega
    have t1 := sg_term (n := n) (g := fun x => if x ∈ S then sg n (fun y => if y ∈ S then 0 else fcp one1f x y - sn bt x y) else 0) nn hx
    have t2 := sg_term (n := n) (g := fun y => if y ∈ S then 0 else fcp one1f x y - sn bt x y) (fun y hy => by
      have := (sn_flw (bt := bt)).le x y hx hy
      split <;> omega) hy
    simp only [xS, if_true] at t1
    simp only [yS, if_false, term x hx y hy yS xS] at t2
    cases q : bt x y with
    | true => rfl
    | false => rw [q] at t2; simp at t2; omega
  · intro h
    refine (sg_congr (k := fun _ => 0) fun x hx => ?_).trans (sg_const0 n)
    by_cases xS : x ∈ S
    · simp only [xS, if_true]
      refine (sg_congr (k := fun _ => 0) fun y hy => ?_).trans (sg_const0 n)
      by_cases yS : y ∈ S
      · simp only [yS, if_true]
      · simp only [yS, if_false, term x hx y hy yS xS, h x xS y hy yS, if_true]
    · simp only [xS, if_false]
/-- the order of the signs' scores -/
abbrev tR_ (n : Nat) (bt : Nat → Nat → Bool) : List Nat := rk n (wrt n one1f (snS n bt))
theorem t_ord : Ord n (wrt n one1f (snS n bt)) (tR_ n bt) := rk_ord _ _
theorem t_ov (n1 : 1 ≤ n) : ovk n one1f (snS n bt) (tR_ n bt) = none := by
  have := crF_iff (s := snS n bt) one_pos n1 snS_sum t_ord
  rw [crF_flw (s := snS n bt) sn_flw (fun _ _ => rfl)] at this
  cases q : ovk n one1f (snS n bt) (tR_ n bt) with
  | none => rfl
  | some i => rw [q] at this; cases this
/-- no part of it beats the rest -/
def Strong (bt : Nat → Nat → Bool) (B : List Nat) : Prop := ∀ U V : List Nat, U ≠ [] → V ≠ [] → (∀ x, x ∈ B ↔ x ∈ U ∨ x ∈ V) → (∀ x ∈ U, x ∉ V) → U.Nodup → ¬ ∀ u ∈ U, ∀ v ∈ V, bt u v = true
/-- between two tight prefixes, none between them -/
structure Blk (n : Nat) (bt : Nat → Nat → Bool) (p e : Nat) : Prop where
  lt : p < e
  le : e ≤ n
  t1 : rmF n one1f (snS n bt) ((tR_ n bt).take p) = 0
  t2 : rmF n one1f (snS n bt) ((tR_ n bt).take e) = 0
  no : ∀ j, p < j → j < e → rmF n one1f (snS n bt) ((tR_ n bt).take j) ≠ 0
theorem take_nd (j : Nat) : ((tR_ n bt).take j).Nodup := t_ord.nd.sublist (List.take_sublist _ _)
theorem take_lt {j x : Nat} (h : x ∈ (tR_ n bt).take j) : x < n := t_ord.lt (List.mem_of_mem_take h)
theorem take_split {j p : Nat} (hp : p ≤ j) : (tR_ n bt).take j = (tR_ n bt).take p ++ ((tR_ n bt).take j).drop p := by
  conv => lhs; rw [← List.take_append_drop p ((tR_ n bt).take j)]
  rw [List.take_take, Nat.min_eq_left hp]
theorem Blk.strong (T : Trn n bt) {p e : Nat} (K : Blk n bt p e) : Strong bt (srtN (((tR_ n bt).take e).drop p)) := by
  intro U V uN vN cov dis und dom
  have sp := take_split (n := n) (bt := bt) (Nat.le_of_lt K.lt)
  have nde := take_nd (n := n) (bt := bt) e
  rw [sp] at nde
  obtain ⟨np, nB, dj⟩ := List.nodup_append.1 nde
  have cov' : ∀ x, x ∈ ((tR_ n bt).take e).drop p ↔ x ∈ U ∨ x ∈ V := fun x => by rw [← cov x, (srtN_perm _).mem_iff]
  have d1 := (tight_dom T (take_nd p) fun x hx => take_lt hx).1 K.t1
  have d2 := (tight_dom T (take_nd e) fun x hx => take_lt hx).1 K.t2
  have uB : ∀ u ∈ U, u ∈ (tR_ n bt).take e := fun u hu => by rw [sp]; exact List.mem_append_right _ ((cov' u).2 (.inl hu))
  have nS : ((tR_ n bt).take p ++ U).Nodup := List.nodup_append.2 ⟨np, und, fun a ha b hb => dj a ha b ((cov' b).2 (.inl hb))⟩
  have lS : ∀ x ∈ (tR_ n bt).take p ++ U, x < n := fun x hx => by
    rcases List.mem_append.1 hx with z | z
    · exact take_lt z
    · exact take_lt (uB x z)
  have r0 : rmF n one1f (snS n bt) ((tR_ n bt).take p ++ U) = 0 := (tight_dom T nS lS).2 fun x hx y hy yS => by
    have y1 : y ∉ (tR_ n bt).take p := fun z => yS (List.mem_append_left _ z)
    have y2 : y ∉ U := fun z => yS (List.mem_append_right _ z)
    rcases List.mem_append.1 hx with z | z
    · exact d1 x z y hy y1
    · by_cases yV : y ∈ V
      · exact dom x z y yV
      · refine d2 x (uB x z) y hy fun w => ?_
        rw [sp] at w
        rcases List.mem_append.1 w with w | w
        · exact y1 w
        · exact ((cov' y).1 w).elim y2 yV
  have n1 : 1 ≤ n := by have := K.lt; have := K.le; omega
  obtain ⟨A, B, eR, pm⟩ := tight_first one_pos t_ord n1 (fun A B e => firsts_ok t_ord snS_sum (t_ov n1) e) nS lS (by simp [uN]) r0
  have lenR := (t_ord (n := n) (bt := bt)).len
  have lenA : A.length = p + U.length := by
    rw [← pm.length_eq, List.length_append, List.length_take, lenR]
    have := K.lt; have := K.le
    omega
  have eA : (tR_ n bt).take A.length = A := by rw [eR]; simp
  have uV : U.length < e - p := by
    have lB : (((tR_ n bt).take e).drop p).length = e - p := by rw [List.length_drop, List.length_take, lenR]; have := K.le; omega
    obtain ⟨v, hv⟩ : ∃ v, v ∈ V := by
      cases V with
      | nil => exact absurd rfl vN
      | cons v r => exact ⟨v, List.mem_cons_self⟩
    have ndv : (v :: U).Nodup := List.nodup_cons.2 ⟨fun z => dis v z hv, und⟩
    have := (nd_sub_len ndv (l2 := ((tR_ n bt).take e).drop p) fun x hx => by
      rcases List.mem_cons.1 hx with rfl | z
      · exact (cov' x).2 (.inr hv)
      · exact (cov' x).2 (.inl z))
    simp at this
    omega
  have uP : 0 < U.length := List.length_pos_iff.2 uN
  refine K.no A.length (by omega) (by omega) ?_
  rw [eA, ← rmF_perm pm]
  exact r0
/-! ### closed rows -/
theorem nd_two {x y : Nat} (h : x ≠ y) : [x, y].Nodup := by simp [h]
/-- a strong set of two or more has a closed row of three at each die -/
theorem three_ok (T : Trn n bt) {B : List Nat} (S : Strong bt B) (nB : B.Nodup) (lB : ∀ x ∈ B, x < n) (two : 2 ≤ B.length) {v : Nat} (hv : v ∈ B) : ∃ o i, o ∈ B ∧ i ∈ B ∧ bt v o = true ∧ bt o i = true ∧ bt i v = true := by
  apply Classical.byContradiction
  intro no
  have cmp : ∀ x y, x ∈ B → y ∈ B → x ≠ y → bt x y = true ∨ bt y x = true := fun x y hx hy ne => by
    have := T.tot x y (lB x hx) (lB y hy) ne
    cases q : bt y x
    · rw [q] at this; exact .inl this
    · exact .inr rfl
  have anti : ∀ x y, x ∈ B → y ∈ B → bt x y = true → bt y x = true → False := fun x y hx hy h1 h2 => by
    by_cases e : x = y
    · subst e; rw [T.irr] at h1; cases h1
    · have := T.tot x y (lB x hx) (lB y hy) e
      rw [h1, h2] at this; cases this
  by_cases hI : B.filter (fun x => bt x v) = []
  · -- v beats all others
    obtain ⟨w, hw, wv⟩ : ∃ w, w ∈ B ∧ w ≠ v := by
      apply Classical.byContradiction
      intro z
      have : B.length ≤ [v].length := nd_sub_len nB fun x hx => by
        by_cases e : x = v
        · simp [e]
        · exact absurd ⟨x, hx, e⟩ z
      simp at this
      omega
    have all : ∀ x ∈ B, x ≠ v → bt v x = true := fun x hx ne => by
      rcases cmp x v hx hv ne with z | z
      · have : x ∈ B.filter (fun x => bt x v) := List.mem_filter.2 ⟨hx, z⟩
        rw [hI] at this; cases this
      · exact z
    refine S [v] (B.filter fun x => decide (x ≠ v)) (by simp) (fun z => ?_) (fun x => ?_) (fun x hx => ?_) (by simp) fun u hu w hw => ?_
    · have : w ∈ B.filter fun x => decide (x ≠ v) := List.mem_filter.2 ⟨hw, by simpa using wv⟩
      rw [z] at this; cases this
    · rw [List.mem_filter, List.mem_singleton, decide_eq_true_iff]
      constructor
      · intro hx
        by_cases e : x = v
        · exact .inl e
        · exact .inr ⟨hx, e⟩
      · rintro (rfl | ⟨hx, _⟩)
        · exact hv
        · exact hx
    · rw [List.mem_filter, decide_eq_true_iff]
      rw [List.mem_singleton] at hx
      exact fun z => z.2 hx
    · rw [List.mem_singleton] at hu
      rw [List.mem_filter, decide_eq_true_iff] at hw
      rw [hu]
      exact all w hw.1 hw.2
  · -- all that beat v beat the others
    refine S (B.filter fun x => bt x v) (B.filter fun x => !bt x v) hI (fun z => ?_) (fun x => ?_) (fun x hx => ?_) (nB.filter _) fun u hu w hw => ?_
    · have : v ∈ B.filter fun x => !bt x v := List.mem_filter.2 ⟨hv, by rw [T.irr]; rfl⟩
      rw [z] at this; cases this
    · rw [List.mem_filter, List.mem_filter]
      cases q : bt x v <;> simp
    · rw [List.mem_filter] at hx ⊢
      rw [hx.2]; simp
    · rw [List.mem_filter] at hu hw
      by_cases wv : w = v
      · rw [wv]; exact hu.2
      · have vw : bt v w = true := by
          rcases cmp w v hw.1 hv wv with z | z
          · rw [z] at hw; simp at hw
          · exact z
        have ne : u ≠ w := fun e => by rw [e] at hu; rw [hu.2] at hw; simp at hw
        rcases cmp u w hu.1 hw.1 ne with z | z
        · exact z
        · exact absurd ⟨w, u, hw.1, hu.1, vw, z, hu.2⟩ no
/-- a closed row -/
structure Rng (bt : Nat → Nat → Bool) (B C : List Nat) (v : Nat) : Prop where
  nd : C.Nodup
  sub : ∀ x ∈ C, x ∈ B
  hd : C[0]? = some v
  nx : ∀ i x y, C[i]? = some x → C[(i + 1) % C.length]? = some y → bt x y = true
/-- nowhere to put x in: all beat it, or it beats all -/
theorem no_put (T : Trn n bt) {B C : List Nat} {v : Nat} (G : Rng bt B C v) (lB : ∀ x ∈ B, x < n) {x : Nat} (xn : x < n) (xC : x ∉ C)
    (no : ∀ i a b, C[i]? = some a → C[(i + 1) % C.length]? = some b → ¬ (bt a x = true ∧ bt x b = true)) : (bt v x = true → ∀ c ∈ C, bt c x = true) ∧ (bt x v = true → ∀ c ∈ C, bt x c = true) := by
  have len : 0 < C.length := by
    rcases Nat.eq_zero_or_pos C.length with z | z
    · have h := G.hd
      rw [List.length_eq_zero_iff.1 z] at h
      cases h
    · exact z
  have cmp : ∀ c ∈ C, bt c x = !bt x c := fun c hc => T.tot c x (lB c (G.sub c hc)) xn fun e => xC (e ▸ hc)
  have step : ∀ i a b, C[i]? = some a → C[(i + 1) % C.length]? = some b → bt a x = true → bt b x = true := fun i a b ha hb h => by
    have := no i a b ha hb
    have cb := cmp b (List.mem_of_getElem? hb)
    cases q : bt x b
    · rw [cb, q]; rfl
    · exact absurd ⟨h, q⟩ this
  have fwd : ∀ k i a, C[i]? = some a → bt a x = true → ∀ b, C[(i + k) % C.length]? = some b → bt b x = true := by
    intro k
    induction k with
    | zero =>
      intro i a ha h b hb
      have hi : i < C.length := (List.getElem?_eq_some_iff.1 ha).1
      rw [Nat.add_zero, Nat.mod_eq_of_lt hi, ha] at hb
      cases hb
      exact h
    | succ k ih =>
      intro i a ha h b hb
      have hl : (i + k) % C.length < C.length := Nat.mod_lt _ len
      have hc := List.getElem?_eq_getElem hl
      refine step _ _ b hc ?_ (ih i a ha h _ hc)
      rw [Nat.mod_add_mod]
      exact hb
  refine ⟨fun h c hc => ?_, fun h c hc => ?_⟩
  · obtain ⟨j, hj, e⟩ := List.getElem_of_mem hc
    refine fwd j 0 v G.hd h c ?_
    rw [Nat.zero_add, Nat.mod_eq_of_lt hj, List.getElem?_eq_getElem hj, e]
  · have vC := List.mem_of_getElem? G.hd
    cases q : bt x c
    · exfalso
      have cx := cmp c hc
      rw [q] at cx
      obtain ⟨j, hj, e⟩ := List.getElem_of_mem hc
      have := fwd (C.length - j) j c (by rw [List.getElem?_eq_getElem hj, e]) cx v (by
        rw [show j + (C.length - j) = C.length by omega, Nat.mod_self]; exact G.hd)
      have cv := cmp v vC
      rw [this, h] at cv
      cases cv
    · rfl
/-- a closed row shorter than the block goes on -/
theorem longer_ok (T : Trn n bt) {B C : List Nat} {v : Nat} (S : Strong bt B) (nB : B.Nodup) (lB : ∀ x ∈ B, x < n) (G : Rng bt B C v) (short : C.length < B.length)
    (no : ∀ x ∈ B, x ∉ C → ∀ i a b, C[i]? = some a → C[(i + 1) % C.length]? = some b → ¬ (bt a x = true ∧ bt x b = true)) : ∃ l u, l ∈ B ∧ l ∉ C ∧ u ∈ B ∧ u ∉ C ∧ bt v l = true ∧ bt l u = true ∧ bt u v = true := by
  apply Classical.byContradiction
  intro none
  have vC := List.mem_of_getElem? G.hd
  have vB := G.sub v vC
  have cmp : ∀ x y, x ∈ B → y ∈ B → x ≠ y → bt x y = true ∨ bt y x = true := fun x y hx hy ne => by
    have := T.tot x y (lB x hx) (lB y hy) ne
    cases q : bt y x
    · rw [q] at this; exact .inl this
    · exact .inr rfl
  have np := fun x hx xC => no_put T G lB (lB x hx) xC (no x hx xC)
  by_cases hU : B.filter (fun x => decide (x ∉ C) && bt x v) = []
  · -- C beats the rest
    obtain ⟨w, hw, wC⟩ : ∃ w, w ∈ B ∧ w ∉ C := by
      apply Classical.byContradiction
      intro z
      have := nd_sub_len nB (l2 := C) fun x hx => Classical.byContradiction fun q => z ⟨x, hx, q⟩
      omega
    refine S C (B.filter fun x => decide (x ∉ C)) (fun z => by rw [z] at vC; cases vC) (fun z => ?_) (fun x => ?_) (fun x hx => ?_) G.nd fun u hu w hw => ?_
    · have : w ∈ B.filter fun x => decide (x ∉ C) := List.mem_filter.2 ⟨hw, decide_eq_true wC⟩
      rw [z] at this; cases this
    · rw [List.mem_filter, decide_eq_true_iff]
      constructor
      · intro hx
        by_cases e : x ∈ C
        · exact .inl e
        · exact .inr ⟨hx, e⟩
      · rintro (h | ⟨hx, _⟩)
        · exact G.sub x h
        · exact hx
    · rw [List.mem_filter, decide_eq_true_iff]
      exact fun z => z.2 hx
    · rw [List.mem_filter, decide_eq_true_iff] at hw
      refine (np w hw.1 hw.2).1 ?_ u hu
      rcases cmp v w vB hw.1 (fun e => hw.2 (e ▸ vC)) with z | z
      · exact z
      · have : w ∈ B.filter (fun x => decide (x ∉ C) && bt x v) := List.mem_filter.2 ⟨hw.1, by rw [decide_eq_true hw.2, z]; rfl⟩
        rw [hU] at this; cases this
  · refine S (B.filter fun x => decide (x ∉ C) && bt x v) (B.filter fun x => !(decide (x ∉ C) && bt x v)) hU (fun z => ?_) (fun x => ?_) (fun x hx => ?_) (nB.filter _) fun u hu w hw => ?_
    · have : v ∈ B.filter fun x => !(decide (x ∉ C) && bt x v) := List.mem_filter.2 ⟨vB, by rw [decide_eq_false (fun q => q vC)]; rfl⟩
      rw [z] at this; cases this
    · rw [List.mem_filter, List.mem_filter]
      cases q : (decide (x ∉ C) && bt x v) <;> simp
    · rw [List.mem_filter] at hx ⊢
      rw [hx.2]; simp
    · rw [List.mem_filter, Bool.and_eq_true, decide_eq_true_iff] at hu
      rw [List.mem_filter] at hw
      have all := (np u hu.1 hu.2.1).2 hu.2.2
      by_cases wC : w ∈ C
      · exact all w wC
      · have wv : bt v w = true := by
          rcases cmp v w vB hw.1 (fun e => wC (e ▸ vC)) with z | z
          · exact z
          · have := hw.2
            rw [decide_eq_true wC, z] at this; cases this
        have ne : u ≠ w := fun e => by
          have := hw.2
          rw [← e, decide_eq_true hu.2.1, hu.2.2] at this; cases this
        rcases cmp u w hu.1 hw.1 ne with z | z
        · exact z
        · exact absurd ⟨w, u, hw.1, wC, hu.1, hu.2.1, wv, z, hu.2.2⟩ none
end
end Z

end
section
/-! closed rows by links, blocks of signs, lines; no program -/
namespace Z
section
variable {n : Nat} {bt : Nat → Nat → Bool}
theorem nd_inj {l : List Nat} (nd : l.Nodup) {i j : Nat} {hi : i < l.length} {hj : j < l.length} (e : l[i] = l[j]) : i = j := by
  have P := List.pairwise_iff_getElem.1 nd
  rcases Nat.lt_trichotomy i j with z | z | z
  · exact absurd e (P i j hi hj z)
  · exact z
  · exact absurd e.symm (P j i hj hi z)
def chn (bt : Nat → Nat → Bool) : List Nat → Prop
  | [] => True
  | [_] => True
  | a :: b :: r => bt a b = true ∧ chn bt (b :: r)
theorem chn_idx : ∀ {l : List Nat}, chn bt l → ∀ i a b, l[i]? = some a → l[i + 1]? = some b → bt a b = true
  | [], _, i, a, b, h, _ => by simp at h
  | [x], _, i, a, b, h, h2 => by simp at h2
  | x :: y :: r, h, 0, a, b, h1, h2 => by
    simp at h1 h2
    subst h1 h2
    exact h.1
  | x :: y :: r, h, i + 1, a, b, h1, h2 => by
    simp only [List.getElem?_cons_succ] at h1
    have h2' : (y :: r)[i + 1]? = some b := by simpa using h2
    exact chn_idx (l := y :: r) h.2 i a b h1 h2'
theorem chn_split (a b : Nat) (ys : List Nat) : ∀ xs : List Nat, chn bt (xs ++ a :: b :: ys) ↔ chn bt (xs ++ [a]) ∧ bt a b = true ∧ chn bt (b :: ys)
  | [] => by simp [chn]
  | [x] => by simp [chn, and_assoc]
  | x :: y :: r => by
    have ih := chn_split a b ys (y :: r)
    simp only [List.cons_append, chn] at ih ⊢
    rw [ih, and_assoc]
structure Rgc (bt : Nat → Nat → Bool) (B C : List Nat) (v : Nat) : Prop where
  nd : C.Nodup
  sub : ∀ x ∈ C, x ∈ B
  hd : C[0]? = some v
  ch : chn bt (C ++ [v])
theorem Rgc.rng {B C : List Nat} {v : Nat} (G : Rgc bt B C v) : Rng bt B C v := ⟨G.nd, G.sub, G.hd, fun i x y hx hy => by
  have hi : i < C.length := (List.getElem?_eq_some_iff.1 hx).1
  refine chn_idx G.ch i x y (by rw [List.getElem?_append_left hi]; exact hx) ?_
  rcases Nat.lt_or_ge (i + 1) C.length with z | z
  · rw [List.getElem?_append_left z]
    rwa [Nat.mod_eq_of_lt z] at hy
  · have e : i + 1 = C.length := by omega
    rw [e, Nat.mod_self, G.hd] at hy
    cases hy
    rw [e, List.getElem?_append_right (Nat.le_refl _)]
    simp⟩
theorem Rgc.three {B : List Nat} {v o i : Nat} (irr : ∀ i, bt i i = false) (anti : ∀ x y, x ∈ B → y ∈ B → bt x y = true → bt y x = true → False) (vB : v ∈ B) (oB : o ∈ B) (iB : i ∈ B) (h1 : bt v o = true) (h2 : bt o i = true) (h3 : bt i v = true) : Rgc bt B [v, o, i] v := by
  have n1 : v ≠ o := fun e => by rw [e, irr] at h1; cases h1
  have n2 : o ≠ i := fun e => by rw [e, irr] at h2; cases h2
  have n3 : v ≠ i := fun e => by rw [e, irr] at h3; cases h3
  refine ⟨by simp [n1, n2, n3], fun x hx => ?_, rfl, h1, h2, h3, trivial⟩
  simp at hx
  rcases hx with rfl | rfl | rfl
  · exact vB
  · exact oB
  · exact iB
theorem Rgc.put {B C : List Nat} {v i a b x : Nat} (G : Rgc bt B C v) (ha : C[i]? = some a) (hb : C[(i + 1) % C.length]? = some b) (xB : x ∈ B) (xC : x ∉ C) (h1 : bt a x = true) (h2 : bt x b = true) : Rgc bt B (C.take (i + 1) ++ [x] ++ C.drop (i + 1)) v := by
  have hi : i < C.length := (List.getElem?_eq_some_iff.1 ha).1
  obtain ⟨ys, ey⟩ : ∃ ys, C.drop (i + 1) ++ [v] = b :: ys := by
    rcases Nat.lt_or_ge (i + 1) C.length with z | z
    · rw [Nat.mod_eq_of_lt z] at hb
      obtain ⟨z', e⟩ := List.getElem?_eq_some_iff.1 hb
      rw [List.drop_eq_getElem_cons z, e]
      exact ⟨_, rfl⟩
    · have e : i + 1 = C.length := by omega
      rw [e, Nat.mod_self, G.hd] at hb
      cases hb
      rw [List.drop_of_length_le z]
      exact ⟨[], rfl⟩
  have tk : C.take (i + 1) = C.take i ++ [a] := take_snoc ha
  have eC : C ++ [v] = C.take i ++ a :: b :: ys := by
    conv => lhs; rw [← List.take_append_drop (i + 1) C]
    rw [List.append_assoc, ey, tk]; simp
  have ch := G.ch
  rw [eC, chn_split] at ch
  refine ⟨?_, fun y hy => ?_, ?_, ?_⟩
  · have nd := G.nd
    rw [← List.take_append_drop (i + 1) C] at nd
    obtain ⟨n1, n2, n3⟩ := List.nodup_append.1 nd
    rw [List.append_assoc, List.nodup_append]
    refine ⟨n1, ?_, fun p hp q hq => ?_⟩
    · rw [List.singleton_append, List.nodup_cons]
      exact ⟨fun z => xC (List.mem_of_mem_drop z), n2⟩
    · rcases List.mem_append.1 hq with z | z
      · rw [List.mem_singleton.1 z]
        exact fun e => xC (e ▸ List.mem_of_mem_take hp)
      · exact n3 p hp q z
  · rcases List.mem_append.1 hy with z | z
    · rcases List.mem_append.1 z with z | z
      · exact G.sub y (List.mem_of_mem_take z)
      · rw [List.mem_singleton.1 z]; exact xB
    · exact G.sub y (List.mem_of_mem_drop z)
  · rw [List.append_assoc, List.getElem?_append_left (by simp; omega), List.getElem?_take_of_lt (by omega)]
    exact G.hd
  · have e : C.take (i + 1) ++ [x] ++ C.drop (i + 1) ++ [v] = C.take i ++ a :: x :: (b :: ys) := by
      rw [List.append_assoc (C.take (i + 1) ++ [x]), ey, tk]; simp
    rw [e, chn_split]
    exact ⟨ch.1, h1, h2, ch.2.2⟩
theorem Rgc.two {B C : List Nat} {v l u : Nat} (G : Rgc bt B C v) (len : 3 ≤ C.length) (lB : l ∈ B) (lC : l ∉ C) (uB : u ∈ B) (uC : u ∉ C) (ne : l ≠ u) (h1 : bt v l = true) (h2 : bt l u = true) (h3 : ∀ c ∈ C, bt u c = true) : Rgc bt B ([v, l, u] ++ C.drop 2) v := by
  obtain ⟨c0, c1, c2, r, rfl⟩ : ∃ a b c r, C = a :: b :: c :: r := by
    match C, len with
    | a :: b :: c :: r, _ => exact ⟨a, b, c, r, rfl⟩
  have hv : c0 = v := by have := G.hd; simpa using this
  subst hv
  have nd := G.nd
  have ch := G.ch
  simp only [List.cons_append, chn] at ch
  simp only [List.nodup_cons, List.mem_cons, not_or] at nd
  simp only [List.mem_cons, not_or] at lC uC
  refine ⟨?_, fun y hy => ?_, rfl, ?_⟩
  · simp only [List.drop_succ_cons, List.drop_zero, List.cons_append, List.nil_append, List.nodup_cons, List.mem_cons, not_or]
    refine ⟨⟨fun e => lC.1 e.symm, fun e => uC.1 e.symm, nd.1.2.1, nd.1.2.2⟩, ⟨ne, lC.2.2.1, lC.2.2.2⟩, ⟨uC.2.2.1, uC.2.2.2⟩, nd.2.2.1, nd.2.2.2⟩
  · simp only [List.drop_succ_cons, List.drop_zero, List.cons_append, List.nil_append, List.mem_cons] at hy
    rcases hy with rfl | rfl | rfl | rfl | hy
    · exact G.sub _ (by simp)
    · exact lB
    · exact uB
    · exact G.sub _ (by simp)
    · exact G.sub _ (by simp [hy])
  · simp only [List.drop_succ_cons, List.drop_zero, List.cons_append, List.nil_append, chn]
    exact ⟨h1, h2, h3 c2 (by simp), ch.2.2⟩
/-! ### blocks -/
abbrev bkT (n : Nat) (bt : Nat → Nat → Bool) (j : Nat) : List (List Nat) × Nat := bkF n one1f (snS n bt) (tR_ n bt) j
theorem bk_all (j : Nat) (hj : j ≤ n) : (∀ B ∈ (bkT n bt j).1, ∃ p e, Blk n bt p e ∧ B = srtN (((tR_ n bt).take e).drop p)) ∧ (∀ x ∈ (tR_ n bt).take (bkT n bt j).2, ∃ B ∈ (bkT n bt j).1, x ∈ B) ∧ rmF n one1f (snS n bt) ((tR_ n bt).take (bkT n bt j).2) = 0 ∧ ∀ i, (bkT n bt j).2 < i → i ≤ j → rmF n one1f (snS n bt) ((tR_ n bt).take i) ≠ 0 := by
  induction j with
  | zero => exact ⟨fun B hB => (List.not_mem_nil hB).elim, fun x hx => (List.not_mem_nil hx).elim, rmF_nil _ _ _, fun i h1 h2 => by have : (bkT n bt 0).2 = 0 := rfl; omega⟩
  | succ j ih =>
    obtain ⟨i1, i2, i3, i4⟩ := ih (by omega)
    have le := (bkF_le n one1f (snS n bt) (tR_ n bt) j).1
    have st : bkT n bt (j + 1) = if rmF n one1f (snS n bt) ((tR_ n bt).take (j + 1)) = 0 then ((bkT n bt j).1 ++ [srtN (((tR_ n bt).take (j + 1)).drop (bkT n bt j).2)], j + 1) else bkT n bt j := rfl
    by_cases z : rmF n one1f (snS n bt) ((tR_ n bt).take (j + 1)) = 0
    · rw [if_pos z] at st
      rw [st]
      have K : Blk n bt (bkT n bt j).2 (j + 1) := ⟨Nat.lt_succ_of_le le, hj, i3, z, fun i h1 h2 => i4 i h1 (Nat.le_of_lt_succ h2)⟩
      refine ⟨fun B hB => ?_, fun x hx => ?_, z, fun i h1 h2 => by have h1' : j + 1 < i := h1; omega⟩
      · rcases List.mem_append.1 hB with w | w
        · exact i1 B w
        · exact ⟨_, _, K, List.mem_singleton.1 w⟩
      · simp only at hx
        rw [take_split (p := (bkT n bt j).2) (Nat.le_succ_of_le le)] at hx
        rcases List.mem_append.1 hx with w | w
        · obtain ⟨B, hB, xB⟩ := i2 x w
          exact ⟨B, List.mem_append_left _ hB, xB⟩
        · exact ⟨_, List.mem_append_right _ (List.mem_singleton.2 rfl), (srtN_perm _).mem_iff.2 w⟩
    · rw [if_neg z] at st
      rw [st]
      refine ⟨i1, i2, i3, fun i h1 h2 => ?_⟩
      by_cases e : i = j + 1
      · rw [e]; exact z
      · exact i4 i h1 (by omega)
theorem bk_end : (bkT n bt n).2 = n := by
  obtain ⟨_, _, _, i4⟩ := bk_all (n := n) (bt := bt) n (Nat.le_refl _)
  have le := (bkF_le n one1f (snS n bt) (tR_ n bt) n).1
  rcases Nat.lt_or_ge (bkT n bt n).2 n with z | z
  · exfalso
    refine i4 n z (Nat.le_refl _) ?_
    rw [List.take_of_length_le (by rw [t_ord.len]; exact Nat.le_refl _), rmF_full t_ord snS_sum]
  · exact Nat.le_antisymm le z
theorem bk_mem {v : Nat} (hv : v < n) : ∃ B ∈ (bkT n bt n).1, v ∈ B := by
  obtain ⟨_, i2, _, _⟩ := bk_all (n := n) (bt := bt) n (Nat.le_refl _)
  refine i2 v ?_
  rw [bk_end, List.take_of_length_le (by rw [t_ord.len]; exact Nat.le_refl _)]
  exact t_ord.mem hv
theorem bk_blk {B : List Nat} (h : B ∈ (bkT n bt n).1) : ∃ p e, Blk n bt p e ∧ B = srtN (((tR_ n bt).take e).drop p) := (bk_all n (Nat.le_refl _)).1 B h
theorem blk_len {p e : Nat} (K : Blk n bt p e) : (srtN (((tR_ n bt).take e).drop p)).length = e - p := by
  rw [(srtN_perm _).length_eq, List.length_drop, List.length_take, t_ord.len]
  have := K.le
  omega
theorem blk_nd {p e : Nat} : (srtN (((tR_ n bt).take e).drop p)).Nodup := (srtN_perm _).nodup_iff.2 ((take_nd e).sublist (List.drop_sublist _ _))
theorem blk_lt {p e x : Nat} (h : x ∈ srtN (((tR_ n bt).take e).drop p)) : x < n := take_lt (List.mem_of_mem_drop ((srtN_perm _).mem_iff.1 h))
/-- all blocks of one die: all first dice are tight -/
theorem ones_tight (h : ∀ B ∈ (bkT n bt n).1, B.length = 1) {j : Nat} (hj : j < n) : rmF n one1f (snS n bt) ((tR_ n bt).take (j + 1)) = 0 := by
  have hl : j < (tR_ n bt).length := by rw [t_ord.len]; exact hj
  have xm : (tR_ n bt)[j] ∈ tR_ n bt := List.getElem_mem hl
  obtain ⟨B, hB, xB⟩ := bk_mem (n := n) (bt := bt) (t_ord.lt xm)
  obtain ⟨p, e, K, rfl⟩ := bk_blk hB
  have l1 := h _ hB
  rw [blk_len K] at l1
  have xd := (srtN_perm _).mem_iff.1 xB
  obtain ⟨i, hi, ei⟩ := List.getElem_of_mem xd
  rw [List.getElem_drop, List.getElem_take] at ei
  rw [List.length_drop, List.length_take, t_ord.len] at hi
  have : p + i = j := nd_inj t_ord.nd ei
  have e1 : e = j + 1 := by have := K.lt; have := K.le; omega
  rw [← e1]
  exact K.t2
theorem tight_bk (h : ∀ j, j < n → rmF n one1f (snS n bt) ((tR_ n bt).take (j + 1)) = 0) : ∀ j, j ≤ n → bkT n bt j = (((tR_ n bt).take j).map fun x => [x], j)
  | 0, _ => rfl
  | j + 1, hj => by
    have ih := tight_bk h j (by omega)
    have st : bkT n bt (j + 1) = if rmF n one1f (snS n bt) ((tR_ n bt).take (j + 1)) = 0 then ((bkT n bt j).1 ++ [srtN (((tR_ n bt).take (j + 1)).drop (bkT n bt j).2)], j + 1) else bkT n bt j := rfl
    rw [if_pos (h j (by omega)), ih] at st
    rw [st]
    have hl : j < (tR_ n bt).length := by rw [t_ord.len]; omega
    have tk : (tR_ n bt).take (j + 1) = (tR_ n bt).take j ++ [(tR_ n bt)[j]] := take_snoc (List.getElem?_eq_getElem hl)
    have ld : ((tR_ n bt).take j).length = j := by rw [List.length_take, t_ord.len]; omega
    have dr : ((tR_ n bt).take (j + 1)).drop j = [(tR_ n bt)[j]] := by
      rw [tk]
      conv => lhs; arg 1; rw [← ld]
      rw [List.drop_left]
    rw [dr, tk, List.map_append]
    have : srtN [(tR_ n bt)[j]] = [(tR_ n bt)[j]] := srtN_eq (by simp) (List.Perm.refl _)
    rw [this]
    rfl
/-! ### losses -/
def loss (n : Nat) (bt : Nat → Nat → Bool) (i : Nat) : Nat := ((List.range n).filter fun j => bt j i).length
theorem cnt_sg (p : Nat → Bool) : ∀ n : Nat, (((List.range n).filter p).length : Int) = sg n fun j => if p j = true then 1 else 0
  | 0 => rfl
  | n + 1 => by
    rw [List.range_succ, List.filter_append, List.length_append, sg_succ, ← cnt_sg p n]
    cases q : p n <;> simp [q]
theorem loss_s (T : Trn n bt) {i : Nat} (hi : i < n) : snS n bt i = (n : Int) - 1 - 2 * loss n bt i := by
  have e1 : (loss n bt i : Int) = sg n fun j => if bt j i = true then 1 else 0 := cnt_sg _ n
  have e2 : (sg n fun j => (if bt i j = true then 1 else 0) + (if bt j i = true then 1 else 0) + (if i = j then 1 else 0)) = sg n fun _ => (1 : Int) := sg_congr fun j hj => by
    by_cases e : i = j
    · subst e; simp [T.irr]
    · have := T.tot i j hi hj e
      cases q : bt j i <;> rw [q] at this <;> simp [this, e]
  have e3 : (sg n fun _ => (1 : Int)) = n := by
    clear e1 e2 T hi
    induction n with
    | zero => rfl
    | succ n ih => rw [sg_succ, ih]; omega
  have e4 : snS n bt i = (sg n fun j => if bt i j = true then (1 : Int) else 0) - sg n fun j => if bt j i = true then (1 : Int) else 0 := sg_sub n _ _
  rw [sg_add, sg_add, sg_ite, if_pos hi, e3] at e2
  rw [e4, ← e1]
  rw [← e1] at e2
  omega
theorem prd_one : ∀ n, prd n one1f = 1
  | 0 => rfl
  | n + 1 => by rw [prd_succ, prd_one n]; rfl
theorem wrt_one (i : Nat) : wrt n one1f (snS n bt) i = snS n bt i := by unfold wrt; rw [prd_one]; simp [one1f]
/-- different losses: all first dice are tight -/
theorem inj_tight (T : Trn n bt) (inj : ∀ a b, a < n → b < n → loss n bt a = loss n bt b → a = b) : ∀ j, j < n → rmF n one1f (snS n bt) ((tR_ n bt).take (j + 1)) = 0 := by
  have O := t_ord (n := n) (bt := bt)
  have lenR := O.len
  generalize tR_ n bt = R at O lenR ⊢
  have lt_ : ∀ i (h : i < R.length), R[i] < n := fun i h => O.lt (List.getElem_mem h)
  have up : ∀ i j (hi : i < R.length) (hj : j < R.length), i < j → loss n bt R[i] < loss n bt R[j] := fun i j hi hj h => by
    have b := List.pairwise_iff_getElem.1 O.pw i j hi hj h
    unfold Bef at b
    rw [wrt_one, wrt_one, loss_s T (lt_ i hi), loss_s T (lt_ j hj)] at b
    have ne : loss n bt R[i] ≠ loss n bt R[j] := fun e => by
      have := inj _ _ (lt_ i hi) (lt_ j hj) e
      have := nd_inj O.nd this
      omega
    omega
  have lo : ∀ i (hi : i < R.length), i ≤ loss n bt R[i] := by
    intro i
    induction i with
    | zero => intro _; exact Nat.zero_le _
    | succ i ih =>
      intro hi
      have := ih (by omega)
      have := up i (i + 1) (by omega) hi (by omega)
      omega
  have top : ∀ i (hi : i < R.length), loss n bt R[i] < n := fun i hi => by
    unfold loss
    have : (((List.range n).filter fun j => bt j R[i])).length < (List.range n).length := by
      refine List.length_filter_lt_length_iff_exists.2 ⟨R[i], List.mem_range.2 (lt_ i hi), by rw [T.irr]; simp⟩
    simpa using this
  have hi_ : ∀ k i (hi : i < R.length), i + k + 1 = n → loss n bt R[i] ≤ i := by
    intro k
    induction k with
    | zero => intro i hi e; have := top i hi; omega
    | succ k ih =>
      intro i hi e
      have := ih (i + 1) (by omega) (by omega)
      have := up i (i + 1) hi (by omega) (by omega)
      omega
  have eq : ∀ i (hi : i < R.length), loss n bt R[i] = i := fun i hi => Nat.le_antisymm (hi_ (n - i - 1) i hi (by omega)) (lo i hi)
  have sums : ∀ j, j ≤ n → sS (R.take j) one1f = j ∧ sS (R.take j) (snS n bt) = (j : Int) * (n - j) := by
    intro j
    induction j with
    | zero => intro _; rw [List.take_zero, sS_nil, sS_nil]; simp
    | succ j ih =>
      intro hj
      obtain ⟨a, b⟩ := ih (by omega)
      have hl : j < R.length := by omega
      rw [take_snoc (List.getElem?_eq_getElem hl), sS_app, sS_app, sS_cons, sS_cons, sS_nil, sS_nil, a, b, loss_s T (lt_ j hl), eq j hl]
      refine ⟨by unfold one1f; omega, ?_⟩
      push_cast
      grind
  intro j hj
  obtain ⟨a, b⟩ := sums (j + 1) (by omega)
  unfold rmF
  rw [a, b]
  have : sg n one1f = n := by
    clear a b sums eq hi_ top lo up lt_ lenR O inj T hj
    induction n with
    | zero => rfl
    | succ n ih => rw [sg_succ, ih]; unfold one1f; omega
  rw [this]
  omega
/-- .. and the other way: the k-th loses to k dice -/
theorem tight_loss (T : Trn n bt) (h : ∀ j, j < n → rmF n one1f (snS n bt) ((tR_ n bt).take (j + 1)) = 0) {k x : Nat} (hx : (tR_ n bt)[k]? = some x) : loss n bt x = k := by
  have hk : k < n := by have := (List.getElem?_eq_some_iff.1 hx).1; rwa [t_ord.len] at this
  have xn := t_ord.lt (List.mem_of_getElem? hx)
  have t0 : rmF n one1f (snS n bt) ((tR_ n bt).take k) = 0 := by
    cases k with
    | zero => rw [List.take_zero, rmF_nil]
    | succ k => exact h k (by omega)
  have d0 := (tight_dom T (take_nd k) fun x hx => take_lt hx).1 t0
  have d1 := (tight_dom T (take_nd (k + 1)) fun x hx => take_lt hx).1 (h k hk)
  have xk : x ∉ (tR_ n bt).take k := by
    have nd := take_nd (n := n) (bt := bt) (k + 1)
    rw [take_snoc hx] at nd
    intro z
    exact (List.nodup_append.1 nd).2.2 x z x (by simp) rfl
  have pm : ((List.range n).filter fun j => bt j x).Perm ((tR_ n bt).take k) := perm_of_mem (List.nodup_range.filter _) (take_nd k) fun j => by
    rw [List.mem_filter, List.mem_range]
    constructor
    · rintro ⟨jn, jb⟩
      apply Classical.byContradiction
      intro no
      by_cases e : j = x
      · rw [e, T.irr] at jb; cases jb
      · have := d1 x (by rw [take_snoc hx]; simp) j jn (by rw [take_snoc hx]; simp [no, e])
        have t := T.tot j x jn xn e
        rw [jb, this] at t; cases t
    · intro hj
      exact ⟨take_lt hj, d0 j hj x xn xk⟩
  unfold loss
  rw [pm.length_eq, List.length_take, t_ord.len]
  omega
end
end Z

end
section
/-! instances; dice, cups, leads: evaluation and numbers, no program -/
namespace Z
section
variable {Φ : FS} {env : Env} {h : CH}
/-- a method -/
def methR (Φ : FS) (c : Nat) (md : Bool) (f : Nat) (x : D) (h1 : CH) (r : R (List D)) : R D := if insIs h1 x c then r.bnd fun vs h2 => callM md Φ f (x :: vs) h2 else .no
@[simp] theorem e_meth (kd c : Nat) (md : Bool) (f : Nat) (o : E) (es : Es) : evE Φ (.meth kd c md f o es) env h = (evE Φ o env h).bnd fun x h1 => methR Φ c md f x h1 (evEs Φ es env h1) := by simp only [evE]; rfl
theorem methR_ins {c : Nat} {md : Bool} {f : Nat} {ds : List D} {r : R (List D)} : methR Φ c md f (.ins c ds) h r = r.bnd fun vs h2 => callM md Φ f (.ins c ds :: vs) h2 := by
  unfold methR insIs insOf
  simp
theorem methR_cell {c : Nat} {md : Bool} {f z : Nat} {ds : List D} {r : R (List D)} (e : h[z]? = some (.ins c ds)) : methR Φ c md f (.cell z) h r = r.bnd fun vs h2 => callM md Φ f (.cell z :: vs) h2 := by
  unfold methR insIs insOf
  simp [e]
def opmR (Φ : FS) (c : Nat) (md : Bool) (f : Nat) (x y : D) (h2 : CH) : R D := if insIs h2 x c then (match y with
    | .int i => (callM md Φ f [x, .int i] h2).bnd fun d h3 => if isIns d then .ok d h3 else .no
    | _ => .no) else .no
@[simp] theorem e_opm (c : Nat) (md : Bool) (f : Nat) (a b : E) : evE Φ (.opm c md f a b) env h = (evE Φ a env h).bnd fun x h1 => (evE Φ b env h1).bnd fun y h2 => opmR Φ c md f x y h2 := by simp only [evE]; rfl
theorem opmR_ins {c : Nat} {md : Bool} {f : Nat} {ds es : List D} {i : Int} {h' : CH} {k : Nat} (e : callM md Φ f [.ins c ds, .int i] h = .ok (.ins k es) h') : opmR Φ c md f (.ins c ds) (.int i) h = .ok (.ins k es) h' := by
  unfold opmR insIs insOf
  simp [e, isIns]
@[simp] theorem e_ccal (c : Nat) (md : Bool) (f : Nat) (es : Es) : evE Φ (.ccal c md f es) env h = (evEs Φ es env h).bnd fun vs h1 => callM md Φ f (.typ c :: vs) h1 := by simp only [evE]
def mkcR (Φ : FS) (c f : Nat) (o : Option (Option D)) (r : R (List D)) : R D := match o with
    | some (some (.typ k)) => if k = c then r.bnd fun ds h1 => mkV Φ c f ds h1 else .no
    | _ => .no
@[simp] theorem mkcR_ok (c f : Nat) (r : R (List D)) : mkcR Φ c f (some (some (.typ c))) r = r.bnd fun ds h1 => mkV Φ c f ds h1 := by simp [mkcR]
@[simp] theorem e_mkc (i c f : Nat) (es : Es) : evE Φ (.mkc i c f es) env h = mkcR Φ c f env[i]? (evEs Φ es env h) := by simp only [evE]; rfl
def tupR (d : D) (h2 : CH) : R (List D × Ck) := match d with
    | .tup ds => .ok (ds, none) h2
    | _ => .no
@[simp] theorem tupR_tup (ds : List D) (h : CH) : tupR (.tup ds) h = .ok (ds, none) h := (rfl)
@[simp] theorem tupR_W (ds : List D) (h : CH) : tupR (W true ds) h = .ok (ds, none) h := (rfl)
@[simp] theorem it_own (x : E) (c j : Nat) : evIt Φ (.own x c j) env h = (evE Φ x env h).bnd fun v h1 => (fldV v c j h1).bnd tupR := by simp only [evIt]; rfl
def fsR (o : Option (Option D)) (c j : Nat) (y : D) (env : Env) (h1 : CH) : RS := match o with
    | some (some x) => (match fsetV x c j y h1 with
      | some h2 => .nx env h2
      | none => .no)
    | _ => .no
@[simp] theorem s_fset (i c j : Nat) (e : E) : evS Φ (.fset i c j e) env h = RS.of (evE Φ e env h) fun y h1 => fsR env[i]? c j y env h1 := by simp only [evS]; rfl
theorem fsR_ok {x : D} {c j : Nat} {y : D} {h1 h2 : CH} (e : fsetV x c j y h1 = some h2) : fsR (some (some x)) c j y env h1 = .nx env h2 := by simp only [fsR, e]
def fldR (o : Option D) (h : CH) : R D := match o with
    | some d => .ok d h
    | none => .no
@[simp] theorem fldR_some (d : D) (h : CH) : fldR (some d) h = .ok d h := (rfl)
@[simp] theorem fld_ins (c j : Nat) (ds : List D) (h : CH) : fldV (.ins c ds) c j h = fldR ds[j]? h := by
  unfold fldV insOf
  simp only [if_true]
  rfl
theorem fld_cell {c j z : Nat} {ds : List D} {d : D} (e : h[z]? = some (.ins c ds)) (q : ds[j]? = some d) : fldV (.cell z) c j h = .ok d h := by simp [fldV, insOf, e, q]
theorem fset_cell {c j z : Nat} {ds : List D} {y : D} (e : h[z]? = some (.ins c ds)) (hj : j ≤ ds.length) (hl : ds.length < 1000) : fsetV (.cell z) c j y h = some (h.set z (.ins c (if j < ds.length then ds.set j y else ds ++ [y]))) := by simp [fsetV, e, hj, hl]
@[simp] theorem new_at (h : CH) (c : Cell) : (h ++ [c])[h.length]? = some c := by simp
@[simp] theorem new_set (h : CH) (c e : Cell) : (h ++ [c]).set h.length e = h ++ [e] := by simp
end
/-! ### settling -/
mutual
theorem snapF_pl {h : CH} : ∀ (k n : Nat) (d : D), n ≤ k → pl n d = true → snapF h k d = some d
  | 0, 0, d, _, e => by cases d <;> simp [pl] at e
  | k + 1, 0, d, _, e => by cases d <;> simp [pl] at e
  | 0, n + 1, d, hn, e => by omega
  | k + 1, n + 1, .int i, _, _ => rfl
  | k + 1, n + 1, .non, _, _ => rfl
  | k + 1, n + 1, .tup ds, hn, e => by
    simp only [snapF, snapsF_pl k n ds (by omega) (by simpa [pl] using e), Option.map_some]
  | k + 1, n + 1, .lst ds, hn, e => by
    simp only [snapF, snapsF_pl k n ds (by omega) (by simpa [pl] using e), Option.map_some]
  | k + 1, n + 1, .bl _, _, e => by simp [pl] at e
  | k + 1, n + 1, .str _, _, e => by simp [pl] at e
  | k + 1, n + 1, .cell _, _, e => by simp [pl] at e
  | k + 1, n + 1, .ins _ _, _, e => by simp [pl] at e
  | k + 1, n + 1, .scr _, _, e => by simp [pl] at e
  | k + 1, n + 1, .typ _, _, e => by simp [pl] at e
theorem snapsF_pl {h : CH} : ∀ (k n : Nat) (ds : List D), n ≤ k → pls n ds = true → ds.mapM (snapF h k) = some ds
  | k, n, [], _, _ => rfl
  | k, n, d :: ds, hn, e => by
    simp only [pls, Bool.and_eq_true] at e
    rw [List.mapM_cons, snapF_pl k n d hn e.1, snapsF_pl k n ds hn e.2]
    rfl
end
mutual
theorem cellsF_pl {h : CH} : ∀ (k n : Nat) (d : D), pl n d = true → cellsF h k d = []
  | 0, n, d, _ => by simp [cellsF]
  | k + 1, 0, d, e => by cases d <;> simp [pl] at e
  | k + 1, n + 1, .int i, _ => rfl
  | k + 1, n + 1, .non, _ => rfl
  | k + 1, n + 1, .tup ds, e => by
    simp only [cellsF]
    exact cellssF_pl k n ds (by simpa [pl] using e)
  | k + 1, n + 1, .lst ds, e => by
    simp only [cellsF]
    exact cellssF_pl k n ds (by simpa [pl] using e)
  | k + 1, n + 1, .bl _, e => by simp [pl] at e
  | k + 1, n + 1, .str _, e => by simp [pl] at e
  | k + 1, n + 1, .cell _, e => by simp [pl] at e
  | k + 1, n + 1, .ins _ _, e => by simp [pl] at e
  | k + 1, n + 1, .scr _, e => by simp [pl] at e
  | k + 1, n + 1, .typ _, e => by simp [pl] at e
theorem cellssF_pl {h : CH} : ∀ (k n : Nat) (ds : List D), pls n ds = true → ds.flatMap (cellsF h k) = []
  | k, n, [], _ => rfl
  | k, n, d :: ds, e => by
    simp only [pls, Bool.and_eq_true] at e
    rw [List.flatMap_cons, cellsF_pl k n d e.1, cellssF_pl k n ds e.2]
    rfl
end
mutual
theorem nc_pl : ∀ (n : Nat) (d : D), pl n d = true → d.nc = true
  | 0, d, e => by cases d <;> simp [pl] at e
  | n + 1, .int i, _ => rfl
  | n + 1, .non, _ => rfl
  | n + 1, .tup ds, e => by simp only [D.nc]; exact ncs_pls n ds (by simpa [pl] using e)
  | n + 1, .lst ds, e => by simp only [D.nc]; exact ncs_pls n ds (by simpa [pl] using e)
  | n + 1, .bl _, e => by simp [pl] at e
  | n + 1, .str _, e => by simp [pl] at e
  | n + 1, .cell _, e => by simp [pl] at e
  | n + 1, .ins _ _, e => by simp [pl] at e
  | n + 1, .scr _, e => by simp [pl] at e
  | n + 1, .typ _, e => by simp [pl] at e
theorem ncs_pls : ∀ (n : Nat) (ds : List D), pls n ds = true → ncs ds = true
  | n, [], _ => rfl
  | n, d :: ds, e => by
    simp only [pls, Bool.and_eq_true] at e
    simp only [ncs, nc_pl n d e.1, ncs_pls n ds e.2, Bool.and_self]
end
theorem kill_new (h : CH) (c : Cell) : kill [h.length] (h ++ [c]) = h ++ [.dead] := by
  unfold kill
  apply List.ext_getElem?
  intro i
  rw [List.getElem?_mapIdx]
  rcases Nat.lt_trichotomy i h.length with z | z | z
  · rw [List.getElem?_append_left z, List.getElem?_append_left z]
    cases q : h[i]? with
    | none => rfl
    | some e =>
      have : ¬ i = h.length := by omega
      simp [this]
  · subst z; simp
  · rw [List.getElem?_eq_none (by simp; omega), List.getElem?_eq_none (by simp; omega)]; rfl
/-- an instance just made is settled -/
theorem fz_new {h : CH} {c n : Nat} {ds : List D} (hn : n ≤ 5) (e : pls n ds = true) : fzV (.cell h.length) (h ++ [.ins c ds]) = .ok (.ins c ds) (h ++ [.dead]) := by
  have s1 : snapF (h ++ [.ins c ds]) 6 (.cell h.length) = some (.ins c ds) := by
    simp only [snapF, new_at, snapsF_pl 5 n ds hn e, Option.map_some]
  have s2 : cellsF (h ++ [.ins c ds]) 6 (.cell h.length) = [h.length] := by
    simp only [cellsF, new_at, cellssF_pl 5 n ds e]
  unfold fzV frzD
  rw [if_neg (by simp [D.nc]), s1, s2, kill_new]
  rfl
/-! ### tables that are not square: n rows of m -/
def recD (a b : Bool) (n m : Nat) (f : F2) : D := W a ((List.range n).map fun i => W b (iL (rowF m f i)))
theorem recD_sq (a b : Bool) (n : Nat) (f : F2) : recD a b n n f = tabD a b n f := rfl
theorem W_pl {n : Nat} (b : Bool) {ds : List D} (e : pls n ds = true) : pl (n + 1) (W b ds) = true := by cases b <;> exact e
theorem pl_row (b : Bool) (r : List Int) : pl 2 (W b (iL r)) = true := W_pl b (pls_map r fun _ => rfl)
theorem pl_rec (a b : Bool) (n m : Nat) (f : F2) : pl 3 (recD a b n m f) = true := W_pl a (pls_map _ fun i => pl_row b _)
@[simp] theorem nc_rec (a b : Bool) (n m : Nat) (f : F2) : (recD a b n m f).nc = true := nc_pl 3 _ (pl_rec a b n m f)
@[simp] theorem so_rec (n m : Nat) (f : F2) : (recD true true n m f).solid = true := solids_map _ fun i => so_tR _
section
variable {h : CH}
theorem rec_row {a b : Bool} {n m : Nat} {f : F2} {i : Nat} (hi : i < n) : ixV (recD a b n m f) (.int i) h = .ok (W b (iL (rowF m f i))) h := ix_ok (items_W _ _) (rng_map_get _ hi)
theorem rec_row0 {a b : Bool} {n m : Nat} {f : F2} (hi : 0 < n) : ixV (recD a b n m f) (.int 0) h = .ok (W b (iL (rowF m f 0))) h := rec_row hi
@[simp] theorem items_rec (a b : Bool) (n m : Nat) (f : F2) : items h (recD a b n m f) = some ((List.range n).map fun i => W b (iL (rowF m f i))) := items_W _ _
@[simp] theorem ck_rec (a b : Bool) (n m : Nat) (f : F2) (es : List D) : ckOf (recD a b n m f) es = none := ck_W _ _ _
@[simp] theorem len_rec {q : Bool} (a b : Bool) (n m : Nat) (f : F2) : biD .len q [recD a b n m f] h = .ok (.int (n : Nat)) h := by rw [len_ok (items_rec _ _ _ _ _)]; simp
@[simp] theorem itR_rec (a b : Bool) (n m : Nat) (f : F2) : itR (recD a b n m f) h = .ok ((List.range n).map (fun i => W b (iL (rowF m f i))), none) h := by rw [itR_of (items_rec _ _ _ _ _), ck_rec]
theorem enum_rec (a b : Bool) (n m : Nat) (f : F2) : itD .enum [recD a b n m f] h = .ok ((List.range n).map (fun i : Nat => D.tup [.int i, W b (iL (rowF m f i))]), none) h := by
  rw [it_enum (items_rec a b n m f) (W_ns _ _), enum_rng, ck_rec]
end
/-! ### dice -/
/-- a cup as it is settled: class c -/
def cupD (c n m : Nat) (f : F2) : D := .ins c [recD true true n m f, .int (m : Nat)]
@[simp] theorem nc_cup (c n m : Nat) (f : F2) : (cupD c n m f).nc = true := by simp [cupD, D.nc, ncs]
theorem pls_cup (n m : Nat) (f : F2) : pls 3 [recD true true n m f, .int (m : Nat)] = true := by simp only [pls, pl_rec]; rfl
/-- dice that are right: n of them on m ranks -/
structure Dice (n m : Nat) (f : F2) : Prop where
  n1 : 1 ≤ n
  n8 : n ≤ 1000
  m8 : m ≤ 1000
  nn : ∀ i j, i < n → j < m → 0 ≤ f i j
  ps : ∀ i, i < n → 0 < sg m (f i)
theorem Dice.m1 {n m : Nat} {f : F2} (d : Dice n m f) : 1 ≤ m := by
  rcases Nat.eq_zero_or_pos m with z | z
  · have := d.ps 0 d.n1
    rw [z, sg_zero] at this
    omega
  · exact z
/-- the lead of x over y -/
def lead (m : Nat) (x y : Nat → Int) : Int := sg m fun r => x r * sg r y - y r * sg r x
theorem lead_anti (m : Nat) (x y : Nat → Int) : lead m x y = - lead m y x := by
  unfold lead
  rw [← sg_neg]
  exact sg_congr fun i _ => by omega
theorem lead_skew (m n : Nat) (f : F2) : Skew n fun i j => lead m (f i) (f j) := fun i j _ _ => lead_anti _ _ _
theorem lead_succ (m : Nat) (x y : Nat → Int) : lead (m + 1) x y = lead m x y + (x m * sg m y - y m * sg m x) := sg_succ _ _
theorem sg_sum (n m : Nat) (f : F2) : sg m (fun r => sg n fun i => f i r) = sg n fun i => sg m (f i) := sg_swap m n fun r i => f i r
/-- over the sum of dice -/
theorem lead_pool (m n : Nat) (x : Nat → Int) (f : F2) : lead m x (fun r => sg n fun i => f i r) = sg n fun i => lead m x (f i) := by
  unfold lead
  rw [sg_swap n m fun i r => x r * sg r (f i) - f i r * sg r x]
  refine sg_congr fun r _ => ?_
  rw [sg_sub, sg_mul, sg_sum]
  have e : (sg n fun i => f i r * sg r x) = (sg n fun i => f i r) * sg r x := by
    rw [Int.mul_comm, ← sg_mul]
    exact sg_congr fun i _ => Int.mul_comm _ _
  rw [e]
theorem lead_self (m : Nat) (x : Nat → Int) : lead m x x = 0 := by
  have := lead_anti m x x
  omega
theorem lead_congr {m : Nat} {x y x' y' : Nat → Int} (hx : ∀ r, r < m → x r = x' r) (hy : ∀ r, r < m → y r = y' r) : lead m x y = lead m x' y' := sg_congr fun r hr => by
  rw [hx r hr, hy r hr, sg_congr fun i hi => hx i (by omega), sg_congr fun i hi => hy i (by omega)]
theorem lead_mul (m : Nat) (a b : Int) (x y : Nat → Int) : lead m (fun r => a * x r) (fun r => b * y r) = a * b * lead m x y := by
  unfold lead
  rw [← sg_mul]
  refine sg_congr fun r _ => ?_
  rw [sg_mul, sg_mul]
  grind
theorem lead_add (m : Nat) (x y z : Nat → Int) : lead m (fun r => x r + y r) z = lead m x z + lead m y z := by
  unfold lead
  rw [← sg_add]
  refine sg_congr fun r _ => ?_
  rw [sg_add]
  grind
/-- below: the size of a lead -/
theorem sg_abs {m : Nat} {x : Nat → Int} {b : Int} (h : ∀ r, r < m → -b ≤ x r ∧ x r ≤ b) : -(m * b) ≤ sg m x ∧ sg m x ≤ m * b := by
  induction m with
  | zero => simp [sg_zero]
  | succ m ih =>
    obtain ⟨h1, h2⟩ := ih fun r hr => h r (by omega)
    obtain ⟨h3, h4⟩ := h m (by omega)
    rw [sg_succ]
    have e : ((m + 1 : Nat) : Int) * b = m * b + b := by grind
    rw [e]
    omega
theorem sg_mono {m r : Nat} {x : Nat → Int} (h : ∀ r, r < m → 0 ≤ x r) (hr : r ≤ m) : sg r x ≤ sg m x := by
  induction m with
  | zero => obtain rfl : r = 0 := by omega
            exact Int.le_refl _
  | succ m ih =>
    by_cases e : r = m + 1
    · subst e; exact Int.le_refl _
    · rw [sg_succ]
      have := ih (fun r hr => h r (by omega)) (by omega)
      have := h m (by omega)
      omega
theorem sg_at_le {m r : Nat} {x : Nat → Int} (h : ∀ r, r < m → 0 ≤ x r) (hr : r < m) : x r ≤ sg m x := by
  have h1 := sg_mono (r := r + 1) h hr
  rw [sg_succ] at h1
  have := sg_nonneg (n := r) fun i hi => h i (by omega)
  omega
theorem Dice.times {n m : Nat} {f : F2} (d : Dice n m f) {t : Int} (ht : 1 ≤ t) : Dice n m fun i j => f i j * t := ⟨d.n1, d.n8, d.m8, fun i j hi hj => Int.mul_nonneg (d.nn i j hi hj) (by omega), fun i hi => by
  have e : sg m (fun j => f i j * t) = t * sg m (f i) := by rw [← sg_mul]; exact sg_congr fun j _ => Int.mul_comm _ _
  rw [e]
  exact Int.mul_pos (by omega) (d.ps i hi)⟩
/-- a list that is a cell is settled -/
theorem frz_lst {h : CH} {z n : Nat} {ds : List D} (e : h[z]? = some (.lst ds)) (hn : n ≤ 5) (p : pls n ds = true) : frzD h (.cell z) = some (.lst ds, kill [z] h) := by
  unfold frzD
  rw [if_neg (by simp [D.nc]), snapF_cell 5 e, snapsF_pl 5 n ds hn p, cellsF_cell 5 e, cellssF_pl 5 n ds p]
  rfl
/-- two rows, one behind the other -/
def app (m : Nat) (x y : Nat → Int) : Nat → Int := fun r => if r < m then x r else y (r - m)
theorem vec_app (m j : Nat) (x y : Nat → Int) : vec m x ++ vec j y = vec (m + j) (app m x y) := by
  unfold vec
  rw [List.range_add, List.map_append, List.map_map]
  congr 1
  · exact List.map_congr_left fun r hr => by simp [app, List.mem_range.1 hr]
  · exact List.map_congr_left fun r _ => by
      have : ¬ m + r < m := by omega
      simp [app, this]
theorem sg_app (m j : Nat) (x y : Nat → Int) : sg (m + j) (app m x y) = sg m x + sg j y := by
  unfold sg
  rw [← vec_app, List.sum_append]
def upr (f : F2) (i : Nat) (x : Nat → Int) : F2 := fun t => if t = i then x else f t
end Z

end
section
set_option exponentiation.threshold 300
/-! sizes of numbers; greatest common divisors: no program -/
namespace Z
/-- below 2 ^ k in size -/
def Bn (k : Nat) (i : Int) : Prop := i.natAbs < 2 ^ k
theorem Bn.mono {j k : Nat} {i : Int} (h : Bn j i) (hk : j ≤ k) : Bn k i := Nat.lt_of_lt_of_le h (Nat.pow_le_pow_right (by omega) hk)
theorem Bn.mul {j k : Nat} {a b : Int} (ha : Bn j a) (hb : Bn k b) : Bn (j + k) (a * b) := by
  unfold Bn at *
  rw [Int.natAbs_mul, Nat.pow_add]
  exact Nat.mul_lt_mul'' ha hb
theorem Bn.add {k : Nat} {a b : Int} (ha : Bn k a) (hb : Bn k b) : Bn (k + 1) (a + b) := by
  unfold Bn at *
  rw [Nat.pow_succ]
  omega
theorem Bn.sub {k : Nat} {a b : Int} (ha : Bn k a) (hb : Bn k b) : Bn (k + 1) (a - b) := by
  unfold Bn at *
  rw [Nat.pow_succ]
  omega
theorem Bn.neg {k : Nat} {a : Int} (ha : Bn k a) : Bn k (-a) := by
  unfold Bn at *
  omega
theorem Bn.le {k : Nat} {a b : Int} (hb : Bn k b) (h0 : 0 ≤ a) (h : a ≤ b) : Bn k a := by
  unfold Bn at *
  omega
theorem Bn.abs {k : Nat} {a b : Int} (hb : Bn k b) (h : a.natAbs ≤ b.natAbs) : Bn k a := Nat.lt_of_le_of_lt h hb
theorem Bn.of64 {a : Int} (h : a.natAbs < 18446744073709551616) : Bn 64 a := by
  unfold Bn
  have : (2 : Nat) ^ 64 = 18446744073709551616 := by decide
  rw [this]
  exact h
theorem Bn.of20 {a : Int} (h : a.natAbs < 1048576) : Bn 20 a := by
  unfold Bn
  have : (2 : Nat) ^ 20 = 1048576 := by decide
  rw [this]
  exact h
theorem Bn.to64 {a : Int} (h : Bn 64 a) : a.natAbs < 18446744073709551616 := by
  unfold Bn at h
  have e : (2 : Nat) ^ 64 = 18446744073709551616 := by decide
  rw [e] at h
  exact h
theorem Bn.mulOk {j k : Nat} {a b : Int} (ha : Bn j a) (hb : Bn k b) (hj : j ≤ 400000) (hk : k ≤ 400000) : mulOk a b = true := by
  have h1 : a.natAbs < 2 ^ 400000 := ha.mono hj
  have h2 : b.natAbs < 2 ^ 400000 := hb.mono hk
  unfold Z.mulOk
  rw [Bool.or_eq_true, Bool.or_eq_true]
  exact .inr (.inr (decide_eq_true ⟨h1, h2⟩))
theorem Bn.divOk {k : Nat} {a : Int} (ha : Bn k a) (h0 : 0 < a) (hk : k ≤ 8000) : divOk a = true := by
  have h1 : a.natAbs < 2 ^ 8000 := ha.mono hk
  unfold Z.divOk
  exact decide_eq_true ⟨h0, h1⟩
variable {h : CH}
theorem mulB {q : Bool} {j k : Nat} {a b : Int} (ha : Bn j a) (hb : Bn k b) (hj : j ≤ 400000) (hk : k ≤ 400000) : binD .mul q (.int a) (.int b) h = .ok (.int (a * b)) h := mul_ok (ha.mulOk hb hj hk)
theorem divB {q : Bool} {k : Nat} {a b : Int} (hb : Bn k b) (h0 : 0 < b) (hk : k ≤ 8000) : binD .fdiv q (.int a) (.int b) h = .ok (.int (a / b)) h := by
  show (if divOk b then R.ok (D.int (a / b)) h else .no) = _
  rw [if_pos (hb.divOk h0 hk)]
/-- a row that is right for leads -/
structure Lb (k m : Nat) (x : Nat → Int) : Prop where
  nn : ∀ r, r < m → 0 ≤ x r
  sm : Bn k (sg m x)
theorem Lb.at_ {k m : Nat} {x : Nat → Int} (h : Lb k m x) {r : Nat} (hr : r < m) : Bn k (x r) := h.sm.le (h.nn r hr) (sg_at_le h.nn hr)
theorem Lb.to {k m : Nat} {x : Nat → Int} (h : Lb k m x) {r : Nat} (hr : r ≤ m) : Bn k (sg r x) := h.sm.le (sg_nonneg fun i hi => h.nn i (by omega)) (sg_mono h.nn hr)
/-! ### divisors -/
/-- the greatest common divisor of a row, as it is found: d so far -/
def gcdF (d : Nat) (l : List Int) : Nat := l.foldl (fun d e => Nat.gcd d e.natAbs) d
def gcdL (l : List Int) : Nat := gcdF 0 l
theorem gcdF_cons (d : Nat) (a : Int) (l : List Int) : gcdF d (a :: l) = gcdF (Nat.gcd d a.natAbs) l := rfl
theorem gcdF_dvd : ∀ (l : List Int) (d : Nat), gcdF d l ∣ d ∧ ∀ a ∈ l, gcdF d l ∣ a.natAbs
  | [], d => ⟨Nat.dvd_refl _, fun _ h => by simp at h⟩
  | b :: l, d => by
    obtain ⟨h1, h2⟩ := gcdF_dvd l (Nat.gcd d b.natAbs)
    rw [gcdF_cons]
    refine ⟨Nat.dvd_trans h1 (Nat.gcd_dvd_left _ _), fun a ha => ?_⟩
    rcases List.mem_cons.1 ha with rfl | ha
    · exact Nat.dvd_trans h1 (Nat.gcd_dvd_right _ _)
    · exact h2 a ha
theorem gcdF_gr : ∀ (l : List Int) (d g : Nat), g ∣ d → (∀ a ∈ l, g ∣ a.natAbs) → g ∣ gcdF d l
  | [], d, g, h, _ => h
  | b :: l, d, g, h, h2 => gcdF_gr l _ g (Nat.dvd_gcd h (h2 b List.mem_cons_self)) fun a ha => h2 a (List.mem_cons_of_mem _ ha)
theorem gcdL_dvd {l : List Int} {a : Int} (h : a ∈ l) : (gcdL l : Int) ∣ a := Int.ofNat_dvd_left.2 ((gcdF_dvd l 0).2 a h)
theorem gcdL_gr {l : List Int} {g : Nat} (h : ∀ a ∈ l, (g : Int) ∣ a) : g ∣ gcdL l := gcdF_gr l 0 g (Nat.dvd_zero _) fun a ha => Int.ofNat_dvd_left.1 (h a ha)
theorem gcdF_app (d : Nat) (l r : List Int) : gcdF d (l ++ r) = gcdF (gcdF d l) r := by unfold gcdF; rw [List.foldl_append]
theorem gcdL_snoc (l : List Int) (a : Int) : gcdL (l ++ [a]) = Nat.gcd (gcdL l) a.natAbs := by unfold gcdL; rw [gcdF_app]; rfl
theorem gcdL_pos {l : List Int} {a : Int} (h : a ∈ l) (ne : a ≠ 0) : 0 < gcdL l := by
  have := (gcdF_dvd l 0).2 a h
  rcases Nat.eq_zero_or_pos (gcdL l) with z | z
  · unfold gcdL at z
    rw [z, Nat.zero_dvd] at this
    omega
  · exact z
theorem gcdL_le {l : List Int} {a : Int} (h : a ∈ l) (ne : a ≠ 0) : gcdL l ≤ a.natAbs := Nat.le_of_dvd (by omega) ((gcdF_dvd l 0).2 a h)
theorem gcdL_two (a b : Int) : gcdL [a, b] = Nat.gcd a.natAbs b.natAbs := by simp [gcdL, gcdF]
/-- Euclid's turns: the least number of turns is below twice the bits -/
def euc : Nat → Nat → Nat → Nat × Nat
  | 0, a, b => (a, b)
  | t + 1, a, b => if b = 0 then (a, b) else euc t b (a % b)
theorem euc_zero (t a : Nat) : euc t a 0 = (a, 0) := by cases t <;> simp [euc]
theorem euc_ok : ∀ (j t a b : Nat), b < 2 ^ j → 2 * j ≤ t → euc t a b = (Nat.gcd a b, 0)
  | 0, t, a, b, hb, _ => by
    obtain rfl : b = 0 := by simpa using hb
    rw [euc_zero, Nat.gcd_zero_right]
  | j + 1, 0, a, b, _, h => by omega
  | j + 1, 1, a, b, _, h => by omega
  | j + 1, t + 2, a, b, hb, h => by
    by_cases z : b = 0
    · subst z; rw [euc_zero, Nat.gcd_zero_right]
    · have e1 : euc (t + 2) a b = euc (t + 1) b (a % b) := by simp [euc, z]
      rw [e1]
      have g1 : Nat.gcd a b = Nat.gcd b (a % b) := by rw [Nat.gcd_comm a b, Nat.gcd_rec b a, Nat.gcd_comm]
      by_cases z2 : a % b = 0
      · rw [z2, euc_zero, g1, z2, Nat.gcd_zero_right]
      · have e2 : euc (t + 1) b (a % b) = euc t (a % b) (b % (a % b)) := by simp [euc, z2]
        have lt1 : a % b < b := Nat.mod_lt _ (by omega)
        have lt2 : b % (a % b) < a % b := Nat.mod_lt _ (by omega)
        have hl : b % (a % b) < 2 ^ j := by
          have : b % (a % b) + (a % b) ≤ b := by
            have := Nat.mod_add_div b (a % b)
            have d1 : 1 ≤ b / (a % b) := Nat.div_pos (by omega) (by omega)
            have := Nat.mul_le_mul_left (a % b) d1
            omega
          rw [Nat.pow_succ] at hb
          omega
        rw [e2, euc_ok j t _ _ hl (by omega), g1, Nat.gcd_comm b (a % b), Nat.gcd_rec (a % b) b, Nat.gcd_comm]
end Z
namespace Z
variable {h : CH}
theorem vec_inj {n : Nat} {s t : Nat → Int} : iL (vec n s) = iL (vec n t) ↔ ∀ i, i < n → s i = t i := by
  constructor
  · intro e i hi
    have h1 : (iL (vec n s))[i]? = (iL (vec n t))[i]? := by rw [e]
    rw [iL_vec, iL_vec, rng_map_get _ hi, rng_map_get _ hi] at h1
    simpa using h1
  · intro e
    rw [iL_vec, iL_vec]
    exact List.map_congr_left fun i hi => by rw [e i (List.mem_range.1 hi)]
theorem vD_inj {b : Bool} {n : Nat} {s t : Nat → Int} : vD b n s = vD b n t ↔ ∀ i, i < n → s i = t i := by
  rw [← vec_inj]
  cases b <;> simp [vD, W]
open Classical in
theorem ne_vD {b : Bool} {n : Nat} {s t : Nat → Int} : cmpD .ne (vD b n s) (vD b n t) h = .ok (.bl (!decide (∀ i, i < n → s i = t i))) h := by
  rw [ne_pl (snap_nc (nc_vec _ _ _)) (snap_nc (nc_vec _ _ _)) (pl_row b _) (pl_row b _), beq_dec]
  have : (vD b n s = vD b n t) = (∀ i, i < n → s i = t i) := propext vD_inj
  simp only [this]
open Classical in
theorem eq_vD {b : Bool} {n : Nat} {s t : Nat → Int} : cmpD .eq (vD b n s) (vD b n t) h = .ok (.bl (decide (∀ i, i < n → s i = t i))) h := by
  rw [eq_pl (snap_nc (nc_vec _ _ _)) (snap_nc (nc_vec _ _ _)) (pl_row b _) (pl_row b _), beq_dec]
  have : (vD b n s = vD b n t) = (∀ i, i < n → s i = t i) := propext vD_inj
  simp only [this]
open Classical in
/-- how often the told faces go in -/
noncomputable def hasV (n : Nat) (N sc fa s : Nat → Int) : D := if N 0 / fa 0 < 1 then .non else if ∀ i, i < n → N i = fa i * (N 0 / fa 0) then (if ∀ i, i < n → sc i = s i * (N 0 / fa 0) * (N 0 / fa 0) then .int (N 0 / fa 0) else .non) else .non
theorem nc_hasV (n : Nat) (N sc fa s : Nat → Int) : (hasV n N sc fa s).nc = true := by unfold hasV; split <;> (try split) <;> (try split) <;> rfl
/-- a lead is at most the product of the faces -/
theorem lead_le {m : Nat} {x y : Nat → Int} (hx : ∀ r, r < m → 0 ≤ x r) (hy : ∀ r, r < m → 0 ≤ y r) : -(sg m x * sg m y) ≤ lead m x y ∧ lead m x y ≤ sg m x * sg m y := by
  induction m with
  | zero => simp [lead, sg_zero]
  | succ m ih =>
    obtain ⟨h1, h2⟩ := ih (fun r hr => hx r (by omega)) fun r hr => hy r (by omega)
    rw [lead_succ, sg_succ, sg_succ]
    have x0 := hx m (by omega)
    have y0 := hy m (by omega)
    have X0 := sg_nonneg (n := m) fun i hi => hx i (by omega)
    have Y0 := sg_nonneg (n := m) fun i hi => hy i (by omega)
    have p1 := Int.mul_nonneg x0 Y0
    have p2 := Int.mul_nonneg X0 y0
    have p3 := Int.mul_nonneg x0 y0
    have e : (sg m x + x m) * (sg m y + y m) = sg m x * sg m y + x m * sg m y + sg m x * y m + x m * y m := by grind
    have e2 : y m * sg m x = sg m x * y m := Int.mul_comm _ _
    rw [e, e2]
    omega
/-- a score is at most the faces times those of the others -/
theorem sg_bnd {n : Nat} {g u : Nat → Int} (h : ∀ i, i < n → -(u i) ≤ g i ∧ g i ≤ u i) : -(sg n u) ≤ sg n g ∧ sg n g ≤ sg n u := by
  refine ⟨?_, sg_le fun i hi => (h i hi).2⟩
  rw [← sg_neg]
  exact sg_le fun i hi => (h i hi).1
end Z
namespace Z
/-- a fraction in lowest terms -/
theorem low_ok {a b : Int} (hb : 0 < b) : ∃ u v : Int, a = (Nat.gcd a.natAbs b.natAbs : Nat) * u ∧ b = (Nat.gcd a.natAbs b.natAbs : Nat) * v ∧ a / (Nat.gcd a.natAbs b.natAbs : Nat) = u ∧ b / (Nat.gcd a.natAbs b.natAbs : Nat) = v ∧ Nat.gcd u.natAbs v.natAbs = 1 ∧ 0 < v ∧ u.natAbs ≤ a.natAbs ∧ v ≤ b := by
  have g0 : 0 < Nat.gcd a.natAbs b.natAbs := Nat.gcd_pos_of_pos_right _ (by omega)
  have d1 : ((Nat.gcd a.natAbs b.natAbs : Nat) : Int) ∣ a := Int.ofNat_dvd_left.2 (Nat.gcd_dvd_left _ _)
  have d2 : ((Nat.gcd a.natAbs b.natAbs : Nat) : Int) ∣ b := Int.ofNat_dvd_left.2 (Nat.gcd_dvd_right _ _)
  obtain ⟨u, hu⟩ := d1
  obtain ⟨v, hv⟩ := d2
  generalize hg : Nat.gcd a.natAbs b.natAbs = g at *
  have gz : (g : Int) ≠ 0 := by omega
  have q1 : a / g = u := by rw [hu, Int.mul_ediv_cancel_left _ gz]
  have q2 : b / g = v := by rw [hv, Int.mul_ediv_cancel_left _ gz]
  have n1 : a.natAbs = g * u.natAbs := by rw [hu, Int.natAbs_mul]; simp
  have n2 : b.natAbs = g * v.natAbs := by rw [hv, Int.natAbs_mul]; simp
  have vp : 0 < v := by
    rcases Int.lt_or_le 0 v with z | z
    · exact z
    · have := Int.mul_nonneg (show (0 : Int) ≤ g by omega) (show 0 ≤ -v by omega)
      rw [Int.mul_neg] at this
      omega
  refine ⟨u, v, hu, hv, q1, q2, ?_, ?_, ?_, ?_⟩
  · rw [n1, n2, Nat.gcd_mul_left] at hg
    exact Nat.eq_of_mul_eq_mul_left g0 (by omega)
  · exact vp
  · rw [n1]; exact Nat.le_mul_of_pos_left _ g0
  · rw [hv]
    have := Int.mul_le_mul_of_nonneg_right (show (1 : Int) ≤ g by omega) (Int.le_of_lt vp)
    omega
end Z
namespace Z
variable {h : CH}
theorem hasV_yes {n : Nat} {N sc fa s : Nat → Int} {T : Int} (hn : 0 < n) (f0 : 0 < fa 0) (T1 : 1 ≤ T) (h1 : ∀ i, i < n → N i = fa i * T) (h2 : ∀ i, i < n → sc i = s i * T * T) : hasV n N sc fa s = .int T := by
  have e : N 0 / fa 0 = T := by rw [h1 0 hn, Int.mul_ediv_cancel_left _ (by omega)]
  unfold hasV
  rw [e, if_neg (by omega), if_pos h1, if_pos h2]
theorem hasV_no {n : Nat} {N sc fa s : Nat → Int} (H : ∀ T : Int, 1 ≤ T → T = N 0 / fa 0 → (∀ i, i < n → N i = fa i * T) → (∀ i, i < n → sc i = s i * T * T) → False) : hasV n N sc fa s = .non := by
  unfold hasV
  split
  · rfl
  · split
    · split
      · rename_i a b c
        exact (H _ (by omega) rfl b c).elim
      · rfl
    · rfl
theorem so_hasV (n : Nat) (N sc fa s : Nat → Int) : (hasV n N sc fa s).solid = true := by unfold hasV; split <;> (try split) <;> (try split) <;> rfl
theorem callT_inv {Φ : FS} {f : Nat} {ds : List D} {d : D} {h' : CH} (n : ncs ds = true) (e : callM true Φ f ds h = .ok d h') : ∃ h2, Φ f ds [] = .ok d h2 ∧ d.nc = true := by
  have e : callP Φ f ds h = .ok d h' := e
  unfold callP at e
  rw [snaps_nc n] at e
  simp only at e
  cases q : pcall Φ f ds with
  | ok d2 =>
    rw [q] at e
    simp only [n, Bool.true_or, if_true] at e
    cases e
    unfold pcall at q
    split at q
    · rename_i d3 h3 q3
      split at q
      · rename_i c
        cases q
        exact ⟨h3, q3, c⟩
      · cases q
    · split at q <;> cases q
    · cases q
  | ex c es =>
    rw [q] at e
    simp only at e
    split at e <;> cases e
  | no => rw [q] at e; cases e
/-- a call on snapshots, by the call on what they show -/
theorem callT_snap {Φ : FS} {f : Nat} {ds ds' : List D} {d : D} (s : snaps h ds = some ds') (n : ncs ds' = true) (so : d.solid = true) (e : callM true Φ f ds' h = .ok d h) : callM true Φ f ds h = .ok d h := by
  obtain ⟨h2, q, nc⟩ := callT_inv n e
  exact call_snap s q nc so
theorem snap_vec {z n : Nat} {s : Nat → Int} (e : h[z]? = some (.lst (iL (vec n s)))) : snap h (.cell z) = some (vD false n s) := by
  unfold snap
  rw [if_neg (by simp [D.nc]), snapF_cell 5 e, snapF_ints]
  rfl
theorem gt_dvd {a b : Int} (hb : 0 < b) (h : b ∣ a) : ∃ c, a = b * c ∧ a / b = c := by
  obtain ⟨c, rfl⟩ := h
  exact ⟨c, rfl, Int.mul_ediv_cancel_left _ (by omega)⟩
theorem sg_mulr (n : Nat) (a : Int) (g : Nat → Int) : sg n (fun i => g i * a) = sg n g * a := by
  rw [Int.mul_comm, ← sg_mul]
  exact sg_congr fun i _ => Int.mul_comm _ _
theorem maxL_le {l : List Int} {x : Int} (h : x ∈ l) : x ≤ maxL l := by
  cases l with
  | nil => simp at h
  | cons a r => exact (maxL_mem a r).2 x h
theorem cell_lt {z : Nat} {c : Cell} (e : h[z]? = some c) : z < h.length := ws_chk.lt_of_get' e
end Z

end
section
/-! evening two dice: no program -/
namespace Z
/-- a row evened: (q - p) whole a + p A (a + b) -/
def evUp (p q A B : Int) (a b : Nat → Int) : Nat → Int := fun r => (q - p) * (A + B) * a r + p * A * (a r + b r)
def evG (p q A B : Int) (m : Nat) (a b : Nat → Int) : Nat := gcdL (vec m (evUp p q A B a b) ++ vec m (evUp p q B A b a) ++ [q * (A + B)])
def evRes (p q A B : Int) (m : Nat) (f : F2) (i j : Nat) : F2 := fun t r =>
  if t = i then evUp p q A B (f i) (f j) r / (evG p q A B m (f i) (f j) : Nat)
  else if t = j then evUp p q B A (f j) (f i) r / (evG p q A B m (f i) (f j) : Nat)
  else f t r * (q * (A + B) / (evG p q A B m (f i) (f j) : Nat))
theorem gcdF_mul (c : Nat) : ∀ (l : List Int) (d : Nat), gcdF (c * d) (l.map fun x => (c : Int) * x) = c * gcdF d l
  | [], d => rfl
  | a :: l, d => by
    rw [List.map_cons, gcdF_cons, gcdF_cons, Int.natAbs_mul, Int.natAbs_natCast, Nat.gcd_mul_left]
    exact gcdF_mul c l _
theorem gcdL_mul (c : Nat) (l : List Int) : gcdL (l.map fun x => (c : Int) * x) = c * gcdL l := gcdF_mul c l 0
theorem evUp_scale (d g p q A B : Int) (a b : Nat → Int) (r : Nat) : evUp (d * p) (d * q) (g * A) (g * B) a b r = d * g * evUp p q A B a b r := by unfold evUp; grind
theorem vec_mulc (m : Nat) (c : Int) (x : Nat → Int) : (vec m x).map (fun y => c * y) = vec m fun r => c * x r := by simp [vec]
theorem evG_scale (d g : Nat) (p q A B : Int) (m : Nat) (a b : Nat → Int) : evG (d * p) (d * q) (g * A) (g * B) m a b = d * g * evG p q A B m a b := by
  unfold evG
  rw [← gcdL_mul, List.map_append, List.map_append, vec_mulc, vec_mulc]
  have e1 : evUp (d * p) (d * q) (g * A) (g * B) a b = fun r => ((d * g : Nat) : Int) * evUp p q A B a b r := funext fun r => by rw [evUp_scale]; simp
  have e2 : evUp (d * p) (d * q) (g * B) (g * A) b a = fun r => ((d * g : Nat) : Int) * evUp p q B A b a r := funext fun r => by rw [evUp_scale]; simp
  have e3 : (d * q : Int) * (g * A + g * B) = ((d * g : Nat) : Int) * (q * (A + B)) := by simp; grind
  rw [e1, e2, e3]
  rfl
theorem div_scale {c : Nat} (hc : 0 < c) (x : Int) (g : Nat) : ((c : Nat) : Int) * x / ((c * g : Nat) : Int) = x / (g : Nat) := by
  have : ((c * g : Nat) : Int) = (c : Int) * g := by simp
  rw [this, Int.mul_ediv_mul_of_pos _ _ (by omega)]
theorem evRes_scale {d g : Nat} (hd : 0 < d) (hg : 0 < g) (p q A B : Int) (m : Nat) (f : F2) (i j : Nat) : evRes (d * p) (d * q) (g * A) (g * B) m f i j = evRes p q A B m f i j := by
  have dg : 0 < d * g := Nat.mul_pos hd hg
  have c : ((d : Int) * g) = ((d * g : Nat) : Int) := by simp
  have e3 : (d * q : Int) * (g * A + g * B) = ((d * g : Nat) : Int) * (q * (A + B)) := by simp; grind
  funext t r
  unfold evRes
  rw [evG_scale, evUp_scale, evUp_scale, e3, c, div_scale dg, div_scale dg, div_scale dg]
/-- what evening keeps -/
structure Evd (n m : Nat) (f F : F2) (i j : Nat) (p q L : Int) : Prop where
  L0 : 0 < L
  Lq : L ≤ q * (sg m (f i) + sg m (f j))
  oth : ∀ t, t ≠ i → t ≠ j → ∀ r, F t r = f t r * L
  two : ∀ r, r < m → F i r + F j r = L * (f i r + f j r)
  fc : ∀ t, t < n → sg m (F t) = L * sg m (f t)
  nn : ∀ t r, t < n → r < m → 0 ≤ F t r
  pool : ∀ r, r < m → (sg n fun t => F t r) = L * sg n fun t => f t r
  sc : ∀ t, t < n → t ≠ i → t ≠ j → (sg n fun u => lead m (F t) (F u)) = L * L * sg n fun u => lead m (f t) (f u)
  up : q * (sg m (f i) + sg m (f j)) * ((sg n fun u => lead m (F i) (F u)) - L * L * sg n fun u => lead m (f i) (f u)) = -(L * L * (p * (sg m (f j) * (sg n fun u => lead m (f i) (f u)) - sg m (f i) * sg n fun u => lead m (f j) (f u))))
  dn : q * (sg m (f i) + sg m (f j)) * ((sg n fun u => lead m (F j) (F u)) - L * L * sg n fun u => lead m (f j) (f u)) = L * L * (p * (sg m (f j) * (sg n fun u => lead m (f i) (f u)) - sg m (f i) * sg n fun u => lead m (f j) (f u)))
theorem lead_mull (m : Nat) (a : Int) (x y : Nat → Int) : lead m (fun r => a * x r) y = a * lead m x y := by
  have := lead_mul m a 1 x y
  simp only [Int.one_mul, Int.mul_one] at this
  exact this
theorem lead_mulr (m : Nat) (b : Int) (x y : Nat → Int) : lead m x (fun r => b * y r) = b * lead m x y := by
  have := lead_mul m 1 b x y
  simp only [Int.one_mul] at this
  exact this
/-- the lead of an evened row over anything -/
theorem lead_evUp (m : Nat) (p q A B : Int) (a b y : Nat → Int) : lead m (evUp p q A B a b) y = (q - p) * (A + B) * lead m a y + p * A * (lead m a y + lead m b y) := by
  have e : evUp p q A B a b = fun r => (fun r => (q - p) * (A + B) * a r) r + (fun r => p * A * (fun r => a r + b r) r) r := rfl
  rw [e, lead_add, lead_mull m ((q - p) * (A + B)) a, lead_mull m (p * A) (fun r => a r + b r), lead_add]
theorem sg_evUp (m : Nat) (p q A B : Int) (a b : Nat → Int) : sg m (evUp p q A B a b) = (q - p) * (A + B) * sg m a + p * A * (sg m a + sg m b) := by
  unfold evUp
  rw [sg_add, sg_mul, sg_mul, sg_add]
theorem evUp_nn {p q A B : Int} {a b : Nat → Int} {r : Nat} (p0 : 0 ≤ p) (pq : p ≤ q) (hA : 0 ≤ A) (hB : 0 ≤ B) (ha : 0 ≤ a r) (hb : 0 ≤ b r) : 0 ≤ evUp p q A B a b r := by
  unfold evUp
  have h1 := Int.mul_nonneg (Int.mul_nonneg (show 0 ≤ q - p by omega) (show 0 ≤ A + B by omega)) ha
  have h2 := Int.mul_nonneg (Int.mul_nonneg p0 hA) (show 0 ≤ a r + b r by omega)
  omega
theorem evd {n m : Nat} {f : F2} {i j : Nat} {p q : Int} (d : Dice n m f) (hi : i < n) (hj : j < n) (ne : i ≠ j) (p0 : 0 ≤ p) (pq : p ≤ q) (q0 : 0 < q) :
    Evd n m f (evRes p q (sg m (f i)) (sg m (f j)) m f i j) i j p q (q * (sg m (f i) + sg m (f j)) / (evG p q (sg m (f i)) (sg m (f j)) m (f i) (f j) : Nat)) ∧ 0 < evG p q (sg m (f i)) (sg m (f j)) m (f i) (f j) := by
  have A0 := d.ps i hi
  have B0 := d.ps j hj
  have sa : sg m (f i) = sg m (f i) := rfl
  have sb : sg m (f j) = sg m (f j) := rfl
  have T0 : 0 < q * (sg m (f i) + sg m (f j)) := Int.mul_pos q0 (by omega)
  have gp : 0 < evG p q (sg m (f i)) (sg m (f j)) m (f i) (f j) := gcdL_pos (a := q * (sg m (f i) + sg m (f j))) (by simp) (by omega)
  have gT : (evG p q (sg m (f i)) (sg m (f j)) m (f i) (f j) : Int) ∣ q * (sg m (f i) + sg m (f j)) := gcdL_dvd (by simp)
  have gU : ∀ r, r < m → (evG p q (sg m (f i)) (sg m (f j)) m (f i) (f j) : Int) ∣ evUp p q (sg m (f i)) (sg m (f j)) (f i) (f j) r := fun r hr => gcdL_dvd (by simp [vec]; exact .inl ⟨r, hr, rfl⟩)
  have gL : ∀ r, r < m → (evG p q (sg m (f i)) (sg m (f j)) m (f i) (f j) : Int) ∣ evUp p q (sg m (f j)) (sg m (f i)) (f j) (f i) r := fun r hr => gcdL_dvd (by simp [vec]; exact .inr (.inl ⟨r, hr, rfl⟩))
  refine ⟨?_, gp⟩
  have nU : ∀ r, r < m → 0 ≤ evUp p q (sg m (f i)) (sg m (f j)) (f i) (f j) r := fun r hr => evUp_nn p0 pq (Int.le_of_lt A0) (Int.le_of_lt B0) (d.nn i r hi hr) (d.nn j r hj hr)
  have nL : ∀ r, r < m → 0 ≤ evUp p q (sg m (f j)) (sg m (f i)) (f j) (f i) r := fun r hr => evUp_nn p0 pq (Int.le_of_lt B0) (Int.le_of_lt A0) (d.nn j r hj hr) (d.nn i r hi hr)
  have lU := fun y => lead_evUp m p q (sg m (f i)) (sg m (f j)) (f i) (f j) y
  have lL := fun y => lead_evUp m p q (sg m (f j)) (sg m (f i)) (f j) (f i) y
  have tU := sg_evUp m p q (sg m (f i)) (sg m (f j)) (f i) (f j)
  have tL := sg_evUp m p q (sg m (f j)) (sg m (f i)) (f j) (f i)
  have uR : ∀ r, evUp p q (sg m (f i)) (sg m (f j)) (f i) (f j) r + evUp p q (sg m (f j)) (sg m (f i)) (f j) (f i) r = q * (sg m (f i) + sg m (f j)) * (f i r + f j r) := fun r => by unfold evUp; grind
  generalize hF : evRes p q (sg m (f i)) (sg m (f j)) m f i j = F
  have Fi : ∀ r, F i r = evUp p q (sg m (f i)) (sg m (f j)) (f i) (f j) r / (evG p q (sg m (f i)) (sg m (f j)) m (f i) (f j) : Nat) := fun r => by rw [← hF]; simp [evRes]
  have ne' : ¬ j = i := fun z => ne z.symm
  have Fj : ∀ r, F j r = evUp p q (sg m (f j)) (sg m (f i)) (f j) (f i) r / (evG p q (sg m (f i)) (sg m (f j)) m (f i) (f j) : Nat) := fun r => by rw [← hF]; simp [evRes, ne']
  have Ft : ∀ t, t ≠ i → t ≠ j → ∀ r, F t r = f t r * (q * (sg m (f i) + sg m (f j)) / (evG p q (sg m (f i)) (sg m (f j)) m (f i) (f j) : Nat)) := fun t h1 h2 r => by rw [← hF]; simp [evRes, h1, h2]
  generalize evUp p q (sg m (f i)) (sg m (f j)) (f i) (f j) = U at *
  generalize evUp p q (sg m (f j)) (sg m (f i)) (f j) (f i) = Lo at *
  generalize evG p q (sg m (f i)) (sg m (f j)) m (f i) (f j) = G at *
  clear hF
  generalize hA : sg m (f i) = A at *
  generalize hB : sg m (f j) = B at *
  have Gz : (G : Int) ≠ 0 := by omega
  have G0 : (0 : Int) < G := by omega
  have eU : ∀ r, r < m → (G : Int) * F i r = U r := fun r hr => by rw [Fi]; exact Int.mul_ediv_cancel' (gU r hr)
  have eL : ∀ r, r < m → (G : Int) * F j r = Lo r := fun r hr => by rw [Fj]; exact Int.mul_ediv_cancel' (gL r hr)
  obtain ⟨L, hL⟩ : ∃ L, L = q * (A + B) / (G : Int) := ⟨_, rfl⟩
  have eT : (G : Int) * L = q * (A + B) := by rw [hL]; exact Int.mul_ediv_cancel' gT
  rw [← hL] at Ft ⊢
  have L0 : 0 < L := by
    rcases Int.lt_or_le 0 L with z | z
    · exact z
    · have := Int.mul_nonneg (show (0 : Int) ≤ G by omega) (show 0 ≤ -L by omega)
      rw [Int.mul_neg] at this
      omega
  have cn : ∀ {x y : Int}, (G : Int) * x = G * y → x = y := fun h => Int.eq_of_mul_eq_mul_left Gz h
  have sF : ∀ x, (∀ r, r < m → (G : Int) * F i r = x r) → sg m x = G * sg m (F i) := fun x h => by rw [← sg_mul]; exact sg_congr fun r hr => (h r hr).symm
  have two : ∀ r, r < m → F i r + F j r = L * (f i r + f j r) := fun r hr => cn (by
    rw [Int.mul_add, eU r hr, eL r hr, uR, ← Int.mul_assoc, eT])
  have fci : sg m (F i) = L * A := cn (by
    rw [← sg_mul, sg_congr fun r hr => eU r hr, tU, ← Int.mul_assoc, eT]; grind)
  have fcj : sg m (F j) = L * B := cn (by
    rw [← sg_mul, sg_congr fun r hr => eL r hr, tL, ← Int.mul_assoc, eT]; grind)
  have pool : ∀ r, r < m → (sg n fun t => F t r) = L * sg n fun t => f t r := fun r hr => by
    have e : ∀ t, t < n → F t r = L * f t r + ((if i = t then F i r - L * f i r else 0) + (if j = t then F j r - L * f j r else 0)) := fun t _ => by
      by_cases z : t = i
      · subst z
        simp [ne']
        omega
      · have z' : ¬ i = t := fun w => z w.symm
        by_cases z2 : t = j
        · subst z2; simp [z']; omega
        · have z3 : ¬ j = t := fun w => z2 w.symm
          rw [if_neg z', if_neg z3, Ft t z z2 r, Int.mul_comm]
          omega
    rw [sg_congr e, sg_add, sg_add, sg_mul, sg_ite, sg_ite, if_pos hi, if_pos hj]
    have := two r hr
    rw [Int.mul_add] at this
    omega
  have scF : ∀ x, (sg n fun u => lead m x (F u)) = L * sg n fun u => lead m x (f u) := fun x => by
    rw [← lead_pool, ← lead_pool, ← lead_mulr]
    exact lead_congr (fun _ _ => rfl) pool
  have li : ∀ y, (G : Int) * lead m (F i) y = (q - p) * (A + B) * lead m (f i) y + p * A * (lead m (f i) y + lead m (f j) y) := fun y => by
    rw [← lead_mull, ← lU]
    exact lead_congr eU fun _ _ => rfl
  have lj : ∀ y, (G : Int) * lead m (F j) y = (q - p) * (B + A) * lead m (f j) y + p * B * (lead m (f j) y + lead m (f i) y) := fun y => by
    rw [← lead_mull, ← lL]
    exact lead_congr eL fun _ _ => rfl
  have si : (G : Int) * (sg n fun u => lead m (F i) (f u)) = (q - p) * (A + B) * (sg n fun u => lead m (f i) (f u)) + p * A * ((sg n fun u => lead m (f i) (f u)) + sg n fun u => lead m (f j) (f u)) := by
    rw [← lead_pool, li, lead_pool, lead_pool]
  have sj : (G : Int) * (sg n fun u => lead m (F j) (f u)) = (q - p) * (B + A) * (sg n fun u => lead m (f j) (f u)) + p * B * ((sg n fun u => lead m (f j) (f u)) + sg n fun u => lead m (f i) (f u)) := by
    rw [← lead_pool, lj, lead_pool, lead_pool]
  refine ⟨L0, ?_, Ft, two, fun t ht => ?_, fun t r ht hr => ?_, pool, fun t ht h1 h2 => ?_, ?_, ?_⟩
  · rw [hA, hB, ← eT]
    have := Int.mul_le_mul_of_nonneg_right (show (1 : Int) ≤ G by omega) (Int.le_of_lt L0)
    omega
  · by_cases z : t = i
    · subst z; rw [fci, hA]
    · by_cases z2 : t = j
      · subst z2; rw [fcj, hB]
      · rw [sg_congr fun r _ => Ft t z z2 r, sg_mulr, Int.mul_comm]
  · by_cases z : t = i
    · subst z; rw [Fi]; exact Int.ediv_nonneg (nU r hr) (by omega)
    · by_cases z2 : t = j
      · subst z2; rw [Fj]; exact Int.ediv_nonneg (nL r hr) (by omega)
      · rw [Ft t z z2 r]; exact Int.mul_nonneg (d.nn t r ht hr) (Int.le_of_lt L0)
  · rw [scF, Int.mul_assoc]
    congr 1
    rw [← sg_mul]
    refine sg_congr fun u _ => ?_
    rw [← lead_mull]
    exact lead_congr (fun r _ => by rw [Ft t h1 h2 r, Int.mul_comm]) fun _ _ => rfl
  · rw [scF, hA, hB, ← eT]
    generalize (sg n fun u => lead m (F i) (f u)) = X at *
    generalize (sg n fun u => lead m (f i) (f u)) = s at *
    generalize (sg n fun u => lead m (f j) (f u)) = u at *
    have e : (G : Int) * L * (L * X - L * L * s) = L * L * (G * X - G * L * s) := by grind
    rw [e, si, eT]
    grind
  · rw [scF, hA, hB, ← eT]
    generalize (sg n fun u => lead m (F j) (f u)) = X at *
    generalize (sg n fun u => lead m (f i) (f u)) = s at *
    generalize (sg n fun u => lead m (f j) (f u)) = u at *
    have e : (G : Int) * L * (L * X - L * L * u) = L * L * (G * X - G * L * u) := by grind
    rw [e, sj, eT]
    grind
theorem Evd.dice {n m : Nat} {f F : F2} {i j : Nat} {p q L : Int} (d : Dice n m f) (e : Evd n m f F i j p q L) : Dice n m F := ⟨d.n1, d.n8, d.m8, fun t r ht hr => e.nn t r ht hr, fun t ht => by rw [e.fc t ht]; exact Int.mul_pos e.L0 (d.ps t ht)⟩
/-- the same row with the dice turned -/
theorem evRes_swap (p q A B : Int) (m : Nat) (f : F2) {i j : Nat} (ne : i ≠ j) : evRes p q A B m f i j = evRes p q B A m f j i := by
  have g : evG p q A B m (f i) (f j) = evG p q B A m (f j) (f i) := by
    unfold evG
    rw [Int.add_comm B A]
    apply Nat.dvd_antisymm
    · exact gcdL_gr fun a ha => gcdL_dvd (by simp at ha ⊢; rcases ha with h | h | h; exact .inr (.inl h); exact .inl h; exact .inr (.inr h))
    · exact gcdL_gr fun a ha => gcdL_dvd (by simp at ha ⊢; rcases ha with h | h | h; exact .inr (.inl h); exact .inl h; exact .inr (.inr h))
  funext t r
  unfold evRes
  rw [g, Int.add_comm B A]
  by_cases z : t = i
  · have : ¬ t = j := fun w => ne (z.symm.trans w)
    rw [if_pos z, if_neg this, if_pos z]
  · rw [if_neg z]
    by_cases z2 : t = j
    · rw [if_pos z2, if_pos z2]
    · rw [if_neg z2, if_neg z2, if_neg z]
/-- the divisor, found row by row -/
def evCm (p q A B : Int) (a b : Nat → Int) : Nat → Nat
  | 0 => (q * (A + B)).natAbs
  | r + 1 => Nat.gcd (Nat.gcd (evUp p q A B a b r).natAbs (evCm p q A B a b r)) (evUp p q B A b a r).natAbs
theorem evCm_dvd (p q A B : Int) (a b : Nat → Int) : ∀ (m x : Nat), x ∣ evCm p q A B a b m ↔ (x : Int) ∣ q * (A + B) ∧ ∀ r, r < m → (x : Int) ∣ evUp p q A B a b r ∧ (x : Int) ∣ evUp p q B A b a r
  | 0, x => by simp [evCm, Int.ofNat_dvd_left]
  | m + 1, x => by
    show x ∣ Nat.gcd (Nat.gcd _ (evCm p q A B a b m)) _ ↔ _
    rw [Nat.dvd_gcd_iff, Nat.dvd_gcd_iff, evCm_dvd p q A B a b m x, ← Int.ofNat_dvd_left, ← Int.ofNat_dvd_left]
    constructor
    · rintro ⟨⟨h1, h2, h3⟩, h4⟩
      refine ⟨h2, fun r hr => ?_⟩
      by_cases z : r = m
      · subst z; exact ⟨h1, h4⟩
      · exact h3 r (by omega)
    · rintro ⟨h2, h3⟩
      exact ⟨⟨(h3 m (by omega)).1, h2, fun r hr => h3 r (by omega)⟩, (h3 m (by omega)).2⟩
theorem evCm_eq (p q A B : Int) (m : Nat) (a b : Nat → Int) : evCm p q A B a b m = evG p q A B m a b := by
  apply Nat.dvd_antisymm
  · obtain ⟨h1, h2⟩ := (evCm_dvd p q A B a b m _).1 (Nat.dvd_refl _)
    exact gcdL_gr fun x hx => by
      simp [vec] at hx
      rcases hx with ⟨r, hr, rfl⟩ | ⟨r, hr, rfl⟩ | rfl
      · exact (h2 r hr).1
      · exact (h2 r hr).2
      · exact h1
  · exact (evCm_dvd p q A B a b m _).2 ⟨gcdL_dvd (by simp), fun r hr => ⟨gcdL_dvd (by simp [vec]; exact .inl ⟨r, hr, rfl⟩), gcdL_dvd (by simp [vec]; exact .inr (.inl ⟨r, hr, rfl⟩))⟩⟩
/-- the statements of a text behind the first ones -/
def tl : Ss → Nat → Ss
  | s, 0 => s
  | .cons _ s, k + 1 => tl s k
  | .nil, _ + 1 => .nil
def st : Ss → Nat → S
  | .cons s _, 0 => s
  | .cons _ s, k + 1 => st s k
  | .nil, _ => .expr (.con .non)
end Z

end
section
set_option exponentiation.threshold 300
/-! faces of a pool, taken from the top; dice levelled: no program -/
namespace Z
/-- how many of the highest x faces lie at rank r -/
def tp (m : Nat) (P : Nat → Int) (x : Int) (r : Nat) : Int := max 0 (min (x - (sg m P - sg (r + 1) P)) (P r))
/-- the lead of a face at rank r over the pool -/
def mk (m : Nat) (P : Nat → Int) (r : Nat) : Int := sg r P + sg (r + 1) P - sg m P
def topS (m : Nat) (P : Nat → Int) (x : Int) : Int := sg m fun r => tp m P x r * mk m P r
theorem lead_mk (m : Nat) (x P : Nat → Int) : lead m x P = sg m fun r => x r * mk m P r := by
  have key : ∀ k, (sg k fun r => P r * sg r x) = sg k fun r => x r * (sg k P - sg (r + 1) P) := fun k => by
    induction k with
    | zero => rfl
    | succ k ih =>
      rw [sg_succ, ih, sg_succ]
      have e : ∀ r, r < k → x r * (sg (k + 1) P - sg (r + 1) P) = x r * (sg k P - sg (r + 1) P) + P k * x r := fun r _ => by rw [sg_succ k P]; grind
      rw [sg_congr e, sg_add, sg_mul]
      grind
  unfold lead
  rw [sg_sub, key, ← sg_sub]
  exact sg_congr fun r _ => by unfold mk; grind
section
variable {m : Nat} {P : Nat → Int}
theorem tp_zero (nn : ∀ r, r < m → 0 ≤ P r) {r : Nat} (hr : r < m) : tp m P 0 r = 0 := by
  have := sg_mono (r := r + 1) nn (by omega)
  unfold tp
  omega
theorem tp_all (nn : ∀ r, r < m → 0 ≤ P r) {r : Nat} (hr : r < m) : tp m P (sg m P) r = P r := by
  have h1 := sg_nonneg (n := r) (g := P) fun i hi => nn i (by omega)
  have h2 := nn r hr
  have := sg_succ r P
  unfold tp
  omega
theorem tp_mono {x y : Int} (h : x ≤ y) (r : Nat) : tp m P x r ≤ tp m P y r := by unfold tp; omega
theorem tp_sum_to (nn : ∀ r, r < m → 0 ≤ P r) {x : Int} (x1 : x ≤ sg m P) : ∀ k, k ≤ m → sg k (tp m P x) = max 0 (x - (sg m P - sg k P))
  | 0, _ => by rw [sg_zero, sg_zero]; omega
  | k + 1, hk => by
    rw [sg_succ, tp_sum_to nn x1 k (by omega)]
    have := nn k (by omega)
    have := sg_succ k P
    unfold tp
    omega
theorem tp_sum (nn : ∀ r, r < m → 0 ≤ P r) {x : Int} (x0 : 0 ≤ x) (x1 : x ≤ sg m P) : sg m (tp m P x) = x := by
  rw [tp_sum_to nn x1 m (Nat.le_refl m)]; omega
theorem topS_zero (nn : ∀ r, r < m → 0 ≤ P r) : topS m P 0 = 0 := by
  unfold topS
  rw [sg_congr (k := fun _ => 0) fun r hr => by rw [tp_zero nn hr]; simp]
  exact sg_const0 m
/-- the highest faces are at most so far above the pool -/
theorem topS_le (nn : ∀ r, r < m → 0 ≤ P r) {x : Int} (x0 : 0 ≤ x) (x1 : x ≤ sg m P) : topS m P x ≤ x * (sg m P - x) := by
  have e : topS m P x = lead m (tp m P x) P := (lead_mk m _ P).symm
  have pr : ∀ r, r < m → P r = tp m P x r + (P r - tp m P x r) := fun r _ => by omega
  have t0 : ∀ r, r < m → 0 ≤ tp m P x r := fun r _ => by unfold tp; omega
  have t1 : ∀ r, r < m → 0 ≤ P r - tp m P x r := fun r hr => by have := nn r hr; unfold tp; omega
  have s1 : lead m (tp m P x) P = lead m (tp m P x) (tp m P x) + lead m (tp m P x) (fun r => P r - tp m P x r) := by
    rw [lead_anti, lead_anti m (tp m P x) (fun r => P r - tp m P x r), lead_congr (x := P) (x' := fun r => tp m P x r + (P r - tp m P x r)) pr fun _ _ => rfl, lead_add, lead_self]
    omega
  rw [e, s1, lead_self]
  have := (lead_le (m := m) (x := tp m P x) (y := fun r => P r - tp m P x r) t0 t1).2
  rw [sg_sub, tp_sum nn x0 x1] at this
  omega
end
/-! ### dice that take the faces of a pool in order -/
def bfx (R : List Nat) (fa : Nat → Int) (i : Nat) : Int := sS (R.take (R.idxOf i)) fa
def slF (m : Nat) (P fa : Nat → Int) (R : List Nat) : F2 := fun i r => tp m P (bfx R fa i + fa i) r - tp m P (bfx R fa i) r
theorem idx_of {R : List Nat} (nd : R.Nodup) {t i : Nat} (e : R[t]? = some i) : R.idxOf i = t := by
  induction R generalizing t with
  | nil => simp at e
  | cons a R ih =>
    have nd' := List.nodup_cons.1 nd
    cases t with
    | zero => simp at e; subst e; simp
    | succ t =>
      simp at e
      have hm : i ∈ R := List.mem_of_getElem? e
      have ne : a ≠ i := fun z => nd'.1 (z ▸ hm)
      have b : (a == i) = false := by simp [ne]
      rw [List.idxOf_cons, ih nd'.2 e, b]
      rfl
theorem bfx_at {R : List Nat} (nd : R.Nodup) {fa : Nat → Int} {t i : Nat} (e : R[t]? = some i) : bfx R fa i = sS (R.take t) fa := by unfold bfx; rw [idx_of nd e]
theorem take_succ {R : List Nat} {t i : Nat} (e : R[t]? = some i) : R.take (t + 1) = R.take t ++ [i] := by rw [List.take_add_one, e]; rfl
/-- sums along the order -/
theorem sS_tel {R : List Nat} (nd : R.Nodup) {fa g : Nat → Int} {T : Int → Int} (T0 : T 0 = 0) (h : ∀ i ∈ R, g i = T (bfx R fa i + fa i) - T (bfx R fa i)) : ∀ t, t ≤ R.length → sS (R.take t) g = T (sS (R.take t) fa)
  | 0, _ => by simp [sS_nil, T0]
  | t + 1, ht => by
    obtain ⟨i, e⟩ : ∃ i, R[t]? = some i := ⟨_, List.getElem?_eq_getElem (show t < R.length by omega)⟩
    rw [take_succ e, sS_app, sS_app, sS_tel nd T0 h t (by omega), sS_cons, sS_nil, sS_cons, sS_nil, h i (List.mem_of_getElem? e), bfx_at nd e]
    have : sS (R.take t) fa + (fa i + 0) = sS (R.take t) fa + fa i := by omega
    rw [this]
    omega
structure Sl (n m : Nat) (P fa : Nat → Int) (R : List Nat) : Prop where
  n1 : 1 ≤ n
  n8 : n ≤ 8
  m8 : m ≤ 1000
  pm : R.Perm (List.range n)
  nn : ∀ r, r < m → 0 ≤ P r
  fp : ∀ i, i < n → 1 ≤ fa i
  sm : sg m P = sg n fa
namespace Sl
variable {n m : Nat} {P fa : Nat → Int} {R : List Nat}
theorem nd (S : Sl n m P fa R) : R.Nodup := S.pm.nodup_iff.2 List.nodup_range
theorem len (S : Sl n m P fa R) : R.length = n := by rw [S.pm.length_eq, List.length_range]
theorem mem (S : Sl n m P fa R) {i : Nat} : i ∈ R ↔ i < n := by rw [S.pm.mem_iff, List.mem_range]
theorem at_ (S : Sl n m P fa R) {i : Nat} (hi : i < n) : ∃ t, t < n ∧ R[t]? = some i := by
  obtain ⟨t, e⟩ := List.getElem?_of_mem (S.mem.2 hi)
  exact ⟨t, by have := lt_of e; rw [S.len] at this; exact this, e⟩
where
  lt_of {t i : Nat} {R : List Nat} (e : R[t]? = some i) : t < R.length := by
    rcases Nat.lt_or_ge t R.length with z | z
    · exact z
    · rw [List.getElem?_eq_none z] at e; cases e
theorem all (S : Sl n m P fa R) (g : Nat → Int) : sS R g = sg n g := by rw [sS_perm S.pm]; rfl
theorem fm (S : Sl n m P fa R) {i : Nat} (hi : i ∈ R) : 1 ≤ fa i := S.fp i (S.mem.1 hi)
theorem sS_ge (S : Sl n m P fa R) : ∀ (A : List Nat), (∀ x ∈ A, x ∈ R) → 0 ≤ sS A fa
  | [], _ => Int.le_refl _
  | a :: A, h => by
    rw [sS_cons]
    have := S.sS_ge A fun x hx => h x (List.mem_cons_of_mem _ hx)
    have := S.fm (h a List.mem_cons_self)
    omega
theorem sS_le (S : Sl n m P fa R) {A B : List Nat} (e : R = A ++ B) : 0 ≤ sS A fa ∧ sS A fa ≤ sg m P := by
  have h1 := S.sS_ge A fun x hx => by rw [e]; exact List.mem_append_left _ hx
  have h2 := S.sS_ge B fun x hx => by rw [e]; exact List.mem_append_right _ hx
  have h3 := S.all fa
  rw [e, sS_app] at h3
  rw [S.sm]
  omega
theorem bf (S : Sl n m P fa R) {i : Nat} (hi : i < n) : 0 ≤ bfx R fa i ∧ bfx R fa i + fa i ≤ sg m P := by
  obtain ⟨t, ht, e⟩ := S.at_ hi
  rw [bfx_at S.nd e]
  have h1 := S.sS_le (List.take_append_drop t R).symm
  have h2 := S.sS_le (List.take_append_drop (t + 1) R).symm
  rw [take_succ e, sS_app, sS_cons, sS_nil] at h2
  omega
theorem fc (S : Sl n m P fa R) {i : Nat} (hi : i < n) : sg m (slF m P fa R i) = fa i := by
  have b := S.bf hi
  have f := S.fp i hi
  unfold slF
  rw [sg_sub, tp_sum S.nn (by omega) b.2, tp_sum S.nn b.1 (by omega)]
  omega
theorem ge (S : Sl n m P fa R) {i : Nat} (hi : i < n) (r : Nat) : 0 ≤ slF m P fa R i r := by
  have f := S.fp i hi
  have := tp_mono (m := m) (P := P) (show bfx R fa i ≤ bfx R fa i + fa i by omega) r
  unfold slF
  omega
theorem pool (S : Sl n m P fa R) {r : Nat} (hr : r < m) : (sg n fun i => slF m P fa R i r) = P r := by
  have := sS_tel S.nd (fa := fa) (g := fun i => slF m P fa R i r) (T := fun x => tp m P x r) (tp_zero S.nn hr) (fun i _ => rfl) R.length (Nat.le_refl _)
  rw [List.take_length, S.all, S.all, ← S.sm, tp_all S.nn hr] at this
  exact this
theorem dice (S : Sl n m P fa R) : Dice n m (slF m P fa R) := ⟨S.n1, by have := S.n8; omega, S.m8, fun i r hi _ => S.ge hi r, fun i hi => by rw [S.fc hi]; have := S.fp i hi; omega⟩
/-- what they lead the pool by -/
theorem hv (S : Sl n m P fa R) (i : Nat) : lead m (slF m P fa R i) P = topS m P (bfx R fa i + fa i) - topS m P (bfx R fa i) := by
  rw [lead_mk]
  unfold topS
  rw [← sg_sub]
  exact sg_congr fun r _ => by unfold slF; grind
theorem sc (S : Sl n m P fa R) (i : Nat) : (sg n fun u => lead m (slF m P fa R i) (slF m P fa R u)) = lead m (slF m P fa R i) P := by
  rw [← lead_pool]
  exact lead_congr (fun _ _ => rfl) fun r hr => S.pool hr
theorem hvS (S : Sl n m P fa R) {A B : List Nat} (e : R = A ++ B) : (sS A fun i => lead m (slF m P fa R i) P) = topS m P (sS A fa) := by
  have := sS_tel S.nd (fa := fa) (g := fun i => lead m (slF m P fa R i) P) (T := topS m P) (topS_zero S.nn) (fun i _ => S.hv i) A.length (by rw [e]; simp)
  rw [e] at this
  simp only [List.take_left'] at this
  rw [e]
  exact this
end Sl
/-! ### levelling -/
/-- the first die with too little, behind the last one with too much -/
def unl (now due : Nat → Int) : Option Nat → List Nat → Option (Option Nat × Nat)
  | _, [] => none
  | o, i :: R => if now i < due i then some (if due i < now i then some i else o, i) else unl now due (if due i < now i then some i else o) R
theorem unl_none {now due : Nat → Int} : ∀ {R : List Nat} {o : Option Nat}, unl now due o R = none → ∀ i ∈ R, due i ≤ now i
  | [], _, _, i, hi => by simp at hi
  | a :: R, o, e, i, hi => by
    unfold unl at e
    split at e
    · cases e
    · rcases List.mem_cons.1 hi with rfl | hi
      · omega
      · exact unl_none e i hi
theorem unl_some {now due : Nat → Int} : ∀ {R : List Nat} {o o' : Option Nat} {l : Nat}, unl now due o R = some (o', l) → ∃ A C, R = A ++ l :: C ∧ now l < due l ∧ (∀ i ∈ A, due i ≤ now i) ∧ ((o' = o ∧ ∀ i ∈ A, now i = due i) ∨ ∃ A1 A2 g, A = A1 ++ g :: A2 ∧ o' = some g ∧ due g < now g ∧ ∀ i ∈ A2, now i = due i)
  | [], _, _, _, e => by simp [unl] at e
  | a :: R, o, o', l, e => by
    unfold unl at e
    split at e
    · rename_i lt
      rw [if_neg (by omega)] at e
      cases e
      exact ⟨[], R, rfl, lt, fun i hi => by simp at hi, .inl ⟨rfl, fun i hi => by simp at hi⟩⟩
    · rename_i nlt
      obtain ⟨A, C, rfl, h1, h2, h3⟩ := unl_some e
      refine ⟨a :: A, C, rfl, h1, fun i hi => ?_, ?_⟩
      · rcases List.mem_cons.1 hi with rfl | hi
        · omega
        · exact h2 i hi
      · rcases h3 with ⟨h3, h4⟩ | ⟨A1, A2, g, rfl, h4, h5, h6⟩
        · by_cases z : due a < now a
          · rw [if_pos z] at h3
            exact .inr ⟨[], A, a, rfl, h3, z, h4⟩
          · rw [if_neg z] at h3
            exact .inl ⟨h3, fun i hi => by
              rcases List.mem_cons.1 hi with rfl | hi
              · omega
              · exact h4 i hi⟩
        · exact .inr ⟨a :: A1, A2, g, rfl, h4, h5, h6⟩
theorem sS_mono {g k : Nat → Int} : ∀ {A : List Nat}, (∀ i ∈ A, g i ≤ k i) → sS A g ≤ sS A k
  | [], _ => Int.le_refl _
  | a :: A, h => by
    rw [sS_cons, sS_cons]
    have := sS_mono (A := A) fun i hi => h i (List.mem_cons_of_mem _ hi)
    have := h a List.mem_cons_self
    omega
theorem sS_up1_out {g : Nat → Int} {x : Nat} {v : Int} : ∀ {A : List Nat}, x ∉ A → sS A (up1 g x v) = sS A g
  | [], _ => rfl
  | a :: A, h => by
    rw [sS_cons, sS_cons, sS_up1_out (A := A) fun z => h (List.mem_cons_of_mem _ z)]
    have ne : ¬ a = x := fun z => h (by rw [z]; exact List.mem_cons_self)
    simp [up1, ne]
theorem sS_up1 {g : Nat → Int} {x : Nat} {v : Int} : ∀ {A : List Nat}, A.Nodup → x ∈ A → sS A (up1 g x v) = sS A g + v - g x
  | [], _, h => by simp at h
  | a :: A, nd, h => by
    have nd' := List.nodup_cons.1 nd
    rw [sS_cons, sS_cons]
    by_cases z : a = x
    · subst z
      rw [sS_up1_out nd'.1]
      simp [up1]
      omega
    · rcases List.mem_cons.1 h with w | w
      · exact (z w.symm).elim
      · rw [sS_up1 nd'.2 w]
        simp [up1, z]
        omega
theorem Bn.mid {k : Nat} {x y z : Int} (hx : Bn k x) (hy : Bn k y) (h1 : x ≤ z) (h2 : z ≤ y) : Bn k z := by
  unfold Bn at *
  omega
/-- rows on the way -/
structure Lv (n m : Nat) (P fa s : Nat → Int) (R : List Nat) (b : Nat) (now : Nat → Int) (F : F2) (t : Int) : Prop where
  t1 : 1 ≤ t
  fc : ∀ i, i < n → sg m (F i) = t * fa i
  nn : ∀ i r, i < n → r < m → 0 ≤ F i r
  sc : ∀ i, i < n → (sg n fun u => lead m (F i) (F u)) = t * t * now i
  pool : ∀ r, r < m → (sg n fun u => F u r) = t * P r
  dom : ∀ A B, R = A ++ B → sS A s ≤ sS A now
  sum : sS R now = sS R s
  bd : ∀ i, i < n → Bn b (now i)
theorem Lv.dice {n m : Nat} {P fa s now : Nat → Int} {R : List Nat} {b : Nat} {F : F2} {t : Int} (L : Lv n m P fa s R b now F t) (S : Sl n m P fa R) : Dice n m F := ⟨S.n1, by have := S.n8; omega, S.m8, fun i r hi hr => L.nn i r hi hr, fun i hi => by
  rw [L.fc i hi]
  have := S.fp i hi
  have := L.t1
  exact Int.mul_pos (by omega) (by omega)⟩
/-- how many are not level -/
def unc (n : Nat) (now s : Nat → Int) : Int := sg n fun i => if now i = s i then 0 else 1
theorem unc_le (n : Nat) (now s : Nat → Int) : unc n now s ≤ n := by
  have := (sg_abs (m := n) (x := fun i => if now i = s i then 0 else 1) (b := 1) fun r _ => by split <;> omega).2
  unfold unc
  omega
theorem unc_zero {n : Nat} {now s : Nat → Int} (h : unc n now s ≤ 0) : ∀ i, i < n → now i = s i := fun i hi => by
  have := sg_at_le (m := n) (x := fun i => if now i = s i then 0 else 1) (fun r _ => by split <;> omega) hi
  unfold unc at h
  by_cases z : now i = s i
  · exact z
  · rw [if_neg z] at this; omega
/-- levelled: nothing is found -/
theorem Lv.done {n m : Nat} {P fa s now : Nat → Int} {R : List Nat} {b : Nat} {F : F2} {t : Int} (L : Lv n m P fa s R b now F t) (S : Sl n m P fa R) (e : unl now s none R = none) : ∀ i, i < n → now i = s i := fun i hi => by
  have h1 := unl_none e
  have h2 := L.sum
  rw [S.all, S.all] at h2
  have h3 := sg_zero_all (n := n) (g := fun i => s i - now i) (fun i hi => by have := h1 i (S.mem.2 hi); omega) (by rw [sg_sub]; omega) i hi
  omega
/-- one evening -/
theorem Lv.step {n m : Nat} {P fa s now : Nat → Int} {R : List Nat} {b bf : Nat} {F : F2} {t : Int} (L : Lv n m P fa s R b now F t) (S : Sl n m P fa R) (O : Ord n (wrt n fa s) R) (fb : ∀ i, i < n → Bn bf (fa i)) (sb : ∀ i, i < n → Bn b (s i)) {o : Option Nat} {l : Nat} (e : unl now s none R = some (o, l)) :
    ∃ g, o = some g ∧ g < n ∧ l < n ∧ g ≠ l ∧ ∃ mv p q : Int, mv = (if s l - now l < now g - s g then s l - now l else now g - s g) ∧ p = mv * (fa g + fa l) ∧ q = fa l * now g - fa g * now l ∧ 0 ≤ p ∧ p ≤ q ∧ 0 < q ∧ Bn (bf + b + 1) q ∧
      ∃ L2 : Int, Bn (2 * bf + b + 2) L2 ∧ Lv n m P fa s R b (up1 (up1 now g (now g - mv)) l (now l + mv)) (evRes p q (sg m (F g)) (sg m (F l)) m F g l) (t * L2) ∧ unc n (up1 (up1 now g (now g - mv)) l (now l + mv)) s < unc n now s := by
  obtain ⟨A, C, eR, h1, h2, h3⟩ := unl_some e
  have nd := S.nd
  have lR : l ∈ R := by rw [eR]; simp
  have ln := S.mem.1 lR
  rcases h3 with ⟨h3, h4⟩ | ⟨A1, A2, g, eA, h4, h5, h6⟩
  · exfalso
    have d := L.dom (A ++ [l]) C (by rw [eR]; simp)
    rw [sS_app, sS_app, sS_cons, sS_nil, sS_cons, sS_nil] at d
    have := sS_mono (A := A) (g := now) (k := s) fun i hi => by rw [h4 i hi]; exact Int.le_refl _
    omega
  · have gR : g ∈ R := by rw [eR, eA]; simp
    have gn := S.mem.1 gR
    have ndA := nd
    rw [eR] at ndA
    have gA : g ∈ A := by rw [eA]; simp
    have lA : l ∉ A := fun z => (List.nodup_append.1 ndA).2.2 l z l List.mem_cons_self rfl
    have ne : g ≠ l := fun z => lA (z ▸ gA)
    have fg := S.fp g gn
    have fl := S.fp l ln
    -- the order
    have ord : s l * fa g ≤ s g * fa l := by
      have pw := O.pw
      rw [eR] at pw
      have := (List.pairwise_append.1 pw).2.2 g gA l List.mem_cons_self
      have w : wrt n fa s l ≤ wrt n fa s g := by
        rcases this with z | z
        · omega
        · omega
      exact (wrt_le S.fp gn ln).1 w
    obtain ⟨mv, emv⟩ : ∃ mv, mv = (if s l - now l < now g - s g then s l - now l else now g - s g) := ⟨_, rfl⟩
    have mv1 : 0 < mv ∧ mv ≤ s l - now l ∧ mv ≤ now g - s g := by rw [emv]; split <;> omega
    have mvc : mv = s l - now l ∨ mv = now g - s g := by rw [emv]; split <;> omega
    obtain ⟨p, ep⟩ : ∃ p, p = mv * (fa g + fa l) := ⟨_, rfl⟩
    obtain ⟨q, eq⟩ : ∃ q, q = fa l * now g - fa g * now l := ⟨_, rfl⟩
    have p0 : 0 < p := by rw [ep]; exact Int.mul_pos mv1.1 (by omega)
    have pq : p ≤ q := by
      have a1 := Int.mul_le_mul_of_nonneg_left mv1.2.2 (show 0 ≤ fa l by omega)
      have a2 := Int.mul_le_mul_of_nonneg_left mv1.2.1 (show 0 ≤ fa g by omega)
      rw [Int.mul_sub] at a1 a2
      have e1 : fa l * s g = s g * fa l := Int.mul_comm _ _
      have e2 : fa g * s l = s l * fa g := Int.mul_comm _ _
      have e3 : mv * (fa g + fa l) = fa l * mv + fa g * mv := by grind
      rw [ep, eq, e3]
      omega
    have qB : Bn (bf + b + 1) q := by rw [eq]; exact ((fb l ln).mul (L.bd g gn)).sub ((fb g gn).mul (L.bd l ln))
    have dd := L.dice S
    have q0 : 0 < q := by omega
    obtain ⟨E, G0⟩ := evd dd gn ln ne (Int.le_of_lt p0) pq q0
    refine ⟨g, h4, gn, ln, ne, mv, p, q, emv, ep, eq, Int.le_of_lt p0, pq, q0, qB, ?_⟩
    have t1 := L.t1
    -- the multiple
    have sz : q * (sg m (F g) + sg m (F l)) / (evG p q (sg m (F g)) (sg m (F l)) m (F g) (F l) : Nat) ≤ q * (fa g + fa l) := by
      obtain ⟨tn, etn⟩ := Int.eq_ofNat_of_zero_le (show 0 ≤ t by omega)
      have sc := evG_scale 1 tn p q (fa g) (fa l) m (F g) (F l)
      simp only [Int.natCast_one, Int.one_mul, Nat.one_mul] at sc
      rw [L.fc g gn, L.fc l ln, etn, sc]
      have ed : q * ((tn : Int) * fa g + tn * fa l) = tn * (q * (fa g + fa l)) := by grind
      rw [ed, div_scale (by omega)]
      exact Int.ediv_le_self _ (Int.mul_nonneg (Int.le_of_lt q0) (by omega))
    generalize hL2 : q * (sg m (F g) + sg m (F l)) / (evG p q (sg m (F g)) (sg m (F l)) m (F g) (F l) : Nat) = L2 at *
    have L20 := E.L0
    have qfB : Bn (2 * bf + b + 2) (q * (fa g + fa l)) := (qB.mul ((fb g gn).add (fb l ln))).mono (by omega)
    refine ⟨L2, qfB.le (Int.le_of_lt L20) sz, ?_, ?_⟩
    · have eup := E.up
      have edn := E.dn
      have esc := E.sc
      have epl := E.pool
      have efc := E.fc
      have enn := E.nn
      generalize evRes p q (sg m (F g)) (sg m (F l)) m F g l = G at *
      rw [L.fc g gn, L.fc l ln, L.sc g gn, L.sc l ln] at eup edn
      have D : q * (t * fa g + t * fa l) = q * t * (fa g + fa l) := by grind
      have D0 : 0 < q * t * (fa g + fa l) := Int.mul_pos (Int.mul_pos q0 (by omega)) (by omega)
      have Dz : q * t * (fa g + fa l) ≠ 0 := by omega
      rw [D] at eup edn
      have X : p * (t * fa l * (t * t * now g) - t * fa g * (t * t * now l)) = q * t * (fa g + fa l) * (t * t * mv) := by
        rw [ep]
        have : t * fa l * (t * t * now g) - t * fa g * (t * t * now l) = t * t * t * q := by rw [eq]; grind
        rw [this]; grind
      rw [X] at eup edn
      have U : (sg n fun u => lead m (G g) (G u)) = t * L2 * (t * L2) * (now g - mv) := by
        have : q * t * (fa g + fa l) * ((sg n fun u => lead m (G g) (G u)) - L2 * L2 * (t * t * now g)) = q * t * (fa g + fa l) * (-(L2 * L2 * (t * t * mv))) := by rw [eup]; grind
        have := Int.eq_of_mul_eq_mul_left Dz this
        have h : (sg n fun u => lead m (G g) (G u)) = L2 * L2 * (t * t * now g) - L2 * L2 * (t * t * mv) := by omega
        rw [h]; grind
      have V : (sg n fun u => lead m (G l) (G u)) = t * L2 * (t * L2) * (now l + mv) := by
        have : q * t * (fa g + fa l) * ((sg n fun u => lead m (G l) (G u)) - L2 * L2 * (t * t * now l)) = q * t * (fa g + fa l) * (L2 * L2 * (t * t * mv)) := by rw [edn]; grind
        have := Int.eq_of_mul_eq_mul_left Dz this
        have h : (sg n fun u => lead m (G l) (G u)) = L2 * L2 * (t * t * now l) + L2 * L2 * (t * t * mv) := by omega
        rw [h]; grind
      refine ⟨?_, fun i hi => ?_, fun i r hi hr => enn i r hi hr, fun i hi => ?_, fun r hr => ?_, fun A' B' eR' => ?_, ?_, fun i hi => ?_⟩
      · have := Int.mul_pos (show 0 < t by omega) L20
        omega
      · rw [efc i hi, L.fc i hi]; grind
      · by_cases z : i = l
        · subst z
          rw [V]
          simp [up1]
        · by_cases z2 : i = g
          · subst z2
            rw [U]
            simp [up1, z]
          · rw [esc i hi z2 z, L.sc i hi]
            simp [up1, z, z2]
            grind
      · rw [epl r hr, L.pool r hr]; grind
      · have ndA' : A'.Nodup := by
          have := nd
          rw [eR'] at this
          exact (List.nodup_append.1 this).1
        have d := L.dom A' B' eR'
        by_cases gi : g ∈ A'
        · by_cases li : l ∈ A'
          · have e1 : sS A' (up1 (up1 now g (now g - mv)) l (now l + mv)) = sS A' now := by
              rw [sS_up1 ndA' li, sS_up1 ndA' gi]
              simp [up1, ne.symm]
              omega
            rw [e1]; exact d
          · -- between the two
            have e1 : sS A' (up1 (up1 now g (now g - mv)) l (now l + mv)) = sS A' now - mv := by
              rw [sS_up1_out li, sS_up1 ndA' gi]
              omega
            rw [e1]
            -- A' is a first part of A
            obtain ⟨A3, eA3⟩ : ∃ A3, A = A' ++ A3 := by
              have : A' ++ B' = A ++ l :: C := by rw [← eR', ← eR]
              rcases List.append_eq_append_iff.1 this with ⟨as, q1, q2⟩ | ⟨bs, q1, q2⟩
              · exact ⟨as, q1⟩
              · cases bs with
                | nil => exact ⟨[], by simpa using q1.symm⟩
                | cons b bs =>
                  simp at q2
                  exfalso
                  apply li
                  rw [q1, q2.1]
                  simp
            have hle : sS A' (up1 s g (now g)) ≤ sS A' now := sS_mono fun i hi => by
              unfold up1
              split
              · rename_i z; rw [z]; exact Int.le_refl _
              · exact h2 i (by rw [eA3]; exact List.mem_append_left _ hi)
            rw [sS_up1 ndA' gi] at hle
            omega
        · have e1 : sS A' (up1 (up1 now g (now g - mv)) l (now l + mv)) = sS A' now + (if l ∈ A' then mv else 0) := by
            by_cases li : l ∈ A'
            · rw [sS_up1 ndA' li, sS_up1_out gi, if_pos li]
              simp [up1, ne.symm]
              omega
            · rw [sS_up1_out li, sS_up1_out gi, if_neg li]
              omega
          rw [e1]
          split <;> omega
      · rw [← L.sum, sS_up1 nd lR, sS_up1 nd gR]
        simp [up1, ne.symm]
        omega
      · have b1 := L.bd i hi
        have b2 := sb i hi
        unfold up1
        split
        · rename_i z; subst z
          exact b1.mid b2 (by omega) (by omega)
        · split
          · rename_i z; subst z
            exact b2.mid b1 (by omega) (by omega)
          · exact b1
    · unfold unc
      refine sg_lt (fun i hi => ?_) ?_
      · unfold up1
        by_cases z : i = l
        · subst z
          rw [if_pos rfl, if_neg (show ¬ now i = s i by omega)]
          split <;> omega
        · by_cases z2 : i = g
          · subst z2
            rw [if_neg z, if_pos rfl, if_neg (show ¬ now i = s i by omega)]
            split <;> omega
          · rw [if_neg z, if_neg z2]
            exact Int.le_refl _
      · rcases mvc with z | z
        · refine ⟨l, ln, ?_⟩
          simp [up1]
          rw [if_pos (by omega), if_neg (by omega)]
          omega
        · refine ⟨g, gn, ?_⟩
          simp [up1, ne]
          rw [if_pos (by omega), if_neg (by omega)]
          omega
end Z

end
section
/-! tables in cells that are not square -/
namespace Z
structure MxR (h : CH) (z : Nat) (cs : Nat → Nat) (n m : Nat) (f : F2) : Prop where
  top : h[z]? = some (.lst ((List.range n).map fun i => .cell (cs i)))
  row : ∀ i, i < n → h[cs i]? = some (.lst (iL (vec m (f i))))
  inj : ∀ i j, i < n → j < n → cs i = cs j → i = j
  out : ∀ i, i < n → cs i ≠ z
variable {h : CH} {z n m : Nat} {cs : Nat → Nat} {f : F2}
theorem MxR.at_row (M : MxR h z cs n m f) {i : Nat} (hi : i < n) : ixV (.cell z) (.int i) h = .ok (.cell (cs i)) h := ix_ok (ds := (List.range n).map fun i => .cell (cs i)) (by simp only [items, M.top]) (rng_map_get _ hi)
theorem MxR.at_ (M : MxR h z cs n m f) {i j : Nat} (hi : i < n) (hj : j < m) : ixV (.cell (cs i)) (.int j) h = .ok (.int (f i j)) h := cell_vec (M.row i hi) hj
theorem MxR.cg {g : F2} (M : MxR h z cs n m f) (e : ∀ i j, i < n → j < m → f i j = g i j) : MxR h z cs n m g := ⟨M.top, fun i hi => by rw [← vec_congr fun j hj => e i j hi hj]; exact M.row i hi, M.inj, M.out⟩
theorem MxR.stay {h' : CH} (M : MxR h z cs n m f) (e1 : h'[z]? = h[z]?) (e2 : ∀ i, i < n → h'[cs i]? = h[cs i]?) : MxR h' z cs n m f := ⟨e1.trans M.top, fun i hi => (e2 i hi).trans (M.row i hi), M.inj, M.out⟩
theorem MxR.put (M : MxR h z cs n m f) {i j : Nat} (v : Int) (hi : i < n) (hj : j < m) : ∃ h', setV (.cell (cs i)) (.int j) (.int v) h = some h' ∧ MxR h' z cs n m (stF f i j v) ∧ h'.length = h.length ∧ ∀ x, x ≠ cs i → h'[x]? = h[x]? := by
  have lt : cs i < h.length := cell_lt (M.row i hi)
  refine ⟨_, setV_vec (M.row i hi) hj v, ⟨?_, fun a ha => ?_, M.inj, M.out⟩, by simp, fun x hx => List.getElem?_set_ne fun e => hx e.symm⟩
  · rw [List.getElem?_set_ne (M.out i hi)]; exact M.top
  · by_cases e : i = a
    · subst e
      rw [List.getElem?_set_self lt]
      congr 3
      exact vec_congr fun k hk => by simp [up1, stF]
    · rw [List.getElem?_set_ne (fun w => e (M.inj i a hi ha w)), M.row a ha]
      congr 3
      exact vec_congr fun k hk => by
        have : ¬ a = i := fun w => e w.symm
        simp [stF, this]
theorem MxR.snapF (M : MxR h z cs n m f) (k : Nat) : snapF h (k + 3) (.cell z) = some (recD false false n m f) := by
  rw [snapF_cell (k + 2) M.top]
  rw [mapM_map (F := Z.snapF h (k + 2)) (g := fun i => D.cell (cs i)) (G := fun i => W false (iL (rowF m f i))) (List.range n) fun i hi => by
    rw [snapF_cell (k + 1) (M.row i (List.mem_range.1 hi)), snapF_ints]
    rfl]
  rfl
theorem MxR.frz (M : MxR h z cs n m f) : frzD h (.cell z) = some (recD false false n m f, kill (cellsF h 6 (.cell z)) h) := by
  unfold frzD
  rw [if_neg (by simp [D.nc]), M.snapF 3]
  rfl
theorem MxR.new (h : CH) (n m : Nat) (f : F2) : MxR (h ++ (List.range n).map (fun i => Cell.lst (iL (vec m (f i)))) ++ [.lst ((List.range n).map fun i => .cell (h.length + i))]) (h.length + n) (fun i => h.length + i) n m f where
  top := by
    rw [List.getElem?_append_right (by simp)]
    simp
  row := fun i hi => by
    rw [List.getElem?_append_left (by simp; omega), List.getElem?_append_right (by simp)]
    simp [hi]
  inj := fun i j _ _ e => by
    have : h.length + i = h.length + j := e
    omega
  out := fun i hi e => by
    have : h.length + i = h.length + n := e
    omega
theorem zerosV (n : Nat) : (List.replicate n [D.int 0]).flatten = iL (vec n fun _ => 0) := by
  unfold vec
  induction n with
  | zero => rfl
  | succ n ih => rw [List.replicate_succ', List.flatten_append, ih, List.range_succ]; simp
section
variable {Φ : FS} {env : Env} {h : CH}
def revR (m : Bool) (x : D) (h1 : CH) : R D := match lstOf h1 x with
    | some ds => newL m ds.reverse h1
    | none => .no
@[simp] theorem e_rev (m : Bool) (a : E) : evE Φ (.rev m a) env h = (evE Φ a env h).bnd fun x h1 => revR m x h1 := by simp only [evE]; rfl
theorem rev_iN (R : List Nat) (h : CH) : revR false (.lst (iN R)) h = .ok (.lst (iN R.reverse)) h := by
  show newL false (iN R).reverse h = _
  rw [show (iN R).reverse = iN R.reverse from (List.map_reverse).symm]
  rfl
end
/-- the highest faces, whole ranks -/
theorem tp_cut {m : Nat} {P : Nat → Int} (nn : ∀ r, r < m → 0 ≤ P r) {q : Nat} (hq : q ≤ m) {r : Nat} (hr : r < m) : tp m P (sg m P - sg q P) r = if r < q then 0 else P r := by
  have h0 := sg_succ r P
  have h2 := nn r hr
  by_cases z : r < q
  · rw [if_pos z]
    have := sg_mono (m := q) (r := r + 1) (x := P) (fun a ha => nn a (by omega)) (by omega)
    unfold tp; omega
  · rw [if_neg z]
    have := sg_mono (m := r) (r := q) (x := P) (fun a ha => nn a (by omega)) (by omega)
    unfold tp; omega
theorem lead_cut {q : Nat} {P : Nat → Int} : ∀ m, q ≤ m → lead m (fun r => if r < q then 0 else P r) P = (sg m P - sg q P) * sg q P := by
  intro m hq
  have low : ∀ k, k ≤ q → sg k (fun r => if r < q then 0 else P r) = 0 := fun k hk => by
    rw [sg_congr (k := fun _ => 0) fun r hr => if_pos (by omega)]; exact sg_const0 k
  induction m with
  | zero =>
    obtain rfl : q = 0 := by omega
    simp [lead, sg_zero]
  | succ m ih =>
    rcases Nat.lt_or_ge m q with z | z
    · obtain rfl : q = m + 1 := by omega
      have : lead (m + 1) (fun r => if r < m + 1 then 0 else P r) P = 0 := by
        unfold lead
        rw [sg_congr (k := fun _ => 0) fun r hr => by simp [hr, low r (by omega)]]
        exact sg_const0 _
      rw [this]
      simp
    · rw [lead_succ, ih z, if_neg (by omega), sg_succ]
      have e : ∀ k, q ≤ k → sg k (fun r => if r < q then 0 else P r) = sg k P - sg q P := fun k => by
        induction k with
        | zero => intro hk; obtain rfl : q = 0 := by omega
                  simp [sg_zero]
        | succ k ihk =>
          intro hk
          rcases Nat.lt_or_ge k q with w | w
          · obtain rfl : q = k + 1 := by omega
            rw [low _ (Nat.le_refl _)]; omega
          · rw [sg_succ, ihk w, if_neg (by omega), sg_succ]; omega
      rw [e m z]
      grind
theorem topS_cut {m : Nat} {P : Nat → Int} (nn : ∀ r, r < m → 0 ≤ P r) {q : Nat} (hq : q ≤ m) : topS m P (sg m P - sg q P) = (sg m P - sg q P) * sg q P := by
  unfold topS
  rw [← lead_cut m hq, lead_mk]
  exact sg_congr fun r hr => by rw [tp_cut nn hq hr]
end Z

end
section
/-! the top of a pool: greatest, and concave: no program -/
namespace Z
section
variable {m : Nat} {P : Nat → Int}
theorem mk_mono (nn : ∀ r, r < m → 0 ≤ P r) {r q : Nat} (hq : q < m) (h : r ≤ q) : mk m P r ≤ mk m P q := by
  have h1 := sg_mono (m := q) (r := r) (x := P) (fun a ha => nn a (by omega)) h
  have h2 := sg_mono (m := q + 1) (r := r + 1) (x := P) (fun a ha => nn a (by omega)) (by omega)
  unfold mk
  omega
theorem cutq (nn : ∀ r, r < m → 0 ≤ P r) : ∀ k, 1 ≤ k → k ≤ m → ∀ y : Int, 0 ≤ y → y ≤ sg k P → ∃ q, q < k ∧ sg q P ≤ y ∧ y ≤ sg (q + 1) P
  | 0, h, _, _, _, _ => by omega
  | k + 1, _, hk, y, y0, y1 => by
    by_cases z : sg k P ≤ y
    · exact ⟨k, by omega, z, y1⟩
    · rcases Nat.eq_zero_or_pos k with w | w
      · subst w; rw [sg_zero] at z; omega
      · obtain ⟨q, a, b, c⟩ := cutq nn k w (by omega) y y0 (by omega)
        exact ⟨q, by omega, b, c⟩
def CL (m : Nat) (P : Nat → Int) (l : Int) : Int := sg m fun r => P r * max (mk m P r - l) 0
theorem top_weak {y : Nat → Int} (h : ∀ r, r < m → 0 ≤ y r ∧ y r ≤ P r) (l : Int) : (sg m fun r => y r * mk m P r) ≤ l * sg m y + CL m P l := by
  unfold CL
  rw [← sg_mul, ← sg_add]
  refine sg_le fun r hr => ?_
  obtain ⟨h0, h1⟩ := h r hr
  have e : y r * mk m P r = l * y r + y r * (mk m P r - l) := by grind
  rw [e]
  generalize mk m P r - l = u
  rcases Int.le_total u 0 with z | z
  · have := Int.mul_nonneg h0 (show 0 ≤ -u by omega)
    rw [Int.mul_neg] at this
    rw [Int.max_eq_right z]
    omega
  · have := Int.mul_le_mul_of_nonneg_right h1 z
    rw [Int.max_eq_left z]
    omega
theorem tp_le (nn : ∀ r, r < m → 0 ≤ P r) (x : Int) {r : Nat} (hr : r < m) : 0 ≤ tp m P x r ∧ tp m P x r ≤ P r := by
  have := nn r hr
  unfold tp; omega
theorem topS_eq (nn : ∀ r, r < m → 0 ≤ P r) (m1 : 1 ≤ m) {x : Int} (x0 : 0 ≤ x) (x1 : x ≤ sg m P) : ∃ l, topS m P x = l * x + CL m P l := by
  obtain ⟨q, hq, q0, q1⟩ := cutq nn m m1 (Nat.le_refl m) (sg m P - x) (by omega) (by omega)
  refine ⟨mk m P q, ?_⟩
  have e : mk m P q * x = sg m fun r => mk m P q * tp m P x r := by rw [sg_mul, tp_sum nn x0 x1]
  rw [e]
  unfold CL topS
  rw [← sg_add]
  refine sg_congr fun r hr => ?_
  have hr2 := sg_succ r P
  have Pr := nn r hr
  rcases Nat.lt_trichotomy r q with z | z | z
  · have h1 := mk_mono nn hq (Nat.le_of_lt z)
    have h2 := sg_mono (m := q) (r := r + 1) (x := P) (fun a ha => nn a (by omega)) (by omega)
    have t0 : tp m P x r = 0 := by unfold tp; omega
    rw [t0, Int.max_eq_right (by omega)]
    simp
  · subst z
    have : mk m P r - mk m P r = 0 := by omega
    rw [this]
    simp
    exact Int.mul_comm _ _
  · have h1 := mk_mono nn hr (Nat.le_of_lt z)
    have h2 := sg_mono (m := r) (r := q + 1) (x := P) (fun a ha => nn a (by omega)) (by omega)
    have t0 : tp m P x r = P r := by unfold tp; omega
    rw [t0, Int.max_eq_left (by omega)]
    grind
theorem topS_max (nn : ∀ r, r < m → 0 ≤ P r) (m1 : 1 ≤ m) {y : Nat → Int} (h : ∀ r, r < m → 0 ≤ y r ∧ y r ≤ P r) : (sg m fun r => y r * mk m P r) ≤ topS m P (sg m y) := by
  obtain ⟨l, e⟩ := topS_eq nn m1 (x := sg m y) (sg_nonneg fun r hr => (h r hr).1) (sg_le fun r hr => (h r hr).2)
  rw [e]
  exact top_weak h l
theorem topS_conc (nn : ∀ r, r < m → 0 ≤ P r) (m1 : 1 ≤ m) {a x b : Int} (a0 : 0 ≤ a) (ax : a ≤ x) (xb : x ≤ b) (bW : b ≤ sg m P) : (b - x) * topS m P a + (x - a) * topS m P b ≤ (b - a) * topS m P x := by
  obtain ⟨l, e⟩ := topS_eq nn m1 (x := x) (by omega) (by omega)
  have h : ∀ {y : Int}, 0 ≤ y → y ≤ sg m P → topS m P y ≤ l * y + CL m P l := fun {y} y0 y1 => by
    have := top_weak (m := m) (P := P) (y := tp m P y) (fun r hr => tp_le nn y hr) l
    rw [tp_sum nn y0 y1] at this
    exact this
  have h1 := Int.mul_le_mul_of_nonneg_left (h a0 (by omega)) (show 0 ≤ b - x by omega)
  have h2 := Int.mul_le_mul_of_nonneg_left (h (show 0 ≤ b by omega) bW) (show 0 ≤ x - a by omega)
  rw [e]
  have e3 : (b - a) * (l * x + CL m P l) = (b - x) * (l * a + CL m P l) + (x - a) * (l * b + CL m P l) := by grind
  omega
end
/-- no set is told more than the pool lets, if no first dice are -/
theorem top_all {n m : Nat} {P fa s : Nat → Int} {R : List Nat} (S : Sl n m P fa R) (m1 : 1 ≤ m) (O : Ord n (wrt n fa s) R) (H : ∀ A B, R = A ++ B → sS A s ≤ topS m P (sS A fa)) {T : List Nat} (nd : T.Nodup) (lt : ∀ x ∈ T, x < n) : sS T s ≤ topS m P (sS T fa) := by
  have R0 : R ≠ [] := by
    intro z
    have := S.len
    rw [z] at this
    simp at this
    have := S.n1
    omega
  have x0 : 0 ≤ sS T fa := S.sS_ge T fun x hx => S.mem.2 (lt x hx)
  have x1 : sS T fa ≤ sS R fa := by
    rw [S.all, sS_sg nd lt]
    exact sg_le fun i hi => by unfold inS; have := S.fp i hi; split <;> omega
  obtain ⟨A, e, B, eR, h1, h2, h3⟩ := find_cut R0 x0 x1
  rw [eR] at O
  have lin := cut_lin S.fp O nd lt
  have f1 := S.fm (show e ∈ R by rw [eR]; simp)
  have p1 := H A (e :: B) eR
  have p2 := H (A ++ [e]) B (by rw [eR]; simp)
  rw [sS_app, sS_app, sS_cons, sS_nil, sS_cons, sS_nil] at p2
  have b1 := S.sS_le (A := A) (B := e :: B) eR
  have b2 := S.sS_le (A := A ++ [e]) (B := B) (by rw [eR]; simp)
  rw [sS_app, sS_cons, sS_nil] at b2
  have cc := topS_conc S.nn m1 (a := sS A fa) (x := sS T fa) (b := sS A fa + fa e) b1.1 h1 h2 (by omega)
  generalize sS T fa = x at *
  generalize sS A fa = a at *
  have e1 : sS A s + (s e + 0) = sS A s + s e := by omega
  have e2 : a + (fa e + 0) = a + fa e := by omega
  rw [e1, e2] at p2
  have q1 := Int.mul_le_mul_of_nonneg_left p1 (show 0 ≤ a + fa e - x by omega)
  have q2 := Int.mul_le_mul_of_nonneg_left p2 (show 0 ≤ x - a by omega)
  have e3 : (a + fa e - a) = fa e := by omega
  rw [e3] at cc
  have key : fa e * sS T s ≤ fa e * topS m P x := by
    have : (a + fa e - x) * sS A s + (x - a) * (sS A s + s e) = fa e * sS A s + s e * (x - a) := by grind
    have l2 : fa e * (sS T s - sS A s) = fa e * sS T s - fa e * sS A s := Int.mul_sub _ _ _
    omega
  exact Int.le_of_mul_le_mul_left key (by omega)
/-! ### too much -/
def topO (n m : Nat) (P fa s : Nat → Int) (R : List Nat) : Option Nat := fstD n fun i => decide (topS m P (sS (R.take (i + 1)) fa) < sS (R.take (i + 1)) s)
def topD (n m : Nat) (P fa s : Nat → Int) (R : List Nat) : D := match topO n m P fa s R with
  | some i => W true (iN (srtN (R.take (i + 1))))
  | none => .non
theorem nc_top (n m : Nat) (P fa s : Nat → Int) (R : List Nat) : (topD n m P fa s R).nc = true := by unfold topD; split; exact nc_iNW _ _; rfl
theorem pl_top (n m : Nat) (P fa s : Nat → Int) (R : List Nat) : pl 2 (topD n m P fa s R) = true := by unfold topD; split; exact pl_iN true _; rfl
def tooB (n m : Nat) (P fa s : Nat → Int) : Bool := (sets n).any fun S => decide (topS m P (sS S fa) < sS S s)
theorem top_firsts {n m : Nat} {P fa s : Nat → Int} {R : List Nat} (S : Sl n m P fa R) (h : topO n m P fa s R = none) : ∀ A B, R = A ++ B → sS A s ≤ topS m P (sS A fa) := fun A B e => by
  cases A with
  | nil => rw [sS_nil, sS_nil, topS_zero S.nn]; exact Int.le_refl _
  | cons a A =>
    have hl : A.length < n := by
      have := S.len
      rw [e] at this
      simp at this
      omega
    have := of_decide_eq_false (find_none h hl)
    have t : R.take (A.length + 1) = a :: A := by rw [e]; simp
    rw [t] at this
    omega
theorem tooB_iff {n m : Nat} {P fa s : Nat → Int} {R : List Nat} (S : Sl n m P fa R) (m1 : 1 ≤ m) (O : Ord n (wrt n fa s) R) : tooB n m P fa s = (topO n m P fa s R).isSome := by
  cases q : topO n m P fa s R with
  | none =>
    unfold tooB
    show _ = false
    rw [List.any_eq_false]
    intro T hT
    obtain ⟨a, b, _⟩ := sets_in hT
    have := top_all S m1 O (top_firsts S q) (lt_nodup a) b
    simp
    omega
  | some j =>
    obtain ⟨hj, lt⟩ := find_some q
    have lt := of_decide_eq_true lt
    unfold tooB
    show _ = true
    rw [List.any_eq_true]
    have nd : (R.take (j + 1)).Nodup := S.nd.sublist (List.take_sublist _ _)
    have pm := srtN_perm (R.take (j + 1))
    refine ⟨srtN (R.take (j + 1)), in_sets (srtN_lt nd) (fun x hx => S.mem.1 (List.mem_of_mem_take (pm.mem_iff.1 hx))), decide_eq_true ?_⟩
    rw [sS_perm pm, sS_perm pm]
    exact lt
end Z

end
section
/-! seasons: games left, who wins them, who bars: no program -/
namespace Z
/-- a game less -/
def lsF (f : F2) (p : Nat × Nat) : F2 := stF (stF f p.1 p.2 (f p.1 p.2 - 1)) p.2 p.1 (stF f p.1 p.2 (f p.1 p.2 - 1) p.2 p.1 - 1)
/-- the games left -/
def lfF (c : F2) (log : List (Nat × Nat)) : F2 := log.foldl lsF c
/-- the table so far -/
def soF (log : List (Nat × Nat)) : F2 := log.foldl (fun f p => upd2 f p 1) fun _ _ => 0
theorem lfF_snoc (c : F2) (log : List (Nat × Nat)) (p : Nat × Nat) : lfF c (log ++ [p]) = lsF (lfF c log) p := by unfold lfF; rw [List.foldl_append]; rfl
theorem soF_snoc (log : List (Nat × Nat)) (p : Nat × Nat) : soF (log ++ [p]) = upd2 (soF log) p 1 := by unfold soF; rw [List.foldl_append]; rfl
theorem lsF_val {f : F2} {i j : Nat} (ne : i ≠ j) (x y : Nat) : lsF f (i, j) x y = f x y - (if (i = x ∧ j = y) ∨ (j = x ∧ i = y) then 1 else 0) := by
  unfold lsF stF
  simp only
  by_cases h1 : x = j ∧ y = i
  · obtain ⟨rfl, rfl⟩ := h1
    have h2 : ¬ (x = y ∧ y = x) := fun z => ne z.1.symm
    simp [h2]
  · rw [if_neg h1]
    by_cases h2 : x = i ∧ y = j
    · obtain ⟨rfl, rfl⟩ := h2
      simp
    · rw [if_neg h2]
      have h3 : ¬ ((i = x ∧ j = y) ∨ (j = x ∧ i = y)) := by
        rintro (⟨rfl, rfl⟩ | ⟨rfl, rfl⟩)
        · exact h2 ⟨rfl, rfl⟩
        · exact h1 ⟨rfl, rfl⟩
      rw [if_neg h3]
      omega
theorem lsF_bnd {n : Nat} {c : F2} (B : Bnd n c) {i j : Nat} (hi : i < n) (hj : j < n) (ne : i ≠ j) (h0 : 0 < c i j) : Bnd n (lsF c (i, j)) := by
  have sy := B.sym i j hi hj
  refine ⟨fun x y hx hy => ?_, fun x y hx hy => ?_, fun x hx => ?_⟩
  · rw [lsF_val ne]
    have := B.pos x y hx hy
    split
    · rename_i z
      rcases z with ⟨rfl, rfl⟩ | ⟨rfl, rfl⟩ <;> omega
    · omega
  · rw [lsF_val ne, lsF_val ne, B.sym x y hx hy]
    have : ((i = x ∧ j = y) ∨ (j = x ∧ i = y)) ↔ ((i = y ∧ j = x) ∨ (j = y ∧ i = x)) := by
      constructor <;> (rintro (⟨a, b⟩ | ⟨a, b⟩)) <;> simp [a, b]
    simp only [this]
  · rw [lsF_val ne, B.dia x hx]
    have : ¬ ((i = x ∧ j = x) ∨ (j = x ∧ i = x)) := by
      rintro (⟨a, b⟩ | ⟨a, b⟩)
      · exact ne (a.trans b.symm)
      · exact ne (b.trans a.symm)
    rw [if_neg this]
    omega
/-- who wins how many of the games left: the die wins its own -/
structure Wn (n : Nat) (c : F2) (d : Nat) (w : F2) : Prop where
  nn : ∀ i j, i < n → j < n → 0 ≤ w i j
  sum : ∀ i j, i < n → j < n → w i j + w j i = c i j
  die : ∀ j, j < n → w d j = c d j
def wn0 (c : F2) (d : Nat) : F2 := fun i j => if i = d ∨ (j ≠ d ∧ i < j) then c i j else 0
theorem wn0_ok {n : Nat} {c : F2} (B : Bnd n c) {d : Nat} (hd : d < n) : Wn n c d (wn0 c d) := ⟨fun i j hi hj => by
  unfold wn0
  split
  · exact B.pos i j hi hj
  · omega, fun i j hi hj => by
  unfold wn0
  have sy := B.sym i j hi hj
  by_cases e : i = j
  · subst e
    have := B.dia i hi
    split <;> omega
  · by_cases h1 : i = d
    · subst h1
      have e1 : ¬ (j = i ∨ (i ≠ i ∧ j < i)) := by
        rintro (z | z)
        · exact e z.symm
        · exact z.1 rfl
      rw [if_pos (.inl rfl), if_neg e1]; omega
    · by_cases h2 : j = d
      · subst h2
        have e1 : ¬ (i = j ∨ (j ≠ j ∧ i < j)) := by
          rintro (z | z)
          · exact e z
          · exact z.1 rfl
        rw [if_neg e1, if_pos (.inl rfl)]; omega
      · rcases Nat.lt_or_gt_of_ne e with z | z
        · rw [if_pos (.inr ⟨h2, z⟩), if_neg (by rintro (w | w); exact h2 w; omega)]; omega
        · rw [if_neg (by rintro (w | w); exact h1 w; omega), if_pos (.inr ⟨h1, z⟩)]; omega, fun j hj => by unfold wn0; simp⟩
theorem Wn.zero {n : Nat} {c : F2} {d : Nat} {w : F2} (W : Wn n c d w) (hd : d < n) {i : Nat} (hi : i < n) : w i d = 0 := by
  have h1 := W.sum d i hd hi
  have h2 := W.die i hi
  omega
theorem lks_app1 : ∀ (w : List Nat) (a b : Nat), lks (w ++ [a, b]) = lks (w ++ [a]) ++ [(a, b)]
  | [], a, b => rfl
  | [x], a, b => rfl
  | x :: y :: r, a, b => by
    have := lks_app1 (y :: r) a b
    simp only [List.cons_append] at this ⊢
    rw [lks_cons, lks_cons, this]
    rfl
theorem cnt_app (a b : List (Nat × Nat)) (x y : Nat) : cnt (a ++ b) x y = cnt a x y + cnt b x y := by
  unfold cnt
  rw [List.filter_append, List.length_append]
  omega
/-- a way turned round -/
theorem cnt_rev : ∀ (w : List Nat) (x y : Nat), cnt (lks w.reverse) x y = cnt (lks w) y x
  | [], x, y => rfl
  | [a], x, y => rfl
  | a :: b :: r, x, y => by
    have ih := cnt_rev (b :: r) x y
    rw [List.reverse_cons, List.reverse_cons, List.append_assoc]
    rw [List.reverse_cons] at ih
    rw [show ([b] ++ [a] : List Nat) = [b, a] from rfl, lks_app1, cnt_app, ih, lks_cons, cnt_cons, cnt_cons, cnt_nil]
    have : (b = x ∧ a = y) ↔ (a = y ∧ b = x) := And.comm
    simp only [this]
    omega
theorem shift_rev (f : F2) (w : List Nat) (a : Int) : shift f (lks w.reverse) a = shift f (lks w) (-a) := by
  funext x y
  rw [shift_val, shift_val, cnt_rev, cnt_rev, Int.neg_mul, ← Int.mul_neg]
  congr 2
  omega
theorem sg_shift {n : Nat} {f : F2} {w : List Nat} (lt : ∀ x ∈ w, x < n) {a z : Nat} (ha : w.head? = some a) (hz : w.getLast? = some z) (amt : Int) (x : Nat) : sg n (shift f (lks w) amt x) = sg n (f x) + amt * ((if a = x then 1 else 0) - (if z = x then 1 else 0)) := by
  have := row_shift (n := n) amt x (lks w) f fun p hp => ⟨lt _ (lks_mem hp).1, lt _ (lks_mem hp).2⟩
  rw [rowF_sum, rowF_sum, path_c ha hz] at this
  exact this
theorem Wn.push {n : Nat} {c : F2} {d : Nat} {w : F2} (W : Wn n c d w) (hd : d < n) {p : List Nat} (nd : p.Nodup) (lt : ∀ x ∈ p, x < n) (out : d ∉ p) {a : Int} (a0 : 0 ≤ a) (le : ∀ q ∈ lks p, a ≤ w q.1 q.2) : Wn n c d (shift w (lks p.reverse) a) := by
  rw [shift_rev]
  refine ⟨fun x y hx hy => ?_, fun x y hx hy => ?_, fun y hy => ?_⟩
  · rw [shift_val]
    have h0 := W.nn x y hx hy
    by_cases h : (x, y) ∈ lks p
    · obtain ⟨h1, h2⟩ := path_cnt nd h
      have := le _ h
      simp only at this
      rw [h1, h2]
      omega
    · rw [cnt_out h]
      have h3 : 0 ≤ cnt (lks p) y x := by unfold cnt; omega
      have := Int.mul_nonneg a0 h3
      have e : -a * (0 - cnt (lks p) y x) = a * cnt (lks p) y x := by grind
      rw [e]
      omega
  · rw [shift_val, shift_val, ← W.sum x y hx hy]
    grind
  · rw [shift_val]
    have h1 : (d, y) ∉ lks p := fun z => out (lks_mem z).1
    have h2 : (y, d) ∉ lks p := fun z => out (lks_mem z).2
    rw [cnt_out h1, cnt_out h2, W.die y hy]
    simp
/-- the games inside a set -/
def inG (c : F2) (S : List Nat) : Int := sS S fun x => sS S fun y => if x < y then c x y else 0
theorem sS_add (g k : Nat → Int) : ∀ S : List Nat, (sS S fun x => g x + k x) = sS S g + sS S k
  | [] => rfl
  | a :: S => by
    rw [sS_cons, sS_cons, sS_cons, sS_add g k S]
    omega
theorem sS_swap (g : F2) : ∀ S T : List Nat, (sS S fun x => sS T fun y => g x y) = sS T fun y => sS S fun x => g x y
  | [], T => by
    rw [sS_nil]
    induction T with
    | nil => rfl
    | cons a T ih => rw [sS_cons, ← ih, sS_nil]; rfl
  | a :: S, T => by
    rw [sS_cons, sS_swap g S T, ← sS_add]
    congr 1
theorem sS_cg {g k : Nat → Int} : ∀ {S : List Nat}, (∀ x ∈ S, g x = k x) → sS S g = sS S k
  | [], _ => rfl
  | a :: S, h => by rw [sS_cons, sS_cons, h a List.mem_cons_self, sS_cg fun x hx => h x (List.mem_cons_of_mem _ hx)]
/-- the wins inside are the games inside -/
theorem Wn.inside {n : Nat} {c : F2} {d : Nat} {w : F2} (W : Wn n c d w) (B : Bnd n c) {S : List Nat} (lt : ∀ x ∈ S, x < n) : (sS S fun x => sS S fun y => w x y) = inG c S := by
  have e : ∀ x ∈ S, (sS S fun y => w x y) = (sS S fun y => if x < y then w x y else 0) + (sS S fun y => if y < x then w x y else 0) := fun x hx => by
    rw [← sS_add]
    refine sS_cg fun y hy => ?_
    rcases Nat.lt_trichotomy x y with z | z | z
    · rw [if_pos z, if_neg (by omega)]; omega
    · subst z
      have h1 := W.sum x x (lt x hx) (lt x hx)
      have h2 := B.dia x (lt x hx)
      rw [if_neg (by omega)]
      omega
    · rw [if_neg (by omega), if_pos z]; omega
  rw [sS_cg e, sS_add, sS_swap (fun x y => if y < x then w x y else 0), ← sS_add]
  unfold inG
  refine sS_cg fun x hx => ?_
  rw [← sS_add]
  refine sS_cg fun y hy => ?_
  by_cases z : x < y
  · rw [if_pos z, if_pos z, if_pos z]
    exact W.sum x y (lt x hx) (lt y hy)
  · rw [if_neg z, if_neg z, if_neg z]
    omega
theorem sS_le_sg {n : Nat} {g : Nat → Int} (nn : ∀ i, i < n → 0 ≤ g i) {S : List Nat} (nd : S.Nodup) (lt : ∀ x ∈ S, x < n) : sS S g ≤ sg n g := by
  rw [sS_sg nd lt]
  exact sg_le fun i hi => by unfold inS; have := nn i hi; split <;> omega
/-- where each wins no more than its cap, no set has more games inside than caps -/
theorem Wn.free {n : Nat} {c : F2} {d : Nat} {w : F2} (W : Wn n c d w) (B : Bnd n c) {cap : Nat → Int} (h : ∀ i, i < n → i ≠ d → sg n (w i) ≤ cap i) {S : List Nat} (nd : S.Nodup) (lt : ∀ x ∈ S, x < n) (out : d ∉ S) : inG c S ≤ sS S cap := by
  rw [← W.inside B lt]
  refine sS_le_of fun x hx => ?_
  have h1 : (sS S fun y => w x y) ≤ sg n (w x) := sS_le_sg (g := w x) (fun y hy => W.nn x y (lt x hx) hy) nd lt
  have h2 := h x (lt x hx) fun z => out (z ▸ hx)
  omega
where
  sS_le_of {g k : Nat → Int} : ∀ {S : List Nat}, (∀ x ∈ S, g x ≤ k x) → sS S g ≤ sS S k
    | [], _ => Int.le_refl _
    | a :: S, h => by
      rw [sS_cons, sS_cons]
      have := sS_le_of (S := S) fun x hx => h x (List.mem_cons_of_mem _ hx)
      have := h a List.mem_cons_self
      omega
/-- a set that cannot hand on what it wins too much bars -/
theorem Wn.bars {n : Nat} {c : F2} {d : Nat} {w : F2} (W : Wn n c d w) (B : Bnd n c) (hd : d < n) {cap : Nat → Int} {S : List Nat} (nd : S.Nodup) (lt : ∀ x ∈ S, x < n) (out : d ∉ S)
    (shut : ∀ x ∈ S, ∀ y, y < n → y ≠ d → y ∉ S → w x y = 0) (ge : ∀ x ∈ S, cap x ≤ sg n (w x)) (gt : ∃ x ∈ S, cap x < sg n (w x)) : sS S cap < inG c S := by
  rw [← W.inside B lt]
  have e : ∀ x ∈ S, (sS S fun y => w x y) = sg n (w x) := fun x hx => by
    rw [sS_sg nd lt]
    refine sg_congr fun y hy => ?_
    unfold inS
    by_cases h : y ∈ S
    · rw [if_pos h]
    · rw [if_neg h]
      by_cases z : y = d
      · rw [z]; exact (W.zero hd (lt x hx)).symm
      · exact (shut x hx y hy z h).symm
  rw [sS_cg e]
  obtain ⟨x, hx, lx⟩ := gt
  exact sS_lt_of ge ⟨x, hx, lx⟩
where
  sS_lt_of {g k : Nat → Int} : ∀ {S : List Nat}, (∀ x ∈ S, g x ≤ k x) → (∃ x ∈ S, g x < k x) → sS S g < sS S k
    | [], _, ⟨_, h, _⟩ => by simp at h
    | a :: S, h, ⟨x, hx, lx⟩ => by
      rw [sS_cons, sS_cons]
      have h1 := h a List.mem_cons_self
      rcases List.mem_cons.1 hx with rfl | hx
      · have := Wn.free.sS_le_of (S := S) fun x hx => h x (List.mem_cons_of_mem _ hx)
        omega
      · have := sS_lt_of (S := S) (fun x hx => h x (List.mem_cons_of_mem _ hx)) ⟨x, hx, lx⟩
        omega
end Z

end
section
/-! told entries, blocks by tight sets: no program -/
namespace Z
theorem room_eq (n : Nat) (c : F2) (s : Nat → Int) (S : List Nat) : room n c s S = sg n fun i => (sg n fun j => if i ∈ S ∧ j ∉ S then c i j else 0) - (if i ∈ S then s i else 0) := by
  refine sg_congr fun i _ => ?_
  by_cases h : i ∈ S
  · simp only [h, if_true, true_and]
    congr 1
    exact sg_congr fun j _ => by by_cases hj : j ∈ S <;> simp [hj]
  · simp [h, sg_const0]
theorem room_mem {n : Nat} {c : F2} {s : Nat → Int} {S T : List Nat} (e : ∀ x, x < n → (x ∈ S ↔ x ∈ T)) : room n c s S = room n c s T := by
  rw [room_eq, room_eq]
  refine sg_congr fun i hi => ?_
  have e1 : (sg n fun j => if i ∈ S ∧ j ∉ S then c i j else 0) = sg n fun j => if i ∈ T ∧ j ∉ T then c i j else 0 := sg_congr fun j hj => by simp only [e i hi, e j hj]
  rw [e1]
  simp only [e i hi]
/-- what crosses between two sets -/
def crX (S T : List Nat) (c : F2) : F2 := fun i j => if (i ∈ S ∧ i ∉ T ∧ j ∈ T ∧ j ∉ S) ∨ (i ∈ T ∧ i ∉ S ∧ j ∈ S ∧ j ∉ T) then c i j else 0
def capS (S T : List Nat) : List Nat := S.filter fun x => decide (x ∈ T)
theorem mem_capS {S T : List Nat} {x : Nat} : x ∈ capS S T ↔ x ∈ S ∧ x ∈ T := by simp [capS]
theorem room_sum (n : Nat) (c : F2) (s : Nat → Int) (S T : List Nat) : room n c s S + room n c s T = room n c s (capS S T) + room n c s (S ++ T) + sg n fun i => sg n (crX S T c i) := by
  simp only [room_eq]
  rw [← sg_add, ← sg_add, ← sg_add]
  refine sg_congr fun i _ => ?_
  have e : (sg n fun j => if i ∈ S ∧ j ∉ S then c i j else 0) + (sg n fun j => if i ∈ T ∧ j ∉ T then c i j else 0) = (sg n fun j => if i ∈ capS S T ∧ j ∉ capS S T then c i j else 0) + (sg n fun j => if i ∈ S ++ T ∧ j ∉ S ++ T then c i j else 0) + sg n (crX S T c i) := by
    rw [← sg_add, ← sg_add, ← sg_add]
    refine sg_congr fun j _ => ?_
    simp only [mem_capS, List.mem_append, crX]
    by_cases h1 : i ∈ S <;> by_cases h2 : i ∈ T <;> by_cases h3 : j ∈ S <;> by_cases h4 : j ∈ T <;> simp [h1, h2, h3, h4]
  have e2 : (if i ∈ S then s i else 0) + (if i ∈ T then s i else 0) = (if i ∈ capS S T then s i else 0) + (if i ∈ S ++ T then s i else 0) := by
    simp only [mem_capS, List.mem_append]
    by_cases h1 : i ∈ S <;> by_cases h2 : i ∈ T <;> simp [h1, h2]
  omega
theorem sg_two {n : Nat} {g : Nat → Int} (h : ∀ i, i < n → 0 ≤ g i) {a b : Nat} (ha : a < n) (hb : b < n) (ne : a ≠ b) : g a + g b ≤ sg n g := by
  have e := sg_term (n := n) (g := fun i => if i = a then 0 else g i) (fun i hi => by have := h i hi; split <;> omega) hb
  have e2 : sg n g = sg n (fun i => if a = i then g a else 0) + sg n fun i => if i = a then 0 else g i := by
    rw [← sg_add]
    refine sg_congr fun i _ => ?_
    by_cases z : i = a
    · subst z; simp
    · have z' : ¬ a = i := fun w => z w.symm
      simp [z, z']
  rw [sg_ite, if_pos ha] at e2
  have ne' : ¬ b = a := fun z => ne z.symm
  simp only [ne', if_false] at e
  omega
section
variable {n : Nat} {c f : F2} {s : Nat → Int}
theorem crX_nn (B : Bnd n c) (S T : List Nat) : ∀ i, i < n → ∀ j, j < n → 0 ≤ crX S T c i j := fun i hi j hj => by
  have := B.pos i j hi hj
  unfold crX
  split <;> omega
/-- tight sets are nested -/
theorem tight_chain (B : Bnd n c) (cp : ∀ i j, i < n → j < n → i ≠ j → 1 ≤ c i j) (rn : ∀ S, 0 ≤ room n c s S) {S T : List Nat} (hS : room n c s S = 0) (hT : room n c s T = 0) {x y : Nat} (hx : x < n) (hy : y < n) (x1 : x ∈ S) (x2 : x ∉ T) (y1 : y ∈ T) (y2 : y ∉ S) : False := by
  have e := room_sum n c s S T
  have h1 := rn (capS S T)
  have h2 := rn (S ++ T)
  have nn := crX_nn B S T
  have h3 := sg_term (g := crX S T c x) (nn x hx) hy
  have h4 := sg_term (g := fun i => sg n (crX S T c i)) (fun i hi => sg_nonneg (nn i hi)) hx
  have ne : x ≠ y := fun z => x2 (z ▸ y1)
  have := cp x y hx hy ne
  have h5 : crX S T c x y = c x y := by unfold crX; rw [if_pos (.inl ⟨x1, x2, y1, y2⟩)]
  omega
/-- two sets that pinch a pair -/
theorem pinch (B : Bnd n c) (cp : ∀ i j, i < n → j < n → i ≠ j → 1 ≤ c i j) (rn : ∀ S, 0 ≤ room n c s S) {S T : List Nat} {i j : Nat} (hi : i < n) (hj : j < n) (jS : j ∈ S) (iS : i ∉ S) (iT : i ∈ T) (jT : j ∉ T) (e2 : room n c s S + room n c s T ≤ 2 * c i j) :
    room n c s (capS S T) = 0 ∧ room n c s (S ++ T) = 0 ∧ (∀ x, x < n → x ∈ S → x ∉ T → x = j) ∧ ∀ x, x < n → x ∈ T → x ∉ S → x = i := by
  have e := room_sum n c s S T
  have h1 := rn (capS S T)
  have h2 := rn (S ++ T)
  have nn := crX_nn B S T
  have ne : i ≠ j := fun z => iS (z ▸ jS)
  have vij : crX S T c i j = c i j := by unfold crX; rw [if_pos (.inr ⟨iT, iS, jS, jT⟩)]
  have vji : crX S T c j i = c i j := by unfold crX; rw [if_pos (.inl ⟨jS, jT, iT, iS⟩), B.sym j i hj hi]
  have h3 := sg_two (g := fun x => sg n (crX S T c x)) (fun x hx => sg_nonneg (nn x hx)) hi hj ne
  have h4 := sg_term (g := crX S T c i) (nn i hi) hj
  have h5 := sg_term (g := crX S T c j) (nn j hj) hi
  refine ⟨by omega, by omega, fun x hx xS xT => ?_, fun x hx xT xS => ?_⟩
  · by_cases z : x = j
    · exact z
    · exfalso
      have h6 := sg_two (g := crX S T c i) (nn i hi) hj hx (fun w => z w.symm)
      have h7 : crX S T c i x = c i x := by unfold crX; rw [if_pos (.inr ⟨iT, iS, xS, xT⟩)]
      have := cp i x hi hx (fun w => xT (w ▸ iT))
      omega
  · by_cases z : x = i
    · exact z
    · exfalso
      have h6 := sg_two (g := crX S T c j) (nn j hj) hi hx (fun w => z w.symm)
      have h7 : crX S T c j x = c j x := by unfold crX; rw [if_pos (.inl ⟨jS, jT, xT, xS⟩)]
      have := cp j x hj hx (fun w => xS (w ▸ jS))
      omega
theorem gfold_att {i j : Nat} : ∀ (l : List (List Nat)) (a : Int), l.foldl (gstep n c s i j) a = a ∨ ∃ S ∈ l, j ∈ S ∧ i ∉ S ∧ l.foldl (gstep n c s i j) a = room n c s S - c i j
  | [], a => .inl rfl
  | T :: r, a => by
    simp only [List.foldl_cons]
    rcases gfold_att (i := i) (j := j) r (gstep n c s i j a T) with e | ⟨S, h1, h2⟩
    · rw [e]
      unfold gstep
      split
      · rename_i q
        split
        · exact .inr ⟨T, List.mem_cons_self, q.1, q.2, rfl⟩
        · exact .inl rfl
      · exact .inl rfl
    · exact .inr ⟨S, List.mem_cons_of_mem _ h1, h2⟩
theorem grt_att (i j : Nat) : grt n c s i j = c i j ∨ ∃ S ∈ sets n, j ∈ S ∧ i ∉ S ∧ grt n c s i j = room n c s S - c i j := gfold_att (sets n) (c i j)
/-- an entry that cannot move: a tight set parts the pair, or the pair alone is a block -/
theorem grt_gap (B : Bnd n c) (cp : ∀ i j, i < n → j < n → i ≠ j → 1 ≤ c i j) (rn : ∀ S, 0 ≤ room n c s S) {i j : Nat} (hi : i < n) (hj : j < n) (ne : i ≠ j) (e : grt n c s i j + grt n c s j i ≤ 0) :
    (∃ S, (∀ x ∈ S, x < n) ∧ room n c s S = 0 ∧ ((i ∈ S ∧ j ∉ S) ∨ (j ∈ S ∧ i ∉ S))) ∨ ∃ A, (∀ x ∈ A, x < n) ∧ i ∉ A ∧ j ∉ A ∧ room n c s A = 0 ∧ room n c s (i :: j :: A) = 0 := by
  have c1 := cp i j hi hj ne
  have sy := B.sym i j hi hj
  rcases grt_att (n := n) (c := c) (s := s) i j with e1 | ⟨S, hS, jS, iS, e1⟩ <;> rcases grt_att (n := n) (c := c) (s := s) j i with e2 | ⟨T, hT, iT, jT, e2⟩
  · omega
  · refine .inl ⟨T, (sets_in hT).2.1, ?_, .inl ⟨iT, jT⟩⟩
    have := rn T
    omega
  · refine .inl ⟨S, (sets_in hS).2.1, ?_, .inr ⟨jS, iS⟩⟩
    have := rn S
    omega
  · obtain ⟨r1, r2, o1, o2⟩ := pinch B cp rn hi hj jS iS iT jT (by omega)
    refine .inr ⟨capS S T, fun x hx => (sets_in hS).2.1 x (mem_capS.1 hx).1, fun z => iS (mem_capS.1 z).1, fun z => jT (mem_capS.1 z).2, r1, ?_⟩
    rw [← r2]
    refine room_mem fun x hx => ?_
    simp only [List.mem_cons, mem_capS, List.mem_append]
    constructor
    · rintro (rfl | rfl | z)
      · exact .inr iT
      · exact .inl jS
      · exact .inl z.1
    · intro z
      by_cases xS : x ∈ S <;> by_cases xT : x ∈ T
      · exact .inr (.inr ⟨xS, xT⟩)
      · exact .inr (.inl (o1 x hx xS xT))
      · exact .inl (o2 x hx xT xS)
      · exact (z.elim xS xT).elim
/-- blocks: their firsts are the tight sets -/
structure Blq (n : Nat) (c : F2) (s : Nat → Int) (B : List (List Nat)) : Prop where
  pm : B.flatten.Perm (List.range n)
  tg : ∀ k, k ≤ B.length → room n c s (B.take k).flatten = 0
  on : ∀ S, (∀ x ∈ S, x < n) → room n c s S = 0 → ∃ k, k ≤ B.length ∧ ∀ x, x ∈ S ↔ x ∈ (B.take k).flatten
/-- the place of a die's block -/
def pl_ (B : List (List Nat)) (i : Nat) : Nat := B.findIdx fun b => decide (i ∈ b)
def bl_ (B : List (List Nat)) (i : Nat) : List Nat := B[pl_ B i]?.getD []
variable {B : List (List Nat)}
theorem Blq.lt (K : Blq n c s B) {i : Nat} (hi : i < n) : pl_ B i < B.length := by
  have : i ∈ B.flatten := K.pm.mem_iff.2 (List.mem_range.2 hi)
  obtain ⟨b, hb, hib⟩ := List.mem_flatten.1 this
  exact List.findIdx_lt_length.2 ⟨b, hb, decide_eq_true hib⟩
theorem Blq.get (K : Blq n c s B) {i : Nat} (hi : i < n) : B[pl_ B i]? = some (bl_ B i) ∧ i ∈ bl_ B i := by
  have h := K.lt hi
  have e : B[pl_ B i]? = some (B[pl_ B i]) := List.getElem?_eq_getElem h
  have e2 : bl_ B i = B[pl_ B i] := by unfold bl_; rw [e]; rfl
  refine ⟨by rw [e2]; exact e, ?_⟩
  rw [e2]
  have := List.findIdx_getElem (p := fun b : List Nat => decide (i ∈ b)) (xs := B) (w := h)
  exact of_decide_eq_true this
theorem pl_take {i : Nat} (k : Nat) (hk : k ≤ B.length) : i ∈ (B.take k).flatten ↔ pl_ B i < k := by
  rw [List.mem_flatten]
  constructor
  · rintro ⟨b, hb, hib⟩
    obtain ⟨m, hm, e⟩ := List.getElem_of_mem hb
    rw [List.length_take] at hm
    rw [List.getElem_take] at e
    rcases Nat.lt_or_ge (pl_ B i) k with z | z
    · exact z
    · have := List.not_of_lt_findIdx (p := fun b : List Nat => decide (i ∈ b)) (xs := B) (i := m) (show m < pl_ B i by omega)
      rw [e] at this
      exact absurd hib (of_decide_eq_false (by simpa using this))
  · intro h
    have hl : pl_ B i < B.length := by omega
    have := List.findIdx_getElem (p := fun b : List Nat => decide (i ∈ b)) (xs := B) (w := hl)
    refine ⟨B[pl_ B i], List.mem_take_iff_getElem.2 ⟨pl_ B i, by omega, rfl⟩, of_decide_eq_true this⟩
theorem Blq.uniq (K : Blq n c s B) {m i : Nat} {b : List Nat} (e : B[m]? = some b) (hb : i ∈ b) : pl_ B i = m := by
  have hm : m < B.length := by
    rcases Nat.lt_or_ge m B.length with z | z
    · exact z
    · rw [List.getElem?_eq_none z] at e; cases e
  have e' : B[m] = b := by rw [List.getElem?_eq_getElem hm] at e; exact Option.some.inj e
  rcases Nat.lt_trichotomy (pl_ B i) m with z | z | z
  · exfalso
    have nd : B.flatten.Nodup := K.pm.nodup_iff.2 List.nodup_range
    have s1 : B = B.take m ++ (b :: B.drop (m + 1)) := by
      rw [← e', List.getElem_cons_drop, List.take_append_drop]
    rw [s1, List.flatten_append, List.nodup_append] at nd
    exact nd.2.2 i ((pl_take m (by omega)).2 z) i (by simp [hb]) rfl
  · exact z
  · exfalso
    have := List.not_of_lt_findIdx (p := fun b : List Nat => decide (i ∈ b)) (xs := B) (i := m) z
    rw [e'] at this
    exact absurd hb (of_decide_eq_false (by simpa using this))
theorem Blq.mem (K : Blq n c s B) {i x : Nat} (hi : i < n) : x ∈ bl_ B i ↔ x < n ∧ pl_ B x = pl_ B i := by
  obtain ⟨e, _⟩ := K.get hi
  constructor
  · intro h
    refine ⟨List.mem_range.1 (K.pm.mem_iff.1 (List.mem_flatten.2 ⟨_, List.mem_of_getElem? e, h⟩)), K.uniq e h⟩
  · rintro ⟨hx, q⟩
    obtain ⟨e2, m⟩ := K.get hx
    rw [q, e] at e2
    rw [Option.some.inj e2]
    exact m
theorem Blq.ndb (K : Blq n c s B) {i : Nat} (hi : i < n) : (bl_ B i).Nodup := by
  obtain ⟨e, _⟩ := K.get hi
  have nd : B.flatten.Nodup := K.pm.nodup_iff.2 List.nodup_range
  exact List.Sublist.nodup (List.sublist_flatten_of_mem (List.mem_of_getElem? e)) nd
/-- what a block of two tells -/
def dueV (n : Nat) (c : F2) (s : Nat → Int) (B : List (List Nat)) (i : Nat) : Int := s i - sg n fun y => if pl_ B i < pl_ B y then c i y else if pl_ B y < pl_ B i then - c i y else 0
def dueO (n : Nat) (c : F2) (s : Nat → Int) (B : List (List Nat)) (i j : Nat) : Option Int := if pl_ B i = pl_ B j then (if 2 < (bl_ B i).length then none else some (dueV n c s B i)) else some (if pl_ B i < pl_ B j then c i j else - c i j)
/-- across blocks an entry is at its bound -/
theorem Blq.cross (K : Blq n c s B) {q : Int} {g : F2} (F : Flw n (fun i j => q * c i j) g) (hs : ∀ i, i < n → sg n (g i) = q * s i) {i j : Nat} (hi : i < n) (hj : j < n) (h : pl_ B i < pl_ B j) : g i j = q * c i j := by
  have hl := K.lt hj
  have r0 := K.tg (pl_ B i + 1) (by omega)
  have iS : i ∈ (B.take (pl_ B i + 1)).flatten := (pl_take _ (by omega)).2 (by omega)
  have jS : j ∉ (B.take (pl_ B i + 1)).flatten := fun z => by have := (pl_take _ (by omega)).1 z; omega
  generalize (B.take (pl_ B i + 1)).flatten = S at r0 iS jS
  have r1 : room n (fun i j => q * c i j) (fun i => q * s i) S = 0 := by
    have : room n (fun i j => q * c i j) (fun i => q * s i) S = q * room n c s S := by
      unfold room
      rw [← sg_mul]
      refine sg_congr fun x _ => ?_
      by_cases z : x ∈ S
      · simp only [z, if_true]
        rw [Int.mul_sub, ← sg_mul]
        congr 1
        exact sg_congr fun y _ => by split <;> simp
      · simp [z]
    rw [this, r0, Int.mul_zero]
  rw [room_flw F hs S] at r1
  have nn : ∀ x, x < n → ∀ y, y < n → 0 ≤ (if y ∈ S then 0 else q * c x y - g x y) := fun x hx y hy => by
    have := F.le x y hx hy
    split <;> omega
  have t1 := sg_term (g := fun x => if x ∈ S then sg n (fun y => if y ∈ S then 0 else q * c x y - g x y) else 0) (fun x hx => by
    by_cases z : x ∈ S
    · simp only [z, if_true]; exact sg_nonneg (nn x hx)
    · simp [z]) hi
  have t2 := sg_term (g := fun y => if y ∈ S then 0 else q * c i y - g i y) (nn i hi) hj
  simp only [iS, if_true, jS, if_false] at t1 t2
  have := F.le i j hi hj
  omega
/-- what blocks tell holds of every table -/
theorem Blq.forced (Bd : Bnd n c) (K : Blq n c s B) {q : Int} {g : F2} (F : Flw n (fun i j => q * c i j) g) (hs : ∀ i, i < n → sg n (g i) = q * s i) {i j : Nat} (hi : i < n) (hj : j < n) (ne : i ≠ j) {v : Int} (e : dueO n c s B i j = some v) : g i j = q * v := by
  unfold dueO at e
  split at e
  · rename_i pe
    split at e
    · cases e
    · rename_i le2
      have e := Option.some.inj e
      subst e
      have only : ∀ y, y < n → pl_ B y = pl_ B i → y = i ∨ y = j := fun y hy py => by
        have m1 := (K.mem hi).2 ⟨hi, rfl⟩
        have m2 := (K.mem hi).2 ⟨hj, pe.symm⟩
        have m3 := (K.mem hi).2 ⟨hy, py⟩
        rcases Classical.em (y = i ∨ y = j) with z | z
        · exact z
        · exfalso
          have nd : [y, i, j].Nodup := by simp; exact ⟨⟨fun w => z (.inl w), fun w => z (.inr w)⟩, ne⟩
          have := nd.length_le_of_subset (l₂ := bl_ B i) fun x hx => by
            simp only [List.mem_cons, List.not_mem_nil, or_false] at hx
            rcases hx with rfl | rfl | rfl
            · exact m3
            · exact m1
            · exact m2
          simp at this
          omega
      have e1 : sg n (g i) = sg n (fun y => if j = y then g i j else 0) + sg n fun y => q * (if pl_ B i < pl_ B y then c i y else if pl_ B y < pl_ B i then - c i y else 0) := by
        rw [← sg_add]
        refine sg_congr fun y hy => ?_
        by_cases yj : j = y
        · subst yj
          simp [pe]
        · simp only [yj, if_false, Int.zero_add]
          rcases Nat.lt_trichotomy (pl_ B i) (pl_ B y) with z | z | z
          · simp only [z, if_true]
            exact K.cross F hs hi hy z
          · rcases only y hy z.symm with w | w
            · subst w
              have := F.sk y y hy hy
              simp
              omega
            · exact absurd w.symm yj
          · have := K.cross F hs hy hi z
            have sk := F.sk y i hy hi
            have le := F.le i y hi hy
            have le2 := F.le y i hy hi
            have nz : ¬ pl_ B i < pl_ B y := by omega
            simp only [nz, z, if_true, if_false]
            rw [Bd.sym y i hy hi] at this
            rw [Int.mul_neg]
            omega
      rw [sg_ite, if_pos hj, sg_mul, hs i hi] at e1
      unfold dueV
      rw [Int.mul_sub]
      omega
  · rename_i pn
    have e := Option.some.inj e
    subst e
    split
    · rename_i z
      exact K.cross F hs hi hj z
    · rename_i z
      have := K.cross F hs hj hi (by omega)
      have sk := F.sk j i hj hi
      rw [Bd.sym j i hj hi] at this
      rw [Int.mul_neg]
      omega
/-- a pair that its blocks tell nothing of can move -/
theorem Blq.open_ (Bd : Bnd n c) (cp : ∀ i j, i < n → j < n → i ≠ j → 1 ≤ c i j) (rn : ∀ S, 0 ≤ room n c s S) (K : Blq n c s B) {i j : Nat} (hi : i < n) (hj : j < n) (ne : i ≠ j) (e : dueO n c s B i j = none) : ¬ grt n c s i j + grt n c s j i ≤ 0 := fun le => by
  unfold dueO at e
  split at e
  · rename_i pe
    split at e
    · rename_i gt2
      rcases grt_gap Bd cp rn hi hj ne le with ⟨S, hS, r0, o⟩ | ⟨A, hA, iA, jA, r0, r1⟩
      · obtain ⟨k, hk, m⟩ := K.on S hS r0
        rw [m, m, pl_take k hk, pl_take k hk] at o
        omega
      · obtain ⟨k, hk, m⟩ := K.on A hA r0
        obtain ⟨k2, hk2, m2⟩ := K.on (i :: j :: A) (fun x hx => by
          simp only [List.mem_cons] at hx
          rcases hx with rfl | rfl | hx
          · exact hi
          · exact hj
          · exact hA x hx) r1
        have i1 : ¬ pl_ B i < k := fun z => iA ((m i).2 ((pl_take k hk).2 z))
        have i2 : pl_ B i < k2 := (pl_take k2 hk2).1 ((m2 i).1 (by simp))
        have sub : ∀ x ∈ bl_ B i, x ∈ [i, j] := fun x hx => by
          obtain ⟨hx, px⟩ := (K.mem hi).1 hx
          have x2 := (m2 x).2 ((pl_take k2 hk2).2 (by omega))
          simp only [List.mem_cons] at x2
          rcases x2 with rfl | rfl | xA
          · simp
          · simp
          · exact absurd ((pl_take k hk).1 ((m x).1 xA)) (by omega)
        have := (K.ndb hi).length_le_of_subset sub
        simp at this
        omega
    · cases e
  · cases e
end
/-- the blocks of tight sets, size by size -/
def bkC (tl : List (List Nat)) : Nat → List (List Nat) × List Nat
  | 0 => ([], [])
  | j + 1 => match tl.find? fun S => decide (S.length = j + 1) with
    | some S => ((bkC tl j).1 ++ [S.filter fun x => decide (x ∉ (bkC tl j).2)], S)
    | none => bkC tl j
def tgt (n : Nat) (c : F2) (s : Nat → Int) : List (List Nat) := (sets n).filter fun S => decide (room n c s S = 0)
def blkOf (n : Nat) (c : F2) (s : Nat → Int) : List (List Nat) := (bkC (tgt n c s) n).1
theorem mem_tgt {n : Nat} {c : F2} {s : Nat → Int} {S : List Nat} : S ∈ tgt n c s ↔ S ∈ sets n ∧ room n c s S = 0 := by rw [tgt, List.mem_filter, decide_eq_true_iff]
structure BkI (n : Nat) (tl : List (List Nat)) (j : Nat) (p : List (List Nat) × List Nat) : Prop where
  pm : p.1.flatten.Perm p.2
  inn : p.2 ∈ tl
  le : p.2.length ≤ j
  tg : ∀ k, k ≤ p.1.length → ∃ S ∈ tl, (p.1.take k).flatten.Perm S
  on : ∀ S ∈ tl, S.length ≤ j → ∃ k, k ≤ p.1.length ∧ S.Perm (p.1.take k).flatten
  sh : p.1.length ≤ j
theorem BkI.step {n : Nat} {tl : List (List Nat)} (st : ∀ S ∈ tl, S ∈ sets n) (e0 : [] ∈ tl) (ch : ∀ S ∈ tl, ∀ T ∈ tl, S.length ≤ T.length → ∀ x ∈ S, x ∈ T) : ∀ j, BkI n tl j (bkC tl j)
  | 0 => ⟨.nil, e0, Nat.le_refl _, fun k _ => ⟨[], e0, by simp [bkC]⟩, fun S hS h => ⟨0, Nat.le_refl _, by rw [List.length_eq_zero_iff.1 (Nat.le_zero.1 h)]; simp⟩, Nat.le_refl _⟩
  | j + 1 => by
    have I := BkI.step st e0 ch j
    unfold bkC
    generalize bkC tl j = p at I
    split
    · rename_i S hf
      have hS := List.mem_of_find?_eq_some hf
      have hl : S.length = j + 1 := of_decide_eq_true (p := S.length = j + 1) (List.find?_some (p := fun S : List Nat => decide (S.length = j + 1)) hf)
      have sub := ch p.2 I.inn S hS (by have := I.le; omega)
      have nS := lt_nodup (sets_in (st S hS)).1
      have nP := lt_nodup (sets_in (st _ I.inn)).1
      have pm : (p.1.flatten ++ S.filter fun x => decide (x ∉ p.2)).Perm S := by
        refine (List.Perm.append_right _ I.pm).trans (perm_of_mem ?_ nS fun x => ?_)
        · rw [List.nodup_append]
          refine ⟨nP, nS.filter _, fun a ha b hb e => ?_⟩
          subst e
          exact of_decide_eq_true (List.mem_filter.1 hb).2 ha
        · rw [List.mem_append, List.mem_filter, decide_eq_true_iff]
          constructor
          · rintro (z | z)
            · exact sub x z
            · exact z.1
          · intro z
            by_cases w : x ∈ p.2
            · exact .inl w
            · exact .inr ⟨z, w⟩
      refine ⟨by simpa using pm, hS, (by show S.length ≤ j + 1; omega), fun k hk => ?_, fun T hT h => ?_, by have := I.sh; simp; omega⟩
      · rw [List.length_append, List.length_singleton] at hk
        rcases Nat.lt_or_ge k (p.1.length + 1) with z | z
        · rw [List.take_append_of_le_length (by omega)]
          exact I.tg k (by omega)
        · refine ⟨S, hS, ?_⟩
          rw [List.take_of_length_le (by simp; omega)]
          simpa using pm
      · rcases Nat.lt_or_ge T.length (j + 1) with z | z
        · obtain ⟨k, hk, e⟩ := I.on T hT (by omega)
          refine ⟨k, by simp; omega, ?_⟩
          rw [List.take_append_of_le_length hk]
          exact e
        · have hTl : T.length = j + 1 := by omega
          have nT := lt_nodup (sets_in (st T hT)).1
          have q : T.Perm S := perm_of_mem nT nS fun x => ⟨ch T hT S hS (by omega) x, ch S hS T hT (by omega) x⟩
          refine ⟨p.1.length + 1, by simp, ?_⟩
          rw [List.take_of_length_le (by simp)]
          exact q.trans (by simpa using pm.symm)
    · rename_i hf
      refine ⟨I.pm, I.inn, by have := I.le; omega, I.tg, fun T hT h => I.on T hT ?_, by have := I.sh; omega⟩
      have := List.find?_eq_none.1 hf T hT
      simp at this
      omega
section
variable {n : Nat} {c : F2} {s : Nat → Int}
theorem tgt_chain (B : Bnd n c) (cp : ∀ i j, i < n → j < n → i ≠ j → 1 ≤ c i j) (rn : ∀ S, 0 ≤ room n c s S) : ∀ S ∈ tgt n c s, ∀ T ∈ tgt n c s, S.length ≤ T.length → ∀ x ∈ S, x ∈ T := fun S hS T hT hl x hx => by
  obtain ⟨s1, s2⟩ := mem_tgt.1 hS
  obtain ⟨t1, t2⟩ := mem_tgt.1 hT
  rcases Classical.em (x ∈ T) with z | z
  · exact z
  · exfalso
    have lS := (sets_in s1).2.1
    have lT := (sets_in t1).2.1
    have sub : ∀ y ∈ T, y ∈ S := fun y hy => by
      rcases Classical.em (y ∈ S) with w | w
      · exact w
      · exact (tight_chain B cp rn s2 t2 (lS x hx) (lT y hy) hx z hy w).elim
    have nd : (x :: T).Nodup := List.nodup_cons.2 ⟨z, lt_nodup (sets_in t1).1⟩
    have := nd.length_le_of_subset (l₂ := S) fun y hy => by
      rcases List.mem_cons.1 hy with rfl | hy
      · exact hx
      · exact sub y hy
    simp at this
    omega
theorem tgt_I (B : Bnd n c) (cp : ∀ i j, i < n → j < n → i ≠ j → 1 ≤ c i j) (rn : ∀ S, 0 ≤ room n c s S) (j : Nat) : BkI n (tgt n c s) j (bkC (tgt n c s) j) :=
  BkI.step (fun S hS => (mem_tgt.1 hS).1) (mem_tgt.2 ⟨in_sets List.Pairwise.nil (fun x hx => (List.not_mem_nil hx).elim), room_nil n c s⟩) (tgt_chain B cp rn) j
theorem blk_of (B : Bnd n c) (cp : ∀ i j, i < n → j < n → i ≠ j → 1 ≤ c i j) (rn : ∀ S, 0 ≤ room n c s S) (s0 : sg n s = 0) : Blq n c s (blkOf n c s) := by
  have I := tgt_I B cp rn n
  unfold blkOf
  generalize bkC (tgt n c s) n = p at I
  have fullin : List.range n ∈ tgt n c s := by
    refine mem_tgt.2 ⟨in_sets List.pairwise_lt_range fun x hx => List.mem_range.1 hx, ?_⟩
    rw [room_eq]
    have : (sg n fun i => (sg n fun j => if i ∈ List.range n ∧ j ∉ List.range n then c i j else 0) - (if i ∈ List.range n then s i else 0)) = sg n fun i => - s i := by
      refine sg_congr fun i hi => ?_
      have e1 : (sg n fun j => if i ∈ List.range n ∧ j ∉ List.range n then c i j else 0) = sg n fun _ => 0 := sg_congr fun j hj => by simp [hj]
      rw [e1, sg_const0]
      simp [hi]
    rw [this, sg_neg, s0]
    rfl
  have p2 := sets_in (mem_tgt.1 I.inn).1
  refine ⟨?_, fun k hk => ?_, fun S hS r0 => ?_⟩
  · refine I.pm.trans (perm_of_mem (lt_nodup p2.1) List.nodup_range fun x => ⟨fun h => List.mem_range.2 (p2.2.1 x h), fun h => ?_⟩)
    obtain ⟨k, hk, q⟩ := I.on _ fullin (by simp)
    have : x ∈ (p.1.take k).flatten := q.mem_iff.1 h
    refine I.pm.mem_iff.1 ?_
    obtain ⟨b, hb, hx⟩ := List.mem_flatten.1 this
    exact List.mem_flatten.2 ⟨b, List.mem_of_mem_take hb, hx⟩
  · obtain ⟨S, hS, q⟩ := I.tg k hk
    rw [room_mem fun x _ => q.mem_iff]
    exact (mem_tgt.1 hS).2
  · have e : room n c s ((List.range n).filter fun x => decide (x ∈ S)) = 0 := by
      rw [← r0]
      exact room_mem fun x hx => by simp [hx]
    have hin : ((List.range n).filter fun x => decide (x ∈ S)) ∈ tgt n c s := mem_tgt.2 ⟨in_sets (List.pairwise_lt_range.filter _) fun x hx => List.mem_range.1 (List.mem_filter.1 hx).1, e⟩
    obtain ⟨k, hk, q⟩ := I.on _ hin (by
      have := List.length_filter_le (fun x => decide (x ∈ S)) (List.range n)
      simpa using this)
    refine ⟨k, hk, fun x => ?_⟩
    rw [← q.mem_iff, List.mem_filter, decide_eq_true_iff, List.mem_range]
    exact ⟨fun h => ⟨hS x h, h⟩, fun h => h.2⟩
/-- with products the blocks are the parts of the score order -/
theorem bkC_F {fa : Nat → Int} (h : ∀ i, i < n → 1 ≤ fa i) {R : List Nat} (O : Ord n (wrt n fa s) R) (n1 : 1 ≤ n) (H : ∀ A B, R = A ++ B → 0 ≤ rmF n fa s A) : ∀ j, j ≤ n → bkC (tgt n (fcp fa) s) j = ((bkF n fa s R j).1, srtN (R.take (bkF n fa s R j).2))
  | 0, _ => by simp [bkC, bkF, srtN_nil]
  | j + 1, hj => by
    have ih := bkC_F h O n1 H j (by omega)
    have ndT : (R.take (j + 1)).Nodup := O.nd.sublist (List.take_sublist _ _)
    have lT : (R.take (j + 1)).length = j + 1 := by rw [List.length_take, O.len]; omega
    have mt : ∀ S, S ∈ tgt n (fcp fa) s → S ∈ sets n ∧ rmF n fa s S = 0 := fun S hS => by
      obtain ⟨a, b⟩ := mem_tgt.1 hS
      have q := sets_in a
      exact ⟨a, by rw [rmF_room (lt_nodup q.1) q.2.1]; exact b⟩
    have unq : ∀ S ∈ tgt n (fcp fa) s, S.length = j + 1 → S = srtN (R.take (j + 1)) := fun S hS hl => tight_eq h O n1 H (mt S hS).1 (mt S hS).2 hl
    have inT : rmF n fa s (R.take (j + 1)) = 0 → srtN (R.take (j + 1)) ∈ tgt n (fcp fa) s := fun z => by
      have lt : ∀ x ∈ srtN (R.take (j + 1)), x < n := fun x hx => O.lt (List.mem_of_mem_take ((srtN_perm _).mem_iff.1 hx))
      refine mem_tgt.2 ⟨in_sets (srtN_lt ndT) lt, ?_⟩
      rw [← rmF_room (lt_nodup (srtN_lt ndT)) lt, rmF_perm (srtN_perm _)]
      exact z
    unfold bkC bkF
    rw [ih]
    by_cases z : rmF n fa s (R.take (j + 1)) = 0
    · rw [if_pos z]
      have fd : (tgt n (fcp fa) s).find? (fun S => decide (S.length = j + 1)) = some (srtN (R.take (j + 1))) := by
        cases q : (tgt n (fcp fa) s).find? fun S => decide (S.length = j + 1) with
        | none =>
          have := List.find?_eq_none.1 q _ (inT z)
          rw [(srtN_perm _).length_eq, lT] at this
          simp at this
        | some S => rw [unq S (List.mem_of_find?_eq_some q) (of_decide_eq_true (p := S.length = j + 1) (List.find?_some (p := fun S : List Nat => decide (S.length = j + 1)) q))]
      rw [fd]
      simp only
      rw [blk_eq O.nd (Nat.le_trans (bkF_le n fa s R j).1 (Nat.le_succ j))]
    · rw [if_neg z]
      have fd : (tgt n (fcp fa) s).find? (fun S => decide (S.length = j + 1)) = none := by
        rw [List.find?_eq_none]
        intro S hS hl
        have e := unq S hS (of_decide_eq_true hl)
        have := (mt S hS).2
        rw [e, rmF_perm (srtN_perm _)] at this
        exact z this
      rw [fd]
end
end Z
namespace Z
variable {h : CH}
theorem filt_one {n m : Nat} {p : Nat → Bool} (hm : m < n) (h1 : p m = true) (h2 : ∀ x, x < n → p x = true → x = m) : (List.range n).filter p = [m] := by
  refine lt_uniq (List.pairwise_lt_range.filter _) (List.pairwise_singleton _ _) (perm_of_mem (List.nodup_range.filter _) (List.nodup_cons.2 ⟨List.not_mem_nil, List.nodup_nil⟩) fun x => ?_)
  rw [List.mem_filter, List.mem_range, List.mem_singleton]
  exact ⟨fun z => h2 x z.1 z.2, fun e => by subst e; exact ⟨hm, h1⟩⟩
/-- an answer that may be none -/
def oI : Option Int → D
  | none => .non
  | some v => .int v
theorem nc_oI (o : Option Int) : (oI o).nc = true := by cases o <;> rfl
theorem so_oI (o : Option Int) : (oI o).solid = true := by cases o <;> rfl
/-- what is told of a die's pairs, of all pairs -/
def dueI (o : Nat → Nat → Option Int) (i : Nat) (t : Nat) : List D := (List.range t).filterMap fun u => (o i (i + 1 + u)).map fun v => D.tup [.int (i : Nat), .int ((i : Int) + 1 + u), .int v]
def dueP (n : Nat) (o : Nat → Nat → Option Int) (m : Nat) : List D := (List.range m).flatMap fun i => dueI o i (n - (i + 1))
def dueL (n : Nat) (o : Nat → Nat → Option Int) : List D := dueP n o n
theorem dueI_zero (o : Nat → Nat → Option Int) (i : Nat) : dueI o i 0 = [] := rfl
theorem dueI_succ (o : Nat → Nat → Option Int) (i t : Nat) : dueI o i (t + 1) = dueI o i t ++ (match o i (i + 1 + t) with | some v => [D.tup [.int (i : Nat), .int ((i : Int) + 1 + t), .int v]] | none => []) := by
  unfold dueI
  rw [List.range_succ, List.filterMap_append]
  congr 1
  cases q : o i (i + 1 + t) <;> simp [q]
theorem dueP_succ (n : Nat) (o : Nat → Nat → Option Int) (m : Nat) : dueP n o (m + 1) = dueP n o m ++ dueI o m (n - (m + 1)) := by
  unfold dueP
  rw [List.range_succ, List.flatMap_append]
  simp
theorem dueI_len (o : Nat → Nat → Option Int) (i t : Nat) : (dueI o i t).length ≤ t := by
  unfold dueI
  exact Nat.le_trans (List.length_filterMap_le _ _) (by simp)
theorem dueP_len (n : Nat) (o : Nat → Nat → Option Int) : ∀ m, (dueP n o m).length ≤ m * n
  | 0 => by simp [dueP]
  | m + 1 => by
    rw [dueP_succ, List.length_append, Nat.succ_mul]
    have := dueP_len n o m
    have := dueI_len o m (n - (m + 1))
    omega
theorem pls_app : ∀ (n : Nat) (a b : List D), pls n a = true → pls n b = true → pls n (a ++ b) = true
  | _, [], _, _, h2 => h2
  | n, d :: ds, b, h1, h2 => by
    simp only [pls, Bool.and_eq_true, List.cons_append] at h1 ⊢
    exact ⟨h1.1, pls_app n ds b h1.2 h2⟩
theorem pls_dueI (o : Nat → Nat → Option Int) (i : Nat) : ∀ t, pls 2 (dueI o i t) = true
  | 0 => rfl
  | t + 1 => by
    rw [dueI_succ]
    refine pls_app _ _ _ (pls_dueI o i t) ?_
    cases o i (i + 1 + t) <;> rfl
theorem pls_dueP (n : Nat) (o : Nat → Nat → Option Int) : ∀ m, pls 2 (dueP n o m) = true
  | 0 => rfl
  | m + 1 => by
    rw [dueP_succ]
    exact pls_app _ _ _ (pls_dueP n o m) (pls_dueI o _ _)
theorem ncs_app : ∀ (a b : List D), ncs a = true → ncs b = true → ncs (a ++ b) = true
  | [], _, _, h2 => h2
  | d :: ds, b, h1, h2 => by
    simp only [ncs, Bool.and_eq_true, List.cons_append] at h1 ⊢
    exact ⟨h1.1, ncs_app ds b h1.2 h2⟩
theorem nc_dueI (o : Nat → Nat → Option Int) (i : Nat) : ∀ t, ncs (dueI o i t) = true
  | 0 => rfl
  | t + 1 => by
    rw [dueI_succ]
    refine ncs_app _ _ (nc_dueI o i t) ?_
    cases o i (i + 1 + t) <;> rfl
theorem nc_dueP (n : Nat) (o : Nat → Nat → Option Int) : ∀ m, ncs (dueP n o m) = true
  | 0 => rfl
  | m + 1 => by
    rw [dueP_succ]
    exact ncs_app _ _ (nc_dueP n o m) (nc_dueI o _ _)
theorem bk_at {B : List (List Nat)} {m : Nat} {b : List Nat} (e : B[m]? = some b) (w : Bool) (h : CH) : ixV (W w (bkD B)) (.int (m : Nat)) h = .ok (W true (iN b)) h :=
  ix_ok (ds := bkD B) (items_W _ _) (by unfold bkD; rw [List.getElem?_map, e]; rfl)
section
variable {n : Nat} {c : F2} {s : Nat → Int} {B : List (List Nat)}
def dueT (c : F2) (B : List (List Nat)) (i : Nat) : Nat → Int := fun y => if pl_ B i < pl_ B y then c i y else if pl_ B y < pl_ B i then - c i y else 0
theorem Blq.sum (K : Blq n c s B) (t : Nat → Int) : sS B.flatten t = sg n t := by rw [sS_perm K.pm, sS_range]
theorem Blq.sh (K : Blq n c s B) {m : Nat} {b : List Nat} (e : B[m]? = some b) : (∀ x ∈ b, x < n) ∧ b.Nodup ∧ b.length ≤ n := by
  have lt : ∀ x ∈ b, x < n := fun x hx => List.mem_range.1 (K.pm.mem_iff.1 (List.mem_flatten.2 ⟨_, List.mem_of_getElem? e, hx⟩))
  have nd : b.Nodup := List.Sublist.nodup (List.sublist_flatten_of_mem (List.mem_of_getElem? e)) (K.pm.nodup_iff.2 List.nodup_range)
  exact ⟨lt, nd, pigeon n b nd lt⟩
end
end Z
namespace Z
/-- .. as numbers -/
def trI (o : Nat → Nat → Option Int) (i t : Nat) : List (Nat × Nat × Int) := (List.range t).filterMap fun u => (o i (i + 1 + u)).map fun v => (i, i + 1 + u, v)
def trL (n : Nat) (o : Nat → Nat → Option Int) : List (Nat × Nat × Int) := (List.range n).flatMap fun i => trI o i (n - (i + 1))
def trD (p : Nat × Nat × Int) : D := .tup [.int p.1, .int p.2.1, .int p.2.2]
theorem dueI_tr (o : Nat → Nat → Option Int) (i t : Nat) : dueI o i t = (trI o i t).map trD := by
  unfold dueI trI
  rw [List.map_filterMap]
  congr 1
  funext u
  cases o i (i + 1 + u) with
  | none => rfl
  | some v =>
    simp only [Option.map_some, trD]
    congr 3
theorem dueL_tr (n : Nat) (o : Nat → Nat → Option Int) : dueL n o = (trL n o).map trD := by
  unfold dueL dueP trL
  rw [List.map_flatMap]
  congr 1
  funext i
  exact dueI_tr o i _
theorem mem_trL {n : Nat} {o : Nat → Nat → Option Int} {p : Nat × Nat × Int} : p ∈ trL n o ↔ p.1 < p.2.1 ∧ p.2.1 < n ∧ o p.1 p.2.1 = some p.2.2 := by
  unfold trL trI
  rw [List.mem_flatMap]
  constructor
  · rintro ⟨i, hi, h⟩
    rw [List.mem_filterMap] at h
    obtain ⟨u, hu, e⟩ := h
    rw [List.mem_range] at hi hu
    rw [Option.map_eq_some_iff] at e
    obtain ⟨v, e1, rfl⟩ := e
    exact ⟨by simp; omega, by simp; omega, e1⟩
  · rintro ⟨h1, h2, h3⟩
    refine ⟨p.1, List.mem_range.2 (by omega), ?_⟩
    rw [List.mem_filterMap]
    refine ⟨p.2.1 - (p.1 + 1), List.mem_range.2 (by omega), ?_⟩
    have e : p.1 + 1 + (p.2.1 - (p.1 + 1)) = p.2.1 := by omega
    rw [e, h3]
    rfl
theorem nd_trL (n : Nat) (o : Nat → Nat → Option Int) : (trL n o).Nodup := by
  unfold trL List.Nodup
  rw [List.pairwise_flatMap]
  refine ⟨fun i _ => ?_, ?_⟩
  · unfold trI
    refine List.Pairwise.filterMap _ (R := fun a b : Nat => a ≠ b) (fun a b ne x hx y hy e => ?_) List.nodup_range
    rw [Option.map_eq_some_iff] at hx hy
    obtain ⟨v, _, rfl⟩ := hx
    obtain ⟨w, _, rfl⟩ := hy
    have := congrArg (fun p : Nat × Nat × Int => p.2.1) e
    simp at this
    exact ne (by omega)
  · refine List.nodup_range.imp fun {i j} ne x hx y hy e => ?_
    unfold trI at hx hy
    rw [List.mem_filterMap] at hx hy
    obtain ⟨u, _, hx⟩ := hx
    obtain ⟨w, _, hy⟩ := hy
    rw [Option.map_eq_some_iff] at hx hy
    obtain ⟨_, _, rfl⟩ := hx
    obtain ⟨_, _, rfl⟩ := hy
    exact ne (congrArg (fun p : Nat × Nat × Int => p.1) e)
theorem all_one {α : Type} {a : α} : ∀ {l : List α}, l.Nodup → (∀ x ∈ l, x = a) → a ∈ l → l = [a]
  | [], _, _, h => (List.not_mem_nil h).elim
  | x :: r, nd, all, _ => by
    have hx := all x List.mem_cons_self
    subst hx
    cases r with
    | nil => rfl
    | cons y r =>
      have := all y (List.mem_cons_of_mem _ List.mem_cons_self)
      subst this
      exact absurd List.mem_cons_self (List.nodup_cons.1 nd).1
theorem filt_trL {n : Nat} {o : Nat → Nat → Option Int} {i j : Nat} (hij : i < j) (hj : j < n) : (trL n o).filter (fun p => decide (p.1 = i ∧ p.2.1 = j)) = match o i j with | some v => [(i, j, v)] | none => [] := by
  cases q : o i j with
  | none =>
    rw [List.filter_eq_nil_iff]
    intro p hp e
    obtain ⟨e1, e2⟩ := of_decide_eq_true e
    have := (mem_trL.1 hp).2.2
    rw [e1, e2, q] at this
    cases this
  | some v =>
    refine all_one ((nd_trL n o).filter _) (fun p hp => ?_) ?_
    · rw [List.mem_filter, decide_eq_true_iff] at hp
      obtain ⟨hp, e1, e2⟩ := hp
      have := (mem_trL.1 hp).2.2
      rw [e1, e2, q] at this
      rcases p with ⟨a, b, w⟩
      simp at e1 e2 this
      rw [e1, e2, this]
    · rw [List.mem_filter, decide_eq_true_iff]
      exact ⟨mem_trL.2 ⟨hij, hj, q⟩, rfl, rfl⟩
theorem snap_cell {h : CH} {z n : Nat} {ds : List D} (e : h[z]? = some (.lst ds)) (hn : n ≤ 5) (p : pls n ds = true) : snap h (.cell z) = some (.lst ds) := by
  unfold snap
  rw [if_neg (by simp [D.nc]), snapF_cell 5 e, snapsF_pl 5 n ds hn p]
  rfl
end Z

end
section
/-! more walks: a comprehension whose if writes -/
namespace Z
variable {h : CH}
theorem wr_compF {γ : Type} {ck : Ck} {asg : D → Option Env} {test : Env → CH → R Bool} {f : Env → CH → R D} {l : List γ} {g : γ → D} {Q : List D → CH → Prop} (I : Nat → List D → CH → Prop) (i0 : I 0 [] h) (c : ∀ i dn h, i ≤ l.length → I i dn h → ckOk ck h = true)
    (st : ∀ i dn h x, l[i]? = some x → I i dn h → oT (asg (g x)) fun env => WR (test env h) fun b h1 => (b = true → WR (f env h1) fun d h2 => I (i + 1) (dn ++ [d]) h2) ∧ (b = false → I (i + 1) dn h1)) (go : ∀ dn h', I l.length dn h' → Q dn h') : WR (compGo ck asg test f (l.map g) h) Q := by
  have key : ∀ (l' : List γ) (i : Nat) (dn : List D) (h : CH), (∀ j, l'[j]? = l[i + j]?) → i + l'.length = l.length → I i dn h → WR (compGo ck asg test f (l'.map g) h) fun ys h' => I l.length (dn ++ ys) h' := by
    intro l'
    induction l' with
    | nil =>
      intro i dn h _ e hI
      simp at e
      subst e
      unfold compGo
      simp only [List.map_nil]
      rw [if_pos (c _ dn h (Nat.le_refl _) hI), wr_ok, List.append_nil]
      exact hI
    | cons x r ih =>
      intro i dn h e e2 hI
      have hx : l[i]? = some x := by have := e 0; simpa using this.symm
      have er : ∀ j, r[j]? = l[i + 1 + j]? := fun j => by
        have := e (j + 1)
        rw [show i + 1 + j = i + (j + 1) by omega, ← this]
        simp
      have hl : i + 1 + r.length = l.length := by simp at e2; omega
      obtain ⟨env, a, w⟩ := st i dn h x hx hI
      simp only [List.map_cons]
      unfold compGo
      rw [if_pos (c _ dn h (by omega) hI), a]
      simp only [wr_bnd]
      refine wr_mono w fun b h1 hb => ?_
      cases b with
      | true =>
        simp only [wr_bnd]
        refine wr_mono (hb.1 rfl) fun d h2 hd => ?_
        refine wr_mono (ih (i + 1) (dn ++ [d]) h2 er hl hd) fun ys h3 hy => ?_
        simpa using hy
      | false => exact ih (i + 1) dn h1 er hl (hb.2 rfl)
  exact wr_mono (key l 0 [] h (fun j => by rw [Nat.zero_add]) (by simp) i0) fun ys h' hy => go ys h' (by simpa using hy)
end Z

end
section
namespace ZK53
open Z
variable {h : CH} {k : Nat}
theorem r_is_int (i : Int) : run tb (k + 1) 20 [.int i] h = .ok (.bl true) h := by
  rw [u_is_int rfl]
  simp [b_is_int, envOf, isiR, isiAny, isiV, isiD, noIns]
@[simp] theorem c_is_int (i : Int) : callM true (run tb (k + 1)) 20 [.int i] h = .ok (.bl true) h := call_nc rfl (r_is_int i) rfl
theorem r_law_int (i : Int) : run tb (k + 1) 10 [.int i] h = .ok (.bl true) h := by
  rw [u_law_int rfl]
  simp [b_law_int, envOf, isiR, isiAny, isiV, isiD, noIns]
@[simp] theorem c_law_int (i : Int) : callM true (run tb (k + 1)) 10 [.int i] h = .ok (.bl true) h := call_nc rfl (r_law_int i) rfl
theorem r_is_row (b : Bool) (ds : List D) : run tb (k + 1) 19 [W b ds] h = .ok (.bl true) h := by
  rw [u_is_row rfl]
  cases b <;> simp [b_is_row, envOf, isiT, isiR, isiAny, isiV, isiD, noIns, W]
theorem c_is_row (b : Bool) {ds : List D} (e : ncs ds = true) : callM true (run tb (k + 1)) 19 [W b ds] h = .ok (.bl true) h := call_nc (by simp [ncs, nc_W b e]) (r_is_row b ds) rfl
@[simp] theorem c_is_row_tab (a b : Bool) (n : Nat) (f : F2) : callM true (run tb (k + 1)) 19 [tabD a b n f] h = .ok (.bl true) h := c_is_row a (ncs_map (List.range n) fun i => nc_W b (ncs_iL (rowF n f i)))
@[simp] theorem c_is_row_row (b : Bool) (r : List Int) : callM true (run tb (k + 1)) 19 [W b (iL r)] h = .ok (.bl true) h := c_is_row b (ncs_iL r)

end ZK53

end
section
namespace ZK53
open Z
variable {h : CH} {k : Nat}
theorem nin_W {b : Bool} {x : Nat} {c : List Nat} : cmpD .nin (.int x) (W b (iN c)) h = .ok (.bl (!decide (x ∈ c))) h := by
  simp only [cmpD, items_W]
  rw [if_pos (by simp [flatD, iN])]
  unfold iN
  rw [memD_iN]

end ZK53

end
section
namespace ZK53
open Z
variable {h : CH} {k : Nat}
theorem r_room {n : Nat} {a b b' b3 : Bool} {c : F2} {s : Nat → Int} {S : List Nat} (hn : n ≤ 1000) (nd : S.Nodup) (lt : ∀ x ∈ S, x < n) : run tb (k + 1) 9 [tabD a b n c, vD b' n s, W b3 (iN S)] h = .ok (.int (room n c s S)) h := by
  rw [u_law_room rfl]
  apply eq_wr
  rw [room_sS nd lt]
  have i0 : itR (W b3 (iN S)) h = .ok (S.map (fun x : Nat => D.int x), none) h := by rw [itR_of (items_W _ _), ck_W]; rfl
  simp [b_law_room, envOf, s_fr, i0]
  refine ws_for (fun i env h' => env = [some (tabD a b n c), some (vD b' n s), some (W b3 (iN S)), some (.int (sS (S.take i) fun i => (sg n fun j => if j ∈ S then 0 else c i j) - s i)), none, none] ∧ h' = h) ?_ ?_ ?_ ?_
  · exact ⟨rfl, rfl⟩
  · exact fun _ _ _ _ _ => rfl
  · rintro i x env h' hx ⟨rfl, rfl⟩
    have xl := lt x (List.mem_of_getElem? hx)
    simp [s_fr, it_rngN hn]
    generalize hA : (sS (S.take i) fun i => (sg n fun j => if j ∈ S then 0 else c i j) - s i) = A
    refine ws_rngS (fun j => [some (tabD a b n c), some (vD b' n s), some (W b3 (iN S)), some (.int (A + sg j fun j => if j ∈ S then 0 else c x j)), some (.int x), none]) ?_ ?_ (fun j hj => ?_) ?_
    · simp [sg_zero]
    · rfl
    · simp [nin_W, tab_row xl, row_at hj, sg_succ]
      by_cases hm : j ∈ S
      · simp [hm]
      · simp [hm]; omega
    · simp [vec_at xl, take_snoc hx, sS, ← hA]
      omega
  · rintro env h' ⟨rfl, rfl⟩
    simp
@[simp] theorem c_room {n : Nat} {a b b' b3 : Bool} {c : F2} {s : Nat → Int} {S : List Nat} (hn : n ≤ 1000) (nd : S.Nodup) (lt : ∀ x ∈ S, x < n) : callM true (run tb (k + 1)) 9 [tabD a b n c, vD b' n s, W b3 (iN S)] h = .ok (.int (room n c s S)) h :=
  call_nc (ncs_three (nc_tabD _ _ _ _) (nc_vec _ _ _) (nc_iNW _ _)) (r_room hn nd lt) rfl

end ZK53

end
section
namespace ZK53
open Z
variable {h : CH} {k : Nat}
theorem r_check {a b : Bool} {n : Nat} {f : F2} (hn : 1 ≤ n) (hn8 : n ≤ 1000) (sk : Skew n f) : run tb (k + 2) 38 [tabD a b n f] h = .ok (tabD true true n f) h := by
  rw [u_check_table rfl]
  apply eq_wr
  have n0 : ¬ n = 0 := by omega
  have I0 : ∀ h : CH, itD .rng1 [.int (n : Nat)] h = .ok ((List.range n).map (fun i : Nat => D.int i), none) h := fun h => it_rng1 (by omega)
  simp [b_check_table, envOf, s_fr, n0]
  refine ws_chkR (fun _ => True) rfl (fun i hi _ => by simp) fun _ => ?_
  simp [I0]
  refine ws_chkR (fun _ => True) rfl (fun i hi _ => ?_) fun _ => ?_
  · simp [s_fr, I0]
    refine ws_chkR (fun _ => True) rfl (fun j hj _ => ?_) fun _ => ?_
    · simp [tab_row hi, tab_row hj, row_at hi, row_at hj, sk i j hi hj]
    · simp
  · simp [e_comp]
    refine wr_mapR (fun i => tR (rowF n f i)) rfl (fun i hi => by simp [tuple_ok (items_W _ _)]) ?_
    have hz : n ≤ SZ := by unfold SZ; omega
    simp [hz, biD, tabD, W]
@[simp] theorem c_check {a b : Bool} {n : Nat} {f : F2} (hn : 1 ≤ n) (hn8 : n ≤ 1000) (sk : Skew n f) : callM true (run tb (k + 2)) 38 [tabD a b n f] h = .ok (tabD true true n f) h :=
  call_nc (ncs_one (nc_tabD _ _ _ _)) (r_check hn hn8 sk) (nc_tabD _ _ _ _)

end ZK53

end
section
namespace ZK53
open Z
variable {h : CH} {k : Nat}
theorem r_scores_row {b : Bool} {n : Nat} {s : Nat → Int} (hn : 1 ≤ n) (h0 : (vec n s).sum = 0) : run tb (k + 2) 31 [vD b n s] h = .ok (vD true n s) h := by
  rw [u_scores_row rfl]
  apply eq_wr
  have n0 : ¬ n = 0 := by omega
  simp [b_scores_row, envOf, s_fr, n0]
  refine ws_chkR (fun _ => True) rfl (fun i hi _ => by simp) fun _ => ?_
  simp [h0]
@[simp] theorem c_scores_row {b : Bool} {n : Nat} {s : Nat → Int} (hn : 1 ≤ n) (h0 : (vec n s).sum = 0) : callM true (run tb (k + 2)) 31 [vD b n s] h = .ok (vD true n s) h :=
  call_nc (ncs_one (nc_vec _ _ _)) (r_scores_row hn h0) (nc_vec _ _ _)

end ZK53

end
section
namespace ZK53
open Z
variable {h : CH} {k : Nat}
theorem r_check_bounds {a b : Bool} {n : Nat} {c : F2} (hn : 1 ≤ n) (hn8 : n ≤ 1000) (B : Bnd n c) : run tb (k + 2) 7 [tabD a b n c] h = .ok (tabD true true n c) h := by
  rw [u_check_bounds rfl]
  apply eq_wr
  have n0 : ¬ n = 0 := by omega
  have I0 : ∀ h : CH, itD .rng1 [.int (n : Nat)] h = .ok ((List.range n).map (fun i : Nat => D.int i), none) h := fun h => it_rng1 (by omega)
  simp [b_check_bounds, envOf, s_fr, n0]
  refine ws_chkR (fun _ => True) rfl (fun i hi _ => by simp) fun _ => ?_
  simp [I0]
  refine ws_chkR (fun _ => True) rfl (fun i hi _ => ?_) fun _ => ?_
  · simp [s_fr, I0]
    refine ws_chkR (fun _ => True) rfl (fun j hj _ => ?_) fun _ => ?_
    · have p := B.pos i j hi hj
      have p' : ¬ c i j < 0 := by omega
      simp [tab_row hi, tab_row hj, row_at hi, row_at hj, B.sym j i hj hi, p']
      by_cases e : (i : Int) = j
      · have e' : i = j := by omega
        subst e'
        simp [B.dia i hi]
      · simp [e]
    · simp
  · simp [e_comp]
    refine wr_mapR (fun i => tR (rowF n c i)) rfl (fun i hi => by simp [tuple_ok (items_W _ _)]) ?_
    have hz : n ≤ SZ := by unfold SZ; omega
    simp [hz, biD, tabD, W]
@[simp] theorem c_check_bounds {a b : Bool} {n : Nat} {c : F2} (hn : 1 ≤ n) (hn8 : n ≤ 1000) (B : Bnd n c) : callM true (run tb (k + 2)) 7 [tabD a b n c] h = .ok (tabD true true n c) h :=
  call_nc (ncs_one (nc_tabD _ _ _ _)) (r_check_bounds hn hn8 B) (nc_tabD _ _ _ _)

end ZK53

end
section
namespace ZK53
open Z
variable {h : CH} {k : Nat}
theorem r_bounds_and_scores {a b b' : Bool} {n : Nat} {c : F2} {s : Nat → Int} (hn : 1 ≤ n) (hn8 : n ≤ 1000) (B : Bnd n c) (h0 : (vec n s).sum = 0) : run tb (k + 3) 21 [tabD a b n c, vD b' n s] h = .ok (.tup [tabD true true n c, vD true n s]) h := by
  rw [u_bounds_and_scores rfl]
  apply eq_wr
  simp [b_bounds_and_scores, envOf, c_check_bounds hn hn8 B, c_scores_row hn h0]
@[simp] theorem c_bounds_and_scores {a b b' : Bool} {n : Nat} {c : F2} {s : Nat → Int} (hn : 1 ≤ n) (hn8 : n ≤ 1000) (B : Bnd n c) (h0 : (vec n s).sum = 0) : callM true (run tb (k + 3)) 21 [tabD a b n c, vD b' n s] h = .ok (.tup [tabD true true n c, vD true n s]) h :=
  call_nc (ncs_two (nc_tabD _ _ _ _) (nc_vec _ _ _)) (r_bounds_and_scores hn hn8 B h0) (by simp [D.nc, ncs])
theorem r_uneven_die {n : Nat} {c : F2} {s : Nat → Int} : run tb (k + 1) 24 [tabD true true n c, vD true n s] h = .ok (oD (fstD n (odB n c s))) h := by
  rw [u_uneven_die rfl]
  apply eq_wr
  simp [b_uneven_die, envOf, s_fr, it_enumT]
  refine ws_chkR (fun i => odB n c s i = false) rfl (fun i hi hj => ?_) fun hj => ?_
  · simp [vec_at hi, mod2]
    by_cases e : (s i + (rowF n c i).sum) % 2 = 1
    · simp [e]
      rw [find_some_of hi (by simp [odB, e]) hj]
      rfl
    · simp [e, odB]
  · simp
    rw [find_none_of hj]
    rfl
@[simp] theorem c_uneven_die {n : Nat} {c : F2} {s : Nat → Int} : callM true (run tb (k + 1)) 24 [tabD true true n c, vD true n s] h = .ok (oD (fstD n (odB n c s))) h :=
  call_nc (ncs_two (nc_tabD _ _ _ _) (nc_vec _ _ _)) r_uneven_die (nc_oD _)

end ZK53

end
section
namespace ZK53
open Z
variable {h : CH} {k : Nat}
def ab (x : Int) : Int := if x < 0 then -x else x
def gdB (c f : F2) (full : Bool) (i j : Nat) : Bool := !(decide (c i j < ab (f i j)) || (full && decide ((c i j - f i j) % 2 = 1)))
def wiB (n : Nat) (c f : F2) (full : Bool) : Bool := (List.range n).all fun i => (List.range n).all fun j => gdB c f full i j
theorem wiB_iff {n : Nat} {c f : F2} {full : Bool} : wiB n c f full = true ↔ ∀ i, i < n → ∀ j, j < n → gdB c f full i j = true := by
  unfold wiB
  simp only [List.all_eq_true, List.mem_range]
theorem wiB_no {n : Nat} {c f : F2} {full : Bool} {i j : Nat} (hi : i < n) (hj : j < n) (b : gdB c f full i j = false) : wiB n c f full = false := by
  cases q : wiB n c f full with
  | false => rfl
  | true => rw [wiB_iff.1 q i hi j hj] at b; cases b
@[simp] theorem abs_ab (m : Bool) (i : Int) (h : CH) : biD .abs m [.int i] h = .ok (.int (ab i)) h := (rfl)
theorem c_tabs {a b a' b' : Bool} {n : Nat} {c f : F2} (hn : 1 ≤ n) (hn8 : n ≤ 1000) (sk : Skew n f) (B : Bnd n c) : callM true (run tb (k + 3)) 30 [tabD a b n f, tabD a' b' n c] h = .ok (.tup [tabD true true n f, tabD true true n c]) h := by
  refine call_nc (h' := []) (ncs_two (nc_tabD _ _ _ _) (nc_tabD _ _ _ _)) ?_ (by simp [D.nc, ncs])
  rw [u_table_and_bounds rfl]
  apply eq_wr
  simp [b_table_and_bounds, envOf, c_check hn hn8 sk, c_check_bounds hn hn8 B]
theorem c_isW {a b a' b' : Bool} {n : Nat} {c f : F2} (hn : 1 ≤ n) (hn8 : n ≤ 1000) (sk : Skew n f) (B : Bnd n c) : callM true (run tb (k + 4)) 17 [tabD a b n f, tabD a' b' n c] h = .ok (.bl (wiB n c f false)) h := by
  refine call_nc (h' := []) (ncs_two (nc_tabD _ _ _ _) (nc_tabD _ _ _ _)) ?_ rfl
  rw [u_is_within rfl]
  apply eq_wr
  simp [b_is_within, envOf, s_fr, c_tabs hn hn8 sk B, it_enumT]
  refine ws_chkR (fun i => ∀ j, j < n → gdB c f false i j = true) rfl (fun i hi _ => ?_) fun all => ?_
  · simp [s_fr, it_enumR]
    refine ws_chkR (fun j => gdB c f false i j = true) rfl (fun j hj _ => ?_) fun row => ?_
    · by_cases g : c i j < ab (f i j)
      · have : gdB c f false i j = false := by unfold gdB; simp [g]
        simp [tab_row hi, row_at hj, g, wiB_no hi hj this]
      · have : gdB c f false i j = true := by unfold gdB; simp; omega
        simp [tab_row hi, row_at hj, g, this]
    · simp; exact row
  · simp
    exact wiB_iff.2 all
theorem c_isF {a b a' b' : Bool} {n : Nat} {c f : F2} (hn : 1 ≤ n) (hn8 : n ≤ 1000) (sk : Skew n f) (B : Bnd n c) : callM true (run tb (k + 4)) 16 [tabD a b n f, tabD a' b' n c] h = .ok (.bl (wiB n c f true)) h := by
  refine call_nc (h' := []) (ncs_two (nc_tabD _ _ _ _) (nc_tabD _ _ _ _)) ?_ rfl
  rw [u_is_full rfl]
  apply eq_wr
  simp [b_is_full, envOf, s_fr, c_tabs hn hn8 sk B, it_enumT]
  refine ws_chkR (fun i => ∀ j, j < n → gdB c f true i j = true) rfl (fun i hi _ => ?_) fun all => ?_
  · simp [s_fr, it_enumR]
    refine ws_chkR (fun j => gdB c f true i j = true) rfl (fun j hj _ => ?_) fun row => ?_
    · by_cases g : c i j < ab (f i j)
      · have : gdB c f true i j = false := by unfold gdB; simp [g]
        simp [tab_row hi, row_at hj, g, wiB_no hi hj this]
      · by_cases o : (c i j - f i j) % 2 = 1
        · have : gdB c f true i j = false := by unfold gdB; simp [o]
          simp [tab_row hi, row_at hj, g, mod2, o, wiB_no hi hj this]
        · have : gdB c f true i j = true := by unfold gdB; simp [o]; omega
          simp [tab_row hi, row_at hj, g, mod2, o, this]
    · simp; exact row
  · simp
    exact wiB_iff.2 all
theorem c_law_within {a b a' b' : Bool} {n : Nat} {c f : F2} {full : Bool} (hn8 : n ≤ 1000) : callM true (run tb (k + 1)) 18 [tabD a b n f, tabD a' b' n c, .bl full] h = .ok (.bl (wiB n c f full)) h := by
  refine call_nc (h' := []) (by simp [ncs, D.nc]) ?_ rfl
  rw [u_law_within rfl]
  apply eq_wr
  simp [b_law_within, envOf, s_fr, it_rngN hn8]
  refine ws_chkR (fun i => ∀ j, j < n → gdB c f full i j = true) rfl (fun i hi _ => ?_) fun all => ?_
  · simp [s_fr, it_rngN hn8]
    refine ws_chkR (fun j => gdB c f full i j = true) rfl (fun j hj _ => ?_) fun row => ?_
    · have ti : ∀ (x : Int) (h : CH), biD .int false [.int x] h = .ok (.int x) h := fun _ _ => rfl
      by_cases g : c i j < ab (f i j)
      · have : gdB c f full i j = false := by unfold gdB; simp [g]
        simp [tab_row hi, row_at hj, g, wiB_no hi hj this]
      · cases full with
        | false =>
          have : gdB c f false i j = true := by unfold gdB; simp; omega
          simp [tab_row hi, row_at hj, g, this]
        | true =>
          by_cases o : (c i j - f i j) % 2 = 1
          · have : gdB c f true i j = false := by unfold gdB; simp [o]
            simp [tab_row hi, row_at hj, g, mod2, o, ti, wiB_no hi hj this]
          · have : gdB c f true i j = true := by unfold gdB; simp [o]; omega
            simp [tab_row hi, row_at hj, g, mod2, o, ti, this]
    · simp; exact row
  · simp
    exact wiB_iff.2 all
theorem r_judged {a b a' b' : Bool} {n : Nat} {c f : F2} (hn : 1 ≤ n) (hn8 : n ≤ 1000) (sk : Skew n f) (B : Bnd n c) : run tb (k + 5) 5 [tabD a b n f, tabD a' b' n c] h = .ok (.bl true) h := by
  rw [u_law_judged rfl]
  apply eq_wr
  have eb : [D.bl false, D.bl true] = [false, true].map D.bl := rfl
  have nb : ∀ (x y : Bool) (h : CH), cmpD .ne (.bl x) (.bl y) h = .ok (.bl (!(x == y))) h := fun x y h => by cases x <;> cases y <;> rfl
  have ib : ∀ (x : Bool) (h : CH), isiR h (.bl x) [.bool] = .ok (.bl true) h := fun x h => by simp [isiR, isiAny, isiV, isiD]
  simp [b_law_judged, envOf, s_fr]
  rw [eb]
  refine ws_chk (fun _ _ => True) rfl (fun i full hx _ => ?_) fun _ => ?_
  · cases full
    · simp [c_isW hn hn8 sk B, c_law_within hn8, nb, ib]
    · simp [c_isF hn hn8 sk B, c_law_within hn8, nb, ib]
  · simp
theorem c_judgedC {a b : Bool} {m n : Nat} {cs : Nat → Nat} {c f : F2} (hn : 1 ≤ n) (hn8 : n ≤ 1000) (sk : Skew n f) (B : Bnd n c) (M : Mx h m cs n f) : callM true (run tb (k + 5)) 5 [.cell m, tabD a b n c] h = .ok (.bl true) h :=
  call_snap (h' := []) (snaps_two M.snap (snap_nc (nc_tabD a b n c))) (r_judged hn hn8 sk B) rfl rfl

end ZK53

end
section
namespace ZK53
open Z
variable {h : CH} {k : Nat}
theorem r_law_same {n : Nat} {f : F2} (hn : n ≤ 1000) : run tb (k + 2) 6 [tabD true true n f, tabD false false n f] h = .ok (.bl true) h := by
  rw [u_law_same rfl]
  apply eq_wr
  have t0 : ∀ (ds : List D) (h : CH), isiR h (W true ds) [.tuple] = .ok (.bl true) h := fun ds h => by simp [isiR, isiAny, isiV, isiD, W]
  have t1 : ∀ h : CH, isiR h (tabD true true n f) [.tuple] = .ok (.bl true) h := fun h => t0 _ h
  have l1 : ∀ (w : Bool) (i : Nat) (h : CH), biD .list false [W w (iL (rowF n f i))] h = .ok (W false (iL (rowF n f i))) h := fun w i h => by rw [list_ok (items_W _ _)]; rfl
  have ne : ∀ (i : Nat) (h : CH), cmpD .ne (W false (iL (rowF n f i))) (W false (iL (rowF n f i))) h = .ok (.bl false) h := fun i h => ne_self (m := 2) (nc_vec _ _ _) (pl_lR _) (by omega)
  simp [b_law_same, envOf, s_fr, t1, it_rngN hn]
  refine ws_chkR (fun _ => True) rfl (fun i hi _ => ?_) fun _ => ?_
  · have i0 : ∀ h : CH, itR (W true (iL (rowF n f i))) h = .ok ((List.range n).map (fun j => D.int (f i j)), none) h := fun h => itR_vec true n (f i)
    simp [tab_row hi, t0, l1, ne, s_fr, i0]
    refine ws_chkR (fun _ => True) rfl (fun j hj _ => ?_) fun _ => ?_
    · simp
    · simp
  · simp
theorem c_same {n : Nat} {f : F2} (hn : n ≤ 1000) : callM true (run tb (k + 2)) 6 [tabD true true n f, tabD false false n f] h = .ok (.bl true) h :=
  call_nc (ncs_two (nc_tabD _ _ _ _) (nc_tabD _ _ _ _)) (r_law_same hn) rfl
theorem c_sameC {m n : Nat} {cs : Nat → Nat} {f : F2} (hn : n ≤ 1000) (M : Mx h m cs n f) : callM true (run tb (k + 2)) 6 [tabD true true n f, .cell m] h = .ok (.bl true) h := by
  refine call_snap (h' := []) (ds' := [tabD true true n f, tabD false false n f]) ?_ (r_law_same hn) rfl rfl
  unfold snaps
  rw [if_neg (by simp [ncs, D.nc])]
  simp [snap_nc (nc_tabD true true n f), M.snap]

end ZK53

end
section
namespace ZK53
open Z
variable {h : CH} {k : Nat}
theorem lt_SZ {n : Nat} (h : n < 1000000) : n < SZ := by unfold SZ; omega
theorem lt_get {α : Type} {l : List α} {i : Nat} {x : α} (e : l[i]? = some x) : i < l.length := ws_chk.lt_of_get' e
theorem kill_len' {l : List Nat} : (kill l h).length = h.length := by unfold kill; simp
theorem kill_get' {l : List Nat} {y : Nat} (e : ¬ y ∈ l) : (kill l h)[y]? = h[y]? := by
  unfold kill
  rw [List.getElem?_mapIdx]
  have : l.contains y = false := by simpa using e
  cases h[y]? with
  | none => rfl
  | some c => simp [e]
/-- ints in a cell -/
def Drw (q : Nat) (h : CH) : Prop := ∃ l : List Int, l.length < 900000 ∧ h[q]? = some (.lst (iL l))
/-- that cell alone changes -/
structure Dr (q : Nat) (h h' : CH) : Prop where
  len : h'.length = h.length
  drw : Drw q h'
  oth : ∀ y, y ≠ q → h'[y]? = h[y]?
theorem Dr.trans {q : Nat} {h1 h2 : CH} (a : Dr q h h1) (b : Dr q h1 h2) : Dr q h h2 := ⟨b.len.trans a.len, b.drw, fun y hy => (b.oth y hy).trans (a.oth y hy)⟩
theorem Dr.refl {q : Nat} (d : Drw q h) : Dr q h h := ⟨rfl, d, fun _ _ => rfl⟩
theorem r_take {q : Nat} (d : Drw q h) {m : Int} (hm : 0 < m) : ∃ r h', run tb (k + 1) 2 [.cell q, .int m] h = .ok (.int r) h' ∧ 0 ≤ r ∧ r < m ∧ Dr q h h' := by
  rw [u_law_take rfl]
  obtain ⟨l, hb, e⟩ := d
  have i0 : items h (.cell q) = some (iL l) := by simp only [items, e]
  have l0 : biD .len false [.cell q] h = .ok (.int (l.length : Nat)) h := by rw [len_ok i0]; simp
  by_cases hl : l = []
  · subst hl
    refine ⟨0, h, ?_, Int.le_refl _, hm, Dr.refl ⟨_, hb, e⟩⟩
    simp at l0
    simp [b_law_take, envOf, l0]
  · obtain ⟨l1, v, rfl⟩ : ∃ l1 v, l = l1 ++ [v] := ⟨l.dropLast, l.getLast hl, (List.dropLast_concat_getLast hl).symm⟩
    have n0 : ¬ ((l1.length : Int) + 1 = 0) := by omega
    have p0 : mthR (.cell q) .pop [] h h = .ok (.int v) (h.set q (.lst (iL l1))) := by
      simp only [mthR, mthD, onCell, lstOf, e, Option.isSome_some, if_true]
      simp
    have M := mod_ok (m := false) (i := v) (j := m) (h := h.set q (.lst (iL l1))) hm
    simp at l0
    refine ⟨v % m, h.set q (.lst (iL l1)), ?_, Int.emod_nonneg _ (by omega), Int.emod_lt_of_pos _ hm, by simp, ⟨l1, by simp at hb; omega, List.getElem?_set_self (lt_get e)⟩, fun y hy => List.getElem?_set_ne (fun z => hy z.symm)⟩
    simp [b_law_take, envOf, l0, n0, p0, M]
theorem c_take0 {q : Nat} (d : Drw q h) {m : Int} (hm : 0 < m) : ∃ r h', callM false (run tb (k + 1)) 2 [.cell q, .int m] h = .ok (.int r) h' ∧ 0 ≤ r ∧ r < m ∧ Dr q h h' := by
  obtain ⟨r, h', e, a, b, c⟩ := r_take (k := k) d hm
  exact ⟨r, h', by rw [call_heap e, trunc_same (by rw [c.len]; exact Nat.le_refl _)], a, b, c⟩
theorem app_int {q : Nat} {l : List Int} (e : h[q]? = some (.lst (iL l))) (hl : l.length < 900000) (v : Int) : mthR (.cell q) .append [.int v] h h = .ok .non (h.set q (.lst (iL (l ++ [v])))) := by
  simp only [mthR, mthD, onCell, lstOf, e, one1, Option.isSome_some, if_true]
  rw [if_pos (lt_SZ (by simp; omega))]
  simp
theorem andThen_id (r : RS) : (r.andThen fun e h => .nx e h) = r := by cases r <;> rfl
theorem r_draws (ns : List Int) (hn : ns.length ≤ 63) : ∃ l : List Int, l.length < 900000 ∧ run tb (k + 1) 1 [.scr ns] [] = .ok (.cell 0) [.lst (iL l)] := by
  rw [u_law_draws_m rfl]
  have l0 : ∀ h : CH, biD .len false [.scr ns] h = .ok (.int (ns.length : Nat)) h := fun h => by rw [len_ok (ds := ns.map .int) rfl]; simp
  have m0 : ∀ h : CH, biD .min2 false [.int (ns.length : Nat), .int 63] h = .ok (.int (ns.length : Nat)) h := fun h => by
    show (R.ok (D.int (if (63 : Int) < (ns.length : Nat) then 63 else (ns.length : Nat))) h) = _
    rw [if_neg (by omega)]
  have P0 : ∀ h : CH, binD .pow false (.int 10) (.int 18) h = .ok (.int 1000000000000000000) h := fun h => rfl
  simp [b_law_draws_m, envOf, s_fr, l0, m0, it_rng1 (show ns.length < 1000000 by omega)]
  refine forGo_rng (C := fun r => ∃ l : List Int, l.length < 900000 ∧ fin (RS.andThen r _) = R.ok (.cell 0) [.lst (iL l)]) (fun i env hh => env = [some (.scr ns), some (.cell 0), none, none, none, none] ∧ ∃ l : List Int, l.length ≤ 42 * i ∧ hh = [.lst (iL l)]) ?_ ?_ ?_ ?_
  · exact ⟨rfl, [], by simp, rfl⟩
  · exact fun _ _ _ _ _ => rfl
  · rintro i env hh hi ⟨rfl, l, hl, rfl⟩
    obtain ⟨v, hv⟩ : ∃ v, ns[i]? = some v := ⟨_, List.getElem?_eq_getElem hi⟩
    have x0 : ixV (.scr ns) (.int (i : Nat)) [.lst (iL l)] = .ok (.int v) [.lst (iL l)] := ix_ok (ds := ns.map .int) rfl (by rw [List.getElem?_map, hv]; rfl)
    have m2 : ∀ h : CH, binD .mul false (.int 2) (.int v) h = .ok (.int (2 * v)) h := fun h => mul_ok (mulOk_l (by omega) (by omega))
    -- whatever the cell is
    have go : ∀ w : Int, nT ((evS (run tb k) (.ife (.cmp .ge (.var 3) (.bin .pow false (.con (.int 10)) (.con (.int 18))))
  (.cons (.fr (.nm 4) (.f .rng1 (.cons (.con (.int 42)) .nil))
  (.cons (.ife (.cmp .gt (.var 3) (.con (.int 0)))
  (.cons (.expr (.mth (.var 1) .append (.cons (.bin .mod false (.bi .int false (.cons (.var 3) .nil)) (.con (.int 24))) .nil)))
  (.cons (.asg (.nm 3) (.bin .fdiv false (.var 3) (.con (.int 24))))
  .nil))
  .nil)
  .nil) [4])
  .nil)
  (.cons (.asg (.nm 5) (.bin .mod false (.bi .int false (.cons (.bin .add false (.bin .add false (.bin .mul false (.var 3) (.con (.int 50331653))) (.bin .mul false (.var 2) (.con (.int 12582917)))) (.con (.int 29))) .nil)) (.con (.int 2147483629))))
  (.cons (.fr (.nm 4) (.f .rng1 (.cons (.con (.int 7)) .nil))
  (.cons (.asg (.nm 5) (.bin .mod false (.bi .int false (.cons (.bin .add false (.bin .add false (.bin .add false (.bin .mul false (.var 5) (.var 5)) (.bin .mul false (.var 4) (.con (.int 6151)))) (.bin .mul false (.var 2) (.con (.int 97)))) (.con (.int 7))) .nil)) (.con (.int 2147483587))))
  (.cons (.expr (.mth (.var 1) .append (.cons (.var 5) .nil)))
  .nil)) [4])
  .nil))) [some (.scr ns), some (.cell 0), some (.int i), some (.int w), none, none] [.lst (iL l)])) fun env2 h2 => wipeE env2 [2, 3, 4, 5] = [some (.scr ns), some (.cell 0), none, none, none, none] ∧ ∃ l : List Int, l.length ≤ 42 * (i + 1) ∧ h2 = [.lst (iL l)] := by
      intro w
      by_cases big : (1000000000000000000 : Int) ≤ w
      · have R0 : ∀ h : CH, itD .rng1 [.int 42] h = .ok ((List.range 42).map (fun i : Nat => D.int i), none) h := fun h => it_rng1 (n := 42) (by omega)
        simp [P0, big, s_fr, R0]
        refine forGo_rng (C := fun r => nT (RS.andThen r _) _) (fun t env hh => ∃ (u : Int) (l : List Int), env = [some (.scr ns), some (.cell 0), some (.int i), some (.int u), none, none] ∧ l.length ≤ 42 * i + t ∧ hh = [.lst (iL l)]) ?_ ?_ ?_ ?_
        · exact ⟨w, l, rfl, hl, rfl⟩
        · exact fun _ _ _ _ _ => rfl
        · rintro t env hh ht ⟨u, l, rfl, hl, rfl⟩
          by_cases up : 0 < u
          · have A := app_int (h := [.lst (iL l)]) (q := 0) (l := l) rfl (by omega) (u % 24)
            have M := mod_ok (m := false) (i := u) (j := 24) (h := [.lst (iL l)]) (by decide)
            have F : ∀ h : CH, binD .fdiv false (.int u) (.int 24) h = .ok (.int (u / 24)) h := fun h => by
              show (if divOk 24 then R.ok (D.int (u / 24)) h else .no) = _
              rw [if_pos (by decide +kernel)]
            simp [up, M, A, F]
            exact ⟨l ++ [u % 24], by simp; omega, by simp⟩
          · simp [up]
            exact ⟨l, by omega, rfl⟩
        · rintro env hh ⟨u, l, rfl, hl, rfl⟩
          simp
          exact ⟨l, by omega, rfl⟩
      · have R0 : ∀ h : CH, itD .rng1 [.int 7] h = .ok ((List.range 7).map (fun i : Nat => D.int i), none) h := fun h => it_rng1 (n := 7) (by omega)
        have a1 : ∀ h : CH, binD .mul false (.int w) (.int 50331653) h = .ok (.int (w * 50331653)) h := fun h => mul_ok (mulOk_r (by omega) (by omega))
        have a2 : ∀ h : CH, binD .mul false (.int (i : Nat)) (.int 12582917) h = .ok (.int ((i : Nat) * 12582917)) h := fun h => mul_ok (mulOk_r (by omega) (by omega))
        have a3 := mod_ok (m := false) (i := w * 50331653 + (i : Nat) * 12582917 + 29) (j := 2147483629) (h := [.lst (iL l)]) (by decide)
        have b1 := Int.emod_nonneg (w * 50331653 + (i : Nat) * 12582917 + 29) (show (2147483629 : Int) ≠ 0 by decide)
        have b2 := Int.emod_lt_of_pos (w * 50331653 + (i : Nat) * 12582917 + 29) (show (0 : Int) < 2147483629 by decide)
        simp [P0, big, a1, a2, a3, s_fr, R0]
        generalize (w * 50331653 + (i : Nat) * 12582917 + 29) % 2147483629 = st at b1 b2
        refine forGo_rng (C := fun r => nT (RS.andThen r _) _) (fun t env hh => ∃ (u : Int) (l : List Int), env = [some (.scr ns), some (.cell 0), some (.int i), some (.int w), none, some (.int u)] ∧ 0 ≤ u ∧ u < 4294967296 ∧ l.length ≤ 42 * i + t ∧ hh = [.lst (iL l)]) ?_ ?_ ?_ ?_
        · exact ⟨st, l, rfl, b1, by omega, hl, rfl⟩
        · exact fun _ _ _ _ _ => rfl
        · rintro t env hh ht ⟨u, l, rfl, u0, u1, hl, rfl⟩
          have c1 : ∀ h : CH, binD .mul false (.int u) (.int u) h = .ok (.int (u * u)) h := fun h => mul_ok (mulOk_l (by omega) (by omega))
          have c2 : ∀ h : CH, binD .mul false (.int (t : Nat)) (.int 6151) h = .ok (.int ((t : Nat) * 6151)) h := fun h => mul_ok (mulOk_r (by omega) (by omega))
          have c3 : ∀ h : CH, binD .mul false (.int (i : Nat)) (.int 97) h = .ok (.int ((i : Nat) * 97)) h := fun h => mul_ok (mulOk_r (by omega) (by omega))
          have c4 := mod_ok (m := false) (i := u * u + (t : Nat) * 6151 + (i : Nat) * 97 + 7) (j := 2147483587) (h := [.lst (iL l)]) (by decide)
          have d1 := Int.emod_nonneg (u * u + (t : Nat) * 6151 + (i : Nat) * 97 + 7) (show (2147483587 : Int) ≠ 0 by decide)
          have d2 := Int.emod_lt_of_pos (u * u + (t : Nat) * 6151 + (i : Nat) * 97 + 7) (show (0 : Int) < 2147483587 by decide)
          have A := app_int (h := [.lst (iL l)]) (q := 0) (l := l) rfl (by omega) ((u * u + (t : Nat) * 6151 + (i : Nat) * 97 + 7) % 2147483587)
          simp [c1, c2, c3, c4, A]
          exact ⟨d1, by omega, l ++ [(u * u + (t : Nat) * 6151 + (i : Nat) * 97 + 7) % 2147483587], by simp; omega, by simp⟩
        · rintro env hh ⟨u, l, rfl, u0, u1, hl, rfl⟩
          simp
          exact ⟨l, by omega, rfl⟩
    by_cases neg : v < 0
    · have g := go (3 - 2 * v)
      simp [x0, neg, m2, andThen_id] at g ⊢
      exact g
    · have g := go v
      simp [x0, neg, andThen_id] at g ⊢
      exact g
  · rintro env hh ⟨rfl, l, hl, rfl⟩
    refine ⟨l.reverse, by simp; omega, ?_⟩
    simp [mthR, mthD]

theorem c_take {q : Nat} (d : Drw q h) {m : Int} (hm : 0 < m) {Q : D → CH → Prop} (go : ∀ r h', 0 ≤ r → r < m → Dr q h h' → Q (.int r) h') : WR (callM false (run tb (k + 1)) 2 [.cell q, .int m] h) Q := by
  obtain ⟨r, h', e, a, b, c⟩ := c_take0 (k := k) d hm
  exact wr_eq e (go r h' a b c)
/-- the drawing cell goes on, all others below stay -/
structure DrK (q : Nat) (h h' : CH) : Prop where
  len : h.length ≤ h'.length
  drw : Drw q h'
  oth : ∀ y, y < h.length → y ≠ q → h'[y]? = h[y]?
theorem DrK.trans {q : Nat} {h1 h2 : CH} (a : DrK q h h1) (b : DrK q h1 h2) : DrK q h h2 := ⟨Nat.le_trans a.len b.len, b.drw, fun y hy hq => (b.oth y (Nat.lt_of_lt_of_le hy a.len) hq).trans (a.oth y hy hq)⟩
theorem Dr.toK {q : Nat} {h' : CH} (a : Dr q h h') : DrK q h h' := ⟨Nat.le_of_eq a.len.symm, a.drw, fun y _ hq => a.oth y hq⟩
theorem Drw.lt {q : Nat} (d : Drw q h) : q < h.length := by obtain ⟨l, _, e⟩ := d; exact lt_get e
theorem DrK.trunc {q : Nat} {h' : CH} (a : DrK q h h') (hq : q < h.length) (d : D) : DrK q h (trunc h.length d h') := by
  have K : ∀ y, y < h.length → (Z.trunc h.length d h')[y]? = h'[y]? := fun y hy => by
    unfold Z.trunc
    split
    · rfl
    · split
      · rw [List.getElem?_take_of_lt hy]
      · rfl
  have L : h.length ≤ (Z.trunc h.length d h').length := by
    unfold Z.trunc
    split
    · exact a.len
    · split
      · rw [List.length_take]; have := a.len; omega
      · exact a.len
  obtain ⟨l, hl, e⟩ := a.drw
  exact ⟨L, ⟨l, hl, (K q hq).trans e⟩, fun y hy hq => (K y hy).trans (a.oth y hy hq)⟩
theorem mx_dr {q m n : Nat} {cs : Nat → Nat} {f : F2} {h' : CH} (M : Mx h m cs n f) (D : Dr q h h') (qm : q ≠ m) (qc : ∀ i, i < n → q ≠ cs i) : Mx h' m cs n f :=
  ⟨(D.oth m (fun e => qm e.symm)).trans M.top, fun i hi => (D.oth _ (fun e => qc i hi e.symm)).trans (M.row i hi), M.inj, M.out⟩
theorem mx_cells {m n : Nat} {cs : Nat → Nat} {f : F2} (M : Mx h m cs n f) {y : Nat} (hy : y ∈ cellsF h 6 (.cell m)) : y = m ∨ ∃ i, i < n ∧ y = cs i := by
  rw [cellsF_cell 5 M.top] at hy
  rcases List.mem_cons.1 hy with z | z
  · exact .inl z
  · right
    obtain ⟨d, hd, hz⟩ := List.mem_flatMap.1 z
    obtain ⟨i, hi, rfl⟩ := List.mem_map.1 hd
    have hi := List.mem_range.1 hi
    rw [cellsF_cell 4 (M.row i hi)] at hz
    rcases List.mem_cons.1 hz with w | w
    · exact ⟨i, hi, w⟩
    · obtain ⟨d, hd, hz⟩ := List.mem_flatMap.1 w
      obtain ⟨v, _, rfl⟩ := List.mem_map.1 hd
      simp [cellsF] at hz
theorem skew_set {n : Nat} {f : F2} (sk : Skew n f) {i j : Nat} (ne : i ≠ j) (e : Int) : Skew n (stF (stF f i j e) j i (-e)) := fun x y hx hy => by
  have s0 := sk x y hx hy
  have v : ∀ x y, stF (stF f i j e) j i (-e) x y = if x = j ∧ y = i then -e else if x = i ∧ y = j then e else f x y := fun _ _ => rfl
  rw [v, v]
  by_cases a1 : x = j ∧ y = i
  · have a2 : ¬ (y = j ∧ x = i) := fun z => ne (z.2.symm.trans a1.1)
    rw [if_pos a1, if_neg a2, if_pos ⟨a1.2, a1.1⟩]
  · by_cases a2 : x = i ∧ y = j
    · rw [if_neg a1, if_pos a2, if_pos ⟨a2.2, a2.1⟩]; omega
    · rw [if_neg a1, if_neg a2, if_neg (fun z => a2 ⟨z.2, z.1⟩), if_neg (fun z => a1 ⟨z.2, z.1⟩)]
      exact s0
theorem mx_drk {q m n : Nat} {cs : Nat → Nat} {f : F2} {h' : CH} (M : Mx h m cs n f) (D : DrK q h h') (qm : q ≠ m) (qc : ∀ i, i < n → q ≠ cs i) : Mx h' m cs n f :=
  ⟨(D.oth m M.lt.1 (fun e => qm e.symm)).trans M.top, fun i hi => (D.oth _ (M.lt.2 i hi) (fun e => qc i hi e.symm)).trans (M.row i hi), M.inj, M.out⟩
theorem DrK.refl {q : Nat} (d : Drw q h) : DrK q h h := ⟨Nat.le_refl _, d, fun _ _ _ => rfl⟩
/-- both places of a pair -/
theorem put2v {m n : Nat} {cs : Nat → Nat} {f : F2} (M : Mx h m cs n f) {i j : Nat} (hi : i < n) (hj : j < n) (v v' : Int) : ∃ h1 h2, setV (.cell (cs i)) (.int j) (.int v) h = some h1 ∧ Mx h1 m cs n (stF f i j v) ∧ setV (.cell (cs j)) (.int i) (.int v') h1 = some h2 ∧ Mx h2 m cs n (stF (stF f i j v) j i v') ∧ FrM h h2 cs n := by
  obtain ⟨h1, a1, a2, a3⟩ := M.put v hi hj
  obtain ⟨h2, b1, b2, b3⟩ := a2.put v' hj hi
  exact ⟨h1, h2, a1, a2, b1, b2, a3.trans b3⟩
theorem it_rngU {i n : Nat} (hi : i < n) (hn : n ≤ 1000) : itD .rng2 [.int ((i : Int) + 1), .int (n : Nat)] h = .ok ((List.range (n - (i + 1))).map (fun j : Nat => D.int ((i : Int) + 1 + j)), none) h := by
  show (if rngOk ((i : Int) + 1) && rngOk (n : Nat) then R.ok (rngL ((i : Int) + 1) ((n : Int) - ((i : Int) + 1)).toNat, (none : Ck)) h else .no) = _
  have o1 : rngOk ((i : Int) + 1) = true := decide_eq_true ⟨by omega, by omega⟩
  have o2 : rngOk (n : Nat) = true := decide_eq_true ⟨by omega, by omega⟩
  rw [o1, o2, show ((n : Int) - ((i : Int) + 1)).toNat = n - (i + 1) by omega]
  rfl
/-- a table is settled -/
theorem DrK.frz {q m n : Nat} {cs : Nat → Nat} {f : F2} {h h' : CH} (D : DrK q h h') (ql : q < h.length) (M : Mx h' m cs n f) (hm : h.length ≤ m) (hc : ∀ i, i < n → h.length ≤ cs i) : DrK q h (kill (cellsF h' 6 (.cell m)) h') := by
  refine ⟨by rw [kill_len']; exact D.len, ?_, fun y hy hyq => ?_⟩
  · obtain ⟨l, hl, e⟩ := D.drw
    refine ⟨l, hl, ?_⟩
    rw [kill_get']
    · exact e
    · intro z
      rcases mx_cells M z with z | ⟨i, hi, z⟩
      · omega
      · have := hc i hi; omega
  · rw [kill_get']
    · exact D.oth y hy hyq
    · intro z
      rcases mx_cells M z with z | ⟨i, hi, z⟩
      · omega
      · have := hc i hi; omega
theorem mx_frz {m n : Nat} {cs : Nat → Nat} {f : F2} (M : Mx h m cs n f) : frzD h (.cell m) = some (tabD false false n f, kill (cellsF h 6 (.cell m)) h) := by
  unfold frzD
  rw [if_neg (by simp [D.nc]), M.snapF 3]
  rfl
theorem kill1_drk {q z : Nat} {h h' : CH} (D : DrK q h h') (ql : q < h.length) (hz : h.length ≤ z) : DrK q h (kill [z] h') := by
  refine ⟨by rw [kill_len']; exact D.len, ?_, fun y hy hyq => ?_⟩
  · obtain ⟨l, hl, e⟩ := D.drw
    exact ⟨l, hl, by rw [kill_get' (by simp; omega)]; exact e⟩
  · rw [kill_get' (by simp; omega)]
    exact D.oth y hy hyq
theorem DrK.push {q : Nat} {h' : CH} (D : DrK q h h') (ql : q < h.length) (c : Cell) : DrK q h (h' ++ [c]) := ⟨by simp; have := D.len; omega, by
  obtain ⟨l, hl, e⟩ := D.drw
  exact ⟨l, hl, by rw [List.getElem?_append_left (by have := D.len; omega)]; exact e⟩, fun y hy hyq => by rw [List.getElem?_append_left (by have := D.len; omega)]; exact D.oth y hy hyq⟩
theorem DrK.put {q z : Nat} {h' : CH} (D : DrK q h h') (ql : q < h.length) (hz : h.length ≤ z) (c : Cell) : DrK q h (h'.set z c) := ⟨by simp; exact D.len, by
  obtain ⟨l, hl, e⟩ := D.drw
  exact ⟨l, hl, by rw [List.getElem?_set_ne (by omega)]; exact e⟩, fun y hy hyq => by rw [List.getElem?_set_ne (by omega)]; exact D.oth y hy hyq⟩

end ZK53

end
section
namespace ZK53
open Z
variable {h : CH} {k : Nat}
theorem r_wide {q : Nat} (d : Drw q h) {m : Int} (hm : 0 ≤ m) : ∃ r h', run tb (k + 2) 12 [.cell q, .int m] h = .ok (.int r) h' ∧ 0 ≤ r ∧ r ≤ m ∧ Dr q h h' := by
  rw [u_law_wide rfl]
  have R0 : itD .rng1 [.int 4] h = .ok ((List.range 4).map (fun i : Nat => D.int i), none) h := it_rng1 (n := 4) (by omega)
  simp [b_law_wide, envOf, s_fr, R0]
  refine forGo_rng (C := fun r => ∃ v h', fin (RS.andThen r _) = R.ok (.int v) h' ∧ 0 ≤ v ∧ v ≤ m ∧ Dr q h h') (fun i env hh => ∃ t : Int, env = [some (.cell q), some (.int m), some (.int t), none] ∧ Dr q h hh) ?_ ?_ ?_ ?_
  · exact ⟨0, rfl, Dr.refl d⟩
  · exact fun _ _ _ _ _ => rfl
  · rintro i env hh hi ⟨t, rfl, D1⟩
    obtain ⟨r, h', e, _, _, D2⟩ := c_take0 (k := k) D1.drw (m := 24) (by decide)
    have m1 : binD .mul false (.int 24) (.int t) hh = .ok (.int (24 * t)) hh := mul_ok (mulOk_l (by omega) (by omega))
    simp [m1, e]
    exact D1.trans D2
  · rintro env hh ⟨t, rfl, D1⟩
    have M := mod_ok (m := false) (i := t) (j := m + 1) (h := hh) (by omega)
    refine ⟨t % (m + 1), hh, by simp [M], Int.emod_nonneg _ (by omega), ?_, D1⟩
    have := Int.emod_lt_of_pos t (show 0 < m + 1 by omega)
    omega
theorem c_wide0 {q : Nat} (d : Drw q h) {m : Int} (hm : 0 ≤ m) : ∃ r h', callM false (run tb (k + 2)) 12 [.cell q, .int m] h = .ok (.int r) h' ∧ 0 ≤ r ∧ r ≤ m ∧ Dr q h h' := by
  obtain ⟨r, h', e, a, b, c⟩ := r_wide (k := k) d hm
  exact ⟨r, h', by rw [call_heap e, trunc_same (by rw [c.len]; exact Nat.le_refl _)], a, b, c⟩
theorem c_wide {q : Nat} (d : Drw q h) {m : Int} (hm : 0 ≤ m) {Q : D → CH → Prop} (go : ∀ r h', 0 ≤ r → r ≤ m → Dr q h h' → Q (.int r) h') : WR (callM false (run tb (k + 2)) 12 [.cell q, .int m] h) Q := by
  obtain ⟨r, h', e, a, b, c⟩ := c_wide0 (k := k) d hm
  exact wr_eq e (go r h' a b c)

end ZK53

end
section
namespace ZK53
open Z
variable {h : CH} {k : Nat}
theorem top5_ok {r : Int} (h0 : 0 ≤ r) (h1 : r < 5) : ∃ t : Int, 1 ≤ t ∧ t ≤ 400 ∧ ixV (.lst [.int 3, .int 1, .int 6, .int 400, .int 40]) (.int r) h = .ok (.int t) h := by
  have : r = 0 ∨ r = 1 ∨ r = 2 ∨ r = 3 ∨ r = 4 := by omega
  rcases this with rfl | rfl | rfl | rfl | rfl
  · exact ⟨3, by omega, by omega, rfl⟩
  · exact ⟨1, by omega, by omega, rfl⟩
  · exact ⟨6, by omega, by omega, rfl⟩
  · exact ⟨400, by omega, by omega, rfl⟩
  · exact ⟨40, by omega, by omega, rfl⟩
theorem bnd_set {n : Nat} {c : F2} (B : Bnd n c) {i j : Nat} (ne : i ≠ j) {v : Int} (v0 : 0 ≤ v) : Bnd n (stF (stF c i j v) j i v) := by
  have e : ∀ x y, stF (stF c i j v) j i v x y = if x = j ∧ y = i then v else if x = i ∧ y = j then v else c x y := fun _ _ => rfl
  refine ⟨fun x y hx hy => ?_, fun x y hx hy => ?_, fun x hx => ?_⟩
  · rw [e]; split
    · exact v0
    · split
      · exact v0
      · exact B.pos x y hx hy
  · rw [e, e]
    have := B.sym x y hx hy
    by_cases a : x = j ∧ y = i
    · obtain ⟨rfl, rfl⟩ := a
      simp
    · by_cases b : x = i ∧ y = j
      · obtain ⟨rfl, rfl⟩ := b
        simp
      · have a' : ¬ (y = i ∧ x = j) := fun z => a ⟨z.2, z.1⟩
        have b' : ¬ (y = j ∧ x = i) := fun z => b ⟨z.2, z.1⟩
        simp [a, b, a', b', this]
  · rw [e]
    have a : ¬ (x = j ∧ x = i) := fun z => ne (z.2.symm.trans z.1)
    have b : ¬ (x = i ∧ x = j) := fun z => ne (z.1.symm.trans z.2)
    simp [a, b, B.dia x hx]
theorem flw_set {n : Nat} {c f : F2} (B : Bnd n c) (F : Flw n c f) {i j : Nat} (hi : i < n) (hj : j < n) (ne : i ≠ j) {v : Int} (v0 : v ≤ c i j) (v1 : -v ≤ c i j) : Flw n c (stF (stF f i j v) j i (-v)) := by
  refine ⟨skew_set F.sk ne v, fun x y hx hy => ?_⟩
  have e : stF (stF f i j v) j i (-v) x y = if x = j ∧ y = i then -v else if x = i ∧ y = j then v else f x y := rfl
  rw [e]
  split
  · rename_i a
    obtain ⟨rfl, rfl⟩ := a
    rw [B.sym _ _ hx hy]; exact v1
  · split
    · rename_i a
      obtain ⟨rfl, rfl⟩ := a
      exact v0
    · exact F.le x y hx hy
theorem bnd0 (n : Nat) : Bnd n (fun _ _ => 0) := ⟨fun _ _ _ _ => by omega, fun _ _ _ _ => rfl, fun _ _ => rfl⟩
theorem flw0 {n : Nat} {c : F2} (B : Bnd n c) : Flw n c (fun _ _ => 0) := ⟨fun _ _ _ _ => rfl, fun i j hi hj => B.pos i j hi hj⟩
theorem r_bounds {q n : Nat} {pb : Bool} (d : Drw q h) (hn : n ≤ 1000) {Q : D → CH → Prop} (go : ∀ c h', Bnd n c → DrK q h h' → (∀ i j, i < n → j < n → c i j ≤ 400) → (pb = true → ∀ i j, i < n → j < n → i ≠ j → 1 ≤ c i j) → Q (tabD false false n c) h') :
    WR (run tb (k + 3) 3 [.cell q, .int n, .bl pb] h) Q := by
  rw [u_law_bounds rfl]
  simp [b_law_bounds, envOf, s_fr]
  refine c_take d (by decide) fun r1 h1 r10 r11 D1 => ?_
  obtain ⟨t, t0, t1, e2⟩ := top5_ok (h := h1) r10 r11
  simp [e2]
  refine c_take D1.drw (by decide) fun r h2 r0 r1' D2 => ?_
  have D12 : DrK q h h2 := (D1.trans D2).toK
  have ql := D12.drw.lt
  clear D1 D2 e2 h1
  simp [e_comp, it_rngN hn]
  rw [comp_cells (G := fun i => Cell.lst (iL (rowF n (fun _ _ => 0) i))) (fun l => rfl) (fun i l hi hl => by
    simp [e_comp, it_rngN hn]
    rw [comp_rng rfl (fun j => .int 0)]
    rotate_left
    · intro j hj; simp
    simp [le_SZ hn, rowF])]
  simp [le_SZ hn]
  have M0 := Mx.new h2 n (fun _ _ => 0)
  generalize hh0 : h2 ++ ((List.range n).map (fun i => Cell.lst (iL (rowF n (fun _ _ => 0) i))) ++ [Cell.lst ((List.range n).map fun i => .cell (h2.length + i))]) = h3
  rw [List.append_assoc, hh0] at M0
  have D3 : DrK q h2 h3 := by
    subst hh0
    refine ⟨by simp, ?_, fun y hy _ => List.getElem?_append_left hy⟩
    obtain ⟨l, hl, e⟩ := D12.drw
    exact ⟨l, hl, (List.getElem?_append_left ql).trans e⟩
  have csR : ∃ cs : Nat → Nat, Mx h3 (h2.length + n) cs n (fun _ _ => 0) ∧ ∀ i, i < n → h2.length ≤ cs i := ⟨_, M0, fun i _ => Nat.le_add_right _ _⟩
  clear M0
  obtain ⟨cs, M0, csR⟩ := csR
  have mR : h2.length ≤ h2.length + n := by omega
  generalize h2.length + n = m at *
  have mne : q ≠ m := by omega
  have cne : ∀ i, i < n → q ≠ cs i := fun i hi => by have := csR i hi; omega
  refine ws_rng (fun i env hh => env = [some (.cell q), some (.int n), some (.bl pb), some (.int t), some (.int r), some (.cell m), none, none, none] ∧ ∃ c, Mx hh m cs n c ∧ DrK q h2 hh ∧ Bnd n c ∧ (∀ i j, c i j ≤ 400) ∧ (pb = true → ∀ a b, a < n → b < n → a ≠ b → (a < i ∨ b < i) → 1 ≤ c a b)) ?_ ?_ ?_ ?_
  · exact ⟨rfl, _, M0, D3, bnd0 n, fun _ _ => by omega, fun _ a b _ _ _ z => by omega⟩
  · exact fun _ _ _ _ _ => rfl
  · rintro i env hh hi ⟨rfl, c, M, D4, B, c4, cp⟩
    simp [s_fr, it_rngU hi hn]
    refine ws_rng (fun j env hh => env = [some (.cell q), some (.int n), some (.bl pb), some (.int t), some (.int r), some (.cell m), some (.int i), none, none] ∧ ∃ c, Mx hh m cs n c ∧ DrK q h2 hh ∧ Bnd n c ∧ (∀ i j, c i j ≤ 400) ∧ (pb = true → ∀ a b, a < n → b < n → a ≠ b → (a < i ∨ b < i ∨ (a = i ∧ b < i + 1 + j) ∨ (b = i ∧ a < i + 1 + j)) → 1 ≤ c a b)) ?_ ?_ ?_ ?_
    · exact ⟨rfl, c, M, D4, B, c4, fun hp a b ha hb ne z => cp hp a b ha hb ne (by omega)⟩
    · exact fun _ _ _ _ _ => rfl
    · clear M D4 B c4 cp c hh
      rintro j env hh hj ⟨rfl, c, M, D4, B, c4, cp⟩
      have jn : i + 1 + j < n := by omega
      have ej : (i : Int) + 1 + (j : Int) = ((i + 1 + j : Nat) : Int) := by omega
      simp only [asg_nm, oT_some, ej]
      generalize hu : i + 1 + j = u at *
      have ne : i ≠ u := by omega
      -- the stores
      have st : ∀ (b : Int) (hh' : CH), 0 ≤ b → b ≤ 400 → (pb = true → 1 ≤ b) → DrK q hh hh' → WS (evSs (run tb (k + 2)) (.cons (.asg (.sub (.ix (.var 5) (.var 6)) (.var 7)) (.var 8)) (.cons (.asg (.sub (.ix (.var 5) (.var 7)) (.var 6)) (.var 8)) .nil)) [some (.cell q), some (.int n), some (.bl pb), some (.int t), some (.int r), some (.cell m), some (.int i), some (.int u), some (.int b)] hh') (fun env2 h2' => wipeE env2 [7, 8] = [some (.cell q), some (.int n), some (.bl pb), some (.int t), some (.int r), some (.cell m), some (.int i), none, none] ∧ ∃ c, Mx h2' m cs n c ∧ DrK q h2 h2' ∧ Bnd n c ∧ (∀ i j, c i j ≤ 400) ∧ (pb = true → ∀ a b, a < n → b < n → a ≠ b → (a < i ∨ b < i ∨ (a = i ∧ b < i + 1 + (j + 1)) ∨ (b = i ∧ a < i + 1 + (j + 1))) → 1 ≤ c a b)) Q := by
        intro b hh' b0 b1 bp D5
        have M1 := mx_drk M D5 mne cne
        obtain ⟨h4, h5, a1, a2, a3, a4, a5⟩ := put2v M1 hi jn b b
        have D45 := D4.trans D5
        have D6 : DrK q h2 h5 := ⟨by rw [a5.len]; exact D45.len, by
          obtain ⟨l, hl, e⟩ := D5.drw
          exact ⟨l, hl, (a5.oth q cne).trans e⟩, fun y hy hyq => (a5.oth y fun i hi e => by have := csR i hi; omega).trans (D45.oth y hy hyq)⟩
        simp [M1.at_row hi, a1, a2.at_row jn, a3]
        refine ⟨_, a4, D6, bnd_set B ne b0, fun x y => ?_, fun hp x y hx hy nxy z => ?_⟩
        · unfold stF
          split
          · exact b1
          · split
            · exact b1
            · exact c4 x y
        · unfold stF
          split
          · exact bp hp
          · split
            · exact bp hp
            · exact cp hp x y hx hy nxy (by omega)
      have st2 : ∀ (b : Int) (hh' : CH), 0 ≤ b → b ≤ 400 → DrK q hh hh' → WS (evSs (run tb (k + 2)) (.cons (.ife (.var 2) (.cons (.asg (.nm 8) (.bi .max2 false (.cons (.con (.int 1)) (.cons (.var 8) .nil)))) .nil) .nil) (.cons (.asg (.sub (.ix (.var 5) (.var 6)) (.var 7)) (.var 8)) (.cons (.asg (.sub (.ix (.var 5) (.var 7)) (.var 6)) (.var 8)) .nil))) [some (.cell q), some (.int n), some (.bl pb), some (.int t), some (.int r), some (.cell m), some (.int i), some (.int u), some (.int b)] hh') (fun env2 h2' => wipeE env2 [7, 8] = [some (.cell q), some (.int n), some (.bl pb), some (.int t), some (.int r), some (.cell m), some (.int i), none, none] ∧ ∃ c, Mx h2' m cs n c ∧ DrK q h2 h2' ∧ Bnd n c ∧ (∀ i j, c i j ≤ 400) ∧ (pb = true → ∀ a b, a < n → b < n → a ≠ b → (a < i ∨ b < i ∨ (a = i ∧ b < i + 1 + (j + 1)) ∨ (b = i ∧ a < i + 1 + (j + 1))) → 1 ≤ c a b)) Q := by
        intro b hh' b0 b1 D5
        cases pb with
        | false =>
          have g := st b hh' b0 b1 (fun e => by cases e) D5
          simp at g ⊢
          exact g
        | true =>
          have mx : ∀ h : CH, biD .max2 false [.int 1, .int b] h = .ok (.int (if 1 < b then b else 1)) h := fun h => rfl
          have g := st (if 1 < b then b else 1) hh' (by split <;> omega) (by split <;> omega) (fun _ => by split <;> omega) D5
          simp [mx] at g ⊢
          exact g
      simp
      refine c_wide D4.drw (by omega) fun w h4 w0 w1 Dw => ?_
      have rr : r = 0 ∨ r = 1 ∨ r = 2 ∨ r = 3 := by omega
      rcases rr with rfl | rfl | rfl | rfl
      · have g := st2 w h4 w0 (by omega) Dw.toK
        cases pb <;> simp at g ⊢ <;> exact g
      · have g := st2 t h4 (by omega) t1 Dw.toK
        cases pb <;> simp at g ⊢ <;> exact g
      · simp
        refine c_take Dw.drw (by decide) fun w2 h5 _ _ Dw2 => ?_
        by_cases e1 : w2 = 1
        · have g := st2 0 h5 (by omega) (by omega) (Dw.trans Dw2).toK
          cases pb <;> simp [e1] at g ⊢ <;> exact g
        · have g := st2 w h5 w0 (by omega) (Dw.trans Dw2).toK
          cases pb <;> simp [e1] at g ⊢ <;> exact g
      · have g := st2 w h4 w0 (by omega) Dw.toK
        cases pb <;> simp at g ⊢ <;> exact g
    · rintro env hh ⟨rfl, c, M, D4, B, c4, cp⟩
      exact ⟨rfl, c, M, D4, B, c4, fun hp a b ha hb ne z => cp hp a b ha hb ne (by omega)⟩
  · rintro env hh ⟨rfl, c, M, D4, B, c4, cp⟩
    rw [s_frz (d := .cell m) rfl (mx_frz M)]
    simp
    exact go c _ B (D12.trans (D4.frz ql M mR csR)) (fun i j _ _ => c4 i j) fun hp i j hi hj ne => cp hp i j hi hj ne (by omega)
theorem c_bounds {q n : Nat} {pb : Bool} (d : Drw q h) (hn : n ≤ 1000) {Q : D → CH → Prop} (go : ∀ c h', Bnd n c → DrK q h h' → (∀ i j, i < n → j < n → c i j ≤ 400) → (pb = true → ∀ i j, i < n → j < n → i ≠ j → 1 ≤ c i j) → Q (tabD false false n c) h') :
    WR (callM false (run tb (k + 3)) 3 [.cell q, .int n, .bl pb] h) Q :=
  wr_heap (r_bounds d hn fun c h' B D b p => go c _ B (D.trunc d.lt _) b p)

end ZK53

end
section
namespace ZK53
open Z
variable {h : CH} {k : Nat}
theorem r_entriesM {q n : Nat} {c : F2} (d : Drw q h) (hn : n ≤ 1000) (B : Bnd n c) {Q : D → CH → Prop} (go : ∀ f h' m cs, Mx h' m cs n f → Flw n c f → DrK q h h' → h.length ≤ m → (∀ i, i < n → h.length ≤ cs i) → Q (.cell m) h') :
    WR (run tb (k + 3) 4 [.cell q, tabD false false n c] h) Q := by
  rw [u_law_entries_mm rfl]
  simp [b_law_entries_mm, envOf, s_fr]
  refine c_take d (by decide) fun r h2 r0 r1' D2 => ?_
  have D12 : DrK q h h2 := D2.toK
  have ql := D12.drw.lt
  clear D2
  simp [e_comp, it_rngN hn]
  rw [comp_cells (G := fun i => Cell.lst (iL (rowF n (fun _ _ => 0) i))) (fun l => rfl) (fun i l hi hl => by
    simp [e_comp, it_rngN hn]
    rw [comp_rng rfl (fun j => .int 0)]
    rotate_left
    · intro j hj; simp
    simp [le_SZ hn, rowF])]
  simp [le_SZ hn]
  have M0 := Mx.new h2 n (fun _ _ => 0)
  generalize hh0 : h2 ++ ((List.range n).map (fun i => Cell.lst (iL (rowF n (fun _ _ => 0) i))) ++ [Cell.lst ((List.range n).map fun i => .cell (h2.length + i))]) = h3
  rw [List.append_assoc, hh0] at M0
  have D3 : DrK q h2 h3 := by
    subst hh0
    refine ⟨by simp, ?_, fun y hy _ => List.getElem?_append_left hy⟩
    obtain ⟨l, hl, e⟩ := D12.drw
    exact ⟨l, hl, (List.getElem?_append_left ql).trans e⟩
  have csR : ∃ cs : Nat → Nat, Mx h3 (h2.length + n) cs n (fun _ _ => 0) ∧ ∀ i, i < n → h2.length ≤ cs i := ⟨_, M0, fun i _ => Nat.le_add_right _ _⟩
  clear M0
  obtain ⟨cs, M0, csR⟩ := csR
  have mR : h2.length ≤ h2.length + n := by omega
  generalize h2.length + n = m at *
  have mne : q ≠ m := by omega
  have cne : ∀ i, i < n → q ≠ cs i := fun i hi => by have := csR i hi; omega
  refine ws_rng (fun i env hh => env = [some (.cell q), some (tabD false false n c), some (.int n), some (.int r), some (.cell m), none, none, none, none, none] ∧ ∃ f, Mx hh m cs n f ∧ DrK q h2 hh ∧ Flw n c f) ?_ ?_ ?_ ?_
  · exact ⟨rfl, _, M0, D3, flw0 B⟩
  · exact fun _ _ _ _ _ => rfl
  · rintro i env hh hi ⟨rfl, f, M, D4, F⟩
    simp [s_fr, it_rngU hi hn]
    refine ws_rng (fun j env hh => env = [some (.cell q), some (tabD false false n c), some (.int n), some (.int r), some (.cell m), some (.int i), none, none, none, none] ∧ ∃ f, Mx hh m cs n f ∧ DrK q h2 hh ∧ Flw n c f) ?_ ?_ ?_ ?_
    · exact ⟨rfl, f, M, D4, F⟩
    · exact fun _ _ _ _ _ => rfl
    · clear M D4 F f hh
      rintro j env hh hj ⟨rfl, f, M, D4, F⟩
      have jn : i + 1 + j < n := by omega
      have ej : (i : Int) + 1 + (j : Int) = ((i + 1 + j : Nat) : Int) := by omega
      simp only [asg_nm, oT_some, ej]
      generalize hu : i + 1 + j = u at *
      have ne : i ≠ u := by omega
      have ne' : ¬ ((i : Int) = u) := by omega
      have b0 := B.pos i u hi jn
      -- the stores
      have st : ∀ (w e : Int) (hh' : CH), e ≤ c i u → -e ≤ c i u → DrK q hh hh' → WS (evSs (run tb (k + 2)) (.cons (.asg (.sub (.ix (.var 4) (.var 5)) (.var 6)) (.var 9)) (.cons (.asg (.sub (.ix (.var 4) (.var 6)) (.var 5)) (.neg (.var 9))) .nil)) [some (.cell q), some (tabD false false n c), some (.int n), some (.int r), some (.cell m), some (.int i), some (.int u), some (.int (c i u)), some (.int w), some (.int e)] hh') (fun env2 h2' => wipeE env2 [6, 7, 8, 9] = [some (.cell q), some (tabD false false n c), some (.int n), some (.int r), some (.cell m), some (.int i), none, none, none, none] ∧ ∃ f, Mx h2' m cs n f ∧ DrK q h2 h2' ∧ Flw n c f) Q := by
        intro w b hh' b0 b1 D5
        have M1 := mx_drk M D5 mne cne
        obtain ⟨h4, h5, a1, a2, a3, a4, a5⟩ := put2v M1 hi jn b (-b)
        have D45 := D4.trans D5
        have D6 : DrK q h2 h5 := ⟨by rw [a5.len]; exact D45.len, by
          obtain ⟨l, hl, e⟩ := D5.drw
          exact ⟨l, hl, (a5.oth q cne).trans e⟩, fun y hy hyq => (a5.oth y fun i hi e => by have := csR i hi; omega).trans (D45.oth y hy hyq)⟩
        simp [M1.at_row hi, a1, a2.at_row jn, a3]
        exact ⟨_, a4, D6, flw_set B F hi jn ne b0 b1⟩
      have m2 : ∀ h : CH, binD .mul false (.int 2) (.int (c i u)) h = .ok (.int (2 * c i u)) h := fun h => mul_ok (mulOk_l (by omega) (by omega))
      simp [tab_row hi, row_at jn]
      refine c_take D4.drw (by decide) fun w h4 _ _ Dw => ?_
      simp [m2]
      refine c_wide Dw.drw (by omega) fun e h5 e0 e1 De => ?_
      have DD := (Dw.trans De).toK
      have rr : r = 0 ∨ r = 1 ∨ r = 2 ∨ r = 3 := by omega
      have mo : ∀ (e : Int) (h : CH), binD .mod false (.int (c i u - e)) (.int 2) h = .ok (.int ((c i u - e) % 2)) h := fun e h => mod2 _ _
      have A := st w (c i u) h5 (by omega) (by omega) DD
      have C := st w (e - c i u) h5 (by omega) (by omega) DD
      have A' := st w (-c i u) h5 (by omega) (by omega) DD
      rcases rr with rfl | rfl | rfl | rfl
      · by_cases w1 : w = 1
        · simp [w1] at A ⊢
          exact A
        · simp [w1] at C ⊢
          exact C
      · simp at A ⊢
        exact A
      · by_cases w1 : w = 1
        · by_cases i0 : i = 0
          · simp [w1, i0] at A' ⊢
            exact A'
          · simp [w1, i0] at A ⊢
            exact A
        · by_cases i0 : i = 0
          · simp [w1, i0] at A' ⊢
            exact A'
          · simp [w1, i0] at C ⊢
            exact C
      · by_cases w1 : w = 1
        · simp [w1, mo, mod2] at A ⊢
          exact A
        · by_cases o : (c i u - (e - c i u)) % 2 = 1
          · have G := st w (e - c i u + 1) h5 (by omega) (by omega) DD
            simp [w1, mo, o] at G ⊢
            exact G
          · simp [w1, mo, o] at C ⊢
            exact C
    · rintro env hh ⟨rfl, f, M, D4, F⟩
      exact ⟨rfl, f, M, D4, F⟩
  · rintro env hh ⟨rfl, f, M, D4, F⟩
    simp
    exact go f _ m cs M F (D12.trans D4) (by have := D12.len; omega) (fun i hi => by have := D12.len; have := csR i hi; omega)
theorem c_entriesM {q n : Nat} {c : F2} (d : Drw q h) (hn : n ≤ 1000) (B : Bnd n c) {Q : D → CH → Prop} (go : ∀ f h' m cs, Mx h' m cs n f → Flw n c f → DrK q h h' → h.length ≤ m → (∀ i, i < n → h.length ≤ cs i) → Q (.cell m) h') :
    WR (callM false (run tb (k + 3)) 4 [.cell q, tabD false false n c] h) Q :=
  wr_heap (r_entriesM d hn B fun f h' m cs M F DD hm hc => by
    have e : trunc h.length (.cell m) h' = h' := by
      unfold trunc
      split
      · rfl
      · rw [if_neg (by simp [D.und]; omega)]
    rw [e]
    exact go f h' m cs M F DD hm hc)

end ZK53

end
section
namespace ZK53
open Z
variable {h : CH} {k : Nat}
theorem c_picked {b : Bool} {n : Nat} {S : List Nat} (hn : n ≤ 1000) (nd : S.Nodup) (lt : ∀ x ∈ S, x < n) : callM true (run tb (k + 2)) 32 [W b (iN S), .int n] h = .ok (W true (iN S)) h := by
  have sl := pigeon n S nd lt
  obtain ⟨d, h', e, rfl⟩ : WR (run tb (k + 2) 32 [W b (iN S), .int n] []) fun d _ => d = W true (iN S) := by
    rw [u_picked rfl]
    have r0 : ∀ h : CH, callM true (run tb (k + 1)) 19 [W b (iN S)] h = .ok (.bl true) h := fun h => c_is_row b (nc_iN S)
    simp [b_picked, envOf, s_fr, r0, it_enumN]
    refine ws_rng (fun i env hh => env = [some (W b (iN S)), some (.int n), some (.cell 0), none, none] ∧ hh = [.lst (iN (S.take i))]) ?_ ?_ ?_ ?_
    · exact ⟨rfl, rfl⟩
    · exact fun _ _ _ _ _ => rfl
    · rintro i env hh hi ⟨rfl, rfl⟩
      have gi := List.getElem?_eq_getElem hi
      have l1 := lt _ (List.getElem_mem hi)
      have l2 : ¬ (n : Int) ≤ (S[i] : Nat) := by omega
      have nm : S[i] ∉ S.take i := fun z => by
        exact nodup_take nd gi z
      have iq : cmpD .inn (.int (S[i] : Nat)) (.cell 0) [.lst (iN (S.take i))] = .ok (.bl false) [.lst (iN (S.take i))] := by
        rw [inn_iN (c := S.take i) rfl]
        simp [nm]
      have ap := app_natT (h := [.lst (iN (S.take i))]) (q := 0) (l := S.take i) rfl (by simp; omega) S[i]
      simp [gi, l2, iq, ap, hi]
    · rintro env hh ⟨rfl, rfl⟩
      have t0 : biD .tuple false [.cell 0] [.lst (iN S)] = .ok (W true (iN S)) [.lst (iN S)] := tuple_ok rfl
      simp [t0]
  exact call_nc (by simp [ncs, nc_iNW, D.nc]) e (nc_iNW _ _)

end ZK53

end
section
namespace ZK53
open Z
variable {h : CH} {k : Nat}
theorem c_set_of {b : Bool} {n : Nat} {S : List Nat} (hn : n ≤ 1000) (nd : S.Nodup) (lt : ∀ x ∈ S, x < n) : callM true (run tb (k + 3)) 22 [W b (iN S), .int n] h = .ok (W true (iN (srtN S))) h := by
  refine call_nc (h' := []) (by simp [ncs, nc_iNW, D.nc]) ?_ (nc_iNW _ _)
  rw [u_set_of rfl]
  apply eq_wr
  have t0 : ∀ h : CH, biD .tuple false [.lst (iN (srtN S))] h = .ok (W true (iN (srtN S))) h := fun h => tuple_ok rfl
  simp [b_set_of, envOf, c_picked hn nd lt, sorted_N (items_W true (iN S)), t0]

end ZK53

end
section
namespace ZK53
open Z
variable {h : CH} {k : Nat}
theorem sum_ls (l : List Nat) (g : Nat → Int) (m : Bool) : biD .sum m [.lst (l.map fun x => D.int (g x))] h = .ok (.int (sS l g)) h := by
  have e : l.map (fun x => D.int (g x)) = iL (l.map g) := by simp [iL]
  rw [e]
  exact sum_ok rfl
theorem sS_filt {n : Nat} (p : Nat → Bool) (g : Nat → Int) : sS ((List.range n).filter p) g = sg n fun i => if p i = true then g i else 0 := by
  rw [sS_sg (List.nodup_range.filter _) fun x hx => List.mem_range.1 (List.mem_filter.1 hx).1]
  refine sg_congr fun i hi => ?_
  unfold inS
  by_cases q : p i = true
  · rw [if_pos (List.mem_filter.2 ⟨List.mem_range.2 hi, q⟩), if_pos q]
  · rw [if_neg fun z => q (List.mem_filter.1 z).2, if_neg q]
theorem nin_iNx {b : Bool} {x : Nat} {c : List Nat} : cmpD .nin (.int x) (W b (iN c)) h = .ok (.bl (!decide (x ∈ c))) h := by
  simp only [cmpD, items_W]
  rw [if_pos (by simp [flatD, iN])]
  unfold iN
  rw [memD_iN]
theorem c_crossing {n : Nat} {c : F2} {S : List Nat} (hn : n ≤ 1000) (nd : S.Nodup) (lt : ∀ x ∈ S, x < n) : callM true (run tb (k + 1)) 23 [tabD true true n c, W true (iN S)] h = .ok (.int (sS S fun i => sg n fun j => if j ∈ S then 0 else c i j)) h := by
  refine call_nc (h' := []) (ncs_two (nc_tabD _ _ _ _) (nc_iNW _ _)) ?_ rfl
  rw [u_crossing_sum rfl]
  apply eq_wr
  have sz : S.length ≤ SZ := Nat.le_trans (pigeon n S nd lt) (le_SZ hn)
  have i0 : ∀ h : CH, itR (W true (iN S)) h = .ok (S.map (fun x : Nat => D.int x), none) h := fun h => by rw [itR_of (items_W _ _), ck_W]; rfl
  simp [b_crossing_sum, envOf, e_comp, i0]
  refine wr_map (fun x : Nat => D.int (sg n fun j => if j ∈ S then 0 else c x j)) rfl (fun x hx => ?_) ?_
  · have xl := lt x hx
    simp [tab_row xl, e_comp, it_enumR]
    refine wr_comp (l := List.range n) (g := fun j : Nat => D.tup [.int j, .int (c x j)]) (fun j => decide (j ∉ S)) (fun j => .int (c x j)) rfl (fun j hj => ?_) ?_
    · have ni : ∀ h : CH, cmpD .nin (.int (j : Nat)) (W true (iN S)) h = .ok (.bl (!decide (j ∈ S))) h := fun h => nin_iNx
      simp [ni]
      exact Classical.em _
    · have fz : ((List.range n).filter fun j => decide (j ∉ S)).length ≤ SZ := Nat.le_trans (List.length_filter_le _ _) (by simpa using le_SZ hn)
      have e := sS_filt (n := n) (fun j => decide (j ∉ S)) (c x)
      have fe : (fun j => decide (j ∉ S)) = fun j => !decide (j ∈ S) := by funext j; simp
      rw [fe] at fz e ⊢
      simp [fz, sum_ls, e]
  · simp [sz, sum_ls]
theorem c_room_in {a b b' b3 : Bool} {n : Nat} {c : F2} {s : Nat → Int} {S : List Nat} (hn1 : 1 ≤ n) (hn : n ≤ 1000) (B : Bnd n c) (s0 : sg n s = 0) (nd : S.Nodup) (lt : ∀ x ∈ S, x < n) : callM true (run tb (k + 4)) 8 [tabD a b n c, vD b' n s, W b3 (iN S)] h = .ok (.int (room n c s S)) h := by
  refine call_nc (h' := []) (ncs_three (nc_tabD _ _ _ _) (nc_vec _ _ _) (nc_iNW _ _)) ?_ rfl
  rw [u_room_in rfl]
  apply eq_wr
  have pm := srtN_perm S
  have nd' := pm.nodup_iff.2 nd
  have lt' : ∀ x ∈ srtN S, x < n := fun x hx => lt x (pm.mem_iff.1 hx)
  have sz : (srtN S).length ≤ SZ := Nat.le_trans (pigeon n _ nd' lt') (le_SZ hn)
  have i0 : ∀ h : CH, itR (W true (iN (srtN S))) h = .ok ((srtN S).map (fun x : Nat => D.int x), none) h := fun h => by rw [itR_of (items_W _ _), ck_W]; rfl
  simp [b_room_in, envOf, c_bounds_and_scores hn1 hn B s0, c_set_of hn nd lt, c_crossing hn nd' lt', e_comp, i0]
  refine wr_map (fun x : Nat => D.int (s x)) rfl (fun x hx => by simp [vec_at (lt' x hx)]) ?_
  simp [sz, sum_ls]
  have e : room n c s S = room n c s (srtN S) := by
    unfold room
    exact sg_congr fun i _ => by simp only [pm.mem_iff]
  rw [e, room_sS nd' lt']
  have e2 := sS_lin (fun i => sg n fun j => if j ∈ srtN S then 0 else c i j) s 1 (srtN S)
  simp only [Int.mul_one] at e2
  rw [e2]

end ZK53

end
section
namespace ZK53
open Z
variable {h : CH} {k : Nat}
theorem c_is_die {b : Bool} {m : Nat} {x : Nat → Int} (hm : m ≤ 1000) (nn : ∀ r, r < m → 0 ≤ x r) (ps : 0 < sg m x) : callM true (run tb (k + 2)) 39 [vD b m x] h = .ok (.bl true) h := by
  refine call_nc (h' := []) (ncs_one (nc_vec _ _ _)) ?_ rfl
  rw [u_is_die rfl]
  apply eq_wr
  simp [b_is_die, envOf, e_comp]
  refine wr_mapR (fun r => .bl true) rfl (fun r hr => by have := nn r hr; simp [this]) ?_
  have al : ∀ (q : Bool) (h : CH), biD .all q [.lst ((List.range m).map fun _ => D.bl true)] h = .ok (.bl true) h := fun q h => by
    have e : ((List.range m).map fun _ => D.bl true) = ((List.range m).map fun _ => true).map .bl := by simp
    simp only [biD, one1, blsL, lstOf, e, blsOf_map]
    simp
  have sm : (vec m x).sum = sg m x := rfl
  simp [le_SZ hm, al, sm, ps]
theorem isi_W (b : Bool) (ds : List D) (c : Nat) : isiR h (W b ds) [.own c] = .ok (.bl false) h := by cases b <;> simp [isiR, isiAny, isiV, isiD, noIns, W]
@[simp] theorem isi_rec (a b : Bool) (n m : Nat) (f : F2) (c : Nat) : isiR h (recD a b n m f) [.own c] = .ok (.bl false) h := isi_W _ _ _
@[simp] theorem isi_cup (c n m : Nat) (f : F2) : isiR h (cupD c n m f) [.own c] = .ok (.bl true) h := by simp [isiR, isiAny, isiV, isiD, cupD]
theorem r_dice_of {a b : Bool} {n m : Nat} {f : F2} (d : Dice n m f) : run tb (k + 3) 35 [recD a b n m f] h = .ok (recD true true n m f) h := by
  rw [u_dice_of rfl]
  apply eq_wr
  have n0 : ¬ n = 0 := by have := d.n1; omega
  have i1 : callM true (run tb (k + 2)) 19 [recD a b n m f] h = .ok (.bl true) h := c_is_row a (ncs_map _ fun i => nc_W b (ncs_iL _))
  have e0 : itD .enum [recD a b n m f] h = .ok ((List.range n).map (fun i : Nat => D.tup [.int i, W b (iL (rowF m f i))]), none) h := enum_rec a b n m f
  simp [b_dice_of, envOf, s_fr, n0, i1, e0]
  refine ws_chkR (fun _ => True) rfl (fun i hi _ => ?_) fun _ => ?_
  · have dd : callM true (run tb (k + 2)) 39 [W b (iL (rowF m f i))] h = .ok (.bl true) h := c_is_die (x := f i) d.m8 (fun r hr => d.nn i r hi hr) (d.ps i hi)
    have x0 : ixV (recD a b n m f) (.int 0) h = .ok (W b (iL (rowF m f 0))) h := rec_row0 d.n1
    have l0 : ∀ i, biD .len false [W b (iL (rowF m f i))] h = .ok (.int (m : Nat)) h := fun i => len_row b m f i
    simp [dd, x0, l0]
  · simp [e_comp]
    refine wr_mapR (fun i => tR (rowF m f i)) rfl (fun i hi => by simp [tuple_ok (items_W _ _)]) ?_
    simp [le_SZ d.n8, biD, recD, W]
theorem c_dice_of {a b : Bool} {n m : Nat} {f : F2} (d : Dice n m f) : callM true (run tb (k + 3)) 35 [recD a b n m f] h = .ok (recD true true n m f) h := call_nc (ncs_one (nc_rec _ _ _ _ _)) (r_dice_of d) (nc_rec _ _ _ _ _)
theorem c_dice_ofC {n m : Nat} {f : F2} : callM true (run tb (k + 1)) 35 [cupD 0 n m f] h = .ok (recD true true n m f) h := by
  refine call_nc (h' := []) (ncs_one (nc_cup _ _ _ _)) ?_ (nc_rec _ _ _ _ _)
  rw [u_dice_of rfl]
  apply eq_wr
  have i0 : isiR ([] : CH) (cupD 0 n m f) [.own 0] = .ok (.bl true) [] := isi_cup _ _ _ _
  simp [b_dice_of, envOf, i0]
  simp [cupD]
/-- a cup, or dice -/
inductive CupLike (n m : Nat) (f : F2) : D → Prop
  | cup : CupLike n m f (cupD 0 n m f)
  | dice (a b : Bool) : CupLike n m f (recD a b n m f)
theorem CupLike.nc {n m : Nat} {f : F2} {x : D} (c : CupLike n m f x) : x.nc = true := by cases c <;> simp
theorem c_dice_any {n m : Nat} {f : F2} {x : D} (d : Dice n m f) (c : CupLike n m f x) : callM true (run tb (k + 3)) 35 [x] h = .ok (recD true true n m f) h := by
  cases c with
  | cup => exact c_dice_ofC
  | dice a b => exact c_dice_of d

end ZK53

end
section
namespace ZK53
open Z
variable {h : CH} {k : Nat}
/-- Cup(..), not settled yet -/
theorem c_mk {a b : Bool} {n m : Nat} {f : F2} (d : Dice n m f) : mkV (run tb (k + 4)) 0 34 [recD a b n m f] h = .ok (.cell h.length) (h ++ [.ins 0 [recD true true n m f, .int (m : Nat)]]) := by
  unfold mkV
  have e : run tb (k + 4) 34 [.cell h.length, recD a b n m f] (h ++ [.ins 0 []]) = .ok .non (h ++ [.ins 0 [recD true true n m f, .int (m : Nat)]]) := by
    rw [u_Cup_init rfl]
    apply eq_wr
    have f1 : fsetV (.cell h.length) 0 0 (recD true true n m f) (h ++ [.ins 0 []]) = some (h ++ [.ins 0 [recD true true n m f]]) := by
      rw [fset_cell (new_at h _) (by simp) (by simp)]
      simp
    have f2 : fsetV (.cell h.length) 0 1 (.int (m : Nat)) (h ++ [.ins 0 [recD true true n m f]]) = some (h ++ [.ins 0 [recD true true n m f, .int (m : Nat)]]) := by
      rw [fset_cell (new_at h _) (by simp) (by simp)]
      simp
    have g1 : fldV (.cell h.length) 0 0 (h ++ [.ins 0 [recD true true n m f]]) = .ok (recD true true n m f) (h ++ [.ins 0 [recD true true n m f]]) := fld_cell (new_at h _) rfl
    have x0 : ∀ h : CH, ixV (recD true true n m f) (.int 0) h = .ok (W true (iL (rowF m f 0))) h := fun h => rec_row0 d.n1
    simp [b_Cup_init, envOf, c_dice_of d, fsR_ok f1, g1, x0, fsR_ok f2]
  rw [e]
  rfl
theorem c_fzmk {n m : Nat} {f : F2} : fzV (.cell h.length) (h ++ [.ins 0 [recD true true n m f, .int (m : Nat)]]) = .ok (cupD 0 n m f) (h ++ [.dead]) := fz_new (n := 3) (by decide) (pls_cup n m f)

end ZK53

end
section
namespace ZK53
open Z
variable {h : CH} {k : Nat}
def dkF (w : List Nat) : F2 := fun i r => if w[r]?.getD 0 = i then 1 else 0
structure Word (many : Nat) (w : List Nat) : Prop where
  n1 : 1 ≤ many
  n9 : many ≤ 900
  lt : ∀ x ∈ w, x < many
  al : ∀ x, x < many → x ∈ w
  sm : w.length ≤ 900
theorem Word.m1 {many : Nat} {w : List Nat} (K : Word many w) : 1 ≤ w.length := by
  have := K.al 0 K.n1
  cases w with
  | nil => exact (List.not_mem_nil this).elim
  | cons a r => simp
theorem Word.dice {many : Nat} {w : List Nat} (K : Word many w) : Dice many w.length (dkF w) := by
  refine ⟨K.n1, by have := K.n9; omega, by have := K.sm; omega, fun i r _ _ => by unfold dkF; split <;> omega, fun i hi => ?_⟩
  obtain ⟨r, hr, e⟩ := List.getElem_of_mem (K.al i hi)
  have := sg_term (n := w.length) (g := dkF w i) (fun r _ => by unfold dkF; split <;> omega) hr
  have e1 : dkF w i r = 1 := by unfold dkF; rw [List.getElem?_eq_getElem hr]; simp [e]
  omega
def dstep (l : List Int) (x : Int) : List Int := if l.any (· == x) then l else l ++ [x]
theorem dst_all : ∀ (ns l : List Int) (x : Int), (x ∈ l ∨ x ∈ ns) → x ∈ ns.foldl dstep l
  | [], l, x, h => h.elim id fun z => (List.not_mem_nil z).elim
  | y :: r, l, x, h => by
    rw [List.foldl_cons]
    refine dst_all r _ x ?_
    rcases h with h | h
    · left
      unfold dstep
      split
      · exact h
      · exact List.mem_append_left _ h
    · rcases List.mem_cons.1 h with rfl | h
      · left
        unfold dstep
        split
        · rename_i q
          obtain ⟨z, hz, e⟩ := List.any_eq_true.1 q
          rw [eq_of_beq e] at hz
          exact hz
        · exact List.mem_append_right _ (by simp)
      · exact .inr h
theorem Word.dst {many : Nat} {w : List Nat} (K : Word many w) : many ≤ Z.dst (w.map fun x : Nat => (x : Int)) := by
  show many ≤ ((w.map fun x : Nat => (x : Int)).foldl dstep []).length
  have nd : ((List.range many).map fun x : Nat => (x : Int)).Nodup := List.Pairwise.map _ (fun a b ne e => ne (by omega)) List.nodup_range
  have := nd.length_le_of_subset (l₂ := (w.map fun x : Nat => (x : Int)).foldl dstep []) fun x hx => by
    obtain ⟨y, hy, rfl⟩ := List.mem_map.1 hx
    exact dst_all _ _ _ (.inr (List.mem_map.2 ⟨y, K.al y (List.mem_range.1 hy), rfl⟩))
  simpa using this
theorem c_letters {many : Nat} {w : List Nat} (K : Word many w) : callM true (run tb (k + 2)) 33 [.lst (iN w), .int many] h = .ok (W true (iN w)) h := by
  refine call_nc (h' := []) (by simp [ncs, D.nc, nc_iN]) ?_ (nc_iNW _ _)
  rw [u_letters_of rfl]
  apply eq_wr
  have r0 : ∀ h : CH, callM true (run tb (k + 1)) 19 [.lst (iN w)] h = .ok (.bl true) h := fun h => c_is_row false (nc_iN w)
  have en : ∀ h : CH, itD .enum [.lst (iN w)] h = .ok ((List.range w.length).map (fun i : Nat => D.tup [.int i, .int ((w[i]?.getD 0 : Nat) : Int)]), none) h := fun h => it_enumN false w
  have ls : ∀ h : CH, lsetV (.lst (iN w)) h = .ok (.int (Z.dst (w.map fun x : Nat => (x : Int)) : Nat)) h := fun h => by
    have := K.sm
    simp only [lsetV, lstOf, intsOf_iN]
    rw [if_pos (by simp; omega)]
  have dd := K.dst
  have nl : ¬ (Z.dst (w.map fun x : Nat => (x : Int)) : Int) < many := by omega
  have t0 : ∀ h : CH, biD .tuple false [.lst (iN w)] h = .ok (W true (iN w)) h := fun h => tuple_ok rfl
  simp [b_letters_of, envOf, s_fr, r0, en]
  refine ws_chkR (fun _ => True) rfl (fun i hi _ => ?_) fun _ => ?_
  · have l1 := K.lt _ (List.getElem_mem hi)
    have l2 : ¬ (many : Int) ≤ (w[i] : Nat) := by omega
    simp [hi, l2]
  · simp [ls, nl, t0]
theorem c_of_word {many : Nat} {w : List Nat} (K : Word many w) : callM true (run tb (k + 6)) 27 [.typ 0, .lst (iN w), .int many] h = .ok (cupD 0 many w.length (dkF w)) h := by
  have n1 := K.n1
  have dd := K.dice
  obtain ⟨d, h', e, rfl⟩ : WR (run tb (k + 6) 27 [.typ 0, .lst (iN w), .int many] []) fun d _ => d = cupD 0 many w.length (dkF w) := by
    rw [u_Cup_of_word rfl]
    have ci : ∀ h : CH, callM true (run tb (k + 5)) 25 [.int many, .str "many", .int 1] h = .ok (.int many) h := fun h => by
      refine call_nc (h' := []) rfl ?_ rfl
      rw [u_check_int rfl]
      apply eq_wr
      have l1 : ¬ (many : Int) < 1 := by omega
      simp [b_check_int, envOf, l1]
    have hz : many ≤ SZ := le_SZ (by have := K.n9; omega)
    have wz : w.length ≤ SZ := le_SZ (by have := K.sm; omega)
    have i0 : ∀ h : CH, itR (W true (iN w)) h = .ok (w.map (fun x : Nat => D.int x), none) h := fun h => by rw [itR_of (items_W _ _), ck_W]; rfl
    have ib : ∀ (b : Bool) (h : CH), biD .int false [.bl b] h = .ok (.int (if b then 1 else 0)) h := fun b h => by cases b <;> rfl
    simp [b_Cup_of_word, envOf, ci, c_letters K, e_comp, it_rngN (show many ≤ 1000 by have := K.n9; omega)]
    refine wr_mapR (fun i => W false (iL (rowF w.length (dkF w) i))) rfl (fun i hi => ?_) ?_
    · simp [e_comp, i0]
      refine wr_map (fun x : Nat => D.int (if x = i then 1 else 0)) rfl (fun x hx => ?_) ?_
      · have c0 : ((x : Int) = i) ↔ x = i := by omega
        by_cases q : x = i <;> simp [q, c0, ib]
      · simp [wz]
        have : w.map (fun x : Nat => D.int (if x = i then 1 else 0)) = iL (rowF w.length (dkF w) i) := by
          unfold iL rowF
          apply List.ext_getElem?
          intro r
          simp only [List.getElem?_map]
          rcases Nat.lt_or_ge r w.length with z | z
          · rw [List.getElem?_range z, List.getElem?_eq_getElem z]
            simp [dkF, z]
          · rw [List.getElem?_eq_none z, List.getElem?_eq_none (by simpa using z)]; rfl
        rw [this]; rfl
    · have rc : D.lst ((List.range many).map fun i => W false (iL (rowF w.length (dkF w) i))) = recD false false many w.length (dkF w) := rfl
      simp [hz, rc]
      rw [c_mk (k := k + 1) dd, wr_ok, c_fzmk, wr_ok]
  exact call_nc (by simp [ncs, D.nc, nc_iN]) e (nc_cup _ _ _ _)

end ZK53

end
section
namespace ZK53
open Z
variable {h : CH} {k : Nat}
theorem zip_vec (m : Nat) (x y : Nat → Int) : ∀ l : List Nat, zipL (l.map fun i => D.int (x i)) (l.map fun i => D.int (y i)) = l.map fun i => D.tup [.int (x i), .int (y i)]
  | [] => rfl
  | a :: l => by simp only [List.map_cons, zipL, zip_vec m x y l]
theorem c_count_lead {j m : Nat} {x y : Nat → Int} (X : Lb j m x) (Y : Lb j m y) (hj : j ≤ 390000) : callM true (run tb (k + 1)) 36 [vD true m x, vD true m y] h = .ok (.int (lead m x y)) h := by
  refine call_nc (h' := []) (ncs_two (nc_vec _ _ _) (nc_vec _ _ _)) ?_ rfl
  rw [u_count_lead rfl]
  apply eq_wr
  have z0 : itD .zip [vD true m x, vD true m y] ([] : CH) = .ok ((List.range m).map (fun i => D.tup [.int (x i), .int (y i)]), none) [] := by
    show (if (iL (vec m x)).length = (iL (vec m y)).length then R.ok (zipL (iL (vec m x)) (iL (vec m y)), (none : Ck)) [] else .no) = _
    rw [if_pos (by simp [vec_len]), iL_vec, iL_vec, zip_vec m]
  simp [b_count_lead, envOf, s_fr, z0]
  refine ws_rngS (fun i => [some (vD true m x), some (vD true m y), some (.int (lead i x y)), some (.int (sg i x)), some (.int (sg i y)), none, none]) rfl rfl (fun i hi => ?_) ?_
  · have m1 : ∀ h : CH, binD .mul false (.int (x i)) (.int (sg i y)) h = .ok (.int (x i * sg i y)) h := fun h => mulB (X.at_ hi) (Y.to (Nat.le_of_lt hi)) (by omega) (by omega)
    have m2 : ∀ h : CH, binD .mul false (.int (y i)) (.int (sg i x)) h = .ok (.int (y i * sg i x)) h := fun h => mulB (Y.at_ hi) (X.to (Nat.le_of_lt hi)) (by omega) (by omega)
    simp [asgTg, m1, m2, lead_succ, sg_succ]
    omega
  · simp

end ZK53

end
section
namespace ZK53
open Z
variable {h : CH} {k : Nat}
theorem rowF_cg {n i : Nat} {f g : F2} (e : ∀ j, j < n → f i j = g i j) : rowF n f i = rowF n g i := List.map_congr_left fun j hj => e j (List.mem_range.1 hj)
theorem Mx_cg {m n : Nat} {cs : Nat → Nat} {f g : F2} (M : Mx h m cs n f) (e : ∀ i j, i < n → j < n → f i j = g i j) : Mx h m cs n g := ⟨M.top, fun i hi => by rw [← rowF_cg fun j hj => e i j hi hj]; exact M.row i hi, M.inj, M.out⟩
def tbP (i j a b : Nat) : Bool := decide (min a b < i ∨ (min a b = i ∧ max a b < i + 1 + j))
def tbF (L : F2) (i j : Nat) : F2 := fun a b => if tbP i j a b then L a b else 0
theorem tbF_step {n : Nat} {L : F2} (sk : Skew n L) {i j : Nat} (hj : i + 1 + j < n) (a b : Nat) (ha : a < n) (hb : b < n) : stF (stF (tbF L i j) i (i + 1 + j) (L i (i + 1 + j))) (i + 1 + j) i (-L i (i + 1 + j)) a b = tbF L i (j + 1) a b := by
  unfold stF tbF tbP
  by_cases h1 : a = i + 1 + j ∧ b = i
  · obtain ⟨rfl, rfl⟩ := h1
    have := sk (b + 1 + j) b ha hb
    rw [if_pos ⟨rfl, rfl⟩, if_pos (decide_eq_true (by omega))]
    omega
  · rw [if_neg h1]
    by_cases h2 : a = i ∧ b = i + 1 + j
    · obtain ⟨rfl, rfl⟩ := h2
      rw [if_pos ⟨rfl, rfl⟩, if_pos (decide_eq_true (by omega))]
    · rw [if_neg h2]
      have e : (min a b < i ∨ (min a b = i ∧ max a b < i + 1 + j)) ↔ (min a b < i ∨ (min a b = i ∧ max a b < i + 1 + (j + 1))) := by omega
      simp only [e]
theorem tbF_next {n : Nat} {L : F2} (sk : Skew n L) {i : Nat} (a b : Nat) (ha : a < n) (hb : b < n) : tbF L i (n - (i + 1)) a b = tbF L (i + 1) 0 a b := by
  unfold tbF tbP
  by_cases e : a = b ∧ a = i + 1
  · obtain ⟨rfl, rfl⟩ := e
    have := sk (i + 1) (i + 1) ha ha
    rw [if_neg (by simp <;> omega), if_pos (decide_eq_true (by omega))]
    omega
  · have : (min a b < i ∨ (min a b = i ∧ max a b < i + 1 + (n - (i + 1)))) ↔ (min a b < i + 1 ∨ (min a b = i + 1 ∧ max a b < i + 1 + 1 + 0)) := by omega
    simp only [this]
theorem tbF_zero {n : Nat} {L : F2} (sk : Skew n L) (a b : Nat) (ha : a < n) : tbF L 0 0 a b = 0 := by
  unfold tbF tbP
  by_cases e : a = 0 ∧ b = 0
  · obtain ⟨rfl, rfl⟩ := e
    have := sk 0 0 ha ha
    split <;> omega
  · rw [if_neg (by simp <;> omega)]
theorem tbF_end {n : Nat} (L : F2) (a b : Nat) (ha : a < n) (hb : b < n) : tbF L n 0 a b = L a b := by
  unfold tbF tbP
  rw [if_pos (decide_eq_true (by omega))]
theorem zeros (n : Nat) : (List.replicate n [D.int 0]).flatten = iL (rowF n (fun _ _ => 0) 0) := by
  unfold rowF
  induction n with
  | zero => rfl
  | succ n ih => rw [List.replicate_succ', List.flatten_append, ih, List.range_succ]; simp
theorem c_table_of {j n m : Nat} {f : F2} {x : D} (d : Dice n m f) (cl : CupLike n m f x) (X : ∀ i, i < n → Lb j m (f i)) (hj : j ≤ 390000) : callM true (run tb (k + 4)) 28 [x] h = .ok (tabD true true n fun a b => lead m (f a) (f b)) h := by
  obtain ⟨d0, h', e, rfl⟩ : WR (run tb (k + 4) 28 [x] []) fun d _ => d = tabD true true n fun a b => lead m (f a) (f b) := by
    rw [u_table_of rfl]
    have hn := d.n8
    have sk := lead_skew m n f
    have m0 : ∀ h : CH, binD .mul true (.lst [.int 0]) (.int (n : Nat)) h = .ok (.cell h.length) (h ++ [.lst (iL (rowF n (fun _ _ => 0) 0))]) := fun h => by
      show (if 1 * ((n : Nat) : Int).toNat ≤ SZ ∧ ((n : Nat) : Int) ≤ SZ ∧ 0 ≤ ((n : Nat) : Int) then newL true (List.replicate ((n : Nat) : Int).toNat [D.int 0]).flatten h else .no) = _
      have hz := le_SZ hn
      rw [if_pos ⟨by simpa using hz, by omega, by omega⟩]
      simp only [Int.toNat_natCast, zeros, newL_t]
    simp [b_table_of, envOf, e_comp, c_dice_any d cl]
    rw [comp_cells (G := fun i => Cell.lst (iL (rowF n (fun _ _ => 0) i))) (fun l => rfl) (fun i l hi hl => by
      simp [m0]
      rfl)]
    simp [le_SZ hn, s_fr, it_rngN hn]
    have M0 := Mx.new [] n (fun _ _ => 0)
    simp at M0
    generalize hL : (fun a b => lead m (f a) (f b)) = L at *
    refine ws_rng (fun i env hh => env = [some x, some (recD true true n m f), some (.int (n : Nat)), some (.cell n), none, none, none, none] ∧ Mx hh n (fun i => i) n (tbF L i 0)) ?_ ?_ ?_ ?_
    · refine ⟨rfl, Mx_cg M0 fun a b ha hb => (tbF_zero sk a b ha).symm⟩
    · exact fun _ _ _ _ _ => rfl
    · rintro i env hh hi ⟨rfl, M⟩
      simp [s_fr, it_rngU hi hn]
      refine ws_rng (fun j env hh => env = [some x, some (recD true true n m f), some (.int (n : Nat)), some (.cell n), some (.int i), none, none, none] ∧ Mx hh n (fun i => i) n (tbF L i j)) ?_ ?_ ?_ ?_
      · exact ⟨rfl, M⟩
      · exact fun _ _ _ _ _ => rfl
      · clear M hh
        rintro j' env hh hj' ⟨rfl, M⟩
        have jn : i + 1 + j' < n := by omega
        have ej : (i : Int) + 1 + (j' : Int) = ((i + 1 + j' : Nat) : Int) := by omega
        have stp := fun a b ha hb => tbF_step sk jn a b ha hb
        simp only [asg_nm, oT_some, ej]
        generalize hu : i + 1 + j' = u at *
        have lc : ∀ h : CH, callM true (run tb (k + 3)) 36 [W true (iL (rowF m f i)), W true (iL (rowF m f u))] h = .ok (.int (L i u)) h := fun h => by rw [← hL]; exact c_count_lead (X i hi) (X _ jn) hj
        obtain ⟨h1, h2, a1, a2, a3, a4, a5⟩ := put2v M hi jn (L i u) (-L i u)
        simp [rec_row hi, rec_row jn, lc, M.at_row hi, a1, a2.at_row jn, a3]
        exact Mx_cg a4 stp
      · rintro env hh ⟨rfl, M⟩
        exact ⟨rfl, Mx_cg M fun a b ha hb => tbF_next sk a b ha hb⟩
    · rintro env hh ⟨rfl, M⟩
      have M := Mx_cg M fun a b ha hb => tbF_end L a b ha hb
      have i0 : itR (.cell n) hh = .ok ((List.range n).map (fun i => D.cell i), some (n, (List.range n).map fun i => .cell i)) hh := itR_of (ds := (List.range n).map fun i => .cell i) (by simp only [items, M.top])
      simp [e_comp, i0]
      refine wr_mapR (fun i => tR (rowF n L i)) (ck_cell M.top) (fun i hi => ?_) ?_
      · have t0 : ∀ q, biD .tuple q [.cell i] hh = .ok (tR (rowF n L i)) hh := fun q => tuple_ok (ds := iL (rowF n L i)) (by simp only [items, M.row i hi])
        simp [t0]
      · simp [le_SZ hn, biD, tabD, W]
  exact call_nc (ncs_one cl.nc) e (nc_tabD _ _ _ _)

end ZK53

end
section
namespace ZK53
open Z
variable {h : CH} {k : Nat}
theorem c_checked {n m : Nat} {f : F2} {x : D} (d : Dice n m f) (c : CupLike n m f x) : callM true (run tb (k + 4)) 37 [x] h = .ok (recD true true n m f) h := by
  refine call_nc (h' := []) (ncs_one c.nc) ?_ (nc_rec _ _ _ _ _)
  rw [u_Cup_checked rfl]
  apply eq_wr
  simp [b_Cup_checked, envOf, c_dice_any d c]

end ZK53

end
section
namespace ZK53
open Z
variable {h : CH} {k : Nat}
theorem c_face_numbers {n m : Nat} {f : F2} {x : D} (d : Dice n m f) (cl : CupLike n m f x) : callM true (run tb (k + 5)) 29 [x] h = .ok (vD true n fun i => sg m (f i)) h := by
  refine call_nc (h' := []) (ncs_one cl.nc) ?_ (nc_vec _ _ _)
  rw [u_face_numbers rfl]
  apply eq_wr
  simp [b_face_numbers, envOf, e_comp, c_checked d cl]
  refine wr_mapR (fun i => .int (sg m (f i))) rfl (fun i hi => ?_) ?_
  · have s0 : ∀ (q : Bool) (h : CH), biD .sum q [W true (iL (rowF m f i))] h = .ok (.int (sg m (f i))) h := fun q h => sum_ok (items_W _ _)
    simp [s0]
  · simp [le_SZ d.n8, biD, vD, W, iL_vec]

end ZK53

end
section
namespace ZK53
open Z
variable {h : CH} {k : Nat}
@[simp] theorem c_faces_row {b : Bool} {n : Nat} {fa : Nat → Int} (hn : 1 ≤ n) (fp : ∀ i, i < n → 1 ≤ fa i) : callM true (run tb (k + 2)) 26 [vD b n fa] h = .ok (vD true n fa) h := by
  refine call_nc (h' := []) (ncs_one (nc_vec _ _ _)) ?_ (nc_vec _ _ _)
  rw [u_faces_row rfl]
  apply eq_wr
  have n0 : ¬ n = 0 := by omega
  simp [b_faces_row, envOf, s_fr, n0]
  refine ws_chkR (fun _ => True) rfl (fun i hi _ => ?_) fun _ => ?_
  · have := fp i hi
    have e : ¬ fa i < 1 := by omega
    simp [e]
  · simp

end ZK53

end
section
namespace ZK53
open Z
variable {h : CH} {k : Nat}
theorem c_product_bounds {b : Bool} {n : Nat} {fa : Nat → Int} (hn1 : 1 ≤ n) (hn : n ≤ 1000) (fp : ∀ i, i < n → 1 ≤ fa i ∧ fa i ≤ 100) : callM true (run tb (k + 3)) 14 [vD b n fa] h = .ok (tabD true true n (fcp fa)) h := by
  refine call_nc (h' := []) (ncs_one (nc_vec _ _ _)) ?_ (nc_tabD _ _ _ _)
  rw [u_product_bounds rfl]
  apply eq_wr
  have hz := le_SZ hn
  have fr := fun h : CH => c_faces_row (k := k) (h := h) (b := b) hn1 fun i hi => (fp i hi).1
  simp [b_product_bounds, envOf, e_comp, fr, it_rngN hn]
  refine wr_mapR (fun i => W true (iL (rowF n (fcp fa) i))) rfl (fun i hi => ?_) ?_
  · simp [e_comp, it_rngN hn]
    refine wr_mapR (fun j => .int (fcp fa i j)) rfl (fun j hj => ?_) ?_
    · have h1 := fp i hi
      have m1 : ∀ h : CH, binD .mul false (.int (fa i)) (.int (fa j)) h = .ok (.int (fa i * fa j)) h := fun h => mul_ok (mulOk_l (by omega) (by omega))
      have e : ((i : Int) = (j : Nat)) ↔ i = j := by omega
      by_cases z : i = j
      · subst z; simp [fcp]
      · simp [vec_at hi, vec_at hj, m1, fcp, z, e]
    · have t0 : ∀ h : CH, biD .tuple false [.lst ((List.range n).map fun j => D.int (fcp fa i j))] h = .ok (W true (iL (rowF n (fcp fa) i))) h := fun h => by
        rw [tuple_ok (ds := (List.range n).map fun j => D.int (fcp fa i j)) rfl, ← iL_vec]; rfl
      simp [hz, t0]
  · have t0 : ∀ (ds : List D) (h : CH), biD .tuple false [.lst ds] h = .ok (.tup ds) h := fun ds h => tuple_ok rfl
    simp [hz, t0, tabD, W]

end ZK53

end
section
namespace ZK53
open Z
variable {h : CH} {k : Nat}
theorem deck_par {x y : Nat → Int} : ∀ m, (∀ r, r < m → x r * y r = 0) → ∃ t, sg m x * sg m y - lead m x y = 2 * t
  | 0, _ => ⟨0, by simp [sg_zero]; rfl⟩
  | m + 1, h => by
    obtain ⟨t, e⟩ := deck_par m fun r hr => h r (by omega)
    have z := h m (by omega)
    refine ⟨t + y m * sg m x, ?_⟩
    rw [lead_succ, sg_succ, sg_succ]
    grind
theorem ab_ok {P L t : Int} (h1 : -P ≤ L) (h2 : L ≤ P) (h3 : P - L = 2 * t) : ¬ P < (if L < 0 then -L else L) ∧ ¬ (P - L) % 2 = 1 := ⟨by split <;> omega, by omega⟩
theorem c_deck {q : Nat} (d : Drw q h) {Q : D → CH → Prop} (go : ∀ h', DrK q h h' → Q (.bl true) h') : WR (callM false (run tb (k + 7)) 15 [.cell q] h) Q := by
  refine wr_heap ?_
  rw [u_law_deck_full rfl]
  simp [b_law_deck_full, envOf, s_fr, e_comp]
  refine c_take d (by decide) fun r1 h1 r10 r11 D1 => ?_
  obtain ⟨t1, rfl⟩ := Int.eq_ofNat_of_zero_le r10
  have ad : binD .add false (.int 2) (.int (t1 : Nat)) h1 = .ok (.int ((2 + t1 : Nat) : Int)) h1 := by
    show R.ok (D.int (2 + (t1 : Int))) h1 = _
    congr 2
  rw [ad]
  generalize hn : 2 + t1 = n
  have n1 : 2 ≤ n := by omega
  have n4 : n ≤ 4 := by omega
  simp [it_rngN (show n ≤ 1000 by omega)]
  refine wr_mapR (fun i => .int (i : Nat)) rfl (fun i hi => by simp) ?_
  have ql := d.lt
  have D1K := D1.toK
  have dl := D1.len
  have z0 : (List.range n).map (fun i : Nat => D.int i) = iN (List.range n) := rfl
  have D2 : DrK q h (h1 ++ [.lst (iN (List.range n))]) := D1K.push ql _
  have zz : (h1 ++ [Cell.lst (iN (List.range n))])[h1.length]? = some (.lst (iN (List.range n))) := by simp
  have zq : h1.length ≠ q := by omega
  have zl : h.length ≤ h1.length := by omega
  rw [z0]
  simp [le_SZ (show n ≤ 1000 by omega)]
  generalize h1 ++ [Cell.lst (iN (List.range n))] = h2 at D2 zz ⊢
  generalize h1.length = z at zz zq zl ⊢
  refine c_take D2.drw (by decide) fun r2 h3 r20 r21 D3 => ?_
  obtain ⟨t2, rfl⟩ := Int.eq_ofNat_of_zero_le r20
  simp [it_rngN (show t2 ≤ 1000 by omega)]
  have D4 := D2.trans D3.toK
  have zz3 : h3[z]? = some (.lst (iN (List.range n))) := (D3.oth z zq).trans zz
  refine ws_rng (fun i env hh => env = [some (.cell q), some (.int n), some (.cell z), none, none, none] ∧ ∃ w, Word n w ∧ w.length = n + i ∧ hh[z]? = some (.lst (iN w)) ∧ DrK q h hh) ⟨rfl, List.range n, ⟨by omega, by omega, fun x hx => List.mem_range.1 hx, fun x hx => List.mem_range.2 hx, by simp; omega⟩, by simp, zz3, D4⟩ (fun _ _ _ _ _ => rfl) ?_ ?_
  · rintro i env hh hi ⟨rfl, w, K, wl, hz, D5⟩
    have ln : biD .len false [.cell z] hh = .ok (.int ((n + i : Nat) : Int)) hh := by rw [len_ok (ds := iN w) (by simp only [items, hz]), iN_len, wl]
    simp [ln]
    refine c_take D5.drw (by omega) fun r3 h4 r30 r31 D6 => ?_
    obtain ⟨p, rfl⟩ := Int.eq_ofNat_of_zero_le r30
    refine c_take D6.drw (by omega) fun r4 h5 r40 r41 D7 => ?_
    obtain ⟨x, rfl⟩ := Int.eq_ofNat_of_zero_le r40
    have hz5 : h5[z]? = some (.lst (iN w)) := (D7.oth z zq).trans ((D6.oth z zq).trans hz)
    have D8 := D5.trans (D6.trans D7).toK
    have ins : mthR (.cell z) .insert [.int (p : Nat), .int (x : Nat)] h5 hh = .ok .non (h5.set z (.lst (iN (w.take p ++ [x] ++ w.drop p)))) := by
      have K1 := K.sm
      simp only [mthR, mthD, onCell, lstOf, two2, hz, hz5, Option.isSome_some, if_true]
      rw [if_pos (by rw [iN_len]; unfold SZ; omega)]
      simp [iN]
    simp [ins]
    refine ⟨w.take p ++ x :: w.drop p, ?_, ?_, ?_, D8.put ql zl _⟩
    · refine ⟨K.n1, K.n9, fun y hy => ?_, fun y hy => ?_, ?_⟩
      · simp only [List.mem_append, List.mem_cons] at hy
        rcases hy with hy | rfl | hy
        · exact K.lt y (List.mem_of_mem_take hy)
        · omega
        · exact K.lt y (List.mem_of_mem_drop hy)
      · have := K.al y hy
        rw [← List.take_append_drop p w] at this
        simp only [List.mem_append, List.mem_cons] at this ⊢
        rcases this with z | z
        · exact .inl z
        · exact .inr (.inr z)
      · simp; omega
    · simp; omega
    · rw [List.getElem?_set_self (lt_get hz5)]
  · rintro env hh ⟨rfl, w, K, wl, hz, D5⟩
    rw [s_frz (d := .cell z) rfl (nat_frz hz)]
    have dd := K.dice
    have n900 := K.sm
    have lz : w.length ≤ 9 := by omega
    have nn : ∀ i r, i < n → r < w.length → 0 ≤ dkF w i r := fun i r hi hr => dd.nn i r hi hr
    have up : ∀ i, i < n → sg w.length (dkF w i) ≤ 9 := fun i hi => by
      have := (sg_abs (m := w.length) (x := dkF w i) (b := 1) fun r hr => by unfold dkF; split <;> omega).2
      omega
    have X : ∀ i, i < n → Lb 20 w.length (dkF w i) := fun i hi => ⟨fun r hr => nn i r hi hr, Bn.of20 (by have := up i hi; have := dd.ps i hi; omega)⟩
    have ow := fun h : CH => c_of_word (k := k) (h := h) K
    have fn := fun h : CH => c_face_numbers (k := k + 1) (h := h) dd .cup
    have to := fun h : CH => c_table_of (k := k + 2) (h := h) dd .cup X (by omega)
    have fp : ∀ i, i < n → 1 ≤ sg w.length (dkF w i) ∧ sg w.length (dkF w i) ≤ 100 := fun i hi => by
      have := up i hi
      have := dd.ps i hi
      omega
    have pb := fun h : CH => c_product_bounds (k := k + 3) (h := h) (b := true) (fa := fun i => sg w.length (dkF w i)) (show 1 ≤ n by omega) (show n ≤ 1000 by omega) fp
    have Bd : Bnd n (fcp fun i => sg w.length (dkF w i)) := by
      refine ⟨fun i j hi hj => ?_, fun i j hi hj => ?_, fun i _ => by unfold fcp; simp⟩
      · unfold fcp
        split
        · omega
        · exact Int.mul_nonneg (Int.le_trans (by decide) (fp i hi).1) (Int.le_trans (by decide) (fp j hj).1)
      · unfold fcp
        by_cases e : i = j
        · subst e; rfl
        · rw [if_neg e, if_neg fun w => e w.symm, Int.mul_comm]
    have sk := lead_skew w.length n (dkF w)
    have fu := fun h : CH => c_isF (k := k + 2) (h := h) (a := true) (b := true) (a' := true) (b' := true) (show 1 ≤ n by omega) (show n ≤ 1000 by omega) sk Bd
    have wt : wiB n (fcp fun i => sg w.length (dkF w i)) (fun a b => lead w.length (dkF w a) (dkF w b)) true = true := by
      rw [wiB_iff]
      intro i hi j hj
      unfold gdB fcp ab
      dsimp only
      by_cases e : i = j
      · subst e
        simp [lead_self]
      · rw [if_neg e]
        have le := lead_le (m := w.length) (x := dkF w i) (y := dkF w j) (fun r hr => nn i r hi hr) (fun r hr => nn j r hj hr)
        obtain ⟨t, et⟩ := deck_par (x := dkF w i) (y := dkF w j) w.length fun r hr => by
          unfold dkF
          by_cases a : w[r]?.getD 0 = i
          · have : ¬ i = j := e
            simp [a, this]
          · simp [a]
        obtain ⟨l1, l2⟩ := ab_ok le.1 le.2 et
        simp only [l1, l2, decide_false, Bool.and_false, Bool.or_false, Bool.not_false]
    rw [wt] at fu
    have isb : ∀ h : CH, cmpD .is (.bl true) (.bl true) h = .ok (.bl true) h := fun h => rfl
    simp [ow, fn, to, pb, fu, isb]
    exact go _ ((kill1_drk D5 ql zl).trunc ql _)
theorem many53 {r : Int} (h0 : 0 ≤ r) (h1 : r < 8) : ∃ n : Nat, 1 ≤ n ∧ n ≤ 8 ∧ ixV (.lst [.int 3, .int 4, .int 2, .int 5, .int 1, .int 8, .int 6, .int 3]) (.int r) h = .ok (.int (n : Nat)) h := by
  have : r = 0 ∨ r = 1 ∨ r = 2 ∨ r = 3 ∨ r = 4 ∨ r = 5 ∨ r = 6 ∨ r = 7 := by omega
  rcases this with rfl | rfl | rfl | rfl | rfl | rfl | rfl | rfl
  · exact ⟨3, by omega, by omega, rfl⟩
  · exact ⟨4, by omega, by omega, rfl⟩
  · exact ⟨2, by omega, by omega, rfl⟩
  · exact ⟨5, by omega, by omega, rfl⟩
  · exact ⟨1, by omega, by omega, rfl⟩
  · exact ⟨8, by omega, by omega, rfl⟩
  · exact ⟨6, by omega, by omega, rfl⟩
  · exact ⟨3, by omega, by omega, rfl⟩
def eqF2 (v : Int) : F2 := fun i j => if i = j then 0 else v
theorem c_equal {n : Nat} {v : Int} (n1 : 1 ≤ n) (hn : n ≤ 1000) (v0 : 0 ≤ v) : callM true (run tb (k + 3)) 13 [.int n, .int v] h = .ok (tabD true true n (eqF2 v)) h := by
  refine call_nc (h' := []) rfl ?_ (nc_tabD _ _ _ _)
  rw [u_equal_bounds rfl]
  apply eq_wr
  have hz := le_SZ hn
  have ci : ∀ (x lo : Int) (nm : PySem.Str) (h : CH), lo ≤ x → callM true (run tb (k + 2)) 25 [.int x, .str nm, .int lo] h = .ok (.int x) h := fun x lo nm h le => by
    refine call_nc (h' := []) rfl ?_ rfl
    rw [u_check_int rfl]
    apply eq_wr
    have l1 : ¬ x < lo := by omega
    simp [b_check_int, envOf, l1]
  simp [b_equal_bounds, envOf, e_comp, ci _ _ _ _ v0, ci (n : Int) 1 _ _ (by omega), it_rngN hn]
  refine wr_mapR (fun i => W true (iL (rowF n (eqF2 v) i))) rfl (fun i hi => ?_) ?_
  · simp [e_comp, it_rngN hn]
    refine wr_mapR (fun j => .int (eqF2 v i j)) rfl (fun j hj => ?_) ?_
    · have e : ((i : Int) = (j : Nat)) ↔ i = j := by omega
      by_cases z : i = j
      · subst z; simp [eqF2]
      · simp [eqF2, z, e]
    · have t0 : ∀ h : CH, biD .tuple false [.lst ((List.range n).map fun j => D.int (eqF2 v i j))] h = .ok (W true (iL (rowF n (eqF2 v) i))) h := fun h => by
        rw [tuple_ok (ds := (List.range n).map fun j => D.int (eqF2 v i j)) rfl, ← iL_vec]; rfl
      simp [hz, t0]
  · have t0 : ∀ (ds : List D) (h : CH), biD .tuple false [.lst ds] h = .ok (.tup ds) h := fun ds h => tuple_ok rfl
    simp [hz, t0, tabD, W]
theorem c_odd_die {a b b' : Bool} {n : Nat} {c : F2} {s : Nat → Int} (hn1 : 1 ≤ n) (hn : n ≤ 1000) (B : Bnd n c) (s0 : sg n s = 0) : callM true (run tb (k + 4)) 11 [tabD a b n c, vD b' n s] h = .ok (oD (fstD n (odB n c s))) h := by
  refine call_nc (h' := []) (ncs_two (nc_tabD _ _ _ _) (nc_vec _ _ _)) ?_ (by cases fstD n (odB n c s) <;> rfl)
  rw [u_odd_die rfl]
  apply eq_wr
  simp [b_odd_die, envOf, c_bounds_and_scores hn1 hn B s0, c_uneven_die]
theorem c_lroomI {a b b' b3 : Bool} {n : Nat} {c : F2} {s : Nat → Int} {S : List Nat} (hn : n ≤ 1000) (nd : S.Nodup) (lt : ∀ x ∈ S, x < n) : callM true (run tb (k + 1)) 9 [tabD a b n c, vD b' n s, W b3 (iN S)] h = .ok (.int (room n c s S)) h := c_room hn nd lt
theorem mxT {m n : Nat} {cs : Nat → Nat} {f : F2} {H H5 : CH} {q : Nat} (ql : q < H.length) (D5 : DrK q H H5) (hm : H.length ≤ m) (hc : ∀ i, i < n → H.length ≤ cs i) (M : Mx H5 m cs n f) {H6 : CH} (D6 : DrK q H5 H6) : Mx H6 m cs n f := mx_drk M D6 (by omega) (fun i hi => by have := hc i hi; omega)
theorem tail_C {n : Nat} {c : F2} {x0 x4 x6 x7 x8 x9 x10 x11 x12 x18 : Option D} {fa : Nat → Int} {v : Int} {m1 m2 : Nat} {cs1 cs2 : Nat → Nat} (hn1 : 1 ≤ n) (hn : n ≤ 1000) (fb : ∀ i, i < n → 1 ≤ fa i ∧ fa i ≤ 20) (v0 : 0 ≤ v) (d : Drw 0 h) (M1 : Mx h m1 cs1 n (fcp fa)) (M2 : Mx h m2 cs2 n (eqF2 v)) :
    WS (evSs (run tb (k + 8)) (tl b_law 22) [x0, some (.cell 0), some (.int n), some (tabD false false n c), x4, some (tabD false true n c), x6, x7, x8, x9, x10, x11, x12, some (vD false n fa), some (.cell m1), none, some (.int v), some (.cell m2), x18, none, none] h) (fun _ _ => False) (fun d _ => d = .bl true) := by
  have hz := le_SZ hn
  have pb := fun h : CH => c_product_bounds (k := k + 5) (h := h) (b := false) (fa := fa) hn1 hn fun i hi => by have := fb i hi; omega
  have eqb := fun h : CH => c_equal (k := k + 5) (h := h) hn1 hn v0
  simp [b_law, tl, e_comp, pb, eqb, c_sameC hn M1, c_sameC hn M2]
  refine c_deck d fun h' D => ?_
  have nek : ∀ h : CH, cmpD .eq (tabD false true n c) (tabD false true n c) h = .ok (.bl true) h := fun h => by
    have e : tabD false true n c = lT2 (mat n c) := by simp [tabD, W, mat]
    rw [e]
    exact eq_self (m := 3) (nc_lT2 _) (pl_lT2 _) (by omega)
  have ek : Z.D.lst ((List.range n).map fun i => W true (iL (rowF n c i))) = tabD false true n c := rfl
  refine ⟨rfl, ?_⟩
  refine wr_mapR (fun i => W true (iL (rowF n c i))) rfl (fun i hi => by simp [tuple_ok (items_W _ _)]; rfl) ?_
  simp [hz, ek, nek]
/-- the drawn faces, products and levels -/
theorem ws_zero {n m : Nat} {cs : Nat → Nat} {H H5 : CH} {hn : n ≤ 1000} {F : Nat → F2} (ql : 0 < H.length) (D5 : DrK 0 H H5) (hm : H.length ≤ m) (hc : ∀ i, i < n → H.length ≤ cs i) (M : Mx H5 m cs n (F 0)) (step : ∀ t, t < n → stF (F t) t t 0 = F (t + 1)) {Φ : FS} {env : Env} {u v : Nat} (hu : env[u]? = some (some (.cell m))) (hv : v < env.length) (hv0 : env[v]? = some none) (uv : u ≠ v) {Qn : Env → CH → Prop} {Qr : D → CH → Prop}
    (go : ∀ H6, Mx H6 m cs n (F n) → DrK 0 H H6 → Qn env H6) :
    WS (forGo none (asgTg (Tg.nm v)) (fun en => evSs Φ (.cons (.asg (.sub (.ix (.var u) (.var v)) (.var v)) (.con (.int 0))) .nil) en) [v] ((List.range n).map fun i : Nat => D.int i) env H5) Qn Qr := by
  have ew : (env.set v none) = env := by
    apply List.ext_getElem?
    intro i
    by_cases e : v = i
    · subst e
      rw [List.getElem?_set_self hv, hv0]
    · rw [List.getElem?_set_ne e]
  refine ws_rng (fun t en hh => en = env ∧ Mx hh m cs n (F t) ∧ DrK 0 H hh) ⟨rfl, M, D5⟩ (fun _ _ _ _ _ => rfl) ?_ ?_
  · rintro t en hh ht ⟨rfl, M, DM⟩
    obtain ⟨h', e, M', F'⟩ := M.put 0 ht ht
    have gu : (en.set v (some (D.int (t : Nat))))[u]? = some (some (.cell m)) := by rw [List.getElem?_set_ne (fun z => uv z.symm)]; exact hu
    have gv : (en.set v (some (D.int (t : Nat))))[v]? = some (some (.int (t : Nat))) := by rw [List.getElem?_set_self hv]
    simp [gu, gv, M.at_row ht, e]
    refine ⟨?_, ?_, ⟨by rw [F'.len]; exact DM.len, ?_, fun y hy hq => (F'.oth y fun i hi => by have := hc i hi; omega).trans (DM.oth y hy hq)⟩⟩
    · first | exact ew | rw [List.set_set, ew]
    · rw [← step t ht]
      exact M'
    · obtain ⟨l, hl, e⟩ := DM.drw
      exact ⟨l, hl, (F'.oth 0 fun i hi => by have := hc i hi; omega).trans e⟩
  · rintro en hh ⟨rfl, M, DM⟩
    exact go hh M DM
def pfF (fa : Nat → Int) (t : Nat) : F2 := fun x y => if x = y ∧ x < t then 0 else fa x * fa y
def lfF2 (v : Int) (t : Nat) : F2 := fun x y => if x = y ∧ x < t then 0 else v
theorem pfF_step (fa : Nat → Int) (t : Nat) : stF (pfF fa t) t t 0 = pfF fa (t + 1) := by
  funext x y
  unfold stF pfF
  by_cases a : x = t ∧ y = t
  · obtain ⟨rfl, rfl⟩ := a
    simp
  · rw [if_neg a]
    by_cases b : x = y
    · have : (x < t ↔ x < t + 1) := by omega
      subst b
      simp [this]
    · simp [b]
theorem lfF2_step (v : Int) (t : Nat) : stF (lfF2 v t) t t 0 = lfF2 v (t + 1) := by
  funext x y
  unfold stF lfF2
  by_cases a : x = t ∧ y = t
  · obtain ⟨rfl, rfl⟩ := a
    simp
  · rw [if_neg a]
    by_cases b : x = y
    · have : (x < t ↔ x < t + 1) := by omega
      subst b
      simp [this]
    · simp [b]
theorem tail_B {n : Nat} {c : F2} {x0 x4 x6 x7 x8 x9 x10 x11 x12 x18 : Option D} (hn1 : 1 ≤ n) (hn : n ≤ 1000) (d : Drw 0 h) :
    WS (evSs (run tb (k + 8)) (tl b_law 16) [x0, some (.cell 0), some (.int n), some (tabD false false n c), x4, some (tabD false true n c), x6, x7, x8, x9, x10, x11, x12, none, none, none, none, none, x18, none, none] h) (fun _ _ => False) (fun d _ => d = .bl true) := by
  have hz := le_SZ hn
  rw [show tl b_law 16 = .cons (st b_law 16) (.cons (st b_law 17) (.cons (st b_law 18) (.cons (st b_law 19) (.cons (st b_law 20) (.cons (st b_law 21) (tl b_law 22)))))) from rfl]
  generalize hT : tl b_law 22 = T
  simp [b_law, st, e_comp, it_rngN hn]
  refine wr_compI (fun i dn hh => ∃ fa : Nat → Int, dn = iL (vec i fa) ∧ (∀ j, j < i → 1 ≤ fa j ∧ fa j ≤ 20) ∧ DrK 0 h hh) ⟨fun _ => 0, rfl, fun j hj => by omega, DrK.refl d⟩ (fun _ _ _ _ _ => rfl) ?_ ?_
  · rintro i dn hh hi ⟨fa, rfl, fb, DD⟩
    simp
    refine c_wide DD.drw (by omega) fun r2 h2 r20 r21 D2 => ?_
    simp
    refine ⟨fun j => if j = i then 1 + r2 else fa j, ?_, fun j hj => ?_, DD.trans D2.toK⟩
    · have : vec i (fun j => if j = i then 1 + r2 else fa j) = vec i fa := vec_congr fun j hj => by
        have : ¬ j = i := by omega
        simp [this]
      rw [show vec (i + 1) (fun j => if j = i then 1 + r2 else fa j) = vec i (fun j => if j = i then 1 + r2 else fa j) ++ [1 + r2] by simp [vec, List.range_succ], this]
      simp [iL]
    · by_cases z : j = i
      · simp [z]; omega
      · simp [z]; exact fb j (by omega)
  rintro dn H3 ⟨fa, rfl, fb, D3⟩
  have fv : D.lst (iL (vec n fa)) = vD false n fa := rfl
  simp [vec_len, le_SZ hn, fv]
  rw [comp_cells (G := fun i => Cell.lst (iL (rowF n (pfF fa 0) i))) (fun l => rfl) (fun i l hi hl => by
    simp [e_comp, it_rngN hn]
    rw [comp_rng rfl (fun j => .int (pfF fa 0 i j))]
    rotate_left
    · intro j hj
      have f1 := fb i hi
      have f2 := fb j hj
      have m1 : ∀ h : CH, binD .mul false (.int (fa i)) (.int (fa j)) h = .ok (.int (fa i * fa j)) h := fun h => mul_ok (mulOk_l (by omega) (by omega))
      simp [vec_at hi, vec_at hj, m1, pfF]
    simp [le_SZ hn, rowF])]
  simp [le_SZ hn]
  have M0 := Mx.new H3 n (pfF fa 0)
  have pushM : ∀ (H : CH) (F : F2), Drw 0 H → DrK 0 H (H ++ ((List.range n).map (fun i => Cell.lst (iL (rowF n F i))) ++ [Cell.lst ((List.range n).map fun i => .cell (H.length + i))])) := fun H F DH => ⟨by simp, by
    obtain ⟨l, hl, e⟩ := DH
    exact ⟨l, hl, (List.getElem?_append_left (Drw.lt ⟨l, hl, e⟩)).trans e⟩, fun y hy _ => List.getElem?_append_left hy⟩
  have D5 := pushM H3 (pfF fa 0) D3.drw
  rw [List.append_assoc] at M0
  have q3 := D3.drw.lt
  generalize H3 ++ ((List.range n).map (fun i => Cell.lst (iL (rowF n (pfF fa 0) i))) ++ [Cell.lst ((List.range n).map fun i => .cell (H3.length + i))]) = H5 at M0 D5 ⊢
  simp [s_fr, it_rngN hn]
  refine ws_zero (hn := hn) (F := pfF fa) (H := H3) q3 D5 (by omega) (fun i _ => by omega) M0 (fun t _ => pfF_step fa t) rfl (by simp) rfl (by decide) fun H6 M6 D6 => ?_
  simp
  refine c_wide D6.drw (by omega) fun v H7 v0 v1 D7 => ?_
  have D67 := D6.trans D7.toK
  have M7 := mxT q3 D6 (by omega) (fun i _ => by omega) M6 D7.toK
  simp [it_rngN hn]
  rw [comp_cells (G := fun i => Cell.lst (iL (rowF n (lfF2 v 0) i))) (fun l => rfl) (fun i l hi hl => by
    simp [e_comp, it_rngN hn]
    rw [comp_rng rfl (fun j => .int (lfF2 v 0 i j))]
    rotate_left
    · intro j hj
      simp [lfF2]
    simp [le_SZ hn, rowF])]
  simp [le_SZ hn]
  have N0 := Mx.new H7 n (lfF2 v 0)
  have D8 := pushM H7 (lfF2 v 0) D7.drw
  rw [List.append_assoc] at N0
  have q7 := D7.drw.lt
  generalize H7 ++ ((List.range n).map (fun i => Cell.lst (iL (rowF n (lfF2 v 0) i))) ++ [Cell.lst ((List.range n).map fun i => .cell (H7.length + i))]) = H8 at N0 D8 ⊢
  refine ws_zero (hn := hn) (F := lfF2 v) (H := H7) q7 D8 (by omega) (fun i _ => by omega) N0 (fun t _ => lfF2_step v t) rfl (by simp) rfl (by decide) fun H9 M9 D9 => ?_
  have D69 : DrK 0 H6 H9 := D7.toK.trans D9
  have M69 := mxT q3 D6 (by omega) (fun i _ => by omega) M6 D69
  have cg : ∀ {m : Nat} {cs : Nat → Nat} {f g : F2} {H : CH}, Mx H m cs n f → (∀ i j, i < n → j < n → f i j = g i j) → Mx H m cs n g := fun M e => Mx_cg M e
  subst hT
  exact tail_C hn1 hn fb v0 D9.drw (cg M69 fun i j hi hj => by
    unfold pfF fcp
    by_cases z : i = j
    · simp [z, hj]
    · simp [z]) (cg M9 fun i j hi hj => by
    unfold lfF2 eqF2
    by_cases z : i = j
    · simp [z, hj]
    · simp [z])
theorem head_find {n : Nat} {p : Nat → Bool} : ((List.range n).filter p).head? = fstD n p := List.head?_filter
theorem tail_A {n m : Nat} {cs : Nat → Nat} {c f : F2} {x0 : Option D} {i1 i2 : Nat} {x18 : Option D} {H : CH} (hn1 : 1 ≤ n) (hn : n ≤ 1000) (B : Bnd n c) (h1n : i1 < n) (q0 : 0 < H.length) (M : Mx h m cs n f) (SK : Skew n f) (DK : DrK 0 H h) :
    WS (evSs (run tb (k + 8)) (tl b_law 9) [x0, some (.cell 0), some (.int n), some (tabD false false n c), some (.cell m), some (tabD false true n c), some (.int i1), some (.int i2), none, none, none, none, none, none, none, none, none, none, x18, none, none] h) (fun _ _ => False) (fun d _ => d = .bl true) := by
  have hz := le_SZ hn
  rw [show tl b_law 9 = .cons (st b_law 9) (.cons (st b_law 10) (.cons (st b_law 11) (.cons (st b_law 12) (.cons (st b_law 13) (.cons (st b_law 14) (.cons (st b_law 15) (tl b_law 16))))))) from rfl]
  have TB := fun (x4 x6 x7 x8 x9 x10 x11 x12 x18 : Option D) (h : CH) (d : Drw 0 h) => tail_B (k := k) (n := n) (c := c) (x0 := x0) (x4 := x4) (x6 := x6) (x7 := x7) (x8 := x8) (x9 := x9) (x10 := x10) (x11 := x11) (x12 := x12) (x18 := x18) hn1 hn d
  generalize tl b_law 16 = T at TB ⊢
  have jd := c_judgedC (k := k + 3) (a := false) (b := false) hn1 hn SK B M
  have ir : itR (.cell m) h = .ok ((List.range n).map (fun i => D.cell (cs i)), some (m, (List.range n).map fun i => D.cell (cs i))) h := by rw [itR_of (ds := (List.range n).map fun i => D.cell (cs i)) (by simp only [items, M.top])]; rfl
  have s0 : sg n (fun i => sg n (f i)) = 0 := sg_skew SK
  simp [b_law, st, e_comp, jd, ir]
  refine wr_mapR (fun i => .int (sg n (f i))) (ck_cell M.top) (fun i hi => by
    have : ∀ q : Bool, biD .sum q [.cell (cs i)] h = .ok (.int (sg n (f i))) h := fun q => by
      rw [sum_ok (r := vec n (f i)) (by simp only [items, M.row i hi]; rfl)]; rfl
    simp [this]) ?_
  have ev : (List.range n).map (fun i => D.int (sg n (f i))) = iL (vec n fun i => sg n (f i)) := by rw [iL_vec]
  rw [ev]
  generalize (fun i => sg n (f i)) = s at s0 ⊢
  have v0 : D.lst (iL (vec n s)) = vD false n s := rfl
  simp [vec_len, hz, v0, it_rngN hn]
  have Dd := DK.drw
  refine wr_compF (l := List.range n) (g := fun i : Nat => D.int i) (fun i dn hh => ∃ S : List Nat, dn = iN S ∧ S.Pairwise (fun a b : Nat => a < b) ∧ (∀ x ∈ S, x < i) ∧ Drw 0 hh) ⟨[], rfl, List.Pairwise.nil, fun x hx => (List.not_mem_nil hx).elim, Dd⟩ (fun _ _ _ _ _ => rfl) ?_ ?_
  · rintro i dn hh x hx ⟨S, rfl, sp, sl, DH⟩
    have hi := lt_get hx
    rw [List.length_range] at hi
    rw [List.getElem?_range hi] at hx
    cases hx
    simp
    refine c_take DH (by decide) fun r h2 _ _ D2 => ?_
    simp
    by_cases q : r = 1
    · refine .inr ⟨q, S ++ [i], by simp [iN], ?_, ?_, D2.drw⟩
      · rw [List.pairwise_append]
        exact ⟨sp, List.pairwise_singleton _ _, fun a ha b hb => by rw [List.mem_singleton.1 hb]; exact sl a ha⟩
      · intro x hx
        rcases List.mem_append.1 hx with z | z
        · have := sl x z; omega
        · rw [List.mem_singleton.1 z]; omega
    · exact .inl ⟨q, S, rfl, sp, fun x hx => by have := sl x hx; omega, D2.drw⟩
  · rintro dn hh ⟨S, rfl, sp, sl, DH⟩
    rw [List.length_range] at sl
    have sz : S.length ≤ SZ := Nat.le_trans (pigeon n S (lt_nodup sp) sl) hz
    simp [s_fr, e_comp, sz, it_rngN hn]
    refine wr_mapR (fun i => .int (i : Nat)) rfl (fun i hi => by simp) ?_
    have el : [D.lst (iN S), D.lst [], D.lst [D.int (i1 : Nat)], D.lst ((List.range n).map fun i : Nat => D.int i)] = [S, [], [i1], List.range n].map fun S => D.lst (iN S) := rfl
    simp [hz]
    rw [el]
    refine ws_chk (fun _ _ => True) rfl (fun i W0 hx _ => ?_) fun _ => ?_
    · have wok : W0.Nodup ∧ ∀ x ∈ W0, x < n := by
        have := List.mem_of_getElem? hx
        simp at this
        rcases this with rfl | rfl | rfl | rfl
        · exact ⟨lt_nodup sp, sl⟩
        · exact ⟨List.nodup_nil, fun x hx => (List.not_mem_nil hx).elim⟩
        · exact ⟨by simp, fun x hx => by rw [List.mem_singleton.1 hx]; exact h1n⟩
        · exact ⟨List.nodup_range, fun x hx => List.mem_range.1 hx⟩
      have l1 : ∀ h : CH, biD .list false [vD false n s] h = .ok (vD false n s) h := fun h => by rw [list_ok (items_W _ _)]; rfl
      have e3 : D.lst (iN W0) = W false (iN W0) := rfl
      have ri := fun h : CH => c_room_in (k := k + 4) (h := h) (a := false) (b := false) (b' := false) (b3 := false) hn1 hn B s0 wok.1 wok.2
      have rl := fun h : CH => c_lroomI (k := k + 7) (h := h) (a := false) (b := false) (b' := false) (b3 := false) (c := c) (s := s) hn wok.1 wok.2
      simp [l1, e3, ri, rl]
    · simp [it_rngN hn]
      refine wr_comp (l := List.range n) (g := fun m : Nat => D.int m) (fun i => odB n c s i) (fun i : Nat => .int i) rfl (fun i hi => ?_) ?_
      · have hi := List.mem_range.1 hi
        have md : ∀ (x : Int) (h : CH), binD .mod false (.int x) (.int 2) h = .ok (.int (x % 2)) h := fun x h => mod_ok (by omega)
        have ti : ∀ (x : Int) (h : CH), biD .int false [.int x] h = .ok (.int x) h := fun _ _ => rfl
        simp [vec_at hi, tab_row hi, md, ti, odB]
        exact (Classical.em _).symm
      have oz : ((List.range n).filter fun i => odB n c s i).length ≤ SZ := Nat.le_trans (List.length_filter_le _ _) (by simpa using hz)
      have hf : ((List.range n).filter fun i => odB n c s i).head? = fstD n (odB n c s) := head_find
      have od := fun h : CH => c_odd_die (k := k + 4) (h := h) (a := false) (b := false) (b' := false) hn1 hn B s0
      have nb : ∀ (x y : Bool) (h : CH), cmpD .ne (.bl x) (.bl y) h = .ok (.bl (!(x == y))) h := fun x y h => by cases x <;> cases y <;> rfl
      refine ⟨by simpa using oz, ?_⟩
      generalize hO : (List.range n).filter (fun i => odB n c s i) = O at hf ⊢
      cases q : fstD n (odB n c s) with
      | none =>
        rw [q] at hf od
        have e0 : O = [] := List.head?_eq_none_iff.1 hf
        subst e0
        have l0 : ∀ h : CH, biD .len false [.lst []] h = .ok (.int 0) h := fun h => rfl
        have isn0 : ∀ h : CH, cmpD .isn .non .non h = .ok (.bl false) h := fun h => rfl
        simp [od, oD, l0, nb, isn0]
        exact TB _ _ _ _ _ _ _ _ _ _ DH
      | some i =>
        rw [q] at hf od
        obtain ⟨r, rfl⟩ : ∃ r, O = i :: r := by
          cases O with
          | nil => cases hf
          | cons a r => cases hf; exact ⟨r, rfl⟩
        have l0 : ∀ h : CH, biD .len false [.lst ((i :: r).map fun i : Nat => D.int i)] h = .ok (.int ((r.length + 1 : Nat) : Int)) h := fun h => by rw [len_ok (ds := (i :: r).map fun i : Nat => D.int i) rfl]; simp
        have is0 : ∀ h : CH, cmpD .is (.int i) .non h = .ok (.bl false) h := fun h => rfl
        have isn0 : ∀ h : CH, cmpD .isn (.int i) .non h = .ok (.bl true) h := fun h => rfl
        have x0 : ∀ h : CH, ixV (.lst ((i :: r).map fun i : Nat => D.int i)) (.int 0) h = .ok (.int i) h := fun h => rfl
        have zz : ¬ ((r.length + 1 : Nat) : Int) = 0 := by omega
        simp only [List.map_cons] at l0 x0 ⊢
        simp [od, oD, l0, nb, isn0, is0, x0]
        exact ⟨by omega, TB _ _ _ _ _ _ _ _ _ _ DH⟩
theorem r_law (ns : List Int) (hns : ns.length ≤ 63) : ∃ h', run tb (k + 9) 0 [.scr ns] [] = .ok (.bl true) h' := by
  suffices w : WR (run tb (k + 9) 0 [.scr ns] []) fun d _ => d = .bl true by
    obtain ⟨d, h', e, rfl⟩ := w
    exact ⟨h', e⟩
  rw [u_law rfl, show b_law = .cons (st b_law 0) (.cons (st b_law 1) (.cons (st b_law 2) (.cons (st b_law 3) (.cons (st b_law 4) (.cons (st b_law 5) (.cons (st b_law 6) (.cons (st b_law 7) (.cons (st b_law 8) (tl b_law 9))))))))) from rfl]
  generalize hT : tl b_law 9 = T
  obtain ⟨l, hl, e0⟩ := r_draws (k := k + 7) ns hns
  have e1 : callM false (run tb (k + 8)) 1 [.scr ns] [] = .ok (.cell 0) [.lst (iL l)] := by rw [call_heap e0]; rfl
  have D0 : Drw 0 [Cell.lst (iL l)] := ⟨l, hl, rfl⟩
  simp [b_law, st, envOf, e1, s_fr, e_comp]
  refine c_take D0 (by decide) fun r1 H1 p0 p1 D1 => ?_
  obtain ⟨n, hn1, hn8, e3⟩ := many53 (h := H1) p0 p1
  have hn : n ≤ 1000 := by omega
  have hz : n ≤ SZ := le_SZ hn
  simp [e3]
  refine c_bounds D1.drw hn fun c H2 B D2 _ _ => ?_
  refine c_entriesM D2.drw hn B fun f H3 m cs M F D3 mH cH => ?_
  simp [e_comp]
  refine wr_mapR (fun i => W true (iL (rowF n c i))) rfl (fun i hi => by simp [tuple_ok (items_W _ _)]; rfl) ?_
  have ek : D.lst ((List.range n).map fun i => W true (iL (rowF n c i))) = tabD false true n c := rfl
  simp [hz, ek, c_check_bounds hn1 hn B, c_same hn, c_judgedC hn1 hn F.sk B M]
  refine c_take D3.drw (by omega) fun r2 H4 r20 r21 D4 => ?_
  obtain ⟨i1, rfl⟩ := Int.eq_ofNat_of_zero_le r20
  have h1n : i1 < n := by omega
  refine c_take D4.drw (by omega) fun r3 H5 r30 r31 D5 => ?_
  obtain ⟨i2, rfl⟩ := Int.eq_ofNat_of_zero_le r30
  have h2n : i2 < n := by omega
  have D35 := D3.trans (D4.trans D5).toK
  have q0 := D2.drw.lt
  have mne : (0 : Nat) ≠ m := by omega
  have cne : ∀ i, i < n → (0 : Nat) ≠ cs i := fun i hi => by have := cH i hi; omega
  have M5 := mx_dr M (D4.trans D5) mne cne
  subst hT
  by_cases e12 : (i1 : Int) = i2
  · have nb : cmpD .ne (.int (i1 : Nat)) (.int (i2 : Nat)) H5 = .ok (.bl false) H5 := by simp [e12]
    simp [nb]
    exact ws_mono (tail_A hn1 hn B h1n q0 M5 F.sk D35) (fun _ _ z => z.elim) fun _ _ z => z
  · have ne : i1 ≠ i2 := fun z => e12 (by rw [z])
    have nb : cmpD .ne (.int (i1 : Nat)) (.int (i2 : Nat)) H5 = .ok (.bl true) H5 := by simp [e12]
    simp [nb]
    refine c_take D5.drw (by decide) fun r H7 _ _ D7 => ?_
    have M7 := mx_dr M5 D7 mne cne
    obtain ⟨h8, h9, a1, a2, a3, a4, a5⟩ := put2v M7 h1n h2n (f i1 i2 + (1 + r)) (f i2 i1 - (1 + r))
    have x1 : stF f i1 i2 (f i1 i2 + (1 + r)) i2 i1 = f i2 i1 := by unfold stF; rw [if_neg fun z => ne z.2]
    have D79 : DrK 0 H2 h9 := by
      have D37 := D35.trans D7.toK
      refine ⟨by rw [a5.len]; exact D37.len, ?_, fun y hy hq => (a5.oth y fun i hi => by have := cH i hi; omega).trans (D37.oth y hy hq)⟩
      obtain ⟨l, hl, e⟩ := D37.drw
      exact ⟨l, hl, (a5.oth 0 cne).trans e⟩
    have SK : Skew n (stF (stF f i1 i2 (f i1 i2 + (1 + r))) i2 i1 (f i2 i1 - (1 + r))) := by
      have := F.sk i2 i1 h2n h1n
      rw [show f i2 i1 - (1 + r) = -(f i1 i2 + (1 + r)) by omega]
      exact skew_set F.sk ne _
    simp [M7.at_row h1n, M7.at_ h1n h2n, a1, a2.at_row h2n, a2.at_ h2n h1n, x1, a3]
    exact ws_mono (tail_A hn1 hn B h1n q0 a4 SK D79) (fun _ _ z => z.elim) fun _ _ z => z

end ZK53

end
theorem PySem.Challenge.cw_dicewhobeats_k53_bounds_rooms_and_full_t_holds : PySem.Challenge.rw_dicewhobeats_k53_bounds_rooms_and_full_t.Holds := by
  exact ZK53.holds_of fun ns hn => ZK53.r_law (k := 11) ns hn
