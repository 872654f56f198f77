import PyProof.Rows.All
import Wide.All
import OpenK.AllK
import Wide.FinOn
import KE.KStateDown
import HandS.ForMost
import HandS.Wide
import HandS.IsInst
import HandS.Style
import HandS.TupMul
import HandS.TupAny
import HandS.More
import HandS.Words
import HandS.Defaults
import HandS.Zip
import HandS.SortInts
import KE.KTupSum
import HandS.Zip0
import HandS.MakeKwOnly
import HandS.Head0
import HandS.Head1
import HandS.Head2
import HandS.HeadEnd
import HandS.HeadHook1
import HandS.HeadHook2
import PySem.Challenge.RW_dicewhobeats_k72_whole_shifts_between_ta
set_option Elab.async false
set_option linter.all false
set_option maxRecDepth 100000
set_option maxHeartbeats 0
/-! the small language: data, cells, texts without places, what they come to -/
namespace Z
open PySem PySem.Spec PyProof.Rows L2

/-- data -/
inductive D where
  | non | bl (b : Bool) | int (i : Int) | str (s : Str)
  | tup (ds : List D) | lst (ds : List D) | cell (n : Nat) | ins (c : Nat) (ds : List D)
  | scr (ns : List Int)
/-- what changes -/
inductive Cell where
  | lst (ds : List D) | ins (c : Nat) (ds : List D) | dct (kvs : List (Int × D)) | dead
abbrev CH := List Cell
abbrev Env := List (Option D)
inductive R (α : Type) where
  | ok (a : α) (h : CH) | ex (c : Nat) (ds : List D) (h : CH) | no
def R.bnd {α β : Type} (r : R α) (f : α → CH → R β) : R β := match r with
  | .ok a h => f a h
  | .ex c ds h => .ex c ds h
  | .no => .no
@[simp] theorem R.bnd_ok {α β : Type} (a : α) (h : CH) (f : α → CH → R β) : (R.ok a h).bnd f = f a h := (rfl)
@[simp] theorem R.bnd_no {α β : Type} (f : α → CH → R β) : (R.no : R α).bnd f = .no := (rfl)
@[simp] theorem R.bnd_ex {α β : Type} (c : Nat) (ds : List D) (h : CH) (f : α → CH → R β) : (R.ex c ds h : R α).bnd f = .ex c ds h := (rfl)
theorem R.bnd_inv {α β : Type} {r : R α} {f : α → CH → R β} {b : β} {h' : CH} (e : r.bnd f = .ok b h') : ∃ a h, r = .ok a h ∧ f a h = .ok b h' := by
  cases r with
  | ok a h => exact ⟨a, h, rfl, e⟩
  | ex c ds h => cases e
  | no => cases e
/-- what a pure call hands back -/
inductive PR where
  | ok (d : D) | ex (c : Nat) (ds : List D) | no
inductive RS where
  | nx (env : Env) (h : CH) | rt (d : D) (h : CH) | ex (c : Nat) (ds : List D) (h : CH) | no
def RS.of {α : Type} (r : R α) (f : α → CH → RS) : RS := match r with
  | .ok a h => f a h
  | .ex c ds h => .ex c ds h
  | .no => .no
@[simp] theorem RS.of_ok {α : Type} (a : α) (h : CH) (f : α → CH → RS) : RS.of (.ok a h) f = f a h := (rfl)
@[simp] theorem RS.of_no {α : Type} (f : α → CH → RS) : RS.of (.no : R α) f = .no := (rfl)
@[simp] theorem RS.of_ex {α : Type} (c : Nat) (ds : List D) (h : CH) (f : α → CH → RS) : RS.of (.ex c ds h : R α) f = .ex c ds h := (rfl)
def RS.andThen (r : RS) (f : Env → CH → RS) : RS := match r with
  | .nx e h => f e h
  | r => r
@[simp] theorem RS.andThen_nx (e : Env) (h : CH) (f : Env → CH → RS) : RS.andThen (.nx e h) f = f e h := (rfl)
@[simp] theorem RS.andThen_rt (d : D) (h : CH) (f : Env → CH → RS) : RS.andThen (.rt d h) f = .rt d h := (rfl)
@[simp] theorem RS.andThen_ex (c : Nat) (ds : List D) (h : CH) (f : Env → CH → RS) : RS.andThen (.ex c ds h) f = .ex c ds h := (rfl)
@[simp] theorem RS.andThen_no (f : Env → CH → RS) : RS.andThen .no f = .no := (rfl)

/-- written constants -/
inductive Kc where
  | non | bl (b : Bool) | int (i : Int) | str (s : Str)
  deriving DecidableEq
@[simp] def Kc.d : Kc → D
  | .non => .non
  | .bl b => .bl b
  | .int i => .int i
  | .str s => .str s
inductive Bop where
  | add | sub | mul | fdiv | mod | pow
  deriving DecidableEq
inductive Cop where
  | lt | le | gt | ge | eq | ne | is | isn | inn | nin
  deriving DecidableEq
/-- built-ins -/
inductive Bi where
  | len | sum | min | max | min2 | max2 | min3 | abs | int | list | tuple | sorted | any | all
  deriving DecidableEq
/-- methods of lists -/
inductive Mt where
  | append | pop | popAt | insert | reverse | index
  deriving DecidableEq
inductive Ty where
  | int | bool | list | tuple | own (c : Nat)
  deriving DecidableEq
/-- what makes turns -/
inductive Tn where
  | rng1 | rng2 | rng3 | enum | zip
  deriving DecidableEq
/-- targets of for, of comprehensions -/
inductive Tg where
  | nm (i : Nat) | tp (ts : List Nat)
  deriving DecidableEq

mutual
inductive E where
  | var (i : Nat)
  | con (c : Kc)
  | bin (o : Bop) (m : Bool) (a b : E)
  | neg (a : E)
  | not (a : E)
  | bo1 (o : Bool) (a : E)
  | bo (o : Bool) (a b : E)
  | cmp (o : Cop) (a b : E)
  | ife (t a b : E)
  | tup (es : Es)
  | lst (m : Bool) (es : Es)
  | call (md : Bool) (f : Nat) (es : Es)
  | callD (md : Bool) (f : Nat) (es : Es) (c : Kc)
  | callK (md : Bool) (f : Nat) (es : Es) (e : E)
  | bi (f : Bi) (m : Bool) (es : Es)
  | isi (a : E) (tp : Bool) (ts : List Ty)
  | mth (o : E) (f : Mt) (es : Es)
  | ix (a i : E)
  | slc (m : Bool) (a : E) (lo hi : Oe)
  | rev (m : Bool) (a : E)
  | comp (m : Bool) (own : List (Str × Nat)) (tg : Tg) (it : It) (c : Oe) (e : E)
inductive Es where
  | nil | cons (e : E) (es : Es)
inductive Oe where
  | none | some (e : E)
inductive It where
  | e (x : E) | f (fn : Tn) (es : Es)
end

inductive Tgt where
  | nm (i : Nat) | tp (ts : List Nat) | sub (a i : E)
mutual
inductive S where
  | asg (tg : Tgt) (e : E)
  | par (i j : Nat) (a b : E)
  | aug (i : Nat) (e : E)
  | expr (e : E)
  | ret (e : E)
  | ife (t : E) (a b : Ss)
  | fr (tg : Tg) (it : It) (b : Ss) (fg : List Nat)
  | whl (t : E) (b : Ss) (fg : List Nat)
  | pass
  | frz (i : Nat)
  | fg (is : List Nat)
  | nev
inductive Ss where
  | nil | cons (s : S) (ss : Ss)
end

/-! ### values -/
def SZ : Nat := 1000000
@[simp] def items (h : CH) : D → Option (List D)
  | .tup ds => some ds
  | .lst ds => some ds
  | .cell n => match h[n]? with
    | some (.lst ds) => some ds
    | _ => none
  | .scr ns => some (ns.map .int)
  | _ => none
@[simp] def lstOf (h : CH) : D → Option (List D)
  | .lst ds => some ds
  | .cell n => match h[n]? with
    | some (.lst ds) => some ds
    | _ => none
  | _ => none
/-- a new list -/
@[simp] def newL (m : Bool) (ds : List D) (h : CH) : R D := match m with
  | true => .ok (.cell h.length) (h ++ [.lst ds])
  | false => .ok (.lst ds) h
def mulOk (i j : Int) : Bool := decide (-(2 ^ 64) < i ∧ i < 2 ^ 64) || (decide (-(2 ^ 64) < j ∧ j < 2 ^ 64) || decide (i.natAbs < 2 ^ 400000 ∧ j.natAbs < 2 ^ 400000))
def divOk (j : Int) : Bool := decide (0 < j ∧ j.natAbs < 2 ^ 8000)
mutual
def toP : D → Option PyData
  | .non => some .none
  | .bl b => some (.bool b)
  | .int i => some (.int i)
  | .str s => if PyData.canLay0 (.str s) then some (.str s) else none
  | .tup ds => (toPs ds).map .tuple
  | .lst ds => (toPs ds).map .list
  | .scr _ => none
  | .cell _ => none
  | .ins _ _ => none
def toPs : List D → Option (List PyData)
  | [] => some []
  | d :: ds => match toP d, toPs ds with
    | some p, some ps => some (p :: ps)
    | _, _ => none
end
/-- == of data without cells -/
def eqP (x y : D) : Option Bool := match toP x, toP y with
  | some p, some q => if p.depth ≤ 64 ∧ q.depth ≤ 64 then some (PyData.eqv p q) else none
  | _, _ => none
mutual
/-- no cells -/
def D.nc : D → Bool
  | .cell _ => false
  | .tup ds => ncs ds
  | .lst ds => ncs ds
  | .ins _ ds => ncs ds
  | _ => true
def ncs : List D → Bool
  | [] => true
  | d :: ds => d.nc && ncs ds
end
mutual
/-- nothing that could change -/
def D.solid : D → Bool
  | .cell _ => false
  | .lst _ => false
  | .ins _ _ => false
  | .scr _ => false
  | .tup ds => solids ds
  | _ => true
def solids : List D → Bool
  | [] => true
  | d :: ds => d.solid && solids ds
end
mutual
/-- cells below n alone -/
def D.und (n : Nat) : D → Bool
  | .cell k => decide (k < n)
  | .tup ds => unds n ds
  | .lst ds => unds n ds
  | .ins _ ds => unds n ds
  | _ => true
def unds (n : Nat) : List D → Bool
  | [] => true
  | d :: ds => d.und n && unds n ds
end
def Cell.und (n : Nat) : Cell → Bool
  | .lst ds => unds n ds
  | .ins _ ds => unds n ds
  | .dct kvs => unds n (kvs.map (·.2))
  | .dead => true
/-- the data that a value shows now -/
def snapF (h : CH) : Nat → D → Option D
  | 0, _ => none
  | k + 1, .tup ds => (ds.mapM (snapF h k)).map .tup
  | k + 1, .lst ds => (ds.mapM (snapF h k)).map .lst
  | k + 1, .cell n => match h[n]? with
    | some (.lst ds) => (ds.mapM (snapF h k)).map .lst
    | _ => none
  | _ + 1, .ins _ _ => none
  | _ + 1, d => some d
def snap (h : CH) (d : D) : Option D := if d.nc then some d else snapF h 6 d
def snaps (h : CH) (ds : List D) : Option (List D) := if ncs ds then some ds else ds.mapM (snap h)
/-- the cells that a value leans on -/
def cellsF (h : CH) : Nat → D → List Nat
  | 0, _ => []
  | k + 1, .tup ds => ds.flatMap (cellsF h k)
  | k + 1, .lst ds => ds.flatMap (cellsF h k)
  | k + 1, .cell n => n :: (match h[n]? with
    | some (.lst ds) => ds.flatMap (cellsF h k)
    | _ => [])
  | _ + 1, _ => []
def kill (l : List Nat) (h : CH) : CH := h.mapIdx fun i c => if l.contains i then .dead else c
def frzD (h : CH) (d : D) : Option (D × CH) := if d.nc then some (d, h) else (snapF h 6 d).map fun x => (x, kill (cellsF h 6 d) h)

@[simp] def intsOf : List D → Option (List Int)
  | [] => some []
  | .int i :: r => (intsOf r).map (i :: ·)
  | _ :: _ => none
@[simp] def blsOf : List D → Option (List Bool)
  | [] => some []
  | .bl i :: r => (blsOf r).map (i :: ·)
  | _ :: _ => none
def minL : List Int → Int
  | [] => 0
  | [x] => x
  | x :: y :: r => min x (minL (y :: r))
def maxL : List Int → Int
  | [] => 0
  | [x] => x
  | x :: y :: r => max x (maxL (y :: r))
def insS (x : Int) : List Int → List Int
  | [] => [x]
  | y :: r => if x ≤ y then x :: y :: r else y :: insS x r
def sortL : List Int → List Int
  | [] => []
  | x :: r => insS x (sortL r)
def ixD (ds : List D) (i : Int) : Option D := if 0 ≤ i then ds[i.toNat]? else if -(ds.length : Int) ≤ i then ds[(i + ds.length).toNat]? else none
def flatD : D → Bool
  | .non => true
  | .bl _ => true
  | .int _ => true
  | .str _ => true
  | _ => false
def eqF : D → D → Bool
  | .non, .non => true
  | .bl a, .bl b => a == b
  | .bl a, .int b => (if a then 1 else 0) == b
  | .int a, .bl b => a == (if b then 1 else 0)
  | .int a, .int b => a == b
  | .str a, .str b => a == b
  | _, _ => false
def memD (x : D) (ds : List D) : Bool := ds.any fun y => eqF y x
def findD (x : D) : List D → Option Nat
  | [] => none
  | y :: r => if eqF y x then some 0 else (findD x r).map (· + 1)
def isiD : D → Ty → Option Bool
  | .non, .own _ => some false
  | .lst _, .own _ => some false
  | .tup _, .own _ => some false
  | .ins c _, .own k => if c = k then some true else none
  | _, .own _ => none
  | .bl _, .int => some true
  | .bl _, .bool => some true
  | .int _, .int => some true
  | .lst _, .list => some true
  | .tup _, .tuple => some true
  | .non, _ => some false
  | .bl _, _ => some false
  | .int _, _ => some false
  | .str _, _ => some false
  | .lst _, _ => some false
  | .tup _, _ => some false
  | _, _ => none
/-- a cell shows what it is -/
def isiV (h : CH) (d : D) (t : Ty) : Option Bool := match d with
  | .cell n => (match h[n]? with
    | some (.lst ds) => isiD (.lst ds) t
    | some (.ins c ds) => isiD (.ins c ds) t
    | _ => none)
  | d => isiD d t
def isiAny (h : CH) (d : D) : List Ty → Option Bool
  | [] => some false
  | t :: r => match isiV h d t with
    | some true => some true
    | some false => isiAny h d r
    | none => none

/-- no instance is asked -/
def noIns (h : CH) : D → Bool
  | .ins _ _ => false
  | .cell n => (match h[n]? with
    | some (.ins _ _) => false
    | _ => true)
  | _ => true
def binD (o : Bop) (m : Bool) (x y : D) (h : CH) : R D := match o with
  | .add => (match x, y with
    | .int i, .int j => .ok (.int (i + j)) h
    | .tup xs, .tup ys => if xs.length + ys.length ≤ SZ then .ok (.tup (xs ++ ys)) h else .no
    | x, y => (match lstOf h x, lstOf h y with
      | some xs, some ys => if xs.length + ys.length ≤ SZ then newL m (xs ++ ys) h else .no
      | _, _ => .no))
  | .sub => (match x, y with
    | .int i, .int j => .ok (.int (i - j)) h
    | _, _ => .no)
  | .mul => (match x, y with
    | .int i, .int j => if mulOk i j then .ok (.int (i * j)) h else .no
    | .tup xs, .int k => if xs.length ≤ 1000 ∧ xs ≠ [] ∧ 2 ≤ k ∧ k ≤ 1000 then .ok (.tup (List.replicate k.toNat xs).flatten) h else .no
    | .lst xs, .int k => if xs.length * k.toNat ≤ SZ ∧ k ≤ SZ ∧ 0 ≤ k then newL m (List.replicate k.toNat xs).flatten h else .no
    | .cell n, .int k => (match lstOf h (.cell n) with
      | some xs => if xs.length * k.toNat ≤ SZ ∧ k ≤ SZ ∧ 0 ≤ k then newL m (List.replicate k.toNat xs).flatten h else .no
      | none => .no)
    | _, _ => .no)
  | .fdiv => (match x, y with
    | .int i, .int j => if divOk j then .ok (.int (i / j)) h else .no
    | _, _ => .no)
  | .mod => (match x, y with
    | .int i, .int j => if 0 < j then .ok (.int (i % j)) h else .no
    | _, _ => .no)
  | .pow => (match x, y with
    | .int i, .int j => if 0 ≤ j ∧ j ≤ 1000000 ∧ i.natAbs < 2 ^ 64 then .ok (.int (i ^ j.toNat)) h else .no
    | _, _ => .no)
def cmpD (o : Cop) (x y : D) (h : CH) : R D := match o with
  | .lt => (match x, y with
    | .int i, .int j => .ok (.bl (decide (i < j))) h
    | _, _ => .no)
  | .le => (match x, y with
    | .int i, .int j => .ok (.bl (decide (i ≤ j))) h
    | _, _ => .no)
  | .gt => (match x, y with
    | .int i, .int j => .ok (.bl (decide (j < i))) h
    | _, _ => .no)
  | .ge => (match x, y with
    | .int i, .int j => .ok (.bl (decide (j ≤ i))) h
    | _, _ => .no)
  | .eq => (match snap h x, snap h y with
    | some a, some b => (match eqP a b with
      | some c => .ok (.bl c) h
      | none => .no)
    | _, _ => .no)
  | .ne => (match snap h x, snap h y with
    | some a, some b => (match eqP a b with
      | some c => .ok (.bl (!c)) h
      | none => .no)
    | _, _ => .no)
  | .is => (match x, y with
    | .bl a, .bl b => .ok (.bl (a == b)) h
    | .non, .non => .ok (.bl true) h
    | _, .non => .ok (.bl false) h
    | _, _ => .no)
  | .isn => (match x, y with
    | .bl a, .bl b => .ok (.bl (!(a == b))) h
    | .non, .non => .ok (.bl false) h
    | _, .non => .ok (.bl true) h
    | _, _ => .no)
  | .inn => (match items h y with
    | some ys => if flatD x && ys.all flatD then .ok (.bl (memD x ys)) h else .no
    | none => .no)
  | .nin => (match items h y with
    | some ys => if flatD x && ys.all flatD then .ok (.bl (!memD x ys)) h else .no
    | none => .no)
def sliceD (ds : List D) (lo hi : Option Int) : List D := (ds.drop (HT.sIx ds.length 0 lo)).take (HT.sIx ds.length ds.length hi - HT.sIx ds.length 0 lo)
def slcD (m : Bool) (x : D) (lo hi : Option Int) (h : CH) : R D := match x with
  | .tup ds => .ok (.tup (sliceD ds lo hi)) h
  | x => match lstOf h x with
    | some ds => newL m (sliceD ds lo hi) h
    | none => .no
@[simp] def one1 (vs : List D) (g : D → R D) : R D := match vs with
  | [x] => g x
  | _ => .no
@[simp] def two2 (vs : List D) (g : D → D → R D) : R D := match vs with
  | [x, y] => g x y
  | _ => .no
@[simp] def intsIn (h : CH) (x : D) (g : List Int → R D) : R D := match items h x with
  | some ds => (match intsOf ds with
    | some ns => g ns
    | none => .no)
  | none => .no
@[simp] def intsL (h : CH) (x : D) (g : List Int → R D) : R D := match lstOf h x with
  | some ds => (match intsOf ds with
    | some ns => g ns
    | none => .no)
  | none => .no
@[simp] def blsL (h : CH) (x : D) (g : List Bool → R D) : R D := match lstOf h x with
  | some ds => (match blsOf ds with
    | some ns => g ns
    | none => .no)
  | none => .no
def biD (f : Bi) (m : Bool) (vs : List D) (h : CH) : R D := match f with
  | .len => one1 vs fun x => (match items h x with
    | some ds => .ok (.int ds.length) h
    | none => .no)
  | .sum => one1 vs fun x => intsIn h x fun ns => .ok (.int ns.sum) h
  | .min => one1 vs fun x => intsL h x fun ns => (match ns with
    | [] => .no
    | n :: ns => .ok (.int (minL (n :: ns))) h)
  | .max => one1 vs fun x => intsL h x fun ns => (match ns with
    | [] => .no
    | n :: ns => .ok (.int (maxL (n :: ns))) h)
  | .min2 => two2 vs fun x y => (match x, y with
    | .int i, .int j => .ok (.int (if j < i then j else i)) h
    | _, _ => .no)
  | .max2 => two2 vs fun x y => (match x, y with
    | .int i, .int j => .ok (.int (if j > i then j else i)) h
    | _, _ => .no)
  | .min3 => .no
  | .abs => one1 vs fun x => (match x with
    | .int i => .ok (.int (if i < 0 then -i else i)) h
    | _ => .no)
  | .int => one1 vs fun x => (match x with
    | .int i => .ok (.int i) h
    | .bl b => .ok (.int (if b then 1 else 0)) h
    | _ => .no)
  | .list => one1 vs fun x => (match items h x with
    | some ds => newL m ds h
    | none => .no)
  | .tuple => one1 vs fun x => (match items h x with
    | some ds => .ok (.tup ds) h
    | none => .no)
  | .sorted => one1 vs fun x => intsL h x fun ns => newL m ((sortL ns).map .int) h
  | .any => one1 vs fun x => blsL h x fun bs => .ok (.bl (bs.any id)) h
  | .all => one1 vs fun x => blsL h x fun bs => .ok (.bl (bs.all id)) h
@[simp] def onCell (x : D) (h : CH) (g : Nat → List D → R D) : R D := match x with
  | .cell n => (match h[n]? with
    | some (.lst ds) => g n ds
    | _ => .no)
  | _ => .no
def mthD (f : Mt) (x : D) (vs : List D) (h : CH) : R D := match f with
  | .index => one1 vs fun y => (match lstOf h x with
    | some ds => if flatD y && ds.all flatD then (match findD y ds with
      | some k => .ok (.int k) h
      | none => .no) else .no
    | none => .no)
  | .append => onCell x h fun n ds => one1 vs fun y => if ds.length < SZ then .ok .non (h.set n (.lst (ds ++ [y]))) else .no
  | .pop => onCell x h fun n ds => (match vs with
    | [] => (match ds[ds.length - 1]? with
      | some y => .ok y (h.set n (.lst ds.dropLast))
      | none => .no)
    | _ => .no)
  | .popAt => onCell x h fun n ds => one1 vs fun y => (match y with
    | .int i => if 0 ≤ i ∧ i < SZ then (match ds[i.toNat]? with
      | some y => .ok y (h.set n (.lst (ds.eraseIdx i.toNat)))
      | none => .no) else .no
    | _ => .no)
  | .insert => onCell x h fun n ds => two2 vs fun i y => (match i with
    | .int i => if ds.length < SZ ∧ 0 ≤ i ∧ i < SZ then .ok .non (h.set n (.lst (ds.take i.toNat ++ [y] ++ ds.drop i.toNat))) else .no
    | _ => .no)
  | .reverse => onCell x h fun n ds => (match vs with
    | [] => .ok .non (h.set n (.lst ds.reverse))
    | _ => .no)
def ixV (x i : D) (h : CH) : R D := match items h x, i with
  | some ds, .int k => (match ixD ds k with
    | some d => .ok d h
    | none => .no)
  | _, _ => .no
/-- x[i] = y -/
def setV (x i y : D) (h : CH) : Option CH := match x, i with
  | .cell n, .int k => (match h[n]? with
    | some (.lst ds) => if 0 ≤ k then (if k.toNat < ds.length then some (h.set n (.lst (ds.set k.toNat y))) else none)
      else if -(ds.length : Int) ≤ k then some (h.set n (.lst (ds.set (k + ds.length).toNat y))) else none
    | _ => none)
  | _, _ => none

/-! ### turns -/
abbrev Ck := Option (Nat × List D)
mutual
def D.beq : D → D → Bool
  | .non, .non => true
  | .bl a, .bl b => a == b
  | .int a, .int b => a == b
  | .str a, .str b => a == b
  | .tup a, .tup b => beqs a b
  | .lst a, .lst b => beqs a b
  | .cell a, .cell b => a == b
  | .ins c a, .ins k b => c == k && beqs a b
  | .scr a, .scr b => a == b
  | _, _ => false
def beqs : List D → List D → Bool
  | [], [] => true
  | a :: r, b :: s => a.beq b && beqs r s
  | _, _ => false
end
def ckOk (c : Ck) (h : CH) : Bool := match c with
  | none => true
  | some (n, ds) => (match h[n]? with
    | some (.lst es) => beqs es ds
    | _ => false)
def ckOf : D → List D → Ck
  | .cell n, ds => some (n, ds)
  | _, _ => none
def rngOk (i : Int) : Bool := decide (-(2 ^ 62) ≤ i ∧ i < 2 ^ 62)
def rngL (a : Int) (n : Nat) : List D := (List.range n).map fun i => .int (a + (i : Nat))
def rngD (a : Int) (n : Nat) : List D := (List.range n).map fun i => .int (a - (i : Nat))
def enumFrom : Nat → List D → List D
  | _, [] => []
  | k, d :: r => .tup [.int k, d] :: enumFrom (k + 1) r
def zipL : List D → List D → List D
  | x :: xs, y :: ys => .tup [x, y] :: zipL xs ys
  | _, _ => []
def itD (fn : Tn) (vs : List D) (h : CH) : R (List D × Ck) := match fn, vs with
  | .rng1, [.int n] => if rngOk n then .ok (rngL 0 n.toNat, none) h else .no
  | .rng2, [.int a, .int b] => if rngOk a && rngOk b then .ok (rngL a (b - a).toNat, none) h else .no
  | .rng3, [.int a, .int b, .int c] => if rngOk a && rngOk b && decide (c = -1) then .ok (rngD a (a - b).toNat, none) h else .no
  | .enum, [x] => (match items h x with
    | some ds => if x matches .scr _ then .no else .ok (enumFrom 0 ds, ckOf x ds) h
    | none => .no)
  | .zip, [.tup xs, .tup ys] => if xs.length = ys.length then .ok (zipL xs ys, none) h else .no
  | .zip, [.lst xs, .lst ys] => if xs.length = ys.length then .ok (zipL xs ys, none) h else .no
  | _, _ => .no
def setAll : List Nat → List D → Env → Env
  | i :: is, d :: ds, env => setAll is ds (env.set i (some d))
  | _, _, env => env
def asgTg (tg : Tg) (d : D) (env : Env) : Option Env := match tg with
  | .nm i => some (env.set i (some d))
  | .tp ts => (match d with
    | .tup ds => if ds.length = ts.length then some (setAll ts ds env) else none
    | _ => none)
def wipeE (env : Env) : List Nat → Env
  | [] => env
  | v :: vs => (wipeE env vs).set v none
def asBl (r : R D) : R Bool := r.bnd fun d h => match d with
  | .bl b => .ok b h
  | _ => .no
@[simp] theorem asBl_ok (b : Bool) (h : CH) : asBl (.ok (.bl b) h) = .ok b h := (rfl)
/-- a comprehension's turns -/
def compGo (ck : Ck) (asg : D → Option Env) (test : Env → CH → R Bool) (f : Env → CH → R D) : List D → CH → R (List D)
  | [], h => if ckOk ck h then .ok [] h else .no
  | d :: r, h => if ckOk ck h then (match asg d with
    | some env => (test env h).bnd fun b h1 => match b with
      | true => (f env h1).bnd fun y h2 => (compGo ck asg test f r h2).bnd fun ys h3 => .ok (y :: ys) h3
      | false => compGo ck asg test f r h1
    | none => .no) else .no

/-! ### calls -/
abbrev FS := Nat → List D → CH → R D
def pcall (Φ : FS) (f : Nat) (ds : List D) : PR := match Φ f ds [] with
  | .ok d _ => if d.nc then .ok d else .no
  | .ex c es _ => if ncs es then .ex c es else .no
  | .no => .no
def callP (Φ : FS) (f : Nat) (ds : List D) (h : CH) : R D := match snaps h ds with
  | some ds' => (match pcall Φ f ds' with
    | .ok d => if ncs ds || d.solid then .ok d h else .no
    | .ex c es => if ncs ds || solids es then .ex c es h else .no
    | .no => .no)
  | none => .no
def trunc (n : Nat) (d : D) (h : CH) : CH := if h.length ≤ n then h else if d.und n && (h.take n).all (Cell.und n) then h.take n else h
def callH (Φ : FS) (f : Nat) (ds : List D) (h : CH) : R D := match Φ f ds h with
  | .ok d h' => .ok d (trunc h.length d h')
  | r => r
def callM (md : Bool) (Φ : FS) (f : Nat) (ds : List D) (h : CH) : R D := match md with
  | true => callP Φ f ds h
  | false => callH Φ f ds h

/-! ### expressions -/
mutual
def evE (Φ : FS) : E → Env → CH → R D
  | .var i, env, h => match env[i]? with
    | some (some d) => .ok d h
    | _ => .no
  | .con c, _, h => .ok c.d h
  | .bin o m a b, env, h => (evE Φ a env h).bnd fun x h1 => (evE Φ b env h1).bnd fun y h2 => binD o m x y h2
  | .neg a, env, h => (evE Φ a env h).bnd fun x h1 => match x with
    | .int i => .ok (.int (-i)) h1
    | _ => .no
  | .not a, env, h => (asBl (evE Φ a env h)).bnd fun b h1 => .ok (.bl (!b)) h1
  | .bo1 _ a, env, h => evE Φ a env h
  | .bo o a b, env, h => (asBl (evE Φ a env h)).bnd fun x h1 => match o == x with
    | true => evE Φ b env h1
    | false => .ok (.bl x) h1
  | .cmp o a b, env, h => (evE Φ a env h).bnd fun x h1 => (evE Φ b env h1).bnd fun y h2 => cmpD o x y h2
  | .ife t a b, env, h => (asBl (evE Φ t env h)).bnd fun x h1 => match x with
    | true => evE Φ a env h1
    | false => evE Φ b env h1
  | .tup es, env, h => (evEs Φ es env h).bnd fun vs h1 => .ok (.tup vs) h1
  | .lst m es, env, h => (evEs Φ es env h).bnd fun vs h1 => newL m vs h1
  | .call md f es, env, h => (evEs Φ es env h).bnd fun vs h1 => callM md Φ f vs h1
  | .callD md f es c, env, h => (evEs Φ es env h).bnd fun vs h1 => callM md Φ f (vs ++ [c.d]) h1
  | .callK md f es e, env, h => (evEs Φ es env h).bnd fun vs h1 => (evE Φ e env h1).bnd fun v h2 => callM md Φ f (vs ++ [v]) h2
  | .bi f m es, env, h => (evEs Φ es env h).bnd fun vs h1 => biD f m vs h1
  | .isi a _ ts, env, h => (evE Φ a env h).bnd fun x h1 => match isiAny h1 x ts with
    | some b => if noIns h1 x then .ok (.bl b) h1 else .no
    | none => .no
  | .mth o f es, env, h => (evE Φ o env h).bnd fun x h1 => (evEs Φ es env h1).bnd fun vs h2 => if (lstOf h1 x).isSome then mthD f x vs h2 else .no
  | .ix a i, env, h => (evE Φ a env h).bnd fun x h1 => (evE Φ i env h1).bnd fun y h2 => ixV x y h2
  | .slc m a lo hi, env, h => (evE Φ a env h).bnd fun x h1 => (evO Φ lo env h1).bnd fun l h2 => (evO Φ hi env h2).bnd fun u h3 => slcD m x l u h3
  | .rev m a, env, h => (evE Φ a env h).bnd fun x h1 => match x with
    | x => match lstOf h1 x with
      | some ds => newL m ds.reverse h1
      | none => .no
  | .comp m own tg it c e, env, h => (evIt Φ it env h).bnd fun p h1 => (compGo p.2 (fun d => asgTg tg d (wipeE env (own.map (·.2)))) (fun en => evC Φ c en) (fun en => evE Φ e en) p.1 h1).bnd fun ys h2 => if ys.length ≤ SZ then newL m ys h2 else .no
def evEs (Φ : FS) : Es → Env → CH → R (List D)
  | .nil, _, h => .ok [] h
  | .cons e es, env, h => (evE Φ e env h).bnd fun v h1 => (evEs Φ es env h1).bnd fun vs h2 => .ok (v :: vs) h2
/-- a slice's part -/
def evO (Φ : FS) : Oe → Env → CH → R (Option Int)
  | .none, _, h => .ok none h
  | .some e, env, h => (evE Φ e env h).bnd fun v h1 => match v with
    | .int i => .ok (some i) h1
    | _ => .no
/-- a comprehension's if -/
def evC (Φ : FS) : Oe → Env → CH → R Bool
  | .none, _, h => .ok true h
  | .some e, env, h => asBl (evE Φ e env h)
def evIt (Φ : FS) : It → Env → CH → R (List D × Ck)
  | .e x, env, h => (evE Φ x env h).bnd fun v h1 => match items h1 v with
    | some ds => .ok (ds, ckOf v ds) h1
    | none => .no
  | .f fn es, env, h => (evEs Φ es env h).bnd fun vs h1 => itD fn vs h1
end

/-! ### statements -/
def forGo (ck : Ck) (asg : D → Env → Option Env) (f : Env → CH → RS) (fg : List Nat) : List D → Env → CH → RS
  | [], env, h => if ckOk ck h then .nx env h else .no
  | d :: r, env, h => if ckOk ck h then (match asg d env with
    | some env1 => (f env1 h).andThen fun env2 h2 => forGo ck asg f fg r (wipeE env2 fg) h2
    | none => .no) else .no
def whlN (t : Env → CH → R Bool) (f : Env → CH → RS) (fg : List Nat) : Nat → Env → CH → RS
  | 0, _, _ => .no
  | k + 1, env, h => RS.of (t env h) fun b h1 => match b with
    | true => (f env h1).andThen fun env2 h2 => whlN t f fg k (wipeE env2 fg) h2
    | false => .nx env h1
open Classical in
noncomputable def whlD (t : Env → CH → R Bool) (f : Env → CH → RS) (fg : List Nat) (env : Env) (h : CH) : RS :=
  if hx : ∃ k, whlN t f fg k env h ≠ .no then whlN t f fg (Classical.choose hx) env h else .no
theorem whlN_mono {t : Env → CH → R Bool} {f : Env → CH → RS} {fg : List Nat} : ∀ {k : Nat} {env : Env} {h : CH}, whlN t f fg k env h ≠ .no → whlN t f fg (k + 1) env h = whlN t f fg k env h
  | 0, env, h, q => absurd rfl q
  | k + 1, env, h, q => by
    have q' := q
    unfold whlN at q' ⊢
    cases e : t env h with
    | no => rfl
    | ex c ds h1 => rfl
    | ok b h1 =>
      rw [e] at q'
      simp only [RS.of_ok] at q' ⊢
      cases b with
      | false => rfl
      | true =>
        cases e2 : f env h1 with
        | nx env2 h2 =>
          rw [e2] at q'
          simp only [RS.andThen_nx] at q' ⊢
          exact whlN_mono q'
        | rt d h2 => rfl
        | ex c ds h2 => rfl
        | no => rfl
theorem whlN_le {t : Env → CH → R Bool} {f : Env → CH → RS} {fg : List Nat} {k : Nat} {env : Env} {h : CH} (q : whlN t f fg k env h ≠ .no) : ∀ m, whlN t f fg (k + m) env h = whlN t f fg k env h
  | 0 => rfl
  | m + 1 => by
    have ih := whlN_le q m
    have q2 : whlN t f fg (k + m) env h ≠ .no := by rw [ih]; exact q
    exact (whlN_mono q2).trans ih
theorem whlN_same {t : Env → CH → R Bool} {f : Env → CH → RS} {fg : List Nat} {k m : Nat} {env : Env} {h : CH} (q : whlN t f fg k env h ≠ .no) (r : whlN t f fg m env h ≠ .no) : whlN t f fg k env h = whlN t f fg m env h := by
  rw [← whlN_le q m, ← whlN_le r k, Nat.add_comm]
theorem whlD_of {t : Env → CH → R Bool} {f : Env → CH → RS} {fg : List Nat} {k : Nat} {env : Env} {h : CH} (q : whlN t f fg k env h ≠ .no) : whlD t f fg env h = whlN t f fg k env h := by
  have hx : ∃ k, whlN t f fg k env h ≠ .no := ⟨k, q⟩
  unfold whlD
  rw [dif_pos hx]
  exact whlN_same (Classical.choose_spec hx) q
theorem whlD_some {t : Env → CH → R Bool} {f : Env → CH → RS} {fg : List Nat} {env : Env} {h : CH} (q : whlD t f fg env h ≠ .no) : ∃ k, whlD t f fg env h = whlN t f fg k env h := by
  by_cases hx : ∃ k, whlN t f fg k env h ≠ .no
  · exact ⟨_, by unfold whlD; rw [dif_pos hx]⟩
  · exact absurd (by unfold whlD; rw [dif_neg hx]) q
/-- a while is one turn, then the while -/
theorem whlD_eq (t : Env → CH → R Bool) (f : Env → CH → RS) (fg : List Nat) (env : Env) (h : CH) : whlD t f fg env h = RS.of (t env h) fun b h1 => match b with
    | true => (f env h1).andThen fun env2 h2 => whlD t f fg (wipeE env2 fg) h2
    | false => .nx env h1 := by
  have one : ∀ k, whlN t f fg (k + 1) env h = RS.of (t env h) fun b h1 => match b with
    | true => (f env h1).andThen fun env2 h2 => whlN t f fg k (wipeE env2 fg) h2
    | false => .nx env h1 := fun k => rfl
  cases e : t env h with
  | no =>
    by_cases hx : ∃ k, whlN t f fg k env h ≠ .no
    · obtain ⟨k, hk⟩ := hx
      cases k with
      | zero => exact absurd rfl hk
      | succ k => rw [one, e] at hk; exact absurd rfl hk
    · unfold whlD; rw [dif_neg hx]; rfl
  | ex c ds h1 =>
    have q : whlN t f fg 1 env h ≠ .no := by rw [one, e]; simp
    rw [whlD_of q, one, e]; rfl
  | ok b h1 =>
    cases b with
    | false =>
      have q : whlN t f fg 1 env h ≠ .no := by rw [one, e]; simp
      rw [whlD_of q, one, e]; rfl
    | true =>
      simp only [RS.of_ok]
      cases e2 : f env h1 with
      | rt d h2 =>
        have q : whlN t f fg 1 env h ≠ .no := by rw [one, e]; simp [e2]
        rw [whlD_of q, one, e]; simp [e2]
      | ex c ds h2 =>
        have q : whlN t f fg 1 env h ≠ .no := by rw [one, e]; simp [e2]
        rw [whlD_of q, one, e]; simp [e2]
      | no =>
        by_cases hx : ∃ k, whlN t f fg k env h ≠ .no
        · obtain ⟨k, hk⟩ := hx
          cases k with
          | zero => exact absurd rfl hk
          | succ k => rw [one, e] at hk; simp [e2] at hk
        · unfold whlD; rw [dif_neg hx]; rfl
      | nx env2 h2 =>
        simp only [RS.andThen_nx]
        by_cases hx : ∃ k, whlN t f fg k (wipeE env2 fg) h2 ≠ .no
        · obtain ⟨k, hk⟩ := hx
          have q : whlN t f fg (k + 1) env h ≠ .no := by rw [one, e]; simp only [RS.of_ok, e2, RS.andThen_nx]; exact hk
          rw [whlD_of q, one, e, whlD_of hk]; simp only [RS.of_ok, e2, RS.andThen_nx]
        · have hn : whlD t f fg (wipeE env2 fg) h2 = .no := by unfold whlD; rw [dif_neg hx]
          rw [hn]
          have hx2 : ¬ ∃ k, whlN t f fg k env h ≠ .no := by
            rintro ⟨k, hk⟩
            cases k with
            | zero => exact absurd rfl hk
            | succ k =>
              rw [one, e] at hk
              simp only [RS.of_ok, e2, RS.andThen_nx] at hk
              exact hx ⟨k, hk⟩
          unfold whlD; rw [dif_neg hx2]

def evTgt (Φ : FS) (tg : Tgt) (v : D) (env : Env) (h : CH) : RS := match tg with
  | .nm i => .nx (env.set i (some v)) h
  | .tp ts => (match v with
    | .tup ds => if ds.length = ts.length then .nx (setAll ts ds env) h else .no
    | _ => .no)
  | .sub a i => RS.of (evE Φ a env h) fun x h1 => RS.of (evE Φ i env h1) fun y h2 => match setV x y v h2 with
    | some h3 => .nx env h3
    | none => .no
mutual
noncomputable def evS (Φ : FS) : S → Env → CH → RS
  | .asg tg e, env, h => RS.of (evE Φ e env h) fun v h1 => evTgt Φ tg v env h1
  | .par i j a b, env, h => RS.of (evE Φ a env h) fun v h1 => RS.of (evE Φ b env h1) fun w h2 => .nx ((env.set i (some v)).set j (some w)) h2
  | .aug i e, env, h => RS.of (evE Φ (.var i) env h) fun v h1 => RS.of (evE Φ e env h1) fun w h2 => match v, w with
    | .int x, .int y => .nx (env.set i (some (.int (x + y)))) h2
    | _, _ => .no
  | .expr e, env, h => RS.of (evE Φ e env h) fun _ h1 => .nx env h1
  | .ret e, env, h => RS.of (evE Φ e env h) fun v h1 => .rt v h1
  | .ife t a b, env, h => RS.of (asBl (evE Φ t env h)) fun x h1 => match x with
    | true => evSs Φ a env h1
    | false => evSs Φ b env h1
  | .fr tg it b fg, env, h => RS.of (evIt Φ it env h) fun p h1 => forGo p.2 (asgTg tg) (fun en => evSs Φ b en) fg p.1 env h1
  | .whl t b fg, env, h => whlD (fun en hh => asBl (evE Φ t en hh)) (fun en => evSs Φ b en) fg env h
  | .pass, env, h => .nx env h
  | .frz i, env, h => match env[i]? with
    | some (some d) => (match frzD h d with
      | some (d', h') => .nx (env.set i (some d')) h'
      | none => .no)
    | _ => .no
  | .fg is, env, h => .nx (wipeE env is) h
  | .nev, _, _ => .no
noncomputable def evSs (Φ : FS) : Ss → Env → CH → RS
  | .nil, env, h => .nx env h
  | .cons s ss, env, h => (evS Φ s env h).andThen fun env1 h1 => evSs Φ ss env1 h1
end

/-! ### defs -/
structure Fd where
  name : Str
  ar : Nat
  n : Nat
  body : Ss
def envOf (n : Nat) (ds : List D) : Env := ds.map some ++ List.replicate (n - ds.length) none
noncomputable def run (T : Nat → Option Fd) : Nat → FS
  | 0 => fun _ _ _ => .no
  | k + 1 => fun f ds h => match T f with
    | some fd => if ds.length = fd.ar then (match evSs (run T k) fd.body (envOf fd.n ds) h with
      | .nx _ h' => .ok .non h'
      | .rt d h' => .ok d h'
      | .ex c es h' => .ex c es h'
      | .no => .no) else .no
    | none => .no
end Z

/-! what a state of the small language stands for -/
namespace Z
open PySem PySem.Spec PyProof.Rows L2

/-- where the cells stand; what is settled -/
structure Gh where
  φ : Nat → Addr
  F : Addr → Prop

/-- a sequence that nobody may write -/
def SqF (K : PySem.W.Frag) (H : Hp) (a : Addr) (xs : List V) : Prop := (∃ o, H a = some (.frz o (.lst xs))) ∨
    ∃ (o : Obj) (its : Array Value) (n : Nat), K.lookup a = some o ∧ o.cls = .type "list" ∧ o.dict = none ∧ o.data = .seq its n ∧ its.size ≤ sizeLine ∧ Vals xs its.toList
theorem SqF.sq {K : PySem.W.Frag} {H : Hp} {a : Addr} {xs : List V} (h : SqF K H a xs) : SqL K H a xs := h.elim (fun z => .inl (.inr z)) .inr
theorem SqF.mono {K : PySem.W.Frag} {H H' : Hp} {a : Addr} {xs : List V} (h : SqF K H a xs) (k : ∀ o, H a = some o → ¬ Mut (some o) → H' a = some o) : SqF K H' a xs := h.elim (fun ⟨o, e⟩ => .inl ⟨o, k _ e fun z => z⟩) .inr
section
variable (K : PySem.W.Frag) (CL : Nat → Option Addr) (N : Nat) (G : Gh) (H : Hp)
mutual
inductive RV : D → V → Prop
  | non : RV .non .non
  | bl (b : Bool) : RV (.bl b) (.bl b)
  | int (i : Int) : RV (.int i) (.int i)
  | str (s : Str) : RV (.str s) (.str s)
  | tup {a : Addr} {vs : List V} {ds : List D} : SqT K H a vs → RVs ds vs → RV (.tup ds) (.ref a)
  | lst {a : Addr} {vs : List V} {ds : List D} : G.F a → H a = some (.lst vs) → RVs ds vs → RV (.lst ds) (.ref a)
  | cell {n : Nat} : n < N → RV (.cell n) (.ref (G.φ n))
  | ins {c : Nat} {a C dx : Addr} {fs : List (Str × V)} {ds : List D} : G.F a → CL c = some C → H a = some (.ins C dx fs) → RVs ds (fs.map (·.2)) → RV (.ins c ds) (.ref a)
  | scr {a : Addr} {ns : List Int} : SqF K H a (ns.map V.int) → RV (.scr ns) (.ref a)
inductive RVs : List D → List V → Prop
  | nil : RVs [] []
  | cons {d : D} {v : V} {ds : List D} {vs : List V} : RV d v → RVs ds vs → RVs (d :: ds) (v :: vs)
end
/-- a cell that lives -/
def Cell.live : Cell → Bool
  | .dead => false
  | _ => true
def kvV : List (Int × D) → List (Key × V) → Prop
  | [], [] => True
  | (i, d) :: r, (k, v) :: s => k = .inl i ∧ RV K CL N G H d v ∧ kvV r s
  | _, _ => False
def RC (n : Nat) : Cell → Prop
  | .lst ds => ¬ G.F (G.φ n) ∧ ∃ vs, H (G.φ n) = some (.lst vs) ∧ RVs K CL N G H ds vs
  | .ins c ds => ¬ G.F (G.φ n) ∧ ∃ C dx fs, CL c = some C ∧ H (G.φ n) = some (.ins C dx fs) ∧ RVs K CL N G H ds (fs.map (·.2))
  | .dct kvs => ¬ G.F (G.φ n) ∧ ∃ ws, H (G.φ n) = some (.dK ws) ∧ kvV K CL N G H kvs ws
  | .dead => True
end
/-- the state h is what stands in H -/
structure SR (K : PySem.W.Frag) (CL : Nat → Option Addr) (G : Gh) (h : CH) (H : Hp) : Prop where
  cell : ∀ n c, h[n]? = some c → RC K CL h.length G H n c
  inj : ∀ n m c e, h[n]? = some c → h[m]? = some e → c.live = true → e.live = true → G.φ n = G.φ m → n = m
  fh : ∀ a, G.F a → H a ≠ none
/-- from one state to a later one -/
structure EvR (G : Gh) (h : CH) (H : Hp) (G' : Gh) (h' : CH) (H' : Hp) : Prop where
  len : h.length ≤ h'.length
  phi : ∀ n, n < h.length → G'.φ n = G.φ n
  fr : ∀ a, G.F a → G'.F a
  frame : ∀ a o, H a = some o → (∀ n c, h[n]? = some c → c.live = true → G.φ n ≠ a) → H' a = some o
  new : ∀ n c, h'[n]? = some c → c.live = true → (n < h.length ∧ ∃ e, h[n]? = some e ∧ e.live = true) ∨ H (G'.φ n) = none
  nf : ∀ a, G'.F a → G.F a ∨ H a = none ∨ ∃ n c, h[n]? = some c ∧ c.live = true ∧ G.φ n = a
  tr : ∀ a, H a ≠ none → H' a ≠ none

variable {K : PySem.W.Frag} {CL : Nat → Option Addr} {N N' : Nat} {G G' G1 G2 : Gh} {H H' H1 H2 : Hp} {h h' h1 h2 : CH}

theorem SR.obj (s : SR K CL G h H) {n : Nat} {c : Cell} (e : h[n]? = some c) (l : c.live = true) : ¬ G.F (G.φ n) ∧ ∃ o, H (G.φ n) = some o ∧ Mut (some o) := by
  have r := s.cell n c e
  cases c with
  | lst ds => obtain ⟨a, vs, b, _⟩ := r; exact ⟨a, _, b, trivial⟩
  | ins c ds => obtain ⟨a, C, dx, fs, _, b, _⟩ := r; exact ⟨a, _, b, trivial⟩
  | dct kvs => obtain ⟨a, ws, b, _⟩ := r; exact ⟨a, _, b, trivial⟩
  | dead => cases l
/-- an address that holds nothing changeable is no cell's -/
theorem SR.off (s : SR K CL G h H) {a : Addr} {o : HO} (e : H a = some o) (nm : ¬ Mut (some o)) : ∀ n c, h[n]? = some c → c.live = true → G.φ n ≠ a := fun n c q l z => by
  obtain ⟨_, u, b, m⟩ := s.obj q l
  rw [z, e] at b
  cases b
  exact nm m
theorem SR.offF (s : SR K CL G h H) {a : Addr} (f : G.F a) : ∀ n c, h[n]? = some c → c.live = true → G.φ n ≠ a := fun n c q l z => (s.obj q l).1 (z ▸ f)
theorem EvR.refl (G : Gh) (h : CH) (H : Hp) : EvR G h H G h H where
  len := Nat.le_refl _
  phi := fun _ _ => rfl
  fr := fun _ f => f
  frame := fun _ _ e _ => e
  new := fun n c e l => by
    have lt : n < h.length := by
      rcases Nat.lt_or_ge n h.length with z | z
      · exact z
      · rw [List.getElem?_eq_none z] at e; cases e
    exact .inl ⟨lt, c, e, l⟩
  nf := fun _ f => .inl f
  tr := fun _ e => e
theorem lt_of_get {α : Type} {l : List α} {n : Nat} {c : α} (e : l[n]? = some c) : n < l.length := by
  rcases Nat.lt_or_ge n l.length with z | z
  · exact z
  · rw [List.getElem?_eq_none z] at e; cases e
theorem EvR.trans (a : EvR G h H G1 h1 H1) (b : EvR G1 h1 H1 G2 h2 H2) : EvR G h H G2 h2 H2 where
  len := Nat.le_trans a.len b.len
  phi := fun n l => (b.phi n (Nat.lt_of_lt_of_le l a.len)).trans (a.phi n l)
  fr := fun x f => b.fr x (a.fr x f)
  frame := fun x o e no => b.frame x o (a.frame x o e no) fun n c q l z => by
    rcases a.new n c q l with ⟨lt, e1, q1, l1⟩ | f
    · exact no n e1 q1 l1 ((a.phi n lt).symm.trans z)
    · rw [z, e] at f; cases f
  new := fun n c q l => by
    rcases b.new n c q l with ⟨lt, e1, q1, l1⟩ | f
    · rcases a.new n e1 q1 l1 with z | f
      · exact .inl z
      · exact .inr (by rw [b.phi n lt]; exact f)
    · refine .inr ?_
      cases z : H (G2.φ n) with
      | none => rfl
      | some o => exact absurd f (a.tr _ (by rw [z]; simp))
  nf := fun x f => by
    rcases b.nf x f with f1 | f1 | ⟨n, c, q, l, z⟩
    · exact a.nf x f1
    · refine .inr (.inl ?_)
      cases z : H x with
      | none => rfl
      | some o => exact absurd f1 (a.tr _ (by rw [z]; simp))
    · rcases a.new n c q l with ⟨lt, e1, q1, l1⟩ | f2
      · exact .inr (.inr ⟨n, e1, q1, l1, (a.phi n lt).symm.trans z⟩)
      · exact .inr (.inl (by rw [← z]; exact f2))
  tr := fun x e => b.tr x (a.tr x e)
theorem SqT.mono {a : Addr} {vs : List V} (k : ∀ o, H a = some o → ¬ Mut (some o) → H' a = some o) (r : SqT K H a vs) : SqT K H' a vs := by
  rcases r with (r | ⟨o, r⟩) | r
  · exact .inl (.inl (k _ r (fun z => z)))
  · exact .inl (.inr ⟨o, k _ r (fun z => z)⟩)
  · exact .inr r
theorem SqL.mono' {a : Addr} {vs : List V} (k : ∀ o, H a = some o → H' a = some o) (r : SqL K H a vs) : SqL K H' a vs := by
  rcases r with (r | ⟨o, r⟩) | r
  · exact .inl (.inl (k _ r))
  · exact .inl (.inr ⟨o, k _ r⟩)
  · exact .inr r
mutual
/-- what a value stands for stays -/
theorem RV.keep (hN : N ≤ N') (phi : ∀ n, n < N → G'.φ n = G.φ n) (fr : ∀ a, G.F a → G'.F a) (k1 : ∀ a o, H a = some o → ¬ Mut (some o) → H' a = some o) (k2 : ∀ a o, G.F a → H a = some o → H' a = some o) :
    ∀ {d : D} {v : V}, RV K CL N G H d v → RV K CL N' G' H' d v
  | _, _, .non => .non
  | _, _, .bl b => .bl b
  | _, _, .int i => .int i
  | _, _, .str s => .str s
  | _, _, .tup a b => .tup (SqT.mono (k1 _) a) (RVs.keep hN phi fr k1 k2 b)
  | _, _, .lst f a b => .lst (fr _ f) (k2 _ _ f a) (RVs.keep hN phi fr k1 k2 b)
  | .cell n, _, .cell l => by rw [← phi _ l]; exact .cell (Nat.lt_of_lt_of_le l hN)
  | _, _, .ins f a b c => .ins (fr _ f) a (k2 _ _ f b) (RVs.keep hN phi fr k1 k2 c)
  | _, _, .scr a => .scr (a.mono (k1 _))
theorem RVs.keep (hN : N ≤ N') (phi : ∀ n, n < N → G'.φ n = G.φ n) (fr : ∀ a, G.F a → G'.F a) (k1 : ∀ a o, H a = some o → ¬ Mut (some o) → H' a = some o) (k2 : ∀ a o, G.F a → H a = some o → H' a = some o) :
    ∀ {ds : List D} {vs : List V}, RVs K CL N G H ds vs → RVs K CL N' G' H' ds vs
  | _, _, .nil => .nil
  | _, _, .cons a b => .cons (RV.keep hN phi fr k1 k2 a) (RVs.keep hN phi fr k1 k2 b)
end
theorem EvR.k1 (s : SR K CL G h H) (e : EvR G h H G' h' H') : ∀ a o, H a = some o → ¬ Mut (some o) → H' a = some o := fun a o q m => e.frame a o q (s.off q m)
theorem EvR.k2 (s : SR K CL G h H) (e : EvR G h H G' h' H') : ∀ a o, G.F a → H a = some o → H' a = some o := fun a o f q => e.frame a o q (s.offF f)
theorem RV.ev (s : SR K CL G h H) (e : EvR G h H G' h' H') {d : D} {v : V} (r : RV K CL h.length G H d v) : RV K CL h'.length G' H' d v := r.keep e.len e.phi e.fr (e.k1 s) (e.k2 s)
theorem RVs.ev (s : SR K CL G h H) (e : EvR G h H G' h' H') {ds : List D} {vs : List V} (r : RVs K CL h.length G H ds vs) : RVs K CL h'.length G' H' ds vs := r.keep e.len e.phi e.fr (e.k1 s) (e.k2 s)

theorem RVs.length : ∀ {ds : List D} {vs : List V}, RVs K CL N G H ds vs → ds.length = vs.length
  | _, _, .nil => rfl
  | _, _, .cons _ b => congrArg Nat.succ b.length
theorem RVs.get : ∀ {ds : List D} {vs : List V} {i : Nat} {d : D}, RVs K CL N G H ds vs → ds[i]? = some d → ∃ v, vs[i]? = some v ∧ RV K CL N G H d v
  | _, _, _, _, .nil, e => by simp at e
  | _, _, 0, _, .cons a _, e => by simp at e; subst e; exact ⟨_, rfl, a⟩
  | _, _, i + 1, d, .cons _ b, e => by
    obtain ⟨v, h1, h2⟩ := RVs.get (i := i) (d := d) b (by simpa using e)
    exact ⟨v, by simpa using h1, h2⟩
theorem RVs.append : ∀ {ds es : List D} {vs ws : List V}, RVs K CL N G H ds vs → RVs K CL N G H es ws → RVs K CL N G H (ds ++ es) (vs ++ ws)
  | _, _, _, _, .nil, s => s
  | _, _, _, _, .cons a b, s => .cons a (RVs.append b s)
theorem RVs.set {d : D} {v : V} (r : RV K CL N G H d v) : ∀ {ds : List D} {vs : List V} (i : Nat), RVs K CL N G H ds vs → RVs K CL N G H (ds.set i d) (vs.set i v)
  | _, _, _, .nil => .nil
  | _, _, 0, .cons _ t => .cons r t
  | _, _, i + 1, .cons q t => .cons q (RVs.set r i t)
theorem RVs.take : ∀ {ds : List D} {vs : List V} (n : Nat), RVs K CL N G H ds vs → RVs K CL N G H (ds.take n) (vs.take n)
  | _, _, 0, _ => .nil
  | _, _, _ + 1, .nil => .nil
  | _, _, n + 1, .cons r t => .cons r (RVs.take n t)
theorem RVs.drop : ∀ {ds : List D} {vs : List V} (n : Nat), RVs K CL N G H ds vs → RVs K CL N G H (ds.drop n) (vs.drop n)
  | _, _, 0, r => r
  | _, _, _ + 1, .nil => .nil
  | _, _, n + 1, .cons _ t => RVs.drop n t
theorem RVs.eraseIdx : ∀ {ds : List D} {vs : List V} (n : Nat), RVs K CL N G H ds vs → RVs K CL N G H (ds.eraseIdx n) (vs.eraseIdx n)
  | _, _, _, .nil => .nil
  | _, _, 0, .cons _ t => t
  | _, _, n + 1, .cons r t => .cons r (RVs.eraseIdx n t)
theorem RVs.dropLast {ds : List D} {vs : List V} (r : RVs K CL N G H ds vs) : RVs K CL N G H ds.dropLast vs.dropLast := by
  rw [List.dropLast_eq_take, List.dropLast_eq_take, r.length]
  exact r.take _
theorem RVs.insertIdx {d : D} {v : V} (r : RV K CL N G H d v) : ∀ {ds : List D} {vs : List V} (n : Nat), RVs K CL N G H ds vs → RVs K CL N G H (ds.insertIdx n d) (vs.insertIdx n v)
  | _, _, 0, q => .cons r q
  | _, _, n + 1, .nil => .nil
  | _, _, n + 1, .cons q t => .cons q (RVs.insertIdx r n t)
theorem RVs.reverse : ∀ {ds : List D} {vs : List V}, RVs K CL N G H ds vs → RVs K CL N G H ds.reverse vs.reverse
  | _, _, .nil => .nil
  | _, _, .cons q t => by
    rw [List.reverse_cons, List.reverse_cons]
    exact t.reverse.append (.cons q .nil)
theorem RVs.rep {ds : List D} {vs : List V} (r : RVs K CL N G H ds vs) : ∀ k : Nat, RVs K CL N G H (List.replicate k ds).flatten (List.replicate k vs).flatten
  | 0 => .nil
  | k + 1 => by
    rw [List.replicate_succ, List.replicate_succ, List.flatten_cons, List.flatten_cons]
    exact r.append (r.rep k)
theorem RVs.ints : ∀ {ds : List D} {vs : List V} {ns : List Int}, RVs K CL N G H ds vs → intsOf ds = some ns → vs = ns.map V.int
  | _, _, _, .nil, e => by simp at e; subst e; rfl
  | _, _, ns, .cons (d := d) r t, e => by
    cases r with
    | int i =>
      simp only [intsOf, Option.map_eq_some_iff] at e
      obtain ⟨ms, e1, rfl⟩ := e
      rw [t.ints e1]; rfl
    | _ => simp [intsOf] at e
theorem RVs.bls : ∀ {ds : List D} {vs : List V} {ns : List Bool}, RVs K CL N G H ds vs → blsOf ds = some ns → vs = ns.map V.bl
  | _, _, _, .nil, e => by simp at e; subst e; rfl
  | _, _, ns, .cons (d := d) r t, e => by
    cases r with
    | bl i =>
      simp only [blsOf, Option.map_eq_some_iff] at e
      obtain ⟨ms, e1, rfl⟩ := e
      rw [t.bls e1]; rfl
    | _ => simp [blsOf] at e
theorem RVs.ofInts : ∀ ns : List Int, RVs K CL N G H (ns.map D.int) (ns.map V.int)
  | [] => .nil
  | i :: ns => .cons (.int i) (RVs.ofInts ns)

/-! ### names -/
def RE (K : PySem.W.Frag) (CL : Nat → Option Addr) (N : Nat) (G : Gh) (H : Hp) (env : Env) (σ : List (Option V)) : Prop :=
  σ.length = env.length ∧ ∀ (i : Nat) (d : D), env[i]? = some (some d) → ∃ v, σ[i]? = some (some v) ∧ RV K CL N G H d v
theorem RE.ev (s : SR K CL G h H) (e : EvR G h H G' h' H') {env : Env} {σ : List (Option V)} (r : RE K CL h.length G H env σ) : RE K CL h'.length G' H' env σ :=
  ⟨r.1, fun i d q => let ⟨v, a, b⟩ := r.2 i d q; ⟨v, a, b.ev s e⟩⟩
theorem RE.set {env : Env} {σ : List (Option V)} (r : RE K CL N G H env σ) {d : D} {v : V} (q : RV K CL N G H d v) (i : Nat) : RE K CL N G H (env.set i (some d)) (σ.set i (some v)) := by
  refine ⟨by simp [r.1], fun j e z => ?_⟩
  by_cases hj : i = j
  · subst hj
    by_cases hl : i < env.length
    · rw [List.getElem?_set_self hl] at z
      cases z
      exact ⟨v, by rw [List.getElem?_set_self (by rw [r.1]; exact hl)], q⟩
    · rw [List.getElem?_eq_none (by simpa using hl)] at z; cases z
  · rw [List.getElem?_set_ne hj] at z
    obtain ⟨w, a, b⟩ := r.2 j e z
    exact ⟨w, by rw [List.getElem?_set_ne hj]; exact a, b⟩
theorem RE.forget {env : Env} {σ : List (Option V)} (r : RE K CL N G H env σ) (i : Nat) : RE K CL N G H (env.set i none) σ := by
  refine ⟨by simp [r.1], fun j e z => ?_⟩
  by_cases hj : i = j
  · subst hj
    by_cases hl : i < env.length
    · rw [List.getElem?_set_self hl] at z; cases z
    · rw [List.getElem?_eq_none (by simpa using hl)] at z; cases z
  · rw [List.getElem?_set_ne hj] at z
    exact r.2 j e z
theorem RE.wipes {env : Env} {σ : List (Option V)} (r : RE K CL N G H env σ) : ∀ l : List Nat, RE K CL N G H (wipeE env l) σ
  | [] => r
  | v :: vs => (r.wipes vs).forget v
theorem RE.wiped {env : Env} {σ : List (Option V)} (r : RE K CL N G H env σ) : ∀ l : List Nat, RE K CL N G H (wipeE env l) (wipe σ l)
  | [] => r
  | v :: vs => by
    have ih := r.wiped vs
    refine ⟨by simp [wipeE, wipe, ih.1], fun j e z => ?_⟩
    unfold wipeE at z
    by_cases hj : v = j
    · subst hj
      by_cases hl : v < (wipeE env vs).length
      · rw [List.getElem?_set_self hl] at z; cases z
      · rw [List.getElem?_eq_none (by simpa using hl)] at z; cases z
    · rw [List.getElem?_set_ne hj] at z
      obtain ⟨w, a, b⟩ := ih.2 j e z
      exact ⟨w, by unfold wipe; rw [List.getElem?_set_ne hj]; exact a, b⟩
theorem RE.start {n : Nat} {ds : List D} {vs : List V} {nm : List Str} (r : RVs K CL N G H ds vs) (hn : nm.length = n) : RE K CL N G H (envOf n ds) (start nm vs) := by
  have l := r.length
  refine ⟨by simp [L2.start, envOf, l, hn], fun i d e => ?_⟩
  unfold envOf at e
  unfold L2.start
  by_cases hi : i < ds.length
  · rw [List.getElem?_append_left (by simpa using hi), List.getElem?_map] at e
    cases q : ds[i]? with
    | none => rw [q] at e; cases e
    | some x =>
      rw [q] at e
      simp only [Option.map_some, Option.some.injEq] at e
      subst e
      obtain ⟨v, a, b⟩ := r.get q
      exact ⟨v, by rw [List.getElem?_append_left (by simpa [← l] using hi), List.getElem?_map, a]; rfl, b⟩
  · rw [List.getElem?_append_right (by simpa using hi)] at e
    rw [List.getElem?_replicate] at e
    split at e <;> cases e
end Z

/-! steps of a state -/
namespace Z
open PySem PySem.Spec PyProof.Rows L2
section
variable {K : PySem.W.Frag} {CL : Nat → Option Addr} {N N' : Nat} {G G' G1 G2 : Gh} {H H' H1 H2 : Hp} {h h' h1 h2 : CH} {p : Addr} {o : HO}

theorem kvV.keep (hN : N ≤ N') (phi : ∀ n, n < N → G'.φ n = G.φ n) (fr : ∀ a, G.F a → G'.F a) (k1 : ∀ a o, H a = some o → ¬ Mut (some o) → H' a = some o) (k2 : ∀ a o, G.F a → H a = some o → H' a = some o) :
    ∀ {kvs : List (Int × D)} {ws : List (Key × V)}, kvV K CL N G H kvs ws → kvV K CL N' G' H' kvs ws
  | [], [], _ => trivial
  | (_, _) :: _, (_, _) :: _, q => ⟨q.1, q.2.1.keep hN phi fr k1 k2, kvV.keep hN phi fr k1 k2 q.2.2⟩
  | [], _ :: _, q => q.elim
  | _ :: _, [], q => q.elim
theorem kvV.und : ∀ {kvs : List (Int × D)} {ws : List (Key × V)}, unds N' (kvs.map (·.2)) = true → (∀ {d : D} {v : V}, d.und N' = true → RV K CL N G H d v → RV K CL N' G H d v) → kvV K CL N G H kvs ws → kvV K CL N' G H kvs ws
  | [], [], _, _, _ => trivial
  | (_, d) :: r, (_, _) :: _, u, k, q => by
    have u' : (d.und N' && unds N' (r.map (·.2))) = true := u
    rw [Bool.and_eq_true] at u'
    exact ⟨q.1, k u'.1 q.2.1, kvV.und u'.2 k q.2.2⟩
  | [], _ :: _, _, _, q => q.elim
  | _ :: _, [], _, _, q => q.elim
theorem RC.keep (hN : N ≤ N') (phi : ∀ n, n < N → G'.φ n = G.φ n) (fr : ∀ a, G.F a → G'.F a) (k1 : ∀ a o, H a = some o → ¬ Mut (some o) → H' a = some o) (k2 : ∀ a o, G.F a → H a = some o → H' a = some o)
    {n : Nat} {c : Cell} (hp : G'.φ n = G.φ n) (hF : c.live = true → ¬ G'.F (G'.φ n)) (hH : c.live = true → H' (G.φ n) = H (G.φ n)) (r : RC K CL N G H n c) : RC K CL N' G' H' n c := by
  cases c with
  | lst ds =>
    obtain ⟨_, vs, e, q⟩ := r
    exact ⟨hF rfl, vs, by rw [hp, hH rfl]; exact e, q.keep hN phi fr k1 k2⟩
  | ins c ds =>
    obtain ⟨_, C, dx, fs, ec, e, q⟩ := r
    exact ⟨hF rfl, C, dx, fs, ec, by rw [hp, hH rfl]; exact e, q.keep hN phi fr k1 k2⟩
  | dct kvs =>
    obtain ⟨_, ws, e, q⟩ := r
    exact ⟨hF rfl, ws, by rw [hp, hH rfl]; exact e, q.keep hN phi fr k1 k2⟩
  | dead => trivial

/-- a new object that never changes (or that is settled: f) -/
def Gh.more (G : Gh) (f : Prop) (p : Addr) : Gh := ⟨G.φ, fun a => G.F a ∨ (f ∧ a = p)⟩
theorem SR.new (s : SR K CL G h H) (f : Prop) (hp : H p = none) : SR K CL (G.more f p) h (upd H p o) ∧ EvR G h H (G.more f p) h (upd H p o) := by
  have ne : ∀ a u, H a = some u → a ≠ p := fun a u e => ne_of_none e hp
  refine ⟨⟨fun n c e => ?_, s.inj, fun a fa => ?_⟩, ⟨Nat.le_refl _, fun _ _ => rfl, fun a fa => .inl fa, fun a u e _ => by rw [upd_ne (ne a u e)]; exact e, fun n c e l => .inl ⟨lt_of_get e, c, e, l⟩, fun a fa => ?_, fun a fa => ?_⟩⟩
  · refine (s.cell n c e).keep (G := G) (G' := G.more f p) (Nat.le_refl _) (fun _ _ => rfl) (fun a fa => Or.inl fa) (fun a u q _ => by rw [upd_ne (ne a u q)]; exact q) (fun a u _ q => by rw [upd_ne (ne a u q)]; exact q) rfl (fun l => ?_) fun l => ?_
    · obtain ⟨nf, u, q, _⟩ := s.obj e l
      rintro (z | ⟨_, z⟩)
      · exact nf z
      · exact ne _ u q z
    · obtain ⟨nf, u, q, _⟩ := s.obj e l
      exact upd_ne (ne _ u q)
  · rcases fa with z | ⟨_, rfl⟩
    · by_cases e : a = p
      · subst e; rw [upd_same]; simp
      · rw [upd_ne e]; exact s.fh a z
    · rw [upd_same]; simp
  · rcases fa with z | ⟨_, rfl⟩
    · exact .inl z
    · exact .inr (.inl hp)
  · by_cases e : a = p
    · subst e; rw [upd_same]; simp
    · rw [upd_ne e]; exact fa
/-- a new cell -/
def Gh.cel (G : Gh) (n : Nat) (p : Addr) : Gh := ⟨fun m => if m = n then p else G.φ m, G.F⟩
theorem SR.newCell (s : SR K CL G h H) (c : Cell) (hp : H p = none) (ho : Mut (some o))
    (rc : ∀ H' G', H' = upd H p o → G' = G.cel h.length p → (∀ a u, H a = some u → H' a = some u) → (∀ n, n < h.length → G'.φ n = G.φ n) → ¬ G'.F (G'.φ h.length) → H' (G'.φ h.length) = some o → (∀ {ds : List D} {vs : List V}, RVs K CL h.length G H ds vs → RVs K CL (h.length + 1) G' H' ds vs) → RC K CL (h.length + 1) G' H' h.length c) :
    SR K CL (G.cel h.length p) (h ++ [c]) (upd H p o) ∧ EvR G h H (G.cel h.length p) (h ++ [c]) (upd H p o) := by
  have ne : ∀ a u, H a = some u → a ≠ p := fun a u e => ne_of_none e hp
  have up : ∀ a u, H a = some u → upd H p o a = some u := fun a u q => by rw [upd_ne (ne a u q)]; exact q
  have ph : ∀ n, n < h.length → (G.cel h.length p).φ n = G.φ n := fun n l => if_neg (Nat.ne_of_lt l)
  have pn : (G.cel h.length p).φ h.length = p := if_pos rfl
  have nF : ¬ (G.cel h.length p).F ((G.cel h.length p).φ h.length) := by
    rw [pn]
    intro z
    exact s.fh p z hp
  have len : (h ++ [c]).length = h.length + 1 := by simp
  have old : ∀ n e, (h ++ [c])[n]? = some e → n < h.length → h[n]? = some e := fun n e q l => by rw [List.getElem?_append_left l] at q; exact q
  have last : ∀ n e, (h ++ [c])[n]? = some e → ¬ n < h.length → n = h.length ∧ e = c := fun n e q l => by
    have l2 := lt_of_get q
    rw [len] at l2
    have e1 : n = h.length := by omega
    subst e1
    rw [List.getElem?_append_right (Nat.le_refl _)] at q
    simp at q
    exact ⟨rfl, q.symm⟩
  refine ⟨⟨fun n e q => ?_, fun n m e e' q q' l l' z => ?_, fun a fa => ?_⟩, ⟨by rw [len]; omega, ph, fun a fa => fa, fun a u e _ => up a u e, fun n e q l => ?_, fun a fa => .inl fa, fun a fa => ?_⟩⟩
  · rw [len]
    by_cases hn : n < h.length
    · have q1 := old n e q hn
      refine (s.cell n e q1).keep (Nat.le_succ _) (fun n l => ph n l) (fun a fa => fa) (fun a u q _ => up a u q) (fun a u _ q => up a u q) (ph n hn) (fun l => ?_) fun l => ?_
      · rw [ph n hn]; exact (s.obj q1 l).1
      · obtain ⟨nf, u, q, _⟩ := s.obj q1 l
        exact upd_ne (ne _ u q)
    · obtain ⟨rfl, rfl⟩ := last n e q hn
      exact rc _ _ rfl rfl up ph nF (by rw [pn]; exact upd_same) fun r => r.keep (Nat.le_succ _) (fun n l => ph n l) (fun a fa => fa) (fun a u q _ => up a u q) (fun a u _ q => up a u q)
  · by_cases hn : n < h.length
    · by_cases hm : m < h.length
      · rw [ph n hn, ph m hm] at z
        exact s.inj n m e e' (old n e q hn) (old m e' q' hm) l l' z
      · obtain ⟨rfl, rfl⟩ := last m e' q' hm
        rw [ph n hn, pn] at z
        obtain ⟨nf, u, q2, _⟩ := s.obj (old n e q hn) l
        exact absurd z (ne _ u q2)
    · obtain ⟨rfl, rfl⟩ := last n e q hn
      by_cases hm : m < h.length
      · rw [ph m hm, pn] at z
        obtain ⟨nf, u, q2, _⟩ := s.obj (old m e' q' hm) l'
        exact absurd z.symm (ne _ u q2)
      · exact (last m e' q' hm).1.symm
  · by_cases e : a = p
    · subst e; rw [upd_same]; simp
    · rw [upd_ne e]; exact s.fh a fa
  · by_cases hn : n < h.length
    · exact .inl ⟨hn, e, old n e q hn, l⟩
    · obtain ⟨rfl, rfl⟩ := last n e q hn
      exact .inr (by rw [pn]; exact hp)
  · by_cases e : a = p
    · subst e; rw [upd_same]; simp
    · rw [upd_ne e]; exact fa
/-- a cell changes -/
theorem SR.setCell (s : SR K CL G h H) {n : Nat} {c e : Cell} (q : h[n]? = some e) (l : e.live = true) (lc : c.live = true)
    (rc : ∀ H', H' = upd H (G.φ n) o → H' (G.φ n) = some o → ¬ G.F (G.φ n) → (∀ {ds : List D} {vs : List V}, RVs K CL h.length G H ds vs → RVs K CL h.length G H' ds vs) → (∀ {d : D} {v : V}, RV K CL h.length G H d v → RV K CL h.length G H' d v) → RC K CL h.length G H' n c) :
    SR K CL G (h.set n c) (upd H (G.φ n) o) ∧ EvR G h H G (h.set n c) (upd H (G.φ n) o) := by
  obtain ⟨nf, u, hu, mu⟩ := s.obj q l
  have k1 : ∀ a w, H a = some w → ¬ Mut (some w) → upd H (G.φ n) o a = some w := fun a w e m => by
    rw [upd_ne (fun z => by subst z; rw [hu] at e; cases e; exact m mu)]; exact e
  have k2 : ∀ a w, G.F a → H a = some w → upd H (G.φ n) o a = some w := fun a w f e => by
    rw [upd_ne (fun z => by subst z; exact nf f)]; exact e
  have ltn := lt_of_get q
  have len : (h.set n c).length = h.length := by simp
  have at_ : ∀ m x, (h.set n c)[m]? = some x → (m = n ∧ x = c) ∨ (m ≠ n ∧ h[m]? = some x) := fun m x z => by
    by_cases hm : n = m
    · subst hm
      rw [List.getElem?_set_self ltn] at z
      cases z
      exact .inl ⟨rfl, rfl⟩
    · rw [List.getElem?_set_ne hm] at z
      exact .inr ⟨fun z => hm z.symm, z⟩
  refine ⟨⟨fun m x z => ?_, fun m k x y z z' lx ly e => ?_, fun a fa => ?_⟩, ⟨by rw [len]; exact Nat.le_refl _, fun _ _ => rfl, fun _ f => f, fun a w e no => ?_, fun m x z lx => ?_, fun a f => .inl f, fun a fa => ?_⟩⟩
  · rw [len]
    rcases at_ m x z with ⟨rfl, rfl⟩ | ⟨hm, z⟩
    · exact rc _ rfl upd_same nf (fun r => r.keep (Nat.le_refl _) (fun _ _ => rfl) (fun _ f => f) k1 k2) fun r => r.keep (Nat.le_refl _) (fun _ _ => rfl) (fun _ f => f) k1 k2
    · refine (s.cell m x z).keep (Nat.le_refl _) (fun _ _ => rfl) (fun _ f => f) k1 k2 rfl (fun lx => (s.obj z lx).1) fun lx => ?_
      exact upd_ne fun e => hm (s.inj m n x _ z q lx l e)
  · have hx : ∃ x', h[m]? = some x' ∧ x'.live = true := by
      rcases at_ m x z with ⟨rfl, rfl⟩ | ⟨_, z⟩
      · exact ⟨_, q, l⟩
      · exact ⟨x, z, lx⟩
    have hy : ∃ y', h[k]? = some y' ∧ y'.live = true := by
      rcases at_ k y z' with ⟨rfl, rfl⟩ | ⟨_, z'⟩
      · exact ⟨_, q, l⟩
      · exact ⟨y, z', ly⟩
    obtain ⟨x', a1, a2⟩ := hx
    obtain ⟨y', b1, b2⟩ := hy
    exact s.inj m k x' y' a1 b1 a2 b2 e
  · by_cases e : a = G.φ n
    · subst e; rw [upd_same]; simp
    · rw [upd_ne e]; exact s.fh a fa
  · rw [upd_ne (fun z => no n _ q l z.symm)]; exact e
  · rcases at_ m x z with ⟨rfl, rfl⟩ | ⟨_, z⟩
    · exact .inl ⟨ltn, _, q, l⟩
    · exact .inl ⟨lt_of_get z, x, z, lx⟩
  · by_cases e : a = G.φ n
    · subst e; rw [upd_same]; simp
    · rw [upd_ne e]; exact fa

/-! ### data without cells -/
mutual
theorem RV.nc : ∀ {d : D} {v : V}, d.nc = true → RV K CL N G H d v → RV K CL N' ⟨G'.φ, G.F⟩ H d v
  | _, _, _, .non => .non
  | _, _, _, .bl b => .bl b
  | _, _, _, .int i => .int i
  | _, _, _, .str s => .str s
  | .tup ds, _, e, .tup a b => .tup a (RVs.nc (by simpa [D.nc] using e) b)
  | .lst ds, _, e, .lst f a b => .lst f a (RVs.nc (by simpa [D.nc] using e) b)
  | .cell n, _, e, .cell l => by simp [D.nc] at e
  | .ins c ds, _, e, .ins f a b c' => .ins f a b (RVs.nc (by simpa [D.nc] using e) c')
  | _, _, _, .scr a => .scr a
theorem RVs.nc : ∀ {ds : List D} {vs : List V}, ncs ds = true → RVs K CL N G H ds vs → RVs K CL N' ⟨G'.φ, G.F⟩ H ds vs
  | _, _, _, .nil => .nil
  | d :: ds, _, e, .cons a b => by
    simp [ncs] at e
    exact .cons (RV.nc e.1 a) (RVs.nc e.2 b)
end
mutual
theorem RV.und : ∀ {d : D} {v : V}, d.und N' = true → RV K CL N G H d v → RV K CL N' G H d v
  | _, _, _, .non => .non
  | _, _, _, .bl b => .bl b
  | _, _, _, .int i => .int i
  | _, _, _, .str s => .str s
  | .tup ds, _, e, .tup a b => .tup a (RVs.und (by simpa [D.und] using e) b)
  | .lst ds, _, e, .lst f a b => .lst f a (RVs.und (by simpa [D.und] using e) b)
  | .cell n, _, e, .cell l => .cell (by simpa [D.und] using e)
  | .ins c ds, _, e, .ins f a b c' => .ins f a b (RVs.und (by simpa [D.und] using e) c')
  | _, _, _, .scr a => .scr a
theorem RVs.und : ∀ {ds : List D} {vs : List V}, unds N' ds = true → RVs K CL N G H ds vs → RVs K CL N' G H ds vs
  | _, _, _, .nil => .nil
  | d :: ds, _, e, .cons a b => by
    simp [unds] at e
    exact .cons (RV.und e.1 a) (RVs.und e.2 b)
end
mutual
theorem RV.solid : ∀ {d : D} {v : V}, d.solid = true → RV K CL N G H d v → RV K CL N' G' H d v
  | _, _, _, .non => .non
  | _, _, _, .bl b => .bl b
  | _, _, _, .int i => .int i
  | _, _, _, .str s => .str s
  | .tup ds, _, e, .tup a b => .tup a (RVs.solid (by simpa [D.solid] using e) b)
  | .lst ds, _, e, .lst f a b => by simp [D.solid] at e
  | .cell n, _, e, .cell l => by simp [D.solid] at e
  | .ins c ds, _, e, .ins f a b c' => by simp [D.solid] at e
  | .scr ns, _, e, .scr a => by simp [D.solid] at e
theorem RVs.solid : ∀ {ds : List D} {vs : List V}, solids ds = true → RVs K CL N G H ds vs → RVs K CL N' G' H ds vs
  | _, _, _, .nil => .nil
  | d :: ds, _, e, .cons a b => by
    simp [solids] at e
    exact .cons (RV.solid e.1 a) (RVs.solid e.2 b)
end

/-! ### truncation -/
theorem trunc_ok (s : SR K CL G h H) (e : EvR G h H G' h' H') (s' : SR K CL G' h' H') {d : D} {v : V} (r : RV K CL h'.length G' H' d v) :
    SR K CL G' (trunc h.length d h') H' ∧ EvR G h H G' (trunc h.length d h') H' ∧ RV K CL (trunc h.length d h').length G' H' d v := by
  unfold trunc
  split
  · exact ⟨s', e, r⟩
  · rename_i hl
    split
    · rename_i hc
      rw [Bool.and_eq_true] at hc
      have len : (h'.take h.length).length = h.length := by rw [List.length_take]; omega
      have at_ : ∀ n c, (h'.take h.length)[n]? = some c → n < h.length ∧ h'[n]? = some c := fun n c q => by
        have l := lt_of_get q
        rw [len] at l
        rw [List.getElem?_take_of_lt l] at q
        exact ⟨l, q⟩
      refine ⟨⟨fun n c q => ?_, fun n m x y q q' lx ly z => s'.inj n m x y (at_ n x q).2 (at_ m y q').2 lx ly z, s'.fh⟩, ⟨by rw [len]; exact Nat.le_refl _, e.phi, e.fr, e.frame, fun n c q l => ?_, e.nf, e.tr⟩, ?_⟩
      · obtain ⟨l, q1⟩ := at_ n c q
        have hu : c.und h.length = true := List.all_eq_true.mp hc.2 c (List.mem_of_getElem? q)
        have rc := s'.cell n c q1
        rw [len]
        cases c with
        | lst ds =>
          obtain ⟨a, vs, b, r⟩ := rc
          exact ⟨a, vs, b, r.und hu⟩
        | ins c ds =>
          obtain ⟨a, C, dx, fs, ec, b, r⟩ := rc
          exact ⟨a, C, dx, fs, ec, b, r.und hu⟩
        | dct kvs =>
          obtain ⟨a, ws, b, r⟩ := rc
          exact ⟨a, ws, b, r.und hu fun u q => q.und u⟩
        | dead => trivial
      · obtain ⟨lt, q1⟩ := at_ n c q
        exact e.new n c q1 l
      · rw [len]; exact r.und hc.1
    · exact ⟨s', e, r⟩

/-! ### snapshots -/
/-- all cells settled -/
def Gh.all (G : Gh) (h : CH) : Gh := ⟨G.φ, fun a => G.F a ∨ ∃ n c, h[n]? = some c ∧ c.live = true ∧ G.φ n = a⟩
theorem SR.empty (s : SR K CL G h H) : SR K CL (G.all h) [] H where
  cell := fun n c e => by simp at e
  inj := fun n m c e q => by simp at q
  fh := fun a f => by
    rcases f with f | ⟨n, c, e, l, rfl⟩
    · exact s.fh a f
    · obtain ⟨_, u, q, _⟩ := s.obj e l
      rw [q]; simp
theorem mapM_some {α β : Type} {f : α → Option β} : ∀ {xs : List α} {ys : List β}, xs.mapM f = some ys → xs.length = ys.length ∧ ∀ (i : Nat) (x : α), xs[i]? = some x → ∃ y, ys[i]? = some y ∧ f x = some y
  | [], ys, e => by simp at e; subst e; exact ⟨rfl, fun i x q => by simp at q⟩
  | x :: xs, ys, e => by
    rw [List.mapM_cons] at e
    cases q : f x with
    | none => rw [q] at e; cases e
    | some y =>
      rw [q] at e
      cases q2 : xs.mapM f with
      | none => rw [q2] at e; cases e
      | some zs =>
        rw [q2] at e
        have e' : y :: zs = ys := by simpa using e
        subst e'
        obtain ⟨l, r⟩ := mapM_some q2
        refine ⟨by simp [l], fun i z hz => ?_⟩
        cases i with
        | zero => simp at hz; subst hz; exact ⟨y, rfl, q⟩
        | succ i => simp at hz; obtain ⟨w, a, b⟩ := r i z hz; exact ⟨w, by simpa using a, b⟩
theorem RVs.of_mapM {f : D → Option D} {N N' : Nat} {G G' : Gh} : ∀ {xs ys : List D} {vs : List V}, xs.mapM f = some ys → (∀ x y v, f x = some y → RV K CL N G H x v → RV K CL N' G' H y v) → RVs K CL N G H xs vs → RVs K CL N' G' H ys vs
  | [], ys, _, e, _, .nil => by simp at e; subst e; exact .nil
  | x :: xs, ys, _, e, k, .cons a b => by
    rw [List.mapM_cons] at e
    cases q : f x with
    | none => rw [q] at e; cases e
    | some y =>
      rw [q] at e
      cases q2 : xs.mapM f with
      | none => rw [q2] at e; cases e
      | some zs =>
        rw [q2] at e
        have e' : y :: zs = ys := by simpa using e
        subst e'
        exact .cons (k x y _ q a) (RVs.of_mapM q2 k b)
theorem snapF_ok (s : SR K CL G h H) : ∀ (k : Nat) (d d' : D) (v : V), snapF h k d = some d' → RV K CL h.length G H d v → RV K CL 0 (G.all h) H d' v := by
  intro k
  induction k with
  | zero => intro d d' v e; cases e
  | succ k ih =>
    intro d d' v e r
    have F1 : ∀ a, G.F a → (G.all h).F a := fun a f => .inl f
    cases r with
    | non => simp [snapF] at e; subst e; exact .non
    | bl b => simp [snapF] at e; subst e; exact .bl b
    | int i => simp [snapF] at e; subst e; exact .int i
    | str x => simp [snapF] at e; subst e; exact .str x
    | tup a b =>
      simp only [snapF, Option.map_eq_some_iff] at e
      obtain ⟨ys, e1, rfl⟩ := e
      exact .tup a (RVs.of_mapM e1 ih b)
    | lst f a b =>
      simp only [snapF, Option.map_eq_some_iff] at e
      obtain ⟨ys, e1, rfl⟩ := e
      exact .lst (.inl f) a (RVs.of_mapM e1 ih b)
    | @cell n l =>
      simp only [snapF] at e
      cases q : h[n]? with
      | none => rw [q] at e; cases e
      | some c =>
        rw [q] at e
        cases c with
        | lst ds =>
          simp only [Option.map_eq_some_iff] at e
          obtain ⟨ys, e1, rfl⟩ := e
          obtain ⟨_, vs, a, b⟩ := s.cell n _ q
          exact .lst (.inr ⟨n, _, q, rfl, rfl⟩) a (RVs.of_mapM e1 ih b)
        | ins c ds => cases e
        | dct kvs => cases e
        | dead => cases e
    | ins f a b c => simp [snapF] at e
    | scr a => simp [snapF] at e; subst e; exact .scr a
theorem all_nc {d : D} {v : V} (e : d.nc = true) (r : RV K CL N G H d v) : RV K CL N' (G.all h) H d v := by
  have q : RV K CL N' ⟨(G.all h).φ, G.F⟩ H d v := r.nc (G' := G.all h) e
  exact q.keep (G := ⟨(G.all h).φ, G.F⟩) (G' := G.all h) (Nat.le_refl _) (fun _ _ => rfl) (fun a f => Or.inl f) (fun _ _ q _ => q) fun _ _ _ q => q
theorem snap_ok (s : SR K CL G h H) {d d' : D} {v : V} (e : snap h d = some d') (r : RV K CL h.length G H d v) : RV K CL 0 (G.all h) H d' v := by
  unfold snap at e
  split at e
  · rename_i hn
    cases e
    exact all_nc hn r
  · exact snapF_ok s 6 d d' v e r
theorem snaps_ok (s : SR K CL G h H) {ds ds' : List D} {vs : List V} (e : snaps h ds = some ds') (r : RVs K CL h.length G H ds vs) : RVs K CL 0 (G.all h) H ds' vs := by
  unfold snaps at e
  split at e
  · rename_i hn
    cases e
    have q : RVs K CL 0 ⟨(G.all h).φ, G.F⟩ H ds vs := r.nc (G' := G.all h) hn
    exact q.keep (G := ⟨(G.all h).φ, G.F⟩) (G' := G.all h) (Nat.le_refl _) (fun _ _ => rfl) (fun a f => Or.inl f) (fun _ _ q _ => q) fun _ _ _ q => q
  · exact RVs.of_mapM e (fun x y v q rv => snap_ok s q rv) r
/-- behind a pure call -/
def Gh.back (G : Gh) (H : Hp) (G' : Gh) : Gh := ⟨G.φ, fun a => G'.F a ∧ (G.F a ∨ H a = none)⟩
theorem SR.empty0 (s : SR K CL G h H) : SR K CL G [] H where
  cell := fun n c e => by simp at e
  inj := fun n m c e q => by simp at q
  fh := s.fh
theorem back_ok (s : SR K CL G h H) {G0 : Gh} (hG : ∀ a, G.F a → G0.F a) (e : EvR G0 [] H G' h' H') (s' : SR K CL G' h' H') : SR K CL (G.back H G') h H' ∧ EvR G h H (G.back H G') h H' := by
  have up : ∀ a o, H a = some o → H' a = some o := fun a o q => e.frame a o q fun n c z => by simp at z
  have fr : ∀ a, G.F a → (G.back H G').F a := fun a f => ⟨e.fr a (hG a f), .inl f⟩
  refine ⟨⟨fun n c q => ?_, s.inj, fun a f => s'.fh a f.1⟩, ⟨Nat.le_refl _, fun _ _ => rfl, fr, fun a o q _ => up a o q, fun n c q l => .inl ⟨lt_of_get q, c, q, l⟩, fun a f => f.2.elim .inl fun z => .inr (.inl z), e.tr⟩⟩
  refine (s.cell n c q).keep (G := G) (G' := G.back H G') (Nat.le_refl _) (fun _ _ => rfl) fr (fun a o q _ => up a o q) (fun a o _ q => up a o q) rfl (fun l => ?_) fun l => ?_
  · obtain ⟨nf, u, hu, _⟩ := s.obj q l
    rintro ⟨_, z | z⟩
    · exact nf z
    · have hu' : H ((G.back H G').φ n) = some u := hu
      rw [z] at hu'; cases hu'
  · obtain ⟨nf, u, hu, _⟩ := s.obj q l
    rw [hu]; exact up _ _ hu
/-- the answer, where no cell was handed in -/
theorem back_nc (e : EvR G [] H G' h' H') {d : D} {v : V} (hn : d.nc = true) (r : RV K CL h'.length G' H' d v) : RV K CL h.length (G.back H G') H' d v := by
  have q : RV K CL h.length ⟨(G.back H G').φ, G'.F⟩ H' d v := r.nc (G' := G.back H G') hn
  exact q.keep (G := ⟨(G.back H G').φ, G'.F⟩) (G' := G.back H G') (Nat.le_refl _) (fun _ _ => rfl) (fun a f => And.intro f (by
    rcases e.nf a f with z | z | ⟨n, c, z, _⟩
    · exact .inl z
    · exact .inr z
    · simp at z)) (fun _ _ q _ => q) fun _ _ _ q => q
end
end Z

/-! the text of the program against the text without places -/
namespace Z
open PySem PySem.Spec L2

/-- a def as callers see it -/
structure FI where
  name : Str
  ar : Nat
  kw : Option (Str × Kc)
/-- what a law's top holds -/
structure LI where
  fn : Nat → Option FI
  bn : List Str
  cl : Nat → Option Str
def visB (sc : Scope) (x : Str) : Bool := match sc.names.lookup x with
  | some .local => true
  | some .cell => true
  | some .free => true
  | _ => false
theorem visB_ok {sc : Scope} {x : Str} (h : visB sc x = true) : Vis sc x := by
  unfold visB at h
  cases q : sc.names.lookup x with
  | none => rw [q] at h; cases h
  | some k =>
    rw [q] at h
    cases k with
    | «local» => exact .inl q
    | cell => exact .inr (.inl q)
    | free => exact .inr (.inr q)
    | globalExplicit => cases h
    | globalImplicit => cases h
def glB (sc : Scope) (x : Str) : Bool := decide (sc.names.lookup x = some .globalImplicit)
def isDbg (x : Str) : Bool := x == ("__debug__" : Str)
def nmB (N : List Str) (sc : Scope) (i : Nat) (x : Str) : Bool := decide (N[i]? = some x) && (visB sc x && (!(x == ("__debug__" : Str)) && !(x == ("__classdict__" : Str))))
/-- a name that may be stored: fn tells whose cells were made here -/
def stB (N : List Str) (sc : Scope) (fn : Str → Bool) (i : Nat) (x : Str) : Bool := decide (N[i]? = some x) && (decide (sc.names.lookup x = some .local) || (decide (sc.names.lookup x = some .cell) && fn x))
def chkK : Kc → Const → Bool
  | .non, .none => true
  | .bl a, .bool b => a == b
  | .int i, .int j => decide (i = j)
  | .str s, .str t => decide (s = t)
  | _, _ => false
def Bop.op : Bop → Operator
  | .add => .Add
  | .sub => .Sub
  | .mul => .Mult
  | .fdiv => .FloorDiv
  | .mod => .Mod
  | .pow => .Pow
def Cop.op : Cop → CmpOp
  | .lt => .Lt
  | .le => .LtE
  | .gt => .Gt
  | .ge => .GtE
  | .eq => .Eq
  | .ne => .NotEq
  | .is => .Is
  | .isn => .IsNot
  | .inn => .In
  | .nin => .NotIn
def Bi.name : Bi → Str
  | .len => "len"
  | .sum => "sum"
  | .min => "min"
  | .max => "max"
  | .min2 => "min"
  | .max2 => "max"
  | .min3 => "min"
  | .abs => "abs"
  | .int => "int"
  | .list => "list"
  | .tuple => "tuple"
  | .sorted => "sorted"
  | .any => "any"
  | .all => "all"
def Bi.ar : Bi → Nat
  | .min2 => 2
  | .max2 => 2
  | .min3 => 3
  | _ => 1
def Tn.name : Tn → Str
  | .rng1 => "range"
  | .rng2 => "range"
  | .rng3 => "range"
  | .enum => "enumerate"
  | .zip => "zip"
def Mt.name : Mt → Str
  | .append => "append"
  | .pop => "pop"
  | .popAt => "pop"
  | .insert => "insert"
  | .reverse => "reverse"
  | .index => "index"
def Ty.nm : Ty → Option Str
  | .int => some "int"
  | .bool => some "bool"
  | .list => some "list"
  | .tuple => some "tuple"
  | .own _ => none
def Es.len : Es → Nat
  | .nil => 0
  | .cons _ es => es.len + 1
def isSet : Expr → Bool
  | .Set .. => true
  | _ => false
def chkTgs (N : List Str) (sc : Scope) (fn : Str → Bool) : List Nat → List Expr → Bool
  | [], [] => true
  | i :: is, .Name x _ :: xs => stB N sc fn i x && chkTgs N sc fn is xs
  | _, _ => false
def chkTg (N : List Str) (sc : Scope) (fn : Str → Bool) : Tg → Expr → Bool
  | .nm i, .Name x _ => stB N sc fn i x
  | .tp is, .Tuple xs _ _ => chkTgs N sc fn is xs
  | _, _ => false
/-- the written types of an isinstance -/
def chkTy (L : LI) (sc : Scope) (t : Ty) : Expr → Bool
  | .Name x _ => (match t with
    | .own c => (match L.cl c with
      | some y => decide (x = y) && (glB sc x && !(x == ("__debug__" : Str)))
      | none => false)
    | t => decide (some x = t.nm) && (glB sc x && L.bn.contains x))
  | _ => false
def chkTys (L : LI) (sc : Scope) : List Ty → List Expr → Bool
  | [], [] => true
  | t :: ts, x :: xs => chkTy L sc t x && chkTys L sc ts xs
  | _, _ => false
mutual
def chkE (L : LI) (N : List Str) (sc : Scope) : E → Expr → Bool
  | .var i, x => (match x with
    | .Name y _ => nmB N sc i y
    | _ => false)
  | .con c, x => (match x with
    | .Constant k _ _ => chkK c k
    | _ => false)
  | .bin o _ a b, x => (match x with
    | .BinOp l op r _ => decide (op = o.op) && (chkE L N sc a l && chkE L N sc b r)
    | _ => false)
  | .neg a, x => (match x with
    | .UnaryOp .USub y _ => chkE L N sc a y
    | _ => false)
  | .not a, x => (match x with
    | .UnaryOp .Not y _ => chkE L N sc a y
    | _ => false)
  | .bo1 o a, x => (match x with
    | .BoolOp op [y] _ => decide (op = if o then .And else .Or) && chkE L N sc a y
    | _ => false)
  | .bo o a b, x => (match x with
    | .BoolOp op (y :: z :: r) p => decide (op = if o then .And else .Or) && (chkE L N sc a y && chkE L N sc b (.BoolOp op (z :: r) p))
    | _ => false)
  | .cmp o a b, x => (match x with
    | .Compare l [op] [r] _ => decide (op = o.op) && (chkE L N sc a l && (chkE L N sc b r && !isSet r))
    | _ => false)
  | .ife t a b, x => (match x with
    | .IfExp c y z _ => chkE L N sc t c && (chkE L N sc a y && chkE L N sc b z)
    | _ => false)
  | .tup es, x => (match x with
    | .Tuple xs _ _ => Nat.ble es.len 1000 && chkEs L N sc es xs
    | _ => false)
  | .lst _ es, x => (match x with
    | .List xs _ => Nat.ble es.len 1000 && chkEs L N sc es xs
    | _ => false)
  | .call _ f es, x => (match x with
    | .Call (.Name g _) (y :: ys) [] _ => (match L.fn f with
      | some fi => decide (fi.name = g) && (decide (fi.ar = es.len) && (decide (fi.kw = none) && (glB sc g && (!(g == ("__debug__" : Str)) && chkEs L N sc es (y :: ys)))))
      | none => false)
    | _ => false)
  | .callD _ f es c, x => (match x with
    | .Call (.Name g _) (y :: ys) [] _ => (match L.fn f with
      | some fi => decide (fi.name = g) && (decide (fi.ar = es.len + 1) && ((match fi.kw with
        | some (_, d) => decide (d = c)
        | none => false) && (glB sc g && (!(g == ("__debug__" : Str)) && chkEs L N sc es (y :: ys)))))
      | none => false)
    | _ => false)
  | .callK _ f es e, x => (match x with
    | .Call (.Name g _) (y :: ys) [⟨some k, z, _⟩] _ => (match L.fn f with
      | some fi => decide (fi.name = g) && (decide (fi.ar = es.len + 1) && ((match fi.kw with
        | some (j, _) => decide (k = j)
        | none => false) && (glB sc g && (!(g == ("__debug__" : Str)) && (chkEs L N sc es (y :: ys) && chkE L N sc e z)))))
      | none => false)
    | _ => false)
  | .bi f _ es, x => (match x with
    | .Call (.Name g _) (y :: ys) [] _ => decide (g = f.name) && (decide (es.len = f.ar) && (glB sc g && (L.bn.contains g && chkEs L N sc es (y :: ys))))
    | _ => false)
  | .isi a tp ts, x => (match x with
    | .Call (.Name g _) [y, c] [] _ => decide (g = ("isinstance" : Str)) && (glB sc g && (L.bn.contains g && (chkE L N sc a y && (match tp, c with
      | false, c => (match ts with
        | [t] => chkTy L sc t c
        | _ => false)
      | true, .Tuple cs _ _ => chkTys L sc ts cs && (decide (ts.length ≤ 8) && !ts.isEmpty)
      | true, _ => false))))
    | _ => false)
  | .mth o f es, x => (match x with
    | .Call (.Attribute y m ap) ys [] cp => decide (m = f.name) && (chkE L N sc o y && (chkEs L N sc es ys && (decide (ys.length ≤ 2) && ((ap.endLine == cp.line) && match y with
      | .Call .. => false
      | _ => true))))
    | _ => false)
  | .ix a i, x => (match x with
    | .Subscript y (.Slice ..) _ => false
    | .Subscript y z _ => chkE L N sc a y && chkE L N sc i z
    | _ => false)
  | .slc _ a lo hi, x => (match x with
    | .Subscript y (.Slice l u none _) _ => chkE L N sc a y && (chkO L N sc lo l && chkO L N sc hi u)
    | _ => false)
  | .rev _ a, x => (match x with
    | .Subscript y (.Slice none none (some (.UnaryOp .USub (.Constant (.int 1) _ _) _)) _) _ => chkE L N sc a y
    | _ => false)
  | .comp _ own tg it c e, x => (match x with
    | .ListComp elt [⟨t, i, fs, 0⟩] scope _ => blkC N sc scope own && (chkIt L N sc it i && (chkTg N (relS scope sc) (fun y => scope.names.lookup y == some .cell) tg t && (chkC L N (relS scope sc) c fs && (chkE L N (relS scope sc) e elt && (ownB tg own && (isPair it tg && !isSet i))))))
    | _ => false)
def chkEs (L : LI) (N : List Str) (sc : Scope) : Es → List Expr → Bool
  | .nil, xs => xs.isEmpty
  | .cons e es, xs => (match xs with
    | x :: xs => chkE L N sc e x && chkEs L N sc es xs
    | [] => false)
def chkO (L : LI) (N : List Str) (sc : Scope) : Oe → Option Expr → Bool
  | .none, x => x.isNone
  | .some e, x => (match x with
    | some y => chkE L N sc e y
    | none => false)
def chkC (L : LI) (N : List Str) (sc : Scope) : Oe → List Expr → Bool
  | .none, x => x.isEmpty
  | .some e, x => (match x with
    | [y] => chkE L N sc e y
    | _ => false)
def chkIt (L : LI) (N : List Str) (sc : Scope) : It → Expr → Bool
  | .e a, x => chkE L N sc a x
  | .f fn es, x => (match x with
    | .Call (.Name g _) (y :: ys) [] _ => decide (g = fn.name) && (glB sc g && (L.bn.contains g && chkEs L N sc es (y :: ys)))
    | _ => false)
/-- the comprehension's own names are those of its target -/
def ownB : Tg → List (Str × Nat) → Bool
  | .nm i, own => decide (i ∈ own.map (·.2))
  | .tp is, own => is.all fun i => decide (i ∈ own.map (·.2))
/-- enumerate and zip want a written pair -/
def isPair : It → Tg → Bool
  | .f .enum _, .tp _ => true
  | .f .enum _, _ => false
  | .f .zip _, .tp _ => true
  | .f .zip _, _ => false
  | _, _ => true
end
/-- no star -/
theorem chkE_star {L : LI} {N : List Str} {sc : Scope} {e : E} {x : Expr} (h : chkE L N sc e x = true) : ∀ (xs : List Expr) (env : PySem.Env), starEach (x :: xs) env = (false, eval x env) :: starEach xs env := by
  intro xs env
  cases x with
  | Starred v p =>
    exfalso
    cases e <;> simp [chkE] at h
  | _ => rfl
end Z

/-! the model does what the small language says: expressions -/
namespace Z
open PySem PySem.Spec L2

/-- H is what a state of the machine shows -/
def Rl (X : Cx) (H : Hp) : Prop := ∃ pins σ s, Inv X pins σ H s
section
variable {X : Cx} {CL : Nat → Option Addr} {Φ : FS}
/-- what the machine makes of an expression, whatever it is -/
def tE (X : Cx) (x : Expr) : TE := fun σ H Q => ∀ pins s, Inv X pins σ H s → wpAny (model X.prog X.w) X.A (eval x X.env) (EP X pins σ Q) X.xe s
theorem tE_pe (X : Cx) (x : Expr) : PE X x (tE X x) := ⟨fun pins s σ H Q I h => h pins s I⟩
def tA (X : Cx) (xs : List Expr) : TA := fun σ H Q => ∀ pos pins s, Inv X pins σ H s → wpAny (model X.prog X.w) X.A (spliced (backTo pos (starEach xs X.env))) (AP X pins σ Q) X.xe s
theorem tA_pa (X : Cx) (xs : List Expr) : PA X xs (tA X xs) := ⟨fun pos pins s σ H Q I h => h pos pins s I⟩
def tT (X : Cx) (x : Expr) : TT := fun σ H Q => ∀ pins s, Inv X pins σ H s → wpAny (model X.prog X.w) X.A (isTrue x X.env (eval x X.env)) (TP X pins σ Q) X.xe s
theorem tT_pt (X : Cx) (x : Expr) : PT X x (tT X x) := ⟨fun pins s σ H Q I h => h pins s I⟩
def tW (X : Cx) (x : Expr) : TT := fun σ H Q => ∀ wh pins s, Inv X pins σ H s → wpAny (model X.prog X.w) X.A (isTrue x X.env wh) (TP X pins σ Q) X.xe s
theorem tW_pw (X : Cx) (x : Expr) : PW X x (tW X x) := ⟨fun wh pins s σ H Q I h => h wh pins s I⟩
theorem rl_of {pins : List (Addr × Obj)} {σ : List (Option V)} {H : Hp} {s : Shared} (I : Inv X pins σ H s) : Rl X H := ⟨pins, σ, s, I⟩
theorem PE.go {x : Expr} {t : TE} (p : PE X x t) {σ : List (Option V)} {H : Hp} {Q : VK} (h : Rl X H → t σ H fun v H' => Rl X H' → Q v H') : tE X x σ H Q := fun pins s I =>
  thn (p.run pins s σ H _ I (h (rl_of I))) fun u s' ⟨v, H', I', r, q⟩ => ⟨v, H', I', r, q (rl_of I')⟩
theorem PA.go {x : List Expr} {t : TA} (p : PA X x t) {σ : List (Option V)} {H : Hp} {Q : List V → Hp → Prop} (h : Rl X H → t σ H fun v H' => Rl X H' → Q v H') : tA X x σ H Q := fun pos pins s I =>
  thn (p.run pos pins s σ H _ I (h (rl_of I))) fun u s' ⟨v, H', I', r, q⟩ => ⟨v, H', I', r, q (rl_of I')⟩
theorem PT.go {x : Expr} {t : TT} (p : PT X x t) {σ : List (Option V)} {H : Hp} {Q : Bool → Hp → Prop} (h : Rl X H → t σ H fun v H' => Rl X H' → Q v H') : tT X x σ H Q := fun pins s I =>
  thn (p.run pins s σ H _ I (h (rl_of I))) fun u s' ⟨H', I', q⟩ => ⟨H', I', q (rl_of I')⟩
theorem PW.go {x : Expr} {t : TT} (p : PW X x t) {σ : List (Option V)} {H : Hp} {Q : Bool → Hp → Prop} (h : Rl X H → t σ H fun v H' => Rl X H' → Q v H') : tW X x σ H Q := fun wh pins s I =>
  thn (p.run wh pins s σ H _ I (h (rl_of I))) fun u s' ⟨H', I', q⟩ => ⟨H', I', q (rl_of I')⟩

/-- behind an evaluation -/
def Pst (X : Cx) (CL : Nat → Option Addr) (G : Gh) (h : CH) (H : Hp) (d : D) (h' : CH) (Q : VK) : Prop :=
  ∀ G' H' v, EvR G h H G' h' H' → SR X.K CL G' h' H' → RV X.K CL h'.length G' H' d v → Rl X H' → Q v H'
def Psts (X : Cx) (CL : Nat → Option Addr) (G : Gh) (h : CH) (H : Hp) (ds : List D) (h' : CH) (Q : List V → Hp → Prop) : Prop :=
  ∀ G' H' vs, EvR G h H G' h' H' → SR X.K CL G' h' H' → RVs X.K CL h'.length G' H' ds vs → Rl X H' → Q vs H'
def Pstb (X : Cx) (CL : Nat → Option Addr) (G : Gh) (h : CH) (H : Hp) (b : Bool) (h' : CH) (Q : Bool → Hp → Prop) : Prop :=
  ∀ G' H', EvR G h H G' h' H' → SR X.K CL G' h' H' → Rl X H' → Q b H'
/-- the machine evaluates x as the small language says -/
def SE (X : Cx) (CL : Nat → Option Addr) (Φ : FS) (e : E) (x : Expr) : Prop := ∀ (env : Env) (h h' : CH) (d : D), evE Φ e env h = .ok d h' → ∀ (G : Gh) (H : Hp) (σ : List (Option V)), SR X.K CL G h H → RE X.K CL h.length G H env σ → ∀ Q : VK, Pst X CL G h H d h' Q → tE X x σ H Q
def SEs (X : Cx) (CL : Nat → Option Addr) (Φ : FS) (es : Es) (xs : List Expr) : Prop := ∀ (env : Env) (h h' : CH) (ds : List D), evEs Φ es env h = .ok ds h' → ∀ (G : Gh) (H : Hp) (σ : List (Option V)), SR X.K CL G h H → RE X.K CL h.length G H env σ → ∀ Q : List V → Hp → Prop, Psts X CL G h H ds h' Q → tA X xs σ H Q
def ST (X : Cx) (CL : Nat → Option Addr) (Φ : FS) (e : E) (x : Expr) : Prop := ∀ (env : Env) (h h' : CH) (b : Bool), asBl (evE Φ e env h) = .ok b h' → ∀ (G : Gh) (H : Hp) (σ : List (Option V)), SR X.K CL G h H → RE X.K CL h.length G H env σ → ∀ Q : Bool → Hp → Prop, Pstb X CL G h H b h' Q → tT X x σ H Q
theorem asBl_inv {r : R D} {b : Bool} {h' : CH} (e : asBl r = .ok b h') : r = .ok (.bl b) h' := by
  obtain ⟨d, h1, e1, e2⟩ := R.bnd_inv e
  cases d with
  | bl c => cases e2; exact e1
  | _ => cases e2
theorem Pst.imp {G : Gh} {h h' : CH} {H : Hp} {d : D} {Q Q' : VK} (p : Pst X CL G h H d h' Q) (k : ∀ v H', Q v H' → Q' v H') : Pst X CL G h H d h' Q' := fun G' H' v a b c r => k _ _ (p G' H' v a b c r)
/-- further on from a later state -/
theorem Pst.from {G G1 : Gh} {h h1 h' : CH} {H H1 : Hp} {d : D} {Q : VK} (p : Pst X CL G h H d h' Q) (e : EvR G h H G1 h1 H1) : Pst X CL G1 h1 H1 d h' Q := fun G' H' v a b c r => p G' H' v (e.trans a) b c r
theorem Psts.from {G G1 : Gh} {h h1 h' : CH} {H H1 : Hp} {ds : List D} {Q : List V → Hp → Prop} (p : Psts X CL G h H ds h' Q) (e : EvR G h H G1 h1 H1) : Psts X CL G1 h1 H1 ds h' Q := fun G' H' v a b c r => p G' H' v (e.trans a) b c r
theorem Pstb.from {G G1 : Gh} {h h1 h' : CH} {H H1 : Hp} {d : Bool} {Q : Bool → Hp → Prop} (p : Pstb X CL G h H d h' Q) (e : EvR G h H G1 h1 H1) : Pstb X CL G1 h1 H1 d h' Q := fun G' H' a b r => p G' H' (e.trans a) b r
/-- nothing changes: the value stands -/
theorem Pst.here {G : Gh} {h : CH} {H : Hp} {d : D} {Q : VK} {v : V} (p : Pst X CL G h H d h Q) (s : SR X.K CL G h H) (r : RV X.K CL h.length G H d v) (l : Rl X H) : Q v H := p G H v (EvR.refl _ _ _) s r l

/-! ### values -/
/-- a sequence that is read -/
theorem items_ok {G : Gh} {h : CH} {H : Hp} {d : D} {ds : List D} {v : V} (s : SR X.K CL G h H) (e : items h d = some ds) (r : RV X.K CL h.length G H d v) :
    ∃ a vs, v = .ref a ∧ (SqL X.K H a vs ∨ SqT X.K H a vs) ∧ RVs X.K CL h.length G H ds vs := by
  cases r with
  | non => simp at e
  | bl b => simp at e
  | int i => simp at e
  | str x => simp at e
  | tup a b => simp at e; subst e; exact ⟨_, _, rfl, .inr a, b⟩
  | lst f a b => simp at e; subst e; exact ⟨_, _, rfl, .inl (SqL.of a), b⟩
  | @cell n l =>
    simp only [items] at e
    cases q : h[n]? with
    | none => rw [q] at e; cases e
    | some c =>
      rw [q] at e
      cases c with
      | lst es =>
        cases e
        obtain ⟨_, vs, a, b⟩ := s.cell n _ q
        exact ⟨_, vs, rfl, .inl (SqL.of a), b⟩
      | _ => cases e
  | ins f a b c => simp at e
  | scr a => simp at e; subst e; exact ⟨_, _, rfl, .inl a.sq, RVs.ofInts _⟩
/-- a list that may be joined -/
theorem lst_ok {G : Gh} {h : CH} {H : Hp} {d : D} {ds : List D} {v : V} (s : SR X.K CL G h H) (e : lstOf h d = some ds) (r : RV X.K CL h.length G H d v) :
    ∃ a vs, v = .ref a ∧ H a = some (.lst vs) ∧ RVs X.K CL h.length G H ds vs := by
  cases r with
  | lst f a b => simp at e; subst e; exact ⟨_, _, rfl, a, b⟩
  | @cell n l =>
    simp only [lstOf] at e
    cases q : h[n]? with
    | none => rw [q] at e; cases e
    | some c =>
      rw [q] at e
      cases c with
      | lst es =>
        cases e
        obtain ⟨_, vs, a, b⟩ := s.cell n _ q
        exact ⟨_, vs, rfl, a, b⟩
      | _ => cases e
  | _ => simp at e
/-- a new list -/
theorem newL_ok {G : Gh} {h h' : CH} {H : Hp} {m : Bool} {ds : List D} {d : D} {vs : List V} {Q : VK} (s : SR X.K CL G h H) (e : newL m ds h = .ok d h') (r : RVs X.K CL h.length G H ds vs) (p : Pst X CL G h H d h' Q) :
    ∀ a, H a = none → Rl X (upd H a (.lst vs)) → Q (.ref a) (upd H a (.lst vs)) := fun a na rl => by
  cases m with
  | true =>
    simp only [newL, R.ok.injEq] at e
    obtain ⟨rfl, rfl⟩ := e
    obtain ⟨s1, e1⟩ := s.newCell (.lst ds) na (o := .lst vs) trivial fun H' G' _ _ _ _ nf hH k => ⟨nf, vs, hH, k r⟩
    refine p _ _ _ e1 s1 ?_ rl
    have q : RV X.K CL (h ++ [Cell.lst ds]).length (G.cel h.length a) (upd H a (.lst vs)) (.cell h.length) (.ref ((G.cel h.length a).φ h.length)) := .cell (by simp)
    rw [show (G.cel h.length a).φ h.length = a from if_pos rfl] at q
    exact q
  | false =>
    simp only [newL, R.ok.injEq] at e
    obtain ⟨rfl, rfl⟩ := e
    obtain ⟨s1, e1⟩ := s.new (o := .lst vs) True na
    exact p _ _ _ e1 s1 (.lst (.inr ⟨trivial, rfl⟩) upd_same (r.ev s e1)) rl
theorem newT_ok {G : Gh} {h : CH} {H : Hp} {ds : List D} {vs : List V} {Q : VK} (s : SR X.K CL G h H) (r : RVs X.K CL h.length G H ds vs) (p : Pst X CL G h H (.tup ds) h Q) :
    ∀ a, H a = none → Rl X (upd H a (.tup vs)) → Q (.ref a) (upd H a (.tup vs)) := fun a na rl => by
  obtain ⟨s1, e1⟩ := s.new (o := .tup vs) False na
  exact p _ _ _ e1 s1 (.tup (SqT.of upd_same) (r.ev s e1)) rl
theorem SZ_line {n : Nat} (h : n ≤ SZ) : n ≤ sizeLine := by rw [sizeLine_eq]; unfold SZ at h; omega
theorem SZ_lt {n : Nat} (h : n < SZ) : n < sizeLine := by rw [sizeLine_eq]; unfold SZ at h; omega
theorem log_lt {i : Int} {n : Nat} (h : i.natAbs < 2 ^ n) (h0 : 0 < n) : i.natAbs.log2 < n := PySem.Flt.log2_lt_of h0 h
theorem mulOk_ok {i j : Int} (h : mulOk i j = true) : IntMulOk i j := by
  unfold mulOk at h
  simp only [Bool.or_eq_true, decide_eq_true_eq] at h
  rcases h with h | h | ⟨h1, h2⟩
  · exact CMul.ok (.inl h)
  · exact CMul.ok (.inr h)
  · refine CMulW.ok ?_
    have a := log_lt h1 (by decide)
    have b := log_lt h2 (by decide)
    unfold CMulW
    omega
theorem op_mulZ : OpR X (binaryOp .Mult) (rI (fun i j => mulOk i j = true) fun i j => .int (i * j)) := opI fun _ _ _ _ _ _ _ hc q => PyProof.Rows.mul_int q (mulOk_ok hc)
theorem divOk_ok {i j : Int} (h : divOk j = true) : CDivW i j := by
  unfold divOk at h
  simp only [decide_eq_true_eq] at h
  exact ⟨h.1, Nat.lt_of_lt_of_le (log_lt h.2 (by decide)) (by decide)⟩
theorem op_divZ : OpR X (binaryOp .FloorDiv) (rI (fun _ j => divOk j = true) fun i j => .int (i / j)) := fun pins s σ H x y v u Q I rx ry q => by
  obtain ⟨i, j, rfl, rfl, c, q⟩ := q
  exact op_fdivW pins s σ H _ _ v u Q I rx ry ⟨i, j, rfl, rfl, divOk_ok c, q⟩
end
end Z

/-! operators -/
namespace Z
open PySem PySem.Spec L2
section
variable {X : Cx} {CL : Nat → Option Addr} {Φ : FS}
/-- an operator by its rule, on these data -/
def OkOp (X : Cx) (CL : Nat → Option Addr) (f : Value → Value → Sem Value) (dx dy : D) (h : CH) (d : D) (h' : CH) : Prop :=
  ∃ r : R2, OpR X f r ∧ ∀ (G : Gh) (H : Hp) (x y : V), SR X.K CL G h H → RV X.K CL h.length G H dx x → RV X.K CL h.length G H dy y → Rl X H → ∀ Q : VK, Pst X CL G h H d h' Q → r x y H fun v H' => Rl X H' → Q v H'
theorem OkOp.ints {f : Value → Value → Sem Value} {i j : Int} {C : Int → Int → Prop} {g : Int → Int → V} {h : CH} {d : D} (o : OpR X f (rI C g)) (c : C i j) (hd : ∀ {N : Nat} {G : Gh} {H : Hp}, RV X.K CL N G H d (g i j)) : OkOp X CL f (.int i) (.int j) h d h := by
  refine ⟨_, o, fun G H x y s rx ry rl Q p => ?_⟩
  cases rx
  cases ry
  exact ⟨i, j, rfl, rfl, c, fun _ => p.here s hd rl⟩
theorem OkOp.ints0 {f : Value → Value → Sem Value} {i j : Int} {g : Int → Int → V} {h : CH} {d : D} (o : OpR X f (rI0 g)) (hd : ∀ {N : Nat} {G : Gh} {H : Hp}, RV X.K CL N G H d (g i j)) : OkOp X CL f (.int i) (.int j) h d h := by
  refine ⟨_, o, fun G H x y s rx ry rl Q p => ?_⟩
  cases rx
  cases ry
  exact ⟨i, j, rfl, rfl, fun _ => p.here s hd rl⟩
theorem bin_add {m : Bool} {dx dy d : D} {h h' : CH} (e : binD .add m dx dy h = .ok d h') : OkOp X CL (binaryOp .Add) dx dy h d h' := by
  unfold binD at e
  simp only at e
  split at e
  · cases e
    exact .ints0 op_add (.int _)
  · rename_i xs ys
    split at e
    · rename_i hz
      cases e
      refine ⟨_, op_catA, fun G H x y s rx ry rl Q p => ?_⟩
      cases rx with
      | tup a1 b1 =>
        cases ry with
        | tup a2 b2 =>
          refine ⟨_, _, _, _, rfl, rfl, a1, a2, ?_, fun e1 _ => ?_, fun n1 e2 _ => ?_, fun n1 n2 q nq rl' => newT_ok s (b1.append b2) p q nq rl'⟩
          · rw [← b1.length, ← b2.length]; exact SZ_line hz
          · subst e1
            cases b1
            exact p.here s (.tup a2 b2) rl
          · subst e2
            cases b2
            rw [List.append_nil] at p
            exact p.here s (.tup a1 b1) rl
    · cases e
  · split at e
    · rename_i xs ys e1 e2
      split at e
      · rename_i hz
        refine ⟨rCat, op_cat, fun G H x y s rx ry rl Q p => ?_⟩
        obtain ⟨a, vs, rfl, ha, ra⟩ := lst_ok s e1 rx
        obtain ⟨b, ws, rfl, hb, rb⟩ := lst_ok s e2 ry
        refine ⟨a, b, vs, ws, rfl, rfl, ha, hb, ?_, fun q nq rl' => newL_ok s e (ra.append rb) p q nq rl'⟩
        rw [← ra.length, ← rb.length]
        exact SZ_line hz
      · cases e
    · cases e
theorem bin_sub {m : Bool} {dx dy d : D} {h h' : CH} (e : binD .sub m dx dy h = .ok d h') : OkOp X CL (binaryOp .Sub) dx dy h d h' := by
  unfold binD at e
  simp only at e
  split at e
  · cases e
    exact .ints0 op_sub (.int _)
  · cases e
theorem bin_rep {m : Bool} {dx d : D} {xs : List D} {k : Int} {h h' : CH} (e1 : lstOf h dx = some xs) (e : (if xs.length * k.toNat ≤ SZ ∧ k ≤ SZ ∧ 0 ≤ k then newL m (List.replicate k.toNat xs).flatten h else R.no) = .ok d h') : OkOp X CL (binaryOp .Mult) dx (.int k) h d h' := by
  split at e
  · rename_i hz
    refine ⟨_, op_rep, fun G H x y s rx ry rl Q p => ?_⟩
    obtain ⟨a, vs, rfl, ha, ra⟩ := lst_ok s e1 rx
    cases ry
    have hk : k ≤ 1000000 := hz.2.1
    refine ⟨a, k, vs, rfl, rfl, ha, by omega, by omega, ?_, fun q nq rl' => newL_ok s e (ra.rep _) p q nq rl'⟩
    rw [← ra.length]
    exact SZ_line hz.1
  · cases e
theorem bin_mul {m : Bool} {dx dy d : D} {h h' : CH} (e : binD .mul m dx dy h = .ok d h') : OkOp X CL (binaryOp .Mult) dx dy h d h' := by
  unfold binD at e
  simp only at e
  split at e
  · split at e
    · rename_i hc
      cases e
      exact .ints op_mulZ hc (.int _)
    · cases e
  · rename_i xs k
    split at e
    · rename_i hz
      cases e
      refine ⟨_, op_repT, fun G H x y s rx ry rl Q p => ?_⟩
      cases ry
      cases rx with
      | tup a1 b1 =>
        refine ⟨_, k, _, rfl, rfl, a1, ?_, hz.2.2.1, hz.2.2.2, by rw [← b1.length]; exact hz.1, fun q nq rl' => newT_ok s (b1.rep _) p q nq rl'⟩
        intro z
        subst z
        cases b1
        exact hz.2.1 rfl
    · cases e
  · rename_i xs k
    exact bin_rep (xs := xs) rfl e
  · rename_i n k
    split at e
    · rename_i xs e1
      exact bin_rep e1 e
    · cases e
  · cases e
theorem bin_fdiv {m : Bool} {dx dy d : D} {h h' : CH} (e : binD .fdiv m dx dy h = .ok d h') : OkOp X CL (binaryOp .FloorDiv) dx dy h d h' := by
  unfold binD at e
  simp only at e
  split at e
  · split at e
    · rename_i hc
      cases e
      exact .ints op_divZ hc (.int _)
    · cases e
  · cases e
theorem bin_mod {m : Bool} {dx dy d : D} {h h' : CH} (e : binD .mod m dx dy h = .ok d h') : OkOp X CL (binaryOp .Mod) dx dy h d h' := by
  unfold binD at e
  simp only at e
  split at e
  · split at e
    · rename_i hc
      cases e
      exact .ints op_mod hc (.int _)
    · cases e
  · cases e
theorem bin_pow {m : Bool} {dx dy d : D} {h h' : CH} (e : binD .pow m dx dy h = .ok d h') : OkOp X CL (binaryOp .Pow) dx dy h d h' := by
  unfold binD at e
  simp only at e
  split at e
  · split at e
    · rename_i hc
      cases e
      exact .ints op_pow hc (.int _)
    · cases e
  · cases e
theorem bin_ok {o : Bop} {m : Bool} {dx dy d : D} {h h' : CH} (e : binD o m dx dy h = .ok d h') : OkOp X CL (binaryOp o.op) dx dy h d h' := by
  cases o with
  | add => exact bin_add e
  | sub => exact bin_sub e
  | mul => exact bin_mul e
  | fdiv => exact bin_fdiv e
  | mod => exact bin_mod e
  | pow => exact bin_pow e

/-! ### comparisons -/
mutual
theorem toP_ok {N : Nat} {G : Gh} {H : Hp} : ∀ {d : D} {v : V} {p : PyData}, toP d = some p → RV X.K CL N G H d v → Dp X.K H v p ∧ p.canLay0 = true
  | .non, _, p, e, .non => by simp [toP] at e; subst e; exact ⟨.non, by simp [PyData.canLay0]⟩
  | .bl b, _, p, e, .bl _ => by simp [toP] at e; subst e; exact ⟨Dp.bl b, by simp [PyData.canLay0]⟩
  | .int i, _, p, e, .int _ => by simp [toP] at e; subst e; exact ⟨.int i, by simp [PyData.canLay0]⟩
  | .str s, _, p, e, .str _ => by
    simp only [toP] at e
    split at e
    · rename_i hc; cases e; exact ⟨.str s, hc⟩
    · cases e
  | .tup ds, _, p, e, .tup a b => by
    simp only [toP, Option.map_eq_some_iff] at e
    obtain ⟨ps, e1, rfl⟩ := e
    obtain ⟨q1, q2⟩ := toPs_ok e1 b
    exact ⟨.tup a q1, by simpa [PyData.canLay0] using q2⟩
  | .lst ds, _, p, e, .lst f a b => by
    simp only [toP, Option.map_eq_some_iff] at e
    obtain ⟨ps, e1, rfl⟩ := e
    obtain ⟨q1, q2⟩ := toPs_ok e1 b
    exact ⟨.lst (SqL.of a) q1, by simpa [PyData.canLay0] using q2⟩
  | .cell n, _, p, e, .cell l => by simp [toP] at e
  | .ins c ds, _, p, e, .ins f a b c' => by simp [toP] at e
  | .scr ns, _, p, e, .scr a => by simp [toP] at e
theorem toPs_ok {N : Nat} {G : Gh} {H : Hp} : ∀ {ds : List D} {vs : List V} {ps : List PyData}, toPs ds = some ps → RVs X.K CL N G H ds vs → DpAll X.K H vs ps ∧ PyData.canLayAll0 ps = true
  | _, _, ps, e, .nil => by simp [toPs] at e; subst e; exact ⟨.nil, by simp [PyData.canLayAll0]⟩
  | d :: ds, _, ps, e, .cons a b => by
    simp only [toPs] at e
    split at e
    · rename_i p ps' e1 e2
      cases e
      obtain ⟨q1, q2⟩ := toP_ok e1 a
      obtain ⟨q3, q4⟩ := toPs_ok e2 b
      exact ⟨.cons q1 q3, by simp [PyData.canLayAll0, q2, q4]⟩
    · cases e
end
theorem snap_rel {G : Gh} {h : CH} {H : Hp} {d d' : D} {v : V} (s : SR X.K CL G h H) (e : snap h d = some d') (r : RV X.K CL h.length G H d v) : RV X.K CL 0 (G.all h) H d' v := snap_ok s e r
theorem eqP_inv {a b : D} {c : Bool} (e : eqP a b = some c) : ∃ p q, toP a = some p ∧ toP b = some q ∧ p.depth ≤ 64 ∧ q.depth ≤ 64 ∧ c = PyData.eqv p q := by
  unfold eqP at e
  split at e
  · rename_i p q e1 e2
    split at e
    · rename_i hc
      cases e
      exact ⟨p, q, e1, e2, hc.1, hc.2, rfl⟩
    · cases e
  · cases e
theorem shaped_of {p : PyData} (h1 : p.canLay0 = true) (h2 : p.depth ≤ 64) : SeqAt.shaped p = true := by
  unfold SeqAt.shaped
  rw [h1, decide_eq_true h2]; rfl
/-- a comparison by its rule, on these data -/
def OkCmp (X : Cx) (CL : Nat → Option Addr) (f : Value → Value → Sem Value) (dx dy : D) (h : CH) (d : D) (h' : CH) : Prop :=
  ∃ b, d = .bl b ∧ h' = h ∧ ∃ r : R2, OpR X f r ∧ ∀ (G : Gh) (H : Hp) (x y : V), SR X.K CL G h H → RV X.K CL h.length G H dx x → RV X.K CL h.length G H dy y → ∀ Q : VK, Q (.bl b) H → r x y H Q
theorem OkCmp.ints {f : Value → Value → Sem Value} {i j : Int} {b : Bool} {g : Int → Int → V} {h : CH} (o : OpR X f (rI0 g)) (e : g i j = .bl b) : OkCmp X CL f (.int i) (.int j) h (.bl b) h := by
  refine ⟨b, rfl, rfl, _, o, fun G H x y s rx ry Q q => ?_⟩
  cases rx
  cases ry
  exact ⟨i, j, rfl, rfl, by rw [e]; exact q⟩
theorem cmp_eq {k : Nat} (hr : Room k X.A) {dx dy d : D} {h h' : CH} (e : cmpD .eq dx dy h = .ok d h') : OkCmp X CL (compareOp .Eq) dx dy h d h' := by
  unfold cmpD at e
  simp only at e
  split at e
  · rename_i a b e1 e2
    split at e
    · rename_i c e3
      cases e
      refine ⟨_, rfl, rfl, _, op_eqD hr.units, fun G H x y s rx ry Q q => ?_⟩
      obtain ⟨pa, pb, t1, t2, d1, d2, rfl⟩ := eqP_inv e3
      obtain ⟨q1, c1⟩ := toP_ok t1 (snap_ok s e1 rx)
      obtain ⟨q2, c2⟩ := toP_ok t2 (snap_ok s e2 ry)
      exact ⟨pa, pb, q1, q2, shaped_of c1 d1, shaped_of c2 d2, q⟩
    · cases e
  · cases e
theorem cmp_ne {k : Nat} (hr : Room k X.A) {dx dy d : D} {h h' : CH} (e : cmpD .ne dx dy h = .ok d h') : OkCmp X CL (compareOp .NotEq) dx dy h d h' := by
  unfold cmpD at e
  simp only at e
  split at e
  · rename_i a b e1 e2
    split at e
    · rename_i c e3
      cases e
      refine ⟨_, rfl, rfl, _, op_neD hr.units, fun G H x y s rx ry Q q => ?_⟩
      obtain ⟨pa, pb, t1, t2, d1, d2, rfl⟩ := eqP_inv e3
      obtain ⟨q1, c1⟩ := toP_ok t1 (snap_ok s e1 rx)
      obtain ⟨q2, c2⟩ := toP_ok t2 (snap_ok s e2 ry)
      exact ⟨pa, pb, q1, q2, shaped_of c1 d1, shaped_of c2 d2, q⟩
    · cases e
  · cases e
theorem flat_ok {N : Nat} {G : Gh} {H : Hp} {d : D} {v : V} (f : flatD d = true) (r : RV X.K CL N G H d v) : flatV v = true := by
  cases r <;> simp_all [flatD, flatV]
theorem flats_ok {N : Nat} {G : Gh} {H : Hp} : ∀ {ds : List D} {vs : List V}, ds.all flatD = true → RVs X.K CL N G H ds vs → vs.all flatV = true
  | _, _, _, .nil => rfl
  | d :: ds, _, f, .cons a b => by
    rw [List.all_cons, Bool.and_eq_true] at f
    rw [List.all_cons, Bool.and_eq_true]
    exact ⟨flat_ok f.1 a, flats_ok f.2 b⟩
theorem eqF_ok {N : Nat} {G : Gh} {H : Hp} {d e : D} {v w : V} (fd : flatD d = true) (fe : flatD e = true) (r : RV X.K CL N G H d v) (q : RV X.K CL N G H e w) : eqV v w = eqF d e := by
  cases r <;> cases q <;> simp_all [flatD, eqF, eqV]
theorem memD_ok {N : Nat} {G : Gh} {H : Hp} {x : D} {v : V} (fx : flatD x = true) (rx : RV X.K CL N G H x v) : ∀ {ds : List D} {vs : List V}, ds.all flatD = true → RVs X.K CL N G H ds vs → inV v vs = memD x ds
  | _, _, _, .nil => rfl
  | d :: ds, _, f, .cons a b => by
    rw [List.all_cons, Bool.and_eq_true] at f
    have ih := memD_ok fx rx f.2 b
    unfold inV memD at ih ⊢
    rw [List.any_cons, List.any_cons, ih, eqF_ok f.1 fx a rx]
theorem cmp_is {dx dy d : D} {h h' : CH} (e : cmpD .is dx dy h = .ok d h') : OkCmp X CL (compareOp .Is) dx dy h d h' := by
  unfold cmpD at e
  simp only at e
  split at e
  · cases e
    refine ⟨_, rfl, rfl, _, op_isBl, fun G H x y s rx ry Q q => ?_⟩
    cases rx
    cases ry
    refine ⟨_, _, rfl, rfl, ?_⟩
    rw [← Bool.beq_eq_decide_eq]
    exact q
  · cases e
    refine ⟨_, rfl, rfl, _, op_isN, fun G H x y s rx ry Q q => ?_⟩
    cases rx
    cases ry
    exact ⟨rfl, q⟩
  · rename_i h1 h2
    cases e
    refine ⟨_, rfl, rfl, _, op_isN, fun G H x y s rx ry Q q => ?_⟩
    cases ry
    have hx : decide (x = V.non) = false := by
      cases rx <;> simp_all
    rw [hx]
    exact ⟨rfl, q⟩
  · cases e
theorem cmp_isn {dx dy d : D} {h h' : CH} (e : cmpD .isn dx dy h = .ok d h') : OkCmp X CL (compareOp .IsNot) dx dy h d h' := by
  unfold cmpD at e
  simp only at e
  split at e
  · cases e
    refine ⟨_, rfl, rfl, _, op_notBl, fun G H x y s rx ry Q q => ?_⟩
    cases rx
    cases ry
    refine ⟨_, _, rfl, rfl, ?_⟩
    rw [← Bool.beq_eq_decide_eq]
    exact q
  · cases e
    refine ⟨_, rfl, rfl, _, op_notN, fun G H x y s rx ry Q q => ?_⟩
    cases rx
    cases ry
    exact ⟨rfl, q⟩
  · rename_i h1 h2
    cases e
    refine ⟨_, rfl, rfl, _, op_notN, fun G H x y s rx ry Q q => ?_⟩
    cases ry
    have hx : decide (x = V.non) = false := by
      cases rx <;> simp_all
    rw [hx]
    exact ⟨rfl, q⟩
  · cases e
theorem cmp_in {dx dy d : D} {h h' : CH} (e : cmpD .inn dx dy h = .ok d h') : OkCmp X CL (compareOp .In) dx dy h d h' := by
  unfold cmpD at e
  simp only at e
  split at e
  · rename_i ys e1
    split at e
    · rename_i hf
      rw [Bool.and_eq_true] at hf
      cases e
      refine ⟨_, rfl, rfl, _, op_in_seq, fun G H x y s rx ry Q q => ?_⟩
      obtain ⟨a, vs, rfl, ha, ra⟩ := items_ok s e1 ry
      refine ⟨a, vs, rfl, ha, flat_ok hf.1 rx, flats_ok hf.2 ra, ?_⟩
      rw [memD_ok hf.1 rx hf.2 ra]
      exact q
    · cases e
  · cases e
theorem cmp_nin {dx dy d : D} {h h' : CH} (e : cmpD .nin dx dy h = .ok d h') : OkCmp X CL (compareOp .NotIn) dx dy h d h' := by
  unfold cmpD at e
  simp only at e
  split at e
  · rename_i ys e1
    split at e
    · rename_i hf
      rw [Bool.and_eq_true] at hf
      cases e
      refine ⟨_, rfl, rfl, _, op_notIn_seq, fun G H x y s rx ry Q q => ?_⟩
      obtain ⟨a, vs, rfl, ha, ra⟩ := items_ok s e1 ry
      refine ⟨a, vs, rfl, ha, flat_ok hf.1 rx, flats_ok hf.2 ra, ?_⟩
      rw [memD_ok hf.1 rx hf.2 ra]
      exact q
    · cases e
  · cases e
theorem cmp_ok {k : Nat} (hr : Room k X.A) {o : Cop} {dx dy d : D} {h h' : CH} (e : cmpD o dx dy h = .ok d h') : OkCmp X CL (compareOp o.op) dx dy h d h' := by
  cases o with
  | eq => exact cmp_eq hr e
  | ne => exact cmp_ne hr e
  | is => exact cmp_is e
  | isn => exact cmp_isn e
  | inn => exact cmp_in e
  | nin => exact cmp_nin e
  | lt =>
    unfold cmpD at e
    simp only at e
    split at e
    · cases e; exact .ints op_lt rfl
    · cases e
  | le =>
    unfold cmpD at e
    simp only at e
    split at e
    · cases e; exact .ints op_le rfl
    · cases e
  | gt =>
    unfold cmpD at e
    simp only at e
    split at e
    · cases e; exact .ints op_gt rfl
    · cases e
  | ge =>
    unfold cmpD at e
    simp only at e
    split at e
    · cases e; exact .ints op_ge rfl
    · cases e
end
end Z

/-! expressions, one by one -/
namespace Z
open PySem PySem.Spec L2

/-- a def's promise: what the small language makes of it -/
def spOf (K : PySem.W.Frag) (CL : Nat → Option Addr) (Φ : FS) (f ar : Nat) : Sp := fun vs H Q _ => vs.length = ar ∧ ∃ (G : Gh) (h h' : CH) (ds : List D) (d : D), SR K CL G h H ∧ RVs K CL h.length G H ds vs ∧ Φ f ds h = .ok d h' ∧
  ∀ G' H' v, EvR G h H G' h' H' → SR K CL G' h' H' → RV K CL h'.length G' H' d v → Q v H'
/-- a def that stands in the top -/
structure FOk (X : Cx) (CL : Nat → Option Addr) (Φ : FS) (k f : Nat) (fi : FI) : Prop where
  ex : ∃ (a : Addr) (fd : FuncData) (ps : List Str), X.mg fi.name = some (.ref a) ∧ PySem.W.keepIn X.K (.ref a) = true ∧ FnOk X.prog X.w X.K X.mg X.base CX0 k a fd ps (spOf X.K CL Φ f fi.ar) ∧
    (match fi.kw with
      | none => Binds X.K fd ps []
      | some (n, c) => (∃ u, RelV (match c with
        | .non => V.non
        | .bl b => V.bl b
        | .int i => V.int i
        | .str s => V.str s) u ∧ Binds X.K fd ps [u]) ∧ KBn X.K fd ps (fi.ar - 1) [n] (fun us ws => us ++ ws) (fun vs zs => vs ++ zs))
/-- a class that stands in the top -/
structure COk (K : PySem.W.Frag) (C : Addr) : Prop where
  lst : PySem.W.kitOne K (.type "list") (.ref C) = some false
  tup : PySem.W.kitOne K (.type "tuple") (.ref C) = some false
  non : PySem.W.kitOne K (.type "NoneType") (.ref C) = some false
structure XC (L : LI) (CL : Nat → Option Addr) (Φ : FS) (k : Nat) (X : Cx) : Prop where
  calm : X.calm = true
  nd : X.N.Nodup
  room : Room k X.A
  bi : ∀ x, L.bn.contains x = true → X.mg x = none
  fn : ∀ f fi, L.fn f = some fi → FOk X CL Φ k f fi
  cl : ∀ c x, L.cl c = some x → ∃ C, X.mg x = some (.ref C) ∧ CL c = some C ∧ COk X.K C
section
variable {L : LI} {X : Cx} {CL : Nat → Option Addr} {Φ : FS} {k : Nat}
theorem and3 {a b : Bool} (h : (a && b) = true) : a = true ∧ b = true := by simpa using h

theorem se_var {sc : Scope} {i : Nat} {x : Expr} (hs : X.env.scope = sc) (c : chkE L X.N sc (.var i) x = true) : SE X CL Φ (.var i) x := by
  intro env h h' d e G H σ s re Q p
  simp only [chkE] at c
  split at c
  · rename_i y pos
    unfold nmB at c
    simp only [Bool.and_eq_true, decide_eq_true_eq, Bool.not_eq_true'] at c
    obtain ⟨c1, c2, c3, c4⟩ := c
    have vis : Vis X.env.scope y := by rw [hs]; exact visB_ok c2
    refine PE.go (pe_var c1 vis c3 c4) fun rl => ?_
    simp only [evE] at e
    split at e
    · rename_i d' q
      cases e
      obtain ⟨v, a, b⟩ := re.2 i d q
      exact ⟨v, a, fun _ => p.here s b rl⟩
    · cases e
  · cases c
theorem se_con {sc : Scope} {c : Kc} {x : Expr} (ck : chkE L X.N sc (.con c) x = true) : SE X CL Φ (.con c) x := by
  intro env h h' d e G H σ s re Q p
  simp only [chkE] at ck
  simp only [evE, R.ok.injEq] at e
  obtain ⟨rfl, rfl⟩ := e
  split at ck
  · rename_i kk j pos
    cases c with
    | non =>
      cases kk <;> simp [chkK] at ck
      exact PE.go pe_non fun rl _ => p.here s .non rl
    | bl b =>
      cases kk <;> simp [chkK] at ck
      subst ck
      exact PE.go pe_bl fun rl _ => p.here s (.bl _) rl
    | int i =>
      cases kk <;> simp [chkK] at ck
      subst ck
      exact PE.go pe_int fun rl _ => p.here s (.int _) rl
    | str z =>
      cases kk <;> simp [chkK] at ck
      subst ck
      exact PE.go pe_str fun rl _ => p.here s (.str _) rl
  · cases ck
/-- two operands -/
theorem se_two {a b : E} {x y : Expr} {f : Value → Value → Sem Value} {env : Env} {h h1 h2 h' : CH} {da db d : D} (ia : SE X CL Φ a x) (ib : SE X CL Φ b y) (ea : evE Φ a env h = .ok da h1) (eb : evE Φ b env h1 = .ok db h2) (o : OkOp X CL f da db h2 d h') :
    ∃ r : R2, OpR X f r ∧ ∀ (G : Gh) (H : Hp) (σ : List (Option V)), SR X.K CL G h H → RE X.K CL h.length G H env σ → ∀ Q : VK, Pst X CL G h H d h' Q → tOp r (tE X x) (tE X y) σ H fun v H' => Rl X H' → Q v H' := by
  obtain ⟨r, hr, go⟩ := o
  refine ⟨r, hr, fun G H σ s re Q p => ?_⟩
  refine ia env h h1 da ea G H σ s re _ fun G1 H1 v e1 s1 r1 l1 => ?_
  refine ib env h1 h2 db eb G1 H1 σ s1 (re.ev s e1) _ fun G2 H2 w e2 s2 r2 l2 => ?_
  exact go G2 H2 v w s2 (r1.ev s1 e2) r2 l2 Q (p.from (e1.trans e2))
theorem se_bin {sc : Scope} {o : Bop} {m : Bool} {a b : E} {x : Expr} (ia : ∀ x, chkE L X.N sc a x = true → SE X CL Φ a x) (ib : ∀ x, chkE L X.N sc b x = true → SE X CL Φ b x) (c : chkE L X.N sc (.bin o m a b) x = true) : SE X CL Φ (.bin o m a b) x := by
  simp only [chkE] at c
  split at c
  · rename_i l op r pos
    simp only [Bool.and_eq_true, decide_eq_true_eq] at c
    obtain ⟨rfl, c1, c2⟩ := c
    intro env h h' d e G H σ s re Q p
    simp only [evE] at e
    obtain ⟨da, h1, ea, e⟩ := R.bnd_inv e
    obtain ⟨db, h2, eb, e⟩ := R.bnd_inv e
    obtain ⟨r, hr, go⟩ := se_two (ia _ c1) (ib _ c2) ea eb (bin_ok e)
    exact PE.go (pe_op hr (tE_pe X l) (tE_pe X _)) fun _ => go G H σ s re Q p
  · cases c
theorem notset {y : Expr} {op : CmpOp} (h : isSet y = false) : behindInMarks op y = false := by
  cases y <;> first | rfl | cases h
theorem se_two' {a b : E} {x y : Expr} {f : Value → Value → Sem Value} {env : Env} {h h1 h2 h' : CH} {da db d : D} (ia : SE X CL Φ a x) (ib : SE X CL Φ b y) (ea : evE Φ a env h = .ok da h1) (eb : evE Φ b env h1 = .ok db h2) (o : OkCmp X CL f da db h2 d h') :
    ∃ (c : Bool) (r : R2), d = .bl c ∧ OpR X f r ∧ ∀ (G : Gh) (H : Hp) (σ : List (Option V)), SR X.K CL G h H → RE X.K CL h.length G H env σ → ∀ Q : VK, (∀ G' H', EvR G h H G' h' H' → SR X.K CL G' h' H' → Rl X H' → Q (.bl c) H') → tOp r (tE X x) (tE X y) σ H Q := by
  obtain ⟨c, rfl, rfl, r, hr, go⟩ := o
  refine ⟨c, r, rfl, hr, fun G H σ s re Q p => ?_⟩
  refine ia env h h1 da ea G H σ s re _ fun G1 H1 v e1 s1 r1 l1 => ?_
  refine ib env h1 h' db eb G1 H1 σ s1 (re.ev s e1) _ fun G2 H2 w e2 s2 r2 l2 => ?_
  exact go G2 H2 v w s2 (r1.ev s1 e2) r2 Q (p G2 H2 (e1.trans e2) s2 l2)
theorem se_cmp (xc : XC L CL Φ k X) {sc : Scope} {o : Cop} {a b : E} {x : Expr} (ia : ∀ x, chkE L X.N sc a x = true → SE X CL Φ a x) (ib : ∀ x, chkE L X.N sc b x = true → SE X CL Φ b x) (c : chkE L X.N sc (.cmp o a b) x = true) : SE X CL Φ (.cmp o a b) x ∧ ST X CL Φ (.cmp o a b) x := by
  simp only [chkE] at c
  split at c
  · rename_i l op r pos
    simp only [Bool.and_eq_true, decide_eq_true_eq, Bool.not_eq_true'] at c
    obtain ⟨rfl, c1, c2, c3⟩ := c
    refine ⟨fun env h h' d e G H σ s re Q p => ?_, fun env h h' b e G H σ s re Q p => ?_⟩
    · simp only [evE] at e
      obtain ⟨da, h1, ea, e⟩ := R.bnd_inv e
      obtain ⟨db, h2, eb, e⟩ := R.bnd_inv e
      obtain ⟨c, r, rfl, hr, go⟩ := se_two' (ia _ c1) (ib _ c2) ea eb (cmp_ok xc.room e)
      exact PE.go (pe_cmpR hr (tE_pe X l) (tE_pe X _) (notset c3)) fun _ => go G H σ s re _ fun G' H' e' s' l' _ => p G' H' _ e' s' (.bl _) l'
    · replace e := asBl_inv e
      simp only [evE] at e
      obtain ⟨da, h1, ea, e⟩ := R.bnd_inv e
      obtain ⟨db, h2, eb, e⟩ := R.bnd_inv e
      obtain ⟨c, r, ec, hr, go⟩ := se_two' (ia _ c1) (ib _ c2) ea eb (cmp_ok xc.room e)
      cases ec
      exact PT.go (pt_cmpR hr (tE_pe X l) (tE_pe X _) (notset c3)) fun _ => go G H σ s re _ fun G' H' e' s' l' => ⟨_, rfl, fun _ => p G' H' e' s' l'⟩
  · cases c
theorem se_neg {sc : Scope} {a : E} {x : Expr} (ia : ∀ x, chkE L X.N sc a x = true → SE X CL Φ a x) (c : chkE L X.N sc (.neg a) x = true) : SE X CL Φ (.neg a) x := by
  simp only [chkE] at c
  split at c
  · rename_i y pos
    intro env h h' d e G H σ s re Q p
    simp only [evE] at e
    obtain ⟨da, h1, ea, e⟩ := R.bnd_inv e
    split at e
    · rename_i i
      cases e
      refine PE.go (pe_un un_neg (tE_pe X y)) fun _ => ia _ c env h _ _ ea G H σ s re _ fun G1 H1 v e1 s1 r1 l1 => ?_
      cases r1
      exact ⟨i, rfl, fun _ => p G1 H1 _ e1 s1 (.int _) l1⟩
    · cases e
  · cases c
theorem se_not {sc : Scope} {a : E} {x : Expr} (ia : ∀ x, chkE L X.N sc a x = true → SE X CL Φ a x) (ta : ∀ x, chkE L X.N sc a x = true → ST X CL Φ a x) (c : chkE L X.N sc (.not a) x = true) : SE X CL Φ (.not a) x ∧ ST X CL Φ (.not a) x := by
  simp only [chkE] at c
  split at c
  · rename_i y pos
    refine ⟨fun env h h' d e G H σ s re Q p => ?_, fun env h h' b e G H σ s re Q p => ?_⟩
    · simp only [evE] at e
      obtain ⟨b, h1, ea, e⟩ := R.bnd_inv e
      cases e
      refine PE.go (pe_not (tE_pe X y)) fun _ => ia _ c env h _ _ (asBl_inv ea) G H σ s re _ fun G1 H1 v e1 s1 r1 l1 => ?_
      cases r1
      exact ⟨_, rfl, fun _ => p G1 H1 _ e1 s1 (.bl _) l1⟩
    · replace e := asBl_inv e
      simp only [evE] at e
      obtain ⟨b', h1, ea, e⟩ := R.bnd_inv e
      cases e
      refine PT.go (pt_not (tT_pt X y)) fun _ => ta _ c env h _ _ ea G H σ s re _ fun G1 H1 e1 s1 l1 => ?_
      exact fun _ => p G1 H1 e1 s1 l1
  · cases c
/-- a test of the plain kind -/
theorem st_val {e : E} {x : Expr} (ie : SE X CL Φ e x) (hp : ∀ whole, isTrue x X.env whole = (do let v ← whole; standAt x.pos; holding [v] (truthy v))) : ST X CL Φ e x := by
  intro env h h' b q G H σ s re Q p
  replace q := asBl_inv q
  refine PT.go (pt_val (tE_pe X x) hp) fun _ => ie env h _ _ q G H σ s re _ fun G1 H1 v e1 s1 r1 l1 => ?_
  cases r1
  exact ⟨_, rfl, fun _ => p G1 H1 e1 s1 l1⟩
/-- .. and, or: a test whatever the whole is -/
def SW (X : Cx) (CL : Nat → Option Addr) (Φ : FS) (e : E) (x : Expr) : Prop := ∀ (env : Env) (h h' : CH) (b : Bool), asBl (evE Φ e env h) = .ok b h' → ∀ (G : Gh) (H : Hp) (σ : List (Option V)), SR X.K CL G h H → RE X.K CL h.length G H env σ → ∀ Q : Bool → Hp → Prop, Pstb X CL G h H b h' Q → tW X x σ H Q
def isBo : E → Bool
  | .bo1 .. => true
  | .bo .. => true
  | _ => false
theorem SW.st {e : E} {x : Expr} (w : SW X CL Φ e x) : ST X CL Φ e x := fun env h h' b q G H σ s re Q p => PT.go (tW_pw X x).pt fun _ => w env h h' b q G H σ s re _ fun G1 H1 e1 s1 l1 _ => p G1 H1 e1 s1 l1
theorem se_bo1 {sc : Scope} {o : Bool} {a : E} {x : Expr} (ia : ∀ x, chkE L X.N sc a x = true → SE X CL Φ a x) (ta : ∀ x, chkE L X.N sc a x = true → ST X CL Φ a x) (c : chkE L X.N sc (.bo1 o a) x = true) : SE X CL Φ (.bo1 o a) x ∧ SW X CL Φ (.bo1 o a) x := by
  simp only [chkE] at c
  split at c
  · rename_i op y pos
    simp only [Bool.and_eq_true, decide_eq_true_eq] at c
    obtain ⟨rfl, c⟩ := c
    refine ⟨fun env h h' d e G H σ s re Q p => ?_, fun env h h' b e G H σ s re Q p => ?_⟩
    · simp only [evE] at e
      exact PE.go (pe_one (tE_pe X y)) fun _ => ia _ c env h _ _ e G H σ s re _ (p.imp fun _ _ q _ => q)
    · have e' : asBl (evE Φ a env h) = .ok b h' := by simpa only [evE] using e
      cases o with
      | true => exact PW.go (pw_and1 (tT_pt X y)) fun _ => ta _ c env h _ _ e' G H σ s re _ fun G1 H1 e1 s1 l1 _ => p G1 H1 e1 s1 l1
      | false => exact PW.go (pw_or1 (tT_pt X y)) fun _ => ta _ c env h _ _ e' G H σ s re _ fun G1 H1 e1 s1 l1 _ => p G1 H1 e1 s1 l1
  · cases c
theorem bo_inv {o : Bool} {a b : E} {env : Env} {h h' : CH} {d : D} (e : evE Φ (.bo o a b) env h = .ok d h') : ∃ x h1, asBl (evE Φ a env h) = .ok x h1 ∧ ((o == x) = true ∧ evE Φ b env h1 = .ok d h' ∨ (o == x) = false ∧ d = .bl x ∧ h' = h1) := by
  simp only [evE] at e
  obtain ⟨x, h1, ea, e⟩ := R.bnd_inv e
  refine ⟨x, h1, ea, ?_⟩
  cases q : (o == x) with
  | true => rw [q] at e; exact .inl ⟨rfl, e⟩
  | false => rw [q] at e; cases e; exact .inr ⟨rfl, rfl, rfl⟩
theorem se_bo {sc : Scope} {o : Bool} {a b : E} {x : Expr} (ia : ∀ x, chkE L X.N sc a x = true → SE X CL Φ a x) (ta : ∀ x, chkE L X.N sc a x = true → ST X CL Φ a x) (ib : ∀ x, chkE L X.N sc b x = true → SE X CL Φ b x) (wb : isBo b = true → ∀ x, chkE L X.N sc b x = true → SW X CL Φ b x) (hb : isBo b = true)
    (c : chkE L X.N sc (.bo o a b) x = true) : SE X CL Φ (.bo o a b) x ∧ SW X CL Φ (.bo o a b) x := by
  simp only [chkE] at c
  split at c
  · rename_i op y z r pos
    simp only [Bool.and_eq_true, decide_eq_true_eq] at c
    obtain ⟨rfl, c1, c2⟩ := c
    refine ⟨fun env h h' d e G H σ s re Q p => ?_, fun env h h' bb e G H σ s re Q p => ?_⟩
    · obtain ⟨xv, h1, ea, q⟩ := bo_inv e
      cases o with
      | true =>
        refine PE.go (pe_and (tE_pe X y) (tE_pe X _)) fun _ => ia _ c1 env h _ _ (asBl_inv ea) G H σ s re _ fun G1 H1 v e1 s1 r1 l1 => ?_
        cases r1
        refine ⟨xv, rfl, ?_⟩
        rcases q with ⟨q, eb⟩ | ⟨q, rfl, rfl⟩
        · have : xv = true := by simpa using q
          subst this
          rw [if_pos rfl]
          exact ib _ c2 env h1 _ _ eb G1 H1 σ s1 (re.ev s e1) _ ((p.from e1).imp fun _ _ q _ => q)
        · have : xv = false := by simpa using q
          subst this
          rw [if_neg (by simp)]
          exact fun _ => p G1 H1 _ e1 s1 (.bl _) l1
      | false =>
        refine PE.go (pe_or (tE_pe X y) (tE_pe X _)) fun _ => ia _ c1 env h _ _ (asBl_inv ea) G H σ s re _ fun G1 H1 v e1 s1 r1 l1 => ?_
        cases r1
        refine ⟨xv, rfl, ?_⟩
        rcases q with ⟨q, eb⟩ | ⟨q, rfl, rfl⟩
        · have : xv = false := by simpa using q
          subst this
          rw [if_neg (by simp)]
          exact ib _ c2 env h1 _ _ eb G1 H1 σ s1 (re.ev s e1) _ ((p.from e1).imp fun _ _ q _ => q)
        · have : xv = true := by simpa using q
          subst this
          rw [if_pos rfl]
          exact fun _ => p G1 H1 _ e1 s1 (.bl _) l1
    · replace e := asBl_inv e
      obtain ⟨xv, h1, ea, q⟩ := bo_inv e
      cases o with
      | true =>
        refine PW.go (pw_and (tT_pt X y) (tW_pw X _)) fun _ => ta _ c1 env h _ _ ea G H σ s re _ fun G1 H1 e1 s1 l1 => ?_
        rcases q with ⟨q, eb⟩ | ⟨q, q2, rfl⟩
        · have : xv = true := by simpa using q
          subst this
          rw [if_pos rfl]
          exact wb hb _ c2 env h1 _ _ (by rw [eb]; rfl) G1 H1 σ s1 (re.ev s e1) _ fun G2 H2 e2 s2 l2 _ => p G2 H2 (e1.trans e2) s2 l2
        · have : xv = false := by simpa using q
          subst this
          cases q2
          rw [if_neg (by simp)]
          exact fun _ => p G1 H1 e1 s1 l1
      | false =>
        refine PW.go (pw_or (tT_pt X y) (tW_pw X _)) fun _ => ta _ c1 env h _ _ ea G H σ s re _ fun G1 H1 e1 s1 l1 => ?_
        rcases q with ⟨q, eb⟩ | ⟨q, q2, rfl⟩
        · have : xv = false := by simpa using q
          subst this
          rw [if_neg (by simp)]
          exact wb hb _ c2 env h1 _ _ (by rw [eb]; rfl) G1 H1 σ s1 (re.ev s e1) _ fun G2 H2 e2 s2 l2 _ => p G2 H2 (e1.trans e2) s2 l2
        · have : xv = true := by simpa using q
          subst this
          cases q2
          rw [if_pos rfl]
          exact fun _ => p G1 H1 e1 s1 l1
  · cases c
theorem se_ife {sc : Scope} {t a b : E} {x : Expr} (tt : ∀ x, chkE L X.N sc t x = true → ST X CL Φ t x) (ia : ∀ x, chkE L X.N sc a x = true → SE X CL Φ a x) (ib : ∀ x, chkE L X.N sc b x = true → SE X CL Φ b x) (c : chkE L X.N sc (.ife t a b) x = true) : SE X CL Φ (.ife t a b) x := by
  simp only [chkE] at c
  split at c
  · rename_i y1 y2 y3 pos
    simp only [Bool.and_eq_true] at c
    obtain ⟨c1, c2, c3⟩ := c
    intro env h h' d e G H σ s re Q p
    simp only [evE] at e
    obtain ⟨xv, h1, ea, e⟩ := R.bnd_inv e
    refine PE.go (pe_ifExp (tT_pt X y1) (tE_pe X y2) (tE_pe X y3)) fun _ => tt _ c1 env h _ _ ea G H σ s re _ fun G1 H1 e1 s1 l1 => ?_
    cases xv with
    | true => exact ia _ c2 env h1 _ _ e G1 H1 σ s1 (re.ev s e1) _ ((p.from e1).imp fun _ _ q _ => q)
    | false => exact ib _ c3 env h1 _ _ e G1 H1 σ s1 (re.ev s e1) _ ((p.from e1).imp fun _ _ q _ => q)
  · cases c
/-! ### several -/
theorem ses_nil {sc : Scope} {xs : List Expr} (c : chkEs L X.N sc .nil xs = true) : SEs X CL Φ .nil xs := by
  simp only [chkEs, List.isEmpty_iff] at c
  subst c
  intro env h h' ds e G H σ s re Q p
  simp only [evEs, R.ok.injEq] at e
  obtain ⟨rfl, rfl⟩ := e
  exact PA.go pa_nil fun rl _ => p G H [] (EvR.refl _ _ _) s .nil rl
theorem ses_cons {sc : Scope} {e : E} {es : Es} {xs : List Expr} (ie : ∀ x, chkE L X.N sc e x = true → SE X CL Φ e x) (ies : ∀ x, chkEs L X.N sc es x = true → SEs X CL Φ es x) (c : chkEs L X.N sc (.cons e es) xs = true) : SEs X CL Φ (.cons e es) xs := by
  simp only [chkEs] at c
  split at c
  · rename_i x xs
    simp only [Bool.and_eq_true] at c
    intro env h h' ds q G H σ s re Q p
    simp only [evEs] at q
    obtain ⟨d, h1, ea, q⟩ := R.bnd_inv q
    obtain ⟨ds', h2, eb, q⟩ := R.bnd_inv q
    cases q
    refine PA.go (pa_cons (tE_pe X x) (tA_pa X xs) (chkE_star c.1 xs X.env)) fun _ => ie _ c.1 env h _ _ ea G H σ s re _ fun G1 H1 v e1 s1 r1 l1 => ?_
    refine ies _ c.2 env h1 _ _ eb G1 H1 σ s1 (re.ev s e1) _ fun G2 H2 vs e2 s2 r2 l2 => ?_
    exact fun _ => p G2 H2 _ (e1.trans e2) s2 (.cons (r1.ev s1 e2) r2) l2
  · cases c
theorem evEs_len : ∀ {es : Es} {env : Env} {h h' : CH} {ds : List D}, evEs Φ es env h = .ok ds h' → ds.length = es.len
  | .nil, env, h, h', ds, e => by
    simp only [evEs, R.ok.injEq] at e
    obtain ⟨rfl, _⟩ := e
    rfl
  | .cons a es, env, h, h', ds, e => by
    simp only [evEs] at e
    obtain ⟨d, h1, ea, e⟩ := R.bnd_inv e
    obtain ⟨ds', h2, eb, e⟩ := R.bnd_inv e
    cases e
    rw [List.length_cons, evEs_len eb]; rfl
theorem chkEs_len {N : List Str} {sc : Scope} : ∀ {es : Es} {xs : List Expr}, chkEs L N sc es xs = true → es.len = xs.length
  | .nil, xs, c => by
    simp only [chkEs, List.isEmpty_iff] at c
    subst c; rfl
  | .cons a es, [], c => by simp [chkEs] at c
  | .cons a es, x :: xs, c => by
    simp only [chkEs, Bool.and_eq_true] at c
    rw [List.length_cons, ← chkEs_len c.2]; rfl
theorem se_tup {sc : Scope} {es : Es} {x : Expr} (ies : ∀ x, chkEs L X.N sc es x = true → SEs X CL Φ es x) (c : chkE L X.N sc (.tup es) x = true) : SE X CL Φ (.tup es) x := by
  simp only [chkE] at c
  split at c
  · rename_i xs k' pos
    rw [Bool.and_eq_true] at c
    have hl := Nat.le_of_ble_eq_true c.1
    replace c := c.2
    intro env h h' d e G H σ s re Q p
    simp only [evE] at e
    obtain ⟨ds, h1, ea, e⟩ := R.bnd_inv e
    cases e
    refine PE.go (pe_tup (tA_pa X xs)) fun _ => ies _ c env h _ _ ea G H σ s re _ fun G1 H1 vs e1 s1 r1 l1 => ?_
    refine ⟨?_, fun a na rl => newT_ok s1 r1 (p.from e1) a na rl⟩
    rw [← r1.length, evEs_len ea]
    exact SZ_line (Nat.le_trans hl (by decide))
  · cases c
theorem se_lst {sc : Scope} {m : Bool} {es : Es} {x : Expr} (ies : ∀ x, chkEs L X.N sc es x = true → SEs X CL Φ es x) (c : chkE L X.N sc (.lst m es) x = true) : SE X CL Φ (.lst m es) x := by
  simp only [chkE] at c
  split at c
  · rename_i xs pos
    rw [Bool.and_eq_true] at c
    have hl := Nat.le_of_ble_eq_true c.1
    replace c := c.2
    intro env h h' d e G H σ s re Q p
    simp only [evE] at e
    obtain ⟨ds, h1, ea, e⟩ := R.bnd_inv e
    refine PE.go (pe_lst (tA_pa X xs)) fun _ => ies _ c env h _ _ ea G H σ s re _ fun G1 H1 vs e1 s1 r1 l1 => ?_
    refine ⟨?_, fun a na rl => newL_ok s1 e r1 (p.from e1) a na rl⟩
    rw [← r1.length, evEs_len ea]
    exact SZ_line (Nat.le_trans hl (by decide))
  · cases c
theorem se_ix {sc : Scope} {a i : E} {x : Expr} (ia : ∀ x, chkE L X.N sc a x = true → SE X CL Φ a x) (ii : ∀ x, chkE L X.N sc i x = true → SE X CL Φ i x) (c : chkE L X.N sc (.ix a i) x = true) : SE X CL Φ (.ix a i) x := by
  simp only [chkE] at c
  split at c
  · cases c
  · rename_i y z pos ns
    simp only [Bool.and_eq_true] at c
    intro env h h' d e G H σ s re Q p
    simp only [evE] at e
    obtain ⟨da, h1, ea, e⟩ := R.bnd_inv e
    obtain ⟨di, h2, ei, e⟩ := R.bnd_inv e
    have hs : PlainIx z := by
      intro o i
      cases z <;> first | rfl | exact absurd rfl (ns _ _ _ _)
    refine PE.go (pe_ix ix_seq (tE_pe X y) (tE_pe X z) hs) fun _ => ia _ c.1 env h _ _ ea G H σ s re _ fun G1 H1 v e1 s1 r1 l1 => ?_
    refine ii _ c.2 env h1 _ _ ei G1 H1 σ s1 (re.ev s e1) _ fun G2 H2 w e2 s2 r2 l2 => ?_
    unfold ixV at e
    split at e
    · rename_i ds kk e3
      split at e
      · rename_i d' e4
        cases e
        obtain ⟨p', vs, rfl, hq, rv⟩ := items_ok s2 e3 (r1.ev s1 e2)
        cases r2
        have at_ : ∃ v, atI vs kk = some v ∧ RV X.K CL h'.length G2 H2 d v := by
          have l := rv.length
          unfold ixD at e4
          unfold atI ixN
          by_cases h0 : 0 ≤ kk
          · rw [if_pos h0] at e4 ⊢
            obtain ⟨v, a1, a2⟩ := rv.get e4
            have lt := lt_of_get e4
            rw [if_pos (by omega)]
            exact ⟨v, a1, a2⟩
          · rw [if_neg h0] at e4 ⊢
            by_cases h3 : -(ds.length : Int) ≤ kk
            · rw [if_pos h3] at e4
              obtain ⟨v, a1, a2⟩ := rv.get e4
              rw [if_pos (by omega)]
              refine ⟨v, ?_, a2⟩
              show vs[(kk + vs.length).toNat]? = some v
              rw [← l]
              exact a1
            · rw [if_neg h3] at e4; cases e4
        obtain ⟨v, a1, a2⟩ := at_
        rcases hq with hq | hq
        · exact .inl ⟨_, vs, kk, v, rfl, rfl, hq, a1, fun _ => p G2 H2 v (e1.trans e2) s2 a2 l2⟩
        · exact .inr (.inl ⟨_, vs, kk, v, rfl, rfl, hq, a1, fun _ => p G2 H2 v (e1.trans e2) s2 a2 l2⟩)
      · cases e
    · cases e
  · cases c
end
end Z

/-! calls of built-ins, methods, slices -/
namespace Z
open PySem PySem.Spec L2
section
variable {L : LI} {X : Cx} {CL : Nat → Option Addr} {Φ : FS} {k : Nat}
/-- sum of a tuple of ints -/
theorem cr_sumT (hc : X.calm = true) : CallR X (.builtin "sum") (fun vs H Q => ∃ (a : Addr) (ns : List Int), vs = [V.ref a] ∧ SqT X.K H a (ns.map V.int) ∧ Q (.int ns.sum) H) := by
  intro pins s σ H vs us Q I r q
  obtain ⟨a, ns, rfl, ht, q⟩ := q
  obtain ⟨its, rv, tup, _⟩ := I.tuple ht
  rw [Vals.ref1 r]
  obtain ⟨xs, ex⟩ := rv.ints.allInts.items
  have en : numsOf (intItems xs).toList = ns := by rw [← ex]; exact rv.ints.numsOf
  rw [nums_intItems] at en
  rw [ex] at tup
  refine PySem.W.ktm_sumG (I.ok.hd hc) tup fun h' tk t' keep => ?_
  have es : PySem.preSum (PySem.numAt xs) xs.size = ns.sum := by
    rw [PySem.preSum_eq, List.take_of_length_le (by simp), en]
  rw [es]
  exact ⟨.int ns.sum, H, I.kept keep, ⟨_, rfl⟩, q⟩
/-- a call by values -/
def OkCall (X : Cx) (CL : Nat → Option Addr) (f : Value) (vs : List D) (h : CH) (d : D) (h' : CH) : Prop :=
  ∃ r : List V → Hp → VK → Prop, CallR X f r ∧ ∀ (G : Gh) (H : Hp) (xs : List V), SR X.K CL G h H → RVs X.K CL h.length G H vs xs → Rl X H → ∀ Q : VK, Pst X CL G h H d h' Q → r xs H fun v H' => Rl X H' → Q v H'
theorem minL_mem : ∀ (x : Int) (r : List Int), minL (x :: r) ∈ x :: r ∧ ∀ y ∈ x :: r, minL (x :: r) ≤ y
  | x, [] => by simp [minL]
  | x, y :: r => by
    obtain ⟨a, b⟩ := minL_mem y r
    refine ⟨?_, fun z hz => ?_⟩
    · simp only [minL]
      by_cases h : x ≤ minL (y :: r)
      · rw [Int.min_eq_left h]; exact List.mem_cons_self
      · rw [Int.min_eq_right (by omega)]; exact List.mem_cons_of_mem _ a
    · simp only [minL]
      rcases List.mem_cons.mp hz with rfl | hz
      · exact Int.min_le_left _ _
      · exact Int.le_trans (Int.min_le_right _ _) (b z hz)
theorem maxL_mem : ∀ (x : Int) (r : List Int), maxL (x :: r) ∈ x :: r ∧ ∀ y ∈ x :: r, y ≤ maxL (x :: r)
  | x, [] => by simp [maxL]
  | x, y :: r => by
    obtain ⟨a, b⟩ := maxL_mem y r
    refine ⟨?_, fun z hz => ?_⟩
    · simp only [maxL]
      by_cases h : minL (y :: r) ≤ x ∧ maxL (y :: r) ≤ x
      · rw [Int.max_eq_left h.2]; exact List.mem_cons_self
      · by_cases h2 : maxL (y :: r) ≤ x
        · rw [Int.max_eq_left h2]; exact List.mem_cons_self
        · rw [Int.max_eq_right (by omega)]; exact List.mem_cons_of_mem _ a
    · simp only [maxL]
      rcases List.mem_cons.mp hz with rfl | hz
      · exact Int.le_max_left _ _
      · exact Int.le_trans (b z hz) (Int.le_max_right _ _)
theorem insS_perm (x : Int) : ∀ r : List Int, (insS x r).Perm (x :: r)
  | [] => List.Perm.refl _
  | y :: r => by
    unfold insS
    split
    · exact List.Perm.refl _
    · exact ((insS_perm x r).cons y).trans (List.Perm.swap x y r)
theorem sortL_perm : ∀ r : List Int, (sortL r).Perm r
  | [] => List.Perm.refl _
  | x :: r => (insS_perm x _).trans ((sortL_perm r).cons x)
theorem insS_sorted (x : Int) : ∀ {r : List Int}, r.Pairwise (· ≤ ·) → (insS x r).Pairwise (· ≤ ·)
  | [], _ => by simp [insS]
  | y :: r, h => by
    unfold insS
    split
    · rename_i hx
      refine List.Pairwise.cons (fun z hz => ?_) h
      rcases List.mem_cons.mp hz with rfl | hz
      · exact hx
      · exact Int.le_trans hx (List.rel_of_pairwise_cons h hz)
    · rename_i hx
      refine List.Pairwise.cons (fun z hz => ?_) (insS_sorted x h.of_cons)
      rcases List.mem_cons.mp ((insS_perm x r).mem_iff.mp hz) with rfl | hz
      · omega
      · exact List.rel_of_pairwise_cons h hz
theorem sortL_sorted : ∀ r : List Int, (sortL r).Pairwise (· ≤ ·)
  | [] => List.Pairwise.nil
  | x :: r => insS_sorted x (sortL_sorted r)
theorem sorted_uniq {a b : List Int} (p : a.Perm b) (ha : a.Pairwise (· ≤ ·)) (hb : b.Pairwise (· ≤ ·)) : a = b := p.eq_of_pairwise (fun x y _ _ h1 h2 => Int.le_antisymm h1 h2) ha hb
theorem one_inv {x : D} {N : Nat} {G : Gh} {H : Hp} {xs : List V} (r : RVs X.K CL N G H [x] xs) : ∃ v, xs = [v] ∧ RV X.K CL N G H x v := by
  cases r with
  | cons a b => cases b; exact ⟨_, rfl, a⟩
theorem two_inv {x y : D} {N : Nat} {G : Gh} {H : Hp} {xs : List V} (r : RVs X.K CL N G H [x, y] xs) : ∃ v w, xs = [v, w] ∧ RV X.K CL N G H x v ∧ RV X.K CL N G H y w := by
  cases r with
  | cons a b => obtain ⟨w, rfl, c⟩ := one_inv b; exact ⟨_, w, rfl, a, c⟩
theorem one1_inv {vs : List D} {g : D → R D} {d : D} {h' : CH} (e : one1 vs g = .ok d h') : ∃ x, vs = [x] ∧ g x = .ok d h' := by
  unfold one1 at e
  split at e
  · exact ⟨_, rfl, e⟩
  · cases e
theorem two2_inv {vs : List D} {g : D → D → R D} {d : D} {h' : CH} (e : two2 vs g = .ok d h') : ∃ x y, vs = [x, y] ∧ g x y = .ok d h' := by
  unfold two2 at e
  split at e
  · exact ⟨_, _, rfl, e⟩
  · cases e
theorem intsIn_inv {x : D} {h : CH} {g : List Int → R D} {d : D} {h' : CH} (e : intsIn h x g = .ok d h') : ∃ ds ns, items h x = some ds ∧ intsOf ds = some ns ∧ g ns = .ok d h' := by
  unfold intsIn at e
  split at e
  · rename_i ds e1
    split at e
    · rename_i ns e2; exact ⟨ds, ns, e1, e2, e⟩
    · cases e
  · cases e
theorem intsL_inv {x : D} {h : CH} {g : List Int → R D} {d : D} {h' : CH} (e : intsL h x g = .ok d h') : ∃ ds ns, lstOf h x = some ds ∧ intsOf ds = some ns ∧ g ns = .ok d h' := by
  unfold intsL at e
  split at e
  · rename_i ds e1
    split at e
    · rename_i ns e2; exact ⟨ds, ns, e1, e2, e⟩
    · cases e
  · cases e
theorem blsL_inv {x : D} {h : CH} {g : List Bool → R D} {d : D} {h' : CH} (e : blsL h x g = .ok d h') : ∃ ds ns, lstOf h x = some ds ∧ blsOf ds = some ns ∧ g ns = .ok d h' := by
  unfold blsL at e
  split at e
  · rename_i ds e1
    split at e
    · rename_i ns e2; exact ⟨ds, ns, e1, e2, e⟩
    · cases e
  · cases e
/-- the built-in, as a value -/
def Bi.val : Bi → Value
  | .len => .builtin "len"
  | .sum => .builtin "sum"
  | .min => .builtin "min"
  | .max => .builtin "max"
  | .min2 => .builtin "min"
  | .max2 => .builtin "max"
  | .min3 => .builtin "min"
  | .abs => .builtin "abs"
  | .int => .type "int"
  | .list => .type "list"
  | .tuple => .type "tuple"
  | .sorted => .builtin "sorted"
  | .any => .builtin "any"
  | .all => .builtin "all"
theorem bi_ok (xc : XC L CL Φ k X) {f : Bi} {m : Bool} {vs : List D} {d : D} {h h' : CH} (e : biD f m vs h = .ok d h') : OkCall X CL f.val vs h d h' := by
  cases f with
  | len =>
    obtain ⟨x, rfl, e0⟩ := one1_inv e
    replace e := e0
    split at e
    · rename_i ds e1
      cases e
      refine ⟨_, call_len_seq, fun G H xs s r rl Q p => ?_⟩
      obtain ⟨v, rfl, rv⟩ := one_inv r
      obtain ⟨a, ws, rfl, hq, ra⟩ := items_ok s e1 rv
      refine ⟨a, ws, rfl, hq, fun _ => ?_⟩
      rw [← ra.length]
      exact p.here s (.int _) rl
    · cases e
  | sum =>
    obtain ⟨x, rfl, e0⟩ := one1_inv e
    replace e := e0
    obtain ⟨ds, ns, e1, e2, e⟩ := intsIn_inv e
    cases e
    refine ⟨_, L2.CallR.or (cr_sum xc.calm) (cr_sumT xc.calm), fun G H xs s r rl Q p => ?_⟩
    obtain ⟨v, rfl, rv⟩ := one_inv r
    obtain ⟨a, ws, rfl, hq, ra⟩ := items_ok s e1 rv
    have ew := ra.ints e2
    subst ew
    rcases hq with hq | hq
    · exact .inl ⟨a, ns, rfl, hq, fun _ => p.here s (.int _) rl⟩
    · exact .inr ⟨a, ns, rfl, hq, fun _ => p.here s (.int _) rl⟩
  | min =>
    obtain ⟨x, rfl, e0⟩ := one1_inv e
    replace e := e0
    obtain ⟨ds, ns, e1, e2, e⟩ := intsL_inv e
    split at e
    · cases e
    · rename_i n ns
      cases e
      refine ⟨_, cr_min xc.calm, fun G H xs s r rl Q p => ?_⟩
      obtain ⟨v, rfl, rv⟩ := one_inv r
      obtain ⟨a, ws, rfl, ha, ra⟩ := lst_ok s e1 rv
      have ew := ra.ints e2
      subst ew
      refine ⟨a, _, rfl, SqL.of ha, by simp, fun mm h1 h2 _ => ?_⟩
      obtain ⟨m1, m2⟩ := minL_mem n ns
      have em : mm = minL (n :: ns) := Int.le_antisymm (h2 _ m1) (m2 _ h1)
      subst em
      exact p.here s (.int _) rl
  | max =>
    obtain ⟨x, rfl, e0⟩ := one1_inv e
    replace e := e0
    obtain ⟨ds, ns, e1, e2, e⟩ := intsL_inv e
    split at e
    · cases e
    · rename_i n ns
      cases e
      refine ⟨_, cr_max xc.calm, fun G H xs s r rl Q p => ?_⟩
      obtain ⟨v, rfl, rv⟩ := one_inv r
      obtain ⟨a, ws, rfl, ha, ra⟩ := lst_ok s e1 rv
      have ew := ra.ints e2
      subst ew
      refine ⟨a, _, rfl, SqL.of ha, by simp, fun mm h1 h2 _ => ?_⟩
      obtain ⟨m1, m2⟩ := maxL_mem n ns
      have em : mm = maxL (n :: ns) := Int.le_antisymm (m2 _ h1) (h2 _ m1)
      subst em
      exact p.here s (.int _) rl
  | min2 =>
    obtain ⟨x, y, rfl, e0⟩ := two2_inv e
    replace e := e0
    split at e
    · cases e
      refine ⟨_, call_min2 xc.calm, fun G H xs s r rl Q p => ?_⟩
      obtain ⟨v, w, rfl, rv, rw⟩ := two_inv r
      cases rv
      cases rw
      exact ⟨_, _, rfl, fun _ => p.here s (.int _) rl⟩
    · cases e
  | max2 =>
    obtain ⟨x, y, rfl, e0⟩ := two2_inv e
    replace e := e0
    split at e
    · cases e
      refine ⟨_, call_max2 xc.calm, fun G H xs s r rl Q p => ?_⟩
      obtain ⟨v, w, rfl, rv, rw⟩ := two_inv r
      cases rv
      cases rw
      exact ⟨_, _, rfl, fun _ => p.here s (.int _) rl⟩
    · cases e
  | min3 => cases e
  | abs =>
    obtain ⟨x, rfl, e0⟩ := one1_inv e
    replace e := e0
    split at e
    · cases e
      refine ⟨_, call_abs, fun G H xs s r rl Q p => ?_⟩
      obtain ⟨v, rfl, rv⟩ := one_inv r
      cases rv
      exact ⟨_, rfl, fun _ => p.here s (.int _) rl⟩
    · cases e
  | int =>
    obtain ⟨x, rfl, e0⟩ := one1_inv e
    replace e := e0
    split at e
    · cases e
      refine ⟨_, call_int1, fun G H xs s r rl Q p => ?_⟩
      obtain ⟨v, rfl, rv⟩ := one_inv r
      cases rv
      exact .inl ⟨_, rfl, fun _ => p.here s (.int _) rl⟩
    · cases e
      refine ⟨_, call_int1, fun G H xs s r rl Q p => ?_⟩
      obtain ⟨v, rfl, rv⟩ := one_inv r
      cases rv
      exact .inr ⟨_, rfl, fun _ => p.here s (.int _) rl⟩
    · cases e
  | list =>
    obtain ⟨x, rfl, e0⟩ := one1_inv e
    replace e := e0
    split at e
    · rename_i ds e1
      refine ⟨_, call_list_of, fun G H xs s r rl Q p => ?_⟩
      obtain ⟨v, rfl, rv⟩ := one_inv r
      obtain ⟨a, ws, rfl, hq, ra⟩ := items_ok s e1 rv
      exact ⟨a, ws, rfl, hq, fun l nl rl' => newL_ok s e ra p l nl rl'⟩
    · cases e
  | tuple =>
    obtain ⟨x, rfl, e0⟩ := one1_inv e
    replace e := e0
    split at e
    · rename_i ds e1
      cases e
      refine ⟨_, call_tuple_of, fun G H xs s r rl Q p => ?_⟩
      obtain ⟨v, rfl, rv⟩ := one_inv r
      obtain ⟨a, ws, rfl, hq, ra⟩ := items_ok s e1 rv
      rcases hq with hq | hq
      · exact ⟨a, ws, rfl, .inl ⟨hq, fun l nl rl' => newT_ok s ra p l nl rl'⟩⟩
      · exact ⟨a, ws, rfl, .inr ⟨hq, fun _ => p.here s (.tup hq ra) rl⟩⟩
    · cases e
  | sorted =>
    obtain ⟨x, rfl, e0⟩ := one1_inv e
    replace e := e0
    obtain ⟨ds, ns, e1, e2, e⟩ := intsL_inv e
    refine ⟨_, cr_sortedI, fun G H xs s r rl Q p => ?_⟩
    obtain ⟨v, rfl, rv⟩ := one_inv r
    obtain ⟨a, ws, rfl, ha, ra⟩ := lst_ok s e1 rv
    have ew := ra.ints e2
    subst ew
    refine ⟨a, ns, rfl, SqL.of ha, fun ns' l pm sd nl rl' => ?_⟩
    have en : ns' = sortL ns := sorted_uniq (pm.trans (sortL_perm ns).symm) sd (sortL_sorted ns)
    subst en
    exact newL_ok s e (RVs.ofInts _) p l nl rl'
  | any =>
    obtain ⟨x, rfl, e0⟩ := one1_inv e
    replace e := e0
    obtain ⟨ds, ns, e1, e2, e⟩ := blsL_inv e
    cases e
    refine ⟨_, cr_any xc.calm, fun G H xs s r rl Q p => ?_⟩
    obtain ⟨v, rfl, rv⟩ := one_inv r
    obtain ⟨a, ws, rfl, ha, ra⟩ := lst_ok s e1 rv
    have ew := ra.bls e2
    subst ew
    exact ⟨a, ns, rfl, SqL.of ha, fun _ => p.here s (.bl _) rl⟩
  | all =>
    obtain ⟨x, rfl, e0⟩ := one1_inv e
    replace e := e0
    obtain ⟨ds, ns, e1, e2, e⟩ := blsL_inv e
    cases e
    refine ⟨_, cr_all xc.calm, fun G H xs s r rl Q p => ?_⟩
    obtain ⟨v, rfl, rv⟩ := one_inv r
    obtain ⟨a, ws, rfl, ha, ra⟩ := lst_ok s e1 rv
    have ew := ra.bls e2
    subst ew
    exact ⟨a, ns, rfl, SqL.of ha, fun _ => p.here s (.bl _) rl⟩
theorem gl_ok {sc : Scope} {g : Str} (hs : X.env.scope = sc) (c : glB sc g = true) : Gl X g := by
  unfold glB at c
  unfold Gl
  show X.env.scope.names.lookup g = _
  rw [hs]
  exact of_decide_eq_true c
theorem backTo_plain {pos : Pos} : ∀ {es : Es} {xs : List Expr} {N : List Str} {sc : Scope} {env : PySem.Env}, chkEs L N sc es xs = true → (backTo pos (starEach xs env)).any (·.1) = false
  | .nil, xs, _, _, _, c => by
    simp only [chkEs, List.isEmpty_iff] at c
    subst c; rfl
  | .cons e es, [], _, _, _, c => by simp [chkEs] at c
  | .cons e es, x :: xs, N, sc, env, c => by
    simp only [chkEs, Bool.and_eq_true] at c
    rw [chkE_star c.1]
    show (false || (backTo pos (starEach xs env)).any (·.1)) = false
    rw [backTo_plain c.2]; rfl
theorem args_star {es : Es} {y : Expr} {ys : List Expr} {N : List Str} {sc : Scope} (c : chkEs L N sc es (y :: ys) = true) (env : PySem.Env) (pos : Pos) : starEach (y :: ys) env = (false, eval y env) :: starEach ys env ∧ (backTo pos (starEach ys env)).any (·.1) = false := by
  cases es with
  | nil => simp [chkEs] at c
  | cons e es =>
    simp only [chkEs, Bool.and_eq_true] at c
    exact ⟨chkE_star c.1 ys env, backTo_plain c.2⟩
theorem se_bi (xc : XC L CL Φ k X) {sc : Scope} (hs : X.env.scope = sc) {f : Bi} {m : Bool} {es : Es} {x : Expr} (ies : ∀ x, chkEs L X.N sc es x = true → SEs X CL Φ es x) (c : chkE L X.N sc (.bi f m es) x = true) : SE X CL Φ (.bi f m es) x := by
  simp only [chkE] at c
  split at c
  · rename_i g gp y ys pos
    simp only [Bool.and_eq_true, decide_eq_true_eq] at c
    obtain ⟨rfl, c1, c2, c3, c4⟩ := c
    intro env h h' d e G H σ s re Q p
    simp only [evE] at e
    obtain ⟨ds, h1, ea, e⟩ := R.bnd_inv e
    obtain ⟨r, hr, go⟩ := bi_ok (X := X) (CL := CL) xc e
    obtain ⟨st1, st2⟩ := args_star c4 X.env pos
    have hm := xc.bi _ c3
    have gl := gl_ok hs c2
    have fin : tCB r (tA X (y :: ys)) σ H fun v H' => Rl X H' → Q v H' :=
      ies _ c4 env h _ _ ea G H σ s re _ fun G1 H1 vs e1 s1 r1 l1 => go G1 H1 vs s1 r1 l1 Q (p.from e1)
    cases f with
    | len => exact PE.go (pe_callB hr gl hm PySem.boot_len (tA_pa X _) (by decide) (by decide) st1 st2) fun _ => fin
    | sum => exact PE.go (pe_callB hr gl hm PyProof.Rows.boot_sum (tA_pa X _) (by decide) (by decide) st1 st2) fun _ => fin
    | min => exact PE.go (pe_callB hr gl hm PyProof.Rows.boot_min (tA_pa X _) (by decide) (by decide) st1 st2) fun _ => fin
    | max => exact PE.go (pe_callB hr gl hm PyProof.Rows.boot_max (tA_pa X _) (by decide) (by decide) st1 st2) fun _ => fin
    | min2 => exact PE.go (pe_callB hr gl hm PyProof.Rows.boot_min (tA_pa X _) (by decide) (by decide) st1 st2) fun _ => fin
    | max2 => exact PE.go (pe_callB hr gl hm PyProof.Rows.boot_max (tA_pa X _) (by decide) (by decide) st1 st2) fun _ => fin
    | min3 => cases e
    | abs => exact PE.go (pe_callB hr gl hm PyProof.Rows.boot_abs (tA_pa X _) (by decide) (by decide) st1 st2) fun _ => fin
    | int => exact PE.go (pe_callTy hr gl hm PyProof.Rows.boot_int (tA_pa X _) (by decide) (by decide) st1 st2) fun _ => fin
    | list => exact PE.go (pe_callTy hr gl hm PyProof.Rows.boot_list (tA_pa X _) (by decide) (by decide) st1 st2) fun _ => fin
    | tuple => exact PE.go (pe_callTy hr gl hm PyProof.Rows.boot_tuple (tA_pa X _) (by decide) (by decide) st1 st2) fun _ => fin
    | sorted => exact PE.go (pe_callB hr gl hm PyProof.Rows.boot_sorted (tA_pa X _) (by decide) (by decide) st1 st2) fun _ => fin
    | any => exact PE.go (pe_callB hr gl hm PyProof.Rows.boot_any (tA_pa X _) (by decide) (by decide) st1 st2) fun _ => fin
    | all => exact PE.go (pe_callB hr gl hm PyProof.Rows.boot_all (tA_pa X _) (by decide) (by decide) st1 st2) fun _ => fin
  · cases c
end
end Z

/-! methods of lists, isinstance, slices -/
namespace Z
open PySem PySem.Spec L2
section
variable {L : LI} {X : Cx} {CL : Nat → Option Addr} {Φ : FS} {k : Nat}
/-- a method by values -/
def OkMth (X : Cx) (CL : Nat → Option Addr) (id : String) (x : D) (vs : List D) (h : CH) (d : D) (h' : CH) : Prop :=
  ∃ r : V → List V → Hp → VK → Prop, MtR X id r ∧ ∀ (G : Gh) (H : Hp) (v : V) (xs : List V), SR X.K CL G h H → RV X.K CL h.length G H x v → RVs X.K CL h.length G H vs xs → Rl X H → ∀ Q : VK, Pst X CL G h H d h' Q → r v xs H fun v H' => Rl X H' → Q v H'
theorem onCell_inv {x : D} {h : CH} {g : Nat → List D → R D} {d : D} {h' : CH} (e : onCell x h g = .ok d h') : ∃ n ds, x = .cell n ∧ h[n]? = some (.lst ds) ∧ g n ds = .ok d h' := by
  unfold onCell at e
  split at e
  · rename_i n
    split at e
    · rename_i ds q; exact ⟨n, ds, rfl, q, e⟩
    · cases e
  · cases e
theorem cell_at {G : Gh} {h : CH} {H : Hp} {n : Nat} {ds : List D} {v : V} (s : SR X.K CL G h H) (q : h[n]? = some (.lst ds)) (r : RV X.K CL h.length G H (.cell n) v) : v = .ref (G.φ n) ∧ ∃ vs, H (G.φ n) = some (.lst vs) ∧ RVs X.K CL h.length G H ds vs := by
  cases r with
  | cell l =>
    obtain ⟨_, vs, a, b⟩ := s.cell n _ q
    exact ⟨rfl, vs, a, b⟩
/-- a store into a list that is a cell -/
theorem store_lst {G : Gh} {h : CH} {H : Hp} {n : Nat} {ds es : List D} {ws : List V} (s : SR X.K CL G h H) (q : h[n]? = some (.lst ds)) (r : RVs X.K CL h.length G H es ws) :
    SR X.K CL G (h.set n (.lst es)) (upd H (G.φ n) (.lst ws)) ∧ EvR G h H G (h.set n (.lst es)) (upd H (G.φ n) (.lst ws)) :=
  s.setCell q rfl rfl fun H' _ e nf k1 _ => ⟨nf, ws, e, k1 r⟩
theorem set_len {h : CH} {n : Nat} {c : Cell} : (h.set n c).length = h.length := by simp
theorem findD_ok {N : Nat} {G : Gh} {H : Hp} {y : D} {w : V} (fy : flatD y = true) (ry : RV X.K CL N G H y w) : ∀ {ds : List D} {vs : List V} {j : Nat}, ds.all flatD = true → RVs X.K CL N G H ds vs → findD y ds = some j → ∃ z, vs[j]? = some z ∧ eqV z w = true ∧ ∀ (m : Nat) (z' : V), m < j → vs[m]? = some z' → eqV z' w = false
  | [], _, _, _, _, e => by simp [findD] at e
  | d :: ds, _, j, f, .cons a b, e => by
    rw [List.all_cons, Bool.and_eq_true] at f
    unfold findD at e
    have q := eqF_ok f.1 fy a ry
    split at e
    · rename_i ht
      cases e
      exact ⟨_, rfl, by rw [q]; exact ht, fun m z' hm => absurd hm (Nat.not_lt_zero _)⟩
    · rename_i hn
      simp only [Option.map_eq_some_iff] at e
      obtain ⟨i, e1, rfl⟩ := e
      obtain ⟨z, z1, z2, z3⟩ := findD_ok fy ry f.2 b e1
      refine ⟨z, z1, z2, fun m z' hm hz => ?_⟩
      cases m with
      | zero =>
        simp at hz
        subst hz
        rw [q]
        simpa using hn
      | succ m => exact z3 m z' (by omega) hz
def Mt.id : Mt → String
  | .append => "list.append"
  | .pop => "list.pop"
  | .popAt => "list.pop"
  | .insert => "list.insert"
  | .reverse => "list.reverse"
  | .index => "list.index"
theorem mth_ok {f : Mt} {x : D} {vs : List D} {d : D} {h h' : CH} (e : mthD f x vs h = .ok d h') : OkMth X CL f.id x vs h d h' := by
  cases f with
  | append =>
    obtain ⟨n, ds, rfl, q, e0⟩ := onCell_inv e
    obtain ⟨y, rfl, e1⟩ := one1_inv e0
    split at e1
    · rename_i hl
      cases e1
      refine ⟨rAppend, mt_append, fun G H v xs s rv rs rl Q p => ?_⟩
      obtain ⟨rfl, ws, hH, rw⟩ := cell_at s q rv
      obtain ⟨w, rfl, ry⟩ := one_inv rs
      obtain ⟨s1, e1⟩ := store_lst s q (rw.append (.cons ry .nil))
      refine ⟨_, ws, w, rfl, rfl, hH, by rw [← rw.length]; exact SZ_lt hl, fun rl' => p _ _ _ e1 s1 .non rl'⟩
    · cases e1
  | pop =>
    obtain ⟨n, ds, rfl, q, e0⟩ := onCell_inv e
    split at e0
    · split at e0
      · rename_i y hy
        cases e0
        refine ⟨rPop, mt_pop, fun G H v xs s rv rs rl Q p => ?_⟩
        obtain ⟨rfl, ws, hH, rw⟩ := cell_at s q rv
        cases rs
        obtain ⟨w, hw, ry⟩ := rw.get hy
        obtain ⟨s1, e1⟩ := store_lst s q rw.dropLast
        refine ⟨_, ws, w, rfl, rfl, hH, by rw [← rw.length]; exact hw, fun rl' => p _ _ _ e1 s1 (ry.ev s e1) rl'⟩
      · cases e0
    · cases e0
  | popAt =>
    obtain ⟨n, ds, rfl, q, e0⟩ := onCell_inv e
    obtain ⟨y, rfl, e1⟩ := one1_inv e0
    split at e1
    · rename_i i
      split at e1
      · rename_i hb
        split at e1
        · rename_i y hy
          cases e1
          refine ⟨rPopAt, mt_popAt, fun G H v xs s rv rs rl Q p => ?_⟩
          obtain ⟨rfl, ws, hH, rw⟩ := cell_at s q rv
          obtain ⟨u, rfl, ru⟩ := one_inv rs
          cases ru
          obtain ⟨w, hw, ry⟩ := rw.get hy
          obtain ⟨s1, e1⟩ := store_lst s q (rw.eraseIdx i.toNat)
          have lt := lt_of_get hw
          have hz : i < 1000000 := by have := hb.2; unfold SZ at this; exact this
          have sq : seqIndex? i ws.length = some i.toNat := by
            have ix : ixN ws.length i = some i.toNat := by
              unfold ixN
              rw [if_pos hb.1, if_pos (by omega)]
            exact (ixN_seq ix).1
          exact ⟨_, ws, i, i.toNat, w, rfl, rfl, hH, by omega, by omega, sq, hw, fun rl' => p _ _ _ e1 s1 (ry.ev s e1) rl'⟩
        · cases e1
      · cases e1
    · cases e1
  | insert =>
    obtain ⟨n, ds, rfl, q, e0⟩ := onCell_inv e
    obtain ⟨y0, y, rfl, e1⟩ := two2_inv e0
    split at e1
    · rename_i i
      split at e1
      · rename_i hb
        cases e1
        refine ⟨_, mt_insert, fun G H v xs s rv rs rl Q p => ?_⟩
        obtain ⟨rfl, ws, hH, rw⟩ := cell_at s q rv
        obtain ⟨u, w, rfl, ru, ry⟩ := two_inv rs
        cases ru
        obtain ⟨s1, e1⟩ := store_lst s q (((rw.take i.toNat).append (.cons ry .nil)).append (rw.drop i.toNat))
        have hz : i < 1000000 := by have := hb.2.2; unfold SZ at this; exact this
        exact ⟨_, ws, i, w, rfl, rfl, hH, by rw [← rw.length]; exact SZ_lt hb.1, hb.2.1, by omega, fun rl' => p _ _ _ e1 s1 .non rl'⟩
      · cases e1
    · cases e1
  | reverse =>
    obtain ⟨n, ds, rfl, q, e0⟩ := onCell_inv e
    split at e0
    · cases e0
      refine ⟨rReverse, mt_reverse, fun G H v xs s rv rs rl Q p => ?_⟩
      obtain ⟨rfl, ws, hH, rw⟩ := cell_at s q rv
      cases rs
      obtain ⟨s1, e1⟩ := store_lst s q rw.reverse
      exact ⟨_, ws, rfl, rfl, hH, fun rl' => p _ _ _ e1 s1 .non rl'⟩
    · cases e0
  | index =>
    obtain ⟨y, rfl, e0⟩ := one1_inv e
    split at e0
    · rename_i ds e1
      split at e0
      · rename_i hf
        rw [Bool.and_eq_true] at hf
        split at e0
        · rename_i j e2
          cases e0
          refine ⟨_, mt_index, fun G H v xs s rv rs rl Q p => ?_⟩
          obtain ⟨a, ws, rfl, hq, rw⟩ := lst_ok s e1 rv
          obtain ⟨w, rfl, ry⟩ := one_inv rs
          obtain ⟨z, z1, z2, z3⟩ := findD_ok hf.1 ry hf.2 rw e2
          exact ⟨a, ws, w, j, z, rfl, rfl, SqL.of hq, flat_ok hf.1 ry, flats_ok hf.2 rw, z1, z2, z3, fun _ => p.here s (.int _) rl⟩
        · cases e0
      · cases e0
    · cases e0

/-- the receiver is a list -/
theorem mth_lst {f : Mt} {x : D} {vs : List D} {d : D} {h h' : CH} (e : mthD f x vs h = .ok d h') : ∃ ds, lstOf h x = some ds := by
  cases f with
  | index =>
    obtain ⟨y, rfl, e0⟩ := one1_inv e
    split at e0
    · rename_i ds e1; exact ⟨ds, e1⟩
    · cases e0
  | _ =>
    obtain ⟨n, ds, rfl, q, e0⟩ := onCell_inv e
    exact ⟨ds, by simp [lstOf, q]⟩
theorem base_plain {y : Expr} {m : Str} {env : PySem.Env} (h : (match y with
    | .Call .. => false
    | _ => true) = true) : attributeBase y m env (eval y env) = eval y env := by
  cases y <;> first | rfl | cases h
/-- the receiver's evaluation tells that it is a list (also before the arguments) -/
theorem tyV_lst {N : Nat} {G : Gh} {h : CH} {H : Hp} {x : D} {v : V} {ds : List D} (s : SR X.K CL G h H) (e : lstOf h x = some ds) (r : RV X.K CL h.length G H x v) : tyV X.K "list" v H := by
  obtain ⟨a, vs, rfl, ha, _⟩ := lst_ok s e r
  exact .inl ⟨rfl, vs, SqL.of ha⟩
/-- a list is a list ahead, too -/
def isLst (h : CH) (x : D) : Bool := (lstOf h x).isSome
theorem se_mth {sc : Scope} {f : Mt} {o : E} {es : Es} {x : Expr} (io : ∀ x, chkE L X.N sc o x = true → SE X CL Φ o x) (ies : ∀ x, chkEs L X.N sc es x = true → SEs X CL Φ es x) (c : chkE L X.N sc (.mth o f es) x = true) : SE X CL Φ (.mth o f es) x := by
  simp only [chkE] at c
  split at c
  · rename_i y m ap ys cp
    simp only [Bool.and_eq_true, decide_eq_true_eq] at c
    obtain ⟨rfl, c1, c2, c3, c4, c5⟩ := c
    intro env h h' d e G H σ s re Q p
    simp only [evE] at e
    obtain ⟨dx, h1, ex, e⟩ := R.bnd_inv e
    obtain ⟨ds, h2, ea, e⟩ := R.bnd_inv e
    split at e
    · rename_i hl
      obtain ⟨ls, hl⟩ := Option.isSome_iff_exists.mp hl
      obtain ⟨r, hr, go⟩ := mth_ok (X := X) (CL := CL) e
      have hbase := base_plain (m := f.name) (env := X.env) c5
      cases ys with
      | nil =>
        cases es with
        | cons _ _ => simp [chkEs] at c2
        | nil =>
          simp only [evEs, R.ok.injEq] at ea
          obtain ⟨rfl, rfl⟩ := ea
          have fin : ∀ T, T = "list" → tBM0 X.K T r (tE X y) σ H fun v H' => Rl X H' → Q v H' := fun T hT => by
            subst hT
            exact io _ c1 env h _ _ ex G H σ s re _ fun G1 H1 v e1 s1 r1 l1 => ⟨tyV_lst (N := 0) s1 hl r1, go G1 H1 v [] s1 r1 .nil l1 Q (p.from e1)⟩
          cases f with
          | append => exact PE.go (pe_bm0 PySem.F.plainAttrs_list PySem.F.slot_list_append PySem.F.type_list_append hr (tE_pe X y) hbase c4) fun _ => fin _ rfl
          | pop => exact PE.go (pe_bm0 PySem.F.plainAttrs_list PySem.F.slot_list_pop PySem.F.type_list_pop hr (tE_pe X y) hbase c4) fun _ => fin _ rfl
          | popAt => exact PE.go (pe_bm0 PySem.F.plainAttrs_list PySem.F.slot_list_pop PySem.F.type_list_pop hr (tE_pe X y) hbase c4) fun _ => fin _ rfl
          | insert => exact PE.go (pe_bm0 PySem.F.plainAttrs_list PySem.F.slot_list_insert PySem.F.type_list_insert hr (tE_pe X y) hbase c4) fun _ => fin _ rfl
          | reverse => exact PE.go (pe_bm0 PySem.F.plainAttrs_list PySem.F.slot_list_reverse PySem.F.type_list_reverse hr (tE_pe X y) hbase c4) fun _ => fin _ rfl
          | index => exact PE.go (pe_bm0 PySem.F.plainAttrs_list PySem.F.slot_list_index PySem.F.type_list_index hr (tE_pe X y) hbase c4) fun _ => fin _ rfl
      | cons z zs =>
        obtain ⟨st1, st2⟩ := args_star c2 X.env cp
        have hfew : ((backTo cp (starEach (z :: zs) X.env)).all (fun x => !x.1) && (backToKw cp (keywordEach [] X.env)).all (fun x => x.1.isSome)
            && decide ((z :: zs).length + ([] : List Keyword).length + (if ([] : List Keyword).isEmpty then 0 else 1) < 30)) = true := by
          have a1 : (backTo cp (starEach (z :: zs) X.env)).all (fun x => !x.1) = true := by
            have b := backTo_plain (pos := cp) (env := X.env) c2
            rw [List.any_eq_false] at b
            rw [List.all_eq_true]
            intro w hw
            have := b w hw
            simpa using this
          rw [a1]
          show (true && true && decide (_ < 30)) = true
          rw [Bool.true_and, Bool.true_and, decide_eq_true_eq]
          have : (z :: zs).length ≤ 2 := c3
          show (z :: zs).length + 0 + 0 < 30
          omega
        have fin : ∀ T, T = "list" → tBM X.K T r (tE X y) (tA X (z :: zs)) σ H fun v H' => Rl X H' → Q v H' := fun T hT => by
          subst hT
          refine io _ c1 env h _ _ ex G H σ s re _ fun G1 H1 v e1 s1 r1 l1 => ⟨tyV_lst (N := 0) s1 hl r1, ?_⟩
          refine ies _ c2 env h1 _ _ ea G1 H1 σ s1 (re.ev s e1) _ fun G2 H2 vs e2 s2 r2 l2 => ?_
          exact go G2 H2 v vs s2 (r1.ev s1 e2) r2 l2 Q (p.from (e1.trans e2))
        cases f with
        | append => exact PE.go (pe_bm PySem.F.plainAttrs_list PySem.F.slot_list_append PySem.F.type_list_append hr (tE_pe X y) (tA_pa X _) hbase hfew c4 st1 st2) fun _ => fin _ rfl
        | pop => exact PE.go (pe_bm PySem.F.plainAttrs_list PySem.F.slot_list_pop PySem.F.type_list_pop hr (tE_pe X y) (tA_pa X _) hbase hfew c4 st1 st2) fun _ => fin _ rfl
        | popAt => exact PE.go (pe_bm PySem.F.plainAttrs_list PySem.F.slot_list_pop PySem.F.type_list_pop hr (tE_pe X y) (tA_pa X _) hbase hfew c4 st1 st2) fun _ => fin _ rfl
        | insert => exact PE.go (pe_bm PySem.F.plainAttrs_list PySem.F.slot_list_insert PySem.F.type_list_insert hr (tE_pe X y) (tA_pa X _) hbase hfew c4 st1 st2) fun _ => fin _ rfl
        | reverse => exact PE.go (pe_bm PySem.F.plainAttrs_list PySem.F.slot_list_reverse PySem.F.type_list_reverse hr (tE_pe X y) (tA_pa X _) hbase hfew c4 st1 st2) fun _ => fin _ rfl
        | index => exact PE.go (pe_bm PySem.F.plainAttrs_list PySem.F.slot_list_index PySem.F.type_list_index hr (tE_pe X y) (tA_pa X _) hbase hfew c4 st1 st2) fun _ => fin _ rfl
    · cases e
  · cases c
/-! ### slices -/
/-- a slice's part -/
def tO (X : Cx) (x : Option Expr) : TO := fun σ H Q => ∀ pins s, Inv X pins σ H s → wpAny (model X.prog X.w) X.A (evalPart x X.env) (fun v s' => ∃ o H', Inv X pins σ H' s' ∧ IsPart v o ∧ Q o H') X.xe s
theorem tO_po (X : Cx) (x : Option Expr) : PO X x (tO X x) := ⟨fun pins s σ H Q I h => h pins s I⟩
def SO (X : Cx) (CL : Nat → Option Addr) (Φ : FS) (e : Oe) (x : Option Expr) : Prop := ∀ (env : Env) (h h' : CH) (o : Option Int), evO Φ e env h = .ok o h' → ∀ (G : Gh) (H : Hp) (σ : List (Option V)), SR X.K CL G h H → RE X.K CL h.length G H env σ → ∀ Q : Option Int → Hp → Prop, (∀ G' H', EvR G h H G' h' H' → SR X.K CL G' h' H' → Rl X H' → Q o H') → tO X x σ H Q
theorem PO.go {x : Option Expr} {t : TO} (p : PO X x t) {σ : List (Option V)} {H : Hp} {Q : Option Int → Hp → Prop} (h : Rl X H → t σ H fun v H' => Rl X H' → Q v H') : tO X x σ H Q := fun pins s I =>
  thn (p.run pins s σ H _ I (h (rl_of I))) fun u s' ⟨o, H', I', r, q⟩ => ⟨o, H', I', r, q (rl_of I')⟩
theorem so_none {sc : Scope} {x : Option Expr} (c : chkO L X.N sc .none x = true) : SO X CL Φ .none x := by
  simp only [chkO, Option.isNone_iff_eq_none] at c
  subst c
  intro env h h' o e G H σ s re Q p
  simp only [evO, R.ok.injEq] at e
  obtain ⟨rfl, rfl⟩ := e
  exact PO.go po_none fun rl _ => p G H (EvR.refl _ _ _) s rl
theorem so_some {sc : Scope} {a : E} {x : Option Expr} (ia : ∀ x, chkE L X.N sc a x = true → SE X CL Φ a x) (c : chkO L X.N sc (.some a) x = true) : SO X CL Φ (.some a) x := by
  simp only [chkO] at c
  split at c
  · rename_i y
    intro env h h' o e G H σ s re Q p
    simp only [evO] at e
    obtain ⟨d, h1, ea, e⟩ := R.bnd_inv e
    split at e
    · rename_i i
      cases e
      refine PO.go (po_some (tE_pe X y)) fun _ => ia _ c env h _ _ ea G H σ s re _ fun G1 H1 v e1 s1 r1 l1 => ?_
      cases r1
      exact ⟨i, rfl, fun _ => p G1 H1 e1 s1 l1⟩
    · cases e
  · cases c
theorem RVs.cut {N : Nat} {G : Gh} {H : Hp} {ds : List D} {vs : List V} (r : RVs X.K CL N G H ds vs) (lo hi : Option Int) : RVs X.K CL N G H (sliceD ds lo hi) (cutV vs lo hi) := by
  unfold sliceD cutV
  rw [r.length]
  exact (r.drop _).take _
theorem slc_tup_inv {m : Bool} {dx d : D} {ds : List D} {lo hi : Option Int} {h h' : CH} (e : slcD m (.tup ds) lo hi h = .ok d h') : d = .tup (sliceD ds lo hi) ∧ h' = h := by
  unfold slcD at e
  cases e
  exact ⟨rfl, rfl⟩
theorem whole_cut {vs : List V} {lo hi : Option Int} (h : HT.sIx vs.length 0 lo = 0 ∧ HT.sIx vs.length vs.length hi = vs.length) : cutV vs lo hi = vs := by
  unfold cutV
  rw [h.1, h.2]
  simp
theorem se_slc {sc : Scope} {m : Bool} {a : E} {lo hi : Oe} {x : Expr} (ia : ∀ x, chkE L X.N sc a x = true → SE X CL Φ a x) (il : ∀ x, chkO L X.N sc lo x = true → SO X CL Φ lo x) (ih : ∀ x, chkO L X.N sc hi x = true → SO X CL Φ hi x) (c : chkE L X.N sc (.slc m a lo hi) x = true) : SE X CL Φ (.slc m a lo hi) x := by
  simp only [chkE] at c
  split at c
  · rename_i y l u p2 pos
    simp only [Bool.and_eq_true] at c
    obtain ⟨c1, c2, c3⟩ := c
    intro env h h' d e G H σ s re Q p
    simp only [evE] at e
    obtain ⟨dx, h1, ex, e⟩ := R.bnd_inv e
    obtain ⟨ol, h2, el, e⟩ := R.bnd_inv e
    obtain ⟨ou, h3, eu, e⟩ := R.bnd_inv e
    have mid : ∀ r : V → Option Int → Option Int → Hp → VK → Prop, (∀ G1 H1 v, EvR G h H G1 h3 H1 → SR X.K CL G1 h3 H1 → RV X.K CL h3.length G1 H1 dx v → Rl X H1 → r v ol ou H1 fun v H' => Rl X H' → Q v H') →
        tSl r (tE X y) (tO X l) (tO X u) σ H fun v H' => Rl X H' → Q v H' := fun r go => by
      refine ia _ c1 env h _ _ ex G H σ s re _ fun G1 H1 v e1 s1 r1 l1 => ?_
      refine il _ c2 env h1 _ _ el G1 H1 σ s1 (re.ev s e1) _ fun G2 H2 e2 s2 l2 => ?_
      refine ih _ c3 env h2 _ _ eu G2 H2 σ s2 ((re.ev s e1).ev s1 e2) _ fun G3 H3 e3 s3 l3 => ?_
      exact go G3 H3 v ((e1.trans e2).trans e3) s3 ((r1.ev s1 e2).ev s2 e3) l3
    unfold slcD at e
    split at e
    · rename_i ds
      cases e
      refine PE.go (pe_slice sl_tupA (tE_pe X y) (tO_po X l) (tO_po X u)) fun _ => mid _ fun G1 H1 v e1 s1 r1 l1 => ?_
      cases r1 with
      | tup a1 b1 =>
        refine ⟨_, _, rfl, a1, fun hw _ => ?_, fun _ q nq rl => newT_ok s1 (b1.cut ol ou) (p.from e1) q nq rl⟩
        have rc := b1.cut ol ou
        rw [whole_cut hw] at rc
        exact p G1 H1 _ e1 s1 (.tup a1 rc) l1
    · split at e
      · rename_i ds e0
        refine PE.go (pe_slice sl_list (tE_pe X y) (tO_po X l) (tO_po X u)) fun _ => mid _ fun G1 H1 v e1 s1 r1 l1 => ?_
        obtain ⟨b, vs, rfl, hb, rb⟩ := lst_ok s1 e0 r1
        exact ⟨b, vs, rfl, SqL.of hb, fun q nq rl => newL_ok s1 e (rb.cut ol ou) (p.from e1) q nq rl⟩
      · cases e
  · cases c
theorem se_rev {sc : Scope} {m : Bool} {a : E} {x : Expr} (ia : ∀ x, chkE L X.N sc a x = true → SE X CL Φ a x) (c : chkE L X.N sc (.rev m a) x = true) : SE X CL Φ (.rev m a) x := by
  simp only [chkE] at c
  split at c
  · intro env h h' d e G H σ s re Q p
    simp only [evE] at e
    obtain ⟨dx, h1, ex, e⟩ := R.bnd_inv e
    split at e
    · rename_i ds e0
      refine PE.go (pe_revL (tE_pe X _)) fun _ => ia _ c env h _ _ ex G H σ s re _ fun G1 H1 v e1 s1 r1 l1 => ?_
      obtain ⟨b, vs, rfl, hb, rb⟩ := lst_ok s1 e0 r1
      exact ⟨b, vs, rfl, SqL.of hb, fun q nq rl => newL_ok s1 e rb.reverse (p.from e1) q nq rl⟩
    · cases e
  · cases c
/-! ### isinstance -/
def Ty.s : Ty → String
  | .int => "int"
  | .bool => "bool"
  | .list => "list"
  | .tuple => "tuple"
  | .own _ => "?"
/-- the type as a value -/
def tyD (h : CH) : D → Value
  | .non => .type "NoneType"
  | .bl _ => .type "bool"
  | .int _ => .type "int"
  | .str _ => .type "str"
  | .tup _ => .type "tuple"
  | .cell n => (match h[n]? with
    | some (.lst _) => .type "list"
    | _ => .none)
  | _ => .type "list"
/-- the class as a value -/
inductive TyVal (CL : Nat → Option Addr) : Ty → V → Value → Prop
  | bi {t : Ty} : (∀ c, t ≠ .own c) → TyVal CL t (.ty t.s) (.type t.s)
  | own {c : Nat} {C : Addr} : CL c = some C → TyVal CL (.own c) (.ref C) (.ref C)
theorem TyVal.cls {t : Ty} {c : V} {u : Value} (h : TyVal CL t c u) : ClsV c u := by
  cases h with
  | bi _ => exact .ty _
  | own _ => exact .own _
theorem tyx_tup {H : Hp} {a : Addr} {vs : List V} (r : SqT X.K H a vs) : TyX X.K H (.ref a) (.type "tuple") := by
  rcases r with (r | ⟨o, r⟩) | ⟨o, _, _, h1, h2, _⟩
  · exact .base (.tup r)
  · exact .fTuple r
  · exact .kTuple h1 h2
theorem isiD_ok (xc : XC L CL Φ k X) {N : Nat} {G : Gh} {H : Hp} {d : D} {t : Ty} {b : Bool} {v c : V} {u : Value} (nc : ∀ n, d ≠ .cell n) (ni : ∀ c ds, d ≠ .ins c ds) (hC : ∀ c C, t = .own c → CL c = some C → COk X.K C) {h : CH} (e : isiD d t = some b) (r : RV X.K CL N G H d v) (tv : TyVal CL t c u) : TyX X.K H v (tyD h d) ∧ PySem.W.kitOne X.K (tyD h d) u = some b := by
  cases r with
  | non =>
    refine ⟨.base .non, ?_⟩
    cases tv with
    | own hc => cases e; exact (hC _ _ rfl hc).non
    | bi hn =>
      cases t with
      | own c => exact absurd rfl (hn c)
      | _ => cases e; exact kit_ty (by decide +kernel)
  | bl x =>
    refine ⟨.base (.bl x), ?_⟩
    cases tv with
    | own hc => cases e
    | bi hn =>
      cases t with
      | own c => exact absurd rfl (hn c)
      | _ => cases e; exact kit_ty (by decide +kernel)
  | int x =>
    refine ⟨.base (.int x), ?_⟩
    cases tv with
    | own hc => cases e
    | bi hn =>
      cases t with
      | own c => exact absurd rfl (hn c)
      | _ => cases e; exact kit_ty (by decide +kernel)
  | str x =>
    refine ⟨.base (.str x), ?_⟩
    cases tv with
    | own hc => cases e
    | bi hn =>
      cases t with
      | own c => exact absurd rfl (hn c)
      | _ => cases e; exact kit_ty (by decide +kernel)
  | tup a1 b1 =>
    refine ⟨tyx_tup a1, ?_⟩
    cases tv with
    | own hc => cases e; exact (hC _ _ rfl hc).tup
    | bi hn =>
      cases t with
      | own c => exact absurd rfl (hn c)
      | _ => cases e; exact kit_ty (by decide +kernel)
  | lst f a1 b1 =>
    refine ⟨.base (.lst a1), ?_⟩
    cases tv with
    | own hc => cases e; exact (hC _ _ rfl hc).lst
    | bi hn =>
      cases t with
      | own c => exact absurd rfl (hn c)
      | _ => cases e; exact kit_ty (by decide +kernel)
  | cell l => exact absurd rfl (nc _)
  | ins f a1 b1 c1 => exact absurd rfl (ni _ _)
  | scr a1 => cases t <;> cases e
theorem isiV_ok (xc : XC L CL Φ k X) {G : Gh} {h : CH} {H : Hp} {d : D} {t : Ty} {b : Bool} {v c : V} {u : Value} (s : SR X.K CL G h H) (ni : ∀ c ds, d ≠ .ins c ds) (nd : ∀ n c ds, d = .cell n → h[n]? ≠ some (.ins c ds)) (hC : ∀ c C, t = .own c → CL c = some C → COk X.K C) (e : isiV h d t = some b) (r : RV X.K CL h.length G H d v) (tv : TyVal CL t c u) : TyX X.K H v (tyD h d) ∧ PySem.W.kitOne X.K (tyD h d) u = some b := by
  cases d with
  | cell n =>
    simp only [isiV] at e
    split at e
    · rename_i ds q
      obtain ⟨rfl, ws, a1, rw⟩ := cell_at s q r
      have et : tyD h (.cell n) = .type "list" := by simp [tyD, q]
      rw [et]
      cases tv with
      | own hc => cases e; exact ⟨.base (.lst a1), (hC _ _ rfl hc).lst⟩
      | bi hn =>
        refine ⟨.base (.lst a1), ?_⟩
        cases t with
        | own c => exact absurd rfl (hn c)
        | _ => cases e; exact kit_ty (by decide +kernel)
    · rename_i c ds q
      exact absurd q (nd n c ds rfl)
    · cases e
  | ins c ds => exact absurd rfl (ni c ds)
  | _ => exact isiD_ok xc (by intro n z; cases z) (by intro c ds z; cases z) hC e r tv
theorem noIns_ok {h : CH} {d : D} (e : noIns h d = true) : (∀ c ds, d ≠ .ins c ds) ∧ ∀ n c ds, d = .cell n → h[n]? ≠ some (.ins c ds) := by
  refine ⟨fun c ds z => (by subst z; cases e), fun n c ds z q => ?_⟩
  subst z
  simp [noIns, q] at e
/-- a written type, as an expression -/
theorem ty_pe (xc : XC L CL Φ k X) {sc : Scope} (hs : X.env.scope = sc) {t : Ty} {x : Expr} (c : chkTy L sc t x = true) : ∃ (v : V) (u : Value), TyVal CL t v u ∧ PE X x (tC v) ∧ (∀ c C, t = .own c → CL c = some C → COk X.K C) := by
  unfold chkTy at c
  split at c
  · rename_i g gp
    split at c
    · rename_i cc
      split at c
      · rename_i y hy
        simp only [Bool.and_eq_true, decide_eq_true_eq, Bool.not_eq_true'] at c
        obtain ⟨rfl, c1, c2⟩ := c
        obtain ⟨C, h1, h2, h3⟩ := xc.cl _ _ hy
        refine ⟨.ref C, .ref C, .own h2, pe_glob (gl_ok hs c1) h1 rfl c2, fun c' C' e' h' => ?_⟩
        cases e'
        rw [h2] at h'
        cases h'
        exact h3
      · cases c
    · rename_i hn
      simp only [Bool.and_eq_true, decide_eq_true_eq] at c
      obtain ⟨c0, c1, c2⟩ := c
      have hm := xc.bi _ c2
      have gl := gl_ok hs c1
      cases t with
      | own c => exact absurd rfl (hn c)
      | int => cases c0; exact ⟨_, _, .bi hn, pe_bltn gl hm PyProof.Rows.boot_int rfl, fun c C z => nomatch z⟩
      | bool => cases c0; exact ⟨_, _, .bi hn, pe_bltn gl hm PyProof.Rows.boot_bool rfl, fun c C z => nomatch z⟩
      | list => cases c0; exact ⟨_, _, .bi hn, pe_bltn gl hm PyProof.Rows.boot_list rfl, fun c C z => nomatch z⟩
      | tuple => cases c0; exact ⟨_, _, .bi hn, pe_bltn gl hm PyProof.Rows.boot_tuple rfl, fun c C z => nomatch z⟩
  · cases c
/-- several written types, as arguments -/
theorem tys_pa (xc : XC L CL Φ k X) {sc : Scope} (hs : X.env.scope = sc) : ∀ {ts : List Ty} {xs : List Expr}, chkTys L sc ts xs = true → ∃ (vs : List V) (us : List Value), Paired ClsV vs us ∧ vs.length = ts.length ∧ PA X xs (fun _ H Q => Q vs H) ∧
    ∀ (G : Gh) (h : CH) (H : Hp) (d : D) (b : Bool) (v : V), SR X.K CL G h H → noIns h d = true → ts ≠ [] → isiAny h d ts = some b → RV X.K CL h.length G H d v → TyX X.K H v (tyD h d) ∧ PySem.W.kitAny X.K (tyD h d) us = some b
  | [], [], _ => ⟨[], [], .nil, rfl, ⟨fun pos pins s σ H Q I q => (pa_nil.run pos pins s σ H Q I q)⟩, fun _ _ _ _ _ _ _ _ z => absurd rfl z⟩
  | [], _ :: _, c => by simp [chkTys] at c
  | _ :: _, [], c => by simp [chkTys] at c
  | t :: ts, x :: xs, c => by
    simp only [chkTys, Bool.and_eq_true] at c
    obtain ⟨v, u, tv, pe, hC⟩ := ty_pe xc hs c.1
    obtain ⟨vs, us, pr, l, pa, go⟩ := tys_pa xc hs c.2
    have st : starEach (x :: xs) X.env = (false, eval x X.env) :: starEach xs X.env := by
      have c1 := c.1
      unfold chkTy at c1
      split at c1
      · rfl
      · cases c1
    refine ⟨v :: vs, u :: us, .cons tv.cls pr, by simp [l], ⟨fun pos pins s σ H Q I q => (pa_cons pe pa st).run pos pins s σ H Q I q⟩, fun G h H d b w s ni _ e r => ?_⟩
    obtain ⟨n1, n2⟩ := noIns_ok ni
    simp only [isiAny] at e
    split at e
    · rename_i h1
      cases e
      obtain ⟨q1, q2⟩ := isiV_ok xc s n1 n2 hC h1 r tv
      refine ⟨q1, ?_⟩
      unfold PySem.W.kitAny
      rw [q2]
    · rename_i h1
      obtain ⟨q1, q2⟩ := isiV_ok xc s n1 n2 hC h1 r tv
      refine ⟨q1, ?_⟩
      unfold PySem.W.kitAny
      rw [q2]
      by_cases hts : ts = []
      · subst hts
        cases e
        cases pr with
        | nil => rfl
        | cons _ _ => cases l
      · exact (go G h H d b w s ni hts e r).2
    · cases e
theorem boot_isi : bootBuiltins "isinstance" = some (.builtin "isinstance") := PyProof.Rows.boot_isinstance
theorem se_isi (xc : XC L CL Φ k X) {sc : Scope} (hs : X.env.scope = sc) {a : E} {tp : Bool} {ts : List Ty} {x : Expr} (ia : ∀ x, chkE L X.N sc a x = true → SE X CL Φ a x) (c : chkE L X.N sc (.isi a tp ts) x = true) : SE X CL Φ (.isi a tp ts) x := by
  simp only [chkE] at c
  split at c
  · rename_i g gp y cx pos
    simp only [Bool.and_eq_true, decide_eq_true_eq] at c
    obtain ⟨rfl, c1, c2, c3, c4⟩ := c
    have hm := xc.bi _ c2
    have gl := gl_ok hs c1
    intro env h h' d e G H σ s re Q p
    simp only [evE] at e
    obtain ⟨dx, h1, ex, e⟩ := R.bnd_inv e
    split at e
    · rename_i b e1
      split at e
      · rename_i ni
        cases e
        split at c4
        · rename_i cc
          split at c4
          · rename_i t
            obtain ⟨v, u, tv, pe, hC⟩ := ty_pe xc hs c4
            have st : starEach [y, cx] X.env = (false, eval y X.env) :: starEach [cx] X.env := chkE_star c3 _ _
            have st2 : starEach [cx] X.env = [(false, eval cx X.env)] := by
              unfold chkTy at c4
              split at c4
              · rfl
              · cases c4
            refine PE.go (pe_callB call_isi gl hm boot_isi (pa_cons (tE_pe X y) (pa_cons pe pa_nil st2) st) (by decide) (by decide) st (by rw [st2]; rfl)) fun _ => ia _ c3 env h _ _ ex G H σ s re _ fun G1 H1 w e2 s1 r1 l1 => ?_
            obtain ⟨n1, n2⟩ := noIns_ok ni
            have e3 : isiV h' dx t = some b := by
              simp only [isiAny] at e1
              split at e1
              · rename_i q; cases e1; exact q
              · rename_i q; cases e1; exact q
              · cases e1
            obtain ⟨q1, q2⟩ := isiV_ok xc s1 n1 n2 hC e3 r1 tv
            exact ⟨w, v, _, u, b, rfl, tv.cls, q1, q2, fun _ => p G1 H1 _ e2 s1 (.bl _) l1⟩
          · cases c4
        · rename_i cs kk p2
          simp only [Bool.and_eq_true, decide_eq_true_eq, Bool.not_eq_true'] at c4
          obtain ⟨vs, us, pr, l, pa, go⟩ := tys_pa xc hs c4.1
          have st : starEach [y, .Tuple cs kk p2] X.env = (false, eval y X.env) :: starEach [.Tuple cs kk p2] X.env := chkE_star c3 _ _
          refine PE.go (pe_callB call_isiT gl hm boot_isi (pa_cons (tE_pe X y) (pa_cons (pe_tup pa) pa_nil (by rfl)) st) (by decide) (by decide) st (by rfl)) fun _ => ia _ c3 env h _ _ ex G H σ s re _ fun G1 H1 w e2 s1 r1 l1 => ?_
          have hts : ts ≠ [] := by
            intro z
            subst z
            exact absurd c4.2.2 (by decide)
          refine ⟨by rw [l]; exact SZ_line (Nat.le_trans c4.2.1 (by decide)), fun q nq => ?_⟩
          obtain ⟨s2, e3⟩ := s1.new (o := .tup vs) False nq
          obtain ⟨q1, q2⟩ := go _ h' _ dx b w s2 ni hts e1 (r1.ev s1 e3)
          exact ⟨w, q, vs, _, us, b, rfl, upd_same, pr, q1, q2, fun rl => p _ _ _ (e2.trans e3) s2 (.bl _) rl⟩
        · cases c4
      · cases e
    · cases e
  · cases c
end
end Z

/-! calls of defs -/
namespace Z
open PySem PySem.Spec L2
section
variable {L : LI} {X : Cx} {CL : Nat → Option Addr} {Φ : FS} {k : Nat}
theorem call_sp {K : PySem.W.Frag} {md : Bool} {f ar : Nat} {ds : List D} {d : D} {G : Gh} {h h' : CH} {H : Hp} {vs : List V} {Q : VK} {E0' : XK} (e : callM md Φ f ds h = .ok d h') (hl : ds.length = ar) (s : SR K CL G h H) (r : RVs K CL h.length G H ds vs)
    (p : ∀ G' H' v, EvR G h H G' h' H' → SR K CL G' h' H' → RV K CL h'.length G' H' d v → Q v H') : spOf K CL Φ f ar vs H Q E0' := by
  refine ⟨by rw [← r.length]; exact hl, ?_⟩
  cases md with
  | false =>
    have e1 : callH Φ f ds h = .ok d h' := e
    unfold callH at e1
    cases q : Φ f ds h with
    | no => rw [q] at e1; cases e1
    | ex c es hh => rw [q] at e1; cases e1
    | ok d1 hh =>
      rw [q] at e1
      simp only [R.ok.injEq] at e1
      obtain ⟨rfl, rfl⟩ := e1
      refine ⟨G, h, hh, ds, d1, s, r, q, fun G' H' v e2 s2 r2 => ?_⟩
      obtain ⟨a1, a2, a3⟩ := trunc_ok s e2 s2 r2
      exact p G' H' v a2 a1 a3
  | true =>
    have e1 : callP Φ f ds h = .ok d h' := e
    unfold callP at e1
    split at e1
    · rename_i ds' q
      split at e1
      · rename_i d1 q2
        split at e1
        · rename_i hc
          cases e1
          unfold pcall at q2
          split at q2
          · rename_i d2 hh q3
            split at q2
            · rename_i hn
              cases q2
              by_cases hnc : ncs ds = true
              · have eds : ds' = ds := by
                  unfold snaps at q
                  rw [if_pos hnc] at q
                  exact (Option.some.inj q).symm
                subst eds
                have r0 : RVs K CL 0 ⟨G.φ, G.F⟩ H ds' vs := r.nc (G' := G) hnc
                refine ⟨G, [], hh, ds', d, s.empty0, r0, q3, fun G' H' v e2 s2 r2 => ?_⟩
                obtain ⟨a1, a2⟩ := back_ok s (G0 := G) (fun a f => f) e2 s2
                exact p _ H' v a2 a1 (back_nc e2 hn r2)
              · have hs : d.solid = true := by
                  rw [Bool.or_eq_true] at hc
                  exact hc.resolve_left hnc
                refine ⟨G.all h, [], hh, ds', d, s.empty, snaps_ok s q r, q3, fun G' H' v e2 s2 r2 => ?_⟩
                obtain ⟨a1, a2⟩ := back_ok s (G0 := G.all h) (fun a f => Or.inl f) e2 s2
                exact p _ H' v a2 a1 (r2.solid hs)
            · cases q2
          · split at q2 <;> cases q2
          · cases q2
        · cases e1
      · split at e1 <;> cases e1
      · cases e1
    · cases e1
theorem se_call (xc : XC L CL Φ k X) {sc : Scope} (hs : X.env.scope = sc) {md : Bool} {f : Nat} {es : Es} {x : Expr} (ies : ∀ x, chkEs L X.N sc es x = true → SEs X CL Φ es x) (c : chkE L X.N sc (.call md f es) x = true) : SE X CL Φ (.call md f es) x := by
  simp only [chkE] at c
  split at c
  · rename_i g gp y ys pos
    split at c
    · rename_i fi hf
      simp only [Bool.and_eq_true, decide_eq_true_eq, Bool.not_eq_true'] at c
      obtain ⟨rfl, c1, c2, c3, c4, c5⟩ := c
      intro env h h' d e G H σ s re Q p
      simp only [evE] at e
      obtain ⟨ds, h1, ea, e⟩ := R.bnd_inv e
      obtain ⟨a, fd, ps, m1, m2, m3, m4⟩ := (xc.fn f fi hf).ex
      rw [c2] at m4
      obtain ⟨st1, st2⟩ := args_star c5 X.env pos
      refine PE.go (pe_call m3 xc.room (gl_ok hs c3) m1 m2 m4 .nil pass0 (tA_pa X _) c4 st1 st2) fun _ => ?_
      refine ies _ c5 env h _ _ ea G H σ s re _ fun G1 H1 vs e1 s1 r1 l1 => ?_
      rw [List.append_nil]
      exact call_sp e (by rw [evEs_len ea]; exact c1.symm) s1 r1 fun G' H' v a b c rl => p G' H' v (e1.trans a) b c rl
    · cases c
  · cases c
theorem kc_rv {N : Nat} {G : Gh} {H : Hp} (c : Kc) : RV X.K CL N G H c.d (match c with
    | .non => V.non
    | .bl b => V.bl b
    | .int i => V.int i
    | .str s => V.str s) := by
  cases c with
  | non => exact .non
  | bl b => exact .bl b
  | int i => exact .int i
  | str x => exact .str x
theorem se_callD (xc : XC L CL Φ k X) {sc : Scope} (hs : X.env.scope = sc) {md : Bool} {f : Nat} {es : Es} {cc : Kc} {x : Expr} (ies : ∀ x, chkEs L X.N sc es x = true → SEs X CL Φ es x) (c : chkE L X.N sc (.callD md f es cc) x = true) : SE X CL Φ (.callD md f es cc) x := by
  simp only [chkE] at c
  split at c
  · rename_i g gp y ys pos
    split at c
    · rename_i fi hf
      simp only [Bool.and_eq_true, decide_eq_true_eq, Bool.not_eq_true'] at c
      obtain ⟨rfl, c1, c2, c3, c4, c5⟩ := c
      split at c2
      · rename_i nm c0 hk
        have c2 : c0 = cc := of_decide_eq_true c2
        subst c2
        intro env h h' d e G H σ s re Q p
        simp only [evE] at e
        obtain ⟨ds, h1, ea, e⟩ := R.bnd_inv e
        obtain ⟨a, fd, ps, m1, m2, m3, m4⟩ := (xc.fn f fi hf).ex
        rw [hk] at m4
        obtain ⟨⟨u, ru, mb⟩, _⟩ := m4
        obtain ⟨st1, st2⟩ := args_star c5 X.env pos
        refine PE.go (pe_call m3 xc.room (gl_ok hs c3) m1 m2 mb (.cons ru .nil) pass0 (tA_pa X _) c4 st1 st2) fun _ => ?_
        refine ies _ c5 env h _ _ ea G H σ s re _ fun G1 H1 vs e1 s1 r1 l1 => ?_
        exact call_sp e (by rw [List.length_append, evEs_len ea]; exact c1.symm) s1 (r1.append (.cons (kc_rv c0) .nil)) fun G' H' v a b c rl => p G' H' v (e1.trans a) b c rl
      · cases c2
    · cases c
  · cases c
theorem se_callK (xc : XC L CL Φ k X) {sc : Scope} (hs : X.env.scope = sc) {md : Bool} {f : Nat} {es : Es} {ek : E} {x : Expr} (ies : ∀ x, chkEs L X.N sc es x = true → SEs X CL Φ es x) (ik : ∀ x, chkE L X.N sc ek x = true → SE X CL Φ ek x) (c : chkE L X.N sc (.callK md f es ek) x = true) : SE X CL Φ (.callK md f es ek) x := by
  simp only [chkE] at c
  split at c
  · rename_i g gp y ys kn z kp pos
    split at c
    · rename_i fi hf
      simp only [Bool.and_eq_true, decide_eq_true_eq, Bool.not_eq_true'] at c
      obtain ⟨rfl, c1, c2, c3, c4, c5, c6⟩ := c
      split at c2
      · rename_i nm c0 hk
        have c2 : kn = nm := of_decide_eq_true c2
        subst c2
        intro env h h' d e G H σ s re Q p
        simp only [evE] at e
        obtain ⟨ds, h1, ea, e⟩ := R.bnd_inv e
        obtain ⟨dv, h2, ek', e⟩ := R.bnd_inv e
        obtain ⟨a, fd, ps, m1, m2, m3, m4⟩ := (xc.fn f fi hf).ex
        rw [hk] at m4
        obtain ⟨_, mb⟩ := m4
        obtain ⟨st1, st2⟩ := args_star c5 X.env pos
        have hpl : ((backTo pos (starEach (y :: ys) X.env)).any (·.1) || (backToKw pos (keywordEach [⟨some kn, z, kp⟩] X.env)).any (·.1.isNone)) = false := by
          rw [backTo_plain c5]; rfl
        refine PE.go (pe_callN m3 xc.room (gl_ok hs c3) m1 m2 mb pass0 (tA_pa X _) (pk_cons (tE_pe X z) pk_nil) (by rfl) (by rfl) c4 st1 hpl) fun _ => ?_
        refine ies _ c5 env h _ _ ea G H σ s re _ fun G1 H1 vs e1 s1 r1 l1 => ?_
        refine ik _ c6 env h1 _ _ ek' G1 H1 σ s1 (re.ev s e1) _ fun G2 H2 w e2 s2 r2 l2 => ?_
        have l3 : ds.length = es.len := evEs_len ea
        refine ⟨by rw [← r1.length, l3]; omega, rfl, ?_⟩
        exact call_sp e (by rw [List.length_append, l3]; exact c1.symm) s2 ((r1.ev s1 e2).append (.cons r2 .nil)) fun G' H' v a b c rl => p G' H' v ((e1.trans e2).trans a) b c rl
      · cases c2
    · cases c
  · cases c
end
end Z

/-! enumerate of a tuple -/
namespace Z
open PySem PySem.Spec L2
section
variable {prog : Program} {w : World} {A : Around} {E : Value → Shared → Prop} {s : Shared}
/-- one turn of enumerate over a tuple -/
theorem enumT_next {z j t : Addr} {i : Nat} {vs : Array Value} {v o0 : Value} {Q : Value → Shared → Prop} (z0 : IsEnum s.heap z j i o0) (j0 : s.heap.IsTupleIter j t i) (t0 : s.heap.IsTuple t vs) (v0 : vs[i]? = some v) (zj : z ≠ j)
    (fin : ∀ g, IsEnumOut g z j ((i : Int) + 1) v s.heap.objs.size → g.IsTupleIter j t (i + 1) → g.get? s.heap.objs.size = some { cls := .type "tuple", data := .seq #[.int i s.toks, v] } → g.objs.size = s.heap.objs.size + 1 →
      (∀ b o, b ≠ z → b ≠ j → s.heap.get? b = some o → g.get? b = some o) → Q (.ref s.heap.objs.size) { s with heap := g, toks := s.toks + 1 }) :
    wpAny (model prog w) A (Builtin.«enumerate.__next__» ⟨[.ref z], []⟩) (fun fn s' => ∃ r, fn = .done (.ret r) ∧ Q r s') E s := by
  obtain ⟨g0, gs, dr, k, os⟩ := s
  show wpAny _ _ (field (.ref z) 2 >>= _) _ _ (⟨g0, gs, dr, k, os⟩ : Shared)
  refine wpAny_bind (wpAny_field z0 rfl (x := .ref j) rfl (wpAny_bind (RZ.nextOf_tuple_item j0 t0 v0 fun g1 j1 b1 => ?_)))
  replace b1 : Heap.SameBut j g0 g1 := b1
  have z1 : IsEnum g1 z j i o0 := (b1.2 z zj).trans z0
  show wpAny _ _ (field (.ref z) 3 >>= _) _ _ (⟨g1, gs, dr, k, os⟩ : Shared)
  refine wpAny_bind (wpAny_field z1 rfl (x := rawInt i) rfl ?_)
  show wpAny _ _ (field (.ref z) 4 >>= _) _ _ (⟨g1, gs, dr, k, os⟩ : Shared)
  refine wpAny_bind (wpAny_field z1 rfl (x := .none) rfl ?_)
  show wpAny _ _ (mkInt i >>= _) _ _ (⟨g1, gs, dr, k, os⟩ : Shared)
  refine wpAny_bind (wpAny_mkInt ?_)
  show wpAny _ _ (setField (.ref z) 3 (rawInt ((i : Int) + 1)) >>= _) _ _ (⟨g1, gs, dr, k + 1, os⟩ : Shared)
  refine wpAny_bind (wpAny_setField_rec z1 (by simp) fun g2 z2 b2 => ?_)
  replace b2 : Heap.SameBut z g1 g2 := b2
  replace z2 : IsEnum g2 z j ((i : Int) + 1) o0 := z2
  show wpAny _ _ (setField (.ref z) 4 .none >>= _) _ _ (⟨g2, gs, dr, k + 1, os⟩ : Shared)
  refine wpAny_bind (wpAny_setField_rec z2 (by simp) fun g3 z3 b3 => ?_)
  replace b3 : Heap.SameBut z g2 g3 := b3
  replace z3 : IsEnum g3 z j ((i : Int) + 1) o0 := z3
  show wpAny _ _ (newTuple [.int i k, v] >>= _) _ _ (⟨g3, gs, dr, k + 1, os⟩ : Shared)
  refine wpAny_bind (wpAny_newTuple ?_)
  have z4 : IsEnum (g3.push { cls := .type "tuple", data := .seq #[.int i k, v] }) z j ((i : Int) + 1) o0 := Heap.get?_push_of_some _ z3
  generalize q4 : g3.push { cls := .type "tuple", data := .seq #[.int i k, v] } = g4 at z4
  have n3 : g3.objs.size = g0.objs.size := by rw [b3.1, b2.1, b1.1]
  have zl : z < g0.objs.size := Heap.lt_size z0
  have p4 : g4.get? g0.objs.size = some { cls := .type "tuple", data := .seq #[.int i k, v] } := by rw [← q4, ← n3]; exact Heap.get?_push_size _ rfl
  have n4 : g4.objs.size = g0.objs.size + 1 := by rw [← q4, Heap.size_push, n3]
  have k4 : ∀ b o, b ≠ z → b ≠ j → g0.get? b = some o → g4.get? b = some o := fun b o bz bj q => by
    rw [← q4]; exact Heap.get?_push_of_some _ (b3.extBut b o bz (b2.extBut b o bz (b1.extBut b o bj q)))
  have j4 : g4.IsTupleIter j t (i + 1) := by
    rw [← q4]
    obtain ⟨o, ho, hc, hd⟩ := j1
    exact ⟨o, Heap.get?_push_of_some _ (b3.extBut _ _ (Ne.symm zj) (b2.extBut _ _ (Ne.symm zj) ho)), hc, hd⟩
  show wpAny _ _ (Builtin.SmallTypes.ownedTupleIsFree (.ref z) >>= _) _ _ (⟨g4, gs, dr, k + 1, os⟩ : Shared)
  rw [n3]
  clear q4 z3 b3 z2 b2 z1 b1 j1 n3 g3 g2 g1
  refine wpAny_bind ?_
  unfold Builtin.SmallTypes.ownedTupleIsFree
  refine wpAny_bind (wpAny_field z4 rfl (x := .none) rfl (wpAny_pure ?_))
  simp only [if_true]
  refine wpAny_bind (wpAny_rule (wpAny_bind (wpAny_field z4 rfl (x := o0) rfl (wpAny_bind (wpAny_setField_rec z4 (by simp) fun g5 z5 b5 => ?_)))))
  replace b5 : Heap.SameBut z g4 g5 := b5
  replace z5 : IsEnum g5 z j ((i : Int) + 1) v := z5
  show wpAny _ _ (Builtin.SmallTypes.ownedTupleHandOut (.ref z) (.ref g0.objs.size) >>= _) _ _ (⟨g5, gs, dr, k + 1, os⟩ : Shared)
  refine wpAny_bind ?_
  unfold Builtin.SmallTypes.ownedTupleHandOut
  refine wpAny_bind (wpAny_setField_rec z5 (by simp) fun g6 z6 b6 => ?_)
  replace b6 : Heap.SameBut z g5 g6 := b6
  replace z6 : IsEnumOut g6 z j ((i : Int) + 1) v g0.objs.size := z6
  refine wpAny_setField_rec z6 (by simp) fun g7 z7 b7 => ?_
  replace b7 : Heap.SameBut z g6 g7 := b7
  replace z7 : IsEnumOut g7 z j ((i : Int) + 1) v g0.objs.size := z7
  have up : ∀ b o, b ≠ z → g4.get? b = some o → g7.get? b = some o := fun b o bz q => b7.extBut b o bz (b6.extBut b o bz (b5.extBut b o bz q))
  refine wpAny_bind (wpAny_letGo (wpAny_pure ⟨_, rfl, fin g7 z7 ?_ (up _ _ (Nat.ne_of_gt zl) p4) (by rw [b7.1, b6.1, b5.1, n4]) fun b o bz bj q => up b o bz (k4 b o bz bj q)⟩))
  obtain ⟨o, ho, hc, hd⟩ := j4
  exact ⟨o, up j o (Ne.symm zj) ho, hc, hd⟩
theorem pyNext_enumT {z j t : Addr} {i : Nat} {vs : Array Value} {v o0 : Value} {Q : Option Value → Shared → Prop} (z0 : IsEnum s.heap z j i o0) (j0 : s.heap.IsTupleIter j t i) (t0 : s.heap.IsTuple t vs) (v0 : vs[i]? = some v) (zj : z ≠ j)
    (fin : ∀ g, IsEnumOut g z j ((i : Int) + 1) v s.heap.objs.size → g.IsTupleIter j t (i + 1) → g.get? s.heap.objs.size = some { cls := .type "tuple", data := .seq #[.int i s.toks, v] } → g.objs.size = s.heap.objs.size + 1 →
      (∀ b o, b ≠ z → b ≠ j → s.heap.get? b = some o → g.get? b = some o) → Q (some (.ref s.heap.objs.size)) { s with heap := g, toks := s.toks + 1 }) : wpAny (model prog w) A (pyNext (.ref z)) Q E s := by
  have ty : s.TypeIs (.ref z) "enumerate" := ⟨_, z0, rfl⟩
  unfold pyNext
  exact wpAny_bind (wpAny_attempt (wpAny_callSpecial?_slot (name := Str.ofString "__next__") ty F.slot_enumerate_next (wpAny_call_entry F.slot_enumerate_next ty F.entry_enumerate_next
    (enumT_next z0 j0 t0 v0 zj fun g a b c d q => wpAny_pure (fin g a b c d q)) (F.args_enumerate_next_1 _))))
theorem pyNext_enumT_end {z j t : Addr} {i : Nat} {vs : Array Value} {o0 : Value} {Q : Option Value → Shared → Prop} (hh : A.handled = none) (z0 : IsEnum s.heap z j i o0) (j0 : s.heap.IsTupleIter j t i) (t0 : s.heap.IsTuple t vs) (v0 : vs[i]? = none)
    (fin : ∀ g, Heap.ExtBut j s.heap g → Q none { s with heap := g }) : wpAny (model prog w) A (pyNext (.ref z)) Q E s := by
  have ty : s.TypeIs (.ref z) "enumerate" := ⟨_, z0, rfl⟩
  unfold pyNext
  refine wpAny_bind (wpAny_attempt (wpAny_callSpecial?_slot (name := Str.ofString "__next__") ty F.slot_enumerate_next (wpAny_call_entry F.slot_enumerate_next ty F.entry_enumerate_next ?_ (F.args_enumerate_next_1 _))))
  show wpAny _ _ (field (.ref z) 2 >>= _) _ _ s
  refine wpAny_bind (wpAny_field z0 rfl (x := .ref j) rfl (wpAny_bind (RZ.nextOf_tuple_end hh j0 t0 v0 fun g x ex st => ?_)))
  obtain ⟨o, ho, hc⟩ := st
  exact wpAny_bind (wpAny_isInstance (T := "StopIteration") (b := true) ⟨o, ho, hc⟩ isSubtype_stop (wpAny_pure (fin _ ex)))
end
theorem enumT_new (l : Addr) (vs : Array Value) (n : Nat) (dd : Option Addr) (sl : Array (Option Value)) :
    Meets (Builtin.«enumerate.__new__» ⟨[.type "enumerate", .ref l], []⟩) (fun _ R s => s.heap.get? l = some { cls := .type "tuple", dict := dd, data := .seq vs n, slots := sl } ∧
      R (.ok (.ret (.ref (s.heap.push { cls := .type "tuple_iterator", data := .fields #[.ref l, .int 0 0] }).objs.size)))
        { s with heap := (s.heap.push { cls := .type "tuple_iterator", data := .fields #[.ref l, .int 0 0] }).push { cls := .type "enumerate", data := .fields #[.none, .bool false, .ref s.heap.objs.size, rawInt 0, .none, .none] } }) :=
  .of_wp fun prog w A R s q => by
    obtain ⟨g0, gs, dr, k, os⟩ := s
    obtain ⟨tl, q⟩ := q
    have sub := sub_enumerate
    have it : Heap.IsTuple (Shared.heap ⟨g0, gs, dr, k, os⟩) l vs := ⟨_, tl, rfl, n, rfl⟩
    wp_walk using AutoSeq1.wpAny_loadPart' tl
    refine wpAny_stack_any fun st => wpAny_pure ?_
    split
    · rename_i c _ _ _ _ _
      cases (c == Value.type "enumerate") <;> (wp_walk using AutoSeq1.wpAny_loadPart' tl, wpAny_pyIter_tuple it; exact ⟨_, rfl, q⟩)
    · wp_walk using AutoSeq1.wpAny_loadPart' tl, wpAny_pyIter_tuple it
      exact ⟨_, rfl, q⟩
section
variable {prog : Program} {w : World} {A : Around} {E : Value → Shared → Prop} {s : Shared}
theorem call_enumT {l : Addr} {vs : Array Value} {Q : Value → Shared → Prop} (t0 : s.heap.IsTuple l vs)
    (fin : ∀ g, IsEnum g (s.heap.objs.size + 1) s.heap.objs.size 0 .none → g.IsTupleIter s.heap.objs.size l 0 → (∀ b o, s.heap.get? b = some o → g.get? b = some o) → Q (.ref (s.heap.objs.size + 1)) { s with heap := g }) :
    wpAny (model prog w) A (call (.type "enumerate") [.ref l]) Q E s := by
  obtain ⟨⟨c, dd, dt, sl⟩, hl, hc, n, hd⟩ := t0
  obtain rfl : c = .type "tuple" := hc
  obtain rfl : dt = .seq vs n := hd
  refine callType_new F.called_enumerate (by decide) (F.typeCall_enumerate_1 _) (F.newCall_enumerate_1 _) (fun obj => F.args_object_init_2 obj _) F.entry_enumerate_new (enumT_new l vs n dd sl) ⟨hl, ?_⟩
  have n1 : (s.heap.push { cls := .type "tuple_iterator", data := .fields #[.ref l, .int 0 0] }).objs.size = s.heap.objs.size + 1 := Heap.size_push ..
  show _ ∧ _
  rw [n1]
  have z0 : IsEnum ((s.heap.push { cls := .type "tuple_iterator", data := .fields #[.ref l, .int 0 0] }).push { cls := .type "enumerate", data := .fields #[.none, .bool false, .ref s.heap.objs.size, rawInt 0, .none, .none] }) (s.heap.objs.size + 1) s.heap.objs.size 0 .none := by
    have q := Heap.get?_push_size (s.heap.push { cls := .type "tuple_iterator", data := .fields #[.ref l, .int 0 0] }) (o := { cls := .type "enumerate", data := .fields #[.none, .bool false, .ref s.heap.objs.size, rawInt 0, .none, .none] }) rfl
    rw [n1] at q
    exact q
  exact ⟨⟨_, z0, rfl⟩, fin _ z0 ⟨_, Heap.get?_push_of_some _ (Heap.get?_push_size _ rfl), rfl, rfl⟩ fun b o x => Heap.get?_push_of_some _ (Heap.get?_push_of_some _ x)⟩
end
/-- the tuple at a, each item in a new pair -/
def IteT (K : PySem.W.Frag) (a : Addr) : L2.It :=
  ⟨fun i H => ∃ (xs : List V) (x : V), SqT K H a xs ∧ xs[i]? = some x, fun i H v H' => ∃ T x, v = .ref T ∧ H T = none ∧ H' = upd H T (.tup [.int (i : Nat), x]) ∧ ∀ xs, SqT K H a xs → xs[i]? = some x, fun i H => ∃ xs : List V, SqT K H a xs ∧ xs.length ≤ i⟩
theorem turn_enumT {P : Program} {w : World} {K : PySem.W.Frag} {elts : List Expr} {kk : Nat} {tpos : Pos} (a z j : Addr) :
    Turn P w K (.Tuple elts kk tpos) (IteT K a) [z, j] z (fun i g => (∃ o0, IsEnum g z j ((i : Nat) : Int) o0) ∧ g.IsTupleIter j a i ∧ z ≠ j) where
  mem := by simp
  obj := fun i g st b hb => by
    obtain ⟨⟨o0, z0⟩, ⟨o, ho, hc, hd⟩, _⟩ := st
    rcases List.mem_cons.mp hb with rfl | hb
    · exact ⟨_, z0, fun v q => nomatch q⟩
    · obtain rfl := List.mem_singleton.mp hb
      exact ⟨o, ho, fun v q => by rw [hd] at q; cases q⟩
  keep := fun i g g' st kp => by
    obtain ⟨⟨o0, z0⟩, ⟨o, ho, hc, hd⟩, ne⟩ := st
    exact ⟨⟨o0, kp z (by simp) _ z0⟩, ⟨o, kp j (by simp) _ ho, hc, hd⟩, ne⟩
  item := by
    intro X hP hw hK hc i pins s σ H E I hf st hg
    subst hP hw hK
    obtain ⟨⟨o0, z0⟩, j0, ne⟩ := st
    obtain ⟨xs, x, hq, hx⟩ := hg
    obtain ⟨its, rv, tu, _⟩ := I.tuple hq
    obtain ⟨u, hu, ru⟩ := rv.get hx
    have zl : z < s.heap.objs.size := Heap.lt_size z0
    have jl : j < s.heap.objs.size := by obtain ⟨_, q, _⟩ := j0; exact Heap.lt_size q
    refine pyNext_enumT z0 j0 tu (v := u) (by simpa using hu) ne fun g go jo hT hsz hk => ⟨_, rfl, wpAny_letOwnedTupleGo_enum (s := { s with heap := g, toks := s.toks + 1 }) go fun g2 zo sb => ?_⟩
    have hT2 : g2.get? s.heap.objs.size = some { cls := .type "tuple", data := .seq #[.int i s.toks, u] } := (sb.2 _ (Nat.ne_of_gt zl)).trans hT
    have new : ObjOk X.prog X.w (upd H s.heap.objs.size (.tup [.int (i : Nat), x])) g2 s.heap.objs.size (.tup [.int (i : Nat), x]) :=
      ⟨by show 2 ≤ sizeLine; decide, [.int i s.toks, u], .cons ⟨_, rfl⟩ (.cons ru .nil), ⟨_, hT2, rfl, _, rfl⟩⟩
    have I1 : Inv X pins σ (upd H s.heap.objs.size (.tup [.int (i : Nat), x])) { s with heap := g2, toks := s.toks + 1 } :=
      I.turnedNew (ch := [z, j]) (fun b ob hb q => by
        have b1 : b ≠ z := fun e => hb (by simp [e])
        have b2 : b ≠ j := fun e => hb (by simp [e])
        exact (sb.2 b b1).trans (hk b ob b1 b2 q)) hf (Nat.le_refl _) new
    have e1 : ((i + 1 : Nat) : Int) = (i : Int) + 1 := by omega
    refine ⟨.ref s.heap.objs.size, _, I1, rfl, ⟨_, x, rfl, I.hok.fresh (Nat.le_refl _), rfl, fun ys hy => by rw [I.tuple_inj hy hq]; exact hx⟩, ⟨⟨u, by rw [e1]; exact zo⟩, ?_, ne⟩, fun b hb => ?_⟩
    · obtain ⟨o, ho, c1, c2⟩ := jo
      exact ⟨o, (sb.2 j (Ne.symm ne)).trans ho, c1, c2⟩
    · have hb' : b < s.heap.objs.size := by
        rcases List.mem_cons.mp hb with rfl | hb
        · exact zl
        · obtain rfl := List.mem_singleton.mp hb
          exact jl
      rw [upd_ne (Nat.ne_of_lt hb')]
      exact (hf b hb).1
  done := by
    intro X hP hw hK hc i pins s σ H E I hf st hg
    subst hP hw hK
    obtain ⟨⟨o0, z0⟩, j0, ne⟩ := st
    obtain ⟨xs, hq, hx⟩ := hg
    obtain ⟨its, rv, tu, _⟩ := I.tuple hq
    have hl := rv.length
    obtain ⟨f0, f1, f2, f3, f4, f5⟩ := hf j (by simp)
    exact pyNext_enumT_end (I.ok.hd hc) z0 j0 tu (by simp; omega) fun g eb => ⟨rfl, I.turned (t' := s.toks) (fun b o hb q => eb b o hb q) f0 f1 f3 f4 f5⟩
  self := fun A i s Q E st q => wpAny_pyIter_enum st.1.choose_spec q
def iEnumT (K : PySem.W.Frag) (ta : TA) : TI := fun σ H R => ta σ H fun vs H1 => ∃ a xs, vs = [.ref a] ∧ SqT K H1 a xs ∧ R (IteT K a) H1
theorem pi_enumT {X : Cx} {e : Expr} {ta : TA} {p pos tpos : Pos} {elts : List Expr} {kk : Nat} (hg : Gl X "enumerate") (hm : X.mg "enumerate" = none) (ha : PA X [e] ta) (hs : starEach [e] X.env = [(false, eval e X.env)]) :
    PI X (.Tuple elts kk tpos) (.Call (.Name "enumerate" p) [e] [] pos) (iEnumT X.K ta) := by
  refine ⟨fun pins s σ H R I q => ?_⟩
  refine PyProof.Rows.Call_ (ld_blt I hg hm PyProof.Rows.boot_enumerate (PyProof.Rows.callWith_type1 (thn (ha.run pos pins s σ H _ I q) fun us s1 ⟨vs, H1, I1, r1, q1⟩ => ?_) hs rfl))
  obtain ⟨a, xs, rfl, hq, q⟩ := q1
  rw [Vals.ref1 r1]
  obtain ⟨its, rv, tu, _⟩ := I1.tuple hq
  refine call_enumT tu fun g z0 j0 hk => wpAny_pyIter_enum z0 ?_
  have I2 : Inv X pins σ H1 { s1 with heap := g } := I1.kept (t' := s1.toks) hk
  refine ⟨s1.heap.objs.size + 1, [s1.heap.objs.size + 1, s1.heap.objs.size], _, _, H1, rfl, I2, turn_enumT a _ _, ⟨⟨.none, z0⟩, j0, Nat.succ_ne_self _⟩, fun b hb => ?_, q⟩
  have hle : s1.heap.objs.size ≤ b := by
    rcases List.mem_cons.mp hb with rfl | hb
    · exact Nat.le_add_right _ _
    · obtain rfl := List.mem_singleton.mp hb
      exact Nat.le_refl _
  exact I1.fpOk hle (I1.hok.fresh hle)
end Z

/-! what makes turns; targets -/
namespace Z
open PySem PySem.Spec L2
/-- J walks the data ds from the state (G0, h0, H0) on -/
structure JOk (K : PySem.W.Frag) (CL : Nat → Option Addr) (J : L2.It) (ds : List D) (ck : Ck) (G0 : Gh) (h0 : CH) (H0 : Hp) : Prop where
  step : ∀ G h H i d, EvR G0 h0 H0 G h H → SR K CL G h H → ckOk ck h = true → ds[i]? = some d → J.go i H ∧ ∀ x H', J.yld i H x H' → EvR G h H G h H' ∧ SR K CL G h H' ∧ RV K CL h.length G H' d x
  stop : ∀ G h H i, EvR G0 h0 H0 G h H → SR K CL G h H → ckOk ck h = true → ds.length ≤ i → J.stop i H
def tI (X : Cx) (tg iter : Expr) : TI := fun σ H R => ∀ pins s, Inv X pins σ H s → wpAny (model X.prog X.w) X.A (eval iter X.env) (fun v s1 => wpAny (model X.prog X.w) X.A (pyIter v) (PIE X pins σ tg R) X.xe s1) X.xe s
theorem tI_pi (X : Cx) (tg iter : Expr) : PI X tg iter (tI X tg iter) := ⟨fun pins s σ H R I h => h pins s I⟩
theorem PI.go {X : Cx} {tg iter : Expr} {t : TI} (p : PI X tg iter t) {σ : List (Option V)} {H : Hp} {R : L2.It → Hp → Prop} (h : t σ H R) : tI X tg iter σ H R := fun pins s I => p.run pins s σ H R I h
def SI (X : Cx) (CL : Nat → Option Addr) (Φ : FS) (it : It) (tg iter : Expr) : Prop := ∀ (env : Env) (h h' : CH) (p : List D × Ck), evIt Φ it env h = .ok p h' → ∀ (G : Gh) (H : Hp) (σ : List (Option V)), SR X.K CL G h H → RE X.K CL h.length G H env σ → ∀ R : L2.It → Hp → Prop,
  (∀ J G' H', EvR G h H G' h' H' → SR X.K CL G' h' H' → JOk X.K CL J p.1 p.2 G' h' H' → R J H') → tI X tg iter σ H R
section
variable {L : LI} {X : Cx} {CL : Nat → Option Addr} {Φ : FS} {k : Nat}
mutual
theorem beq_eq : ∀ {a b : D}, a.beq b = true → a = b
  | .non, .non, _ => rfl
  | .bl a, .bl b, h => by simp [D.beq] at h; rw [h]
  | .int a, .int b, h => by simp [D.beq] at h; rw [h]
  | .str a, .str b, h => by simp [D.beq] at h; rw [h]
  | .tup a, .tup b, h => by simp only [D.beq] at h; rw [beqs_eq h]
  | .lst a, .lst b, h => by simp only [D.beq] at h; rw [beqs_eq h]
  | .cell a, .cell b, h => by simp [D.beq] at h; rw [h]
  | .ins c a, .ins k b, h => by simp only [D.beq, Bool.and_eq_true, beq_iff_eq] at h; rw [h.1, beqs_eq h.2]
  | .scr a, .scr b, h => by simp [D.beq] at h; rw [h]
theorem beqs_eq : ∀ {a b : List D}, beqs a b = true → a = b
  | [], [], _ => rfl
  | a :: r, b :: s, h => by
    simp only [beqs, Bool.and_eq_true] at h
    rw [beq_eq h.1, beqs_eq h.2]
end
theorem ck_some {n : Nat} {ds : List D} {h : CH} (e : ckOk (some (n, ds)) h = true) : h[n]? = some (.lst ds) := by
  simp only [ckOk] at e
  split at e
  · rename_i es q
    rw [beqs_eq e] at q
    exact q
  · cases e
/-- what a walked sequence shows, now and later -/
theorem walk_seq {G0 : Gh} {h0 : CH} {H0 : Hp} {v : D} {x : V} {ds : List D} (s0 : SR X.K CL G0 h0 H0) (e : items h0 v = some ds) (r : RV X.K CL h0.length G0 H0 v x) :
    ∃ a, x = .ref a ∧ ((∃ xs, SqL X.K H0 a xs) ∧ (∀ G h H, EvR G0 h0 H0 G h H → SR X.K CL G h H → ckOk (ckOf v ds) h = true → ∃ xs, SqL X.K H a xs ∧ RVs X.K CL h.length G H ds xs) ∨
      (∃ xs, SqT X.K H0 a xs) ∧ ∀ G h H, EvR G0 h0 H0 G h H → SR X.K CL G h H → ∃ xs, SqT X.K H a xs ∧ RVs X.K CL h.length G H ds xs) := by
  cases r with
  | tup a b => simp at e; subst e; exact ⟨_, rfl, .inr ⟨⟨_, a⟩, fun G h H ev s => ⟨_, SqT.mono (ev.k1 s0 _) a, b.ev s0 ev⟩⟩⟩
  | lst f a b => simp at e; subst e; exact ⟨_, rfl, .inl ⟨⟨_, SqL.of a⟩, fun G h H ev s _ => ⟨_, SqL.of (ev.k2 s0 _ _ f a), b.ev s0 ev⟩⟩⟩
  | scr a => simp at e; subst e; exact ⟨_, rfl, .inl ⟨⟨_, a.sq⟩, fun G h H ev s _ => ⟨_, (a.mono (ev.k1 s0 _)).sq, RVs.ofInts _⟩⟩⟩
  | @cell n l =>
    simp only [items] at e
    split at e
    · rename_i ds' q
      cases e
      obtain ⟨_, vs, a, b⟩ := s0.cell n _ q
      refine ⟨_, rfl, .inl ⟨⟨_, SqL.of a⟩, fun G h H ev s c => ?_⟩⟩
      obtain ⟨_, ws, a', b'⟩ := s.cell n _ (ck_some c)
      rw [ev.phi n l] at a'
      exact ⟨ws, SqL.of a', b'⟩
    · cases e
  | _ => simp at e
theorem SqL_inj {K : PySem.W.Frag} {H : Hp} {a : Addr} {xs ys : List V} {i : Nat} {x : V} (h : ∀ ys, SqL K H a ys → ys[i]? = some x) (q : SqL K H a xs) : xs[i]? = some x := h xs q
theorem si_seq {sc : Scope} {a : E} {tg iter : Expr} (ia : ∀ x, chkE L X.N sc a x = true → SE X CL Φ a x) (c : chkIt L X.N sc (.e a) iter = true) : SI X CL Φ (.e a) tg iter := by
  simp only [chkIt] at c
  intro env h h' p e G H σ s re R go
  simp only [evIt] at e
  obtain ⟨v, h1, ev, e⟩ := Z.R.bnd_inv e
  split at e
  · rename_i ds e1
    cases e
    intro pins st I
    -- the value comes first; what it is decides the walk
    have q := ia _ c env h _ _ ev G H σ s re (fun x H' => ∃ G', EvR G h H G' h' H' ∧ SR X.K CL G' h' H' ∧ RV X.K CL h'.length G' H' v x) (fun G' H' x a b c _ => ⟨G', a, b, c⟩) pins st I
    refine thn q fun u s1 ⟨x, H1, I1, r1, G1, e2, s2, rv⟩ => ?_
    obtain ⟨b, rfl, w | w⟩ := walk_seq s2 e1 rv
    · obtain ⟨⟨xs, hx⟩, w⟩ := w
      obtain ⟨its, rvl, pl, hz⟩ := I1.list hx
      cases (show u = Value.ref b from r1)
      refine wpAny_pyIter_list pl.isList ?_
      refine ⟨s1.heap.objs.size, [s1.heap.objs.size], _, _, H1, rfl, I1.kept (t' := s1.toks) fun b o e => Heap.get?_push_of_some _ e, turn_list b _, ⟨_, Heap.get?_push_size _ rfl, rfl, rfl⟩, fun c hb => ?_, go (Itl X.K b) G1 H1 e2 s2 ⟨fun G h H i d ev1 s3 ck hd => ?_, fun G h H i ev1 s3 ck hl => ?_⟩⟩
      · obtain rfl : c = s1.heap.objs.size := by simpa using hb
        exact I1.fpOk (Nat.le_refl _) (I1.hok.fresh (Nat.le_refl _))
      · obtain ⟨ys, q1, q2⟩ := w G h H ev1 s3 ck
        obtain ⟨y, y1, y2⟩ := q2.get hd
        refine ⟨⟨ys, y, q1, y1⟩, fun x' H' hy => ?_⟩
        obtain ⟨rfl, f⟩ := hy
        have ex := f ys q1
        rw [y1] at ex
        cases ex
        exact ⟨EvR.refl _ _ _, s3, y2⟩
      · obtain ⟨ys, q1, q2⟩ := w G h H ev1 s3 ck
        exact ⟨ys, q1, by rw [← q2.length]; exact hl⟩
    · obtain ⟨⟨xs, hx⟩, w⟩ := w
      obtain ⟨its, rvl, pl, hz⟩ := I1.tuple hx
      cases (show u = Value.ref b from r1)
      refine wpAny_pyIter_tuple pl ?_
      refine ⟨s1.heap.objs.size, [s1.heap.objs.size], _, _, H1, rfl, I1.kept (t' := s1.toks) fun b o e => Heap.get?_push_of_some _ e, turn_tuple b _, ⟨_, Heap.get?_push_size _ rfl, rfl, rfl⟩, fun c hb => ?_, go (Itt X.K b) G1 H1 e2 s2 ⟨fun G h H i d ev1 s3 ck hd => ?_, fun G h H i ev1 s3 ck hl => ?_⟩⟩
      · obtain rfl : c = s1.heap.objs.size := by simpa using hb
        exact I1.fpOk (Nat.le_refl _) (I1.hok.fresh (Nat.le_refl _))
      · obtain ⟨ys, q1, q2⟩ := w G h H ev1 s3
        obtain ⟨y, y1, y2⟩ := q2.get hd
        refine ⟨⟨ys, y, q1, y1⟩, fun x' H' hy => ?_⟩
        obtain ⟨rfl, f⟩ := hy
        have ex := f ys q1
        rw [y1] at ex
        cases ex
        exact ⟨EvR.refl _ _ _, s3, y2⟩
      · obtain ⟨ys, q1, q2⟩ := w G h H ev1 s3
        exact ⟨ys, q1, by rw [← q2.length]; exact hl⟩
  · cases e
theorem rngOk_iff {i : Int} (h : rngOk i = true) : -(2 ^ 62) ≤ i ∧ i < 2 ^ 62 := of_decide_eq_true h
theorem rngL_get {a : Int} {n i : Nat} {d : D} (h : (rngL a n)[i]? = some d) : i < n ∧ d = .int (a + (i : Nat)) := by
  have lt := lt_of_get h
  unfold rngL at h lt
  simp only [List.length_map, List.length_range] at lt
  rw [List.getElem?_map, List.getElem?_range lt] at h
  cases h
  exact ⟨lt, rfl⟩
theorem jok_rng {G0 : Gh} {h0 : CH} {H0 : Hp} (a : Int) (n : Nat) : JOk X.K CL (Itr a n) (rngL a n) none G0 h0 H0 where
  step := fun G h H i d ev s ck hd => by
    obtain ⟨lt, rfl⟩ := rngL_get hd
    refine ⟨lt, fun x H' hy => ?_⟩
    obtain ⟨rfl, rfl⟩ := hy
    exact ⟨EvR.refl _ _ _, s, .int _⟩
  stop := fun G h H i ev s ck hl => by
    have : (rngL a n).length = n := by simp [rngL]
    rw [this] at hl
    exact hl
theorem rngD_get {a : Int} {n i : Nat} {d : D} (h : (rngD a n)[i]? = some d) : i < n ∧ d = .int (a - (i : Nat)) := by
  have lt := lt_of_get h
  unfold rngD at h lt
  simp only [List.length_map, List.length_range] at lt
  rw [List.getElem?_map, List.getElem?_range lt] at h
  cases h
  exact ⟨lt, rfl⟩
theorem jok_rngC {G0 : Gh} {h0 : CH} {H0 : Hp} (a : Int) (n : Nat) : JOk X.K CL (Itc a (-1) n) (rngD a n) none G0 h0 H0 where
  step := fun G h H i d ev s ck hd => by
    obtain ⟨lt, rfl⟩ := rngD_get hd
    refine ⟨lt, fun x H' hy => ?_⟩
    obtain ⟨rfl, rfl⟩ := hy
    have e : a + ((i : Nat) : Int) * (-1) = a - (i : Nat) := by omega
    rw [e]
    exact ⟨EvR.refl _ _ _, s, .int _⟩
  stop := fun G h H i ev s ck hl => by
    have : (rngD a n).length = n := by simp [rngD]
    rw [this] at hl
    exact hl
theorem enum_get : ∀ {ds : List D} {k i : Nat} {d : D}, (enumFrom k ds)[i]? = some d → ∃ x, ds[i]? = some x ∧ d = .tup [.int ((k + i : Nat) : Int), x]
  | [], k, i, d, h => by simp [enumFrom] at h
  | y :: r, k, 0, d, h => by simp [enumFrom] at h; exact ⟨y, rfl, by rw [← h]; simp⟩
  | y :: r, k, i + 1, d, h => by
    obtain ⟨x, a, b⟩ := enum_get (ds := r) (k := k + 1) (i := i) (d := d) (by simpa [enumFrom] using h)
    refine ⟨x, by simpa using a, ?_⟩
    rw [b, show k + 1 + i = k + (i + 1) by omega]
theorem enum_len : ∀ (ds : List D) (k : Nat), (enumFrom k ds).length = ds.length
  | [], _ => rfl
  | _ :: r, k => by simp [enumFrom, enum_len r (k + 1)]
/-- a new pair -/
theorem pair_new {G : Gh} {h : CH} {H : Hp} {T : Addr} {d e : D} {x y : V} (s : SR X.K CL G h H) (nT : H T = none) (r : RV X.K CL h.length G H d x) (q : RV X.K CL h.length G H e y) :
    EvR G h H G h (upd H T (.tup [x, y])) ∧ SR X.K CL G h (upd H T (.tup [x, y])) ∧ RV X.K CL h.length G (upd H T (.tup [x, y])) (.tup [d, e]) (.ref T) := by
  obtain ⟨s1, e1⟩ := s.new (o := .tup [x, y]) False nT
  have eG : G.more False T = G := by
    unfold Gh.more
    cases G
    congr
    funext a
    simp
  rw [eG] at s1 e1
  exact ⟨e1, s1, .tup (SqT.of upd_same) (.cons (r.ev s e1) (.cons (q.ev s e1) .nil))⟩
/-- the second of two arguments -/
theorem two_args {L : LI} {N : List Str} {sc : Scope} {ev : PySem.Env} {es : Es} {y : Expr} {ys : List Expr} {a b : D} (hl : es.len = (y :: ys).length) (hv : [a, b].length = es.len) (c3 : chkEs L N sc es (y :: ys) = true) : ∃ z, ys = [z] ∧ starEach [z] ev = [(false, eval z ev)] := by
  have : (y :: ys).length = 2 := by rw [← hl, ← hv]; rfl
  cases ys with
  | nil => simp at this
  | cons z zs =>
    cases zs with
    | cons _ _ => simp at this
    | nil =>
      refine ⟨z, rfl, ?_⟩
      cases es with
      | nil => simp [chkEs] at c3
      | cons e1 es =>
        cases es with
        | nil => simp [chkEs] at c3
        | cons e2 es =>
          simp only [chkEs, Bool.and_eq_true] at c3
          exact chkE_star c3.2.1 [] ev
theorem zip_get : ∀ {xs ys : List D} {i : Nat} {d : D}, (zipL xs ys)[i]? = some d → ∃ x y, xs[i]? = some x ∧ ys[i]? = some y ∧ d = .tup [x, y]
  | x :: xs, y :: ys, 0, d, h => by simp [zipL] at h; exact ⟨x, y, rfl, rfl, h.symm⟩
  | x :: xs, y :: ys, i + 1, d, h => by
    obtain ⟨a, b, p, q, r⟩ := zip_get (xs := xs) (ys := ys) (i := i) (d := d) (by simpa [zipL] using h)
    exact ⟨a, b, by simpa using p, by simpa using q, r⟩
  | [], ys, i, d, h => by simp [zipL] at h
  | x :: xs, [], i, d, h => by simp [zipL] at h
theorem zip_len : ∀ (xs ys : List D), xs.length = ys.length → (zipL xs ys).length = xs.length
  | [], ys, h => by simp [zipL]
  | x :: xs, [], h => by simp at h
  | x :: xs, y :: ys, h => by simp [zipL, zip_len xs ys (by simpa using h)]
/-- what a walked list shows -/
theorem walk_lst {G0 : Gh} {h0 : CH} {H0 : Hp} {v : D} {x : V} {ds : List D} (nt : ¬ ∃ ds', v = .tup ds') (s0 : SR X.K CL G0 h0 H0) (e : items h0 v = some ds) (r : RV X.K CL h0.length G0 H0 v x) :
    ∃ a, x = .ref a ∧ (∃ xs, SqL X.K H0 a xs) ∧ (∀ G h H, EvR G0 h0 H0 G h H → SR X.K CL G h H → ckOk (ckOf v ds) h = true → ∃ xs, SqL X.K H a xs ∧ RVs X.K CL h.length G H ds xs) := by
  cases r with
  | tup a b => exact absurd ⟨_, rfl⟩ nt
  | lst f a b => simp at e; subst e; exact ⟨_, rfl, ⟨_, SqL.of a⟩, fun G h H ev s _ => ⟨_, SqL.of (ev.k2 s0 _ _ f a), b.ev s0 ev⟩⟩
  | scr a => simp at e; subst e; exact ⟨_, rfl, ⟨_, a.sq⟩, fun G h H ev s _ => ⟨_, (a.mono (ev.k1 s0 _)).sq, RVs.ofInts _⟩⟩
  | @cell n l =>
    simp only [items] at e
    split at e
    · rename_i ds' q
      cases e
      obtain ⟨_, vs, a, b⟩ := s0.cell n _ q
      refine ⟨_, rfl, ⟨_, SqL.of a⟩, fun G h H ev s c => ?_⟩
      obtain ⟨_, ws, a', b'⟩ := s.cell n _ (ck_some c)
      rw [ev.phi n l] at a'
      exact ⟨ws, SqL.of a', b'⟩
    · cases e
  | _ => simp at e
theorem si_fn (xc : XC L CL Φ k X) {sc : Scope} (hs : X.env.scope = sc) {fn : Tn} {es : Es} {tg iter : Expr} {tt : Tg} (hp : isPair (.f fn es) tt = true) (ht : ∀ ts, tt = .tp ts → ∃ elts kk tp, tg = .Tuple elts kk tp) (ies : ∀ x, chkEs L X.N sc es x = true → SEs X CL Φ es x) (c : chkIt L X.N sc (.f fn es) iter = true) : SI X CL Φ (.f fn es) tg iter := by
  simp only [chkIt] at c
  split at c
  · rename_i g gp y ys pos
    simp only [Bool.and_eq_true, decide_eq_true_eq] at c
    obtain ⟨rfl, c1, c2, c3⟩ := c
    have hm := xc.bi _ c2
    have gl := gl_ok hs c1
    obtain ⟨st1, st2⟩ := args_star c3 X.env pos
    have hl := chkEs_len c3
    intro env h h' p e G H σ s re R go
    simp only [evIt] at e
    obtain ⟨vs, h1, ev, e0⟩ := Z.R.bnd_inv e
    clear e
    have hv := evEs_len ev
    -- the arguments' values
    have args : ∀ Q : List V → Hp → Prop, (∀ G' H' xs, EvR G h H G' h1 H' → SR X.K CL G' h1 H' → RVs X.K CL h1.length G' H' vs xs → Q xs H') → tA X (y :: ys) σ H Q := fun Q q => ies _ c3 env h _ _ ev G H σ s re Q fun G' H' xs a b c _ => q G' H' xs a b c
    unfold itD at e0
    split at e0
    · rename_i n
      split at e0
      · rename_i hr
        cases e0
        have ly : ys = [] := by
          have : (y :: ys).length = 1 := by rw [← hl, ← hv]; rfl
          cases ys with
          | nil => rfl
          | cons _ _ => simp at this
        subst ly
        have hr := rngOk_iff hr
        refine PI.go (pi_range1 gl hm (tA_pa X _) st1) (args _ fun G' H' xs a b r => ?_)
        obtain ⟨v, rfl, rv⟩ := one_inv r
        cases rv
        exact ⟨n, rfl, hr.1, hr.2, go _ G' H' a b (jok_rng 0 n.toNat)⟩
      · cases e0
    · rename_i a0 b0
      split at e0
      · rename_i hr
        rw [Bool.and_eq_true] at hr
        cases e0
        have ly : ∃ z, ys = [z] := by
          have : (y :: ys).length = 2 := by rw [← hl, ← hv]; rfl
          cases ys with
          | nil => simp at this
          | cons z zs => cases zs with
            | nil => exact ⟨z, rfl⟩
            | cons _ _ => simp at this
        obtain ⟨z, rfl⟩ := ly
        have h1 := rngOk_iff hr.1
        have h2 := rngOk_iff hr.2
        have st3 : starEach [z] X.env = [(false, eval z X.env)] := by
          cases es with
          | nil => simp [chkEs] at c3
          | cons e1 es =>
            cases es with
            | nil => simp [chkEs] at c3
            | cons e2 es =>
              simp only [chkEs, Bool.and_eq_true] at c3
              exact chkE_star c3.2.1 [] X.env
        refine PI.go (pi_range2 gl hm (tA_pa X _) (by rw [st1, st3]) st3) (args _ fun G' H' xs a b r => ?_)
        obtain ⟨v, w, rfl, rv, rw⟩ := two_inv r
        cases rv
        cases rw
        exact ⟨a0, b0, rfl, ⟨h1.1, h1.2, h2.1, h2.2⟩, go _ G' H' a b (jok_rng a0 (b0 - a0).toNat)⟩
      · cases e0
    · rename_i a0 b0 c0
      split at e0
      · rename_i hr
        rw [Bool.and_eq_true, Bool.and_eq_true, decide_eq_true_eq] at hr
        obtain ⟨⟨h1, h2⟩, rfl⟩ := hr
        cases e0
        have h1 := rngOk_iff h1
        have h2 := rngOk_iff h2
        have ly : ∃ z w, ys = [z, w] := by
          have : (y :: ys).length = 3 := by rw [← hl, ← hv]; rfl
          cases ys with
          | nil => simp at this
          | cons z zs => cases zs with
            | nil => simp at this
            | cons w ws => cases ws with
              | nil => exact ⟨z, w, rfl⟩
              | cons _ _ => simp at this
        obtain ⟨z, w, rfl⟩ := ly
        have st3 : starEach [z, w] X.env = [(false, eval z X.env), (false, eval w X.env)] := by
          cases es with
          | nil => simp [chkEs] at c3
          | cons e1 es =>
            cases es with
            | nil => simp [chkEs] at c3
            | cons e2 es =>
              cases es with
              | nil => simp [chkEs] at c3
              | cons e3 es =>
                simp only [chkEs, Bool.and_eq_true] at c3
                rw [chkE_star c3.2.1, chkE_star c3.2.2.1]; rfl
        have st4 : starEach [y, z, w] X.env = [(false, eval y X.env), (false, eval z X.env), (false, eval w X.env)] := by rw [st1, st3]
        refine PI.go (pi_range3 gl hm (tA_pa X _) st1 st2) (args _ fun G' H' xs a b r => ?_)
        cases r with
        | cons r1 r =>
          obtain ⟨v, w, rfl, rv, rw⟩ := two_inv r
          cases r1
          cases rv
          cases rw
          exact ⟨a0, b0, -1, (a0 - b0).toNat, rfl, RgC.neg h1.1 h1.2 h2.1 h2.2, go _ G' H' a b (jok_rngC a0 (a0 - b0).toNat)⟩
      · cases e0
    · rename_i x
      have ly : ys = [] := by
        have : (y :: ys).length = 1 := by rw [← hl, ← hv]; rfl
        cases ys with
        | nil => rfl
        | cons _ _ => simp at this
      subst ly
      cases tt with
      | nm i => cases hp
      | tp ts =>
        obtain ⟨elts, kk, tpos, rfl⟩ := ht ts rfl
        split at e0
        · rename_i ds e1
          split at e0
          · cases e0
          · rename_i ns
            cases e0
            by_cases hx : ∃ ds', x = .tup ds'
            · obtain ⟨ds', rfl⟩ := hx
              simp only [items, Option.some.injEq] at e1
              subst e1
              refine PI.go (pi_enumT gl hm (tA_pa X _) st1) (args _ fun G' H' xs a b r => ?_)
              obtain ⟨v, rfl, rv⟩ := one_inv r
              cases rv with
              | @tup ad xs _ a1 b1 =>
                refine ⟨ad, xs, rfl, a1, go _ G' H' a b ⟨fun G h H i d ev1 s3 ck hd => ?_, fun G h H i ev1 s3 ck hl => ?_⟩⟩
                · have q1 := SqT.mono (ev1.k1 b _) a1
                  have q2 := b1.ev b ev1
                  obtain ⟨d', hd', rfl⟩ := enum_get hd
                  obtain ⟨yv, y1, y2⟩ := q2.get hd'
                  refine ⟨⟨xs, yv, q1, y1⟩, fun x' H2 hy => ?_⟩
                  obtain ⟨T, x2, rfl, nT, rfl, f⟩ := hy
                  have ex := f xs q1
                  rw [y1] at ex
                  cases ex
                  rw [Nat.zero_add]
                  exact pair_new s3 nT (.int _) y2
                · have q1 := SqT.mono (ev1.k1 b _) a1
                  have q2 := b1.ev b ev1
                  exact ⟨xs, q1, by rw [← q2.length, ← enum_len _ 0]; exact hl⟩
            · refine PI.go (pi_enum gl hm (tA_pa X _) st1) (args _ fun G' H' xs a b r => ?_)
              obtain ⟨v, rfl, rv⟩ := one_inv r
              obtain ⟨ad, rfl, ⟨xs, hx⟩, w⟩ := walk_lst hx b e1 rv
              refine ⟨ad, xs, rfl, hx, go _ G' H' a b ⟨fun G h H i d ev1 s3 ck hd => ?_, fun G h H i ev1 s3 ck hl => ?_⟩⟩
              · obtain ⟨ys, q1, q2⟩ := w G h H ev1 s3 ck
                obtain ⟨d', hd', rfl⟩ := enum_get hd
                obtain ⟨yv, y1, y2⟩ := q2.get hd'
                refine ⟨⟨ys, yv, q1, y1⟩, fun x' H2 hy => ?_⟩
                obtain ⟨T, x2, rfl, nT, rfl, f⟩ := hy
                have ex := f ys q1
                rw [y1] at ex
                cases ex
                rw [Nat.zero_add]
                exact pair_new s3 nT (.int _) y2
              · obtain ⟨ys, q1, q2⟩ := w G h H ev1 s3 ck
                exact ⟨ys, q1, by rw [← q2.length, ← enum_len ds 0]; exact hl⟩
        · cases e0
    · rename_i xs0 ys0
      split at e0
      · rename_i hlen
        cases e0
        obtain ⟨z, rfl, st3⟩ : ∃ z, ys = [z] ∧ starEach [z] X.env = [(false, eval z X.env)] := two_args hl hv c3
        cases tt with
        | nm i => cases hp
        | tp ts =>
          obtain ⟨elts, kk, tpos, rfl⟩ := ht ts rfl
          refine PI.go (RZ.pi_zipA gl hm (tA_pa X _) (by rw [st1]) (by rw [st3]; rfl)) (args _ fun G' H' xs a b r => ?_)
          obtain ⟨v, w, rfl, rv, rw⟩ := two_inv r
          cases rv with
          | @tup a1 xs1 _ p1 p2 =>
            cases rw with
            | @tup a2 xs2 _ p3 p4 =>
              refine ⟨a1, a2, xs1, xs2, rfl, .inr ⟨p1, p3, go _ G' H' a b ⟨fun G h H i d ev1 s3 ck hd => ?_, fun G h H i ev1 s3 ck hl => ?_⟩⟩⟩
              · have q1 := SqT.mono (ev1.k1 b _) p1
                have q3 := SqT.mono (ev1.k1 b _) p3
                obtain ⟨d1, d2, g1, g2, rfl⟩ := zip_get hd
                obtain ⟨yv, y1, y2⟩ := (p2.ev b ev1).get g1
                obtain ⟨zv, z1, z2⟩ := (p4.ev b ev1).get g2
                refine ⟨⟨xs1, xs2, yv, zv, q1, q3, y1, z1⟩, fun x' H2 hy => ?_⟩
                obtain ⟨T, xa, xb, rfl, nT, rfl, f, g⟩ := hy
                have ex := f _ q1
                have ey := g _ q3
                rw [y1] at ex
                rw [z1] at ey
                cases ex
                cases ey
                exact pair_new s3 nT y2 z2
              · have q1 := SqT.mono (ev1.k1 b _) p1
                have q3 := SqT.mono (ev1.k1 b _) p3
                refine ⟨xs1, xs2, q1, q3, .inl ?_⟩
                rw [← p2.length]
                rw [zip_len _ _ hlen] at hl
                exact hl
      · cases e0
    · rename_i xs0 ys0
      split at e0
      · rename_i hlen
        cases e0
        obtain ⟨z, rfl, st3⟩ : ∃ z, ys = [z] ∧ starEach [z] X.env = [(false, eval z X.env)] := two_args hl hv c3
        cases tt with
        | nm i => cases hp
        | tp ts =>
          obtain ⟨elts, kk, tpos, rfl⟩ := ht ts rfl
          refine PI.go (RZ.pi_zipA gl hm (tA_pa X _) (by rw [st1]) (by rw [st3]; rfl)) (args _ fun G' H' xs a b r => ?_)
          obtain ⟨v, w, rfl, rv, rw⟩ := two_inv r
          cases rv with
          | @lst a1 xs1 _ f1 p1 p2 =>
            cases rw with
            | @lst a2 xs2 _ f2 p3 p4 =>
              refine ⟨a1, a2, xs1, xs2, rfl, .inl ⟨SqL.of p1, SqL.of p3, go _ G' H' a b ⟨fun G h H i d ev1 s3 ck hd => ?_, fun G h H i ev1 s3 ck hl => ?_⟩⟩⟩
              · have q1 := SqL.of (K := X.K) (ev1.k2 b _ _ f1 p1)
                have q3 := SqL.of (K := X.K) (ev1.k2 b _ _ f2 p3)
                obtain ⟨d1, d2, g1, g2, rfl⟩ := zip_get hd
                obtain ⟨yv, y1, y2⟩ := (p2.ev b ev1).get g1
                obtain ⟨zv, z1, z2⟩ := (p4.ev b ev1).get g2
                refine ⟨⟨xs1, xs2, yv, zv, q1, q3, y1, z1⟩, fun x' H2 hy => ?_⟩
                obtain ⟨T, xa, xb, rfl, nT, rfl, f, g⟩ := hy
                have ex := f _ q1
                have ey := g _ q3
                rw [y1] at ex
                rw [z1] at ey
                cases ex
                cases ey
                exact pair_new s3 nT y2 z2
              · have q1 := SqL.of (K := X.K) (ev1.k2 b _ _ f1 p1)
                have q3 := SqL.of (K := X.K) (ev1.k2 b _ _ f2 p3)
                refine ⟨xs1, xs2, q1, q3, .inl ?_⟩
                rw [← p2.length]
                rw [zip_len _ _ hlen] at hl
                exact hl
      · cases e0
    · cases e0
  · cases c
end
end Z

/-! targets; comprehensions -/
namespace Z
open PySem PySem.Spec L2
def gsTg : List Nat → TGs
  | [] => gNil
  | i :: is => gCons (gName i) (gsTg is)
def gTg (K : PySem.W.Frag) : Tg → TG
  | .nm i => gName i
  | .tp is => gTup K is.length (gsTg is)
theorem wipe_get (σ : List (Option V)) (j : Nat) : ∀ vs : List Nat, (wipe σ vs)[j]? = if j ∈ vs ∧ j < σ.length then some none else σ[j]?
  | [] => by simp [wipe]
  | v :: vs => by
    unfold wipe
    by_cases h : v = j
    · subst h
      by_cases hl : v < σ.length
      · rw [List.getElem?_set_self (by rw [wipe_length]; exact hl)]
        simp [hl]
      · rw [List.getElem?_eq_none (by simp [wipe_length]; omega)]
        simp [hl]
    · rw [List.getElem?_set_ne h, wipe_get σ j vs]
      have : ¬ j = v := fun e => h e.symm
      simp [this]
theorem wipe_set {σ : List (Option V)} {i : Nat} {x : Option V} {vs : List Nat} (h : i ∈ vs) : wipe (σ.set i x) vs = wipe σ vs := by
  apply List.ext_getElem?
  intro j
  rw [wipe_get, wipe_get, List.length_set]
  by_cases hj : i = j
  · subst hj
    by_cases hl : i < σ.length
    · simp [h, hl]
    · simp [h, hl]
  · rw [List.getElem?_set_ne hj]
theorem wipe_wipe (σ : List (Option V)) (vs : List Nat) : wipe (wipe σ vs) vs = wipe σ vs := by
  apply List.ext_getElem?
  intro j
  rw [wipe_get, wipe_get, wipe_length]
  by_cases h : j ∈ vs ∧ j < σ.length
  · simp [h]
  · simp [h]
section
variable {L : LI} {X : Cx} {CL : Nat → Option Addr} {Φ : FS} {k : Nat}
theorem stB_ok {N : List Str} {sc : Scope} {fn : Str → Bool} {i : Nat} {x : Str} (h : stB N sc fn i x = true) : N[i]? = some x ∧ Loc sc x ∧ (fn x = true ∨ sc.names.lookup x = some .local) := by
  unfold stB at h
  simp only [Bool.and_eq_true, Bool.or_eq_true, decide_eq_true_eq] at h
  obtain ⟨h1, h2 | ⟨h2, h3⟩⟩ := h
  · exact ⟨h1, .inl h2, .inr h2⟩
  · exact ⟨h1, .inr h2, .inl h3⟩
theorem pgs_tg {sc : Scope} {fn : Str → Bool} (nd : X.N.Nodup) (hs : X.env.scope = sc) (hf : X.fn = fn) : ∀ {is : List Nat} {xs : List Expr}, chkTgs X.N sc fn is xs = true → PGs X xs (gsTg is) ∧ (assignEach xs X.env).length = is.length ∧ (assignEach xs X.env).findIdx? (·.1) = none
  | [], [], _ => ⟨pgs_nil, rfl, rfl⟩
  | [], _ :: _, h => by simp [chkTgs] at h
  | i :: is, [], h => by simp [chkTgs] at h
  | i :: is, x :: xs, h => by
    cases x with
    | Name x p =>
      simp only [chkTgs, Bool.and_eq_true] at h
      obtain ⟨a, b, c⟩ := pgs_tg nd hs hf h.2
      obtain ⟨s1, s2, s3⟩ := stB_ok h.1
      subst hs hf
      refine ⟨pgs_cons (pg_name nd s1 s2 s3) a, ?_, ?_⟩
      · show (assignEach xs X.env).length + 1 = is.length + 1
        rw [b]
      · show List.findIdx? (·.1) ((false, assign (.Name x p) X.env) :: assignEach xs X.env) = none
        rw [List.findIdx?_cons]
        simp [c]
    | _ => simp [chkTgs] at h
theorem pg_tg {sc : Scope} {fn : Str → Bool} (hc : X.calm = true) (nd : X.N.Nodup) (hs : X.env.scope = sc) (hf : X.fn = fn) {tg : Tg} {x : Expr} (h : chkTg X.N sc fn tg x = true) : PG X x (gTg X.K tg) := by
  cases tg with
  | nm i =>
    cases x with
    | Name x p =>
      obtain ⟨s1, s2, s3⟩ := stB_ok (show stB X.N sc fn i x = true from h)
      subst hs hf
      exact pg_name nd s1 s2 s3
    | _ => simp [chkTg] at h
  | tp is =>
    cases x with
    | Tuple xs kk p =>
      obtain ⟨a, b, c⟩ := pgs_tg nd hs hf (show chkTgs X.N sc fn is xs = true from h)
      exact pg_tup hc a b c
    | _ => simp [chkTg] at h
theorem gs_ok {K : PySem.W.Frag} {N : Nat} {G : Gh} {H : Hp} : ∀ {is : List Nat} {ds : List D} {vs : List V} {env : Env} {σ : List (Option V)}, ds.length = is.length → RVs K CL N G H ds vs → RE K CL N G H env σ →
    ∃ σ', RE K CL N G H (setAll is ds env) σ' ∧ (∀ Q : L2.St → Hp → Prop, Q σ' H → gsTg is vs σ H Q) ∧ ∀ ws, (∀ i ∈ is, i ∈ ws) → wipe σ' ws = wipe σ ws
  | [], [], _, env, σ, _, .nil, re => ⟨σ, re, fun Q q => ⟨rfl, q⟩, fun _ _ => rfl⟩
  | [], _ :: _, _, _, _, h, _, _ => by simp at h
  | _ :: _, [], _, _, _, h, _, _ => by simp at h
  | i :: is, d :: ds, _, env, σ, h, .cons r rs, re => by
    obtain ⟨σ', a, b, c⟩ := gs_ok (is := is) (by simpa using h) rs (re.set r i)
    exact ⟨σ', a, fun Q q => ⟨_, _, rfl, b Q q⟩, fun ws hw => (c ws fun j hj => hw j (List.mem_cons_of_mem _ hj)).trans (wipe_set (hw i List.mem_cons_self))⟩
def Tg.ids : Tg → List Nat
  | .nm i => [i]
  | .tp is => is
theorem asg_ok {K : PySem.W.Frag} {N : Nat} {G : Gh} {H : Hp} {tg : Tg} {d : D} {v : V} {env env' : Env} {σ : List (Option V)} (e : asgTg tg d env = some env') (r : RV K CL N G H d v) (re : RE K CL N G H env σ) :
    ∃ σ', RE K CL N G H env' σ' ∧ (∀ Q : L2.St → Hp → Prop, Q σ' H → gTg K tg v σ H Q) ∧ ∀ ws, (∀ i ∈ tg.ids, i ∈ ws) → wipe σ' ws = wipe σ ws := by
  cases tg with
  | nm i =>
    cases e
    exact ⟨_, re.set r i, fun Q q => q, fun ws hw => wipe_set (hw i (by simp [Tg.ids]))⟩
  | tp is =>
    simp only [asgTg] at e
    split at e
    · rename_i ds
      split at e
      · rename_i hl
        cases e
        cases r with
        | tup a b =>
          obtain ⟨σ', p, q, w⟩ := gs_ok hl b re
          exact ⟨σ', p, fun Q h => ⟨_, _, rfl, a, by rw [← b.length]; exact hl, q Q h⟩, w⟩
      · cases e
    · cases e
theorem own_ok {tg : Tg} {own : List (Str × Nat)} (h : ownB tg own = true) : ∀ i ∈ tg.ids, i ∈ own.map (·.2) := by
  cases tg with
  | nm i =>
    intro j hj
    simp only [Tg.ids, List.mem_singleton] at hj
    subst hj
    exact of_decide_eq_true h
  | tp is =>
    intro j hj
    have := List.all_eq_true.1 (show (is.all fun i => decide (i ∈ own.map (·.2))) = true from h) j hj
    exact of_decide_eq_true this
theorem more_false (G : Gh) (T : Addr) : G.more False T = G := by
  unfold Gh.more
  cases G
  congr
  funext a
  simp
/-- without the object at D -/
def dl (H : Hp) (D : Addr) : Hp := fun a => if a = D then none else H a
theorem dl_upd (H : Hp) (D : Addr) (o : HO) : upd (dl H D) D o = upd H D o := by
  funext a
  by_cases h : a = D
  · subst h; rw [upd_same, upd_same]
  · rw [upd_ne h, upd_ne h]; exact if_neg h
/-- what was made beside D stands without it -/
theorem SR.del {K : PySem.W.Frag} {G G' : Gh} {h h' : CH} {Hm H' : Hp} {D : Addr} {o : HO} (s : SR K CL G h Hm) (nD : Hm D = none) (E : EvR G h (upd Hm D o) G' h' H') (s' : SR K CL G' h' H') (mo : Mut (some o)) :
    H' D = some o ∧ SR K CL G' h' (dl H' D) ∧ EvR G h Hm G' h' (dl H' D) ∧ ∀ d v, RV K CL h'.length G' H' d v → RV K CL h'.length G' (dl H' D) d v := by
  have off : ∀ n c, h[n]? = some c → c.live = true → G.φ n ≠ D := fun n c q l z => by
    obtain ⟨_, u, b, _⟩ := s.obj q l
    rw [z, nD] at b
    cases b
  have hD : H' D = some o := E.frame D o upd_same off
  have off' : ∀ n c, h'[n]? = some c → c.live = true → G'.φ n ≠ D := fun n c q l z => by
    rcases E.new n c q l with ⟨lt, e1, q1, l1⟩ | f
    · exact off n e1 q1 l1 ((E.phi n lt).symm.trans z)
    · rw [z, upd_same] at f; cases f
  have nF0 : ¬ G.F D := fun f => s.fh D f nD
  have nF : ¬ G'.F D := fun f => by
    rcases E.nf D f with f | f | ⟨n, c, q, l, z⟩
    · exact nF0 f
    · rw [upd_same] at f; cases f
    · exact off n c q l z
  have dn : ∀ a, a ≠ D → dl H' D a = H' a := fun a h => if_neg h
  have k1 : ∀ a u, H' a = some u → ¬ Mut (some u) → dl H' D a = some u := fun a u q m => by
    have : a ≠ D := fun z => by subst z; rw [hD] at q; cases q; exact m mo
    rw [dn a this]; exact q
  have k2 : ∀ a u, G'.F a → H' a = some u → dl H' D a = some u := fun a u f q => by
    have : a ≠ D := fun z => by subst z; exact nF f
    rw [dn a this]; exact q
  have up : ∀ a, a ≠ D → upd Hm D o a = Hm a := fun a h => upd_ne h
  refine ⟨hD, ⟨fun n c q => ?_, s'.inj, fun a f => ?_⟩, ⟨E.len, E.phi, E.fr, fun a u q no => ?_, fun n c q l => ?_, fun a f => ?_, fun a q => ?_⟩, fun d v r => r.keep (Nat.le_refl _) (fun _ _ => rfl) (fun _ f => f) k1 k2⟩
  · exact (s'.cell n c q).keep (G' := G') (Nat.le_refl _) (fun _ _ => rfl) (fun _ f => f) k1 k2 rfl (fun l => (s'.obj q l).1) fun l => dn _ (off' n c q l)
  · have : a ≠ D := fun z => by subst z; exact nF f
    rw [dn a this]; exact s'.fh a f
  · have : a ≠ D := fun z => by subst z; rw [nD] at q; cases q
    rw [dn a this]; exact E.frame a u (by rw [up a this]; exact q) no
  · rcases E.new n c q l with z | f
    · exact .inl z
    · refine .inr ?_
      rw [up _ (off' n c q l)] at f
      exact f
  · rcases E.nf a f with z | z | z
    · exact .inl z
    · by_cases e : a = D
      · subst e; exact .inr (.inl nD)
      · rw [up a e] at z; exact .inr (.inl z)
    · exact .inr (.inr z)
  · have : a ≠ D := fun z => by subst z; exact q nD
    rw [dn a this]; exact E.tr a (by rw [up a this]; exact q)
theorem RVs.del {K : PySem.W.Frag} {G : Gh} {H H' : Hp} {N : Nat} (f : ∀ d v, RV K CL N G H d v → RV K CL N G H' d v) : ∀ {ds : List D} {vs : List V}, RVs K CL N G H ds vs → RVs K CL N G H' ds vs
  | _, _, .nil => .nil
  | _, _, .cons a b => .cons (f _ _ a) (RVs.del f b)
/-- the block of a comprehension, at any place -/
def tEb (X : Cx) (scope : Scope) (x : Expr) : TE := fun σ H Q => ∀ (s : Shared) (H0 : Hp) (C : Addr) (cl : List (Str × Addr)) (fp : List Addr), tE (X.blk s H0 scope (compEnvC scope cl C X.env) fp) x σ H Q
def tTb (X : Cx) (scope : Scope) (fs : List Expr) : TT := match fs with
  | [y] => fun σ H Q => ∀ (s : Shared) (H0 : Hp) (C : Addr) (cl : List (Str × Addr)) (fp : List Addr), tT (X.blk s H0 scope (compEnvC scope cl C X.env) fp) y σ H Q
  | _ => tYes
/-- what a comprehension's parts are known to do -/
structure CPs (X : Cx) (CL : Nat → Option Addr) (Φ : FS) (scope : Scope) (own : List (Str × Nat)) (tg : Tg) (it : It) (c : Oe) (e : E) (elt t i : Expr) (fs : List Expr) : Prop where
  calm : X.calm = true
  nd : X.N.Nodup
  hi : SI X CL Φ it t i
  ok : BlkOk X.N X.env.scope scope own
  hg : ∀ (s : Shared) (H : Hp) (C : Addr) (cl : List (Str × Addr)) (fp : List Addr), PG (X.blk s H scope (compEnvC scope cl C X.env) fp) t (gTg X.K tg)
  he : ∀ (s : Shared) (H : Hp) (C : Addr) (cl : List (Str × Addr)) (fp : List Addr), SE (X.blk s H scope (compEnvC scope cl C X.env) fp) CL Φ e elt
  ht : (c = .none ∧ fs = []) ∨ ∃ e1 y, c = .some e1 ∧ fs = [y] ∧ ∀ (s : Shared) (H : Hp) (C : Addr) (cl : List (Str × Addr)) (fp : List Addr), ST (X.blk s H scope (compEnvC scope cl C X.env) fp) CL Φ e1 y
  ow : ∀ j ∈ tg.ids, j ∈ own.map (·.2)
  hs : ∀ x, foldedSetIterable i X.env x = pure x
theorem CPs.pts {scope : Scope} {own : List (Str × Nat)} {tg : Tg} {it : It} {c : Oe} {e : E} {elt t i : Expr} {fs : List Expr} (p : CPs X CL Φ scope own tg it c e elt t i fs) (s : Shared) (H : Hp) (C : Addr) (cl : List (Str × Addr)) (fp : List Addr) : PTs (X.blk s H scope (compEnvC scope cl C X.env) fp) fs (tTb X scope fs) := by
  rcases p.ht with ⟨_, rfl⟩ | ⟨e1, y, _, rfl, _⟩
  · exact pts_nil
  · exact pts_one ⟨fun pins s2 σ H2 Q I h => h s H C cl fp pins s2 I⟩
theorem CPs.pe {scope : Scope} {own : List (Str × Nat)} {tg : Tg} {it : It} {c : Oe} {e : E} {elt t i : Expr} {fs : List Expr} (s : Shared) (H : Hp) (C : Addr) (cl : List (Str × Addr)) (fp : List Addr) : PE (X.blk s H scope (compEnvC scope cl C X.env) fp) elt (tEb X scope elt) :=
  ⟨fun pins s2 σ H2 Q I h => h s H C cl fp pins s2 I⟩
/-- the walk of a comprehension -/
theorem CPs.lc {scope : Scope} {own : List (Str × Nat)} {tg : Tg} {it : It} {c : Oe} {e : E} {elt t i : Expr} {fs : List Expr} (p : CPs X CL Φ scope own tg it c e elt t i fs) {m : Bool} {env : Env} {h h' : CH} {d : D} (q : evE Φ (.comp m own tg it c e) env h = .ok d h')
    {G : Gh} {H : Hp} {σ : List (Option V)} (s : SR X.K CL G h H) (re : RE X.K CL h.length G H env σ) {Q : VK} (fin : ∀ G' H' v, EvR G h H G' h' H' → SR X.K CL G' h' H' → RV X.K CL h'.length G' H' d v → Q v H') :
    tLc (tI X t i) (gTg X.K tg) (tTb X scope fs) (tEb X scope elt) (own.map (·.2)) σ H Q := by
  simp only [evE] at q
  obtain ⟨pr, h1, q1, q⟩ := Z.R.bnd_inv q
  obtain ⟨ys, h2, q2, q⟩ := Z.R.bnd_inv q
  split at q
  · rename_i hsz
    refine p.hi env h h1 pr q1 G H σ s re _ fun J G1 H1 e1 s1 jok => fun D nD => ?_
    let body : Nat → Hp → Prop := fun j Hx => ∃ (Gx : Gh) (hx : CH) (Hm : Hp) (acc : List V) (yd rest : List Z.D), Hx = upd Hm D (.lst acc) ∧ Hm D = none ∧ SR X.K CL Gx hx Hm ∧ EvR G1 h1 H1 Gx hx Hm ∧ RVs X.K CL hx.length Gx Hm yd acc ∧
      compGo pr.2 (fun d => asgTg tg d (wipeE env (own.map (·.2)))) (fun en => evC Φ c en) (fun en => evE Φ e en) (pr.1.drop j) hx = .ok rest h2 ∧ yd ++ rest = ys ∧ j ≤ pr.1.length
    refine ⟨fun j m Hx => m = pr.1.length - j ∧ body j Hx, ⟨pr.1.length, rfl, G1, h1, H1, [], [], ys, rfl, nD, s1, EvR.refl _ _ _, .nil, q2, rfl, Nat.zero_le _⟩, ?_⟩
    rintro j m Hx ⟨rfl, Gx, hx, Hm, acc, yd, rest, rfl, nDm, sx, ex, rx, go, hys, hj⟩
    -- the state with the list beside it
    obtain ⟨sD, eD⟩ := sx.new (o := .lst acc) False nDm
    rw [more_false] at sD eD
    have e1x := ex.trans eD
    by_cases hlt : j < pr.1.length
    · refine .inr ?_
      obtain ⟨dj, hd⟩ : ∃ dj, pr.1[j]? = some dj := ⟨_, List.getElem?_eq_getElem hlt⟩
      have hdrop : pr.1.drop j = dj :: pr.1.drop (j + 1) := by
        rw [List.drop_eq_getElem_cons hlt]
        rw [List.getElem?_eq_getElem hlt] at hd
        cases hd
        rfl
      rw [hdrop] at go
      unfold compGo at go
      split at go
      · rename_i ck
        obtain ⟨jg, jy⟩ := jok.step Gx hx _ j dj e1x sD ck hd
        refine ⟨jg, body (j + 1), fun H' b => ⟨pr.1.length - (j + 1), by omega, rfl, b⟩, fun x H2 yl => ?_⟩
        obtain ⟨e2, s2, r2⟩ := jy x H2 yl
        split at go
        · rename_i env1 ha
          have reD : RE X.K CL hx.length Gx H2 (wipeE env (own.map (·.2))) (wipe σ (own.map (·.2))) := ((re.ev s e1).wiped _).ev s1 (e1x.trans e2)
          obtain ⟨σ', re', hg', hw'⟩ := asg_ok ha r2 reD
          refine hg' _ ⟨(hw' _ p.ow).trans (wipe_wipe _ _), ?_⟩
          obtain ⟨b, h3, ct, go⟩ := Z.R.bnd_inv go
          -- the test
          have test : ∀ Q3 : Bool → Hp → Prop, (∀ G3 H3, EvR Gx hx H2 G3 h3 H3 → SR X.K CL G3 h3 H3 → Q3 b H3) → tTb X scope fs σ' H2 Q3 := by
            intro Q3 hQ
            rcases p.ht with ⟨rfl, rfl⟩ | ⟨e1, y, rfl, rfl, st⟩
            · simp only [evC] at ct
              cases ct
              exact hQ _ _ (EvR.refl _ _ _) s2
            · intro sb H0 C cl fp
              exact st sb H0 C cl fp env1 hx h3 b ct Gx H2 σ' s2 re' Q3 fun G3 H3 a b _ => hQ G3 H3 a b
          refine test _ fun G3 H3 e3 s3 => ?_
          cases b with
          | false =>
            have go : compGo pr.2 (fun d => asgTg tg d (wipeE env (own.map (·.2)))) (fun en => evC Φ c en) (fun en => evE Φ e en) (pr.1.drop (j + 1)) h3 = .ok rest h2 := go
            show body (j + 1) H3
            obtain ⟨z1, z2, z3, z4⟩ := sx.del nDm (e2.trans e3) s3 trivial
            refine ⟨G3, h3, dl H3 D, acc, yd, rest, ?_, if_pos rfl, z2, ex.trans z3, rx.ev sx z3, go, hys, hlt⟩
            rw [dl_upd]
            funext a
            by_cases ha : a = D
            · subst ha; rw [upd_same]; exact z1
            · rw [upd_ne ha]
          | true =>
            have go : ((evE Φ e env1 h3).bnd fun y h2' => (compGo pr.2 (fun d => asgTg tg d (wipeE env (own.map (·.2)))) (fun en => evC Φ c en) (fun en => evE Φ e en) (pr.1.drop (j + 1)) h2').bnd fun ys h3 => .ok (y :: ys) h3) = .ok rest h2 := go
            obtain ⟨y, h4, ce, go⟩ := Z.R.bnd_inv go
            obtain ⟨ys', h5, cg, go⟩ := Z.R.bnd_inv go
            simp only [R.ok.injEq] at go
            obtain ⟨rfl, rfl⟩ := go
            show tEb X scope elt σ' H3 _
            intro sb H0 C cl fp
            refine p.he sb H0 C cl fp env1 h3 h4 y ce G3 H3 σ' s3 (re'.ev s2 e3) _ fun G4 H4 v e4 s4 r4 _ => ?_
            obtain ⟨z1, z2, z3, z4⟩ := sx.del nDm ((e2.trans e3).trans e4) s4 trivial
            refine ⟨acc, z1, ?_, G4, h4, dl H4 D, acc ++ [v], yd ++ [y], ys', (dl_upd _ _ _).symm, if_pos rfl, z2, ex.trans z3, (rx.ev sx z3).append (.cons (z4 _ _ r4) .nil), cg, by rw [← hys]; simp, hlt⟩
            refine SZ_lt (Nat.lt_of_lt_of_le ?_ hsz)
            rw [← hys, ← rx.length]
            simp only [List.length_append, List.length_cons]
            omega
        · cases go
      · cases go
    · refine .inl ?_
      have hle : pr.1.length ≤ j := Nat.le_of_not_lt hlt
      rw [List.drop_eq_nil_of_le hle] at go
      unfold compGo at go
      split at go
      · rename_i ck
        simp only [R.ok.injEq] at go
        obtain ⟨rfl, rfl⟩ := go
        rw [List.append_nil] at hys
        subst hys
        refine ⟨jok.stop Gx hx _ j e1x sD ck hle, ?_⟩
        cases m with
        | true =>
          simp only [newL, R.ok.injEq] at q
          obtain ⟨rfl, rfl⟩ := q
          obtain ⟨s9, e9⟩ := sx.newCell (.lst yd) nDm (o := .lst acc) trivial fun H' G' _ _ _ _ nf hH k => ⟨nf, acc, hH, k rx⟩
          refine fin _ _ _ ((e1.trans ex).trans e9) s9 ?_
          have q : RV X.K CL (hx ++ [Cell.lst yd]).length (Gx.cel hx.length D) (upd Hm D (.lst acc)) (.cell hx.length) (.ref ((Gx.cel hx.length D).φ hx.length)) := .cell (by simp)
          rw [show (Gx.cel hx.length D).φ hx.length = D from if_pos rfl] at q
          exact q
        | false =>
          simp only [newL, R.ok.injEq] at q
          obtain ⟨rfl, rfl⟩ := q
          obtain ⟨s9, e9⟩ := sx.new (o := .lst acc) True nDm
          exact fin _ _ _ ((e1.trans ex).trans e9) s9 (.lst (.inr ⟨trivial, rfl⟩) upd_same (rx.ev sx e9))
      · cases go
  · cases q
theorem CPs.se {scope : Scope} {own : List (Str × Nat)} {tg : Tg} {it : It} {c : Oe} {e : E} {elt t i : Expr} {fs : List Expr} {pos : Pos} {m : Bool} (p : CPs X CL Φ scope own tg it c e elt t i fs) : SE X CL Φ (.comp m own tg it c e) (.ListComp elt [⟨t, i, fs, 0⟩] scope pos) := by
  intro env h h' d q G H σ s re Q fin
  refine PE.go (pe_lc p.calm p.nd (tI_pi X t i) p.ok p.hg p.pts (CPs.pe (tg := tg) (it := it) (c := c) (e := e) (own := own) (t := t) (i := i) (fs := fs)) p.hs) fun rl => ?_
  exact p.lc q s re fun G' H' v a b r l => fin G' H' v a b r l
end
end Z

/-! all expressions -/
namespace Z
open PySem PySem.Spec L2
section
variable {L : LI} {CL : Nat → Option Addr} {Φ : FS} {k : Nat}
/-- in a comprehension's block -/
theorem XC.blk {X : Cx} (xc : XC L CL Φ k X) (s : Shared) (H : Hp) (scope : Scope) (ce : PySem.Env) (fp : List Addr) : XC L CL Φ k (X.blk s H scope ce fp) := ⟨xc.calm, xc.nd, xc.room, xc.bi, fun f fi e => let ⟨h⟩ := xc.fn f fi e; ⟨h⟩, xc.cl⟩
theorem bo_of {N : List Str} {sc : Scope} {b : E} {op : BoolOp} {ys : List Expr} {p : Pos} (c : chkE L N sc b (.BoolOp op ys p) = true) : isBo b = true := by
  cases b <;> first | rfl | (simp [chkE] at c)
structure AllE (X : Cx) (CL : Nat → Option Addr) (Φ : FS) (e : E) (x : Expr) : Prop where
  se : SE X CL Φ e x
  st : ST X CL Φ e x
  sw : isBo e = true → SW X CL Φ e x
theorem AllE.of {X : Cx} {e : E} {x : Expr} (ie : SE X CL Φ e x) (nb : isBo e = false) (hp : ∀ whole, isTrue x X.env whole = (do let v ← whole; standAt x.pos; holding [v] (truthy v))) : AllE X CL Φ e x := ⟨ie, st_val ie hp, fun h => by rw [nb] at h; cases h⟩
/-- the test of a form that isTrue does not open -/
def plainT : Expr → Bool
  | .UnaryOp .Not .. => false
  | .BoolOp .. => false
  | .IfExp .. => false
  | .Compare .. => false
  | _ => true
theorem plainT_ok {x : Expr} (h : plainT x = true) (env : PySem.Env) (whole : Sem Value) : isTrue x env whole = (do let v ← whole; standAt x.pos; holding [v] (truthy v)) := by
  cases x with
  | UnaryOp o y p => cases o <;> first | rfl | cases h
  | _ => first | rfl | cases h
theorem AllE.pl {X : Cx} {e : E} {x : Expr} (ie : SE X CL Φ e x) (nb : isBo e = false) (h : plainT x = true) : AllE X CL Φ e x := .of ie nb (plainT_ok h X.env)
theorem se_pt {X : Cx} {sc : Scope} {t a b : E} {x : Expr} (tt : ∀ x, chkE L X.N sc t x = true → ST X CL Φ t x) (ia : ∀ x, chkE L X.N sc a x = true → ST X CL Φ a x) (ib : ∀ x, chkE L X.N sc b x = true → ST X CL Φ b x) (c : chkE L X.N sc (.ife t a b) x = true) : ST X CL Φ (.ife t a b) x := by
  simp only [chkE] at c
  split at c
  · rename_i y1 y2 y3 pos
    simp only [Bool.and_eq_true] at c
    obtain ⟨c1, c2, c3⟩ := c
    intro env h h' d e G H σ s re Q p
    obtain ⟨d0, h0, e, e9⟩ := Z.R.bnd_inv e
    simp only [evE] at e
    obtain ⟨xv, h1, ea, e⟩ := Z.R.bnd_inv e
    intro pins st I
    have := tt _ c1 env h _ _ ea G H σ s re (fun b H1 => tT X (if b = true then y2 else y3) σ H1 Q) (fun G1 H1 e1 s1 l1 => by
      cases xv with
      | true => exact ia _ c2 env h1 _ d (by rw [show evE Φ a env h1 = .ok d0 h0 from e]; exact e9) G1 H1 σ s1 (re.ev s e1) _ (p.from e1)
      | false => exact ib _ c3 env h1 _ d (by rw [show evE Φ b env h1 = .ok d0 h0 from e]; exact e9) G1 H1 σ s1 (re.ev s e1) _ (p.from e1)) pins st I
    show wpAny _ _ (isTrue y1 X.env (eval y1 X.env) >>= fun b => if b = true then isTrue y2 X.env (eval y2 X.env) else isTrue y3 X.env (eval y3 X.env)) _ _ _
    refine wpAny_bind (thn this fun b s1 ⟨H1, I1, q⟩ => ?_)
    cases b with
    | true => exact q pins s1 I1
    | false => exact q pins s1 I1
  · cases c
theorem chk_plain {N : List Str} {sc : Scope} {e : E} {x : Expr} (c : chkE L N sc e x = true) (h : (match e with
    | .not _ => false
    | .bo1 .. => false
    | .bo .. => false
    | .cmp .. => false
    | .ife .. => false
    | _ => true) = true) : plainT x = true := by
  cases e <;> first | (cases h; done) | (simp only [chkE] at c; split at c <;> first | rfl | (cases c; done))
theorem set_plain {i : Expr} (h : isSet i = false) (env : PySem.Env) (x : Value) : foldedSetIterable i env x = pure x := by
  cases i <;> first | rfl | cases h
mutual
theorem allE : ∀ (e : E) {X : Cx} (xc : XC L CL Φ k X) {sc : Scope} (hs : X.env.scope = sc) (x : Expr), chkE L X.N sc e x = true → AllE X CL Φ e x
  | .var i, X, xc, sc, hs, x, c => .pl (se_var hs c) rfl (chk_plain c rfl)
  | .con kc, X, xc, sc, hs, x, c => .pl (se_con c) rfl (chk_plain c rfl)
  | .bin o m a b, X, xc, sc, hs, x, c => .pl (se_bin (fun x c => (allE a xc hs x c).se) (fun x c => (allE b xc hs x c).se) c) rfl (chk_plain c rfl)
  | .neg a, X, xc, sc, hs, x, c => .pl (se_neg (fun x c => (allE a xc hs x c).se) c) rfl (chk_plain c rfl)
  | .not a, X, xc, sc, hs, x, c => let z := se_not (fun x c => (allE a xc hs x c).se) (fun x c => (allE a xc hs x c).st) c; ⟨z.1, z.2, fun h => nomatch h⟩
  | .bo1 o a, X, xc, sc, hs, x, c => let z := se_bo1 (fun x c => (allE a xc hs x c).se) (fun x c => (allE a xc hs x c).st) c; ⟨z.1, z.2.st, fun _ => z.2⟩
  | .bo o a b, X, xc, sc, hs, x, c => by
    have hb : isBo b = true := by
      simp only [chkE] at c
      split at c
      · simp only [Bool.and_eq_true] at c
        exact bo_of c.2.2
      · cases c
    have z := se_bo (fun x c => (allE a xc hs x c).se) (fun x c => (allE a xc hs x c).st) (fun x c => (allE b xc hs x c).se) (fun h x c => (allE b xc hs x c).sw h) hb c
    exact ⟨z.1, z.2.st, fun _ => z.2⟩
  | .cmp o a b, X, xc, sc, hs, x, c => let z := se_cmp xc (fun x c => (allE a xc hs x c).se) (fun x c => (allE b xc hs x c).se) c; ⟨z.1, z.2, fun h => nomatch h⟩
  | .ife t a b, X, xc, sc, hs, x, c => ⟨se_ife (fun x c => (allE t xc hs x c).st) (fun x c => (allE a xc hs x c).se) (fun x c => (allE b xc hs x c).se) c, se_pt (fun x c => (allE t xc hs x c).st) (fun x c => (allE a xc hs x c).st) (fun x c => (allE b xc hs x c).st) c, fun h => nomatch h⟩
  | .tup es, X, xc, sc, hs, x, c => .pl (se_tup (fun x c => allEs es xc hs x c) c) rfl (chk_plain c rfl)
  | .lst m es, X, xc, sc, hs, x, c => .pl (se_lst (fun x c => allEs es xc hs x c) c) rfl (chk_plain c rfl)
  | .call md f es, X, xc, sc, hs, x, c => .pl (se_call xc hs (fun x c => allEs es xc hs x c) c) rfl (chk_plain c rfl)
  | .callD md f es kc, X, xc, sc, hs, x, c => .pl (se_callD xc hs (fun x c => allEs es xc hs x c) c) rfl (chk_plain c rfl)
  | .callK md f es e, X, xc, sc, hs, x, c => .pl (se_callK xc hs (fun x c => allEs es xc hs x c) (fun x c => (allE e xc hs x c).se) c) rfl (chk_plain c rfl)
  | .bi f m es, X, xc, sc, hs, x, c => .pl (se_bi xc hs (fun x c => allEs es xc hs x c) c) rfl (chk_plain c rfl)
  | .isi a tp ts, X, xc, sc, hs, x, c => .pl (se_isi xc hs (fun x c => (allE a xc hs x c).se) c) rfl (chk_plain c rfl)
  | .mth o f es, X, xc, sc, hs, x, c => .pl (se_mth (fun x c => (allE o xc hs x c).se) (fun x c => allEs es xc hs x c) c) rfl (chk_plain c rfl)
  | .ix a i, X, xc, sc, hs, x, c => .pl (se_ix (fun x c => (allE a xc hs x c).se) (fun x c => (allE i xc hs x c).se) c) rfl (chk_plain c rfl)
  | .slc m a lo hi, X, xc, sc, hs, x, c => .pl (se_slc (fun x c => (allE a xc hs x c).se) (fun x c => allO lo xc hs x c) (fun x c => allO hi xc hs x c) c) rfl (chk_plain c rfl)
  | .rev m a, X, xc, sc, hs, x, c => .pl (se_rev (fun x c => (allE a xc hs x c).se) c) rfl (chk_plain c rfl)
  | .comp m own tg it c0 e, X, xc, sc, hs, x, c => by
    refine .pl ?_ rfl (chk_plain c rfl)
    simp only [chkE] at c
    split at c
    · rename_i elt t i fs scope pos
      simp only [Bool.and_eq_true, Bool.not_eq_true'] at c
      obtain ⟨c1, c2, c3, c4, c5, c6, c7, c8⟩ := c
      subst hs
      have hg : ∀ (s : Shared) (H : Hp) (C : Addr) (cl : List (Str × Addr)) (fp : List Addr), PG (X.blk s H scope (compEnvC scope cl C X.env) fp) t (gTg X.K tg) := fun s H C cl fp => pg_tg (X := X.blk s H scope (compEnvC scope cl C X.env) fp) xc.calm xc.nd rfl rfl c3
      refine CPs.se ⟨xc.calm, xc.nd, allIt it xc rfl (fun ts e => ?_) c7 i c2, blkOk_by c1, hg, fun s H C cl fp => (allE e (xc.blk s H scope (compEnvC scope cl C X.env) fp) rfl _ c5).se, allC c0 xc c4, own_ok c6, set_plain c8 X.env⟩
      subst e
      cases t with
      | Tuple elts kk tp => exact ⟨_, _, _, rfl⟩
      | _ => simp [chkTg] at c3
    · cases c
theorem allEs : ∀ (es : Es) {X : Cx} (xc : XC L CL Φ k X) {sc : Scope} (hs : X.env.scope = sc) (xs : List Expr), chkEs L X.N sc es xs = true → SEs X CL Φ es xs
  | .nil, X, xc, sc, hs, xs, c => ses_nil c
  | .cons e es, X, xc, sc, hs, xs, c => ses_cons (fun x c => (allE e xc hs x c).se) (fun x c => allEs es xc hs x c) c
theorem allO : ∀ (o : Oe) {X : Cx} (xc : XC L CL Φ k X) {sc : Scope} (hs : X.env.scope = sc) (x : Option Expr), chkO L X.N sc o x = true → SO X CL Φ o x
  | .none, X, xc, sc, hs, x, c => so_none c
  | .some e, X, xc, sc, hs, x, c => so_some (fun x c => (allE e xc hs x c).se) c
theorem allC : ∀ (o : Oe) {X : Cx} (xc : XC L CL Φ k X) {scope : Scope} {fs : List Expr}, chkC L X.N (relS scope X.env.scope) o fs = true → (o = .none ∧ fs = []) ∨ ∃ e1 y, o = .some e1 ∧ fs = [y] ∧ ∀ (s : Shared) (H : Hp) (C : Addr) (cl : List (Str × Addr)) (fp : List Addr), ST (X.blk s H scope (compEnvC scope cl C X.env) fp) CL Φ e1 y
  | .none, X, xc, scope, fs, c => .inl ⟨rfl, by simpa [chkC] using c⟩
  | .some e, X, xc, scope, fs, c => by
    simp only [chkC] at c
    split at c
    · rename_i y
      exact .inr ⟨e, y, rfl, rfl, fun s H C cl fp => (allE e (xc.blk s H scope (compEnvC scope cl C X.env) fp) rfl _ c).st⟩
    · cases c
theorem allIt : ∀ (it : It) {X : Cx} (xc : XC L CL Φ k X) {sc : Scope} (hs : X.env.scope = sc) {tg : Expr} {tt : Tg} (ht : ∀ ts, tt = .tp ts → ∃ elts kk tp, tg = .Tuple elts kk tp) (hp : isPair it tt = true) (i : Expr), chkIt L X.N sc it i = true → SI X CL Φ it tg i
  | .e a, X, xc, sc, hs, tg, tt, ht, hp, i, c => si_seq (fun x c => (allE a xc hs x c).se) c
  | .f fn es, X, xc, sc, hs, tg, tt, ht, hp, i, c => si_fn xc hs hp ht (fun x c => allEs es xc hs x c) c
end
end
end Z

/-! a cell is settled -/
namespace Z
open PySem PySem.Spec L2
section
variable {K : PySem.W.Frag} {CL : Nat → Option Addr} {N N' : Nat} {G G' : Gh} {H H' : Hp} {h h' : CH}
def Gh.kl (G : Gh) (l : List Nat) (h : CH) : Gh := ⟨G.φ, fun a => G.F a ∨ ∃ n c, n ∈ l ∧ h[n]? = some c ∧ c.live = true ∧ G.φ n = a⟩
theorem kill_get {l : List Nat} {h : CH} {n : Nat} {c : Cell} (e : (kill l h)[n]? = some c) : ∃ c0, h[n]? = some c0 ∧ ((n ∈ l ∧ c = .dead) ∨ (n ∉ l ∧ c = c0)) := by
  unfold kill at e
  rw [List.getElem?_mapIdx] at e
  cases q : h[n]? with
  | none => rw [q] at e; cases e
  | some c0 =>
    rw [q] at e
    simp only [Option.map_some, Option.some.injEq] at e
    refine ⟨c0, rfl, ?_⟩
    by_cases hn : n ∈ l
    · rw [if_pos (by simpa using hn)] at e
      exact .inl ⟨hn, e.symm⟩
    · rw [if_neg (by simpa using hn)] at e
      exact .inr ⟨hn, e.symm⟩
theorem kill_len {l : List Nat} {h : CH} : (kill l h).length = h.length := by unfold kill; simp
theorem SR.kill (s : SR K CL G h H) (l : List Nat) : SR K CL (G.kl l h) (kill l h) H ∧ EvR G h H (G.kl l h) (kill l h) H := by
  have fr : ∀ a, G.F a → (G.kl l h).F a := fun a f => .inl f
  refine ⟨⟨fun n c e => ?_, fun n m c e a b la lb z => ?_, fun a f => ?_⟩, ⟨Nat.le_of_eq kill_len.symm, fun _ _ => rfl, fr, fun a o q _ => q, fun n c e lc => ?_, fun a f => ?_, fun a q => q⟩⟩
  · obtain ⟨c0, e0, ⟨hn, rfl⟩ | ⟨hn, rfl⟩⟩ := kill_get e
    · trivial
    · rw [kill_len]
      refine (s.cell n c e0).keep (G := G) (G' := G.kl l h) (Nat.le_refl _) (fun _ _ => rfl) fr (fun a o q _ => q) (fun a o _ q => q) rfl (fun lv => ?_) fun _ => rfl
      rintro (z | ⟨m, c1, hm, em, lm, z⟩)
      · exact (s.obj e0 lv).1 z
      · have : m = n := s.inj m n c1 c em e0 lm lv z
        subst this
        exact hn hm
  · obtain ⟨c0, e0, ⟨hn, rfl⟩ | ⟨hn, rfl⟩⟩ := kill_get a
    · cases la
    · obtain ⟨c1, e1, ⟨hm, rfl⟩ | ⟨hm, rfl⟩⟩ := kill_get b
      · cases lb
      · exact s.inj n m _ _ e0 e1 la lb z
  · rcases f with f | ⟨n, c, _, e, lv, rfl⟩
    · exact s.fh a f
    · obtain ⟨_, u, q, _⟩ := s.obj e lv
      rw [q]; simp
  · obtain ⟨c0, e0, ⟨hn, rfl⟩ | ⟨hn, rfl⟩⟩ := kill_get e
    · cases lc
    · exact .inl ⟨lt_of_get e0, c, e0, lc⟩
  · rcases f with f | ⟨n, c, _, e, lv, z⟩
    · exact .inl f
    · exact .inr (.inr ⟨n, c, e, lv, z⟩)
theorem RVs.of_mapM' {f : D → Option D} {N N' : Nat} {G G' : Gh} : ∀ {xs ys : List D} {vs : List V}, xs.mapM f = some ys → (∀ x ∈ xs, ∀ y v, f x = some y → RV K CL N G H x v → RV K CL N' G' H y v) → RVs K CL N G H xs vs → RVs K CL N' G' H ys vs
  | [], ys, _, e, _, .nil => by simp at e; subst e; exact .nil
  | x :: xs, ys, _, e, k, .cons a b => by
    rw [List.mapM_cons] at e
    cases q : f x with
    | none => rw [q] at e; cases e
    | some y =>
      rw [q] at e
      cases q2 : xs.mapM f with
      | none => rw [q2] at e; cases e
      | some zs =>
        rw [q2] at e
        have e' : y :: zs = ys := by simpa using e
        subst e'
        exact .cons (k x List.mem_cons_self y _ q a) (RVs.of_mapM' q2 (fun z hz => k z (List.mem_cons_of_mem _ hz)) b)
theorem snapK_ok (s : SR K CL G h H) {l : List Nat} : ∀ (k : Nat) (d d' : D) (v : V), snapF h k d = some d' → (∀ n ∈ cellsF h k d, n ∈ l) → RV K CL h.length G H d v → RV K CL N' (G.kl l h) H d' v := by
  intro k
  induction k with
  | zero => intro d d' v e; cases e
  | succ k ih =>
    intro d d' v e hl r
    cases r with
    | non => simp [snapF] at e; subst e; exact .non
    | bl b => simp [snapF] at e; subst e; exact .bl b
    | int i => simp [snapF] at e; subst e; exact .int i
    | str x => simp [snapF] at e; subst e; exact .str x
    | tup a b =>
      simp only [snapF, Option.map_eq_some_iff] at e
      obtain ⟨ys, e1, rfl⟩ := e
      simp only [cellsF, List.mem_flatMap] at hl
      exact .tup a (RVs.of_mapM' e1 (fun x hx y v q rv => ih x y v q (fun n hn => hl n ⟨x, hx, hn⟩) rv) b)
    | lst f a b =>
      simp only [snapF, Option.map_eq_some_iff] at e
      obtain ⟨ys, e1, rfl⟩ := e
      simp only [cellsF, List.mem_flatMap] at hl
      exact .lst (.inl f) a (RVs.of_mapM' e1 (fun x hx y v q rv => ih x y v q (fun n hn => hl n ⟨x, hx, hn⟩) rv) b)
    | @cell n ln =>
      simp only [snapF] at e
      cases q : h[n]? with
      | none => rw [q] at e; cases e
      | some c =>
        rw [q] at e
        cases c with
        | lst ds =>
          simp only [Option.map_eq_some_iff] at e
          obtain ⟨ys, e1, rfl⟩ := e
          obtain ⟨_, vs, a, b⟩ := s.cell n _ q
          simp only [cellsF, q, List.mem_cons, List.mem_flatMap] at hl
          exact .lst (.inr ⟨n, _, hl n (.inl rfl), q, rfl, rfl⟩) a (RVs.of_mapM' e1 (fun x hx y v q rv => ih x y v q (fun n hn => hl n (.inr ⟨x, hx, hn⟩)) rv) b)
        | ins c ds => cases e
        | dct kvs => cases e
        | dead => cases e
    | ins f a b c => simp [snapF] at e
    | scr a => simp [snapF] at e; subst e; exact .scr a
/-- what frz makes -/
theorem frz_ok (s : SR K CL G h H) {d d' : D} {v : V} (e : frzD h d = some (d', h')) (r : RV K CL h.length G H d v) : ∃ G', SR K CL G' h' H ∧ EvR G h H G' h' H ∧ RV K CL h'.length G' H d' v := by
  unfold frzD at e
  split at e
  · simp only [Option.some.injEq, Prod.mk.injEq] at e
    obtain ⟨rfl, rfl⟩ := e
    exact ⟨G, s, EvR.refl _ _ _, r⟩
  · simp only [Option.map_eq_some_iff, Prod.mk.injEq] at e
    obtain ⟨x, e1, rfl, rfl⟩ := e
    obtain ⟨a, b⟩ := s.kill (cellsF h 6 d)
    exact ⟨_, a, b, snapK_ok s 6 d x v e1 (fun n hn => hn) r⟩
end
end Z

/-! statements -/
namespace Z
open PySem PySem.Spec L2
def isFun (sc : Scope) : Bool := match sc.kind with
  | .function => true
  | _ => false
theorem isFun_ok {sc : Scope} (h : isFun sc = true) : sc.kind = .function := by
  unfold isFun at h
  split at h
  · assumption
  · cases h
def lcB (sc s : Scope) (py p : Pos) (y : Str) : Bool := (py.line == p.line) && (!(s.names.any fun (n, k) => n == y && (k == .local || k == .cell)) && isFun sc)
/-- how a value is stored -/
def asgB (sc : Scope) (t v : Expr) : Bool := match v with
  | .ListComp _ _ s p => (match t with
    | .Name y py => decide (sc.names.lookup y = some .cell) || (decide (sc.names.lookup y = some .local) && lcB sc s py p y)
    | _ => true)
  | .SetComp .. => false
  | .DictComp .. => false
  | .Tuple vs _ _ => (match t with
    | .Name .. => true
    | .Subscript .. => true
    | _ => vs.all (foldedForSure 8))
  | _ => true
def isCo (v : Expr) : Bool := match v with
  | .ListComp .. => true
  | .SetComp .. => true
  | .DictComp .. => true
  | _ => false
def chkTgt (L : LI) (N : List Str) (sc : Scope) (fn : Str → Bool) : Tgt → Expr → Bool
  | .nm i, .Name x _ => stB N sc fn i x
  | .tp is, .Tuple xs _ _ => chkTgs N sc fn is xs
  | .sub a i, .Subscript y z _ => chkE L N sc a y && chkE L N sc i z
  | _, _ => false
mutual
def chkS (L : LI) (N : List Str) (sc : Scope) (fn : Str → Bool) : S → Stmt → Bool
  | .asg tg e, x => (match x with
    | .Assign [t] v _ => chkE L N sc e v && (chkTgt L N sc fn tg t && asgB sc t v)
    | _ => false)
  | .par i j a b, x => (match x with
    | .Assign [.Tuple [.Name y py, .Name z pz] _ _] (.Tuple [l, r] _ _) _ => !(i == j) && (decide (N[i]? = some y) && (decide (N[j]? = some z) && (decide (sc.names.lookup y = some .local) && (decide (sc.names.lookup z = some .local) && ((!(y == z)) && ((pz.line == py.line) && (isFun sc &&
        (chkE L N sc a l && (chkE L N sc b r && (!([l, r].all (foldedForSure 8)) && !([l, r].all (constantsAlone 8))))))))))))
    | _ => false)
  | .aug i e, x => (match x with
    | .AugAssign (.Name y _) .Add v _ => stB N sc fn i y && chkE L N sc e v
    | _ => false)
  | .expr e, x => (match x with
    | .Expr v _ => chkE L N sc e v && !isCo v
    | _ => false)
  | .ret e, x => (match x with
    | .Return (some v) _ => chkE L N sc e v
    | .Return none _ => (match e with
      | .con .non => true
      | _ => false)
    | _ => false)
  | .ife t a b, x => (match x with
    | .If c p q _ => chkE L N sc t c && (chkSs L N sc fn a p && chkSs L N sc fn b q)
    | _ => false)
  | .fr tg it b _, x => (match x with
    | .For t i body [] _ => chkIt L N sc it i && (chkTg N sc fn tg t && (chkSs L N sc fn b body && (isPair it tg && !isSet i)))
    | _ => false)
  | .whl t b _, x => (match x with
    | .While c body [] _ => chkE L N sc t c && chkSs L N sc fn b body
    | _ => false)
  | .pass, x => (match x with
    | .Pass _ => true
    | .Expr (.Constant (.str _) _ _) _ => true
    | _ => false)
  | .frz _, _ => false
  | .fg _, _ => false
  | .nev, _ => true
def chkSs (L : LI) (N : List Str) (sc : Scope) (fn : Str → Bool) : Ss → List Stmt → Bool
  | .nil, xs => xs.isEmpty
  | .cons s ss, xs => (match s with
    | .frz _ => chkSs L N sc fn ss xs
    | .fg _ => chkSs L N sc fn ss xs
    | _ => (match xs with
      | x :: xs => chkS L N sc fn s x && chkSs L N sc fn ss xs
      | [] => false))
end
section
variable {L : LI} {CL : Nat → Option Addr} {Φ : FS} {k : Nat}
def tS (X : Cx) (x : Stmt) : TS := fun D σ H => ∀ pins s, Inv X pins σ H s → wpAny (model X.prog X.w) X.A (exec x X.env) (SP X pins D) X.xe s
theorem tS_ps (X : Cx) (x : Stmt) : PS X x (tS X x) := ⟨fun pins s σ H D I h => h pins s I⟩
def tSs (X : Cx) (x : List Stmt) : TS := fun D σ H => ∀ pins s, Inv X pins σ H s → wpAny (model X.prog X.w) X.A (execs x X.env) (SP X pins D) X.xe s
theorem tSs_ps (X : Cx) (x : List Stmt) : PSs X x (tSs X x) := ⟨fun pins s σ H D I h => h pins s I⟩
theorem PS.go {X : Cx} {x : Stmt} {t : TS} (p : PS X x t) {σ : List (Option V)} {H : Hp} {D : Ends} (h : t D σ H) : tS X x D σ H := fun pins s I => p.run pins s σ H D I h
theorem PSs.go {X : Cx} {x : List Stmt} {t : TS} (p : PSs X x t) {σ : List (Option V)} {H : Hp} {D : Ends} (h : t D σ H) : tSs X x D σ H := fun pins s I => p.run pins s σ H D I h
/-- behind a statement -/
def PstS (X : Cx) (CL : Nat → Option Addr) (G : Gh) (h : CH) (H : Hp) (r : RS) (D : Ends) : Prop := match r with
  | .nx env' h' => ∀ G' H' σ', EvR G h H G' h' H' → SR X.K CL G' h' H' → RE X.K CL h'.length G' H' env' σ' → D.nx σ' H'
  | .rt d h' => ∀ G' H' v, EvR G h H G' h' H' → SR X.K CL G' h' H' → RV X.K CL h'.length G' H' d v → D.rt v H'
  | _ => False
theorem PstS.from {X : Cx} {G G1 : Gh} {h h1 : CH} {H H1 : Hp} {r : RS} {D : Ends} (p : PstS X CL G h H r D) (e : EvR G h H G1 h1 H1) : PstS X CL G1 h1 H1 r D := by
  cases r with
  | nx env' h' => exact fun G' H' σ' a b c => p G' H' σ' (e.trans a) b c
  | rt d h' => exact fun G' H' v a b c => p G' H' v (e.trans a) b c
  | ex c ds h' => exact p
  | no => exact p
def SSt (X : Cx) (CL : Nat → Option Addr) (Φ : FS) (s : S) (x : Stmt) : Prop := ∀ (env : Env) (h : CH) (G : Gh) (H : Hp) (σ : List (Option V)), SR X.K CL G h H → RE X.K CL h.length G H env σ → ∀ D : Ends, PstS X CL G h H (evS Φ s env h) D → tS X x D σ H
def SSts (X : Cx) (CL : Nat → Option Addr) (Φ : FS) (s : Ss) (x : List Stmt) : Prop := ∀ (env : Env) (h : CH) (G : Gh) (H : Hp) (σ : List (Option V)), SR X.K CL G h H → RE X.K CL h.length G H env σ → ∀ D : Ends, PstS X CL G h H (evSs Φ s env h) D → tSs X x D σ H
theorem of_inv {X : Cx} {α : Type} {r : R α} {f : α → CH → RS} {G : Gh} {h : CH} {H : Hp} {D : Ends} (p : PstS X CL G h H (RS.of r f) D) : ∃ a h1, r = .ok a h1 ∧ PstS X CL G h H (f a h1) D := by
  cases r with
  | ok a h1 => exact ⟨a, h1, rfl, p⟩
  | ex c ds h1 => exact p.elim
  | no => exact p.elim
variable {X : Cx}
/-- the value first -/
theorem se_then {e : E} {x : Expr} (a : SE X CL Φ e x) {env : Env} {h h1 : CH} {d : D} (q : evE Φ e env h = .ok d h1) {G : Gh} {H : Hp} {σ : List (Option V)} (s : SR X.K CL G h H) (re : RE X.K CL h.length G H env σ) {Q : VK}
    (p : ∀ G1 H1 v, EvR G h H G1 h1 H1 → SR X.K CL G1 h1 H1 → RV X.K CL h1.length G1 H1 d v → RE X.K CL h1.length G1 H1 env σ → Q v H1) : tE X x σ H Q := a env h h1 d q G H σ s re Q fun G1 H1 v e1 s1 r1 _ => p G1 H1 v e1 s1 r1 (re.ev s e1)
theorem sw_no {v t : Expr} {l : Nat} {env : PySem.Env} (h : isCo v = false) : swapsWith v t l env = pure false := by
  cases v <;> first | rfl | cases h
theorem sw_cell {elt : Expr} {gs : List Comprehension} {scope : Scope} {pos py : Pos} {y : Str} {l : Nat} {env : PySem.Env} (hy : env.scope.names.lookup y = some .cell) : swapsWith (.ListComp elt gs scope pos) (some (.Name y py)) l env = pure false := by
  have ky : env.kindOf y = some .cell := hy
  have : (some NameKind.cell == some NameKind.local) = false := by decide
  unfold swapsWith
  simp only [ky, this, Bool.and_false, Bool.false_and]
def notNm : Expr → Bool
  | .Name .. => false
  | _ => true
def notSD : Expr → Bool
  | .SetComp .. => false
  | .DictComp .. => false
  | _ => true
theorem sd_of {sc : Scope} {t v : Expr} (h : asgB sc t v = true) : notSD v = true := by cases v <;> first | rfl | cases h
theorem sw_else {v t : Expr} {l : Nat} {env : PySem.Env} (h : notNm t = true) (h2 : notSD v = true) : swapsWith v (some t) l env = pure false := by
  cases v <;> first | rfl | (cases h2; done) | (cases t <;> first | rfl | (cases h; done))
theorem swn {ts vs : List Expr} {k j : Nat} {p q : Pos} {env : PySem.Env} (h : vs.all (foldedForSure 8) = true) : swappedStores [.Tuple ts k p] (.Tuple vs j q) env = pure none := by
  unfold swappedStores
  simp only [h, if_true]
  repeat' split
  all_goals rfl
theorem swn2 {t v : Expr} {env : PySem.Env} (h : (match v with
    | .Tuple .. => false
    | _ => true) = true) : swappedStores [t] v env = pure none := by
  cases v <;> first | (cases h; done) | (cases t <;> rfl)
theorem swn3 {t v : Expr} {env : PySem.Env} (h : (match t with
    | .Name .. => true
    | .Subscript .. => true
    | _ => false) = true) : swappedStores [t] v env = pure none := by
  cases t <;> first | (cases h; done) | (cases v <;> rfl)
theorem sw_two {y z : Str} {py pz pt pt2 : Pos} {kt k2 : Nat} {l r : Expr} {env : PySem.Env} (hk : env.scope.kind = .function) (hy : env.scope.names.lookup y = some .local) (hz : env.scope.names.lookup z = some .local) (hne : (y == z) = false) (hl : (pz.line == py.line) = true)
    (hs : [l, r].any (fun | .Starred .. => true | _ => false) = false) (h1 : [l, r].all (foldedForSure 8) = false) (h2 : [l, r].all (constantsAlone 8) = false) :
    swappedStores [.Tuple [.Name y py, .Name z pz] kt pt] (.Tuple [l, r] k2 pt2) env = pure (some [y, z]) := by
  have ky : env.kindOf y = some .local := hy
  have kz : env.kindOf z = some .local := hz
  have hb : env.blockKind = .function := by unfold PySem.Env.blockKind; rw [hk]; rfl
  have hne2 : (z == y) = false := by
    cases q : (z == y) with
    | false => rfl
    | true => rw [eq_of_beq q] at hne; simp at hne
  have hl' : pz.line = py.line := eq_of_beq hl
  simp only [List.all_cons, List.all_nil, Bool.and_true] at h1 h2
  simp only [List.any_cons, List.any_nil, Bool.or_false] at hs
  unfold swappedStores
  simp [ky, kz, hb, hl', Expr.pos, hne2, List.eraseDups_cons, h1, h2, hs]
  intro q
  rw [Bool.or_eq_false_iff] at hs
  rcases q with q | q
  · cases l <;> first | (cases q; done) | (cases hs.1; done)
  · cases r <;> first | (cases q; done) | (cases hs.2; done)
theorem noStar {N : List Str} {sc : Scope} {a : E} {l : Expr} (h : chkE L N sc a l = true) : (match l with
    | .Starred .. => true
    | _ => false) = false := by
  cases l <;> first | rfl | (exfalso; cases a <;> simp [chkE] at h)
theorem ix_assign {N : List Str} {sc : Scope} {i : E} {y z : Expr} {pos : Pos} {env : PySem.Env} (h : chkE L N sc i z = true) (v : Value) : assign (.Subscript y z pos) env v = (do
      let ov ← holding [v] (eval y env)
      let iv ← holding [v, ov] (eval z env)
      standAt pos
      holding [v, ov, iv] (setItem ov iv v)
      release [v, ov, iv] []) := by
  cases z <;> first | rfl | (exfalso; cases i <;> simp [chkE] at h)
theorem setV_ok {G : Gh} {h h' : CH} {H : Hp} {x i y : D} {o iv v : V} {Q : Hp → Prop} (s : SR X.K CL G h H) (e : setV x i y h = some h') (rx : RV X.K CL h.length G H x o) (ri : RV X.K CL h.length G H i iv) (ry : RV X.K CL h.length G H y v)
    (p : ∀ H', EvR G h H G h' H' → SR X.K CL G h' H' → Q H') : rSetL o iv v H Q := by
  unfold setV at e
  split at e
  · rename_i n k
    split at e
    · rename_i ds q
      obtain ⟨rfl, vs, hv, rv⟩ := cell_at s q rx
      cases ri
      have hl := rv.length
      have go : ∀ j, some (h.set n (.lst (ds.set j y))) = some h' → ixN vs.length k = some j → rSetL (.ref (G.φ n)) (.int k) v H Q := fun j e1 e2 => by
        cases e1
        obtain ⟨a, b⟩ := store_lst s q (rv.set ry j)
        exact ⟨_, vs, k, j, rfl, rfl, hv, e2, p _ b a⟩
      split at e
      · rename_i h0
        split at e
        · rename_i h1
          refine go _ e ?_
          unfold ixN
          rw [if_pos h0, if_pos (by omega)]
        · cases e
      · rename_i h0
        split at e
        · rename_i h1
          refine go _ e ?_
          unfold ixN
          rw [if_neg h0, if_pos (by omega), hl]
        · cases e
    · cases e
  · cases e
theorem ss_asg (xc : XC L CL Φ k X) {sc : Scope} {fn : Str → Bool} (hs : X.env.scope = sc) (hf : X.fn = fn) {tg : Tgt} {e : E} {x : Stmt} (c : chkS L X.N sc fn (.asg tg e) x = true) : SSt X CL Φ (.asg tg e) x := by
  simp only [chkS] at c
  split at c
  · rename_i t v pos
    simp only [Bool.and_eq_true] at c
    obtain ⟨c1, c2, c3⟩ := c
    subst hs hf
    have se := (allE e xc rfl v c1).se
    intro env h G H σ s re D p
    simp only [evS] at p
    obtain ⟨d, h1, q, p⟩ := of_inv p
    cases tg with
    | nm i =>
      cases t with
      | Name y py =>
        obtain ⟨b1, b2, b3⟩ := stB_ok (show stB X.N X.env.scope X.fn i y = true from c2)
        have fin : ∀ G1 H1 w, EvR G h H G1 h1 H1 → SR X.K CL G1 h1 H1 → RV X.K CL h1.length G1 H1 d w → RE X.K CL h1.length G1 H1 env σ → gName i w σ H1 D.nx := fun G1 H1 w e1 s1 r1 re1 => p G1 H1 _ e1 s1 (re1.set r1 i)
        by_cases hco : isCo v = true
        · cases v with
          | ListComp elt gs scope p2 =>
            simp only [asgB, Bool.or_eq_true, Bool.and_eq_true, decide_eq_true_eq] at c3
            rcases c3 with c3 | ⟨c3, c4⟩
            · exact PS.go (ps_set xc.nd b1 b2 (tE_pe X _) (sw_cell c3) b3) (se_then se q s re fin)
            · unfold lcB at c4
              simp only [Bool.and_eq_true, Bool.not_eq_true'] at c4
              obtain ⟨c5, c6, c7⟩ := c4
              cases e with
              | comp m own tg it c0 e =>
                simp only [chkE] at c1
                split at c1
                · rename_i elt t i2 fs scope pos2 heq
                  cases heq
                  simp only [Bool.and_eq_true, Bool.not_eq_true'] at c1
                  obtain ⟨d1, d2, d3, d4, d5, d6, d7, d8⟩ := c1
                  have hg : ∀ (s : Shared) (H : Hp) (C : Addr) (cl : List (Str × Addr)) (fp : List Addr), PG (X.blk s H scope (compEnvC scope cl C X.env) fp) t (gTg X.K tg) := fun s H C cl fp => pg_tg (X := X.blk s H scope (compEnvC scope cl C X.env) fp) xc.calm xc.nd rfl rfl d3
                  have hi : SI X CL Φ it t i2 := by
                    refine allIt it xc rfl (fun ts e => ?_) d7 i2 d2
                    subst e
                    cases t with
                    | Tuple elts kk tp => exact ⟨_, _, _, rfl⟩
                    | _ => simp [chkTg] at d3
                  have cp : CPs X CL Φ scope own tg it c0 e elt t i2 fs := ⟨xc.calm, xc.nd, hi, blkOk_by d1, hg, fun s H C cl fp => (allE e (xc.blk s H scope (compEnvC scope cl C X.env) fp) rfl _ d5).se, allC c0 xc d4, own_ok d6, set_plain d8 X.env⟩
                  refine PS.go (ps_setLc xc.calm xc.nd b1 c3 (sw_true (isFun_ok c7) c3 c5 c6) (tI_pi X t i2) cp.ok cp.hg cp.pts (CPs.pe (tg := tg) (it := it) (c := c0) (e := e) (own := own) (t := t) (i := i2) (fs := fs)) cp.hs) ?_
                  exact cp.lc q s re fun G1 H1 w e1 s1 r1 => fin G1 H1 w e1 s1 r1 (re.ev s e1)
                · cases c1
              | _ => simp [chkE] at c1
          | SetComp _ _ _ _ => cases c3
          | DictComp _ _ _ _ _ => cases c3
          | _ => cases hco
        · exact PS.go (ps_set xc.nd b1 b2 (tE_pe X _) (sw_no (by simpa using hco)) b3) (se_then se q s re fin)
      | _ => simp [chkTgt] at c2
    | tp is =>
      cases t with
      | Tuple xs kk tp =>
        have c2 : chkTgs X.N X.env.scope X.fn is xs = true := c2
        have pg : PG X (.Tuple xs kk tp) (gTg X.K (.tp is)) := pg_tg (tg := .tp is) xc.calm xc.nd rfl rfl c2
        have hw : swappedStores [.Tuple xs kk tp] v X.env = pure none := by
          cases v with
          | Tuple vs _ _ => exact swn c3
          | _ => exact swn2 rfl
        have hsw : swapsWithSole [.Tuple xs kk tp] v pos.line X.env = pure false := sw_else (v := v) (t := .Tuple xs kk tp) (l := pos.line) (env := X.env) rfl (sd_of c3)
        refine PS.go (ps_asg (tE_pe X _) pg hsw hw) (se_then se q s re fun G1 H1 w e1 s1 r1 re1 => ?_)
        simp only [evTgt] at p
        split at p
        · rename_i ds
          split at p
          · rename_i hl
            have ha : asgTg (.tp is) (.tup ds) env = some (setAll is ds env) := by simp [asgTg, hl]
            obtain ⟨σ', a1, a2, _⟩ := asg_ok ha r1 re1
            exact a2 _ (p G1 H1 σ' e1 s1 a1)
          · exact p.elim
        · exact p.elim
      | _ => simp [chkTgt] at c2
    | sub a i =>
      cases t with
      | Subscript y z tp =>
        have c2 : (chkE L X.N X.env.scope a y && chkE L X.N X.env.scope i z) = true := c2
        rw [Bool.and_eq_true] at c2
        have hsw : swapsWithSole [.Subscript y z tp] v pos.line X.env = pure false := sw_else (v := v) (t := .Subscript y z tp) (l := pos.line) (env := X.env) rfl (sd_of c3)
        refine PS.go (ps_asg (tE_pe X _) (pg_sub (tE_pe X y) (tE_pe X z) set_list (ix_assign c2.2)) hsw (swn3 rfl)) (se_then se q s re fun G1 H1 w e1 s1 r1 re1 => ?_)
        simp only [evTgt] at p
        obtain ⟨dx, h2, q2, p⟩ := of_inv p
        obtain ⟨di, h3, q3, p⟩ := of_inv p
        refine se_then (allE a xc rfl y c2.1).se q2 s1 re1 fun G2 H2 w2 e2 s2 r2 re2 => ?_
        refine se_then (allE i xc rfl z c2.2).se q3 s2 re2 fun G3 H3 w3 e3 s3 r3 re3 => ?_
        split at p
        · rename_i h4 e4
          exact setV_ok s3 e4 (r2.ev s2 e3) r3 ((r1.ev s1 e2).ev s2 e3) fun H4 e4 s4 => p G3 H4 σ (((e1.trans e2).trans e3).trans e4) s4 (re3.ev s3 e4)
        · exact p.elim
      | _ => simp [chkTgt] at c2
  · cases c
theorem ss_par (xc : XC L CL Φ k X) {sc : Scope} {fn : Str → Bool} (hs : X.env.scope = sc) (hf : X.fn = fn) {i j : Nat} {a b : E} {x : Stmt} (c : chkS L X.N sc fn (.par i j a b) x = true) : SSt X CL Φ (.par i j a b) x := by
  simp only [chkS] at c
  split at c
  · rename_i y py z pz kt pt l r k2 pt2 pos
    simp only [Bool.and_eq_true, Bool.not_eq_true', decide_eq_true_eq] at c
    obtain ⟨c1, c2, c3, c4, c5, c6, c7, c8, c9, c10, c11, c12⟩ := c
    subst hs hf
    intro env h G H σ s re D p
    simp only [evS] at p
    obtain ⟨d1, h1, q1, p⟩ := of_inv p
    obtain ⟨d2, h2, q2, p⟩ := of_inv p
    have hij : i ≠ j := by simpa using c1
    have pa : PA X [l, r] (tA X [l, r]) := tA_pa X _
    have nst : [l, r].any (fun | .Starred .. => true | _ => false) = false := by
      have a1 := noStar c9
      have a2 := noStar c10
      simp only [List.any_cons, List.any_nil, Bool.or_false]
      rw [Bool.or_eq_false_iff]
      constructor
      · cases l <;> first | rfl | cases a1
      · cases r <;> first | rfl | cases a2
    have hw := sw_two (kt := kt) (k2 := k2) (pt := pt) (pt2 := pt2) (isFun_ok c8) c4 c5 c6 c7 nst c11 c12
    refine PS.go (ps_par xc.calm xc.nd c2 c3 hij c4 c5 pa hw) ?_
    have ses : SEs X CL Φ (.cons a (.cons b .nil)) [l, r] := allEs _ xc rfl _ (by simp [chkEs, c9, c10])
    refine ses env h h2 [d1, d2] (by simp only [evEs, q1, q2, R.bnd_ok]) G H σ s re _ fun G1 H1 vs e1 s1 r1 _ => ?_
    obtain ⟨v, w, rfl, rv, rw'⟩ := two_inv r1
    exact ⟨v, w, rfl, p G1 H1 _ e1 s1 (((re.ev s e1).set rv i).set rw' j)⟩
  · cases c
theorem ss_aug (xc : XC L CL Φ k X) {sc : Scope} {fn : Str → Bool} (hs : X.env.scope = sc) (hf : X.fn = fn) {i : Nat} {e : E} {x : Stmt} (c : chkS L X.N sc fn (.aug i e) x = true) : SSt X CL Φ (.aug i e) x := by
  simp only [chkS] at c
  split at c
  · rename_i y py v pos
    simp only [Bool.and_eq_true] at c
    obtain ⟨c1, c2⟩ := c
    subst hs hf
    obtain ⟨b1, b2, b3⟩ := stB_ok c1
    intro env h G H σ s re D p
    simp only [evS] at p
    obtain ⟨d1, h1, q1, p1⟩ := of_inv p
    obtain ⟨d2, h2, q2, p2⟩ := of_inv p1
    clear p
    simp only [evE] at q1
    split at q1
    · rename_i d0 hd0
      cases q1
      obtain ⟨v0, a1, a2⟩ := re.2 i d1 hd0
      refine PS.go (ps_aug xc.nd b1 b2 (tE_pe X _) ip_add b3) ⟨v0, a1, ?_⟩
      refine se_then (allE e xc rfl v c2).se q2 s re fun G1 H1 w e1 s1 r1 re1 => ?_
      clear p1
      split at p2
      · cases a2
        cases r1
        exact ⟨_, _, rfl, rfl, p2 G1 H1 _ e1 s1 (re1.set (.int _) i)⟩
      · exact p2.elim
    · cases q1
  · cases c
theorem ss_expr (xc : XC L CL Φ k X) {sc : Scope} {fn : Str → Bool} (hs : X.env.scope = sc) (hf : X.fn = fn) {e : E} {x : Stmt} (c : chkS L X.N sc fn (.expr e) x = true) : SSt X CL Φ (.expr e) x := by
  simp only [chkS] at c
  split at c
  · rename_i v pos
    simp only [Bool.and_eq_true, Bool.not_eq_true'] at c
    subst hs hf
    intro env h G H σ s re D p
    simp only [evS] at p
    obtain ⟨d1, h1, q1, p⟩ := of_inv p
    have hsw : swapsWith v none pos.line X.env = pure false := by
      have := c.2
      cases v <;> first | rfl | cases this
    exact PS.go (ps_expr (tE_pe X v) hsw) (se_then (allE e xc rfl v c.1).se q1 s re fun G1 H1 w e1 s1 r1 re1 => p G1 H1 σ e1 s1 re1)
  · cases c
theorem ss_ret (xc : XC L CL Φ k X) {sc : Scope} {fn : Str → Bool} (hs : X.env.scope = sc) (hf : X.fn = fn) {e : E} {x : Stmt} (c : chkS L X.N sc fn (.ret e) x = true) : SSt X CL Φ (.ret e) x := by
  simp only [chkS] at c
  split at c
  · rename_i v pos
    subst hs hf
    intro env h G H σ s re D p
    simp only [evS] at p
    obtain ⟨d1, h1, q1, p⟩ := of_inv p
    exact PS.go (ps_ret (tE_pe X v)) (se_then (allE e xc rfl v c).se q1 s re fun G1 H1 w e1 s1 r1 re1 => p G1 H1 w e1 s1 r1)
  · split at c
    · intro env h G H σ s re D p
      exact PS.go ps_retN (p G H _ (EvR.refl _ _ _) s .non)
    · cases c
  · cases c
end
end Z

/-! loops; all statements -/
namespace Z
open PySem PySem.Spec L2
section
variable {L : LI} {CL : Nat → Option Addr} {Φ : FS} {k : Nat} {X : Cx}
theorem andThen_of {G : Gh} {h : CH} {H : Hp} {r : RS} {f : Env → CH → RS} {D : Ends} {N : L2.St → Hp → Prop} (p : PstS X CL G h H (r.andThen f) D) (n : ∀ env2 h2 G' H' σ', r = .nx env2 h2 → EvR G h H G' h2 H' → SR X.K CL G' h2 H' → RE X.K CL h2.length G' H' env2 σ' → PstS X CL G' h2 H' (f env2 h2) D → N σ' H') {bk ct : L2.St → Hp → Prop} : PstS X CL G h H r { D with nx := N, ct := ct, bk := bk } := by
  cases r with
  | nx env2 h2 => exact fun G' H' σ' a b c => n env2 h2 G' H' σ' rfl a b c (PstS.from p a)
  | rt d h2 => exact p
  | ex c ds h2 => exact p
  | no => exact p
theorem ss_if (xc : XC L CL Φ k X) {sc : Scope} {fn : Str → Bool} (hs : X.env.scope = sc) {t : E} {a b : Ss} {x : Stmt} (ia : ∀ xs, chkSs L X.N sc fn a xs = true → SSts X CL Φ a xs) (ib : ∀ xs, chkSs L X.N sc fn b xs = true → SSts X CL Φ b xs)
    (c : chkS L X.N sc fn (.ife t a b) x = true) : SSt X CL Φ (.ife t a b) x := by
  simp only [chkS] at c
  split at c
  · rename_i y q1 q2 pos
    simp only [Bool.and_eq_true] at c
    intro env h G H σ s re D p
    simp only [evS] at p
    obtain ⟨v, h1, e1, p1⟩ := of_inv p
    refine PS.go (ps_if (tT_pt X y) (tSs_ps X q1) (tSs_ps X q2)) ?_
    refine (allE t xc hs y c.1).st env h h1 v e1 G H σ s re _ fun G1 H1 ev s1 _ => ?_
    cases v with
    | true => exact ia _ c.2.1 env h1 G1 H1 σ s1 (re.ev s ev) D (PstS.from p1 ev)
    | false => exact ib _ c.2.2 env h1 G1 H1 σ s1 (re.ev s ev) D (PstS.from p1 ev)
  · cases c
theorem ss_for (xc : XC L CL Φ k X) (xe : X.xe = fun _ _ => False) {sc : Scope} {fn : Str → Bool} (hs : X.env.scope = sc) (hf : X.fn = fn) {tg : Tg} {it : It} {b : Ss} {fg : List Nat} {x : Stmt} (ib : ∀ xs, chkSs L X.N sc fn b xs = true → SSts X CL Φ b xs)
    (c : chkS L X.N sc fn (.fr tg it b fg) x = true) : SSt X CL Φ (.fr tg it b fg) x := by
  simp only [chkS] at c
  split at c
  · rename_i t i body pos
    simp only [Bool.and_eq_true, Bool.not_eq_true'] at c
    obtain ⟨c1, c2, c3, c4, c5⟩ := c
    intro env h G H σ s re D p
    simp only [evS] at p
    obtain ⟨pr, h1, e1, p1⟩ := of_inv p
    clear p
    have hp : PassesOwn (model X.prog X.w) X.A X.env X.xe := by rw [xe]; exact PassesOwn.never
    have si : SI X CL Φ it t i := by
      refine allIt it xc hs (fun ts e => ?_) c4 i c1
      subst e
      cases t with
      | Tuple elts kk tp => exact ⟨_, _, _, rfl⟩
      | _ => simp [chkTg] at c2
    refine PS.go (ps_for hp xc.calm (tI_pi X t i) (pg_tg xc.calm xc.nd hs hf c2) (tSs_ps X body) (set_plain c5 X.env)) ?_
    refine si env h h1 pr e1 G H σ s re _ fun J G1 H1 ev1 s1 jok => ?_
    let W : Nat → L2.St → Hp → Prop := fun j σ Hx => ∃ (Gx : Gh) (hx : CH) (en : Env), SR X.K CL Gx hx Hx ∧ EvR G1 h1 H1 Gx hx Hx ∧ RE X.K CL hx.length Gx Hx en σ ∧ PstS X CL Gx hx Hx (forGo pr.2 (asgTg tg) (fun en => evSs Φ b en) fg (pr.1.drop j) en hx) D ∧ j ≤ pr.1.length
    refine ⟨fun j m σ Hx => m = pr.1.length - j ∧ W j σ Hx, ⟨_, rfl, G1, h1, env, s1, EvR.refl _ _ _, re.ev s ev1, PstS.from p1 ev1, Nat.zero_le _⟩, ?_⟩
    rintro j m σ2 Hx ⟨rfl, Gx, hx, en, sx, ex, rex, px, hj⟩
    by_cases hlt : j < pr.1.length
    · refine .inr ?_
      obtain ⟨dj, hd⟩ : ∃ dj, pr.1[j]? = some dj := ⟨_, List.getElem?_eq_getElem hlt⟩
      have hdrop : pr.1.drop j = dj :: pr.1.drop (j + 1) := by
        rw [List.drop_eq_getElem_cons hlt]
        rw [List.getElem?_eq_getElem hlt] at hd
        cases hd
        rfl
      rw [hdrop] at px
      unfold forGo at px
      split at px
      · rename_i ck
        obtain ⟨jg, jy⟩ := jok.step Gx hx Hx j dj ex sx ck hd
        refine ⟨jg, W (j + 1), fun σ' H' w => ⟨pr.1.length - (j + 1), by omega, rfl, w⟩, fun x H2 yl => ?_⟩
        obtain ⟨e2, s2, r2⟩ := jy x H2 yl
        split at px
        · rename_i env1 ha
          obtain ⟨σ', re', hg', _⟩ := asg_ok ha r2 (rex.ev sx e2)
          refine hg' _ ?_
          refine ib body c3 env1 hx Gx H2 σ' s2 re' _ (andThen_of (PstS.from px e2) fun env2 h2 G' H' σ'' _ a b c pp => ?_)
          exact ⟨G', h2, wipeE env2 fg, b, (ex.trans e2).trans a, c.wipes fg, pp, hlt⟩
        · exact px.elim
      · exact px.elim
    · refine .inl ?_
      have hle : pr.1.length ≤ j := Nat.le_of_not_lt hlt
      rw [List.drop_eq_nil_of_le hle] at px
      unfold forGo at px
      split at px
      · rename_i ck
        exact ⟨jok.stop Gx hx Hx j ex sx ck hle, px Gx Hx σ2 (EvR.refl _ _ _) sx rex⟩
      · exact px.elim
  · cases c
theorem ss_whl (xc : XC L CL Φ k X) (xe : X.xe = fun _ _ => False) {sc : Scope} {fn : Str → Bool} (hs : X.env.scope = sc) {t : E} {b : Ss} {fg : List Nat} {x : Stmt} (ib : ∀ xs, chkSs L X.N sc fn b xs = true → SSts X CL Φ b xs)
    (c : chkS L X.N sc fn (.whl t b fg) x = true) : SSt X CL Φ (.whl t b fg) x := by
  simp only [chkS] at c
  split at c
  · rename_i y body pos
    simp only [Bool.and_eq_true] at c
    obtain ⟨c1, c2⟩ := c
    intro env h G H σ s re D p
    simp only [evS] at p
    have hp : PassesOwn (model X.prog X.w) X.A X.env X.xe := by rw [xe]; exact PassesOwn.never
    refine PS.go (ps_while hp (tT_pt X y) (tSs_ps X body)) ?_
    have nn : whlD (fun en hh => asBl (evE Φ t en hh)) (fun en => evSs Φ b en) fg env h ≠ .no := fun z => by rw [z] at p; exact p.elim
    obtain ⟨n0, hn0⟩ := whlD_some nn
    rw [hn0] at p
    clear nn hn0
    refine ⟨fun m σ Hx => ∃ (Gx : Gh) (hx : CH) (en : Env), SR X.K CL Gx hx Hx ∧ RE X.K CL hx.length Gx Hx en σ ∧ PstS X CL Gx hx Hx (whlN (fun en hh => asBl (evE Φ t en hh)) (fun en => evSs Φ b en) fg m en hx) D, ⟨n0, G, h, env, s, re, p⟩, ?_⟩
    rintro m σ2 Hx ⟨Gx, hx, en, sx, rex, px⟩
    cases m with
    | zero => exact px.elim
    | succ m =>
      unfold whlN at px
      obtain ⟨v, h1, e1, p1⟩ := of_inv px
      refine (allE t xc hs y c1).st en hx h1 v e1 Gx Hx σ2 sx rex _ fun G1 H1 ev s1 _ => ?_
      cases v with
      | true =>
        rw [if_pos rfl]
        refine ⟨fun σ' H' => ∃ (Gx : Gh) (hx : CH) (en : Env), SR X.K CL Gx hx H' ∧ RE X.K CL hx.length Gx H' en σ' ∧ PstS X CL Gx hx H' (whlN (fun en hh => asBl (evE Φ t en hh)) (fun en => evSs Φ b en) fg m en hx) D, fun σ' H' w => ⟨m, Nat.lt_succ_self m, w⟩, ?_⟩
        refine ib body c2 en h1 G1 H1 σ2 s1 (rex.ev sx ev) _ (andThen_of (PstS.from p1 ev) fun env2 h2 G' H' σ'' _ a b c pp => ?_)
        exact ⟨G', h2, wipeE env2 fg, b, c.wipes fg, pp⟩
      | false =>
        rw [if_neg (by decide)]
        exact p1 G1 H1 σ2 ev s1 (rex.ev sx ev)
  · cases c
mutual
theorem allS (xc : XC L CL Φ k X) (xe : X.xe = fun _ _ => False) {sc : Scope} {fn : Str → Bool} (hs : X.env.scope = sc) (hf : X.fn = fn) : ∀ (s : S) (x : Stmt), chkS L X.N sc fn s x = true → SSt X CL Φ s x
  | .asg tg e, x, c => ss_asg xc hs hf c
  | .par i j a b, x, c => ss_par xc hs hf c
  | .aug i e, x, c => ss_aug xc hs hf c
  | .expr e, x, c => ss_expr xc hs hf c
  | .ret e, x, c => ss_ret xc hs hf c
  | .ife t a b, x, c => ss_if xc hs (fun xs c => allSs xc xe hs hf a xs c) (fun xs c => allSs xc xe hs hf b xs c) c
  | .fr tg it b fg, x, c => ss_for xc xe hs hf (fun xs c => allSs xc xe hs hf b xs c) c
  | .whl t b fg, x, c => ss_whl xc xe hs (fun xs c => allSs xc xe hs hf b xs c) c
  | .pass, x, c => by
    simp only [chkS] at c
    split at c
    · exact fun env h G H σ s re D p => PS.go ps_pass (p G H σ (EvR.refl _ _ _) s re)
    · exact fun env h G H σ s re D p => PS.go ps_doc (p G H σ (EvR.refl _ _ _) s re)
    · cases c
  | .frz i, x, c => by cases c
  | .fg is, x, c => by cases c
  | .nev, x, c => fun env h G H σ s re D p => p.elim
theorem allSs (xc : XC L CL Φ k X) (xe : X.xe = fun _ _ => False) {sc : Scope} {fn : Str → Bool} (hs : X.env.scope = sc) (hf : X.fn = fn) : ∀ (s : Ss) (x : List Stmt), chkSs L X.N sc fn s x = true → SSts X CL Φ s x
  | .nil, x, c => by
    simp only [chkSs, List.isEmpty_iff] at c
    subst c
    exact fun env h G H σ s re D p => PSs.go pss_nil (p G H σ (EvR.refl _ _ _) s re)
  | .cons s ss, x, c => by
    by_cases hg : (∃ i, s = .frz i) ∨ ∃ is, s = .fg is
    · intro env h G H σ st re D p
      rcases hg with ⟨i, rfl⟩ | ⟨is, rfl⟩
      · simp only [chkSs] at c
        simp only [evSs, evS] at p
        split at p
        · rename_i d hd
          split at p
          · rename_i d' h' hfz
            obtain ⟨v, a1, a2⟩ := re.2 i d hd
            obtain ⟨G', s', e', r'⟩ := frz_ok st hfz a2
            refine allSs xc xe hs hf ss x c (env.set i (some d')) h' G' H σ s' ?_ D (PstS.from p e')
            have re' := re.ev st e'
            refine ⟨by rw [List.length_set]; exact re'.1, fun j dj hj => ?_⟩
            by_cases hij : i = j
            · subst hij
              rw [List.getElem?_set_self (lt_of_get hd)] at hj
              cases hj
              exact ⟨v, a1, r'⟩
            · rw [List.getElem?_set_ne hij] at hj
              exact re'.2 j dj hj
          · exact p.elim
        · exact p.elim
      · simp only [chkSs] at c
        simp only [evSs, evS, RS.andThen_nx] at p
        exact allSs xc xe hs hf ss x c (wipeE env is) h G H σ st (re.wipes is) D p
    · have c' : ∃ y ys, x = y :: ys ∧ chkS L X.N sc fn s y = true ∧ chkSs L X.N sc fn ss ys = true := by
        unfold chkSs at c
        split at c
        · exact absurd (.inl ⟨_, rfl⟩) hg
        · exact absurd (.inr ⟨_, rfl⟩) hg
        · split at c
          · rw [Bool.and_eq_true] at c
            exact ⟨_, _, rfl, c.1, c.2⟩
          · cases c
      obtain ⟨y, ys, rfl, c1, c2⟩ := c'
      intro env h G H σ st re D p
      simp only [evSs] at p
      refine PSs.go (pss_cons (tS_ps X y) (tSs_ps X ys)) ?_
      refine allS xc xe hs hf s y c1 env h G H σ st re _ (andThen_of (bk := D.bk) (ct := D.ct) p fun env2 h2 G' H' σ' _ a b c pp => ?_)
      exact allSs xc xe hs hf ss ys c2 env2 h2 G' H' σ' b c D pp
end
end
end Z

/-! defs; a law's end -/
namespace Z
open PySem PySem.Spec PyProof.Rows L2
structure Def where
  nm : Str
  params : Arguments
  body : List Stmt
  sc : Scope
  N : List Str
  ps : List Str
  kw : Option (Str × Kc)
  b : Ss
def Kc.v : Kc → V
  | .non => .non
  | .bl b => .bl b
  | .int i => .int i
  | .str s => .str s
def kwV : Option (Str × Kc) → List (Str × V)
  | none => []
  | some (k, c) => [(k, c.v)]
def Def.fd (d : Def) : Fd := ⟨d.nm, d.ps.length, d.N.length, d.b⟩
def Def.fi (d : Def) : FI := ⟨d.nm, d.ps.length, d.kw⟩
def tabOf (defs : List Def) : Nat → Option Fd := fun i => (defs[i]?).map Def.fd
def fnOf' (defs : List Def) : Nat → Option FI := fun i => (defs[i]?).map Def.fi
def Def.scB (d : Def) : Bool := isFun d.sc && (!d.sc.isCoroutine && (!d.sc.isGenerator && (decide d.N.Nodup && (decide (d.N.take d.ps.length = d.ps) && ((d.ps.all fun x => decide (d.sc.names.lookup x = some .local) || decide (d.sc.names.lookup x = some .cell)) && d.sc.names.all fun y => !decide (y.2 = .free))))))
def Def.chk (L : LI) (d : Def) : Bool := chkSs L d.N d.sc (fun _ => true) d.b d.body
theorem Def.scOk {d : Def} (h : d.scB = true) : FnScope d.N d.ps d.sc := by
  unfold Def.scB at h
  simp only [Bool.and_eq_true, Bool.not_eq_true', decide_eq_true_eq, List.all_eq_true, Bool.or_eq_true, decide_eq_false_iff_not] at h
  obtain ⟨h1, h2, h3, h4, h5, h6, h7⟩ := h
  exact ⟨isFun_ok h1, h2, h3, h4, h5, h6, h7⟩
/-- how the parameters are bound -/
def Def.binds (d : Def) : Prop := match d.kw with
  | none => ∀ (kV doc pm : Value) (an : Option Addr) (cdv ct : Value) (us : List Value), us.length = d.ps.length → bindArgs (PySem.W.fnOf d.nm d.nm d.params d.body d.sc .none kV doc pm an cdv ct) ⟨us, []⟩ = pure (d.ps.zip us)
  | some (k, _) => (∀ (D : Addr) (doc pm : Value) (an : Option Addr) (cdv ct : Value) (us ks : List Value), us.length = d.ps.length - 1 → ks.length = 1 →
      KwChain D ([k].zip ks) (bindArgs (PySem.W.fnOf d.nm d.nm d.params d.body d.sc .none (.ref D) doc pm an cdv ct) ⟨us, []⟩) (d.ps.zip (us ++ ks))) ∧ d.ps.length ≠ 0 ∧
    ∀ (D : Addr) (doc pm : Value) (an : Option Addr) (cdv ct : Value) (us ws : List Value), us.length = d.ps.length - 1 → ws.length = 1 → bindArgs (PySem.W.fnOf d.nm d.nm d.params d.body d.sc .none (.ref D) doc pm an cdv ct) ⟨us, [k].zip ws⟩ = pure (d.ps.zip (us ++ ws))
abbrev Def.At (K : PySem.W.Frag) (d : Def) (fd : FuncData) : Prop := FunD K d.nm d.nm d.params d.body d.sc [] (kwV d.kw) (He.ga K d.nm) fd
/-- what the top holds -/
structure Facts (K : PySem.W.Frag) (mg : Str → Option Value) (CL : Nat → Option Addr) (L : LI) (defs : List Def) : Prop where
  fnL : L.fn = fnOf' defs
  def_ : ∀ (i : Nat) (d : Def), defs[i]? = some d → (∃ fd, d.At K fd) ∧ mg d.nm = some (.ref (He.ga K d.nm))
  bi : ∀ x, L.bn.contains x = true → mg x = none
  cl : ∀ c x, L.cl c = some x → ∃ C, mg x = some (.ref C) ∧ CL c = some C ∧ COk K C
section
variable {P : Program} {w : World} {K : PySem.W.Frag} {mg : Str → Option Value} {base : Heap} {CL : Nat → Option Addr} {L : LI} {defs : List Def}
theorem FOk.mk' {X : Cx} {Φ : FS} {k i : Nat} {d : Def} {fd : FuncData} (F : d.At X.K fd) (hm : X.mg d.nm = some (.ref (He.ga X.K d.nm))) (hb : d.binds) (ok : FnOk X.prog X.w X.K X.mg X.base CX0 k (He.ga X.K d.nm) fd d.ps (spOf X.K CL Φ i d.ps.length)) : FOk X CL Φ k i d.fi := by
  refine ⟨_, fd, d.ps, hm, F.kp, ok, ?_⟩
  obtain ⟨nm, params, body, sc, N, ps, kw, b⟩ := d
  cases kw with
  | none => exact FunD.bindsN F hb
  | some q =>
    obtain ⟨n, c⟩ := q
    obtain ⟨h1, h0, h2⟩ := hb
    have hn : (ps.length - 1) + 1 = ps.length := by
      have : ps.length ≠ 0 := h0
      omega
    refine ⟨?_, ?_⟩
    · obtain ⟨ds, r, B⟩ := FunD.binds0 (ps := ps) F (ps.length - 1) (by simp [kwV]) hn h1
      have r : Vals [c.v] ds := r
      cases r with
      | cons a t =>
        cases t
        refine ⟨_, ?_, B⟩
        cases c <;> exact a
    · obtain ⟨mv, KB⟩ := FunD.kbinds0 (ps := ps) F (ps.length - 1) [n] [] (g := fun us mv ws => us ++ ws) (by simp [kwV]) (fun q hq => by simp at hq) (fun a _ c => a.append c) (fun D doc pm an cdv ct us mv ws l1 l2 l3 => by
        have : mv = [] := List.eq_nil_of_length_eq_zero l2
        subst this
        exact h2 D doc pm an cdv ct us ws l1 l3)
      exact KB
theorem run_ok (S : Facts K mg CL L defs) (hb : ∀ (i : Nat) (d : Def), defs[i]? = some d → d.binds) (hs : ∀ (i : Nat) (d : Def), defs[i]? = some d → d.scB = true) (hc : ∀ (i : Nat) (d : Def), defs[i]? = some d → d.chk L = true) :
    ∀ (k : Nat) (i : Nat) (d : Def), defs[i]? = some d → ∀ fd, d.At K fd → FnOk P w K mg base CX0 k (He.ga K d.nm) fd d.ps (spOf K CL (run (tabOf defs) k) i d.ps.length)
  | 0, i, d, hd, fd, F => ⟨fun vs H Q E h => h.1, fun A outer s H args us vs Q E hr he hbt hv h => by
      obtain ⟨_, G, h0, h', ds, dd, _, _, e, _⟩ := h
      cases e⟩
  | k + 1, i, d, hd, fd, F => by
    refine FunD.ok F (Def.scOk (hs i d hd)) (fun vs H Q E h => h.1) fun cdv A outer s H vs Q E hr h => ?_
    obtain ⟨hlen, G, h0, h', ds, dd, sr, rv, e, post⟩ := h
    refine ⟨_, PSs.nox (tSs_ps _ d.body), ?_⟩
    generalize hX : (cxOf CX0 P w K mg base d.N d.nm d.sc (He.ga K d.nm) cdv A outer s H E).nox = X
    have xc : XC L CL (run (tabOf defs) k) k X := by
      subst hX
      refine ⟨rfl, (Def.scOk (hs i d hd)).nd, hr, S.bi, fun f fi e => ?_, S.cl⟩
      rw [S.fnL] at e
      unfold fnOf' at e
      cases q : defs[f]? with
      | none => rw [q] at e; cases e
      | some d2 =>
        rw [q] at e
        cases e
        obtain ⟨⟨fd2, F2⟩, hm⟩ := S.def_ f d2 q
        exact FOk.mk' F2 hm (hb f d2 q) (run_ok S hb hs hc k f d2 q fd2 F2)
    have all : SSts X CL (run (tabOf defs) k) d.b d.body := by
      have c := hc i d hd
      unfold Def.chk at c
      subst hX
      exact allSs xc rfl rfl rfl d.b d.body c
    have eK : X.K = K := by subst hX; rfl
    unfold run tabOf at e
    rw [hd] at e
    simp only [Option.map_some, Def.fd] at e
    rw [if_pos (by rw [rv.length]; exact hlen)] at e
    have re : RE K CL h0.length G H (envOf d.N.length ds) (L2.start d.N vs) := RE.start rv rfl
    subst hX
    refine all (envOf d.N.length ds) h0 G H _ sr re _ ?_
    change (match evSs (run (tabOf defs) k) d.b (envOf d.N.length ds) h0 with
      | .nx _ h' => R.ok D.non h'
      | .rt d h' => .ok d h'
      | .ex c es h' => .ex c es h'
      | .no => .no) = .ok dd h' at e
    revert e
    cases evSs (run (tabOf defs) k) d.b (envOf d.N.length ds) h0 with
    | nx env2 h2 =>
      intro e
      simp only [R.ok.injEq] at e
      obtain ⟨rfl, rfl⟩ := e
      exact fun G' H' σ' a b c => post G' H' V.non a b RV.non
    | rt d2 h2 =>
      intro e
      simp only [R.ok.injEq] at e
      obtain ⟨rfl, rfl⟩ := e
      exact fun G' H' v a b c => post G' H' v a b c
    | ex c es h2 => intro e; cases e
    | no => intro e; cases e
/-- the script -/
theorem scr_ok {H : Hp} {a : Addr} {ns : List Int} (hO : Only H) (hS : SqL K H a (ns.map V.int)) : SqF K H a (ns.map V.int) := by
  rcases hS with (h | ⟨o, h⟩) | h
  · rcases hO a with z | ⟨o, xs, z⟩
    · rw [z] at h; cases h
    · rw [z] at h; cases h
  · exact .inl ⟨o, h⟩
  · exact .inr h
def G0 : Gh := ⟨fun _ => 0, fun _ => False⟩
theorem law_sp {k i : Nat} {H : Hp} {a : Addr} {ns : List Int} (hO : Only H) (hS : SqL K H a (ns.map V.int)) {h' : CH} (e : run (tabOf defs) k i [.scr ns] [] = .ok (.bl true) h') (E : XK) :
    spOf K CL (run (tabOf defs) k) i 1 [.ref a] H (fun v _ => v = .bl true) E := by
  refine ⟨rfl, G0, [], h', [.scr ns], .bl true, ⟨fun n c z => by simp at z, fun n m c e z => by simp at z, fun a f => f.elim⟩, .cons (.scr (scr_ok hO hS)) .nil, e, fun G' H' v _ _ r => ?_⟩
  cases r
  rfl
end
/-- a def as the head tells it -/
def Def.hd (d : Def) : He.DefD := ⟨(d.nm, none), d.nm, d.nm, d.params, d.body, d.sc, [], match d.kw with
  | none => []
  | some (k, .non) => [(k, .non)]
  | some (k, .bl b) => [(k, .bl b)]
  | some (k, .int b) => [(k, .int b)]
  | some (k, .str b) => [(k, .str b)]⟩
theorem Def.at_ {K : PySem.W.Frag} {d : Def} {fd : FuncData} (h : FunD K d.hd.name d.hd.qual d.hd.params d.hd.body d.hd.scope (d.hd.dvs K) (d.hd.kws K) (He.fAd K d.hd.at_) fd) : d.At K fd := by
  obtain ⟨nm, params, body, sc, N, ps, kw, b⟩ := d
  cases kw with
  | none => exact h
  | some q =>
    obtain ⟨k, c⟩ := q
    cases c <;> exact h
/-- the facts of a head without classes -/
theorem facts_of {K : PySem.W.Frag} {h : Heap} {mg : Str → Option Value} {fa : List He.Fa} {defs : List Def} {bn : List Str} (X : K.In h) (G : h.Ns mainGlobals mg) (c : He.SaysD fa (defs.map Def.hd) K)
    (h1 : ∀ d ∈ defs, He.Fa.glo d.nm ∈ fa) (h2 : ∀ x ∈ bn, He.Fa.free x ∈ fa) : Facts K mg (fun _ => none) ⟨fnOf' defs, bn, fun _ => none⟩ defs := by
  have fact : ∀ f ∈ fa, f.ok K = true := fun f hf => by
    obtain ⟨i, hi⟩ := List.mem_iff_getElem?.mp hf
    exact c.fact i hi
  refine ⟨rfl, fun i d hd => ⟨?_, ?_⟩, fun x hx => ?_, fun c x e => by cases e⟩
  · obtain ⟨fd, F⟩ := c.def_ i (d := d.hd) (by rw [List.getElem?_map, hd]; rfl)
    exact ⟨fd, Def.at_ F⟩
  · exact He.glo_ok X G (fact _ (h1 d (List.mem_of_getElem? hd)))
  · exact He.free_ok X G (fact _ (h2 x (by simpa using hx)))
end Z

/-! evaluation, step by step -/
namespace Z
open PySem PySem.Spec
section
variable {Φ : FS} {env : Env} {h : CH}
def varR (o : Option (Option D)) (h : CH) : R D := match o with
    | some (some d) => .ok d h
    | _ => .no
@[simp] theorem varR_some (d : D) (h : CH) : varR (some (some d)) h = .ok d h := (rfl)
@[simp] theorem e_var (i : Nat) : evE Φ (.var i) env h = varR env[i]? h := by simp only [evE]; rfl
@[simp] theorem e_con (c : Kc) : evE Φ (.con c) env h = .ok c.d h := by simp only [evE]
@[simp] theorem e_bin (o : Bop) (m : Bool) (a b : E) : evE Φ (.bin o m a b) env h = (evE Φ a env h).bnd fun x h1 => (evE Φ b env h1).bnd fun y h2 => binD o m x y h2 := by simp only [evE]
def negR (x : D) (h1 : CH) : R D := match x with
    | .int i => .ok (.int (-i)) h1
    | _ => .no
@[simp] theorem negR_int (i : Int) (h : CH) : negR (.int i) h = .ok (.int (-i)) h := (rfl)
@[simp] theorem e_neg (a : E) : evE Φ (.neg a) env h = (evE Φ a env h).bnd negR := by simp only [evE]; rfl
@[simp] theorem e_not (a : E) : evE Φ (.not a) env h = (asBl (evE Φ a env h)).bnd fun b h1 => .ok (.bl (!b)) h1 := by simp only [evE]
@[simp] theorem e_bo1 (o : Bool) (a : E) : evE Φ (.bo1 o a) env h = evE Φ a env h := by simp only [evE]
/-- and, or -/
def boF (o x : Bool) (h1 : CH) (r : R D) : R D := if o = x then r else .ok (.bl x) h1
@[simp] theorem boF_same (o : Bool) (h1 : CH) (r : R D) : boF o o h1 r = r := if_pos rfl
@[simp] theorem boF_tf (h1 : CH) (r : R D) : boF true false h1 r = .ok (.bl false) h1 := (rfl)
@[simp] theorem boF_ft (h1 : CH) (r : R D) : boF false true h1 r = .ok (.bl true) h1 := (rfl)
@[simp] theorem e_bo (o : Bool) (a b : E) : evE Φ (.bo o a b) env h = (asBl (evE Φ a env h)).bnd fun x h1 => boF o x h1 (evE Φ b env h1) := by
  simp only [evE]
  congr 1
  funext x h1
  cases o <;> cases x <;> rfl
@[simp] theorem e_cmp (o : Cop) (a b : E) : evE Φ (.cmp o a b) env h = (evE Φ a env h).bnd fun x h1 => (evE Φ b env h1).bnd fun y h2 => cmpD o x y h2 := by simp only [evE]
@[simp] theorem e_ife (t a b : E) : evE Φ (.ife t a b) env h = (asBl (evE Φ t env h)).bnd fun x h1 => if x = true then evE Φ a env h1 else evE Φ b env h1 := by
  simp only [evE]
  congr 1
  funext x h1
  cases x <;> rfl
@[simp] theorem e_tup (es : Es) : evE Φ (.tup es) env h = (evEs Φ es env h).bnd fun vs h1 => .ok (.tup vs) h1 := by simp only [evE]
@[simp] theorem e_lst (m : Bool) (es : Es) : evE Φ (.lst m es) env h = (evEs Φ es env h).bnd fun vs h1 => newL m vs h1 := by simp only [evE]
@[simp] theorem e_call (md : Bool) (f : Nat) (es : Es) : evE Φ (.call md f es) env h = (evEs Φ es env h).bnd fun vs h1 => callM md Φ f vs h1 := by simp only [evE]
@[simp] theorem e_callD (md : Bool) (f : Nat) (es : Es) (c : Kc) : evE Φ (.callD md f es c) env h = (evEs Φ es env h).bnd fun vs h1 => callM md Φ f (vs ++ [c.d]) h1 := by simp only [evE]
@[simp] theorem e_callK (md : Bool) (f : Nat) (es : Es) (e : E) : evE Φ (.callK md f es e) env h = (evEs Φ es env h).bnd fun vs h1 => (evE Φ e env h1).bnd fun v h2 => callM md Φ f (vs ++ [v]) h2 := by simp only [evE]
@[simp] theorem e_bi (f : Bi) (m : Bool) (es : Es) : evE Φ (.bi f m es) env h = (evEs Φ es env h).bnd fun vs h1 => biD f m vs h1 := by simp only [evE]
/-- isinstance -/
def isiR (h : CH) (x : D) (ts : List Ty) : R D := match isiAny h x ts with
    | some b => if noIns h x then .ok (.bl b) h else .no
    | none => .no
@[simp] theorem e_isi (a : E) (tp : Bool) (ts : List Ty) : evE Φ (.isi a tp ts) env h = (evE Φ a env h).bnd fun x h1 => isiR h1 x ts := by simp only [evE]; rfl
/-- a method -/
def mthR (x : D) (f : Mt) (vs : List D) (h : CH) (h1 : CH) : R D := if (lstOf h1 x).isSome then mthD f x vs h else .no
@[simp] theorem e_mth (o : E) (f : Mt) (es : Es) : evE Φ (.mth o f es) env h = (evE Φ o env h).bnd fun x h1 => (evEs Φ es env h1).bnd fun vs h2 => mthR x f vs h2 h1 := by simp only [evE]; rfl
@[simp] theorem e_ix (a i : E) : evE Φ (.ix a i) env h = (evE Φ a env h).bnd fun x h1 => (evE Φ i env h1).bnd fun y h2 => ixV x y h2 := by simp only [evE]
@[simp] theorem e_slc (m : Bool) (a : E) (lo hi : Oe) : evE Φ (.slc m a lo hi) env h = (evE Φ a env h).bnd fun x h1 => (evO Φ lo env h1).bnd fun l h2 => (evO Φ hi env h2).bnd fun u h3 => slcD m x l u h3 := by simp only [evE]
theorem e_comp (m : Bool) (own : List (Str × Nat)) (tg : Tg) (it : It) (c : Oe) (e : E) : evE Φ (.comp m own tg it c e) env h = (evIt Φ it env h).bnd fun p h1 => (compGo p.2 (fun d => asgTg tg d (wipeE env (own.map (·.2)))) (fun en => evC Φ c en) (fun en => evE Φ e en) p.1 h1).bnd fun ys h2 => if ys.length ≤ SZ then newL m ys h2 else .no := by simp only [evE]
@[simp] theorem es_nil : evEs Φ .nil env h = .ok [] h := by simp only [evEs]
@[simp] theorem es_cons (e : E) (es : Es) : evEs Φ (.cons e es) env h = (evE Φ e env h).bnd fun v h1 => (evEs Φ es env h1).bnd fun vs h2 => .ok (v :: vs) h2 := by simp only [evEs]
def intR (v : D) (h1 : CH) : R (Option Int) := match v with
    | .int i => .ok (some i) h1
    | _ => .no
@[simp] theorem intR_int (i : Int) (h : CH) : intR (.int i) h = .ok (some i) h := (rfl)
@[simp] theorem o_none : evO Φ .none env h = .ok none h := by simp only [evO]
@[simp] theorem o_some (e : E) : evO Φ (.some e) env h = (evE Φ e env h).bnd intR := by simp only [evO]; rfl
@[simp] theorem c_none : evC Φ .none env h = .ok true h := by simp only [evC]
@[simp] theorem c_some (e : E) : evC Φ (.some e) env h = asBl (evE Φ e env h) := by simp only [evC]
def itR (v : D) (h1 : CH) : R (List D × Ck) := match items h1 v with
    | some ds => .ok (ds, ckOf v ds) h1
    | none => .no
theorem itR_of {v : D} {h1 : CH} {ds : List D} (e : items h1 v = some ds) : itR v h1 = .ok (ds, ckOf v ds) h1 := by unfold itR; rw [e]
@[simp] theorem it_e (x : E) : evIt Φ (.e x) env h = (evE Φ x env h).bnd itR := by simp only [evIt]; rfl
@[simp] theorem it_f (fn : Tn) (es : Es) : evIt Φ (.f fn es) env h = (evEs Φ es env h).bnd fun vs h1 => itD fn vs h1 := by simp only [evIt]
@[simp] theorem s_asg (tg : Tgt) (e : E) : evS Φ (.asg tg e) env h = RS.of (evE Φ e env h) fun v h1 => evTgt Φ tg v env h1 := by simp only [evS]
@[simp] theorem s_par (i j : Nat) (a b : E) : evS Φ (.par i j a b) env h = RS.of (evE Φ a env h) fun v h1 => RS.of (evE Φ b env h1) fun w h2 => .nx ((env.set i (some v)).set j (some w)) h2 := by simp only [evS]
@[simp] theorem s_expr (e : E) : evS Φ (.expr e) env h = RS.of (evE Φ e env h) fun _ h1 => .nx env h1 := by simp only [evS]
@[simp] theorem s_ret (e : E) : evS Φ (.ret e) env h = RS.of (evE Φ e env h) fun v h1 => .rt v h1 := by simp only [evS]
@[simp] theorem s_ife (t : E) (a b : Ss) : evS Φ (.ife t a b) env h = RS.of (asBl (evE Φ t env h)) fun x h1 => if x = true then evSs Φ a env h1 else evSs Φ b env h1 := by
  simp only [evS]
  congr 1
  funext x h1
  cases x <;> rfl
theorem s_fr (tg : Tg) (it : It) (b : Ss) (fg : List Nat) : evS Φ (.fr tg it b fg) env h = RS.of (evIt Φ it env h) fun p h1 => forGo p.2 (asgTg tg) (fun en => evSs Φ b en) fg p.1 env h1 := by simp only [evS]
theorem s_whl (t : E) (b : Ss) (fg : List Nat) : evS Φ (.whl t b fg) env h = whlD (fun en hh => asBl (evE Φ t en hh)) (fun en => evSs Φ b en) fg env h := by simp only [evS]
@[simp] theorem s_pass : evS Φ .pass env h = .nx env h := by simp only [evS]
@[simp] theorem s_fg (is : List Nat) : evS Φ (.fg is) env h = .nx (wipeE env is) h := by simp only [evS]
theorem s_frz {i : Nat} {d d' : D} {h' : CH} (e : env[i]? = some (some d)) (q : frzD h d = some (d', h')) : evS Φ (.frz i) env h = .nx (env.set i (some d')) h' := by simp only [evS, e, q]
@[simp] theorem ss_nil : evSs Φ .nil env h = .nx env h := by simp only [evSs]
@[simp] theorem ss_cons (s : S) (ss : Ss) : evSs Φ (.cons s ss) env h = (evS Φ s env h).andThen fun env1 h1 => evSs Φ ss env1 h1 := by simp only [evSs]
@[simp] theorem t_nm (i : Nat) (v : D) : evTgt Φ (.nm i) v env h = .nx (env.set i (some v)) h := (rfl)
@[simp] theorem t_tp (ts : List Nat) (ds : List D) : evTgt Φ (.tp ts) (.tup ds) env h = if ds.length = ts.length then .nx (setAll ts ds env) h else .no := (rfl)
@[simp] theorem t_sub (a i : E) (v : D) : evTgt Φ (.sub a i) v env h = RS.of (evE Φ a env h) fun x h1 => RS.of (evE Φ i env h1) fun y h2 => match setV x y v h2 with
    | some h3 => .nx env h3
    | none => .no := rfl
@[simp] theorem wipe_nil : wipeE env [] = env := (rfl)
@[simp] theorem wipe_cons (v : Nat) (vs : List Nat) : wipeE env (v :: vs) = (wipeE env vs).set v none := (rfl)
@[simp] theorem setAll_nil (ds : List D) : setAll [] ds env = env := by cases ds <;> rfl
@[simp] theorem setAll_cons (i : Nat) (is : List Nat) (d : D) (ds : List D) : setAll (i :: is) (d :: ds) env = setAll is ds (env.set i (some d)) := (rfl)
end
/-! ### a def's end -/
def fin : RS → R D
  | .nx _ h' => .ok .non h'
  | .rt d h' => .ok d h'
  | .ex c es h' => .ex c es h'
  | .no => .no
@[simp] theorem fin_nx (e : Env) (h : CH) : fin (.nx e h) = .ok .non h := (rfl)
@[simp] theorem fin_rt (d : D) (h : CH) : fin (.rt d h) = .ok d h := (rfl)
@[simp] theorem fin_if (c : Prop) [Decidable c] (a b : RS) : fin (if c then a else b) = if c then fin a else fin b := by split <;> rfl
@[simp] theorem andThen_if (c : Prop) [Decidable c] (a b : RS) (f : Env → CH → RS) : (if c then a else b).andThen f = if c then a.andThen f else b.andThen f := by split <;> rfl
theorem run_eq {T : Nat → Option Fd} {k f : Nat} {ds : List D} {h : CH} {fd : Fd} (e : T f = some fd) (hl : ds.length = fd.ar) : run T (k + 1) f ds h = fin (evSs (run T k) fd.body (envOf fd.n ds) h) := by
  conv => lhs; unfold run
  rw [e]
  simp only
  rw [if_pos hl]
  cases evSs (run T k) fd.body (envOf fd.n ds) h <;> rfl
/-! ### calls -/
theorem snaps_nc {h : CH} {ds : List D} (e : ncs ds = true) : snaps h ds = some ds := by unfold snaps; rw [if_pos e]
theorem call_nc {Φ : FS} {f : Nat} {ds : List D} {h h' : CH} {d : D} (e : ncs ds = true) (q : Φ f ds [] = .ok d h') (n : d.nc = true) : callM true Φ f ds h = .ok d h := by
  show callP Φ f ds h = _
  unfold callP pcall
  rw [snaps_nc e]
  simp only [q, n, e, if_true, Bool.true_or]
theorem call_snap {Φ : FS} {f : Nat} {ds ds' : List D} {h h' : CH} {d : D} (e : snaps h ds = some ds') (q : Φ f ds' [] = .ok d h') (n : d.nc = true) (s : d.solid = true) : callM true Φ f ds h = .ok d h := by
  show callP Φ f ds h = _
  unfold callP pcall
  rw [e]
  simp only [q, n, s, if_true, Bool.or_true]
theorem call_heap {Φ : FS} {f : Nat} {ds : List D} {h h' : CH} {d : D} (q : Φ f ds h = .ok d h') : callM false Φ f ds h = .ok d (trunc h.length d h') := by
  show callH Φ f ds h = _
  unfold callH
  rw [q]
theorem trunc_same {n : Nat} {d : D} {h : CH} (e : h.length ≤ n) : trunc n d h = h := by unfold trunc; rw [if_pos e]
/-! ### walks -/
theorem forGo_inv {ck : Ck} {asg : D → Env → Option Env} {f : Env → CH → RS} {fg : List Nat} (I : Nat → Env → CH → Prop) : ∀ (ds : List D) (b : Nat) (env : Env) (h : CH), I b env h → (∀ i env h, i ≤ b + ds.length → I i env h → ckOk ck h = true) →
    (∀ i d env h, ds[i]? = some d → I (b + i) env h → ∃ env1 env2 h2, asg d env = some env1 ∧ f env1 h = .nx env2 h2 ∧ I (b + i + 1) (wipeE env2 fg) h2) → ∃ env' h', forGo ck asg f fg ds env h = .nx env' h' ∧ I (b + ds.length) env' h'
  | [], b, env, h, i0, c, _ => ⟨env, h, by unfold forGo; rw [if_pos (c b env h (Nat.le_refl _) i0)], i0⟩
  | d :: r, b, env, h, i0, c, st => by
    obtain ⟨env1, env2, h2, a1, a2, a3⟩ := st 0 d env h rfl i0
    obtain ⟨env', h', e1, e2⟩ := forGo_inv I r (b + 1) (wipeE env2 fg) h2 a3 (fun i env h hi => c i env h (by simp only [List.length_cons]; omega)) (fun i d env h hd hI => by
      have q := st (i + 1) d env h (by simpa using hd) (by rw [show b + (i + 1) = b + 1 + i by omega]; exact hI)
      rw [show b + (i + 1) + 1 = b + 1 + i + 1 by omega] at q
      exact q)
    refine ⟨env', h', ?_, by rw [show b + (d :: r).length = b + 1 + r.length by simp only [List.length_cons]; omega]; exact e2⟩
    unfold forGo
    rw [if_pos (c b env h (by simp) i0), a1]
    simp only [a2, RS.andThen_nx]
    exact e1
/-- a walk that may end early: every turn goes on or hands back -/
theorem forGo_inv2 {ck : Ck} {asg : D → Env → Option Env} {f : Env → CH → RS} {fg : List Nat} (I : Nat → Env → CH → Prop) (J : RS → Prop) : ∀ (ds : List D) (b : Nat) (env : Env) (h : CH), I b env h → (∀ i env h, i ≤ b + ds.length → I i env h → ckOk ck h = true) →
    (∀ i d env h, ds[i]? = some d → I (b + i) env h → ∃ env1, asg d env = some env1 ∧ ((∃ env2 h2, f env1 h = .nx env2 h2 ∧ I (b + i + 1) (wipeE env2 fg) h2) ∨ ∃ v h2, f env1 h = .rt v h2 ∧ J (.rt v h2))) → (∃ env' h', forGo ck asg f fg ds env h = .nx env' h' ∧ I (b + ds.length) env' h') ∨ ∃ v h', forGo ck asg f fg ds env h = .rt v h' ∧ J (.rt v h')
  | [], b, env, h, i0, c, _ => .inl ⟨env, h, by unfold forGo; rw [if_pos (c b env h (Nat.le_refl _) i0)], i0⟩
  | d :: r, b, env, h, i0, c, st => by
    obtain ⟨env1, a1, ⟨env2, h2, a2, a3⟩ | ⟨v, h2, a2, a3⟩⟩ := st 0 d env h rfl i0
    · have q := forGo_inv2 I J r (b + 1) (wipeE env2 fg) h2 a3 (fun i env h hi => c i env h (by simp only [List.length_cons]; omega)) (fun i d env h hd hI => by
        have q := st (i + 1) d env h (by simpa using hd) (by rw [show b + (i + 1) = b + 1 + i by omega]; exact hI)
        rw [show b + (i + 1) + 1 = b + 1 + i + 1 by omega] at q
        exact q)
      have e0 : forGo ck asg f fg (d :: r) env h = forGo ck asg f fg r (wipeE env2 fg) h2 := by
        conv => lhs; unfold forGo
        rw [if_pos (c b env h (by simp) i0), a1]
        simp only [a2, RS.andThen_nx]
      rw [e0, show b + (d :: r).length = b + 1 + r.length by simp only [List.length_cons]; omega]
      exact q
    · refine .inr ⟨v, h2, ?_, a3⟩
      unfold forGo
      rw [if_pos (c b env h (by simp) i0), a1]
      simp only [a2, RS.andThen_rt]
/-- a comprehension whose turns leave the heap -/
theorem compGo_pure {ck : Ck} {asg : D → Option Env} {test : Env → CH → R Bool} {f : Env → CH → R D} {h : CH} (c : ckOk ck h = true) {p : D → Bool} {F : D → D} : ∀ (ds : List D), (∀ d ∈ ds, ∃ env, asg d = some env ∧ test env h = .ok (p d) h ∧ (p d = true → f env h = .ok (F d) h)) → compGo ck asg test f ds h = .ok ((ds.filter p).map F) h
  | [], _ => by unfold compGo; rw [if_pos c]; rfl
  | d :: r, st => by
    obtain ⟨env, a1, a2, a3⟩ := st d List.mem_cons_self
    have ih := compGo_pure c r fun x hx => st x (List.mem_cons_of_mem _ hx)
    unfold compGo
    rw [if_pos c, a1]
    simp only [a2, R.bnd_ok]
    cases q : p d with
    | false =>
      simp only [List.filter_cons, q, Bool.false_eq_true, if_false]
      exact ih
    | true =>
      simp only [List.filter_cons, q, if_true, a3 q, R.bnd_ok, ih, List.map_cons]
theorem compGo_map {ck : Ck} {asg : D → Option Env} {f : Env → CH → R D} {h : CH} (c : ckOk ck h = true) {F : D → D} (ds : List D) (st : ∀ d ∈ ds, ∃ env, asg d = some env ∧ f env h = .ok (F d) h) : compGo ck asg (fun _ h => .ok true h) f ds h = .ok (ds.map F) h := by
  have := compGo_pure (test := fun _ h => .ok true h) (p := fun _ => true) c (F := F) ds (fun d hd => by
    obtain ⟨env, a, b⟩ := st d hd
    exact ⟨env, a, rfl, fun _ => b⟩)
  rw [this, List.filter_eq_self.2 fun _ _ => rfl]
/-- any comprehension without a test, by its turns -/
theorem compGo_inv {ck : Ck} {asg : D → Option Env} {f : Env → CH → R D} (I : List D → CH → Prop) : ∀ (ds : List D) (done : List D) (h : CH), I done h → (∀ dn h, I dn h → ckOk ck h = true) → (∀ i d dn h, ds[i]? = some d → dn.length = done.length + i → I dn h → ∃ env y h2, asg d = some env ∧ f env h = .ok y h2 ∧ I (dn ++ [y]) h2) →
    ∃ ys h', compGo ck asg (fun _ h => .ok true h) f ds h = .ok ys h' ∧ ys.length = ds.length ∧ I (done ++ ys) h'
  | [], done, h, i0, c, _ => ⟨[], h, by unfold compGo; rw [if_pos (c done h i0)], rfl, by simpa using i0⟩
  | d :: r, done, h, i0, c, st => by
    obtain ⟨env, y, h2, a1, a2, a3⟩ := st 0 d done h rfl (by simp) i0
    obtain ⟨ys, h', e1, e2, e3⟩ := compGo_inv I r (done ++ [y]) h2 a3 c (fun i d dn h hd hl hI => st (i + 1) d dn h (by simpa using hd) (by rw [hl]; simp; omega) hI)
    refine ⟨y :: ys, h', ?_, by simp [e2], by simpa using e3⟩
    unfold compGo
    rw [if_pos (c done h i0), a1]
    simp only [R.bnd_ok, a2, e1]
mutual
theorem beq_refl' : ∀ d : D, d.beq d = true
  | .non => rfl
  | .bl a => by simp [D.beq]
  | .int a => by simp [D.beq]
  | .str a => by simp [D.beq]
  | .tup a => by simp only [D.beq]; exact beqs_refl a
  | .lst a => by simp only [D.beq]; exact beqs_refl a
  | .cell a => by simp [D.beq]
  | .ins c a => by simp only [D.beq, beqs_refl a, beq_self_eq_true, Bool.and_self]
  | .scr a => by simp [D.beq]
theorem beqs_refl : ∀ ds : List D, beqs ds ds = true
  | [] => rfl
  | a :: r => by simp only [beqs, beq_refl' a, beqs_refl r, Bool.and_self]
end
@[simp] theorem ck_none (h : CH) : ckOk none h = true := (rfl)
theorem ck_cell {h : CH} {n : Nat} {ds : List D} (e : h[n]? = some (.lst ds)) : ckOk (some (n, ds)) h = true := by
  unfold ckOk
  simp only [e, beqs_refl]
/-! ### data of ints -/
abbrev iL (r : List Int) : List D := r.map .int
abbrev tR (r : List Int) : D := .tup (iL r)
abbrev lR (r : List Int) : D := .lst (iL r)
abbrev tT2 (t : List (List Int)) : D := .tup (t.map tR)
abbrev lL2 (t : List (List Int)) : D := .lst (t.map lR)
abbrev tL2 (t : List (List Int)) : D := .tup (t.map lR)
abbrev lT2 (t : List (List Int)) : D := .lst (t.map tR)
@[simp] theorem ncs_map {α : Type} {f : α → D} (l : List α) (h : ∀ x, (f x).nc = true) : ncs (l.map f) = true := by
  induction l with
  | nil => rfl
  | cons a r ih => simp only [List.map_cons, ncs, h, ih, Bool.and_self]
@[simp] theorem solids_map {α : Type} {f : α → D} (l : List α) (h : ∀ x, (f x).solid = true) : solids (l.map f) = true := by
  induction l with
  | nil => rfl
  | cons a r ih => simp only [List.map_cons, solids, h, ih, Bool.and_self]
@[simp] theorem unds_map {α : Type} {f : α → D} {n : Nat} (l : List α) (h : ∀ x, (f x).und n = true) : unds n (l.map f) = true := by
  induction l with
  | nil => rfl
  | cons a r ih => simp only [List.map_cons, unds, h, ih, Bool.and_self]
theorem nc_int (i : Int) : (D.int i).nc = true := rfl
theorem so_int (i : Int) : (D.int i).solid = true := rfl
@[simp] theorem nc_tR (r : List Int) : (tR r).nc = true := ncs_map r nc_int
@[simp] theorem nc_lR (r : List Int) : (lR r).nc = true := ncs_map r nc_int
@[simp] theorem so_tR (r : List Int) : (tR r).solid = true := solids_map r so_int
@[simp] theorem nc_tT2 (t : List (List Int)) : (tT2 t).nc = true := ncs_map t nc_tR
@[simp] theorem nc_lL2 (t : List (List Int)) : (lL2 t).nc = true := ncs_map t nc_lR
@[simp] theorem nc_lT2 (t : List (List Int)) : (lT2 t).nc = true := ncs_map t nc_tR
@[simp] theorem nc_tL2 (t : List (List Int)) : (tL2 t).nc = true := ncs_map t nc_lR
@[simp] theorem so_tT2 (t : List (List Int)) : (tT2 t).solid = true := solids_map t so_tR
mutual
theorem und_nc : ∀ {d : D} {n : Nat}, d.nc = true → d.und n = true
  | .non, _, _ => rfl
  | .bl _, _, _ => rfl
  | .int _, _, _ => rfl
  | .str _, _, _ => rfl
  | .scr _, _, _ => rfl
  | .tup ds, n, h => unds_nc (ds := ds) h
  | .lst ds, n, h => unds_nc (ds := ds) h
  | .ins _ ds, n, h => unds_nc (ds := ds) h
  | .cell _, _, h => by cases h
theorem unds_nc : ∀ {ds : List D} {n : Nat}, ncs ds = true → unds n ds = true
  | [], _, _ => rfl
  | d :: ds, n, h => by
    simp only [ncs, Bool.and_eq_true] at h
    simp only [unds, und_nc h.1, unds_nc h.2, Bool.and_self]
end
@[simp] theorem intsOf_map (r : List Int) : intsOf (iL r) = some r := by
  induction r with
  | nil => rfl
  | cons a r ih => simp only [iL, List.map_cons, intsOf]; rw [show intsOf (List.map D.int r) = some r from ih]; rfl
theorem iL_get (r : List Int) (i : Nat) : (iL r)[i]? = (r[i]?).map .int := by simp
end Z

/-! what values come to -/
namespace Z
open PySem PySem.Spec
mutual
/-- ints, in lists and tuples, at most n deep -/
def pl : Nat → D → Bool
  | _ + 1, .int _ => true
  | _ + 1, .non => true
  | n + 1, .tup ds => pls n ds
  | n + 1, .lst ds => pls n ds
  | _, _ => false
def pls : Nat → List D → Bool
  | _, [] => true
  | n, d :: ds => pl n d && pls n ds
end
mutual
theorem pl_ok : ∀ (n : Nat) (d : D), pl n d = true → ∃ p, toP d = some p ∧ p.depth ≤ n
  | 0, .int _, h => by simp [pl] at h
  | 0, .non, h => by simp [pl] at h
  | 0, .tup _, h => by simp [pl] at h
  | 0, .lst _, h => by simp [pl] at h
  | n + 1, .int i, _ => ⟨.int i, rfl, by simp [PyData.depth]⟩
  | n + 1, .non, _ => ⟨.none, rfl, by simp [PyData.depth]⟩
  | n + 1, .tup ds, h => by
    obtain ⟨ps, e, q⟩ := pls_ok n ds (by simpa [pl] using h)
    exact ⟨.tuple ps, by simp [toP, e], by simp [PyData.depth]; omega⟩
  | n + 1, .lst ds, h => by
    obtain ⟨ps, e, q⟩ := pls_ok n ds (by simpa [pl] using h)
    exact ⟨.list ps, by simp [toP, e], by simp [PyData.depth]; omega⟩
  | 0, .bl _, h => by simp [pl] at h
  | n + 1, .bl _, h => by simp [pl] at h
  | 0, .str _, h => by simp [pl] at h
  | n + 1, .str _, h => by simp [pl] at h
  | 0, .cell _, h => by simp [pl] at h
  | n + 1, .cell _, h => by simp [pl] at h
  | 0, .ins _ _, h => by simp [pl] at h
  | n + 1, .ins _ _, h => by simp [pl] at h
  | 0, .scr _, h => by simp [pl] at h
  | n + 1, .scr _, h => by simp [pl] at h
theorem pls_ok : ∀ (n : Nat) (ds : List D), pls n ds = true → ∃ ps, toPs ds = some ps ∧ PyData.depthAll ps ≤ n
  | n, [], _ => ⟨[], rfl, by simp [PyData.depthAll]⟩
  | n, d :: ds, h => by
    simp only [pls, Bool.and_eq_true] at h
    obtain ⟨p, e, q⟩ := pl_ok n d h.1
    obtain ⟨ps, e2, q2⟩ := pls_ok n ds h.2
    exact ⟨p :: ps, by simp [toPs, e, e2], by simp [PyData.depthAll]; omega⟩
end
mutual
theorem pl_eqv : ∀ (n m : Nat) (d e : D) (p q : PyData), pl n d = true → pl m e = true → toP d = some p → toP e = some q → PyData.eqv p q = d.beq e
  | 0, m, d, e, p, q, h, _, _, _ => by cases d <;> simp [pl] at h
  | n + 1, 0, d, e, p, q, _, h, _, _ => by cases e <;> simp [pl] at h
  | n + 1, m + 1, d, e, p, q, h1, h2, e1, e2 => by
    cases d with
    | int i =>
      simp only [toP, Option.some.injEq] at e1
      subst e1
      cases e with
      | int j => simp only [toP, Option.some.injEq] at e2; subst e2; simp [PyData.eqv, D.beq]
      | non => simp only [toP, Option.some.injEq] at e2; subst e2; simp [PyData.eqv, D.beq]
      | tup fs => simp only [toP, Option.map_eq_some_iff] at e2; obtain ⟨a, _, rfl⟩ := e2; simp [PyData.eqv, D.beq]
      | lst fs => simp only [toP, Option.map_eq_some_iff] at e2; obtain ⟨a, _, rfl⟩ := e2; simp [PyData.eqv, D.beq]
      | _ => simp [pl] at h2
    | non =>
      simp only [toP, Option.some.injEq] at e1
      subst e1
      cases e with
      | int j => simp only [toP, Option.some.injEq] at e2; subst e2; simp [PyData.eqv, D.beq]
      | non => simp only [toP, Option.some.injEq] at e2; subst e2; simp [PyData.eqv, D.beq]
      | tup fs => simp only [toP, Option.map_eq_some_iff] at e2; obtain ⟨a, _, rfl⟩ := e2; simp [PyData.eqv, D.beq]
      | lst fs => simp only [toP, Option.map_eq_some_iff] at e2; obtain ⟨a, _, rfl⟩ := e2; simp [PyData.eqv, D.beq]
      | _ => simp [pl] at h2
    | tup ds =>
      simp only [toP, Option.map_eq_some_iff] at e1
      obtain ⟨ps, e1, rfl⟩ := e1
      cases e with
      | int j => simp only [toP, Option.some.injEq] at e2; subst e2; simp [PyData.eqv, D.beq]
      | non => simp only [toP, Option.some.injEq] at e2; subst e2; simp [PyData.eqv, D.beq]
      | tup fs =>
        simp only [toP, Option.map_eq_some_iff] at e2
        obtain ⟨qs, e2, rfl⟩ := e2
        simp only [PyData.eqv, D.beq]
        exact pls_eqv n m ds fs ps qs (by simpa [pl] using h1) (by simpa [pl] using h2) e1 e2
      | lst fs => simp only [toP, Option.map_eq_some_iff] at e2; obtain ⟨a, _, rfl⟩ := e2; simp [PyData.eqv, D.beq]
      | _ => simp [pl] at h2
    | lst ds =>
      simp only [toP, Option.map_eq_some_iff] at e1
      obtain ⟨ps, e1, rfl⟩ := e1
      cases e with
      | int j => simp only [toP, Option.some.injEq] at e2; subst e2; simp [PyData.eqv, D.beq]
      | non => simp only [toP, Option.some.injEq] at e2; subst e2; simp [PyData.eqv, D.beq]
      | lst fs =>
        simp only [toP, Option.map_eq_some_iff] at e2
        obtain ⟨qs, e2, rfl⟩ := e2
        simp only [PyData.eqv, D.beq]
        exact pls_eqv n m ds fs ps qs (by simpa [pl] using h1) (by simpa [pl] using h2) e1 e2
      | tup fs => simp only [toP, Option.map_eq_some_iff] at e2; obtain ⟨a, _, rfl⟩ := e2; simp [PyData.eqv, D.beq]
      | _ => simp [pl] at h2
    | _ => simp [pl] at h1
theorem pls_eqv : ∀ (n m : Nat) (ds es : List D) (ps qs : List PyData), pls n ds = true → pls m es = true → toPs ds = some ps → toPs es = some qs → PyData.eqvAll ps qs = beqs ds es
  | n, m, [], [], ps, qs, _, _, e1, e2 => by simp [toPs] at e1 e2; subst e1 e2; rfl
  | n, m, [], e :: es, ps, qs, _, h2, e1, e2 => by
    simp only [pls, Bool.and_eq_true] at h2
    obtain ⟨q, e3, _⟩ := pl_ok m e h2.1
    obtain ⟨qs', e4, _⟩ := pls_ok m es h2.2
    simp only [toPs, e3, e4, Option.some.injEq] at e1 e2
    subst e1 e2; rfl
  | n, m, d :: ds, [], ps, qs, h1, _, e1, e2 => by
    simp only [pls, Bool.and_eq_true] at h1
    obtain ⟨q, e3, _⟩ := pl_ok n d h1.1
    obtain ⟨qs', e4, _⟩ := pls_ok n ds h1.2
    simp only [toPs, e3, e4, Option.some.injEq] at e1 e2
    subst e1 e2; rfl
  | n, m, d :: ds, e :: es, ps, qs, h1, h2, e1, e2 => by
    simp only [pls, Bool.and_eq_true] at h1 h2
    obtain ⟨q, e3, _⟩ := pl_ok n d h1.1
    obtain ⟨qs', e4, _⟩ := pls_ok n ds h1.2
    obtain ⟨q2, e5, _⟩ := pl_ok m e h2.1
    obtain ⟨qs2, e6, _⟩ := pls_ok m es h2.2
    simp only [toPs, e3, e4, e5, e6, Option.some.injEq] at e1 e2
    subst e1 e2
    simp only [PyData.eqvAll, beqs, pl_eqv n m d e q q2 h1.1 h2.1 e3 e5, pls_eqv n m ds es qs' qs2 h1.2 h2.2 e4 e6]
end
theorem eqP_pl {d e : D} {n m : Nat} (h1 : pl n d = true) (h2 : pl m e = true) (hn : n ≤ 64) (hm : m ≤ 64) : eqP d e = some (d.beq e) := by
  obtain ⟨p, e1, q1⟩ := pl_ok n d h1
  obtain ⟨q, e2, q2⟩ := pl_ok m e h2
  unfold eqP
  rw [e1, e2]
  simp only
  rw [if_pos ⟨by omega, by omega⟩, pl_eqv n m d e p q h1 h2 e1 e2]
theorem pls_map {α : Type} {f : α → D} {n : Nat} (l : List α) (h : ∀ x, pl n (f x) = true) : pls n (l.map f) = true := by
  induction l with
  | nil => rfl
  | cons a r ih => simp only [List.map_cons, pls, h, ih, Bool.and_self]
theorem pl_tR (r : List Int) : pl 2 (tR r) = true := by show pls 1 _ = true; exact pls_map r fun _ => rfl
theorem pl_lR (r : List Int) : pl 2 (lR r) = true := by show pls 1 _ = true; exact pls_map r fun _ => rfl
theorem pl_tT2 (t : List (List Int)) : pl 3 (tT2 t) = true := by show pls 2 _ = true; exact pls_map t pl_tR
theorem pl_lT2 (t : List (List Int)) : pl 3 (lT2 t) = true := by show pls 2 _ = true; exact pls_map t pl_tR
theorem pl_lL2 (t : List (List Int)) : pl 3 (lL2 t) = true := by show pls 2 _ = true; exact pls_map t pl_lR
section
variable {h : CH}
theorem snap_nc {d : D} (e : d.nc = true) : snap h d = some d := by unfold snap; rw [if_pos e]
theorem eq_pl {d e d' e' : D} {n m : Nat} (s1 : snap h d = some d') (s2 : snap h e = some e') (h1 : pl n d' = true) (h2 : pl m e' = true) (hn : n ≤ 64 := by decide) (hm : m ≤ 64 := by decide) : cmpD .eq d e h = .ok (.bl (d'.beq e')) h := by
  unfold cmpD
  simp only [s1, s2, eqP_pl h1 h2 hn hm]
theorem ne_pl {d e d' e' : D} {n m : Nat} (s1 : snap h d = some d') (s2 : snap h e = some e') (h1 : pl n d' = true) (h2 : pl m e' = true) (hn : n ≤ 64 := by decide) (hm : m ≤ 64 := by decide) : cmpD .ne d e h = .ok (.bl (!d'.beq e')) h := by
  unfold cmpD
  simp only [s1, s2, eqP_pl h1 h2 hn hm]
@[simp] theorem eq_int (i j : Int) : cmpD .eq (.int i) (.int j) h = .ok (.bl (decide (i = j))) h := by
  rw [eq_pl (n := 1) (m := 1) (snap_nc rfl) (snap_nc rfl) rfl rfl]
  congr 2
@[simp] theorem ne_int (i j : Int) : cmpD .ne (.int i) (.int j) h = .ok (.bl (!decide (i = j))) h := by
  rw [ne_pl (n := 1) (m := 1) (snap_nc rfl) (snap_nc rfl) rfl rfl]
  congr 2
@[simp] theorem lt_int (i j : Int) : cmpD .lt (.int i) (.int j) h = .ok (.bl (decide (i < j))) h := (rfl)
@[simp] theorem le_int (i j : Int) : cmpD .le (.int i) (.int j) h = .ok (.bl (decide (i ≤ j))) h := (rfl)
@[simp] theorem gt_int (i j : Int) : cmpD .gt (.int i) (.int j) h = .ok (.bl (decide (j < i))) h := (rfl)
@[simp] theorem ge_int (i j : Int) : cmpD .ge (.int i) (.int j) h = .ok (.bl (decide (j ≤ i))) h := (rfl)
@[simp] theorem is_non : cmpD .is .non .non h = .ok (.bl true) h := (rfl)
@[simp] theorem isn_non : cmpD .isn .non .non h = .ok (.bl false) h := (rfl)
theorem beq_iff {d e : D} : d.beq e = true ↔ d = e := by
  constructor
  · exact fun h => beqD_eq h
  · rintro rfl; exact beq_refl' d
where
  beqD_eq : ∀ {a b : D}, a.beq b = true → a = b
  | .non, .non, _ => rfl
  | .bl a, .bl b, h => by simp [D.beq] at h; rw [h]
  | .int a, .int b, h => by simp [D.beq] at h; rw [h]
  | .str a, .str b, h => by simp [D.beq] at h; rw [h]
  | .tup a, .tup b, h => by simp only [D.beq] at h; rw [beqsD_eq h]
  | .lst a, .lst b, h => by simp only [D.beq] at h; rw [beqsD_eq h]
  | .cell a, .cell b, h => by simp [D.beq] at h; rw [h]
  | .ins c a, .ins k b, h => by simp only [D.beq, Bool.and_eq_true, beq_iff_eq] at h; rw [h.1, beqsD_eq h.2]
  | .scr a, .scr b, h => by simp [D.beq] at h; rw [h]
  beqsD_eq : ∀ {a b : List D}, beqs a b = true → a = b
  | [], [], _ => rfl
  | a :: r, b :: s, h => by
    simp only [beqs, Bool.and_eq_true] at h
    rw [beqD_eq h.1, beqsD_eq h.2]
theorem beq_dec (d e : D) [Decidable (d = e)] : d.beq e = decide (d = e) := by
  by_cases q : d = e
  · rw [decide_eq_true q]; exact beq_iff.2 q
  · rw [decide_eq_false q]
    cases z : d.beq e with
    | false => rfl
    | true => exact absurd (beq_iff.1 z) q
@[simp] theorem add_int (m : Bool) (i j : Int) : binD .add m (.int i) (.int j) h = .ok (.int (i + j)) h := (rfl)
@[simp] theorem sub_int (m : Bool) (i j : Int) : binD .sub m (.int i) (.int j) h = .ok (.int (i - j)) h := (rfl)
theorem mul_ok {m : Bool} {i j : Int} (q : mulOk i j = true) : binD .mul m (.int i) (.int j) h = .ok (.int (i * j)) h := by
  show (if mulOk i j then R.ok (D.int (i * j)) h else .no) = _
  rw [if_pos q]
theorem mulOk_l {i j : Int} (h1 : -(2 ^ 64) < i) (h2 : i < 2 ^ 64) : mulOk i j = true := by
  unfold mulOk
  rw [decide_eq_true ⟨h1, h2⟩, Bool.true_or]
theorem mulOk_r {i j : Int} (h1 : -(2 ^ 64) < j) (h2 : j < 2 ^ 64) : mulOk i j = true := by
  unfold mulOk
  rw [decide_eq_true (p := -(2 ^ 64) < j ∧ j < 2 ^ 64) ⟨h1, h2⟩, Bool.true_or, Bool.or_true]
theorem mod_ok {m : Bool} {i j : Int} (q : 0 < j) : binD .mod m (.int i) (.int j) h = .ok (.int (i % j)) h := by
  show (if 0 < j then R.ok (D.int (i % j)) h else .no) = _
  rw [if_pos q]
theorem add_lst {m : Bool} {x y : D} {xs ys : List D} (hx : lstOf h x = some xs) (hy : lstOf h y = some ys) (hl : xs.length + ys.length ≤ SZ) : binD .add m x y h = newL m (xs ++ ys) h := by
  cases x <;> cases y <;> simp_all [binD, lstOf]
@[simp] theorem add_tup (m : Bool) (xs ys : List D) : binD .add m (.tup xs) (.tup ys) h = if xs.length + ys.length ≤ SZ then .ok (.tup (xs ++ ys)) h else .no := (rfl)
theorem len_ok {m : Bool} {x : D} {ds : List D} (e : items h x = some ds) : biD .len m [x] h = .ok (.int ds.length) h := by simp only [biD, one1, e]
theorem sum_ok {m : Bool} {x : D} {r : List Int} (e : items h x = some (iL r)) : biD .sum m [x] h = .ok (.int r.sum) h := by simp only [biD, one1, intsIn, e, intsOf_map]
theorem min_ok {m : Bool} {x : D} {r : List Int} (e : lstOf h x = some (iL r)) (hr : r ≠ []) : biD .min m [x] h = .ok (.int (minL r)) h := by
  simp only [biD, one1, intsL, e, intsOf_map]
  cases r with
  | nil => exact absurd rfl hr
  | cons a r => rfl
theorem max_ok {m : Bool} {x : D} {r : List Int} (e : lstOf h x = some (iL r)) (hr : r ≠ []) : biD .max m [x] h = .ok (.int (maxL r)) h := by
  simp only [biD, one1, intsL, e, intsOf_map]
  cases r with
  | nil => exact absurd rfl hr
  | cons a r => rfl
theorem list_ok {m : Bool} {x : D} {ds : List D} (e : items h x = some ds) : biD .list m [x] h = newL m ds h := by simp only [biD, one1, e]
theorem tuple_ok {m : Bool} {x : D} {ds : List D} (e : items h x = some ds) : biD .tuple m [x] h = .ok (.tup ds) h := by simp only [biD, one1, e]
@[simp] theorem int_ok (m : Bool) (i : Int) : biD .int m [.int i] h = .ok (.int i) h := (rfl)
theorem blsOf_map (r : List Bool) : blsOf (r.map .bl) = some r := by
  induction r with
  | nil => rfl
  | cons a r ih => simp only [List.map_cons, blsOf, ih]; rfl
theorem any_ok {m : Bool} {x : D} {r : List Bool} (e : lstOf h x = some (r.map .bl)) : biD .any m [x] h = .ok (.bl (r.any id)) h := by simp only [biD, one1, blsL, e, blsOf_map]
theorem ix_ok {x : D} {ds : List D} {k : Nat} {d : D} (e : items h x = some ds) (q : ds[k]? = some d) : ixV x (.int k) h = .ok d h := by
  unfold ixV
  simp only [e, ixD]
  rw [if_pos (by omega), show ((k : Nat) : Int).toNat = k by omega, q]
theorem ix_int {x : D} {ds : List D} {k : Int} {d : D} (e : items h x = some ds) (h0 : 0 ≤ k) (q : ds[k.toNat]? = some d) : ixV x (.int k) h = .ok d h := by
  unfold ixV
  simp only [e, ixD]
  rw [if_pos h0, q]
theorem ix_last {x : D} {ds : List D} {d : D} (e : items h x = some (ds ++ [d])) : ixV x (.int (-1)) h = .ok d h := by
  unfold ixV
  simp only [e, ixD]
  rw [if_neg (by decide), if_pos (by simp; omega)]
  have : ((-1 : Int) + ((ds ++ [d]).length : Int)).toNat = ds.length := by simp; omega
  rw [this]
  simp
end
end Z

namespace Z
theorem forGo_to {ck : Ck} {asg : D → Env → Option Env} {f : Env → CH → RS} {fg : List Nat} {C : RS → Prop} (I : Nat → Env → CH → Prop) {ds : List D} {env : Env} {h : CH} (i0 : I 0 env h) (c : ∀ i env h, i ≤ ds.length → I i env h → ckOk ck h = true)
    (st : ∀ i d env h, ds[i]? = some d → I i env h → ∃ env1 env2 h2, asg d env = some env1 ∧ f env1 h = .nx env2 h2 ∧ I (i + 1) (wipeE env2 fg) h2) (go : ∀ env' h', I ds.length env' h' → C (.nx env' h')) : C (forGo ck asg f fg ds env h) := by
  obtain ⟨env', h', e1, e2⟩ := forGo_inv (ck := ck) (asg := asg) (f := f) (fg := fg) I ds 0 env h i0 (fun i env h hi => c i env h (by omega)) (fun i d env h hd hI => by
    rw [Nat.zero_add] at hI ⊢
    exact st i d env h hd hI)
  rw [e1]
  rw [Nat.zero_add] at e2
  exact go env' h' e2
def oT (o : Option Env) (P : Env → Prop) : Prop := ∃ e, o = some e ∧ P e
@[simp] theorem oT_some (e : Env) (P : Env → Prop) : oT (some e) P ↔ P e := ⟨fun ⟨_, a, b⟩ => by cases a; exact b, fun h => ⟨e, rfl, h⟩⟩
def nT (r : RS) (P : Env → CH → Prop) : Prop := ∃ e h, r = .nx e h ∧ P e h
@[simp] theorem nT_nx (e : Env) (h : CH) (P : Env → CH → Prop) : nT (.nx e h) P ↔ P e h := ⟨fun ⟨_, _, a, b⟩ => by cases a; exact b, fun q => ⟨e, h, rfl, q⟩⟩
@[simp] theorem asg_nm (i : Nat) (d : D) (env : Env) : asgTg (.nm i) d env = some (env.set i (some d)) := (rfl)
@[simp] theorem asg_tp (ts : List Nat) (ds : List D) (env : Env) : asgTg (.tp ts) (.tup ds) env = if ds.length = ts.length then some (setAll ts ds env) else none := (rfl)
/-- over numbers -/
theorem forGo_rng {ck : Ck} {asg : D → Env → Option Env} {f : Env → CH → RS} {fg : List Nat} {C : RS → Prop} {n : Nat} {g : Nat → D} (I : Nat → Env → CH → Prop) {env : Env} {h : CH} (i0 : I 0 env h) (c : ∀ i env h, i ≤ n → I i env h → ckOk ck h = true)
    (st : ∀ i env h, i < n → I i env h → oT (asg (g i) env) fun env1 => nT (f env1 h) fun env2 h2 => I (i + 1) (wipeE env2 fg) h2) (go : ∀ env' h', I n env' h' → C (.nx env' h')) : C (forGo ck asg f fg ((List.range n).map g) env h) :=
  forGo_to I i0 (fun i env h hi => c i env h (by simpa using hi)) (fun i d env h hd hI => by
    have lt : i < n := by
      rcases Nat.lt_or_ge i n with z | z
      · exact z
      · rw [List.getElem?_eq_none (by simpa using z)] at hd; cases hd
    rw [List.getElem?_map, List.getElem?_range lt] at hd
    cases hd
    obtain ⟨env1, a, env2, h2, b, c⟩ := st i env h lt hI
    exact ⟨env1, env2, h2, a, b, c⟩) fun env' h' e => go env' h' (by simpa using e)
/-- a walk that changes nothing -/
theorem forGo_same {ck : Ck} {asg : D → Env → Option Env} {f : Env → CH → RS} {fg : List Nat} {n : Nat} {g : Nat → D} {env0 : Env} {h : CH} (c : ckOk ck h = true)
    (st : ∀ i, i < n → oT (asg (g i) env0) fun env1 => nT (f env1 h) fun env2 h2 => h2 = h ∧ wipeE env2 fg = env0) : forGo ck asg f fg ((List.range n).map g) env0 h = .nx env0 h :=
  forGo_rng (C := fun r => r = .nx env0 h) (fun _ env h' => env = env0 ∧ h' = h) ⟨rfl, rfl⟩ (fun i env h' _ e => by rw [e.2]; exact c) (fun i env h' hi e => by
    obtain ⟨rfl, rfl⟩ := e
    obtain ⟨env1, a, env2, h2, b, rfl, c2⟩ := st i hi
    exact ⟨env1, a, env2, _, b, c2, rfl⟩) fun env' h' e => by rw [e.1, e.2]
theorem comp_rng {ck : Ck} {asg : D → Option Env} {f : Env → CH → R D} {h : CH} {n : Nat} {g : Nat → D} (c : ckOk ck h = true) (G : Nat → D) (st : ∀ i, i < n → oT (asg (g i)) fun env => f env h = .ok (G i) h) : compGo ck asg (fun _ h => .ok true h) f ((List.range n).map g) h = .ok ((List.range n).map G) h := by
  obtain ⟨ys, h', e1, e2, e3⟩ := compGo_inv (ck := ck) (asg := asg) (f := f) (fun dn hh => hh = h ∧ dn = (List.range dn.length).map G) ((List.range n).map g) [] h ⟨rfl, rfl⟩ (fun dn hh e => by rw [e.1]; exact c) (fun i d dn hh hd hl e => by
    have lt : i < n := by
      rcases Nat.lt_or_ge i n with z | z
      · exact z
      · rw [List.getElem?_eq_none (by simpa using z)] at hd; cases hd
    rw [List.getElem?_map, List.getElem?_range lt] at hd
    cases hd
    obtain ⟨env, a, b⟩ := st i lt
    obtain ⟨rfl, e2⟩ := e
    refine ⟨env, G i, hh, a, b, rfl, ?_⟩
    have : dn.length = i := by simpa using hl
    rw [List.length_append, List.length_singleton, List.range_succ, List.map_append, ← e2, this]
    rfl)
  rw [e1]
  obtain ⟨rfl, e3⟩ := e3
  simp only [List.nil_append] at e3
  rw [e3]
  have : ys.length = n := by simpa using e2
  rw [this]
@[simp] theorem evC_none_fun (Φ : FS) : (fun en => evC Φ .none en) = fun _ h => .ok true h := by
  funext en h
  simp
variable {h : CH} {k : Nat}
/-- a list or a tuple -/
def W (b : Bool) (ds : List D) : D := if b then .tup ds else .lst ds
@[simp] theorem items_W (b : Bool) (ds : List D) : items h (W b ds) = some ds := by cases b <;> rfl
theorem nc_W (b : Bool) {ds : List D} (e : ncs ds = true) : (W b ds).nc = true := by cases b <;> exact e
@[simp] theorem ck_W (b : Bool) (ds es : List D) : ckOf (W b ds) es = none := by cases b <;> rfl
/-! ### tables of a function -/
abbrev F2 := Nat → Nat → Int
def rowF (n : Nat) (f : F2) (i : Nat) : List Int := (List.range n).map (f i)
def mat (n : Nat) (f : F2) : List (List Int) := (List.range n).map (rowF n f)
def Skew (n : Nat) (f : F2) : Prop := ∀ i j, i < n → j < n → f i j = - f j i
/-- how a table is written -/
def tabD (a b : Bool) (n : Nat) (f : F2) : D := W a ((List.range n).map fun i => W b (iL (rowF n f i)))
theorem tab_tt (n : Nat) (f : F2) : tabD true true n f = tT2 (mat n f) := by simp [tabD, W, mat]
theorem tab_ff (n : Nat) (f : F2) : tabD false false n f = lL2 (mat n f) := by simp [tabD, W, mat]
theorem ncs_iL (r : List Int) : ncs (iL r) = true := ncs_map r nc_int
theorem nc_tab (a b : Bool) (n : Nat) (f : F2) : (tabD a b n f).nc = true := nc_W a (ncs_map _ fun i => nc_W b (ncs_iL _))
theorem range_get {n i : Nat} (h : i < n) : (List.range n)[i]? = some i := List.getElem?_range h
theorem rng_map_get {α : Type} {n i : Nat} (g : Nat → α) (h : i < n) : ((List.range n).map g)[i]? = some (g i) := by rw [List.getElem?_map, range_get h]; rfl
theorem rowF_get {n : Nat} {f : F2} {i j : Nat} (h : j < n) : (iL (rowF n f i))[j]? = some (.int (f i j)) := by
  unfold iL rowF
  rw [List.map_map]
  exact rng_map_get _ h
theorem len_rowF (n : Nat) (f : F2) (i : Nat) : (rowF n f i).length = n := by simp [rowF]
/-- x[i][j] of a table -/
theorem tab_row {a b : Bool} {n : Nat} {f : F2} {i : Nat} (hi : i < n) : ixV (tabD a b n f) (.int i) h = .ok (W b (iL (rowF n f i))) h := ix_ok (items_W _ _) (rng_map_get _ hi)
theorem row_at {b : Bool} {n : Nat} {f : F2} {i j : Nat} (hj : j < n) : ixV (W b (iL (rowF n f i))) (.int j) h = .ok (.int (f i j)) h := ix_ok (items_W _ _) (rowF_get hj)
theorem it_rng1 {n : Nat} (e : n < 1000000) : itD .rng1 [.int (n : Nat)] h = .ok ((List.range n).map (fun i : Nat => D.int i), none) h := by
  have : rngOk (n : Nat) = true := by unfold rngOk; exact decide_eq_true ⟨by omega, by omega⟩
  show (if rngOk (n : Nat) then R.ok (rngL 0 ((n : Nat) : Int).toNat, (none : Ck)) h else .no) = _
  rw [if_pos this]
  simp [rngL]
@[simp] theorem items_tab (a b : Bool) (n : Nat) (f : F2) : items h (tabD a b n f) = some ((List.range n).map fun i => W b (iL (rowF n f i))) := items_W _ _
@[simp] theorem ck_tab (a b : Bool) (n : Nat) (f : F2) (es : List D) : ckOf (tabD a b n f) es = none := ck_W _ _ _
@[simp] theorem len_tab {m : Bool} (a b : Bool) (n : Nat) (f : F2) : biD .len m [tabD a b n f] h = .ok (.int (n : Nat)) h := by
  rw [len_ok (items_tab _ _ _ _)]
  simp
@[simp] theorem len_row {m : Bool} (b : Bool) (n : Nat) (f : F2) (i : Nat) : biD .len m [W b (iL (rowF n f i))] h = .ok (.int (n : Nat)) h := by
  rw [len_ok (items_W _ _)]
  simp [len_rowF]
@[simp] theorem itR_tab (a b : Bool) (n : Nat) (f : F2) : itR (tabD a b n f) h = .ok ((List.range n).map (fun i => W b (iL (rowF n f i))), none) h := by rw [itR_of (items_tab _ _ _ _), ck_tab]
end Z

/-! tables in cells -/
namespace Z
theorem forGo_list {α : Type} {ck : Ck} {asg : D → Env → Option Env} {f : Env → CH → RS} {fg : List Nat} {C : RS → Prop} {l : List α} {g : α → D} (I : Nat → Env → CH → Prop) {env : Env} {h : CH} (i0 : I 0 env h) (c : ∀ i env h, i ≤ l.length → I i env h → ckOk ck h = true)
    (st : ∀ i x env h, l[i]? = some x → I i env h → oT (asg (g x) env) fun env1 => nT (f env1 h) fun env2 h2 => I (i + 1) (wipeE env2 fg) h2) (go : ∀ env' h', I l.length env' h' → C (.nx env' h')) : C (forGo ck asg f fg (l.map g) env h) :=
  forGo_to I i0 (fun i env h hi => c i env h (by simpa using hi)) (fun i d env h hd hI => by
    rw [List.getElem?_map] at hd
    cases q : l[i]? with
    | none => rw [q] at hd; cases hd
    | some x =>
      rw [q] at hd
      cases hd
      obtain ⟨env1, a, env2, h2, b, c⟩ := st i x env h q hI
      exact ⟨env1, env2, h2, a, b, c⟩) fun env' h' e => go env' h' (by simpa using e)
/-- f with one entry set -/
def stF (f : F2) (i j : Nat) (v : Int) : F2 := fun a b => if a = i ∧ b = j then v else f a b
structure Mx (h : CH) (m : Nat) (cs : Nat → Nat) (n : Nat) (f : F2) : Prop where
  top : h[m]? = some (.lst ((List.range n).map fun i => .cell (cs i)))
  row : ∀ i, i < n → h[cs i]? = some (.lst (iL (rowF n f i)))
  inj : ∀ i j, i < n → j < n → cs i = cs j → i = j
  out : ∀ i, i < n → cs i ≠ m
variable {h h' : CH} {m n : Nat} {cs : Nat → Nat} {f : F2}
theorem Mx.at_row (M : Mx h m cs n f) {i : Nat} (hi : i < n) : ixV (.cell m) (.int i) h = .ok (.cell (cs i)) h := ix_ok (ds := (List.range n).map fun i => .cell (cs i)) (by simp only [items, M.top]) (rng_map_get _ hi)
theorem Mx.at_ (M : Mx h m cs n f) {i j : Nat} (hi : i < n) (hj : j < n) : ixV (.cell (cs i)) (.int j) h = .ok (.int (f i j)) h := ix_ok (ds := iL (rowF n f i)) (by simp only [items, M.row i hi]) (rowF_get hj)
theorem rowF_set {i j : Nat} (v : Int) (hj : j < n) : (iL (rowF n f i)).set j (.int v) = iL (rowF n (stF f i j v) i) := by
  apply List.ext_getElem?
  intro k
  by_cases hk : k < n
  · rw [rowF_get hk]
    by_cases e : j = k
    · subst e
      rw [List.getElem?_set_self (by simp [len_rowF]; exact hk)]
      simp [stF]
    · rw [List.getElem?_set_ne e, rowF_get hk]
      have : ¬ k = j := fun z => e z.symm
      simp [stF, this]
  · rw [List.getElem?_eq_none (by simp [len_rowF]; omega), List.getElem?_eq_none (by simp [len_rowF]; omega)]
theorem rowF_other {i a j : Nat} (v : Int) (e : a ≠ i) : rowF n (stF f i j v) a = rowF n f a := by
  unfold rowF
  apply List.map_congr_left
  intro b _
  simp [stF, e]
/-- what a store leaves -/
structure FrM (h h' : CH) (cs : Nat → Nat) (n : Nat) : Prop where
  len : h'.length = h.length
  oth : ∀ x, (∀ i, i < n → x ≠ cs i) → h'[x]? = h[x]?
theorem FrM.refl : FrM h h cs n := ⟨rfl, fun _ _ => rfl⟩
theorem FrM.trans {h2 : CH} (a : FrM h h' cs n) (b : FrM h' h2 cs n) : FrM h h2 cs n := ⟨b.len.trans a.len, fun x q => (b.oth x q).trans (a.oth x q)⟩
theorem Mx.put (M : Mx h m cs n f) {i j : Nat} (v : Int) (hi : i < n) (hj : j < n) : ∃ h', setV (.cell (cs i)) (.int j) (.int v) h = some h' ∧ Mx h' m cs n (stF f i j v) ∧ FrM h h' cs n := by
  have lt : cs i < h.length := by
    rcases Nat.lt_or_ge (cs i) h.length with z | z
    · exact z
    · have := M.row i hi
      rw [List.getElem?_eq_none z] at this; cases this
  refine ⟨h.set (cs i) (.lst (iL (rowF n (stF f i j v) i))), ?_, ⟨?_, fun a ha => ?_, M.inj, M.out⟩, ⟨by simp, fun x hx => by rw [List.getElem?_set_ne (fun e => hx i hi e.symm)]⟩⟩
  · unfold setV
    simp only [M.row i hi]
    rw [if_pos (by omega), if_pos (by simp [len_rowF]; exact hj), ← rowF_set v hj]
    simp
  · rw [List.getElem?_set_ne (M.out i hi)]; exact M.top
  · by_cases e : i = a
    · subst e
      rw [List.getElem?_set_self lt]
    · rw [List.getElem?_set_ne (fun z => e (M.inj i a hi ha z)), rowF_other v (fun z => e z.symm)]
      exact M.row a ha
theorem mapM_map {α β γ : Type} {F : β → Option γ} {g : α → β} {G : α → γ} : ∀ (l : List α), (∀ x ∈ l, F (g x) = some (G x)) → (l.map g).mapM F = some (l.map G)
  | [], _ => rfl
  | a :: r, h => by
    rw [List.map_cons, List.mapM_cons, h a List.mem_cons_self, mapM_map r fun x hx => h x (List.mem_cons_of_mem _ hx)]
    rfl
theorem snapF_ints (k : Nat) (r : List Int) : (iL r).mapM (snapF h (k + 1)) = some (iL r) := mapM_map (F := snapF h (k + 1)) (g := D.int) (G := D.int) r fun x _ => rfl
theorem Mx.snapF (M : Mx h m cs n f) (k : Nat) : snapF h (k + 3) (.cell m) = some (tabD false false n f) := by
  show (match h[m]? with
    | some (.lst ds) => (ds.mapM (Z.snapF h (k + 2))).map D.lst
    | _ => none) = _
  rw [M.top]
  simp only
  rw [mapM_map (F := Z.snapF h (k + 2)) (g := fun i => D.cell (cs i)) (G := fun i => W false (iL (rowF n f i))) (List.range n) fun i hi => by
    show (match h[cs i]? with
      | some (.lst ds) => (ds.mapM (Z.snapF h (k + 1))).map D.lst
      | _ => none) = _
    rw [M.row i (List.mem_range.1 hi)]
    simp only
    rw [snapF_ints]
    rfl]
  rfl
theorem Mx.snap (M : Mx h m cs n f) : snap h (.cell m) = some (tabD false false n f) := by
  unfold Z.snap
  rw [if_neg (by simp [D.nc])]
  exact M.snapF 3
/-- rows laid as new cells -/
theorem comp_cells {ck : Ck} {asg : D → Option Env} {F : Env → CH → R D} {g : Nat → D} {G : Nat → Cell} (c : ∀ l : CH, ckOk ck (h ++ l) = true) (st : ∀ i l, i < n → l.length = i → oT (asg (g i)) fun env => F env (h ++ l) = .ok (.cell (h ++ l).length) ((h ++ l) ++ [G i])) :
    compGo ck asg (fun _ h => .ok true h) F ((List.range n).map g) h = .ok ((List.range n).map fun i => .cell (h.length + i)) (h ++ (List.range n).map G) := by
  obtain ⟨ys, h', e1, e2, e3⟩ := compGo_inv (ck := ck) (asg := asg) (f := F) (fun dn hh => hh = h ++ (List.range dn.length).map G ∧ dn = (List.range dn.length).map fun i => .cell (h.length + i)) ((List.range n).map g) [] h ⟨by simp, rfl⟩ (fun dn hh e => by rw [e.1]; exact c _) (fun i d dn hh hd hl e => by
    have lt : i < n := by
      rcases Nat.lt_or_ge i n with z | z
      · exact z
      · rw [List.getElem?_eq_none (by simpa using z)] at hd; cases hd
    rw [List.getElem?_map, List.getElem?_range lt] at hd
    cases hd
    have hl : dn.length = i := by simpa using hl
    obtain ⟨rfl, e2⟩ := e
    obtain ⟨env, a, b⟩ := st i ((List.range dn.length).map G) lt (by simpa using hl)
    refine ⟨env, _, _, a, b, ?_, ?_⟩
    · rw [List.length_append, List.length_singleton, List.range_succ, List.map_append, hl, List.append_assoc]; rfl
    · have e5 : (dn ++ [D.cell (h ++ List.map G (List.range dn.length)).length]).length = dn.length + 1 := by simp
      rw [e5, List.range_succ, List.map_append, ← e2]
      simp)
  rw [e1]
  have hy : ys.length = n := by simpa using e2
  obtain ⟨rfl, e3⟩ := e3
  simp only [List.nil_append] at e3 ⊢
  rw [hy] at e3 ⊢
  rw [e3]
theorem Mx.new (h : CH) (n : Nat) (f : F2) : Mx (h ++ (List.range n).map (fun i => Cell.lst (iL (rowF n f i))) ++ [.lst ((List.range n).map fun i => .cell (h.length + i))]) (h.length + n) (fun i => h.length + i) n f where
  top := by
    rw [List.getElem?_append_right (by simp)]
    simp
  row := fun i hi => by
    rw [List.getElem?_append_left (by simp; omega), List.getElem?_append_right (by simp)]
    simp [hi]
  inj := fun i j _ _ e => by
    have : h.length + i = h.length + j := e
    omega
  out := fun i hi e => by
    have : h.length + i = h.length + n := e
    omega
/-! ### sequences of numbers -/
theorem list_rng {α : Type} (c : List Nat) (g : Nat → α) : c.map g = (List.range c.length).map fun i => g (c[i]?.getD 0) := by
  apply List.ext_getElem?
  intro i
  by_cases hi : i < c.length
  · rw [rng_map_get _ hi, List.getElem?_map, List.getElem?_eq_getElem hi]; rfl
  · rw [List.getElem?_eq_none (by simp; omega), List.getElem?_eq_none (by simp; omega)]
theorem enum_get' : ∀ (ds : List D) (k i : Nat), (enumFrom k ds)[i]? = (ds[i]?).map fun x => D.tup [.int ((k + i : Nat) : Int), x]
  | [], k, i => by simp [enumFrom]
  | y :: r, k, 0 => by simp [enumFrom]
  | y :: r, k, i + 1 => by
    rw [enumFrom, List.getElem?_cons_succ, List.getElem?_cons_succ, enum_get' r (k + 1) i, show k + 1 + i = k + (i + 1) by omega]
theorem enum_rng (n : Nat) (g : Nat → D) : enumFrom 0 ((List.range n).map g) = (List.range n).map fun i : Nat => D.tup [.int i, g i] := by
  apply List.ext_getElem?
  intro i
  rw [enum_get']
  by_cases hi : i < n
  · rw [rng_map_get _ hi, rng_map_get _ hi]; simp
  · rw [List.getElem?_eq_none (by simp; omega), List.getElem?_eq_none (by simp; omega)]; rfl
theorem it_enum {x : D} {ds : List D} (e : items h x = some ds) (ns : ∀ l, x ≠ .scr l) : itD .enum [x] h = .ok (enumFrom 0 ds, ckOf x ds) h := by
  simp only [itD, e]
  cases x with
  | scr l => exact absurd rfl (ns l)
  | _ => rfl
theorem W_ns (b : Bool) (ds : List D) (l : List Int) : W b ds ≠ .scr l := by cases b <;> intro e <;> cases e
theorem slice_to (ds : List D) (k : Nat) : sliceD ds none (some (k : Nat)) = ds.take k := by
  unfold sliceD
  rw [HT.sIx_none, HT.sIx_nat, List.drop_zero, Nat.sub_zero]
  by_cases e : k ≤ ds.length
  · rw [Nat.min_eq_left e]
  · rw [Nat.min_eq_right (by omega), List.take_length, List.take_of_length_le (by omega)]
theorem slice_from (ds : List D) (k : Nat) : sliceD ds (some (k : Nat)) none = ds.drop k := by
  unfold sliceD
  rw [HT.sIx_none, HT.sIx_nat]
  by_cases e : k ≤ ds.length
  · rw [Nat.min_eq_left e, List.take_of_length_le (by simp)]
  · rw [Nat.min_eq_right (by omega), List.drop_length, List.drop_of_length_le (by omega), List.take_nil]
theorem memD_iN (x : Nat) (c : List Nat) : memD (.int x) (c.map fun x : Nat => D.int x) = decide (x ∈ c) := by
  induction c with
  | nil => rfl
  | cons a r ih =>
    have : memD (.int x) ((a :: r).map fun x : Nat => D.int x) = ((decide ((a : Int) = x)) || memD (.int x) (r.map fun x : Nat => D.int x)) := by
      simp [memD, eqF]
      rfl
    rw [this, ih]
    by_cases e : a = x
    · subst e; simp
    · have e2 : ¬ ((a : Int) = x) := by omega
      have e3 : ¬ x = a := fun z => e z.symm
      simp [e2, e3]
theorem inn_iN {d : D} {x : Nat} {c : List Nat} (e : items h d = some (c.map fun x : Nat => D.int x)) : cmpD .inn (.int x) d h = .ok (.bl (decide (x ∈ c))) h := by
  simp only [cmpD, e]
  rw [if_pos (by simp [flatD]), memD_iN]
theorem snaps_map (ds : List D) : snaps h ds = ds.mapM (snap h) := by
  unfold snaps
  split
  · rename_i e
    have : ∀ l : List D, ncs l = true → l.mapM (snap h) = some l := by
      intro l
      induction l with
      | nil => intro _; rfl
      | cons a r ih =>
        intro q
        simp only [ncs, Bool.and_eq_true] at q
        rw [List.mapM_cons, snap_nc q.1, ih q.2]
        rfl
    exact (this ds e).symm
  · rfl
theorem snaps_one {d d' : D} (e : snap h d = some d') : snaps h [d] = some [d'] := by rw [snaps_map, List.mapM_cons, e]; rfl
theorem snaps_two {d d' e e' : D} (q : snap h d = some d') (r : snap h e = some e') : snaps h [d, e] = some [d', e'] := by rw [snaps_map, List.mapM_cons, q, List.mapM_cons, r]; rfl
theorem snaps_three {d d' e e' g g' : D} (q : snap h d = some d') (r : snap h e = some e') (t : snap h g = some g') : snaps h [d, e, g] = some [d', e', g'] := by rw [snaps_map, List.mapM_cons, q, List.mapM_cons, r, List.mapM_cons, t]; rfl
end Z

/-! the defs of law k72, without places (printed by zgen.py) -/
namespace ZK72
open Z
/-- 0: law; slots 0 script, 1 drawn, 2 many, 3 first, 4 second, 5 done, 6 step, 7 kept, 8 found, 9 turn, 10 one, 11 other, 12 row, 13 amount, 14 told -/
def b_law : Ss := (.cons (.asg (.nm 1) (.call false 1 (.cons (.var 0) .nil)))
  (.cons (.asg (.nm 2) (.ix (.lst false (.cons (.con (.int 3)) (.cons (.con (.int 4)) (.cons (.con (.int 2)) (.cons (.con (.int 5)) (.cons (.con (.int 6)) (.cons (.con (.int 1)) (.cons (.con (.int 7)) (.cons (.con (.int 8)) .nil))))))))) (.call false 2 (.cons (.var 1) (.cons (.con (.int 8)) .nil)))))
  (.cons (.asg (.nm 3) (.call false 3 (.cons (.var 1) (.cons (.var 2) .nil))))
  (.cons (.asg (.nm 4) (.comp true [("row", 12)] (.nm 12) (.e (.var 3)) .none (.bi .list true (.cons (.var 12) .nil))))
  (.cons (.asg (.nm 5) (.lst true .nil))
  (.cons (.asg (.nm 6) (.ix (.lst false (.cons (.con (.int 1)) (.cons (.con (.int 2)) (.cons (.con (.int 1)) .nil)))) (.call false 2 (.cons (.var 1) (.cons (.con (.int 3)) .nil)))))
  (.cons (.ife (.cmp .gt (.var 2) (.con (.int 2)))
  (.cons (.fr (.nm 9) (.f .rng1 (.cons (.call false 2 (.cons (.var 1) (.cons (.con (.int 5)) .nil))) .nil))
  (.cons (.asg (.nm 12) (.call false 4 (.cons (.var 1) (.cons (.var 2) .nil))))
  (.cons (.asg (.nm 13) (.bin .mul false (.var 6) (.bin .sub false (.call false 5 (.cons (.var 1) (.cons (.con (.int 60)) .nil))) (.con (.int 30)))))
  (.cons (.asg (.nm 14) (.call true 6 (.cons (.var 4) (.cons (.var 12) (.cons (.var 13) .nil)))))
  (.cons (.asg (.nm 4) (.call false 7 (.cons (.var 4) (.cons (.var 12) (.cons (.var 13) .nil)))))
  (.cons (.ife (.not (.call true 8 (.cons (.var 14) (.cons (.var 4) .nil))))
  (.cons (.ret (.con (.bl false)))
  .nil)
  .nil)
  (.cons (.expr (.mth (.var 5) .append (.cons (.tup (.cons (.bi .tuple false (.cons (.var 12) .nil)) (.cons (.var 13) .nil))) .nil)))
  .nil)))))) [9, 12, 13, 14])
  .nil)
  .nil)
  (.cons (.asg (.nm 7) (.comp false [("row", 12)] (.nm 12) (.e (.var 3)) .none (.bi .tuple false (.cons (.var 12) .nil))))
  (.cons (.ife (.bo false (.not (.call true 8 (.cons (.call true 10 (.cons (.var 3) (.cons (.var 5) .nil))) (.cons (.var 4) .nil)))) (.bo1 false (.cmp .ne (.call true 9 (.cons (.var 3) .nil)) (.call true 9 (.cons (.var 4) .nil)))))
  (.cons (.ret (.con (.bl false)))
  .nil)
  .nil)
  (.cons (.asg (.nm 8) (.call false 11 (.cons (.var 3) (.cons (.var 4) .nil))))
  (.cons (.ife (.bo false (.not (.call true 12 (.cons (.var 8) (.cons (.var 3) (.cons (.var 4) .nil))))) (.bo1 false (.not (.call true 8 (.cons (.call true 10 (.cons (.var 3) (.cons (.var 8) .nil))) (.cons (.var 4) .nil))))))
  (.cons (.ret (.con (.bl false)))
  .nil)
  .nil)
  (.cons (.ife (.not (.call true 12 (.cons (.call false 11 (.cons (.bi .tuple false (.cons (.var 7) .nil)) (.cons (.var 3) .nil))) (.cons (.var 3) (.cons (.var 3) .nil)))))
  (.cons (.ret (.con (.bl false)))
  .nil)
  .nil)
  (.cons (.ife (.cmp .gt (.var 2) (.con (.int 1)))
  (.cons (.asg (.nm 10) (.call false 2 (.cons (.var 1) (.cons (.var 2) .nil))))
  (.cons (.asg (.nm 11) (.bin .mod false (.bi .int false (.cons (.bin .add false (.bin .add false (.var 10) (.con (.int 1))) (.call false 2 (.cons (.var 1) (.cons (.bin .sub false (.var 2) (.con (.int 1))) .nil)))) .nil)) (.var 2)))
  (.cons (.asg (.sub (.ix (.var 4) (.var 10)) (.var 11)) (.bin .add false (.ix (.ix (.var 4) (.var 10)) (.var 11)) (.con (.int 1))))
  (.cons (.asg (.sub (.ix (.var 4) (.var 11)) (.var 10)) (.bin .sub false (.ix (.ix (.var 4) (.var 11)) (.var 10)) (.con (.int 1))))
  (.cons (.ife (.cmp .isn (.call false 11 (.cons (.var 3) (.cons (.var 4) .nil))) (.con .non))
  (.cons (.ret (.con (.bl false)))
  .nil)
  .nil)
  .nil)))))
  .nil)
  (.cons (.ret (.cmp .eq (.comp false [("row", 12)] (.nm 12) (.e (.var 3)) .none (.bi .tuple false (.cons (.var 12) .nil))) (.var 7)))
  .nil))))))))))))))
/-- 1: _law_draws; slots 0 script, 1 drawn, 2 at, 3 cell, 4 turn, 5 state -/
def b_law_draws_m : Ss := (.cons (.asg (.nm 1) (.lst true .nil))
  (.cons (.fr (.nm 2) (.f .rng1 (.cons (.bi .min2 false (.cons (.bi .len false (.cons (.var 0) .nil)) (.cons (.con (.int 63)) .nil))) .nil))
  (.cons (.asg (.nm 3) (.bi .int false (.cons (.ix (.var 0) (.var 2)) .nil)))
  (.cons (.ife (.cmp .lt (.var 3) (.con (.int 0)))
  (.cons (.asg (.nm 3) (.bin .sub false (.con (.int 3)) (.bin .mul false (.con (.int 2)) (.var 3))))
  .nil)
  .nil)
  (.cons (.ife (.cmp .ge (.var 3) (.bin .pow false (.con (.int 10)) (.con (.int 18))))
  (.cons (.fr (.nm 4) (.f .rng1 (.cons (.con (.int 42)) .nil))
  (.cons (.ife (.cmp .gt (.var 3) (.con (.int 0)))
  (.cons (.expr (.mth (.var 1) .append (.cons (.bin .mod false (.bi .int false (.cons (.var 3) .nil)) (.con (.int 24))) .nil)))
  (.cons (.asg (.nm 3) (.bin .fdiv false (.var 3) (.con (.int 24))))
  .nil))
  .nil)
  .nil) [4])
  .nil)
  (.cons (.asg (.nm 5) (.bin .mod false (.bi .int false (.cons (.bin .add false (.bin .add false (.bin .mul false (.var 3) (.con (.int 50331653))) (.bin .mul false (.var 2) (.con (.int 12582917)))) (.con (.int 29))) .nil)) (.con (.int 2147483629))))
  (.cons (.fr (.nm 4) (.f .rng1 (.cons (.con (.int 7)) .nil))
  (.cons (.asg (.nm 5) (.bin .mod false (.bi .int false (.cons (.bin .add false (.bin .add false (.bin .add false (.bin .mul false (.var 5) (.var 5)) (.bin .mul false (.var 4) (.con (.int 6151)))) (.bin .mul false (.var 2) (.con (.int 97)))) (.con (.int 7))) .nil)) (.con (.int 2147483587))))
  (.cons (.expr (.mth (.var 1) .append (.cons (.var 5) .nil)))
  .nil)) [4])
  .nil)))
  .nil))) [2, 3, 4, 5])
  (.cons (.expr (.mth (.var 1) .reverse .nil))
  (.cons (.ret (.var 1))
  .nil))))
/-- 2: _law_take; slots 0 drawn, 1 many -/
def b_law_take : Ss := (.cons (.ife (.cmp .eq (.bi .len false (.cons (.var 0) .nil)) (.con (.int 0)))
  (.cons (.ret (.con (.int 0)))
  .nil)
  .nil)
  (.cons (.ret (.bin .mod false (.bi .int false (.cons (.mth (.var 0) .pop .nil) .nil)) (.var 1)))
  .nil))
/-- 3: _law_table; slots 0 drawn, 1 many, 2 top, 3 rows, 4 one, 5 other, 6 entry -/
def b_law_table : Ss := (.cons (.asg (.nm 2) (.ix (.lst false (.cons (.con (.int 3)) (.cons (.con (.int 1)) (.cons (.con (.int 50)) (.cons (.con (.int 160000)) .nil))))) (.call false 2 (.cons (.var 0) (.cons (.con (.int 4)) .nil)))))
  (.cons (.asg (.nm 3) (.lst true .nil))
  (.cons (.fr (.nm 4) (.f .rng1 (.cons (.var 1) .nil))
  (.cons (.expr (.mth (.var 3) .append (.cons (.comp true [("other", 5)] (.nm 5) (.f .rng1 (.cons (.var 1) .nil)) .none (.con (.int 0))) .nil)))
  .nil) [4])
  (.cons (.fr (.nm 4) (.f .rng1 (.cons (.var 1) .nil))
  (.cons (.fr (.nm 5) (.f .rng2 (.cons (.bin .add false (.var 4) (.con (.int 1))) (.cons (.var 1) .nil)))
  (.cons (.asg (.nm 6) (.bin .sub false (.call false 5 (.cons (.var 0) (.cons (.bin .mul false (.con (.int 2)) (.var 2)) .nil))) (.var 2)))
  (.cons (.asg (.sub (.ix (.var 3) (.var 4)) (.var 5)) (.var 6))
  (.cons (.asg (.sub (.ix (.var 3) (.var 5)) (.var 4)) (.neg (.var 6)))
  .nil))) [5, 6])
  .nil) [4, 5, 6])
  (.cons (.frz 3)
  (.cons (.ret (.var 3))
  .nil))))))
/-- 4: _law_row; slots 0 drawn, 1 many, 2 left, 3 row, 4 turn, 5 number -/
def b_law_row : Ss := (.cons (.asg (.nm 2) (.comp true [("number", 5)] (.nm 5) (.f .rng1 (.cons (.var 1) .nil)) .none (.var 5)))
  (.cons (.asg (.nm 3) (.lst true .nil))
  (.cons (.fr (.nm 4) (.f .rng1 (.cons (.bin .add false (.con (.int 3)) (.call false 2 (.cons (.var 0) (.cons (.bin .sub false (.var 1) (.con (.int 2))) .nil)))) .nil))
  (.cons (.expr (.mth (.var 3) .append (.cons (.mth (.var 2) .popAt (.cons (.call false 2 (.cons (.var 0) (.cons (.bi .len false (.cons (.var 2) .nil)) .nil))) .nil)) .nil)))
  .nil) [4])
  (.cons (.frz 3)
  (.cons (.ret (.var 3))
  .nil)))))
/-- 5: _law_wide; slots 0 drawn, 1 most, 2 found, 3 turn -/
def b_law_wide : Ss := (.cons (.asg (.nm 2) (.con (.int 0)))
  (.cons (.fr (.nm 3) (.f .rng1 (.cons (.con (.int 4)) .nil))
  (.cons (.asg (.nm 2) (.bin .add false (.bin .mul false (.con (.int 24)) (.var 2)) (.call false 2 (.cons (.var 0) (.cons (.con (.int 24)) .nil)))))
  .nil) [3])
  (.cons (.ret (.bin .mod false (.bi .int false (.cons (.var 2) .nil)) (.bin .add false (.var 1) (.con (.int 1)))))
  .nil)))
/-- 6: shifted_by; slots 0 table, 1 row, 2 amount, 3 rows, 4 chosen, 5 line -/
def b_shifted_by : Ss := (.cons (.asg (.nm 3) (.comp true [("line", 5)] (.nm 5) (.e (.call true 13 (.cons (.var 0) .nil))) .none (.bi .list true (.cons (.var 5) .nil))))
  (.cons (.asg (.nm 4) (.call true 14 (.cons (.var 1) (.cons (.bi .len false (.cons (.var 3) .nil)) .nil))))
  (.cons (.ife (.cmp .lt (.bi .len false (.cons (.var 4) .nil)) (.con (.int 3)))
  (.cons .nev
  .nil)
  .nil)
  (.cons (.ife (.not (.call true 15 (.cons (.var 2) .nil)))
  (.cons .nev
  .nil)
  .nil)
  (.cons (.expr (.call false 16 (.cons (.var 3) (.cons (.bin .add false (.var 4) (.slc false (.var 4) .none (.some (.con (.int 1))))) (.cons (.var 2) .nil)))))
  (.cons (.ret (.call true 17 (.cons (.var 3) .nil)))
  .nil))))))
/-- 7: _law_shifted; slots 0 rows, 1 row, 2 amount, 3 made, 4 at, 5 one, 6 other, 7 line -/
def b_law_shifted_m : Ss := (.cons (.asg (.nm 3) (.comp true [("line", 7)] (.nm 7) (.e (.var 0)) .none (.bi .list true (.cons (.var 7) .nil))))
  (.cons (.fr (.nm 4) (.f .rng1 (.cons (.bi .len false (.cons (.var 1) .nil)) .nil))
  (.cons (.asg (.nm 5) (.ix (.var 1) (.var 4)))
  (.cons (.asg (.nm 6) (.ix (.var 1) (.bin .mod false (.bi .int false (.cons (.bin .add false (.var 4) (.con (.int 1))) .nil)) (.bi .len false (.cons (.var 1) .nil)))))
  (.cons (.asg (.sub (.ix (.var 3) (.var 5)) (.var 6)) (.bin .add false (.ix (.ix (.var 3) (.var 5)) (.var 6)) (.var 2)))
  (.cons (.asg (.sub (.ix (.var 3) (.var 6)) (.var 5)) (.bin .sub false (.ix (.ix (.var 3) (.var 6)) (.var 5)) (.var 2)))
  .nil)))) [4, 5, 6])
  (.cons (.ret (.var 3))
  .nil)))
/-- 8: _law_same; slots 0 told, 1 rows, 2 at, 3 entry -/
def b_law_same : Ss := (.cons (.ife (.bo false (.not (.isi (.var 0) false [.tuple])) (.bo1 false (.cmp .ne (.bi .len false (.cons (.var 0) .nil)) (.bi .len false (.cons (.var 1) .nil)))))
  (.cons (.ret (.con (.bl false)))
  .nil)
  .nil)
  (.cons (.fr (.nm 2) (.f .rng1 (.cons (.bi .len false (.cons (.var 1) .nil)) .nil))
  (.cons (.ife (.bo false (.not (.isi (.ix (.var 0) (.var 2)) false [.tuple])) (.bo1 false (.cmp .ne (.bi .list false (.cons (.ix (.var 0) (.var 2)) .nil)) (.ix (.var 1) (.var 2)))))
  (.cons (.ret (.con (.bl false)))
  .nil)
  .nil)
  (.cons (.fr (.nm 3) (.e (.ix (.var 0) (.var 2)))
  (.cons (.ife (.not (.call true 18 (.cons (.var 3) .nil)))
  (.cons (.ret (.con (.bl false)))
  .nil)
  .nil)
  .nil) [3])
  .nil)) [2, 3])
  (.cons (.ret (.con (.bl true)))
  .nil)))
/-- 9: table_scores; slots 0 table, 1 row -/
def b_table_scores : Ss := (.cons (.ret (.bi .tuple false (.cons (.comp false [("row", 1)] (.nm 1) (.e (.call true 13 (.cons (.var 0) .nil))) .none (.bi .sum false (.cons (.var 1) .nil))) .nil)))
  .nil)
/-- 10: after_shifts; slots 0 table, 1 shifts, 2 rows, 3 shift, 4 row, 5 amount -/
def b_after_shifts : Ss := (.cons (.asg (.nm 2) (.call true 13 (.cons (.var 0) .nil)))
  (.cons (.ife (.not (.call true 19 (.cons (.var 1) .nil)))
  (.cons .nev
  .nil)
  .nil)
  (.cons (.fr (.nm 3) (.e (.var 1))
  (.cons (.ife (.bo false (.not (.call true 19 (.cons (.var 3) .nil))) (.bo1 false (.cmp .ne (.bi .len false (.cons (.var 3) .nil)) (.con (.int 2)))))
  (.cons .nev
  .nil)
  .nil)
  .nil) [3])
  (.cons (.fr (.tp [4, 5]) (.e (.var 1))
  (.cons (.asg (.nm 2) (.call true 6 (.cons (.var 2) (.cons (.var 4) (.cons (.var 5) .nil)))))
  .nil) [4, 5])
  (.cons (.ret (.var 2))
  .nil)))))
/-- 11: shifts_between; slots 0 table, 1 other, 2 here, 3 there, 4 lacking, 5 found, 6 row, 7 way, 8 amount, 9 i, 10 line, 11 j, 12 entry, 13 one, 14 after -/
def b_shifts_between : Ss := (.cons (.asg (.nm 2) (.call true 13 (.cons (.var 0) .nil)))
  (.cons (.asg (.nm 3) (.call true 13 (.cons (.var 1) .nil)))
  (.cons (.ife (.cmp .ne (.bi .len false (.cons (.var 2) .nil)) (.bi .len false (.cons (.var 3) .nil)))
  (.cons .nev
  .nil)
  .nil)
  (.cons (.asg (.nm 4) (.comp true [("i", 9), ("line", 10)] (.tp [9, 10]) (.f .enum (.cons (.var 3) .nil)) .none (.comp true [("j", 11), ("entry", 12)] (.tp [11, 12]) (.f .enum (.cons (.var 10) .nil)) .none (.bin .sub false (.var 12) (.ix (.ix (.var 2) (.var 9)) (.var 11))))))
  (.cons (.ife (.bi .any false (.cons (.comp false [("line", 10)] (.nm 10) (.e (.var 4)) .none (.cmp .ne (.bi .sum false (.cons (.var 10) .nil)) (.con (.int 0)))) .nil))
  (.cons (.ret (.con .non))
  .nil)
  .nil)
  (.cons (.asg (.nm 5) (.lst true .nil))
  (.cons (.asg (.nm 6) (.call false 20 (.cons (.var 4) .nil)))
  (.cons (.whl (.cmp .isn (.var 6) (.con .non))
  (.cons (.asg (.nm 7) (.bin .add false (.var 6) (.slc false (.var 6) .none (.some (.con (.int 1))))))
  (.cons (.asg (.nm 8) (.bi .min false (.cons (.comp false [("one", 13), ("after", 14)] (.tp [13, 14]) (.e (.call true 21 (.cons (.var 7) .nil))) .none (.ix (.ix (.var 4) (.var 13)) (.var 14))) .nil)))
  (.cons (.expr (.call false 16 (.cons (.var 4) (.cons (.var 7) (.cons (.neg (.var 8)) .nil)))))
  (.cons (.expr (.mth (.var 5) .append (.cons (.tup (.cons (.bi .tuple false (.cons (.var 6) .nil)) (.cons (.var 8) .nil))) .nil)))
  (.cons (.asg (.nm 6) (.call false 20 (.cons (.var 4) .nil)))
  .nil))))) [7, 8])
  (.cons (.frz 5)
  (.cons (.ret (.var 5))
  .nil))))))))))
/-- 12: _law_way_right; slots 0 shifts, 1 first, 2 second, 3 many, 4 now, 5 even, 6 one, 7 shift, 8 other, 9 at, 10 row -/
def b_law_way_right : Ss := (.cons (.asg (.nm 3) (.bi .len false (.cons (.var 1) .nil)))
  (.cons (.ife (.bo false (.not (.isi (.var 0) false [.list])) (.bo1 false (.cmp .gt (.bin .mul false (.con (.int 2)) (.bi .len false (.cons (.var 0) .nil))) (.bin .mul false (.var 3) (.bin .sub false (.var 3) (.con (.int 1)))))))
  (.cons (.ret (.con (.bl false)))
  .nil)
  .nil)
  (.cons (.asg (.nm 4) (.comp false [("row", 10)] (.nm 10) (.e (.var 1)) .none (.bi .list false (.cons (.var 10) .nil))))
  (.cons (.asg (.nm 5) (.con (.bl true)))
  (.cons (.fr (.nm 6) (.f .rng1 (.cons (.var 3) .nil))
  (.cons (.fr (.nm 8) (.f .rng1 (.cons (.var 3) .nil))
  (.cons (.ife (.cmp .eq (.bin .mod false (.bi .int false (.cons (.bin .sub false (.ix (.ix (.var 2) (.var 6)) (.var 8)) (.ix (.ix (.var 1) (.var 6)) (.var 8))) .nil)) (.con (.int 2))) (.con (.int 1)))
  (.cons (.asg (.nm 5) (.con (.bl false)))
  .nil)
  .nil)
  .nil) [8])
  .nil) [6, 8])
  (.cons (.fr (.nm 7) (.e (.var 0))
  (.cons (.ife (.bo false (.not (.call true 22 (.cons (.var 7) (.cons (.var 3) .nil)))) (.bo1 false (.bo true (.var 5) (.bo1 true (.cmp .eq (.bin .mod false (.bi .int false (.cons (.ix (.var 7) (.con (.int 1))) .nil)) (.con (.int 2))) (.con (.int 1)))))))
  (.cons (.ret (.con (.bl false)))
  .nil)
  .nil)
  (.cons (.fr (.nm 9) (.f .rng1 (.cons (.bi .len false (.cons (.ix (.var 7) (.con (.int 0))) .nil)) .nil))
  (.cons (.asg (.nm 6) (.ix (.ix (.var 7) (.con (.int 0))) (.var 9)))
  (.cons (.asg (.nm 8) (.ix (.ix (.var 7) (.con (.int 0))) (.bin .mod false (.bi .int false (.cons (.bin .add false (.var 9) (.con (.int 1))) .nil)) (.bi .len false (.cons (.ix (.var 7) (.con (.int 0))) .nil)))))
  (.cons (.ife (.cmp .gt (.bin .add false (.ix (.ix (.var 4) (.var 6)) (.var 8)) (.ix (.var 7) (.con (.int 1)))) (.ix (.ix (.var 2) (.var 6)) (.var 8)))
  (.cons (.ret (.con (.bl false)))
  .nil)
  .nil)
  .nil))) [6, 8, 9])
  (.cons (.asg (.nm 4) (.call true 23 (.cons (.var 4) (.cons (.ix (.var 7) (.con (.int 0))) (.cons (.ix (.var 7) (.con (.int 1))) .nil)))))
  .nil))) [6, 7, 8, 9])
  (.cons (.ret (.cmp .eq (.var 4) (.var 2)))
  .nil)))))))
/-- 13: check_table; slots 0 rows, 1 many, 2 row, 3 i, 4 j, 5 here, 6 there -/
def b_check_table : Ss := (.cons (.ife (.bo false (.not (.call true 19 (.cons (.var 0) .nil))) (.bo1 false (.cmp .eq (.bi .len false (.cons (.var 0) .nil)) (.con (.int 0)))))
  (.cons .nev
  .nil)
  .nil)
  (.cons (.asg (.nm 1) (.bi .len false (.cons (.var 0) .nil)))
  (.cons (.fr (.nm 2) (.e (.var 0))
  (.cons (.ife (.bo false (.not (.call true 19 (.cons (.var 2) .nil))) (.bo1 false (.cmp .ne (.bi .len false (.cons (.var 2) .nil)) (.var 1))))
  (.cons .nev
  .nil)
  .nil)
  .nil) [2])
  (.cons (.fr (.nm 3) (.f .rng1 (.cons (.var 1) .nil))
  (.cons (.fr (.nm 4) (.f .rng1 (.cons (.var 1) .nil))
  (.cons (.par 5 6 (.ix (.ix (.var 0) (.var 3)) (.var 4)) (.ix (.ix (.var 0) (.var 4)) (.var 3)))
  (.cons (.ife (.bo false (.not (.call true 15 (.cons (.var 5) .nil))) (.bo false (.not (.call true 15 (.cons (.var 6) .nil))) (.bo1 false (.cmp .ne (.var 5) (.neg (.var 6))))))
  (.cons .nev
  .nil)
  .nil)
  .nil)) [4, 5, 6])
  .nil) [3, 4, 5, 6])
  (.cons (.ret (.bi .tuple false (.cons (.comp false [("row", 2)] (.nm 2) (.e (.var 0)) .none (.bi .tuple false (.cons (.var 2) .nil))) .nil)))
  .nil)))))
/-- 14: picked; slots 0 row, 1 many, 2 met, 3 place, 4 entry -/
def b_picked : Ss := (.cons (.ife (.not (.call true 19 (.cons (.var 0) .nil)))
  (.cons .nev
  .nil)
  .nil)
  (.cons (.asg (.nm 2) (.lst true .nil))
  (.cons (.fr (.tp [3, 4]) (.f .enum (.cons (.var 0) .nil))
  (.cons (.ife (.bo false (.not (.call true 15 (.cons (.var 4) .nil))) (.bo false (.cmp .lt (.var 4) (.con (.int 0))) (.bo false (.cmp .ge (.var 4) (.var 1)) (.bo1 false (.cmp .inn (.var 4) (.var 2))))))
  (.cons .nev
  .nil)
  .nil)
  (.cons (.expr (.mth (.var 2) .append (.cons (.var 4) .nil)))
  .nil)) [3, 4])
  (.cons (.ret (.bi .tuple false (.cons (.var 2) .nil)))
  .nil))))
/-- 15: is_int; slots 0 value -/
def b_is_int : Ss := (.cons (.ret (.bo true (.isi (.var 0) false [.int]) (.bo1 true (.not (.isi (.var 0) false [.bool])))))
  .nil)
/-- 16: raised_way; slots 0 rows, 1 way, 2 amount, 3 one, 4 other -/
def b_raised_way : Ss := (.cons (.fr (.tp [3, 4]) (.e (.call true 21 (.cons (.var 1) .nil)))
  (.cons (.asg (.sub (.ix (.var 0) (.var 3)) (.var 4)) (.bin .add false (.ix (.ix (.var 0) (.var 3)) (.var 4)) (.var 2)))
  (.cons (.asg (.sub (.ix (.var 0) (.var 4)) (.var 3)) (.bin .sub false (.ix (.ix (.var 0) (.var 4)) (.var 3)) (.var 2)))
  .nil)) [3, 4])
  .nil)
/-- 17: frozen; slots 0 rows, 1 row -/
def b_frozen : Ss := (.cons (.ret (.bi .tuple false (.cons (.comp false [("row", 1)] (.nm 1) (.e (.var 0)) .none (.bi .tuple false (.cons (.var 1) .nil))) .nil)))
  .nil)
/-- 18: _law_int; slots 0 value -/
def b_law_int : Ss := (.cons (.ret (.bo true (.isi (.var 0) false [.int]) (.bo1 true (.not (.isi (.var 0) false [.bool])))))
  .nil)
/-- 19: is_row; slots 0 value -/
def b_is_row : Ss := (.cons (.ret (.isi (.var 0) true [.list, .tuple]))
  .nil)
/-- 20: rising_row; slots 0 lacking, 1 starts, 2 walked, 3 again, 4 line, 5 after, 6 number, 7 entry -/
def b_rising_row : Ss := (.cons (.asg (.nm 1) (.comp false [("number", 6), ("line", 4)] (.tp [6, 4]) (.f .enum (.cons (.var 0) .nil)) (.some (.cmp .gt (.bi .max false (.cons (.var 4) .nil)) (.con (.int 0)))) (.var 6)))
  (.cons (.ife (.cmp .eq (.bi .len false (.cons (.var 1) .nil)) (.con (.int 0)))
  (.cons (.ret (.con .non))
  .nil)
  .nil)
  (.cons (.asg (.nm 2) (.lst true (.cons (.ix (.var 1) (.con (.int 0))) .nil)))
  (.cons (.fr (.nm 3) (.f .rng1 (.cons (.bi .len false (.cons (.var 0) .nil)) .nil))
  (.cons (.asg (.nm 4) (.ix (.var 0) (.ix (.var 2) (.neg (.con (.int 1))))))
  (.cons (.asg (.nm 5) (.ix (.comp false [("number", 6), ("entry", 7)] (.tp [6, 7]) (.f .enum (.cons (.var 4) .nil)) (.some (.cmp .gt (.var 7) (.con (.int 0)))) (.var 6)) (.con (.int 0))))
  (.cons (.ife (.cmp .inn (.var 5) (.var 2))
  (.cons (.ret (.slc false (.var 2) (.some (.mth (.var 2) .index (.cons (.var 5) .nil))) .none))
  .nil)
  .nil)
  (.cons (.expr (.mth (.var 2) .append (.cons (.var 5) .nil)))
  .nil)))) [3, 4, 5])
  (.cons (.ret (.con .non))
  .nil)))))
/-- 21: links_of; slots 0 way, 1 at -/
def b_links_of : Ss := (.cons (.ret (.comp false [("at", 1)] (.nm 1) (.f .rng1 (.cons (.bin .sub false (.bi .len false (.cons (.var 0) .nil)) (.con (.int 1))) .nil)) .none (.tup (.cons (.ix (.var 0) (.var 1)) (.cons (.ix (.var 0) (.bin .add false (.var 1) (.con (.int 1)))) .nil)))))
  .nil)
/-- 22: _law_one_shift; slots 0 shift, 1 many, 2 at, 3 number -/
def b_law_one_shift : Ss := (.cons (.ife (.bo false (.not (.isi (.var 0) false [.tuple])) (.bo false (.cmp .ne (.bi .len false (.cons (.var 0) .nil)) (.con (.int 2))) (.bo1 false (.not (.isi (.ix (.var 0) (.con (.int 0))) false [.tuple])))))
  (.cons (.ret (.con (.bl false)))
  .nil)
  .nil)
  (.cons (.ife (.bo false (.cmp .lt (.bi .len false (.cons (.ix (.var 0) (.con (.int 0))) .nil)) (.con (.int 3))) (.bo false (.not (.call true 18 (.cons (.ix (.var 0) (.con (.int 1))) .nil))) (.bo1 false (.cmp .lt (.ix (.var 0) (.con (.int 1))) (.con (.int 1))))))
  (.cons (.ret (.con (.bl false)))
  .nil)
  .nil)
  (.cons (.fr (.nm 2) (.f .rng1 (.cons (.bi .len false (.cons (.ix (.var 0) (.con (.int 0))) .nil)) .nil))
  (.cons (.asg (.nm 3) (.ix (.ix (.var 0) (.con (.int 0))) (.var 2)))
  (.cons (.ife (.bo false (.not (.call true 18 (.cons (.var 3) .nil))) (.bo false (.cmp .lt (.var 3) (.con (.int 0))) (.bo false (.cmp .ge (.var 3) (.var 1)) (.bo1 false (.cmp .inn (.var 3) (.slc false (.ix (.var 0) (.con (.int 0))) .none (.some (.var 2))))))))
  (.cons (.ret (.con (.bl false)))
  .nil)
  .nil)
  .nil)) [2, 3])
  (.cons (.ret (.con (.bl true)))
  .nil))))
/-- 23: _law_shifted; slots 0 rows, 1 row, 2 amount, 3 made, 4 at, 5 one, 6 other, 7 line -/
def b_law_shifted : Ss := (.cons (.asg (.nm 3) (.comp true [("line", 7)] (.nm 7) (.e (.var 0)) .none (.bi .list true (.cons (.var 7) .nil))))
  (.cons (.fr (.nm 4) (.f .rng1 (.cons (.bi .len false (.cons (.var 1) .nil)) .nil))
  (.cons (.asg (.nm 5) (.ix (.var 1) (.var 4)))
  (.cons (.asg (.nm 6) (.ix (.var 1) (.bin .mod false (.bi .int false (.cons (.bin .add false (.var 4) (.con (.int 1))) .nil)) (.bi .len false (.cons (.var 1) .nil)))))
  (.cons (.asg (.sub (.ix (.var 3) (.var 5)) (.var 6)) (.bin .add false (.ix (.ix (.var 3) (.var 5)) (.var 6)) (.var 2)))
  (.cons (.asg (.sub (.ix (.var 3) (.var 6)) (.var 5)) (.bin .sub false (.ix (.ix (.var 3) (.var 6)) (.var 5)) (.var 2)))
  .nil)))) [4, 5, 6])
  (.cons (.frz 3)
  (.cons (.ret (.var 3))
  .nil))))
def tb : Nat → Option Fd
  | 0 => some ⟨"law", 1, 15, b_law⟩
  | 1 => some ⟨"_law_draws", 1, 6, b_law_draws_m⟩
  | 2 => some ⟨"_law_take", 2, 2, b_law_take⟩
  | 3 => some ⟨"_law_table", 2, 7, b_law_table⟩
  | 4 => some ⟨"_law_row", 2, 6, b_law_row⟩
  | 5 => some ⟨"_law_wide", 2, 4, b_law_wide⟩
  | 6 => some ⟨"shifted_by", 3, 6, b_shifted_by⟩
  | 7 => some ⟨"_law_shifted", 3, 8, b_law_shifted_m⟩
  | 8 => some ⟨"_law_same", 2, 4, b_law_same⟩
  | 9 => some ⟨"table_scores", 1, 2, b_table_scores⟩
  | 10 => some ⟨"after_shifts", 2, 6, b_after_shifts⟩
  | 11 => some ⟨"shifts_between", 2, 15, b_shifts_between⟩
  | 12 => some ⟨"_law_way_right", 3, 11, b_law_way_right⟩
  | 13 => some ⟨"check_table", 1, 7, b_check_table⟩
  | 14 => some ⟨"picked", 2, 5, b_picked⟩
  | 15 => some ⟨"is_int", 1, 1, b_is_int⟩
  | 16 => some ⟨"raised_way", 3, 5, b_raised_way⟩
  | 17 => some ⟨"frozen", 1, 2, b_frozen⟩
  | 18 => some ⟨"_law_int", 1, 1, b_law_int⟩
  | 19 => some ⟨"is_row", 1, 1, b_is_row⟩
  | 20 => some ⟨"rising_row", 1, 8, b_rising_row⟩
  | 21 => some ⟨"links_of", 1, 2, b_links_of⟩
  | 22 => some ⟨"_law_one_shift", 2, 4, b_law_one_shift⟩
  | 23 => some ⟨"_law_shifted", 3, 8, b_law_shifted⟩
  | _ => none
end ZK72

namespace ZK72
open Z
variable {h : CH} {k : Nat}
theorem r_is_int (i : Int) : run tb (k + 1) 15 [.int i] h = .ok (.bl true) h := by
  rw [run_eq (fd := ⟨"is_int", 1, 1, b_is_int⟩) rfl rfl]
  simp [b_is_int, envOf, isiR, isiAny, isiV, isiD, noIns]
@[simp] theorem c_is_int (i : Int) : callM true (run tb (k + 1)) 15 [.int i] h = .ok (.bl true) h := call_nc rfl (r_is_int i) rfl
theorem r_law_int (i : Int) : run tb (k + 1) 18 [.int i] h = .ok (.bl true) h := by
  rw [run_eq (fd := ⟨"_law_int", 1, 1, b_law_int⟩) rfl rfl]
  simp [b_law_int, envOf, isiR, isiAny, isiV, isiD, noIns]
@[simp] theorem c_law_int (i : Int) : callM true (run tb (k + 1)) 18 [.int i] h = .ok (.bl true) h := call_nc rfl (r_law_int i) rfl
theorem r_is_row (b : Bool) (ds : List D) : run tb (k + 1) 19 [W b ds] h = .ok (.bl true) h := by
  rw [run_eq (fd := ⟨"is_row", 1, 1, b_is_row⟩) rfl rfl]
  cases b <;> simp [b_is_row, envOf, isiR, isiAny, isiV, isiD, noIns, W]
theorem c_is_row (b : Bool) {ds : List D} (e : ncs ds = true) : callM true (run tb (k + 1)) 19 [W b ds] h = .ok (.bl true) h := call_nc (by simp [ncs, nc_W b e]) (r_is_row b ds) rfl
@[simp] theorem c_is_row_tab (a b : Bool) (n : Nat) (f : F2) : callM true (run tb (k + 1)) 19 [tabD a b n f] h = .ok (.bl true) h := c_is_row a (ncs_map (List.range n) fun i => nc_W b (ncs_iL (rowF n f i)))
@[simp] theorem c_is_row_row (b : Bool) (r : List Int) : callM true (run tb (k + 1)) 19 [W b (iL r)] h = .ok (.bl true) h := c_is_row b (ncs_iL r)
theorem r_check {a b : Bool} {n : Nat} {f : F2} (hn : 1 ≤ n) (hn8 : n ≤ 1000) (sk : Skew n f) : run tb (k + 2) 13 [tabD a b n f] h = .ok (tT2 (mat n f)) h := by
  rw [run_eq (fd := ⟨"check_table", 1, 7, b_check_table⟩) rfl rfl]
  have n0 : ¬ n = 0 := by omega
  simp [b_check_table, envOf, s_fr, n0]
  rw [forGo_same rfl]
  rotate_left
  · intro i hi
    simp
  simp [it_rng1 (show n < 1000000 by omega)]
  rw [forGo_same rfl]
  rotate_left
  · intro i hi
    simp [s_fr, it_rng1 (show n < 1000000 by omega)]
    rw [forGo_same rfl]
    rotate_left
    · intro j hj
      simp [tab_row hi, tab_row hj, row_at hi, row_at hj, sk i j hi hj]
    simp
  simp [e_comp]
  rw [comp_rng rfl (fun i => tR (rowF n f i))]
  rotate_left
  · intro i hi
    simp [tuple_ok (items_W _ _)]
  have hz : n ≤ SZ := by unfold SZ; omega
  simp [hz, biD, mat]
@[simp] theorem c_check {a b : Bool} {n : Nat} {f : F2} (hn : 1 ≤ n) (hn8 : n ≤ 1000) (sk : Skew n f) : callM true (run tb (k + 2)) 13 [tabD a b n f] h = .ok (tT2 (mat n f)) h :=
  call_nc (by simp [ncs, nc_tab]) (r_check hn hn8 sk) (nc_tT2 _)
theorem r_frozen {d : D} {n : Nat} {g : Nat → D} {f : F2} (hn8 : n ≤ 1000) (e : items h d = some ((List.range n).map g)) (c : ckOk (ckOf d ((List.range n).map g)) h = true) (eg : ∀ i, i < n → items h (g i) = some (iL (rowF n f i))) : run tb (k + 1) 17 [d] h = .ok (tT2 (mat n f)) h := by
  rw [run_eq (fd := ⟨"frozen", 1, 2, b_frozen⟩) rfl rfl]
  simp [b_frozen, envOf, e_comp, itR_of e]
  rw [comp_rng c (fun i => tR (rowF n f i))]
  rotate_left
  · intro i hi
    simp [tuple_ok (eg i hi)]
  have hz : n ≤ SZ := by unfold SZ; omega
  simp [hz, biD, mat]
theorem r_scores {a b : Bool} {n : Nat} {f : F2} (hn : 1 ≤ n) (hn8 : n ≤ 1000) (sk : Skew n f) : run tb (k + 3) 9 [tabD a b n f] h = .ok (tR ((List.range n).map fun i => (rowF n f i).sum)) h := by
  rw [run_eq (fd := ⟨"table_scores", 1, 2, b_table_scores⟩) rfl rfl]
  simp [b_table_scores, envOf, e_comp, c_check hn hn8 sk]
  rw [← tab_tt]
  simp
  rw [comp_rng rfl (fun i => .int (rowF n f i).sum)]
  rotate_left
  · intro i hi
    simp [sum_ok (items_W _ _)]
  have hz : n ≤ SZ := by unfold SZ; omega
  simp [hz, biD]
/-! ### links of a way -/
abbrev iN (c : List Nat) : List D := c.map fun x : Nat => D.int x
def lks (w : List Nat) : List (Nat × Nat) := w.zip w.tail
abbrev pD (p : Nat × Nat) : D := .tup [.int p.1, .int p.2]
theorem iN_get {c : List Nat} {i : Nat} (hi : i < c.length) : (iN c)[i]? = some (.int (c[i] : Nat)) := by
  unfold iN
  rw [List.getElem?_map, List.getElem?_eq_getElem hi]; rfl
theorem lks_len (w : List Nat) : (lks w).length = w.length - 1 := by simp [lks]
theorem lks_map (w : List Nat) : (lks w).map pD = (List.range (w.length - 1)).map fun i => D.tup [.int ((w[i]?.getD 0 : Nat) : Int), .int ((w[i + 1]?.getD 0 : Nat) : Int)] := by
  apply List.ext_getElem?
  intro i
  by_cases hi : i < w.length - 1
  · rw [rng_map_get _ hi, List.getElem?_map, List.getElem?_eq_getElem (by rw [lks_len]; exact hi)]
    have h1 : i < w.length := by omega
    have h2 : i + 1 < w.length := by omega
    simp [lks, pD, h1, h2]
  · rw [List.getElem?_eq_none (by simp [lks_len]; omega), List.getElem?_eq_none (by simp; omega)]
theorem r_links {d : D} {w : List Nat} (h1 : 1 ≤ w.length) (h2 : w.length ≤ 1000) (e : items h d = some (iN w)) : run tb (k + 1) 21 [d] h = .ok (.lst ((lks w).map pD)) h := by
  rw [run_eq (fd := ⟨"links_of", 1, 2, b_links_of⟩) rfl rfl]
  have e1 : (w.length : Int) - 1 = ((w.length - 1 : Nat) : Int) := by omega
  simp [b_links_of, envOf, e_comp, len_ok e]
  rw [e1, it_rng1 (show w.length - 1 < 1000000 by omega)]
  simp
  rw [lks_map, comp_rng rfl (fun i => D.tup [.int ((w[i]?.getD 0 : Nat) : Int), .int ((w[i + 1]?.getD 0 : Nat) : Int)])]
  rotate_left
  · intro i hi
    have h3 : i < w.length := by omega
    have h4 : i + 1 < w.length := by omega
    have e2 : (i : Int) + 1 = ((i + 1 : Nat) : Int) := by omega
    simp [ix_ok e (iN_get h3)]
    rw [e2, ix_ok e (iN_get h4)]
    simp [h3, h4]
  have hz : w.length - 1 ≤ SZ := by unfold SZ; omega
  simp [hz]
end ZK72

namespace ZK72
open Z
variable {h : CH} {k : Nat}
def upd2 (f : F2) (p : Nat × Nat) (a : Int) : F2 := stF (stF f p.1 p.2 (f p.1 p.2 + a)) p.2 p.1 (stF f p.1 p.2 (f p.1 p.2 + a) p.2 p.1 - a)
def shift (f : F2) (ps : List (Nat × Nat)) (a : Int) : F2 := ps.foldl (fun g p => upd2 g p a) f
theorem shift_snoc (f : F2) (ps : List (Nat × Nat)) (p : Nat × Nat) (a : Int) : shift f (ps ++ [p]) a = upd2 (shift f ps a) p a := by simp [shift]
theorem take_snoc {α : Type} {l : List α} {i : Nat} {x : α} (e : l[i]? = some x) : l.take (i + 1) = l.take i ++ [x] := by
  rw [List.take_succ, e]; rfl
theorem nc_iN (c : List Nat) : ncs (iN c) = true := ncs_map c fun _ => rfl
theorem c_links {b : Bool} {w : List Nat} (h1 : 1 ≤ w.length) (h2 : w.length ≤ 1000) : callM true (run tb (k + 1)) 21 [W b (iN w)] h = .ok (.lst ((lks w).map pD)) h :=
  call_nc (by simp [ncs, nc_W b (nc_iN w)]) (r_links h1 h2 (items_W _ _)) (ncs_map _ fun p => by simp [D.nc, ncs])
/-- the two stores of one link -/
theorem put2 {m n : Nat} {cs : Nat → Nat} {f : F2} (M : Mx h m cs n f) {i j : Nat} (hi : i < n) (hj : j < n) (a : Int) : ∃ h1 h2, setV (.cell (cs i)) (.int j) (.int (f i j + a)) h = some h1 ∧ Mx h1 m cs n (stF f i j (f i j + a)) ∧
    setV (.cell (cs j)) (.int i) (.int (stF f i j (f i j + a) j i - a)) h1 = some h2 ∧ Mx h2 m cs n (upd2 f (i, j) a) ∧ FrM h h2 cs n := by
  obtain ⟨h1, a1, a2, a3⟩ := M.put (f i j + a) hi hj
  obtain ⟨h2, b1, b2, b3⟩ := a2.put (stF f i j (f i j + a) j i - a) hj hi
  exact ⟨h1, h2, a1, a2, b1, b2, a3.trans b3⟩
theorem r_raise {m n : Nat} {cs : Nat → Nat} {f : F2} {b : Bool} {w : List Nat} (M : Mx h m cs n f) (h1 : 1 ≤ w.length) (h2 : w.length ≤ 1000) (hp : ∀ p ∈ lks w, p.1 < n ∧ p.2 < n) (a : Int) :
    ∃ h', run tb (k + 2) 16 [.cell m, W b (iN w), .int a] h = .ok .non h' ∧ Mx h' m cs n (shift f (lks w) a) ∧ FrM h h' cs n := by
  rw [run_eq (fd := ⟨"raised_way", 3, 5, b_raised_way⟩) rfl rfl]
  simp [b_raised_way, envOf, s_fr, c_links h1 h2, itR, items, ckOf]
  refine forGo_list (C := fun r => ∃ h', fin (RS.andThen r _) = R.ok D.non h' ∧ Mx h' m cs n (shift f (lks w) a) ∧ FrM h h' cs n)
    (fun i env h' => env = [some (.cell m), some (W b (iN w)), some (.int a), none, none] ∧ Mx h' m cs n (shift f ((lks w).take i) a) ∧ FrM h h' cs n) ⟨rfl, by simpa [shift] using M, FrM.refl⟩ (fun _ _ _ _ _ => rfl) ?_ ?_
  · rintro i ⟨p, q⟩ env hh hx ⟨rfl, M1, F1⟩
    obtain ⟨hi, hj⟩ := hp (p, q) (List.mem_of_getElem? hx)
    obtain ⟨h3, h4, a1, a2, a3, a4, a5⟩ := put2 M1 hi hj a
    simp [pD, M1.at_row hi, M1.at_ hi hj, a1, a2.at_row hj, a2.at_ hj hi, a3]
    rw [take_snoc hx, shift_snoc]
    exact ⟨a4, F1.trans a5⟩
  · rintro env h' ⟨rfl, M1, F1⟩
    rw [List.take_length] at M1
    exact ⟨h', rfl, M1, F1⟩
end ZK72

namespace ZK72
open Z
variable {h : CH} {k : Nat}
theorem SZ_of {n : Nat} (h : n ≤ 1000000) : n ≤ SZ := by unfold SZ; omega
theorem lt_SZ {n : Nat} (h : n < 1000000) : n < SZ := by unfold SZ; omega
theorem nodup_take {c : List Nat} (nd : c.Nodup) {i x : Nat} (hx : c[i]? = some x) : ¬ x ∈ c.take i := by
  intro z
  obtain ⟨j, hj, e⟩ := List.getElem_of_mem z
  rw [List.getElem_take] at e
  obtain ⟨hi, e2⟩ := List.getElem?_eq_some_iff.1 hx
  have hj' : j < i := by simp at hj; omega
  exact List.pairwise_iff_getElem.1 nd j i (by omega) hi hj' (e.trans e2.symm)
theorem enum_iN (c : List Nat) : enumFrom 0 (iN c) = (List.range c.length).map fun i : Nat => D.tup [.int i, .int (c[i]?.getD 0 : Nat)] := by
  unfold iN
  rw [list_rng c, enum_rng]
theorem r_picked {b : Bool} {c : List Nat} {n : Nat} (hc : c.length ≤ 1000) (nd : c.Nodup) (hn : ∀ x ∈ c, x < n) : ∃ h', run tb (k + 2) 14 [W b (iN c), .int n] h = .ok (.tup (iN c)) h' := by
  rw [run_eq (fd := ⟨"picked", 2, 5, b_picked⟩) rfl rfl]
  simp [b_picked, envOf, s_fr, c_is_row b (nc_iN c), it_enum (items_W b (iN c)) (W_ns b _)]
  rw [enum_iN]
  refine forGo_rng (C := fun r => ∃ h', fin (RS.andThen r _) = R.ok (D.tup (iN c)) h') (fun i env hh => env = [some (W b (iN c)), some (.int n), some (.cell h.length), none, none] ∧ hh = h ++ [.lst (iN (c.take i))]) ?_ ?_ ?_ ?_
  · exact ⟨rfl, by simp⟩
  · exact fun _ _ _ _ _ => by simp
  · rintro i env hh hi ⟨rfl, rfl⟩
    obtain ⟨x, hx⟩ : ∃ x, c[i]? = some x := ⟨_, List.getElem?_eq_getElem hi⟩
    have hlt := hn x (List.mem_of_getElem? hx)
    have nm : ¬ x ∈ c.take i := nodup_take nd hx
    have e3 : c.take (i + 1) = c.take i ++ [x] := take_snoc hx
    have ez : (c.take i).length < SZ := lt_SZ (by simp; omega)
    rw [e3, hx]
    generalize c.take i = t at nm ez
    have e1 : items (h ++ [Cell.lst (iN t)]) (.cell h.length) = some (t.map fun x : Nat => D.int x) := by simp [items]
    have n1 : ¬ ((n : Int) ≤ (x : Nat)) := by omega
    have n2 : ¬ (((x : Nat) : Int) < 0) := by omega
    simp [n1, n2, inn_iN e1, nm, mthR, mthD, lstOf, onCell, ez]
  · rintro env h' ⟨rfl, rfl⟩
    refine ⟨h ++ [.lst (iN c)], ?_⟩
    have e1 : items (h ++ [Cell.lst (iN c)]) (.cell h.length) = some (iN c) := by simp [items]
    simp [tuple_ok e1]
end ZK72

namespace ZK72
open Z
variable {h : CH} {k : Nat}
def way (c : List Nat) : List Nat := c ++ c.take 1
structure Cyc (n : Nat) (c : List Nat) : Prop where
  len : c.length ≤ 900
  three : 3 ≤ c.length
  nd : c.Nodup
  lt : ∀ x ∈ c, x < n
theorem c_picked {b : Bool} {c : List Nat} {n : Nat} (hc : c.length ≤ 1000) (nd : c.Nodup) (hn : ∀ x ∈ c, x < n) : callM true (run tb (k + 2)) 14 [W b (iN c), .int n] h = .ok (.tup (iN c)) h := by
  obtain ⟨h', e⟩ := r_picked (k := k) (h := []) (b := b) hc nd hn
  exact call_nc (by simp [ncs, nc_W b (nc_iN c), D.nc]) e (nc_iN c)
theorem lks_mem {w : List Nat} {p : Nat × Nat} (hp : p ∈ lks w) : p.1 ∈ w ∧ p.2 ∈ w := by
  obtain ⟨a, b⟩ := p
  have := List.of_mem_zip hp
  exact ⟨this.1, List.mem_of_mem_tail this.2⟩
theorem way_mem {c : List Nat} {x : Nat} (h : x ∈ way c) : x ∈ c := by
  rcases List.mem_append.1 h with z | z
  · exact z
  · exact List.mem_of_mem_take z
theorem Cyc.links {n : Nat} {c : List Nat} (C : Cyc n c) : ∀ p ∈ lks (way c), p.1 < n ∧ p.2 < n := fun p hp => ⟨C.lt _ (way_mem (lks_mem hp).1), C.lt _ (way_mem (lks_mem hp).2)⟩
theorem way_len {c : List Nat} (h : 1 ≤ c.length) : (way c).length = c.length + 1 := by simp [way]; omega
theorem iN_way (c : List Nat) : iN c ++ (iN c).take 1 = iN (way c) := by simp [iN, way]
theorem r_shifted_by {a b b' : Bool} {n : Nat} {f : F2} {c : List Nat} (hn : 1 ≤ n) (hn8 : n ≤ 1000) (sk : Skew n f) (C : Cyc n c) (amt : Int) :
    ∃ h', run tb (k + 4) 6 [tabD a b n f, W b' (iN c), .int amt] h = .ok (tT2 (mat n (shift f (lks (way c)) amt))) h' := by
  rw [run_eq (fd := ⟨"shifted_by", 3, 6, b_shifted_by⟩) rfl rfl]
  have h1 := C.len
  have h2 := C.three
  have M := Mx.new h n f
  simp [b_shifted_by, envOf, e_comp, c_check hn hn8 sk]
  rw [← tab_tt]
  simp
  rw [comp_cells (G := fun i => .lst (iL (rowF n f i))) (fun _ => rfl)]
  rotate_left
  · intro i l hi hl
    simp [list_ok (items_W _ _)]
  obtain ⟨h', e1, M', F'⟩ := r_raise (k := k + 1) (b := true) M (w := way c) (by rw [way_len (by omega)]; omega) (by rw [way_len (by omega)]; omega) C.links amt
  have e0 : items (h ++ (List.range n).map (fun i => Cell.lst (iL (rowF n f i))) ++ [.lst ((List.range n).map fun i => .cell (h.length + i))]) (.cell (h.length + n)) = some ((List.range n).map fun i => .cell (h.length + i)) := by simp only [items, M.top]
  generalize hH : h ++ (List.range n).map (fun i => Cell.lst (iL (rowF n f i))) ++ [.lst ((List.range n).map fun i => .cell (h.length + i))] = H at *
  have hz : n ≤ SZ := SZ_of (by omega)
  have hz2 : c.length + 1 ≤ SZ := SZ_of (by omega)
  have c3 : ¬ ((c.length : Int) < 3) := by omega
  have e2 := slice_to (iN c) 1
  simp at hH e2
  simp [hz, hH, len_ok e0]
  simp [c_picked (k := k + 1) (h := H) (b := b') (n := n) (by omega) C.nd C.lt, len_ok (show items H (.tup (iN c)) = some (iN c) from rfl), c3, slcD]
  have e4 : (List.take 1 (iN c)).length = 1 := by simp; omega
  have e5 : callM false (run tb (k + 3)) 16 [.cell (h.length + n), .tup (iN (way c)), .int amt] H = .ok .non h' := by
    have e9 : run tb (k + 3) 16 [.cell (h.length + n), .tup (iN (way c)), .int amt] H = .ok .non h' := e1
    rw [call_heap e9, trunc_same (by rw [F'.len]; exact Nat.le_refl _)]
  obtain ⟨h9, e6⟩ : ∃ h9, run tb (k + 2 + 1) 17 [tabD false false n (shift f (lks (way c)) amt)] [] = .ok (tT2 (mat n (shift f (lks (way c)) amt))) h9 :=
    ⟨_, r_frozen hn8 (items_tab _ _ _ _) (by rw [ck_tab]; rfl) (fun i _ => items_W _ _)⟩
  have e7 : callM true (run tb (k + 3)) 17 [.cell (h.length + n)] h' = .ok (tT2 (mat n (shift f (lks (way c)) amt))) h' := call_snap (snaps_one M'.snap) e6 (nc_tT2 _) (so_tT2 _)
  rw [e2, iN_way, e4, if_pos hz2]
  simp [e5, e7]
theorem c_shifted_by {a b b' : Bool} {n : Nat} {f : F2} {c : List Nat} (hn : 1 ≤ n) (hn8 : n ≤ 1000) (sk : Skew n f) (C : Cyc n c) (amt : Int) :
    callM true (run tb (k + 4)) 6 [tabD a b n f, W b' (iN c), .int amt] h = .ok (tT2 (mat n (shift f (lks (way c)) amt))) h := by
  obtain ⟨h', e⟩ := r_shifted_by (k := k) (h := []) (a := a) (b := b) (b' := b') hn hn8 sk C amt
  exact call_nc (by simp [ncs, nc_tab, nc_W b' (nc_iN c), D.nc]) e (nc_tT2 _)
/-! ### the law's own shift -/
theorem pair_at {c : List Nat} {i : Nat} (hi : i < c.length) : (lks (way c))[i]? = some (c[i]?.getD 0, c[(i + 1) % c.length]?.getD 0) := by
  have h1 : 1 ≤ c.length := by omega
  have hl := way_len h1
  unfold lks
  rw [List.getElem?_zip_eq_some]
  refine ⟨?_, ?_⟩
  · simp [way, List.getElem?_append_left hi, hi]
  · rw [List.getElem?_tail]
    by_cases h2 : i + 1 < c.length
    · rw [Nat.mod_eq_of_lt h2]
      simp [way, List.getElem?_append_left h2, h2]
    · have e : i + 1 = c.length := by omega
      have h0 : 0 < c.length := by omega
      rw [e, Nat.mod_self]
      simp [way, h0, List.getElem?_append_right]
/-- the loop of both variants -/
theorem shifted_loop {m n : Nat} {cs : Nat → Nat} {f : F2} {b : Bool} {c : List Nat} {x : D} (M : Mx h m cs n f) (C : Cyc n c) (amt : Int) {Φ : FS} :
    ∃ h', evS Φ (.fr (.nm 4) (.f .rng1 (.cons (.bi .len false (.cons (.var 1) .nil)) .nil))
  (.cons (.asg (.nm 5) (.ix (.var 1) (.var 4)))
  (.cons (.asg (.nm 6) (.ix (.var 1) (.bin .mod false (.bi .int false (.cons (.bin .add false (.var 4) (.con (.int 1))) .nil)) (.bi .len false (.cons (.var 1) .nil)))))
  (.cons (.asg (.sub (.ix (.var 3) (.var 5)) (.var 6)) (.bin .add false (.ix (.ix (.var 3) (.var 5)) (.var 6)) (.var 2)))
  (.cons (.asg (.sub (.ix (.var 3) (.var 6)) (.var 5)) (.bin .sub false (.ix (.ix (.var 3) (.var 6)) (.var 5)) (.var 2)))
  .nil)))) [4, 5, 6]) [some x, some (W b (iN c)), some (.int amt), some (.cell m), none, none, none, none] h = .nx [some x, some (W b (iN c)), some (.int amt), some (.cell m), none, none, none, none] h' ∧ Mx h' m cs n (shift f (lks (way c)) amt) ∧ FrM h h' cs n := by
  have h1 := C.len
  have h2 := C.three
  have hw := way_len (c := c) (by omega)
  simp [s_fr, len_ok (items_W _ _), it_rng1 (show c.length < 1000000 by omega)]
  refine forGo_rng (C := fun r => ∃ h', r = .nx [some x, some (W b (iN c)), some (.int amt), some (.cell m), none, none, none, none] h' ∧ Mx h' m cs n (shift f (lks (way c)) amt) ∧ FrM h h' cs n)
    (fun i env h' => env = [some x, some (W b (iN c)), some (.int amt), some (.cell m), none, none, none, none] ∧ Mx h' m cs n (shift f ((lks (way c)).take i) amt) ∧ FrM h h' cs n) ⟨rfl, by simpa [shift] using M, FrM.refl⟩ (fun _ _ _ _ _ => rfl) ?_ ?_
  · rintro i env hh hi ⟨rfl, M1, F1⟩
    have hx := pair_at hi
    obtain ⟨hp, hq⟩ := C.links _ (List.mem_of_getElem? hx)
    have hi2 : (i + 1) % c.length < c.length := Nat.mod_lt _ (by omega)
    have g1 : (iN c)[i]? = some (.int (c[i]?.getD 0 : Nat)) := by rw [iN_get hi]; simp [hi]
    have g2 : (iN c)[(i + 1) % c.length]? = some (.int (c[(i + 1) % c.length]?.getD 0 : Nat)) := by rw [iN_get hi2]; simp [hi2]
    have g3 : ((i : Int) + 1) % (c.length : Int) = (((i + 1) % c.length : Nat) : Int) := by rw [Int.natCast_emod]; simp
    rw [take_snoc hx, shift_snoc]
    generalize c[i]?.getD 0 = p at *
    generalize c[(i + 1) % c.length]?.getD 0 = q at *
    obtain ⟨h3, h4, a1, a2, a3, a4, a5⟩ := put2 M1 hp hq amt
    have E1 := ix_ok (h := hh) (items_W b (iN c)) g1
    have E2 := len_ok (h := hh) (m := false) (items_W b (iN c))
    have E3 := mod_ok (m := false) (i := (i : Int) + 1) (j := (c.length : Int)) (h := hh) (by omega)
    have E4 : ixV (W b (iN c)) (.int (((i : Int) + 1) % (c.length : Int))) hh = .ok (.int q) hh := by rw [g3]; exact ix_ok (items_W b (iN c)) g2
    simp only [List.length_map] at E2
    simp [E1, E2, E3, E4, M1.at_row hp, M1.at_ hp hq, a1, a2.at_row hq, a2.at_ hq hp, a3]
    exact ⟨a4, F1.trans a5⟩
  · rintro env h' ⟨rfl, M1, F1⟩
    rw [List.take_of_length_le (by rw [lks_len, hw]; omega)] at M1
    exact ⟨h', rfl, M1, F1⟩
end ZK72

namespace ZK72
open Z
variable {h : CH} {k : Nat}
/-- rows that can be read, now and later -/
structure Rdb (h : CH) (x : D) (n : Nat) (f : F2) (g : Nat → D) : Prop where
  top : ∀ l : CH, items (h ++ l) x = some ((List.range n).map g)
  ck : ∀ l : CH, ckOk (ckOf x ((List.range n).map g)) (h ++ l) = true
  row : ∀ i, i < n → ∀ l : CH, items (h ++ l) (g i) = some (iL (rowF n f i))
theorem Rdb.tab (a b : Bool) (n : Nat) (f : F2) : Rdb h (tabD a b n f) n f (fun i => W b (iL (rowF n f i))) := ⟨fun l => items_tab _ _ _ _, fun l => by rw [ck_tab]; rfl, fun i hi l => items_W _ _⟩
theorem get_app {α : Type} {l m : List α} {i : Nat} {x : α} (e : l[i]? = some x) : (l ++ m)[i]? = some x := by
  have lt : i < l.length := by
    rcases Nat.lt_or_ge i l.length with z | z
    · exact z
    · rw [List.getElem?_eq_none z] at e; cases e
  rw [List.getElem?_append_left lt]; exact e
theorem Rdb.mx {m n : Nat} {cs : Nat → Nat} {f : F2} (M : Mx h m cs n f) : Rdb h (.cell m) n f (fun i => .cell (cs i)) :=
  ⟨fun l => by simp only [items, get_app M.top], fun l => ck_cell (get_app M.top), fun i hi l => by simp only [items, get_app (M.row i hi)]⟩
theorem Rdb.top0 {x : D} {n : Nat} {f : F2} {g : Nat → D} (r : Rdb h x n f g) : items h x = some ((List.range n).map g) := by have := r.top []; rwa [List.append_nil] at this
theorem Rdb.row0 {x : D} {n : Nat} {f : F2} {g : Nat → D} (r : Rdb h x n f g) {i : Nat} (hi : i < n) : items h (g i) = some (iL (rowF n f i)) := by have := r.row i hi []; rwa [List.append_nil] at this
theorem Rdb.at_row {x : D} {n : Nat} {f : F2} {g : Nat → D} (r : Rdb h x n f g) {i : Nat} (hi : i < n) : ixV x (.int i) h = .ok (g i) h := ix_ok r.top0 (rng_map_get _ hi)
theorem Rdb.at_ {x : D} {n : Nat} {f : F2} {g : Nat → D} (r : Rdb h x n f g) {i j : Nat} (hi : i < n) (hj : j < n) : ixV (g i) (.int j) h = .ok (.int (f i j)) h := ix_ok (r.row0 hi) (rowF_get hj)
theorem r_law_shifted_m {x : D} {n : Nat} {f : F2} {g : Nat → D} {b : Bool} {c : List Nat} (r : Rdb h x n f g) (hn : n ≤ 1000) (C : Cyc n c) (amt : Int) :
    ∃ h' m, run tb (k + 1) 7 [x, W b (iN c), .int amt] h = .ok (.cell m) h' ∧ (∃ cs, Mx h' m cs n (shift f (lks (way c)) amt) ∧ ∀ i, h.length ≤ cs i) ∧ h.length ≤ m ∧ h.length ≤ h'.length ∧ ∀ y, y < h.length → h'[y]? = h[y]? := by
  rw [run_eq (fd := ⟨"_law_shifted", 3, 8, b_law_shifted_m⟩) rfl rfl]
  simp [b_law_shifted_m, envOf, e_comp, itR_of r.top0]
  rw [comp_cells (G := fun i => .lst (iL (rowF n f i))) r.ck]
  rotate_left
  · intro i l hi hl
    simp [list_ok (r.row i hi l)]
  have M := Mx.new h n f
  have hz : n ≤ SZ := SZ_of (by omega)
  obtain ⟨h', e1, M', F'⟩ := shifted_loop (Φ := run tb k) (b := b) (x := x) M C amt
  simp at e1
  simp [hz]
  rw [e1]
  refine ⟨h', h.length + n, by simp, ⟨_, M', fun i => by show h.length ≤ h.length + i; omega⟩, by omega, by rw [F'.len]; simp, fun y hy => ?_⟩
  · rw [F'.oth y (fun i _ e => by have : y = h.length + i := e; omega), List.append_assoc, List.getElem?_append_left hy]
theorem r_law_shifted {x : D} {n : Nat} {f : F2} {g : Nat → D} {b : Bool} {c : List Nat} (r : Rdb h x n f g) (hn : n ≤ 1000) (C : Cyc n c) (amt : Int) :
    ∃ h', run tb (k + 1) 23 [x, W b (iN c), .int amt] h = .ok (tabD false false n (shift f (lks (way c)) amt)) h' := by
  rw [run_eq (fd := ⟨"_law_shifted", 3, 8, b_law_shifted⟩) rfl rfl]
  simp [b_law_shifted, envOf, e_comp, itR_of r.top0]
  rw [comp_cells (G := fun i => .lst (iL (rowF n f i))) r.ck]
  rotate_left
  · intro i l hi hl
    simp [list_ok (r.row i hi l)]
  have M := Mx.new h n f
  have hz : n ≤ SZ := SZ_of (by omega)
  obtain ⟨h', e1, M', F'⟩ := shifted_loop (Φ := run tb k) (b := b) (x := x) M C amt
  simp at e1
  simp [hz]
  rw [e1]
  have e2 : frzD h' (.cell (h.length + n)) = some (tabD false false n (shift f (lks (way c)) amt), kill (cellsF h' 6 (.cell (h.length + n))) h') := by
    unfold frzD
    rw [if_neg (by simp [D.nc]), M'.snapF 3]
    rfl
  simp only [RS.andThen_nx]
  rw [s_frz (d := .cell (h.length + n)) rfl e2]
  exact ⟨_, by simp; rfl⟩
theorem c_law_shifted {a b b' : Bool} {n : Nat} {f : F2} {c : List Nat} (hn : n ≤ 1000) (C : Cyc n c) (amt : Int) : callM true (run tb (k + 1)) 23 [tabD a b n f, W b' (iN c), .int amt] h = .ok (tabD false false n (shift f (lks (way c)) amt)) h := by
  obtain ⟨h', e⟩ := r_law_shifted (k := k) (h := []) (b := b') (Rdb.tab a b n f) hn C amt
  exact call_nc (by simp [ncs, nc_tab, nc_W b' (nc_iN c), D.nc]) e (nc_tab _ _ _ _)
/-! ### _law_same -/
theorem beqs_iL (r s : List Int) : beqs (iL r) (iL s) = decide (r = s) := by
  induction r generalizing s with
  | nil => cases s <;> rfl
  | cons a r ih =>
    cases s with
    | nil => rfl
    | cons b s =>
      have : beqs (iL (a :: r)) (iL (b :: s)) = ((a == b) && beqs (iL r) (iL s)) := rfl
      rw [this, ih]
      by_cases e : a = b <;> by_cases e2 : r = s <;> simp [e, e2]
theorem r_same {f : F2} {n : Nat} (hn : n ≤ 1000) : run tb (k + 2) 8 [tT2 (mat n f), tabD false false n f] h = .ok (.bl true) h := by
  rw [run_eq (fd := ⟨"_law_same", 2, 4, b_law_same⟩) rfl rfl]
  rw [← tab_tt]
  have ie : ∀ (ds : List D), isiR h (W true ds) [.tuple] = .ok (.bl true) h := fun ds => rfl
  have ie2 : isiR h (tabD true true n f) [.tuple] = .ok (.bl true) h := rfl
  simp [b_law_same, envOf, s_fr, ie2, it_rng1 (show n < 1000000 by omega)]
  rw [forGo_same rfl]
  rotate_left
  · intro i hi
    have e1 : cmpD .ne (D.lst (iL (rowF n f i))) (W false (iL (rowF n f i))) h = .ok (.bl false) h := by
      show cmpD .ne (lR (rowF n f i)) (lR (rowF n f i)) h = .ok (.bl false) h
      rw [ne_pl (snap_nc (nc_lR _)) (snap_nc (nc_lR _)) (pl_lR (rowF n f i)) (pl_lR (rowF n f i)), beq_refl']
      rfl
    simp [tab_row hi, ie, list_ok (items_W _ _), e1, s_fr, itR_of (items_W _ _)]
    rw [show iL (rowF n f i) = (List.range n).map fun j => D.int (f i j) by simp [iL, rowF]]
    rw [forGo_same rfl]
    rotate_left
    · intro j hj
      simp
    simp
  simp
theorem c_same {f : F2} {n : Nat} (hn : n ≤ 1000) : callM true (run tb (k + 2)) 8 [tT2 (mat n f), tabD false false n f] h = .ok (.bl true) h := call_nc (by simp [ncs, nc_tab, nc_tT2]) (r_same hn) rfl
end ZK72

/-! tables shifted along closed rows: the plain part -/
namespace ZK72
open Z
def cnt (ps : List (Nat × Nat)) (x y : Nat) : Int := ((ps.filter fun p => decide (p.1 = x ∧ p.2 = y)).length : Nat)
theorem cnt_nil (x y : Nat) : cnt [] x y = 0 := rfl
theorem cnt_cons (p : Nat × Nat) (ps : List (Nat × Nat)) (x y : Nat) : cnt (p :: ps) x y = (if p.1 = x ∧ p.2 = y then 1 else 0) + cnt ps x y := by
  unfold cnt
  by_cases h : p.1 = x ∧ p.2 = y
  · simp [List.filter_cons, h]; omega
  · simp [List.filter_cons, h]
theorem upd2_val (f : F2) (i j : Nat) (a : Int) (x y : Nat) : upd2 f (i, j) a x y = f x y + (if i = x ∧ j = y then a else 0) - (if j = x ∧ i = y then a else 0) := by
  unfold upd2 stF
  simp only
  by_cases h1 : x = i <;> by_cases h2 : y = j <;> by_cases h3 : x = j <;> by_cases h4 : y = i <;> simp_all <;> (try split) <;> (try split) <;> simp_all <;> omega
theorem shift_val (a : Int) (x y : Nat) : ∀ (ps : List (Nat × Nat)) (f : F2), shift f ps a x y = f x y + a * (cnt ps x y - cnt ps y x)
  | [], f => by simp [shift, cnt]
  | (i, j) :: ps, f => by
    have ih := shift_val a x y ps (upd2 f (i, j) a)
    have e : shift f ((i, j) :: ps) a = shift (upd2 f (i, j) a) ps a := rfl
    rw [e, ih, upd2_val, cnt_cons, cnt_cons]
    have e1 : (i = y ∧ j = x) ↔ (j = x ∧ i = y) := And.comm
    simp only [e1]
    by_cases h1 : i = x ∧ j = y
    · by_cases h2 : j = x ∧ i = y
      · simp only [if_pos h1, if_pos h2, Int.mul_sub, Int.mul_add, Int.mul_one, Int.mul_zero]; omega
      · simp only [if_pos h1, if_neg h2, Int.mul_sub, Int.mul_add, Int.mul_one, Int.mul_zero]; omega
    · by_cases h2 : j = x ∧ i = y
      · simp only [if_neg h1, if_pos h2, Int.mul_sub, Int.mul_add, Int.mul_one, Int.mul_zero]; omega
      · simp only [if_neg h1, if_neg h2, Int.mul_sub, Int.mul_add, Int.mul_one, Int.mul_zero]; omega
theorem shift_skew {n : Nat} {f : F2} (sk : Skew n f) (ps : List (Nat × Nat)) (a : Int) : Skew n (shift f ps a) := fun i j hi hj => by
  rw [shift_val, shift_val, sk i j hi hj, Int.mul_sub, Int.mul_sub]
  omega
/-- what is lacking -/
def dif (s f : F2) : F2 := fun x y => s x y - f x y
theorem dif_shift (s f : F2) (ps : List (Nat × Nat)) (a : Int) : dif s (shift f ps a) = shift (dif s f) ps (-a) := by
  funext x y
  unfold dif
  rw [shift_val, shift_val, Int.neg_mul]
  omega
theorem sum_map_add (g k : Nat → Int) : ∀ l : List Nat, (l.map fun y => g y + k y).sum = (l.map g).sum + (l.map k).sum
  | [] => rfl
  | a :: r => by
    simp only [List.map_cons, List.sum_cons, sum_map_add g k r]
    omega
theorem sum_one (j : Nat) (a : Int) : ∀ n, ((List.range n).map fun y => if j = y then a else 0).sum = if j < n then a else 0
  | 0 => by simp
  | n + 1 => by
    rw [List.range_succ, List.map_append, List.sum_append, sum_one j a n]
    by_cases h : j < n
    · have : ¬ j = n := by omega
      have : j < n + 1 := by omega
      simp [*]
    · by_cases h2 : j = n
      · subst h2; simp
      · have : ¬ j < n + 1 := by omega
        simp [*]
theorem row_upd2 {n : Nat} (f : F2) {i j : Nat} (hi : i < n) (hj : j < n) (a : Int) (x : Nat) : (rowF n (upd2 f (i, j) a) x).sum = (rowF n f x).sum + (if i = x then a else 0) - (if j = x then a else 0) := by
  have e : rowF n (upd2 f (i, j) a) x = (List.range n).map fun y => f x y + ((if j = y then (if i = x then a else 0) else 0) + (if i = y then (if j = x then -a else 0) else 0)) := by
    unfold rowF
    apply List.map_congr_left
    intro y _
    rw [upd2_val]
    by_cases h1 : i = x <;> by_cases h2 : j = y <;> by_cases h3 : j = x <;> by_cases h4 : i = y <;> simp [h1, h2, h3, h4] <;> omega
  rw [e, sum_map_add, sum_map_add, sum_one, sum_one, if_pos hi, if_pos hj]
  unfold rowF
  by_cases h3 : j = x <;> simp [h3] <;> omega
def c1 (ps : List (Nat × Nat)) (x : Nat) : Int := ((ps.map (·.1)).count x : Nat)
def c2 (ps : List (Nat × Nat)) (x : Nat) : Int := ((ps.map (·.2)).count x : Nat)
theorem row_shift {n : Nat} (a : Int) (x : Nat) : ∀ (ps : List (Nat × Nat)) (f : F2), (∀ p ∈ ps, p.1 < n ∧ p.2 < n) → (rowF n (shift f ps a) x).sum = (rowF n f x).sum + a * (c1 ps x - c2 ps x)
  | [], f, _ => by simp [shift, c1, c2]
  | (i, j) :: ps, f, h => by
    have e : shift f ((i, j) :: ps) a = shift (upd2 f (i, j) a) ps a := rfl
    obtain ⟨hi, hj⟩ := h (i, j) List.mem_cons_self
    rw [e, row_shift a x ps _ fun p hp => h p (List.mem_cons_of_mem _ hp), row_upd2 f hi hj]
    unfold c1 c2
    simp only [List.map_cons, List.count_cons]
    by_cases h1 : i = x <;> by_cases h2 : j = x <;> simp [h1, h2, Int.mul_sub, Int.mul_add] <;> omega
theorem lks_fst (c : List Nat) (h : 1 ≤ c.length) : (lks (way c)).map (·.1) = c := by
  apply List.ext_getElem?
  intro i
  by_cases hi : i < c.length
  · rw [List.getElem?_map, pair_at hi]; simp [hi]
  · rw [List.getElem?_eq_none (by simp [lks_len, way_len h]; omega), List.getElem?_eq_none (by omega)]
theorem lks_snd (c : List Nat) (h : 1 ≤ c.length) : (lks (way c)).map (·.2) = c.drop 1 ++ c.take 1 := by
  have hz : (way c).tail.length = c.length := by simp [way_len h]
  unfold lks
  rw [List.map_snd_zip (by rw [List.length_tail]; omega)]
  cases c with
  | nil => simp at h
  | cons x r => simp [way]
theorem c12 (c : List Nat) (h : 1 ≤ c.length) (x : Nat) : c1 (lks (way c)) x = c2 (lks (way c)) x := by
  unfold c1 c2
  rw [lks_fst c h, lks_snd c h]
  congr 1
  rw [List.count_append, Nat.add_comm, ← List.count_append, List.take_append_drop]
theorem row_cyc {n : Nat} {c : List Nat} (C : Cyc n c) (f : F2) (a : Int) (x : Nat) : (rowF n (shift f (lks (way c)) a) x).sum = (rowF n f x).sum := by
  rw [row_shift a x _ f C.links, c12 c (by have := C.three; omega)]
  simp
/-! ### how many are not level -/
def prs : Nat → List (Nat × Nat)
  | 0 => []
  | n + 1 => prs n ++ (List.range n).map fun x => (x, n)
theorem prs_len : ∀ n, 2 * (prs n).length = n * (n - 1)
  | 0 => rfl
  | n + 1 => by
    have ih := prs_len n
    unfold prs
    rw [List.length_append, List.length_map, List.length_range, Nat.mul_add, ih]
    cases n with
    | zero => rfl
    | succ n =>
      simp only [Nat.add_sub_cancel]
      rw [Nat.mul_add (n + 1 + 1), Nat.add_mul, Nat.add_mul, Nat.add_mul]
      omega
theorem prs_mem {x y : Nat} : ∀ {n : Nat}, x < y → y < n → (x, y) ∈ prs n
  | 0, _, h => by omega
  | n + 1, h1, h2 => by
    unfold prs
    rw [List.mem_append]
    by_cases e : y = n
    · subst e
      exact .inr (List.mem_map.2 ⟨x, List.mem_range.2 h1, rfl⟩)
    · exact .inl (prs_mem h1 (by omega))
theorem prs_lt {p : Nat × Nat} : ∀ {n : Nat}, p ∈ prs n → p.1 < p.2 ∧ p.2 < n
  | 0, h => by simp [prs] at h
  | n + 1, h => by
    unfold prs at h
    rw [List.mem_append, List.mem_map] at h
    rcases h with h | ⟨x, hx, rfl⟩
    · have := prs_lt h; exact ⟨this.1, by omega⟩
    · exact ⟨List.mem_range.1 hx, by simp⟩
def Qn (n : Nat) (L : F2) : Nat := (prs n).countP fun p => decide (L p.1 p.2 ≠ 0)
theorem countP_le' {α : Type} {p q : α → Bool} : ∀ {l : List α}, (∀ x ∈ l, q x = true → p x = true) → l.countP q ≤ l.countP p
  | [], _ => Nat.le_refl _
  | a :: r, h => by
    have ih := countP_le' (l := r) fun x hx => h x (List.mem_cons_of_mem _ hx)
    have ha := h a List.mem_cons_self
    rw [List.countP_cons, List.countP_cons]
    cases q1 : q a <;> cases p1 : p a <;> simp_all <;> omega
theorem countP_lt' {α : Type} {p q : α → Bool} : ∀ {l : List α}, (∀ x ∈ l, q x = true → p x = true) → (∃ x ∈ l, p x = true ∧ q x = false) → l.countP q < l.countP p
  | [], _, ⟨x, hx, _⟩ => by simp at hx
  | a :: r, h, ⟨x, hx, h1, h2⟩ => by
    have hr : ∀ x ∈ r, q x = true → p x = true := fun x hx => h x (List.mem_cons_of_mem _ hx)
    rw [List.countP_cons, List.countP_cons]
    rcases List.mem_cons.1 hx with rfl | hx
    · have := countP_le' hr
      rw [h1, h2]
      simp
      omega
    · have := countP_lt' hr ⟨x, hx, h1, h2⟩
      have ha := h a List.mem_cons_self
      cases q1 : q a <;> cases p1 : p a <;> simp_all <;> omega
/-- a closed row along what is lacking, with its least link -/
structure Step (n : Nat) (L : F2) (c : List Nat) (a : Int) : Prop where
  cyc : Cyc n c
  le : ∀ p ∈ lks (way c), a ≤ L p.1 p.2
  pos : 1 ≤ a
  at_ : ∃ p ∈ lks (way c), L p.1 p.2 = a
theorem cnt_c1 (x y : Nat) : ∀ ps : List (Nat × Nat), cnt ps x y ≤ c1 ps x
  | [] => by simp [cnt, c1]
  | p :: ps => by
    have ih := cnt_c1 x y ps
    rw [cnt_cons]
    unfold c1 at ih ⊢
    rw [List.map_cons, List.count_cons]
    by_cases h : p.1 = x
    · simp only [h, true_and, beq_self_eq_true, if_true]
      split <;> omega
    · have : ¬ (p.1 = x ∧ p.2 = y) := fun z => h z.1
      rw [if_neg this]
      have e : (p.1 == x) = false := by simpa using h
      simp only [e]
      simp
      omega
theorem cnt_mem {x y : Nat} : ∀ {ps : List (Nat × Nat)}, (x, y) ∈ ps → 1 ≤ cnt ps x y
  | [], h => by simp at h
  | p :: ps, h => by
    rw [cnt_cons]
    have p0 : 0 ≤ cnt ps x y := by unfold cnt; omega
    rcases List.mem_cons.1 h with rfl | h
    · simp; omega
    · have := cnt_mem h
      split <;> omega
theorem cnt_out {x y : Nat} {ps : List (Nat × Nat)} (h : (x, y) ∉ ps) : cnt ps x y = 0 := by
  unfold cnt
  have : (ps.filter fun p => decide (p.1 = x ∧ p.2 = y)) = [] := by
    rw [List.filter_eq_nil_iff]
    rintro ⟨a, b⟩ hp
    simp only [decide_eq_true_eq]
    rintro ⟨rfl, rfl⟩
    exact h hp
  rw [this]; rfl
theorem cnt_one {n : Nat} {c : List Nat} (C : Cyc n c) {x y : Nat} (h : (x, y) ∈ lks (way c)) : cnt (lks (way c)) x y = 1 := by
  have a := cnt_c1 x y (lks (way c))
  have b := cnt_mem h
  have d : c1 (lks (way c)) x ≤ 1 := by
    unfold c1
    rw [lks_fst c (by have := C.three; omega)]
    have := List.nodup_iff_count.1 C.nd x
    omega
  omega
theorem Step.on {n : Nat} {L : F2} {c : List Nat} {a : Int} (S : Step n L c a) (sk : Skew n L) {x y : Nat} (h : (x, y) ∈ lks (way c)) : (y, x) ∉ lks (way c) ∧ shift L (lks (way c)) (-a) x y = L x y - a := by
  obtain ⟨hx, hy⟩ := S.cyc.links _ h
  have p1 := S.le _ h
  have pos := S.pos
  have no : (y, x) ∉ lks (way c) := fun z => by
    have p2 := S.le _ z
    have := sk x y hx hy
    simp only at p1 p2
    omega
  refine ⟨no, ?_⟩
  rw [shift_val, cnt_one S.cyc h, cnt_out no]
  simp
  omega
theorem Step.off {n : Nat} {L : F2} {c : List Nat} {a : Int} {x y : Nat} (h1 : (x, y) ∉ lks (way c)) (h2 : (y, x) ∉ lks (way c)) : shift L (lks (way c)) (-a) x y = L x y := by
  rw [shift_val, cnt_out h1, cnt_out h2]
  simp
theorem Step.less {n : Nat} {L : F2} {c : List Nat} {a : Int} (S : Step n L c a) (sk : Skew n L) : Qn n (shift L (lks (way c)) (-a)) < Qn n L := by
  have sk' := shift_skew sk (lks (way c)) (-a)
  have pos := S.pos
  unfold Qn
  refine countP_lt' (fun p hp hq => ?_) ?_
  · obtain ⟨x, y⟩ := p
    obtain ⟨h1, h2⟩ := prs_lt hp
    simp only [decide_eq_true_eq] at h1 h2 hq ⊢
    by_cases m1 : (x, y) ∈ lks (way c)
    · have := S.le _ m1
      simp only at this
      omega
    · by_cases m2 : (y, x) ∈ lks (way c)
      · have := S.le _ m2
        have := sk x y (by omega) h2
        simp only at *
        omega
      · rw [Step.off (n := n) m1 m2] at hq
        exact hq
  · obtain ⟨⟨u, v⟩, hp, e⟩ := S.at_
    obtain ⟨hu, hv⟩ := S.cyc.links _ hp
    simp only at e hu hv
    have e0 : shift L (lks (way c)) (-a) u v = 0 := by rw [(S.on sk hp).2, e]; omega
    have ne : u ≠ v := by
      rintro rfl
      have := sk u u hu hu
      omega
    rcases Nat.lt_or_gt_of_ne ne with h | h
    · refine ⟨(u, v), prs_mem h hv, ?_, ?_⟩
      · simp only [decide_eq_true_eq]; omega
      · simp [e0]
    · have e1 := sk' v u hv hu
      have e2 := sk v u hv hu
      refine ⟨(v, u), prs_mem h hu, ?_, ?_⟩
      · simp only [decide_eq_true_eq]; omega
      · simp only [decide_eq_false_iff_not, Decidable.not_not]; omega
/-- shifts that level L -/
inductive Ch (n : Nat) : F2 → List (List Nat × Int) → Prop
  | nil {L : F2} : (∀ x y, x < n → y < n → L x y = 0) → Ch n L []
  | cons {L : F2} {c : List Nat} {a : Int} {r : List (List Nat × Int)} : Step n L c a → Ch n (shift L (lks (way c)) (-a)) r → Ch n L ((c, a) :: r)
def Zr (n : Nat) (L : F2) : Prop := ∀ x, x < n → (rowF n L x).sum = 0
theorem Zr.step {n : Nat} {L : F2} {c : List Nat} (C : Cyc n c) (a : Int) (z : Zr n L) : Zr n (shift L (lks (way c)) a) := fun x hx => by rw [row_cyc C, z x hx]
/-- parity stays -/
theorem Step.even {n : Nat} {L : F2} {c : List Nat} {a : Int} (S : Step n L c a) (ev : ∀ x y, x < n → y < n → L x y % 2 = 0) : a % 2 = 0 ∧ ∀ x y, x < n → y < n → shift L (lks (way c)) (-a) x y % 2 = 0 := by
  obtain ⟨p, hp, e⟩ := S.at_
  obtain ⟨h1, h2⟩ := S.cyc.links _ hp
  have e1 := ev _ _ h1 h2
  have ea : a % 2 = 0 := by rw [← e]; exact e1
  refine ⟨ea, fun x y hx hy => ?_⟩
  rw [shift_val]
  have := ev x y hx hy
  obtain ⟨t, rfl⟩ : ∃ t, a = 2 * t := ⟨a / 2, by omega⟩
  have e3 : -(2 * t) * (cnt (lks (way c)) x y - cnt (lks (way c)) y x) = 2 * (-t * (cnt (lks (way c)) x y - cnt (lks (way c)) y x)) := by
    rw [show -(2 * t) = 2 * (-t) by omega, Int.mul_assoc]
  rw [e3]
  omega
end ZK72

namespace ZK72
open Z
variable {h : CH} {k : Nat}
theorem pigeon : ∀ (n : Nat) (l : List Nat), l.Nodup → (∀ x ∈ l, x < n) → l.length ≤ n
  | 0, [], _, _ => Nat.le_refl _
  | 0, a :: r, _, h => absurd (h a List.mem_cons_self) (by omega)
  | n + 1, l, nd, h => by
    have ih := pigeon n (l.erase n) (nd.erase n) fun x hx => by
      have q := (List.Nodup.mem_erase_iff nd).1 hx
      have := h x q.2
      have : x ≠ n := q.1
      omega
    rw [List.length_erase] at ih
    split at ih <;> omega
theorem find_iN {j : Nat} : ∀ {l : List Nat}, j ∈ l → ∃ t, findD (.int j) (l.map fun x : Nat => D.int x) = some t ∧ l[t]? = some j
  | [], h => by simp at h
  | a :: r, h => by
    by_cases e : a = j
    · subst e
      exact ⟨0, by simp [findD, eqF], rfl⟩
    · have hr : j ∈ r := by
        rcases List.mem_cons.1 h with z | z
        · exact absurd z.symm e
        · exact z
      obtain ⟨t, h1, h2⟩ := find_iN hr
      have e2 : ¬ ((a : Int) = j) := by omega
      exact ⟨t + 1, by simp [findD, eqF, e2, h1], by simpa using h2⟩
theorem comp_filter {ck : Ck} {asg : D → Option Env} {test : Env → CH → R Bool} {f : Env → CH → R D} {h : CH} {g G : Nat → D} (c : ckOk ck h = true) (P : Nat → Bool) : ∀ l : List Nat, (∀ i ∈ l, oT (asg (g i)) fun env => test env h = .ok (P i) h ∧ (P i = true → f env h = .ok (G i) h)) → compGo ck asg test f (l.map g) h = .ok ((l.filter P).map G) h
  | [], _ => by rw [List.map_nil]; unfold compGo; rw [if_pos c]; rfl
  | i :: r, st => by
    obtain ⟨env, a1, a2, a3⟩ := st i List.mem_cons_self
    have ih := comp_filter c P r fun x hx => st x (List.mem_cons_of_mem _ hx)
    rw [List.map_cons]
    unfold compGo
    rw [if_pos c, a1]
    simp only [a2, R.bnd_ok]
    cases q : P i with
    | false =>
      simp only [List.filter_cons, q, Bool.false_eq_true, if_false]
      exact ih
    | true =>
      simp only [List.filter_cons, q, if_true, a3 q, R.bnd_ok, ih, List.map_cons]
/-- over numbers, and early ends -/
theorem forGo_rng2 {ck : Ck} {asg : D → Env → Option Env} {f : Env → CH → RS} {fg : List Nat} {C : RS → Prop} {n : Nat} {g : Nat → D} (I : Nat → Env → CH → Prop) {env : Env} {h : CH} (i0 : I 0 env h) (c : ∀ i env h, i ≤ n → I i env h → ckOk ck h = true)
    (st : ∀ i env h, i < n → I i env h → oT (asg (g i) env) fun env1 => nT (f env1 h) (fun env2 h2 => I (i + 1) (wipeE env2 fg) h2) ∨ ∃ v h2, f env1 h = .rt v h2 ∧ C (.rt v h2)) (go : ∀ env' h', I n env' h' → C (.nx env' h')) : C (forGo ck asg f fg ((List.range n).map g) env h) := by
  have q := forGo_inv2 (ck := ck) (asg := asg) (f := f) (fg := fg) I C ((List.range n).map g) 0 env h i0 (fun i env h hi => c i env h (by simpa using hi)) (fun i d env h hd hI => by
    have lt : i < n := by
      rcases Nat.lt_or_ge i n with z | z
      · exact z
      · rw [List.getElem?_eq_none (by simpa using z)] at hd; cases hd
    rw [List.getElem?_map, List.getElem?_range lt] at hd
    cases hd
    rw [Nat.zero_add] at hI ⊢
    obtain ⟨env1, a, b⟩ := st i env h lt hI
    refine ⟨env1, a, ?_⟩
    rcases b with ⟨e2, h2, b1, b2⟩ | ⟨v, h2, b1, b2⟩
    · exact .inl ⟨e2, h2, b1, b2⟩
    · exact .inr ⟨v, h2, b1, b2⟩)
  rcases q with ⟨env', h', e, i⟩ | ⟨v, h', e, j⟩
  · rw [e]; exact go _ _ (by simpa using i)
  · rw [e]; exact j
theorem sum_le0 : ∀ l : List Int, (∀ x ∈ l, x ≤ 0) → l.sum ≤ 0
  | [], _ => by simp
  | a :: r, h => by
    have := sum_le0 r fun x hx => h x (List.mem_cons_of_mem _ hx)
    have := h a List.mem_cons_self
    rw [List.sum_cons]; omega
theorem sum_lt0 : ∀ l : List Int, (∀ x ∈ l, x ≤ 0) → (∃ x ∈ l, x < 0) → l.sum < 0
  | [], _, ⟨x, hx, _⟩ => by simp at hx
  | a :: r, h, ⟨x, hx, hn⟩ => by
    have hr : ∀ x ∈ r, x ≤ 0 := fun x hx => h x (List.mem_cons_of_mem _ hx)
    have ha := h a List.mem_cons_self
    rw [List.sum_cons]
    rcases List.mem_cons.1 hx with rfl | hx
    · have := sum_le0 r hr; omega
    · have := sum_lt0 r hr ⟨x, hx, hn⟩; omega
theorem rowF_mem {n : Nat} {f : F2} {i : Nat} {v : Int} : v ∈ rowF n f i ↔ ∃ j, j < n ∧ f i j = v := by
  unfold rowF
  simp
theorem pos_of_neg {n : Nat} {L : F2} {i j : Nat} (z : (rowF n L i).sum = 0) (hj : j < n) (neg : L i j < 0) : ∃ y, y < n ∧ 0 < L i y := by
  apply Classical.byContradiction
  intro no
  have := sum_lt0 (rowF n L i) (fun x hx => by
    obtain ⟨y, hy, rfl⟩ := rowF_mem.1 hx
    apply Classical.byContradiction
    intro q
    exact no ⟨y, hy, by omega⟩) ⟨_, rowF_mem.2 ⟨j, hj, rfl⟩, neg⟩
  omega
theorem max_pos {n : Nat} (hn : 1 ≤ n) (L : F2) (i : Nat) : 0 < maxL (rowF n L i) ↔ ∃ j, j < n ∧ 0 < L i j := by
  have hne : rowF n L i ≠ [] := fun e => by have := len_rowF n L i; rw [e] at this; simp at this; omega
  obtain ⟨a, r, e⟩ : ∃ a r, rowF n L i = a :: r := List.exists_cons_of_ne_nil hne
  have m := maxL_mem a r
  rw [← e] at m
  constructor
  · intro p
    obtain ⟨j, hj, e⟩ := rowF_mem.1 m.1
    exact ⟨j, hj, by omega⟩
  · rintro ⟨j, hj, p⟩
    have := m.2 _ (rowF_mem.2 ⟨j, hj, rfl⟩)
    omega
theorem lks_snoc {z j : Nat} : ∀ l : List Nat, lks (l ++ [z] ++ [j]) = lks (l ++ [z]) ++ [(z, j)]
  | [] => rfl
  | [a] => rfl
  | a :: b :: r => by
    have ih := lks_snoc (z := z) (j := j) (b :: r)
    have e : ∀ s : List Nat, lks (a :: b :: s) = (a, b) :: lks (b :: s) := fun s => rfl
    simp only [List.cons_append] at ih ⊢
    rw [e, e, ih]
    rfl
theorem lks_drop {p : Nat × Nat} : ∀ (t : Nat) (l : List Nat), p ∈ lks (l.drop t) → p ∈ lks l
  | 0, l, h => h
  | t + 1, [], h => h
  | t + 1, [a], h => by simp [lks] at h
  | t + 1, a :: b :: r, h => by
    have := lks_drop t (b :: r) (by simpa using h)
    exact List.mem_cons_of_mem _ this
theorem lks_app {p : Nat × Nat} {j z : Nat} {l : List Nat} (h : p ∈ lks (l ++ [z] ++ [j])) : p ∈ lks (l ++ [z]) ∨ p = (z, j) := by
  rw [lks_snoc] at h
  simpa using h
/-- a walk along what is lacking -/
structure Wk (n : Nat) (L : F2) (l : List Nat) (z : Nat) : Prop where
  nd : (l ++ [z]).Nodup
  lt : ∀ x ∈ l ++ [z], x < n
  pos : ∀ p ∈ lks (l ++ [z]), 1 ≤ L p.1 p.2
  on : ∃ j, j < n ∧ 0 < L z j
/-- back at a number that was met: a closed row -/
theorem Wk.close {n : Nat} {L : F2} {l : List Nat} {z j t : Nat} (w : Wk n L l z) (hn : n ≤ 900) (sk : Skew n L) (hj : 0 < L z j) (e : (l ++ [z])[t]? = some j) : Cyc n ((l ++ [z]).drop t) ∧ ∀ p ∈ lks (way ((l ++ [z]).drop t)), 1 ≤ L p.1 p.2 := by
  obtain ⟨ht, e'⟩ := List.getElem?_eq_some_iff.1 e
  have hz : z < n := w.lt z (by simp)
  have hjn : j < n := w.lt j (List.mem_of_getElem? e)
  have hd : (l ++ [z]).drop t = j :: (l ++ [z]).drop (t + 1) := by rw [List.drop_eq_getElem_cons ht, e']
  have ht' : t ≤ l.length := by simp at ht; omega
  have hlast : (l ++ [z]).drop t = l.drop t ++ [z] := by rw [List.drop_append_of_le_length ht']
  have hw : way ((l ++ [z]).drop t) = l.drop t ++ [z] ++ [j] := by
    unfold way
    rw [hd, List.take_succ_cons, List.take_zero, ← hd, hlast]
  have pos : ∀ p ∈ lks (way ((l ++ [z]).drop t)), 1 ≤ L p.1 p.2 := fun p hp => by
    rw [hw] at hp
    rcases lks_app hp with h | rfl
    · rw [← hlast] at h
      exact w.pos p (lks_drop t _ h)
    · show 1 ≤ L z j; omega
  refine ⟨⟨?_, ?_, w.nd.sublist (List.drop_sublist _ _), fun x hx => w.lt x (List.mem_of_mem_drop hx)⟩, pos⟩
  · have := pigeon n (l ++ [z]) w.nd w.lt
    rw [List.length_drop]; omega
  · -- three at least
    apply Classical.byContradiction
    intro no
    have ljj := sk j j hjn hjn
    rw [hlast] at no
    have hlen : (l.drop t).length ≤ 1 := by simp at no ⊢; omega
    have hcons := hd
    rw [hlast] at hcons
    cases q : l.drop t with
    | nil =>
      rw [q] at hcons
      simp only [List.nil_append, List.cons.injEq] at hcons
      rw [hcons.1] at hj
      omega
    | cons a r =>
      rw [q] at hcons hlen
      have : r = [] := List.eq_nil_of_length_eq_zero (by simp at hlen; exact List.length_eq_zero_iff.2 hlen)
      subst this
      simp only [List.cons_append, List.nil_append, List.cons.injEq] at hcons
      have p1 := pos (a, z) (by rw [hw, q]; simp [lks])
      have := sk a z (by rw [hcons.1]; exact hjn) hz
      rw [hcons.1] at p1 this
      simp only at p1
      omega
end ZK72

namespace ZK72
open Z
variable {h : CH} {k : Nat}
theorem head_filter {n : Nat} {P : Nat → Bool} (e : ∃ j, j < n ∧ P j = true) : ∃ j r, (List.range n).filter P = j :: r ∧ j < n ∧ P j = true := by
  obtain ⟨j, hj, p⟩ := e
  have : j ∈ (List.range n).filter P := List.mem_filter.2 ⟨List.mem_range.2 hj, p⟩
  cases q : (List.range n).filter P with
  | nil => rw [q] at this; simp at this
  | cons a r =>
    have ha : a ∈ (List.range n).filter P := by rw [q]; exact List.mem_cons_self
    obtain ⟨h1, h2⟩ := List.mem_filter.1 ha
    exact ⟨a, r, rfl, List.mem_range.1 h1, h2⟩
theorem mx_app {m n : Nat} {cs : Nat → Nat} {f : F2} {l : CH} (M : Mx h m cs n f) : Mx (h ++ l) m cs n f := ⟨get_app M.top, fun i hi => get_app (M.row i hi), M.inj, M.out⟩
/-- what rising_row hands back -/
def RisR (n : Nat) (L : F2) (d : D) : Prop := (d = .non ∧ ∀ x y, x < n → y < n → L x y ≤ 0) ∨ ∃ c, d = .lst (iN c) ∧ Cyc n c ∧ ∀ p ∈ lks (way c), 1 ≤ L p.1 p.2
theorem r_rising {m n : Nat} {cs : Nat → Nat} {L : F2} (M : Mx h m cs n L) (hn : 1 ≤ n) (hn8 : n ≤ 900) (sk : Skew n L) (zr : Zr n L) :
    ∃ d h', run tb (k + 1) 20 [.cell m] h = .ok d h' ∧ RisR n L d ∧ h.length ≤ h'.length ∧ ∀ y, y < h.length → h'[y]? = h[y]? := by
  rw [run_eq (fd := ⟨"rising_row", 1, 8, b_rising_row⟩) rfl rfl]
  have i0 : items h (.cell m) = some ((List.range n).map fun i => .cell (cs i)) := by simp only [items, M.top]
  have hz : n ≤ SZ := SZ_of (by omega)
  simp [b_rising_row, envOf, e_comp, it_enum i0 (fun l e => by cases e), ckOf]
  rw [enum_rng, comp_filter (G := fun i : Nat => D.int i) (ck_cell M.top) (fun i => decide (0 < maxL (rowF n L i)))]
  rotate_left
  · intro i hi
    have hi := List.mem_range.1 hi
    have e1 : lstOf h (.cell (cs i)) = some (iL (rowF n L i)) := by simp only [lstOf, M.row i hi]
    have e2 := max_ok (m := false) e1 (fun e => by have := len_rowF n L i; rw [e] at this; simp at this; omega)
    simp [e2]
  have hlen : ((List.range n).filter fun i => decide (0 < maxL (rowF n L i))).length ≤ SZ := Nat.le_trans (List.length_filter_le _ _) (by simpa using hz)
  simp only [R.bnd_ok, List.length_map, if_pos hlen, newL, RS.of_ok, t_nm, RS.andThen_nx]
  by_cases hs : ∃ i, i < n ∧ decide (0 < maxL (rowF n L i)) = true
  · obtain ⟨s0, S, eS, hs0, ps0⟩ := head_filter hs
    have ps1 : 0 < maxL (rowF n L s0) := by simpa using ps0
    rw [eS]
    have E0 : ixV (.lst ((s0 :: S).map fun i : Nat => D.int i)) (.int 0) h = .ok (.int (s0 : Nat)) h := ix_ok (k := 0) (ds := (s0 :: S).map fun i : Nat => D.int i) rfl rfl
    have n0 : ¬ ((S.length : Int) + 1 = 0) := by omega
    have E1 : biD .len false [.lst ((s0 :: S).map fun i : Nat => D.int i)] h = .ok (.int ((S.length : Int) + 1)) h := by rw [len_ok (ds := (s0 :: S).map fun i : Nat => D.int i) rfl]; simp
    have E2 : biD .len false [.cell m] (h ++ [.lst [.int (s0 : Nat)]]) = .ok (.int (n : Nat)) (h ++ [.lst [.int (s0 : Nat)]]) := by rw [len_ok (ds := (List.range n).map fun i => .cell (cs i)) (by simp only [items, (mx_app M).top])]; simp
    generalize hSS : (s0 :: S).map (fun i : Nat => D.int i) = SS at *
    simp [E0, E1, n0, s_fr, E2, it_rng1 (show n < 1000000 by omega)]
    refine forGo_rng2 (C := fun r => ∃ d h', fin (RS.andThen r _) = R.ok d h' ∧ RisR n L d ∧ h.length ≤ h'.length ∧ ∀ y, y < h.length → h'[y]? = h[y]?)
      (fun i env hh => ∃ l z, env = [some (.cell m), some (.lst SS), some (.cell h.length), none, none, none, none, none] ∧ hh = h ++ [.lst (iN (l ++ [z]))] ∧ l.length = i ∧ Wk n L l z) ?_ ?_ ?_ ?_
    · exact ⟨[], s0, rfl, rfl, rfl, ⟨by simp, by simpa using hs0, by simp [lks], (max_pos hn L s0).1 ps1⟩⟩
    · exact fun _ _ _ _ _ => rfl
    · rintro i env hh hi ⟨l, z, rfl, rfl, hl, w⟩
      have hzn : z < n := w.lt z (by simp)
      have M1 : Mx (h ++ [Cell.lst (iN (l ++ [z]))]) m cs n L := mx_app M
      have T0 : (h ++ [Cell.lst (iN (l ++ [z]))])[h.length]? = some (.lst (iN (l ++ [z]))) := by simp
      generalize hH : h ++ [Cell.lst (iN (l ++ [z]))] = H at *
      have E3 : ixV (.cell h.length) (.int (-1)) H = .ok (.int (z : Nat)) H := ix_last (ds := iN l) (by simp only [items, T0]; simp [iN])
      have R0 : items H (.cell (cs z)) = some ((List.range n).map fun j => D.int (L z j)) := by
        simp only [items, M1.row z hzn]
        simp [iL, rowF]
      obtain ⟨j, r, ej, hj, pj⟩ := head_filter (n := n) (P := fun j => decide (0 < L z j)) (by
        obtain ⟨j, a, b⟩ := w.on
        exact ⟨j, a, by simpa using b⟩)
      have pj : 0 < L z j := by simpa using pj
      have ck0 : ckOk (some (cs z, (List.range n).map fun j => D.int (L z j))) H = true := ck_cell (by
        rw [M1.row z hzn]
        simp [iL, rowF])
      refine ⟨_, rfl, ?_⟩
      simp [E3, M1.at_row hzn, e_comp, it_enum R0 (fun l e => by cases e), ckOf]
      rw [enum_rng, comp_filter (G := fun j : Nat => D.int j) ck0 (fun j => decide (0 < L z j))]
      rotate_left
      · intro j hj
        simp
      have hlen : ((List.range n).filter fun j => decide (0 < L z j)).length ≤ SZ := Nat.le_trans (List.length_filter_le _ _) (by simpa using hz)
      have E4 : ixV (.lst (((List.range n).filter fun j => decide (0 < L z j)).map fun i : Nat => D.int i)) (.int 0) H = .ok (.int (j : Nat)) H := by
        rw [ej]
        exact ix_ok (k := 0) (ds := (j :: r).map fun i : Nat => D.int i) rfl rfl
      have E5 : cmpD .inn (.int (j : Nat)) (.cell h.length) H = .ok (.bl (decide (j ∈ l ++ [z]))) H := inn_iN (by simp only [items, T0])
      simp only [R.bnd_ok, List.length_map, if_pos hlen, newL, E4]
      by_cases hm : j ∈ l ++ [z]
      · obtain ⟨t, ht1, ht2⟩ := find_iN hm
        have E6 : mthR (.cell h.length) .index [.int (j : Nat)] H H = .ok (.int (t : Nat)) H := by
          simp only [mthR, mthD, lstOf, T0, one1, Option.isSome_some, if_true]
          rw [if_pos (by simp [flatD]), ht1]
        have E7 : slcD false (.cell h.length) (some (t : Nat)) none H = .ok (.lst (iN ((l ++ [z]).drop t))) H := by
          simp only [slcD, lstOf, T0, slice_from, newL]
          simp [iN]
        obtain ⟨q1, q2⟩ := w.close hn8 sk pj ht2
        refine .inr ⟨.lst (iN ((l ++ [z]).drop t)), H, ?_, _, H, ⟨rfl, rfl⟩, .inr ⟨_, rfl, q1, q2⟩, by rw [← hH]; simp, fun y hy => by rw [← hH, List.getElem?_append_left hy]⟩
        rw [decide_eq_true hm] at E5
        simp [E5, E6, E7]
      · have ez : (iN (l ++ [z])).length < SZ := lt_SZ (by simp; omega)
        have E8 : mthR (.cell h.length) .append [.int (j : Nat)] H H = .ok .non (h ++ [.lst (iN (l ++ [z] ++ [j]))]) := by
          simp only [mthR, mthD, onCell, lstOf, T0, one1, Option.isSome_some, if_true, if_pos ez]
          rw [← hH]
          simp
        refine .inl ?_
        rw [decide_eq_false hm] at E5
        simp [E5, E8]
        refine ⟨l ++ [z], j, by simp, by simp [hl], ?_, ?_, ?_, ?_⟩
        · rw [List.nodup_append]
          refine ⟨w.nd, by simp, fun a ha b hb => ?_⟩
          rintro rfl
          exact hm (by simp at hb; subst hb; exact ha)
        · intro x hx
          rcases List.mem_append.1 hx with q | q
          · exact w.lt x q
          · simp at q; subst q; exact hj
        · intro p hp
          rcases lks_app hp with q | rfl
          · exact w.pos p q
          · show 1 ≤ L z j; omega
        · exact pos_of_neg (zr j hj) hzn (by have := sk j z hj hzn; omega)
    · rintro env h' ⟨l, z, rfl, rfl, hl, w⟩
      have := pigeon n (l ++ [z]) w.nd w.lt
      simp at this
      omega
  · have eS : ((List.range n).filter fun i => decide (0 < maxL (rowF n L i))) = [] := by
      rw [List.filter_eq_nil_iff]
      intro i hi q
      exact hs ⟨i, List.mem_range.1 hi, q⟩
    rw [eS]
    have E1 : biD .len false [.lst []] h = .ok (.int 0) h := len_ok (ds := []) rfl
    refine ⟨.non, h, ?_, .inl ⟨rfl, fun x y hx hy => ?_⟩, Nat.le_refl _, fun _ _ => rfl⟩
    · simp [E1]
    · apply Classical.byContradiction
      intro no
      exact hs ⟨x, hx, by simpa using (max_pos hn L x).2 ⟨y, hy, by omega⟩⟩
end ZK72

namespace ZK72
open Z
variable {h : CH} {k : Nat}
structure Keep (h h' : CH) : Prop where
  len : h.length ≤ h'.length
  get : ∀ y, y < h.length → h'[y]? = h[y]?
theorem Keep.refl : Keep h h := ⟨Nat.le_refl _, fun _ _ => rfl⟩
theorem Keep.trans {h1 h2 : CH} (a : Keep h h1) (b : Keep h1 h2) : Keep h h2 := ⟨Nat.le_trans a.len b.len, fun y hy => (b.get y (Nat.lt_of_lt_of_le hy a.len)).trans (a.get y hy)⟩
theorem lt_get {α : Type} {l : List α} {i : Nat} {x : α} (e : l[i]? = some x) : i < l.length := by
  rcases Nat.lt_or_ge i l.length with z | z
  · exact z
  · rw [List.getElem?_eq_none z] at e; cases e
theorem Keep.at_ {h' : CH} (K : Keep h h') {y : Nat} {c : Cell} (e : h[y]? = some c) : h'[y]? = some c := (K.get y (lt_get e)).trans e
theorem Keep.mx {h' : CH} (K : Keep h h') {m n : Nat} {cs : Nat → Nat} {f : F2} (M : Mx h m cs n f) : Mx h' m cs n f := ⟨K.at_ M.top, fun i hi => K.at_ (M.row i hi), M.inj, M.out⟩
theorem Keep.app (l : CH) : Keep h (h ++ l) := ⟨by simp, fun y hy => List.getElem?_append_left hy⟩
theorem trunc_keep {h' : CH} (K : Keep h h') (d : D) : Keep h (trunc h.length d h') := by
  unfold trunc
  split
  · exact K
  · split
    · refine ⟨by rw [List.length_take]; have := K.len; omega, fun y hy => ?_⟩
      rw [List.getElem?_take_of_lt hy]
      exact K.get y hy
    · exact K
theorem c_rising {m n : Nat} {cs : Nat → Nat} {L : F2} (M : Mx h m cs n L) (hn : 1 ≤ n) (hn8 : n ≤ 900) (sk : Skew n L) (zr : Zr n L) :
    ∃ d h', callM false (run tb (k + 1)) 20 [.cell m] h = .ok d h' ∧ RisR n L d ∧ Keep h h' := by
  obtain ⟨d, h', e, r, a, b⟩ := r_rising (k := k) M hn hn8 sk zr
  exact ⟨d, _, call_heap e, r, trunc_keep ⟨a, b⟩ d⟩
theorem comp_list {α : Type} {ck : Ck} {asg : D → Option Env} {f : Env → CH → R D} {h : CH} {l : List α} {g G : α → D} (c : ckOk ck h = true) (st : ∀ x ∈ l, oT (asg (g x)) fun env => f env h = .ok (G x) h) : compGo ck asg (fun _ h => .ok true h) f (l.map g) h = .ok (l.map G) h := by
  induction l with
  | nil => rw [List.map_nil]; unfold compGo; rw [if_pos c]; rfl
  | cons x r ih =>
    obtain ⟨env, a1, a2⟩ := st x List.mem_cons_self
    have ih := ih fun y hy => st y (List.mem_cons_of_mem _ hy)
    rw [List.map_cons]
    unfold compGo
    rw [if_pos c, a1]
    simp only [R.bnd_ok, a2, ih, List.map_cons]
structure KeepB (q n : Nat) (cs : Nat → Nat) (h h' : CH) : Prop where
  len : h.length ≤ h'.length
  get : ∀ y, y < h.length → y ≠ q → (∀ i, i < n → y ≠ cs i) → h'[y]? = h[y]?
theorem KeepB.refl {q n : Nat} {cs : Nat → Nat} : KeepB q n cs h h := ⟨Nat.le_refl _, fun _ _ _ _ => rfl⟩
theorem KeepB.trans {q n : Nat} {cs : Nat → Nat} {h1 h2 : CH} (a : KeepB q n cs h h1) (b : KeepB q n cs h1 h2) : KeepB q n cs h h2 := ⟨Nat.le_trans a.len b.len, fun y hy h1 h2 => (b.get y (Nat.lt_of_lt_of_le hy a.len) h1 h2).trans (a.get y hy h1 h2)⟩
abbrev shD (p : List Nat × Int) : D := .tup [.tup (iN p.1), .int p.2]
theorem least {c : List Nat} {n : Nat} {L : F2} (C : Cyc n c) (pos : ∀ p ∈ lks (way c), 1 ≤ L p.1 p.2) : Step n L c (minL ((lks (way c)).map fun p => L p.1 p.2)) := by
  have h3 := C.three
  have hl : (lks (way c)).length = c.length := by rw [lks_len, way_len (by omega)]; omega
  have hne : (lks (way c)).map (fun p => L p.1 p.2) ≠ [] := fun e => by
    have := congrArg List.length e
    rw [List.length_map, hl] at this
    simp only [List.length_nil] at this; omega
  obtain ⟨a, r, e⟩ := List.exists_cons_of_ne_nil hne
  have m := minL_mem a r
  rw [← e] at m
  obtain ⟨p, hp, e2⟩ := List.mem_map.1 m.1
  refine ⟨C, fun p hp => m.2 _ (List.mem_map.2 ⟨p, hp, rfl⟩), ?_, ⟨p, hp, e2⟩⟩
  rw [← e2]
  exact pos p hp
abbrev sbEnv (x y T1 T2 : D) (m q : Nat) (r : D) : Env := [some x, some y, some T1, some T2, some (.cell m), some (.cell q), some r, none, none, none, none, none, none, none, none]
/-- one turn of the while -/
theorem sb_turn {x y T1 T2 : D} {m q n : Nat} {cs : Nat → Nat} {L : F2} {c : List Nat} {fs : List (List Nat × Int)} (M : Mx h m cs n L) (hn : 1 ≤ n) (hn8 : n ≤ 900) (sk : Skew n L) (zr : Zr n L) (C : Cyc n c) (pos : ∀ p ∈ lks (way c), 1 ≤ L p.1 p.2)
    (hq : h[q]? = some (.lst (fs.map shD))) (qm : q ≠ m) (qc : ∀ i, i < n → q ≠ cs i) (hfs : fs.length < 500000) :
    ∃ d h' a, evSs (run tb (k + 3)) (.cons (.asg (.nm 7) (.bin .add false (.var 6) (.slc false (.var 6) .none (.some (.con (.int 1))))))
  (.cons (.asg (.nm 8) (.bi .min false (.cons (.comp false [("one", 13), ("after", 14)] (.tp [13, 14]) (.e (.call true 21 (.cons (.var 7) .nil))) .none (.ix (.ix (.var 4) (.var 13)) (.var 14))) .nil)))
  (.cons (.expr (.call false 16 (.cons (.var 4) (.cons (.var 7) (.cons (.neg (.var 8)) .nil)))))
  (.cons (.expr (.mth (.var 5) .append (.cons (.tup (.cons (.bi .tuple false (.cons (.var 6) .nil)) (.cons (.var 8) .nil))) .nil)))
  (.cons (.asg (.nm 6) (.call false 20 (.cons (.var 4) .nil)))
  .nil))))) (sbEnv x y T1 T2 m q (.lst (iN c))) h = .nx ((sbEnv x y T1 T2 m q d).set 7 (some (.lst (iN (way c)))) |>.set 8 (some (.int a))) h' ∧ Step n L c a ∧ Mx h' m cs n (shift L (lks (way c)) (-a)) ∧ RisR n (shift L (lks (way c)) (-a)) d ∧ h'[q]? = some (.lst ((fs ++ [(c, a)]).map shD)) ∧ KeepB q n cs h h' := by
  have S := least C pos
  generalize ha : minL ((lks (way c)).map fun p => L p.1 p.2) = a at S
  have h1 := C.len
  have h3 := C.three
  have hw := way_len (c := c) (by omega)
  have e1 : slcD false (.lst (iN c)) none (some 1) h = .ok (.lst ((iN c).take 1)) h := by
    have := slice_to (iN c) 1
    simp only [slcD, lstOf, newL]
    rw [show (some (1 : Int)) = some ((1 : Nat) : Int) from rfl, this]
  have e2 : binD .add false (.lst (iN c)) (.lst ((iN c).take 1)) h = .ok (.lst (iN (way c))) h := by
    rw [add_lst rfl rfl (SZ_of (by simp; omega)), iN_way]; rfl
  have e3 : callM true (run tb (k + 3)) 21 [.lst (iN (way c))] h = .ok (.lst ((lks (way c)).map pD)) h := c_links (b := false) (k := k + 2) (by omega) (by omega)
  have e4 : biD .min false [.lst ((lks (way c)).map fun p => D.int (L p.1 p.2))] h = .ok (.int a) h := by
    have : (lks (way c)).map (fun p => D.int (L p.1 p.2)) = iL ((lks (way c)).map fun p => L p.1 p.2) := by simp [iL]
    rw [this, ← ha]
    refine min_ok (x := .lst (iL ((lks (way c)).map fun p => L p.1 p.2))) rfl fun e => ?_
    have := congrArg List.length e
    rw [List.length_map, lks_len, hw] at this
    simp only [List.length_nil] at this; omega
  obtain ⟨h2, r1, M2, F2⟩ := r_raise (k := k + 1) (b := false) M (w := way c) (by omega) (by omega) C.links (-a)
  have e5 : callM false (run tb (k + 3)) 16 [.cell m, .lst (iN (way c)), .int (-a)] h = .ok .non h2 := by
    have r2 : run tb (k + 3) 16 [.cell m, .lst (iN (way c)), .int (-a)] h = .ok .non h2 := r1
    rw [call_heap r2, trunc_same (by rw [F2.len]; exact Nat.le_refl _)]
  have hq2 : h2[q]? = some (.lst (fs.map shD)) := (F2.oth q qc).trans hq
  have e6 : mthR (.cell q) .append [shD (c, a)] h2 h2 = .ok .non (h2.set q (.lst ((fs ++ [(c, a)]).map shD))) := by
    simp only [mthR, mthD, onCell, lstOf, hq2, one1, Option.isSome_some, if_true]
    rw [if_pos (lt_SZ (by simp; omega))]
    simp
  have M3 : Mx (h2.set q (.lst ((fs ++ [(c, a)]).map shD))) m cs n (shift L (lks (way c)) (-a)) := ⟨by rw [List.getElem?_set_ne qm]; exact M2.top, fun i hi => by rw [List.getElem?_set_ne (qc i hi)]; exact M2.row i hi, M2.inj, M2.out⟩
  obtain ⟨d, h4, e7, R4, K4⟩ := c_rising (k := k + 2) M3 hn hn8 (shift_skew sk _ _) (zr.step C _)
  have q4 : (h2.set q (.lst ((fs ++ [(c, a)]).map shD)))[q]? = some (.lst ((fs ++ [(c, a)]).map shD)) := List.getElem?_set_self (lt_get hq2)
  have KB : KeepB q n cs h (h2.set q (.lst ((fs ++ [(c, a)]).map shD))) := ⟨by simp [F2.len], fun y hy yq yc => by rw [List.getElem?_set_ne (fun e => yq e.symm)]; exact F2.oth y yc⟩
  generalize h2.set q (.lst ((fs ++ [(c, a)]).map shD)) = h3 at *
  refine ⟨d, h4, a, ?_, S, K4.mx M3, R4, K4.at_ q4, KB.trans ⟨K4.len, fun y hy _ _ => K4.get y hy⟩⟩
  have hzl : ((lks (way c)).map fun p => D.int (L p.1 p.2)).length ≤ SZ := SZ_of (by rw [List.length_map, lks_len]; omega)
  have hzl2 := hzl
  rw [List.length_map] at hzl2
  simp [sbEnv, e1, e2, e_comp, e3, itR, ckOf]
  rw [comp_list (G := fun p : Nat × Nat => D.int (L p.1 p.2)) rfl]
  rotate_left
  · rintro ⟨u, v⟩ hp
    obtain ⟨hu, hv⟩ := C.links _ hp
    simp [pD, M.at_row hu, M.at_ hu hv]
  have e8 : biD .tuple false [.lst (iN c)] h2 = .ok (.tup (iN c)) h2 := tuple_ok rfl
  simp only [R.bnd_ok, hzl, if_true, newL]
  simp only [e4, RS.of_ok, R.bnd_ok, RS.andThen_nx]
  simp [e5, e8, e6, e7]
/-- the while -/
theorem sb_while {x y T1 T2 : D} {m q n : Nat} {cs : Nat → Nat} (hn : 1 ≤ n) (hn8 : n ≤ 900) (qm : q ≠ m) (qc : ∀ i, i < n → q ≠ cs i) : ∀ (N : Nat) (L : F2) (h : CH) (d : D) (fs : List (List Nat × Int)), Mx h m cs n L → Skew n L → Zr n L → RisR n L d → h[q]? = some (.lst (fs.map shD)) → fs.length + Qn n L < 500000 → Qn n L ≤ N →
    ∃ h' gs, evS (run tb (k + 3)) (.whl (.cmp .isn (.var 6) (.con .non))
  (.cons (.asg (.nm 7) (.bin .add false (.var 6) (.slc false (.var 6) .none (.some (.con (.int 1))))))
  (.cons (.asg (.nm 8) (.bi .min false (.cons (.comp false [("one", 13), ("after", 14)] (.tp [13, 14]) (.e (.call true 21 (.cons (.var 7) .nil))) .none (.ix (.ix (.var 4) (.var 13)) (.var 14))) .nil)))
  (.cons (.expr (.call false 16 (.cons (.var 4) (.cons (.var 7) (.cons (.neg (.var 8)) .nil)))))
  (.cons (.expr (.mth (.var 5) .append (.cons (.tup (.cons (.bi .tuple false (.cons (.var 6) .nil)) (.cons (.var 8) .nil))) .nil)))
  (.cons (.asg (.nm 6) (.call false 20 (.cons (.var 4) .nil)))
  .nil))))) [7, 8]) (sbEnv x y T1 T2 m q d) h = .nx (sbEnv x y T1 T2 m q .non) h' ∧ h'[q]? = some (.lst ((fs ++ gs).map shD)) ∧ Ch n L gs ∧ gs.length ≤ Qn n L ∧ KeepB q n cs h h' := by
  intro N
  induction N with
  | zero =>
    intro L h d fs M sk zr R hq hb hN
    rcases R with ⟨rfl, R⟩ | ⟨c, rfl, C, pos⟩
    · refine ⟨h, [], ?_, by simpa using hq, .nil fun u v hu hv => ?_, Nat.zero_le _, KeepB.refl⟩
      · rw [s_whl, whlD_eq]
        simp [sbEnv]
      · have := R u v hu hv
        have := R v u hv hu
        have := sk u v hu hv
        omega
    · have := (least C pos).less sk
      omega
  | succ N ih =>
    intro L h d fs M sk zr R hq hb hN
    rcases R with ⟨rfl, R⟩ | ⟨c, rfl, C, pos⟩
    · refine ⟨h, [], ?_, by simpa using hq, .nil fun u v hu hv => ?_, Nat.zero_le _, KeepB.refl⟩
      · rw [s_whl, whlD_eq]
        simp [sbEnv]
      · have := R u v hu hv
        have := R v u hv hu
        have := sk u v hu hv
        omega
    · obtain ⟨d', h', a, e1, S, M', R', hq', KB'⟩ := sb_turn (k := k) (x := x) (y := y) (T1 := T1) (T2 := T2) M hn hn8 sk zr C pos hq qm qc (by omega)
      have less := S.less sk
      obtain ⟨h'', gs, e2, hq2, ch, hl, KB2⟩ := ih _ h' d' (fs ++ [(c, a)]) M' (shift_skew sk _ _) (zr.step C _) R' hq' (by simp; omega) (by omega)
      refine ⟨h'', (c, a) :: gs, ?_, by rw [hq2]; simp, .cons S ch, by simp; omega, KB'.trans KB2⟩
      rw [s_whl] at e2 ⊢
      rw [whlD_eq]
      have e9 : asBl (evE (run tb (k + 3)) (.cmp .isn (.var 6) (.con .non)) (sbEnv x y T1 T2 m q (.lst (iN c))) h) = .ok true h := by
        have e3 : cmpD .isn (.lst (iN c)) .non h = .ok (.bl true) h := rfl
        simp [sbEnv, e3]
      rw [e9]
      simp only [RS.of_ok]
      rw [e1]
      simp only [RS.andThen_nx]
      exact e2
end ZK72

namespace ZK72
open Z
variable {h : CH} {k : Nat}
/-- check_table of anything that shows a table -/
theorem c_checkS {y : D} {a b : Bool} {n : Nat} {s : F2} (Y : snap h y = some (tabD a b n s)) (hn : 1 ≤ n) (hn8 : n ≤ 1000) (sk : Skew n s) : callM true (run tb (k + 2)) 13 [y] h = .ok (tT2 (mat n s)) h :=
  call_snap (snaps_one Y) (r_check hn hn8 sk) (nc_tT2 _) (so_tT2 _)
theorem Qn_le (n : Nat) (L : F2) : 2 * Qn n L ≤ n * (n - 1) := by
  rw [← prs_len n]
  have : Qn n L ≤ (prs n).length := List.countP_le_length
  omega
theorem any_iff {n : Nat} {L : F2} : (((List.range n).map fun i => !decide ((rowF n L i).sum = 0)).any id = true) ↔ ¬ Zr n L := by
  rw [List.any_map]
  simp only [List.any_eq_true, List.mem_range, Function.comp, id, Bool.not_eq_true', decide_eq_false_iff_not]
  constructor
  · rintro ⟨x, hx, q⟩ z
    exact q (z x hx)
  · intro q
    apply Classical.byContradiction
    intro no
    exact q fun x hx => Classical.byContradiction fun z => no ⟨x, hx, z⟩
theorem kill_len' {l : List Nat} : (kill l h).length = h.length := by unfold kill; simp
theorem kill_get' {l : List Nat} {y : Nat} (e : ¬ y ∈ l) : (kill l h)[y]? = h[y]? := by
  unfold kill
  rw [List.getElem?_mapIdx]
  have : l.contains y = false := by simpa using e
  cases h[y]? with
  | none => rfl
  | some c => simp [e]
theorem snapF_nat (k : Nat) (c : List Nat) : (iN c).mapM (snapF h (k + 1)) = some (iN c) := mapM_map (F := snapF h (k + 1)) (g := fun x : Nat => D.int x) (G := fun x : Nat => D.int x) c fun x _ => rfl
theorem snap_sh {q : Nat} {gs : List (List Nat × Int)} (e : h[q]? = some (.lst (gs.map shD))) : snapF h 6 (.cell q) = some (.lst (gs.map shD)) := by
  show (match h[q]? with
    | some (.lst ds) => (ds.mapM (snapF h 5)).map D.lst
    | _ => none) = _
  rw [e]
  simp only
  rw [mapM_map (F := snapF h 5) (g := shD) (G := shD) gs fun p _ => by
    show (([D.tup (iN p.1), D.int p.2]).mapM (snapF h 4)).map D.tup = _
    have : snapF h 4 (.tup (iN p.1)) = some (.tup (iN p.1)) := by
      show ((iN p.1).mapM (snapF h 3)).map D.tup = _
      rw [snapF_nat]; rfl
    rw [List.mapM_cons, this]
    rfl]
  rfl
theorem cells_sh {q : Nat} {gs : List (List Nat × Int)} (e : h[q]? = some (.lst (gs.map shD))) : cellsF h 6 (.cell q) = [q] := by
  show q :: (match h[q]? with
    | some (.lst ds) => ds.flatMap (cellsF h 5)
    | _ => []) = _
  rw [e]
  simp only
  have : (gs.map shD).flatMap (cellsF h 5) = [] := by
    rw [List.flatMap_eq_nil_iff]
    intro d hd
    obtain ⟨p, _, rfl⟩ := List.mem_map.1 hd
    show [D.tup (iN p.1), D.int p.2].flatMap (cellsF h 4) = []
    have : cellsF h 4 (.tup (iN p.1)) = [] := by
      show (iN p.1).flatMap (cellsF h 3) = []
      rw [List.flatMap_eq_nil_iff]
      intro d hd
      obtain ⟨x, _, rfl⟩ := List.mem_map.1 hd
      rfl
    simp only [List.flatMap_cons, List.flatMap_nil, this]
    rfl
  rw [this]
theorem r_between {x y : D} {a b a' b' : Bool} {n : Nat} {f s : F2} (X : snap h x = some (tabD a b n f)) (Y : snap h y = some (tabD a' b' n s)) (hn : 1 ≤ n) (hn8 : n ≤ 900) (skf : Skew n f) (sks : Skew n s) :
    ∃ d h', run tb (k + 4) 11 [x, y] h = .ok d h' ∧ Keep h h' ∧ ((Zr n (dif s f) ∧ ∃ fs : List (List Nat × Int), d = .lst (fs.map shD) ∧ Ch n (dif s f) fs ∧ 2 * fs.length ≤ n * (n - 1)) ∨ (¬ Zr n (dif s f) ∧ d = .non)) := by
  rw [run_eq (fd := ⟨"shifts_between", 2, 15, b_shifts_between⟩) rfl rfl]
  have hz : n ≤ SZ := SZ_of (by omega)
  have skd : Skew n (dif s f) := fun i j hi hj => by unfold dif; rw [skf i j hi hj, sks i j hi hj]; omega
  simp [b_shifts_between, envOf, c_checkS X hn (by omega : n ≤ 1000) skf, c_checkS Y hn (by omega : n ≤ 1000) sks]
  rw [← tab_tt, ← tab_tt]
  simp [e_comp, it_enum (items_tab (h := h) true true n s) (W_ns _ _), enum_rng]
  rw [comp_cells (G := fun i => .lst (iL (rowF n (dif s f) i))) (fun _ => rfl)]
  rotate_left
  · intro i l hi hl
    have e1 : iL (rowF n s i) = (List.range n).map fun j => D.int (s i j) := by simp [iL, rowF]
    have e2 : iL (rowF n (dif s f) i) = (List.range n).map fun j => D.int (s i j - f i j) := by simp [iL, rowF, dif]
    simp [e_comp, e1, it_enum (items_W (h := h ++ l) true ((List.range n).map fun j => D.int (s i j))) (W_ns _ _), enum_rng]
    rw [comp_rng rfl (fun j => .int (s i j - f i j))]
    rotate_left
    · intro j hj
      have e3 : ixV (tabD true true n f) (.int (i : Nat)) (h ++ l) = .ok (W true (iL (rowF n f i))) (h ++ l) := tab_row hi
      have e4 : ixV (W true (iL (rowF n f i))) (.int (j : Nat)) (h ++ l) = .ok (.int (f i j)) (h ++ l) := row_at hj
      simp [e3, e4]
    rw [e2]
    simp [hz]
  have M := Mx.new h n (dif s f)
  generalize hH : h ++ (List.range n).map (fun i => Cell.lst (iL (rowF n (dif s f) i))) ++ [.lst ((List.range n).map fun i => .cell (h.length + i))] = H at *
  have hH2 := hH
  simp at hH2
  have K1 : Keep h H := by rw [← hH, List.append_assoc]; exact Keep.app _
  have hHl : H.length = h.length + n + 1 := by rw [← hH]; simp; omega
  simp [hz, hH2]
  have i0 : items H (.cell (h.length + n)) = some ((List.range n).map fun i => .cell (h.length + i)) := by simp only [items, M.top]
  rw [itR_of i0]
  simp only [R.bnd_ok, ckOf]
  rw [comp_rng (ck_cell M.top) (fun i => .bl (!decide ((rowF n (dif s f) i).sum = 0)))]
  rotate_left
  · intro i hi
    have e1 : items H (.cell (h.length + i)) = some (iL (rowF n (dif s f) i)) := by simp only [items, M.row i hi]
    simp [sum_ok (m := false) e1]
  have e2 : biD .any false [.lst ((List.range n).map fun i => .bl (!decide ((rowF n (dif s f) i).sum = 0)))] H = .ok (.bl (((List.range n).map fun i => !decide ((rowF n (dif s f) i).sum = 0)).any id)) H :=
    any_ok (by simp only [lstOf, List.map_map]; rfl)
  simp only [R.bnd_ok, List.length_map, List.length_range, hz, if_true, e2, asBl_ok, RS.of_ok]
  by_cases zr : Zr n (dif s f)
  · have e3 : ((List.range n).map fun i => !decide ((rowF n (dif s f) i).sum = 0)).any id = false := by
      cases q : ((List.range n).map fun i => !decide ((rowF n (dif s f) i).sum = 0)).any id with
      | false => rfl
      | true => exact absurd zr (any_iff.1 q)
    rw [e3]
    have M2 : Mx (H ++ [.lst []]) (h.length + n) (fun i => h.length + i) n (dif s f) := mx_app M
    obtain ⟨d0, H2, e4, R0, K2⟩ := c_rising (k := k + 2) M2 hn hn8 skd zr
    have q2 : H2[H.length]? = some (.lst (([] : List (List Nat × Int)).map shD)) := K2.at_ (by simp)
    have hQ := Qn_le n (dif s f)
    have hnn : n * (n - 1) ≤ 900 * 900 := Nat.mul_le_mul hn8 (by omega)
    obtain ⟨H3, gs, e5, q3, ch, hl, KB⟩ := sb_while (k := k) (x := x) (y := y) (T1 := tabD true true n f) (T2 := tabD true true n s) (m := h.length + n) (q := H.length) (cs := fun i => h.length + i) hn hn8 (by omega) (fun i hi => by omega) (Qn n (dif s f)) (dif s f) H2 d0 [] (K2.mx M2) skd zr R0 q2 (by simp; omega) (Nat.le_refl _)
    have q4 : H3[H.length]? = some (.lst (gs.map shD)) := by simpa using q3
    have K3 : Keep h H3 := by
      have KK := K1.trans ((Keep.app [.lst []]).trans K2)
      have ll : h.length ≤ H2.length := KK.len
      exact ⟨Nat.le_trans ll KB.len, fun y hy => (KB.get y (by omega) (by omega) (fun i hi => by omega)).trans (KK.get y hy)⟩
    have e6 : frzD H3 (.cell H.length) = some (.lst (gs.map shD), kill (cellsF H3 6 (.cell H.length)) H3) := by
      unfold frzD
      rw [if_neg (by simp [D.nc]), snap_sh q4]
      rfl
    simp [e4]
    simp [sbEnv] at e5
    rw [e5]
    simp only [RS.andThen_nx]
    rw [s_frz (d := .cell H.length) rfl e6]
    refine ⟨.lst (gs.map shD), kill (cellsF H3 6 (.cell H.length)) H3, by simp, ?_, .inl ⟨zr, gs, rfl, ch, by omega⟩⟩
    refine ⟨by rw [kill_len']; exact K3.len, fun y hy => ?_⟩
    rw [cells_sh q4, kill_get' (by simp; omega)]
    exact K3.get y hy
  · have e3 : ((List.range n).map fun i => !decide ((rowF n (dif s f) i).sum = 0)).any id = true := any_iff.2 zr
    rw [e3]
    exact ⟨.non, H, by simp, K1, .inr ⟨zr, rfl⟩⟩

/-- what shifts_between hands back -/
def BetR (n : Nat) (L : F2) (d : D) : Prop := (Zr n L ∧ ∃ fs : List (List Nat × Int), d = .lst (fs.map shD) ∧ Ch n L fs ∧ 2 * fs.length ≤ n * (n - 1)) ∨ (¬ Zr n L ∧ d = .non)
theorem c_between {x y : D} {a b a' b' : Bool} {n : Nat} {f s : F2} (X : snap h x = some (tabD a b n f)) (Y : snap h y = some (tabD a' b' n s)) (hn : 1 ≤ n) (hn8 : n ≤ 900) (skf : Skew n f) (sks : Skew n s) :
    ∃ d h', callM false (run tb (k + 4)) 11 [x, y] h = .ok d h' ∧ Keep h h' ∧ BetR n (dif s f) d := by
  obtain ⟨d, h', e, K, R⟩ := r_between (k := k) X Y hn hn8 skf sks
  exact ⟨d, _, call_heap e, trunc_keep K d, R⟩
theorem snap_tab (a b : Bool) (n : Nat) (f : F2) : snap h (tabD a b n f) = some (tabD a b n f) := snap_nc (nc_tab _ _ _ _)
/-! ### after_shifts -/
def shifts (f : F2) (fs : List (List Nat × Int)) : F2 := fs.foldl (fun g p => shift g (lks (way p.1)) p.2) f
theorem shifts_snoc (f : F2) (fs : List (List Nat × Int)) (p : List Nat × Int) : shifts f (fs ++ [p]) = shift (shifts f fs) (lks (way p.1)) p.2 := by simp [shifts]
theorem shifts_skew {n : Nat} : ∀ (fs : List (List Nat × Int)) {f : F2}, Skew n f → Skew n (shifts f fs)
  | [], f, sk => sk
  | p :: r, f, sk => shifts_skew r (shift_skew sk _ _)
theorem nc_shD (p : List Nat × Int) : (shD p).nc = true := by
  show (ncs (iN p.1) && (ncs [D.int p.2])) = true
  rw [nc_iN]; rfl
theorem r_after {a b : Bool} {n : Nat} {f : F2} {fs : List (List Nat × Int)} (hn : 1 ≤ n) (hn8 : n ≤ 1000) (sk : Skew n f) (hc : ∀ p ∈ fs, Cyc n p.1) : run tb (k + 5) 10 [tabD a b n f, .lst (fs.map shD)] h = .ok (tT2 (mat n (shifts f fs))) h := by
  rw [run_eq (fd := ⟨"after_shifts", 2, 6, b_after_shifts⟩) rfl rfl]
  have e1 : callM true (run tb (k + 4)) 19 [.lst (fs.map shD)] h = .ok (.bl true) h := c_is_row (k := k + 3) false (ncs_map fs nc_shD)
  have e2 : itR (.lst (fs.map shD)) h = .ok (fs.map shD, none) h := rfl
  simp [b_after_shifts, envOf, c_check (k := k + 2) hn hn8 sk, e1, s_fr, e2]
  refine forGo_list (C := fun r => fin (RS.andThen r _) = R.ok (tT2 (mat n (shifts f fs))) h) (fun i env h' => h' = h ∧ env = [some (tabD a b n f), some (.lst (fs.map shD)), some (tT2 (mat n f)), none, none, none]) ?_ ?_ ?_ ?_
  · exact ⟨rfl, rfl⟩
  · exact fun _ _ _ _ _ => rfl
  · rintro i p env h' hp ⟨rfl, rfl⟩
    have e3 : callM true (run tb (k + 4)) 19 [.tup [.tup (iN p.1), .int p.2]] h' = .ok (.bl true) h' := c_is_row (k := k + 3) true (ds := [.tup (iN p.1), .int p.2]) (by have := nc_shD p; exact this)
    have e4 : biD .len false [.tup [.tup (iN p.1), .int p.2]] h' = .ok (.int 2) h' := rfl
    simp [e3, e4]
  · rintro env h' ⟨rfl, rfl⟩
    simp [e2]
    refine forGo_list (C := fun r => fin (RS.andThen r _) = R.ok (tT2 (mat n (shifts f fs))) h') (fun i env hh => hh = h' ∧ env = [some (tabD a b n f), some (.lst (fs.map shD)), some (tT2 (mat n (shifts f (fs.take i)))), none, none, none]) ?_ ?_ ?_ ?_
    · exact ⟨rfl, rfl⟩
    · exact fun _ _ _ _ _ => rfl
    · rintro i ⟨c, t⟩ env hh hp ⟨rfl, rfl⟩
      have C := hc _ (List.mem_of_getElem? hp)
      have e5 : callM true (run tb (k + 4)) 6 [tT2 (mat n (shifts f (fs.take i))), .tup (iN c), .int t] hh = .ok (tT2 (mat n (shift (shifts f (fs.take i)) (lks (way c)) t))) hh := by
        rw [← tab_tt]
        exact c_shifted_by (b' := true) hn hn8 (shifts_skew _ sk) C t
      simp [e5]
      rw [take_snoc hp, shifts_snoc]
    · rintro env hh ⟨rfl, rfl⟩
      simp
end ZK72

namespace ZK72
open Z
variable {h : CH} {k : Nat}
theorem r_one_shift {n : Nat} {c : List Nat} {a : Int} (C : Cyc n c) (ha : 1 ≤ a) : run tb (k + 2) 22 [shD (c, a), .int n] h = .ok (.bl true) h := by
  rw [run_eq (fd := ⟨"_law_one_shift", 2, 4, b_law_one_shift⟩) rfl rfl]
  have h1 := C.len
  have h3 := C.three
  have i1 : isiR h (.tup [.tup (iN c), .int a]) [.tuple] = .ok (.bl true) h := rfl
  have i2 : isiR h (.tup (iN c)) [.tuple] = .ok (.bl true) h := rfl
  have x0 : ixV (.tup [.tup (iN c), .int a]) (.int 0) h = .ok (.tup (iN c)) h := rfl
  have x1 : ixV (.tup [.tup (iN c), .int a]) (.int 1) h = .ok (.int a) h := rfl
  have l1 : biD .len false [.tup [.tup (iN c), .int a]] h = .ok (.int 2) h := rfl
  have l2 : biD .len false [.tup (iN c)] h = .ok (.int (c.length : Nat)) h := by rw [len_ok (ds := iN c) rfl]; simp
  have c3 : ¬ ((c.length : Int) < 3) := by omega
  have a3 : ¬ (a < 1) := by omega
  simp [b_law_one_shift, envOf, i1, i2, x0, x1, l1, l2, c3, a3, s_fr, it_rng1 (show c.length < 1000000 by omega)]
  rw [forGo_same rfl]
  rotate_left
  · intro i hi
    obtain ⟨x, hx⟩ : ∃ x, c[i]? = some x := ⟨_, List.getElem?_eq_getElem hi⟩
    have hlt := C.lt x (List.mem_of_getElem? hx)
    have g1 : (iN c)[i]? = some (.int (x : Nat)) := by unfold iN; rw [List.getElem?_map, hx]; rfl
    have E1 : ixV (.tup (iN c)) (.int (i : Nat)) h = .ok (.int (x : Nat)) h := ix_ok (ds := iN c) rfl g1
    have n1 : ¬ ((n : Int) ≤ (x : Nat)) := by omega
    have n2 : ¬ (((x : Nat) : Int) < 0) := by omega
    have E2 : slcD false (.tup (iN c)) none (some (i : Nat)) h = .ok (.tup ((iN c).take i)) h := by
      simp only [slcD, slice_to]
    have E3 : cmpD .inn (.int (x : Nat)) (.tup ((iN c).take i)) h = .ok (.bl (decide (x ∈ c.take i))) h := inn_iN (by simp [items, iN])
    rw [decide_eq_false (nodup_take C.nd hx)] at E3
    simp [x0, E1, n1, n2, E2, E3]
  simp
theorem c_one_shift {n : Nat} {c : List Nat} {a : Int} (C : Cyc n c) (ha : 1 ≤ a) : callM true (run tb (k + 2)) 22 [shD (c, a), .int n] h = .ok (.bl true) h :=
  call_nc (by have := nc_shD (c, a); simp only [ncs, this]; rfl) (r_one_shift C ha) rfl
theorem tab_congr {a b : Bool} {n : Nat} {f g : F2} (e : ∀ x y, x < n → y < n → f x y = g x y) : tabD a b n f = tabD a b n g := by
  unfold tabD
  congr 1
  apply List.map_congr_left
  intro i hi
  have hi := List.mem_range.1 hi
  congr 1
  unfold iL rowF
  rw [List.map_map, List.map_map]
  apply List.map_congr_left
  intro j hj
  have hj := List.mem_range.1 hj
  simp only [Function.comp]
  rw [e i j hi hj]
theorem r_way_right {n : Nat} {f s : F2} {fs : List (List Nat × Int)} (hn : 1 ≤ n) (hn8 : n ≤ 900) (ch : Ch n (dif s f) fs) (hl : 2 * fs.length ≤ n * (n - 1)) : run tb (k + 3) 12 [.lst (fs.map shD), tabD false false n f, tabD false false n s] h = .ok (.bl true) h := by
  rw [run_eq (fd := ⟨"_law_way_right", 3, 11, b_law_way_right⟩) rfl rfl]
  have hnn : n * (n - 1) ≤ 900 * 900 := Nat.mul_le_mul hn8 (by omega)
  have i1 : isiR h (.lst (fs.map shD)) [.list] = .ok (.bl true) h := rfl
  have l1 : biD .len false [.lst (fs.map shD)] h = .ok (.int (fs.length : Nat)) h := by rw [len_ok (ds := fs.map shD) rfl]; simp
  have m1 : binD .mul false (.int 2) (.int (fs.length : Nat)) h = .ok (.int (2 * (fs.length : Nat))) h := mul_ok (mulOk_l (by omega) (by omega))
  have m2 : binD .mul false (.int (n : Nat)) (.int ((n : Int) - 1)) h = .ok (.int ((n : Int) * ((n : Int) - 1))) h := mul_ok (mulOk_l (by omega) (by omega))
  have e0 : (n : Int) * ((n : Int) - 1) = ((n * (n - 1) : Nat) : Int) := by
    have : ((n - 1 : Nat) : Int) = (n : Int) - 1 := by omega
    rw [Int.natCast_mul, this]
  have c0 : ¬ ((n : Int) * ((n : Int) - 1) < 2 * (fs.length : Nat)) := by rw [e0]; omega
  have hz : n ≤ SZ := SZ_of (by omega)
  simp [b_law_way_right, envOf, i1, l1, m1, m2, c0, e_comp, s_fr, it_rng1 (show n < 1000000 by omega)]
  rw [comp_rng rfl (fun i => W false (iL (rowF n f i)))]
  rotate_left
  · intro i hi
    simp [list_ok (items_W _ _)]
    rfl
  simp [hz, it_rng1 (show n < 1000000 by omega)]
  rw [show D.lst ((List.range n).map fun i => W false (iL (rowF n f i))) = tabD false false n f from rfl]
  refine forGo_rng (C := fun r => fin (RS.andThen r _) = R.ok (.bl true) h) (fun i env h' => h' = h ∧ ∃ e : Bool, env = [some (.lst (fs.map shD)), some (tabD false false n f), some (tabD false false n s), some (.int n), some (tabD false false n f), some (.bl e), none, none, none, none, none] ∧ (e = true → ∀ x, x < i → ∀ y, y < n → dif s f x y % 2 = 0)) ?_ ?_ ?_ ?_
  · exact ⟨rfl, true, rfl, fun _ x hx => by omega⟩
  · exact fun _ _ _ _ _ => rfl
  · rintro i env h' hi ⟨rfl, e, rfl, he⟩
    simp [s_fr, it_rng1 (show n < 1000000 by omega)]
    refine forGo_rng (C := fun r => nT (RS.andThen r _) _) (fun j env hh => hh = h' ∧ ∃ e : Bool, env = [some (.lst (fs.map shD)), some (tabD false false n f), some (tabD false false n s), some (.int n), some (tabD false false n f), some (.bl e), some (.int i), none, none, none, none] ∧ (e = true → (∀ x, x < i → ∀ y, y < n → dif s f x y % 2 = 0) ∧ ∀ y, y < j → dif s f i y % 2 = 0)) ?_ ?_ ?_ ?_
    · exact ⟨rfl, e, rfl, fun z => ⟨he z, fun y hy => by omega⟩⟩
    · exact fun _ _ _ _ _ => rfl
    · rintro j env hh hj ⟨rfl, e2, rfl, he2⟩
      have E3 := mod_ok (m := false) (i := s i j - f i j) (j := 2) (h := hh) (by decide)
      by_cases od : (s i j - f i j) % 2 = 1
      · simp [tab_row hi, row_at hj, E3, od]
      · simp [tab_row hi, row_at hj, E3, od]
        cases e2 with
        | false => exact .inl rfl
        | true =>
        obtain ⟨p, q⟩ := he2 rfl
        refine .inr ⟨rfl, p, fun y hy => ?_⟩
        by_cases ey : y = j
        · subst ey; show (s i y - f i y) % 2 = 0; omega
        · exact q y (by omega)
    · rintro env hh ⟨rfl, e2, rfl, he2⟩
      simp
      cases e2 with
      | false => exact .inl rfl
      | true =>
      refine .inr ⟨rfl, fun x hx y hy => ?_⟩
      obtain ⟨p, q⟩ := he2 rfl
      by_cases ex : x = i
      · subst ex; exact q y hy
      · exact p x (by omega) y hy
  · rintro env h' ⟨rfl, e, rfl, he⟩
    have e2 : itR (.lst (fs.map shD)) h' = .ok (fs.map shD, none) h' := rfl
    simp [e2]
    refine forGo_list (C := fun r => fin (RS.andThen r _) = R.ok (.bl true) h') (fun i env hh => hh = h' ∧ ∃ g : F2, env = [some (.lst (fs.map shD)), some (tabD false false n f), some (tabD false false n s), some (.int n), some (tabD false false n g), some (.bl e), none, none, none, none, none] ∧ Ch n (dif s g) (fs.drop i) ∧ (e = true → ∀ x y, x < n → y < n → dif s g x y % 2 = 0)) ?_ ?_ ?_ ?_
    · exact ⟨rfl, f, rfl, ch, fun z x y hx hy => he z x hx y hy⟩
    · exact fun _ _ _ _ _ => rfl
    · rintro i ⟨c, a⟩ env hh hp ⟨rfl, g, rfl, chg, ev⟩
      have hi : i < fs.length := lt_get hp
      have hd : fs.drop i = (c, a) :: fs.drop (i + 1) := by
        rw [List.drop_eq_getElem_cons hi]
        obtain ⟨_, q⟩ := List.getElem?_eq_some_iff.1 hp
        rw [q]
      rw [hd] at chg
      cases chg with
      | cons S chr =>
        rw [← dif_shift] at chr
        have C := S.cyc
        have h1 := C.len
        have h3 := C.three
        have O := c_one_shift (k := k) (h := hh) C S.pos
        have x0 : ixV (.tup [.tup (iN c), .int a]) (.int 0) hh = .ok (.tup (iN c)) hh := rfl
        have x1 : ixV (.tup [.tup (iN c), .int a]) (.int 1) hh = .ok (.int a) hh := rfl
        have l2 : biD .len false [.tup (iN c)] hh = .ok (.int (c.length : Nat)) hh := by rw [len_ok (ds := iN c) rfl]; simp
        have E3 := mod_ok (m := false) (i := a) (j := 2) (h := hh) (by decide)
        have LS : callM true (run tb (k + 2)) 23 [tabD false false n g, .tup (iN c), .int a] hh = .ok (tabD false false n (shift g (lks (way c)) a)) hh := c_law_shifted (k := k + 1) (b' := true) (by omega) C a
        have boe : boF true e hh (.ok (.bl (decide (a % 2 = 1))) hh) = .ok (.bl false) hh := by
          cases e with
          | false => rfl
          | true =>
            have := (S.even (ev rfl)).1
            rw [decide_eq_false (by omega)]
            rfl
        simp [O, x0, x1, E3, boe, s_fr, l2, it_rng1 (show c.length < 1000000 by omega)]
        rw [forGo_same rfl]
        rotate_left
        · intro t ht
          have hx := pair_at ht
          have hmem := List.mem_of_getElem? hx
          obtain ⟨hp, hq⟩ := C.links _ hmem
          have hi2 : (t + 1) % c.length < c.length := Nat.mod_lt _ (by omega)
          have g1 : (iN c)[t]? = some (.int (c[t]?.getD 0 : Nat)) := by rw [iN_get ht]; simp [ht]
          have g2 : (iN c)[(t + 1) % c.length]? = some (.int (c[(t + 1) % c.length]?.getD 0 : Nat)) := by rw [iN_get hi2]; simp [hi2]
          have g3 : ((t : Int) + 1) % (c.length : Int) = (((t + 1) % c.length : Nat) : Int) := by rw [Int.natCast_emod]; simp
          have le := S.le _ hmem
          generalize c[t]?.getD 0 = u at *
          generalize c[(t + 1) % c.length]?.getD 0 = v at *
          have F1 := ix_ok (h := hh) (x := .tup (iN c)) (ds := iN c) rfl g1
          have F2 := mod_ok (m := false) (i := (t : Int) + 1) (j := (c.length : Int)) (h := hh) (by omega)
          have F3 : ixV (.tup (iN c)) (.int (((t : Int) + 1) % (c.length : Int))) hh = .ok (.int v) hh := by rw [g3]; exact ix_ok (ds := iN c) rfl g2
          have nle : ¬ (s u v < g u v + a) := by
            simp only [dif] at le
            omega
          simp only at hp hq
          simp [x0, x1, l2, F1, F2, F3, tab_row hp, row_at hq, nle]
        simp [x0, x1, LS]
        exact ⟨_, rfl, chr, fun z => (fun x y hx hy => by
          rw [dif_shift]
          exact (S.even (ev z)).2 x y hx hy)⟩
    · rintro env hh ⟨rfl, g, rfl, chg, ev⟩
      rw [List.drop_length] at chg
      cases chg with
      | nil z =>
        have : tabD false false n g = tabD false false n s := tab_congr fun x y hx hy => by
          have := z x y hx hy
          unfold dif at this
          omega
        rw [this]
        have e3 : cmpD .eq (tabD false false n s) (tabD false false n s) hh = .ok (.bl true) hh := by
          rw [eq_pl (snap_tab _ _ _ _) (snap_tab _ _ _ _) (by rw [tab_ff]; exact pl_lL2 _) (by rw [tab_ff]; exact pl_lL2 _), beq_refl']
        simp [e3]
end ZK72

namespace ZK72
open Z
variable {h : CH} {k : Nat}
/-- ints in a cell -/
def Drw (q : Nat) (h : CH) : Prop := ∃ l : List Int, l.length < 900000 ∧ h[q]? = some (.lst (iL l))
/-- that cell alone changes -/
structure Dr (q : Nat) (h h' : CH) : Prop where
  len : h'.length = h.length
  drw : Drw q h'
  oth : ∀ y, y ≠ q → h'[y]? = h[y]?
theorem Dr.trans {q : Nat} {h1 h2 : CH} (a : Dr q h h1) (b : Dr q h1 h2) : Dr q h h2 := ⟨b.len.trans a.len, b.drw, fun y hy => (b.oth y hy).trans (a.oth y hy)⟩
theorem Dr.refl {q : Nat} (d : Drw q h) : Dr q h h := ⟨rfl, d, fun _ _ => rfl⟩
theorem r_take {q : Nat} (d : Drw q h) {m : Int} (hm : 0 < m) : ∃ r h', run tb (k + 1) 2 [.cell q, .int m] h = .ok (.int r) h' ∧ 0 ≤ r ∧ r < m ∧ Dr q h h' := by
  rw [run_eq (fd := ⟨"_law_take", 2, 2, b_law_take⟩) rfl rfl]
  obtain ⟨l, hb, e⟩ := d
  have i0 : items h (.cell q) = some (iL l) := by simp only [items, e]
  have l0 : biD .len false [.cell q] h = .ok (.int (l.length : Nat)) h := by rw [len_ok i0]; simp
  by_cases hl : l = []
  · subst hl
    refine ⟨0, h, ?_, Int.le_refl _, hm, Dr.refl ⟨_, hb, e⟩⟩
    simp at l0
    simp [b_law_take, envOf, l0]
  · obtain ⟨l1, v, rfl⟩ : ∃ l1 v, l = l1 ++ [v] := ⟨l.dropLast, l.getLast hl, (List.dropLast_concat_getLast hl).symm⟩
    have n0 : ¬ ((l1.length : Int) + 1 = 0) := by omega
    have p0 : mthR (.cell q) .pop [] h h = .ok (.int v) (h.set q (.lst (iL l1))) := by
      simp only [mthR, mthD, onCell, lstOf, e, Option.isSome_some, if_true]
      simp
    have M := mod_ok (m := false) (i := v) (j := m) (h := h.set q (.lst (iL l1))) hm
    simp at l0
    refine ⟨v % m, h.set q (.lst (iL l1)), ?_, Int.emod_nonneg _ (by omega), Int.emod_lt_of_pos _ hm, by simp, ⟨l1, by simp at hb; omega, List.getElem?_set_self (lt_get e)⟩, fun y hy => List.getElem?_set_ne (fun z => hy z.symm)⟩
    simp [b_law_take, envOf, l0, n0, p0, M]
theorem c_take {q : Nat} (d : Drw q h) {m : Int} (hm : 0 < m) : ∃ r h', callM false (run tb (k + 1)) 2 [.cell q, .int m] h = .ok (.int r) h' ∧ 0 ≤ r ∧ r < m ∧ Dr q h h' := by
  obtain ⟨r, h', e, a, b, c⟩ := r_take (k := k) d hm
  exact ⟨r, h', by rw [call_heap e, trunc_same (by rw [c.len]; exact Nat.le_refl _)], a, b, c⟩
theorem r_wide {q : Nat} (d : Drw q h) {m : Int} (hm : 0 ≤ m) : ∃ r h', run tb (k + 2) 5 [.cell q, .int m] h = .ok (.int r) h' ∧ 0 ≤ r ∧ r ≤ m ∧ Dr q h h' := by
  rw [run_eq (fd := ⟨"_law_wide", 2, 4, b_law_wide⟩) rfl rfl]
  have R0 : itD .rng1 [.int 4] h = .ok ((List.range 4).map (fun i : Nat => D.int i), none) h := it_rng1 (n := 4) (by omega)
  simp [b_law_wide, envOf, s_fr, R0]
  refine forGo_rng (C := fun r => ∃ v h', fin (RS.andThen r _) = R.ok (.int v) h' ∧ 0 ≤ v ∧ v ≤ m ∧ Dr q h h') (fun i env hh => ∃ t : Int, env = [some (.cell q), some (.int m), some (.int t), none] ∧ Dr q h hh) ?_ ?_ ?_ ?_
  · exact ⟨0, rfl, Dr.refl d⟩
  · exact fun _ _ _ _ _ => rfl
  · rintro i env hh hi ⟨t, rfl, D1⟩
    obtain ⟨r, h', e, _, _, D2⟩ := c_take (k := k) D1.drw (m := 24) (by decide)
    have m1 : binD .mul false (.int 24) (.int t) hh = .ok (.int (24 * t)) hh := mul_ok (mulOk_l (by omega) (by omega))
    simp [m1, e]
    exact D1.trans D2
  · rintro env hh ⟨t, rfl, D1⟩
    have M := mod_ok (m := false) (i := t) (j := m + 1) (h := hh) (by omega)
    refine ⟨t % (m + 1), hh, by simp [M], Int.emod_nonneg _ (by omega), ?_, D1⟩
    have := Int.emod_lt_of_pos t (show 0 < m + 1 by omega)
    omega
theorem c_wide {q : Nat} (d : Drw q h) {m : Int} (hm : 0 ≤ m) : ∃ r h', callM false (run tb (k + 2)) 5 [.cell q, .int m] h = .ok (.int r) h' ∧ 0 ≤ r ∧ r ≤ m ∧ Dr q h h' := by
  obtain ⟨r, h', e, a, b, c⟩ := r_wide (k := k) d hm
  exact ⟨r, h', by rw [call_heap e, trunc_same (by rw [c.len]; exact Nat.le_refl _)], a, b, c⟩
theorem app_int {q : Nat} {l : List Int} (e : h[q]? = some (.lst (iL l))) (hl : l.length < 900000) (v : Int) : mthR (.cell q) .append [.int v] h h = .ok .non (h.set q (.lst (iL (l ++ [v])))) := by
  simp only [mthR, mthD, onCell, lstOf, e, one1, Option.isSome_some, if_true]
  rw [if_pos (lt_SZ (by simp; omega))]
  simp
theorem andThen_id (r : RS) : (r.andThen fun e h => .nx e h) = r := by cases r <;> rfl
theorem r_draws (ns : List Int) (hn : ns.length ≤ 63) : ∃ l : List Int, l.length < 900000 ∧ run tb (k + 1) 1 [.scr ns] [] = .ok (.cell 0) [.lst (iL l)] := by
  rw [run_eq (fd := ⟨"_law_draws", 1, 6, b_law_draws_m⟩) rfl rfl]
  have l0 : ∀ h : CH, biD .len false [.scr ns] h = .ok (.int (ns.length : Nat)) h := fun h => by rw [len_ok (ds := ns.map .int) rfl]; simp
  have m0 : ∀ h : CH, biD .min2 false [.int (ns.length : Nat), .int 63] h = .ok (.int (ns.length : Nat)) h := fun h => by
    show (R.ok (D.int (if (63 : Int) < (ns.length : Nat) then 63 else (ns.length : Nat))) h) = _
    rw [if_neg (by omega)]
  have P0 : ∀ h : CH, binD .pow false (.int 10) (.int 18) h = .ok (.int 1000000000000000000) h := fun h => rfl
  simp [b_law_draws_m, envOf, s_fr, l0, m0, it_rng1 (show ns.length < 1000000 by omega)]
  refine forGo_rng (C := fun r => ∃ l : List Int, l.length < 900000 ∧ fin (RS.andThen r _) = R.ok (.cell 0) [.lst (iL l)]) (fun i env hh => env = [some (.scr ns), some (.cell 0), none, none, none, none] ∧ ∃ l : List Int, l.length ≤ 42 * i ∧ hh = [.lst (iL l)]) ?_ ?_ ?_ ?_
  · exact ⟨rfl, [], by simp, rfl⟩
  · exact fun _ _ _ _ _ => rfl
  · rintro i env hh hi ⟨rfl, l, hl, rfl⟩
    obtain ⟨v, hv⟩ : ∃ v, ns[i]? = some v := ⟨_, List.getElem?_eq_getElem hi⟩
    have x0 : ixV (.scr ns) (.int (i : Nat)) [.lst (iL l)] = .ok (.int v) [.lst (iL l)] := ix_ok (ds := ns.map .int) rfl (by rw [List.getElem?_map, hv]; rfl)
    have m2 : ∀ h : CH, binD .mul false (.int 2) (.int v) h = .ok (.int (2 * v)) h := fun h => mul_ok (mulOk_l (by omega) (by omega))
    -- whatever the cell is
    have go : ∀ w : Int, nT ((evS (run tb k) (.ife (.cmp .ge (.var 3) (.bin .pow false (.con (.int 10)) (.con (.int 18))))
  (.cons (.fr (.nm 4) (.f .rng1 (.cons (.con (.int 42)) .nil))
  (.cons (.ife (.cmp .gt (.var 3) (.con (.int 0)))
  (.cons (.expr (.mth (.var 1) .append (.cons (.bin .mod false (.bi .int false (.cons (.var 3) .nil)) (.con (.int 24))) .nil)))
  (.cons (.asg (.nm 3) (.bin .fdiv false (.var 3) (.con (.int 24))))
  .nil))
  .nil)
  .nil) [4])
  .nil)
  (.cons (.asg (.nm 5) (.bin .mod false (.bi .int false (.cons (.bin .add false (.bin .add false (.bin .mul false (.var 3) (.con (.int 50331653))) (.bin .mul false (.var 2) (.con (.int 12582917)))) (.con (.int 29))) .nil)) (.con (.int 2147483629))))
  (.cons (.fr (.nm 4) (.f .rng1 (.cons (.con (.int 7)) .nil))
  (.cons (.asg (.nm 5) (.bin .mod false (.bi .int false (.cons (.bin .add false (.bin .add false (.bin .add false (.bin .mul false (.var 5) (.var 5)) (.bin .mul false (.var 4) (.con (.int 6151)))) (.bin .mul false (.var 2) (.con (.int 97)))) (.con (.int 7))) .nil)) (.con (.int 2147483587))))
  (.cons (.expr (.mth (.var 1) .append (.cons (.var 5) .nil)))
  .nil)) [4])
  .nil))) [some (.scr ns), some (.cell 0), some (.int i), some (.int w), none, none] [.lst (iL l)])) fun env2 h2 => wipeE env2 [2, 3, 4, 5] = [some (.scr ns), some (.cell 0), none, none, none, none] ∧ ∃ l : List Int, l.length ≤ 42 * (i + 1) ∧ h2 = [.lst (iL l)] := by
      intro w
      by_cases big : (1000000000000000000 : Int) ≤ w
      · have R0 : ∀ h : CH, itD .rng1 [.int 42] h = .ok ((List.range 42).map (fun i : Nat => D.int i), none) h := fun h => it_rng1 (n := 42) (by omega)
        simp [P0, big, s_fr, R0]
        refine forGo_rng (C := fun r => nT (RS.andThen r _) _) (fun t env hh => ∃ (u : Int) (l : List Int), env = [some (.scr ns), some (.cell 0), some (.int i), some (.int u), none, none] ∧ l.length ≤ 42 * i + t ∧ hh = [.lst (iL l)]) ?_ ?_ ?_ ?_
        · exact ⟨w, l, rfl, hl, rfl⟩
        · exact fun _ _ _ _ _ => rfl
        · rintro t env hh ht ⟨u, l, rfl, hl, rfl⟩
          by_cases up : 0 < u
          · have A := app_int (h := [.lst (iL l)]) (q := 0) (l := l) rfl (by omega) (u % 24)
            have M := mod_ok (m := false) (i := u) (j := 24) (h := [.lst (iL l)]) (by decide)
            have F : ∀ h : CH, binD .fdiv false (.int u) (.int 24) h = .ok (.int (u / 24)) h := fun h => by
              show (if divOk 24 then R.ok (D.int (u / 24)) h else .no) = _
              rw [if_pos (by decide +kernel)]
            simp [up, M, A, F]
            exact ⟨l ++ [u % 24], by simp; omega, by simp⟩
          · simp [up]
            exact ⟨l, by omega, rfl⟩
        · rintro env hh ⟨u, l, rfl, hl, rfl⟩
          simp
          exact ⟨l, by omega, rfl⟩
      · have R0 : ∀ h : CH, itD .rng1 [.int 7] h = .ok ((List.range 7).map (fun i : Nat => D.int i), none) h := fun h => it_rng1 (n := 7) (by omega)
        have a1 : ∀ h : CH, binD .mul false (.int w) (.int 50331653) h = .ok (.int (w * 50331653)) h := fun h => mul_ok (mulOk_r (by omega) (by omega))
        have a2 : ∀ h : CH, binD .mul false (.int (i : Nat)) (.int 12582917) h = .ok (.int ((i : Nat) * 12582917)) h := fun h => mul_ok (mulOk_r (by omega) (by omega))
        have a3 := mod_ok (m := false) (i := w * 50331653 + (i : Nat) * 12582917 + 29) (j := 2147483629) (h := [.lst (iL l)]) (by decide)
        have b1 := Int.emod_nonneg (w * 50331653 + (i : Nat) * 12582917 + 29) (show (2147483629 : Int) ≠ 0 by decide)
        have b2 := Int.emod_lt_of_pos (w * 50331653 + (i : Nat) * 12582917 + 29) (show (0 : Int) < 2147483629 by decide)
        simp [P0, big, a1, a2, a3, s_fr, R0]
        generalize (w * 50331653 + (i : Nat) * 12582917 + 29) % 2147483629 = st at b1 b2
        refine forGo_rng (C := fun r => nT (RS.andThen r _) _) (fun t env hh => ∃ (u : Int) (l : List Int), env = [some (.scr ns), some (.cell 0), some (.int i), some (.int w), none, some (.int u)] ∧ 0 ≤ u ∧ u < 4294967296 ∧ l.length ≤ 42 * i + t ∧ hh = [.lst (iL l)]) ?_ ?_ ?_ ?_
        · exact ⟨st, l, rfl, b1, by omega, hl, rfl⟩
        · exact fun _ _ _ _ _ => rfl
        · rintro t env hh ht ⟨u, l, rfl, u0, u1, hl, rfl⟩
          have c1 : ∀ h : CH, binD .mul false (.int u) (.int u) h = .ok (.int (u * u)) h := fun h => mul_ok (mulOk_l (by omega) (by omega))
          have c2 : ∀ h : CH, binD .mul false (.int (t : Nat)) (.int 6151) h = .ok (.int ((t : Nat) * 6151)) h := fun h => mul_ok (mulOk_r (by omega) (by omega))
          have c3 : ∀ h : CH, binD .mul false (.int (i : Nat)) (.int 97) h = .ok (.int ((i : Nat) * 97)) h := fun h => mul_ok (mulOk_r (by omega) (by omega))
          have c4 := mod_ok (m := false) (i := u * u + (t : Nat) * 6151 + (i : Nat) * 97 + 7) (j := 2147483587) (h := [.lst (iL l)]) (by decide)
          have d1 := Int.emod_nonneg (u * u + (t : Nat) * 6151 + (i : Nat) * 97 + 7) (show (2147483587 : Int) ≠ 0 by decide)
          have d2 := Int.emod_lt_of_pos (u * u + (t : Nat) * 6151 + (i : Nat) * 97 + 7) (show (0 : Int) < 2147483587 by decide)
          have A := app_int (h := [.lst (iL l)]) (q := 0) (l := l) rfl (by omega) ((u * u + (t : Nat) * 6151 + (i : Nat) * 97 + 7) % 2147483587)
          simp [c1, c2, c3, c4, A]
          exact ⟨d1, by omega, l ++ [(u * u + (t : Nat) * 6151 + (i : Nat) * 97 + 7) % 2147483587], by simp; omega, by simp⟩
        · rintro env hh ⟨u, l, rfl, u0, u1, hl, rfl⟩
          simp
          exact ⟨l, by omega, rfl⟩
    by_cases neg : v < 0
    · have g := go (3 - 2 * v)
      simp [x0, neg, m2, andThen_id] at g ⊢
      exact g
    · have g := go v
      simp [x0, neg, andThen_id] at g ⊢
      exact g
  · rintro env hh ⟨rfl, l, hl, rfl⟩
    refine ⟨l.reverse, by simp; omega, ?_⟩
    simp [mthR, mthD]
end ZK72

namespace ZK72
open Z
variable {h : CH} {k : Nat}
/-- the drawing cell goes on, all others below stay -/
structure DrK (q : Nat) (h h' : CH) : Prop where
  len : h.length ≤ h'.length
  drw : Drw q h'
  oth : ∀ y, y < h.length → y ≠ q → h'[y]? = h[y]?
theorem DrK.trans {q : Nat} {h1 h2 : CH} (a : DrK q h h1) (b : DrK q h1 h2) : DrK q h h2 := ⟨Nat.le_trans a.len b.len, b.drw, fun y hy hq => (b.oth y (Nat.lt_of_lt_of_le hy a.len) hq).trans (a.oth y hy hq)⟩
theorem Dr.toK {q : Nat} {h' : CH} (a : Dr q h h') : DrK q h h' := ⟨Nat.le_of_eq a.len.symm, a.drw, fun y _ hq => a.oth y hq⟩
theorem Drw.lt {q : Nat} (d : Drw q h) : q < h.length := by obtain ⟨l, _, e⟩ := d; exact lt_get e
theorem DrK.trunc {q : Nat} {h' : CH} (a : DrK q h h') (hq : q < h.length) (d : D) : DrK q h (trunc h.length d h') := by
  have K : ∀ y, y < h.length → (Z.trunc h.length d h')[y]? = h'[y]? := fun y hy => by
    unfold Z.trunc
    split
    · rfl
    · split
      · rw [List.getElem?_take_of_lt hy]
      · rfl
  have L : h.length ≤ (Z.trunc h.length d h').length := by
    unfold Z.trunc
    split
    · exact a.len
    · split
      · rw [List.length_take]; have := a.len; omega
      · exact a.len
  obtain ⟨l, hl, e⟩ := a.drw
  exact ⟨L, ⟨l, hl, (K q hq).trans e⟩, fun y hy hq => (K y hy).trans (a.oth y hy hq)⟩
theorem mx_dr {q m n : Nat} {cs : Nat → Nat} {f : F2} {h' : CH} (M : Mx h m cs n f) (D : Dr q h h') (qm : q ≠ m) (qc : ∀ i, i < n → q ≠ cs i) : Mx h' m cs n f :=
  ⟨(D.oth m (fun e => qm e.symm)).trans M.top, fun i hi => (D.oth _ (fun e => qc i hi e.symm)).trans (M.row i hi), M.inj, M.out⟩
theorem mx_cells {m n : Nat} {cs : Nat → Nat} {f : F2} (M : Mx h m cs n f) {y : Nat} (hy : y ∈ cellsF h 6 (.cell m)) : y = m ∨ ∃ i, i < n ∧ y = cs i := by
  have e : cellsF h 6 (.cell m) = m :: (match h[m]? with
    | some (.lst ds) => ds.flatMap (cellsF h 5)
    | _ => []) := rfl
  rw [e, M.top] at hy
  rcases List.mem_cons.1 hy with z | z
  · exact .inl z
  · right
    obtain ⟨d, hd, hz⟩ := List.mem_flatMap.1 z
    obtain ⟨i, hi, rfl⟩ := List.mem_map.1 hd
    have hi := List.mem_range.1 hi
    have e2 : cellsF h 5 (.cell (cs i)) = cs i :: (match h[cs i]? with
      | some (.lst ds) => ds.flatMap (cellsF h 4)
      | _ => []) := rfl
    rw [e2, M.row i hi] at hz
    rcases List.mem_cons.1 hz with w | w
    · exact ⟨i, hi, w⟩
    · obtain ⟨d, hd, hz⟩ := List.mem_flatMap.1 w
      obtain ⟨v, _, rfl⟩ := List.mem_map.1 hd
      simp [cellsF] at hz
theorem skew_set {n : Nat} {f : F2} (sk : Skew n f) {i j : Nat} (ne : i ≠ j) (e : Int) : Skew n (stF (stF f i j e) j i (-e)) := fun x y hx hy => by
  have s0 := sk x y hx hy
  have v : ∀ x y, stF (stF f i j e) j i (-e) x y = if x = j ∧ y = i then -e else if x = i ∧ y = j then e else f x y := fun _ _ => rfl
  rw [v, v]
  by_cases a1 : x = j ∧ y = i
  · have a2 : ¬ (y = j ∧ x = i) := fun z => ne (z.2.symm.trans a1.1)
    rw [if_pos a1, if_neg a2, if_pos ⟨a1.2, a1.1⟩]
  · by_cases a2 : x = i ∧ y = j
    · rw [if_neg a1, if_pos a2, if_pos ⟨a2.2, a2.1⟩]; omega
    · rw [if_neg a1, if_neg a2, if_neg (fun z => a2 ⟨z.2, z.1⟩), if_neg (fun z => a1 ⟨z.2, z.1⟩)]
      exact s0
theorem top_ok {r : Int} (h0 : 0 ≤ r) (h1 : r < 4) : ∃ t : Int, 1 ≤ t ∧ t ≤ 160000 ∧ ixV (.lst [.int 3, .int 1, .int 50, .int 160000]) (.int r) h = .ok (.int t) h := by
  have : r = 0 ∨ r = 1 ∨ r = 2 ∨ r = 3 := by omega
  rcases this with rfl | rfl | rfl | rfl
  · exact ⟨3, by omega, by omega, rfl⟩
  · exact ⟨1, by omega, by omega, rfl⟩
  · exact ⟨50, by omega, by omega, rfl⟩
  · exact ⟨160000, by omega, by omega, rfl⟩
theorem r_table {q n : Nat} (d : Drw q h) (hn : n ≤ 900) : ∃ f h', run tb (k + 3) 3 [.cell q, .int n] h = .ok (tabD false false n f) h' ∧ Skew n f ∧ DrK q h h' := by
  rw [run_eq (fd := ⟨"_law_table", 2, 7, b_law_table⟩) rfl rfl]
  obtain ⟨r, h1, e1, r0, r1, D1⟩ := c_take (k := k + 1) d (m := 4) (by decide)
  obtain ⟨t, t0, t1, e2⟩ := top_ok (h := h1) r0 r1
  have hz : n ≤ SZ := SZ_of (by omega)
  simp [b_law_table, envOf, e1, e2, s_fr, it_rng1 (show n < 1000000 by omega)]
  have qR : q < h1.length := D1.drw.lt
  refine forGo_rng (C := fun r => ∃ f h', fin (RS.andThen r _) = R.ok (tabD false false n f) h' ∧ Skew n f ∧ DrK q h h')
    (fun i env hh => env = [some (.cell q), some (.int n), some (.int t), some (.cell h1.length), none, none, none] ∧ hh.length = h1.length + 1 + i ∧ hh[h1.length]? = some (.lst ((List.range i).map fun t => .cell (h1.length + 1 + t))) ∧ (∀ t, t < i → hh[h1.length + 1 + t]? = some (.lst (iL (rowF n (fun _ _ => 0) t)))) ∧ ∀ y, y < h1.length → hh[y]? = h1[y]?) ?_ ?_ ?_ ?_
  · exact ⟨rfl, by simp, by simp, fun t ht => by omega, fun y hy => List.getElem?_append_left hy⟩
  · exact fun _ _ _ _ _ => rfl
  · rintro i env hh hi ⟨rfl, q1, q2, q3, q4⟩
    simp [e_comp, it_rng1 (show n < 1000000 by omega)]
    rw [comp_rng rfl (fun _ => .int 0)]
    rotate_left
    · intro j hj
      simp
    have z0 : (List.range n).map (fun _ : Nat => D.int 0) = iL (rowF n (fun _ _ => 0) i) := by simp [iL, rowF]
    have T0 : (hh ++ [Cell.lst (iL (rowF n (fun _ _ => 0) i))])[h1.length]? = some (.lst ((List.range i).map fun t => .cell (h1.length + 1 + t))) := get_app q2
    have A : mthR (.cell h1.length) .append [.cell hh.length] (hh ++ [Cell.lst (iL (rowF n (fun _ _ => 0) i))]) hh = .ok .non ((hh ++ [Cell.lst (iL (rowF n (fun _ _ => 0) i))]).set h1.length (.lst ((List.range (i + 1)).map fun t => .cell (h1.length + 1 + t)))) := by
      simp only [mthR, mthD, onCell, lstOf, T0, q2, one1, Option.isSome_some, if_true]
      rw [if_pos (lt_SZ (by simp; omega)), List.range_succ, List.map_append, q1]
      rfl
    rw [z0]
    simp [hz, A, len_rowF]
    refine ⟨by omega, ?_, fun t ht => ?_, fun y hy => ?_⟩
    · rw [List.getElem?_set_self (by simp; omega)]
    · rw [List.getElem?_set_ne (by omega)]
      by_cases et : t < i
      · exact get_app (q3 t et)
      · have : t = i := by omega
        subst this
        rw [List.getElem?_append_right (by omega)]
        simp [q1]
    · rw [List.getElem?_set_ne (by omega), List.getElem?_append_left (by omega)]
      exact q4 y hy
  · rintro env h2 ⟨rfl, q1, q2, q3, q4⟩
    have M : Mx h2 h1.length (fun t => h1.length + 1 + t) n (fun _ _ => 0) := ⟨q2, q3, fun i j _ _ e => by have : h1.length + 1 + i = h1.length + 1 + j := e; omega, fun i _ e => by have : h1.length + 1 + i = h1.length := e; omega⟩
    have D2 : DrK q h1 h2 := ⟨by omega, by obtain ⟨l, hl, e⟩ := D1.drw; exact ⟨l, hl, (q4 q qR).trans e⟩, fun y hy _ => q4 y hy⟩
    generalize hR : h1.length = Rr at *
    generalize hcs : (fun t => Rr + 1 + t) = cs at *
    have csR : ∀ i, Rr < cs i := fun i => by rw [← hcs]; show Rr < Rr + 1 + i; omega
    simp [it_rng1 (show n < 1000000 by omega)]
    refine forGo_rng (C := fun r => ∃ f h', fin (RS.andThen r _) = R.ok (tabD false false n f) h' ∧ Skew n f ∧ DrK q h h')
      (fun i env hh => env = [some (.cell q), some (.int n), some (.int t), some (.cell Rr), none, none, none] ∧ ∃ f, Mx hh Rr cs n f ∧ Skew n f ∧ DrK q h1 hh) ?_ ?_ ?_ ?_
    · exact ⟨rfl, _, M, fun x y _ _ => rfl, D2⟩
    · exact fun _ _ _ _ _ => rfl
    · rintro i env hh hi ⟨rfl, f, M1, sk1, D3⟩
      have R2 : itD .rng2 [.int ((i : Int) + 1), .int (n : Nat)] hh = .ok ((List.range (n - (i + 1))).map (fun j : Nat => D.int ((i : Int) + 1 + j)), none) hh := by
        show (if rngOk ((i : Int) + 1) && rngOk (n : Nat) then R.ok (rngL ((i : Int) + 1) ((n : Int) - ((i : Int) + 1)).toNat, (none : Ck)) hh else .no) = _
        have o1 : rngOk ((i : Int) + 1) = true := decide_eq_true ⟨by omega, by omega⟩
        have o2 : rngOk (n : Nat) = true := decide_eq_true ⟨by omega, by omega⟩
        rw [o1, o2, show ((n : Int) - ((i : Int) + 1)).toNat = n - (i + 1) by omega]
        rfl
      simp [s_fr, R2]
      refine forGo_rng (C := fun r => nT (RS.andThen r _) _) (fun j env hh => env = [some (.cell q), some (.int n), some (.int t), some (.cell Rr), some (.int i), none, none] ∧ ∃ f, Mx hh Rr cs n f ∧ Skew n f ∧ DrK q h1 hh) ?_ ?_ ?_ ?_
      · exact ⟨rfl, f, M1, sk1, D3⟩
      · exact fun _ _ _ _ _ => rfl
      · rintro j env hh hj ⟨rfl, f, M1, sk1, D3⟩
        have jn : i + 1 + j < n := by omega
        obtain ⟨w, h3, e3, _, _, D4⟩ := c_wide (k := k) D3.drw (m := 2 * t) (by omega)
        have m1 : binD .mul false (.int 2) (.int t) hh = .ok (.int (2 * t)) hh := mul_ok (mulOk_l (by omega) (by omega))
        have M2 := mx_dr M1 D4 (by omega) (fun i _ e => by have := csR i; omega)
        obtain ⟨h4, a1, a2, a3⟩ := M2.put (w - t) hi jn
        obtain ⟨h5, b1, b2, b3⟩ := a2.put (-(w - t)) jn hi
        have ej : (i : Int) + 1 + (j : Int) = ((i + 1 + j : Nat) : Int) := by omega
        rw [ej]
        generalize hu : i + 1 + j = u at *
        have FF := a3.trans b3
        have D5 : DrK q h1 h5 := ⟨by rw [FF.len, D4.len]; exact D3.len, by
          obtain ⟨l, hl, e⟩ := D4.drw
          exact ⟨l, hl, (FF.oth q (fun i _ e => by have := csR i; omega)).trans e⟩, fun y hy hyq => ((FF.oth y (fun i _ e => by have := csR i; omega)).trans (D4.oth y hyq)).trans (D3.oth y hy hyq)⟩
        simp [m1, e3, M2.at_row hi, a1, a2.at_row jn, b1]
        exact ⟨_, b2, skew_set sk1 (by omega) _, D5⟩
      · rintro env hh ⟨rfl, f, M1, sk1, D3⟩
        simp
        exact ⟨f, M1, sk1, D3⟩
    · rintro env hh ⟨rfl, f, M1, sk1, D3⟩
      have e6 : frzD hh (.cell Rr) = some (tabD false false n f, kill (cellsF hh 6 (.cell Rr)) hh) := by
        unfold frzD
        rw [if_neg (by simp [D.nc]), M1.snapF 3]
        rfl
      simp only [RS.andThen_nx]
      rw [s_frz (d := .cell Rr) rfl e6]
      refine ⟨f, kill (cellsF hh 6 (.cell Rr)) hh, by simp, sk1, ?_⟩
      refine D1.toK.trans ⟨by rw [kill_len']; exact D3.len, ?_, fun y hy hyq => ?_⟩
      · obtain ⟨l, hl, e⟩ := D3.drw
        refine ⟨l, hl, ?_⟩
        rw [kill_get']
        · exact e
        · intro z
          rcases mx_cells M1 z with z | ⟨i, _, z⟩
          · omega
          · have := csR i; omega
      · rw [kill_get']
        · exact D3.oth y hy hyq
        · intro z
          rcases mx_cells M1 z with z | ⟨i, _, z⟩
          · omega
          · have := csR i; omega
theorem c_table {q n : Nat} (d : Drw q h) (hn : n ≤ 900) : ∃ f h', callM false (run tb (k + 3)) 3 [.cell q, .int n] h = .ok (tabD false false n f) h' ∧ Skew n f ∧ DrK q h h' := by
  obtain ⟨f, h', e, sk, D⟩ := r_table (k := k) d hn
  exact ⟨f, _, call_heap e, sk, D.trunc d.lt _⟩
theorem eraseIdx_map' {α β : Type} (f : α → β) : ∀ (l : List α) (i : Nat), (l.map f).eraseIdx i = (l.eraseIdx i).map f
  | [], _ => rfl
  | a :: r, 0 => rfl
  | a :: r, i + 1 => by
    show f a :: (r.map f).eraseIdx i = f a :: (r.eraseIdx i).map f
    rw [eraseIdx_map' f r i]
theorem erase_perm {α : Type} : ∀ (l : List α) (i : Nat) (h : i < l.length), (l[i] :: l.eraseIdx i).Perm l
  | a :: r, 0, _ => List.Perm.refl _
  | a :: r, i + 1, h => by
    have hi : i < r.length := by simpa using h
    have ih := erase_perm r i hi
    show (r[i] :: a :: r.eraseIdx i).Perm (a :: r)
    exact (List.Perm.swap a r[i] _).trans (ih.cons a)
theorem r_row {q n : Nat} (d : Drw q h) (hn : 3 ≤ n) (hn8 : n ≤ 900) : ∃ c h', run tb (k + 2) 4 [.cell q, .int n] h = .ok (.lst (iN c)) h' ∧ Cyc n c ∧ DrK q h h' := by
  rw [run_eq (fd := ⟨"_law_row", 2, 6, b_law_row⟩) rfl rfl]
  have hz : n ≤ SZ := SZ_of (by omega)
  have ql := d.lt
  simp [b_law_row, envOf, s_fr, e_comp, it_rng1 (show n < 1000000 by omega)]
  rw [comp_rng rfl (fun i => .int i)]
  rotate_left
  · intro j hj
    simp
  simp [hz]
  -- the draws
  have d1 : Drw q (h ++ [Cell.lst ((List.range n).map fun i : Nat => D.int i), Cell.lst []]) := by
    obtain ⟨l, hl, e⟩ := d
    exact ⟨l, hl, get_app e⟩
  obtain ⟨r, h1, e1, r0, r1, D1⟩ := c_take (k := k) d1 (m := (n : Int) - 2) (by omega)
  have R0 : itD .rng1 [.int (3 + r)] h1 = .ok ((List.range (3 + r.toNat)).map (fun i : Nat => D.int i), none) h1 := by
    rw [show (3 + r : Int) = ((3 + r.toNat : Nat) : Int) by omega]
    exact it_rng1 (by omega)
  simp [e1, R0]
  have hl1 : h1.length = h.length + 2 := by rw [D1.len]; simp
  have hA : h1[h.length]? = some (.lst (iN (List.range n))) := by rw [D1.oth _ (by omega)]; simp [iN]
  have hB : h1[h.length + 1]? = some (.lst (iN [])) := by rw [D1.oth _ (by omega)]; simp [iN]
  have K1 : DrK q h h1 := ⟨by omega, D1.drw, fun y hy hyq => by rw [D1.oth y hyq, List.getElem?_append_left hy]⟩
  refine forGo_rng (C := fun r => ∃ c h', fin (RS.andThen r _) = R.ok (.lst (iN c)) h' ∧ Cyc n c ∧ DrK q h h')
    (fun i env hh => env = [some (.cell q), some (.int n), some (.cell h.length), some (.cell (h.length + 1)), none, none] ∧ DrK q h hh ∧ ∃ left row : List Nat, hh[h.length]? = some (.lst (iN left)) ∧ hh[h.length + 1]? = some (.lst (iN row)) ∧ (left ++ row).Perm (List.range n) ∧ row.length = i) ?_ ?_ ?_ ?_
  · exact ⟨rfl, K1, _, _, hA, hB, by simp, rfl⟩
  · exact fun _ _ _ _ _ => rfl
  · rintro i env hh hi ⟨rfl, K2, left, row, ha, hb, pm, hlen⟩
    have hll : left.length = n - i := by
      have := pm.length_eq
      simp at this; omega
    have l0 : biD .len false [.cell h.length] hh = .ok (.int (left.length : Nat)) hh := by rw [len_ok (ds := iN left) (by simp only [items, ha])]; simp
    obtain ⟨t, h2, e2, t0, t1, D2⟩ := c_take (k := k) K2.drw (m := (left.length : Int)) (by omega)
    have ha2 : h2[h.length]? = some (.lst (iN left)) := (D2.oth _ (by omega)).trans ha
    have hb2 : h2[h.length + 1]? = some (.lst (iN row)) := (D2.oth _ (by omega)).trans hb
    have tl : t.toNat < left.length := by omega
    have P : mthR (.cell h.length) .popAt [.int t] h2 hh = .ok (.int (left[t.toNat] : Nat)) (h2.set h.length (.lst (iN (left.eraseIdx t.toNat)))) := by
      have g : (iN left)[t.toNat]? = some (.int (left[t.toNat] : Nat)) := iN_get tl
      simp only [mthR, mthD, onCell, lstOf, ha, ha2, one1, Option.isSome_some, if_true]
      rw [if_pos ⟨t0, by have := lt_SZ (n := t.toNat) (by omega); omega⟩, g]
      simp [iN, eraseIdx_map']
    have hb3 : (h2.set h.length (.lst (iN (left.eraseIdx t.toNat))))[h.length + 1]? = some (.lst (iN row)) := by rw [List.getElem?_set_ne (by omega)]; exact hb2
    have A : mthR (.cell (h.length + 1)) .append [.int (left[t.toNat] : Nat)] (h2.set h.length (.lst (iN (left.eraseIdx t.toNat)))) hh = .ok .non ((h2.set h.length (.lst (iN (left.eraseIdx t.toNat)))).set (h.length + 1) (.lst (iN (row ++ [left[t.toNat]])))) := by
      simp only [mthR, mthD, onCell, lstOf, hb, hb3, one1, Option.isSome_some, if_true]
      rw [if_pos (lt_SZ (by simp; omega))]
      simp
    have hl2 : h2.length = hh.length := D2.len
    have hlh : h.length + 1 < h2.length := lt_get hb2
    simp [l0, e2, P, A]
    refine ⟨⟨by simp; rw [hl2]; exact K2.len, ?_, fun y hy hyq => ?_⟩, left.eraseIdx t.toNat, ?_, row ++ [left[t.toNat]], ?_, ?_, by simp [hlen]⟩
    · obtain ⟨l, hl, e⟩ := D2.drw
      exact ⟨l, hl, by rw [List.getElem?_set_ne (by omega), List.getElem?_set_ne (by omega)]; exact e⟩
    · rw [List.getElem?_set_ne (by omega), List.getElem?_set_ne (by omega)]
      exact (D2.oth y hyq).trans (K2.oth y hy hyq)
    · rw [List.getElem?_set_self (by omega)]
    · rw [List.getElem?_set_self (by simp; omega)]; simp [iN]
    · have p1 : (left[t.toNat] :: left.eraseIdx t.toNat).Perm left := erase_perm left t.toNat tl
      have p2 : (left.eraseIdx t.toNat ++ (row ++ [left[t.toNat]])).Perm (left[t.toNat] :: left.eraseIdx t.toNat ++ row) := by
        rw [← List.append_assoc]
        exact List.perm_append_comm (l₂ := [left[t.toNat]])
      exact (p2.trans (p1.append_right row)).trans pm
  · rintro env hh ⟨rfl, K2, left, row, ha, hb, pm, hlen⟩
    have nd : (left ++ row).Nodup := pm.nodup_iff.2 List.nodup_range
    have C : Cyc n row := ⟨by have := pm.length_eq; simp at this; omega, by omega, (List.nodup_append.1 nd).2.1, fun x hx => List.mem_range.1 (pm.mem_iff.1 (List.mem_append_right _ hx))⟩
    have e6 : frzD hh (.cell (h.length + 1)) = some (.lst (iN row), kill (cellsF hh 6 (.cell (h.length + 1))) hh) := by
      unfold frzD
      rw [if_neg (by simp [D.nc])]
      have : snapF hh 6 (.cell (h.length + 1)) = some (.lst (iN row)) := by
        show (match hh[h.length + 1]? with
          | some (.lst ds) => (ds.mapM (snapF hh 5)).map D.lst
          | _ => none) = _
        rw [hb]
        simp only
        rw [snapF_nat]
        rfl
      rw [this]; rfl
    have cl : cellsF hh 6 (.cell (h.length + 1)) = [h.length + 1] := by
      show (h.length + 1) :: (match hh[h.length + 1]? with
        | some (.lst ds) => ds.flatMap (cellsF hh 5)
        | _ => []) = _
      rw [hb]
      simp only
      have : (iN row).flatMap (cellsF hh 5) = [] := by
        rw [List.flatMap_eq_nil_iff]
        intro d hd
        obtain ⟨x, _, rfl⟩ := List.mem_map.1 hd
        rfl
      rw [this]
    simp only [RS.andThen_nx]
    rw [s_frz (d := .cell (h.length + 1)) rfl e6, cl]
    refine ⟨row, kill [h.length + 1] hh, by simp, C, ⟨by rw [kill_len']; exact K2.len, ?_, fun y hy hyq => ?_⟩⟩
    · obtain ⟨l, hl, e⟩ := K2.drw
      exact ⟨l, hl, by rw [kill_get' (by simp; omega)]; exact e⟩
    · rw [kill_get' (by simp; omega)]
      exact K2.oth y hy hyq
theorem c_row {q n : Nat} (d : Drw q h) (hn : 3 ≤ n) (hn8 : n ≤ 900) : ∃ c h', callM false (run tb (k + 2)) 4 [.cell q, .int n] h = .ok (.lst (iN c)) h' ∧ Cyc n c ∧ DrK q h h' := by
  obtain ⟨c, h', e, C, D⟩ := r_row (k := k) d hn hn8
  exact ⟨c, _, call_heap e, C, D.trunc d.lt _⟩
end ZK72

namespace ZK72
open Z
variable {h : CH} {k : Nat}
theorem many_ok {r : Int} (h0 : 0 ≤ r) (h1 : r < 8) : ∃ n : Nat, 1 ≤ n ∧ n ≤ 8 ∧ ∀ h, ixV (.lst [.int 3, .int 4, .int 2, .int 5, .int 6, .int 1, .int 7, .int 8]) (.int r) h = .ok (.int (n : Nat)) h := by
  have : r = 0 ∨ r = 1 ∨ r = 2 ∨ r = 3 ∨ r = 4 ∨ r = 5 ∨ r = 6 ∨ r = 7 := by omega
  rcases this with rfl | rfl | rfl | rfl | rfl | rfl | rfl | rfl
  · exact ⟨3, by omega, by omega, fun _ => rfl⟩
  · exact ⟨4, by omega, by omega, fun _ => rfl⟩
  · exact ⟨2, by omega, by omega, fun _ => rfl⟩
  · exact ⟨5, by omega, by omega, fun _ => rfl⟩
  · exact ⟨6, by omega, by omega, fun _ => rfl⟩
  · exact ⟨1, by omega, by omega, fun _ => rfl⟩
  · exact ⟨7, by omega, by omega, fun _ => rfl⟩
  · exact ⟨8, by omega, by omega, fun _ => rfl⟩
theorem step_ok {r : Int} (h0 : 0 ≤ r) (h1 : r < 3) : ∃ t : Int, 1 ≤ t ∧ t ≤ 2 ∧ ∀ h, ixV (.lst [.int 1, .int 2, .int 1]) (.int r) h = .ok (.int t) h := by
  have : r = 0 ∨ r = 1 ∨ r = 2 := by omega
  rcases this with rfl | rfl | rfl
  · exact ⟨1, by omega, by omega, fun _ => rfl⟩
  · exact ⟨2, by omega, by omega, fun _ => rfl⟩
  · exact ⟨1, by omega, by omega, fun _ => rfl⟩
/-- what stands behind the law's first part -/
structure St (n : Nat) (f : F2) (H : CH) (m p : Nat) (g : F2) (dn : List (List Nat × Int)) : Prop where
  drw : Drw 0 H
  mx : ∃ cs, Mx H m cs n g ∧ ∀ i, i < n → cs i ≠ 0 ∧ cs i ≠ p
  m0 : m ≠ 0
  p0 : p ≠ 0
  pm : p ≠ m
  dn_ : H[p]? = some (.lst (dn.map shD))
  eq : g = shifts f dn
  cyc : ∀ q ∈ dn, Cyc n q.1
theorem sum_dif (n : Nat) (g f : F2) (x : Nat) : (rowF n (dif g f) x).sum = (rowF n g x).sum - (rowF n f x).sum := by
  have e : ∀ l : List Nat, (l.map fun y => g x y - f x y).sum = (l.map (g x)).sum - (l.map (f x)).sum := by
    intro l
    induction l with
    | nil => rfl
    | cons a r ih => simp only [List.map_cons, List.sum_cons, ih]; omega
  exact e (List.range n)
theorem row_shifts {n : Nat} (x : Nat) : ∀ (dn : List (List Nat × Int)) (f : F2), (∀ q ∈ dn, Cyc n q.1) → (rowF n (shifts f dn) x).sum = (rowF n f x).sum
  | [], f, _ => rfl
  | q :: r, f, h => by
    have e : shifts f (q :: r) = shifts (shift f (lks (way q.1)) q.2) r := rfl
    rw [e, row_shifts x r _ fun z hz => h z (List.mem_cons_of_mem _ hz), row_cyc (h q List.mem_cons_self)]
theorem ch_cyc {n : Nat} {L : F2} {fs : List (List Nat × Int)} (c : Ch n L fs) : ∀ q ∈ fs, Cyc n q.1 := by
  induction c with
  | nil _ => intro q hq; simp at hq
  | cons S _ ih =>
    intro q hq
    rcases List.mem_cons.1 hq with rfl | hq
    · exact S.cyc
    · exact ih q hq
theorem ch_end {n : Nat} {s : F2} : ∀ (fs : List (List Nat × Int)) {f : F2}, Ch n (dif s f) fs → ∀ x y, x < n → y < n → shifts f fs x y = s x y
  | [], f, c => by
    cases c with
    | nil z =>
      intro x y hx hy
      have := z x y hx hy
      unfold dif at this
      show f x y = s x y
      omega
  | (c, a) :: r, f, ch => by
    cases ch with
    | cons S chr =>
      rw [← dif_shift] at chr
      exact ch_end r chr
theorem mat_congr {n : Nat} {f g : F2} (e : ∀ x y, x < n → y < n → f x y = g x y) : mat n f = mat n g := by
  unfold mat
  apply List.map_congr_left
  intro i hi
  have hi := List.mem_range.1 hi
  unfold rowF
  apply List.map_congr_left
  intro j hj
  exact e i j hi (List.mem_range.1 hj)
theorem snap_fs {p : Nat} {dn : List (List Nat × Int)} (e : h[p]? = some (.lst (dn.map shD))) : snap h (.cell p) = some (.lst (dn.map shD)) := by
  unfold Z.snap
  rw [if_neg (by simp [D.nc])]
  exact snap_sh e
theorem nc_fs (dn : List (List Nat × Int)) : (D.lst (dn.map shD)).nc = true := ncs_map dn nc_shD
/-- the judges, in any heap -/
theorem j_same {n : Nat} {m : Nat} {cs : Nat → Nat} {g : F2} (M : Mx h m cs n g) (hn : n ≤ 900) : callM true (run tb (k + 5)) 8 [tT2 (mat n g), .cell m] h = .ok (.bl true) h :=
  call_snap (snaps_two (snap_nc (nc_tT2 _)) M.snap) (r_same (k := k + 3) (by omega)) rfl rfl
theorem j_after {n p : Nat} {f : F2} {dn : List (List Nat × Int)} (e : h[p]? = some (.lst (dn.map shD))) (hn : 1 ≤ n) (hn8 : n ≤ 900) (sk : Skew n f) (hc : ∀ q ∈ dn, Cyc n q.1) : callM true (run tb (k + 5)) 10 [tabD false false n f, .cell p] h = .ok (tT2 (mat n (shifts f dn))) h :=
  call_snap (snaps_two (snap_tab _ _ _ _) (snap_fs e)) (r_after (k := k) hn (by omega) sk hc) (nc_tT2 _) (so_tT2 _)
theorem j_after' {n : Nat} {f : F2} {fs : List (List Nat × Int)} (hn : 1 ≤ n) (hn8 : n ≤ 900) (sk : Skew n f) (hc : ∀ q ∈ fs, Cyc n q.1) : callM true (run tb (k + 5)) 10 [tabD false false n f, .lst (fs.map shD)] h = .ok (tT2 (mat n (shifts f fs))) h :=
  call_nc (by simp only [ncs, nc_tab, nc_fs]; rfl) (r_after (k := k) hn (by omega) sk hc) (nc_tT2 _)
theorem j_scores {n : Nat} {f : F2} (hn : 1 ≤ n) (hn8 : n ≤ 900) (sk : Skew n f) : callM true (run tb (k + 5)) 9 [tabD false false n f] h = .ok (tR ((List.range n).map fun i => (rowF n f i).sum)) h :=
  call_nc (by simp only [ncs, nc_tab]; rfl) (r_scores (k := k + 2) hn (by omega) sk) (nc_tR _)
theorem j_scores' {n m : Nat} {cs : Nat → Nat} {g : F2} (M : Mx h m cs n g) (hn : 1 ≤ n) (hn8 : n ≤ 900) (sk : Skew n g) : callM true (run tb (k + 5)) 9 [.cell m] h = .ok (tR ((List.range n).map fun i => (rowF n g i).sum)) h :=
  call_snap (snaps_one M.snap) (r_scores (k := k + 2) hn (by omega) sk) (nc_tR _) (so_tR _)
theorem j_right {n m : Nat} {cs : Nat → Nat} {f g : F2} {fs : List (List Nat × Int)} (M : Mx h m cs n g) (hn : 1 ≤ n) (hn8 : n ≤ 900) (ch : Ch n (dif g f) fs) (hl : 2 * fs.length ≤ n * (n - 1)) : callM true (run tb (k + 5)) 12 [.lst (fs.map shD), tabD false false n f, .cell m] h = .ok (.bl true) h :=
  call_snap (snaps_three (snap_nc (nc_fs _)) (snap_tab _ _ _ _) M.snap) (r_way_right (k := k + 2) hn hn8 ch hl) rfl rfl
theorem j_right' {n : Nat} {f g : F2} {fs : List (List Nat × Int)} (hn : 1 ≤ n) (hn8 : n ≤ 900) (ch : Ch n (dif g f) fs) (hl : 2 * fs.length ≤ n * (n - 1)) : callM true (run tb (k + 5)) 12 [.lst (fs.map shD), tabD false false n f, tabD false false n g] h = .ok (.bl true) h :=
  call_nc (by simp only [ncs, nc_tab, nc_fs]; rfl) (r_way_right (k := k + 2) hn hn8 ch hl) rfl
theorem j_by {n m : Nat} {cs : Nat → Nat} {g : F2} {c : List Nat} (M : Mx h m cs n g) (hn : 1 ≤ n) (hn8 : n ≤ 900) (sk : Skew n g) (C : Cyc n c) (amt : Int) : callM true (run tb (k + 5)) 6 [.cell m, .lst (iN c), .int amt] h = .ok (tT2 (mat n (shift g (lks (way c)) amt))) h := by
  obtain ⟨h', e⟩ := r_shifted_by (k := k + 1) (h := []) (a := false) (b := false) (b' := false) hn (by omega) sk C amt
  exact call_snap (snaps_three M.snap (snap_nc (d := .lst (iN c)) (nc_iN c)) (snap_nc rfl)) e (nc_tT2 _) (so_tT2 _)
theorem j_shifted {n m : Nat} {cs : Nat → Nat} {g : F2} {c : List Nat} (M : Mx h m cs n g) (hn8 : n ≤ 900) (C : Cyc n c) (amt : Int) : ∃ h' m', callM false (run tb (k + 5)) 7 [.cell m, .lst (iN c), .int amt] h = .ok (.cell m') h' ∧ (∃ cs, Mx h' m' cs n (shift g (lks (way c)) amt) ∧ ∀ i, h.length ≤ cs i) ∧ h.length ≤ m' ∧ Keep h h' := by
  obtain ⟨h', m', e, Mc, hm, hl, hk⟩ := r_law_shifted_m (k := k + 4) (b := false) (Rdb.mx M) (by omega) C amt
  have e' : run tb (k + 5) 7 [.cell m, .lst (iN c), .int amt] h = .ok (.cell m') h' := e
  refine ⟨h', m', ?_, Mc, hm, ⟨hl, hk⟩⟩
  rw [call_heap e']
  congr 1
  unfold Z.trunc
  split
  · rfl
  · have : (D.cell m').und h.length = false := decide_eq_false (by omega)
    rw [this]
    rfl
theorem drk_keep {h' : CH} (K : Keep h h') (d : Drw 0 h) : Drw 0 h' := by
  obtain ⟨l, hl, e⟩ := d
  exact ⟨l, hl, K.at_ e⟩
/-- one turn of the law's loop -/
theorem law_turn {n m p : Nat} {f g : F2} {dn : List (List Nat × Int)} {H : CH} {ns : List Int} {t u : Int} (S : St n f H m p g dn) (hn : 3 ≤ n) (hn8 : n ≤ 8) (skf : Skew n f) (t0 : 1 ≤ t) (t1 : t ≤ 2) (hd : dn.length < 100) :
    ∃ H' m' g' dn', nT (evSs (run tb (k + 5)) (.cons (.asg (.nm 12) (.call false 4 (.cons (.var 1) (.cons (.var 2) .nil))))
  (.cons (.asg (.nm 13) (.bin .mul false (.var 6) (.bin .sub false (.call false 5 (.cons (.var 1) (.cons (.con (.int 60)) .nil))) (.con (.int 30)))))
  (.cons (.asg (.nm 14) (.call true 6 (.cons (.var 4) (.cons (.var 12) (.cons (.var 13) .nil)))))
  (.cons (.asg (.nm 4) (.call false 7 (.cons (.var 4) (.cons (.var 12) (.cons (.var 13) .nil)))))
  (.cons (.ife (.not (.call true 8 (.cons (.var 14) (.cons (.var 4) .nil))))
  (.cons (.ret (.con (.bl false)))
  .nil)
  .nil)
  (.cons (.expr (.mth (.var 5) .append (.cons (.tup (.cons (.bi .tuple false (.cons (.var 12) .nil)) (.cons (.var 13) .nil))) .nil)))
  .nil)))))) [some (.scr ns), some (.cell 0), some (.int n), some (tabD false false n f), some (.cell m), some (.cell p), some (.int t), none, none, some (.int u), none, none, none, none, none] H) (fun env2 h2 => h2 = H' ∧ wipeE env2 [9, 12, 13, 14] = [some (.scr ns), some (.cell 0), some (.int n), some (tabD false false n f), some (.cell m'), some (.cell p), some (.int t), none, none, none, none, none, none, none, none]) ∧ St n f H' m' p g' dn' ∧ dn'.length = dn.length + 1 := by
  obtain ⟨c, h1, e1, C, D1⟩ := c_row (k := k + 3) S.drw hn (by omega)
  obtain ⟨cs, M, hcs⟩ := S.mx
  have lm : m < H.length := lt_get M.top
  have lp : p < H.length := lt_get S.dn_
  have M1 : Mx h1 m cs n g := ⟨(D1.oth m lm S.m0).trans M.top, fun i hi => (D1.oth _ (lt_get (M.row i hi)) (hcs i hi).1).trans (M.row i hi), M.inj, M.out⟩
  have p1 : h1[p]? = some (.lst (dn.map shD)) := (D1.oth p lp S.p0).trans S.dn_
  obtain ⟨w, h2, e2, w0, w1, D2⟩ := c_wide (k := k + 3) D1.drw (m := 60) (by decide)
  have M2 : Mx h2 m cs n g := mx_dr M1 D2 (fun e => S.m0 e.symm) (fun i hi e => (hcs i hi).1 e.symm)
  have p2 : h2[p]? = some (.lst (dn.map shD)) := (D2.oth p S.p0).trans p1
  have a1 : ∀ h : CH, binD .mul false (.int t) (.int (w - 30)) h = .ok (.int (t * (w - 30))) h := fun h => mul_ok (mulOk_l (by omega) (by omega))
  generalize t * (w - 30) = amt at a1
  have skg : Skew n g := by rw [S.eq]; exact shifts_skew _ skf
  have b1 := j_by (k := k) M2 (by omega) (by omega) skg C amt
  obtain ⟨h3, m', e3, ⟨cs', M3, hcs'⟩, hm', K3⟩ := j_shifted (k := k) M2 (by omega) C amt
  have b2 := j_same (k := k) M3 (by omega)
  have p3 : h3[p]? = some (.lst (dn.map shD)) := K3.at_ p2
  have lp2 : p < h2.length := lt_get p2
  have A : mthR (.cell p) .append [shD (c, amt)] h3 h3 = .ok .non (h3.set p (.lst ((dn ++ [(c, amt)]).map shD))) := by
    simp only [mthR, mthD, onCell, lstOf, p3, one1, Option.isSome_some, if_true]
    rw [if_pos (lt_SZ (by simp; omega))]
    simp
  have tc : biD .tuple false [.lst (iN c)] h3 = .ok (.tup (iN c)) h3 := tuple_ok rfl
  have ql2 : 0 < h2.length := D2.drw.lt
  refine ⟨h3.set p (.lst ((dn ++ [(c, amt)]).map shD)), m', shift g (lks (way c)) amt, dn ++ [(c, amt)], ?_, ⟨?_, ⟨cs', ⟨?_, fun i hi => ?_, M3.inj, M3.out⟩, fun i hi => ?_⟩, by omega, S.p0, by omega, ?_, ?_, fun q hq => ?_⟩, by simp⟩
  · generalize h3.set p (.lst ((dn ++ [(c, amt)]).map shD)) = H9 at A
    simp [e1, e2, a1, b1, e3, b2, tc, A]
  · obtain ⟨l, hl, e⟩ := drk_keep K3 D2.drw
    exact ⟨l, hl, by rw [List.getElem?_set_ne S.p0]; exact e⟩
  · rw [List.getElem?_set_ne (by omega)]; exact M3.top
  · rw [List.getElem?_set_ne (by have := hcs' i; omega)]; exact M3.row i hi
  · have := hcs' i; exact ⟨by omega, by omega⟩
  · rw [List.getElem?_set_self (lt_get p3)]
  · rw [shifts_snoc, ← S.eq]
  · rcases List.mem_append.1 hq with z | z
    · exact S.cyc q z
    · simp at z; subst z; exact C
end ZK72

namespace ZK72
open Z
variable {h : CH} {k : Nat}
def lawIf : S := (.ife (.cmp .gt (.var 2) (.con (.int 2)))
  (.cons (.fr (.nm 9) (.f .rng1 (.cons (.call false 2 (.cons (.var 1) (.cons (.con (.int 5)) .nil))) .nil))
  (.cons (.asg (.nm 12) (.call false 4 (.cons (.var 1) (.cons (.var 2) .nil))))
  (.cons (.asg (.nm 13) (.bin .mul false (.var 6) (.bin .sub false (.call false 5 (.cons (.var 1) (.cons (.con (.int 60)) .nil))) (.con (.int 30)))))
  (.cons (.asg (.nm 14) (.call true 6 (.cons (.var 4) (.cons (.var 12) (.cons (.var 13) .nil)))))
  (.cons (.asg (.nm 4) (.call false 7 (.cons (.var 4) (.cons (.var 12) (.cons (.var 13) .nil)))))
  (.cons (.ife (.not (.call true 8 (.cons (.var 14) (.cons (.var 4) .nil))))
  (.cons (.ret (.con (.bl false)))
  .nil)
  .nil)
  (.cons (.expr (.mth (.var 5) .append (.cons (.tup (.cons (.bi .tuple false (.cons (.var 12) .nil)) (.cons (.var 13) .nil))) .nil)))
  .nil)))))) [9, 12, 13, 14])
  .nil)
  .nil)
def lawTail : Ss := (.cons (.asg (.nm 7) (.comp false [("row", 12)] (.nm 12) (.e (.var 3)) .none (.bi .tuple false (.cons (.var 12) .nil))))
  (.cons (.ife (.bo false (.not (.call true 8 (.cons (.call true 10 (.cons (.var 3) (.cons (.var 5) .nil))) (.cons (.var 4) .nil)))) (.bo1 false (.cmp .ne (.call true 9 (.cons (.var 3) .nil)) (.call true 9 (.cons (.var 4) .nil)))))
  (.cons (.ret (.con (.bl false)))
  .nil)
  .nil)
  (.cons (.asg (.nm 8) (.call false 11 (.cons (.var 3) (.cons (.var 4) .nil))))
  (.cons (.ife (.bo false (.not (.call true 12 (.cons (.var 8) (.cons (.var 3) (.cons (.var 4) .nil))))) (.bo1 false (.not (.call true 8 (.cons (.call true 10 (.cons (.var 3) (.cons (.var 8) .nil))) (.cons (.var 4) .nil))))))
  (.cons (.ret (.con (.bl false)))
  .nil)
  .nil)
  (.cons (.ife (.not (.call true 12 (.cons (.call false 11 (.cons (.bi .tuple false (.cons (.var 7) .nil)) (.cons (.var 3) .nil))) (.cons (.var 3) (.cons (.var 3) .nil)))))
  (.cons (.ret (.con (.bl false)))
  .nil)
  .nil)
  (.cons (.ife (.cmp .gt (.var 2) (.con (.int 1)))
  (.cons (.asg (.nm 10) (.call false 2 (.cons (.var 1) (.cons (.var 2) .nil))))
  (.cons (.asg (.nm 11) (.bin .mod false (.bi .int false (.cons (.bin .add false (.bin .add false (.var 10) (.con (.int 1))) (.call false 2 (.cons (.var 1) (.cons (.bin .sub false (.var 2) (.con (.int 1))) .nil)))) .nil)) (.var 2)))
  (.cons (.asg (.sub (.ix (.var 4) (.var 10)) (.var 11)) (.bin .add false (.ix (.ix (.var 4) (.var 10)) (.var 11)) (.con (.int 1))))
  (.cons (.asg (.sub (.ix (.var 4) (.var 11)) (.var 10)) (.bin .sub false (.ix (.ix (.var 4) (.var 11)) (.var 10)) (.con (.int 1))))
  (.cons (.ife (.cmp .isn (.call false 11 (.cons (.var 3) (.cons (.var 4) .nil))) (.con .non))
  (.cons (.ret (.con (.bl false)))
  .nil)
  .nil)
  .nil)))))
  .nil)
  (.cons (.ret (.cmp .eq (.comp false [("row", 12)] (.nm 12) (.e (.var 3)) .none (.bi .tuple false (.cons (.var 12) .nil))) (.var 7)))
  .nil)))))))
theorem b_law_eq : b_law = .cons (.asg (.nm 1) (.call false 1 (.cons (.var 0) .nil)))
  (.cons (.asg (.nm 2) (.ix (.lst false (.cons (.con (.int 3)) (.cons (.con (.int 4)) (.cons (.con (.int 2)) (.cons (.con (.int 5)) (.cons (.con (.int 6)) (.cons (.con (.int 1)) (.cons (.con (.int 7)) (.cons (.con (.int 8)) .nil))))))))) (.call false 2 (.cons (.var 1) (.cons (.con (.int 8)) .nil)))))
  (.cons (.asg (.nm 3) (.call false 3 (.cons (.var 1) (.cons (.var 2) .nil))))
  (.cons (.asg (.nm 4) (.comp true [("row", 12)] (.nm 12) (.e (.var 3)) .none (.bi .list true (.cons (.var 12) .nil))))
  (.cons (.asg (.nm 5) (.lst true .nil))
  (.cons (.asg (.nm 6) (.ix (.lst false (.cons (.con (.int 1)) (.cons (.con (.int 2)) (.cons (.con (.int 1)) .nil)))) (.call false 2 (.cons (.var 1) (.cons (.con (.int 3)) .nil)))))
  (.cons lawIf lawTail)))))) := rfl
abbrev lawEnv (ns : List Int) (n : Nat) (f : F2) (m p : Nat) (t : Int) : Env := [some (.scr ns), some (.cell 0), some (.int n), some (tabD false false n f), some (.cell m), some (.cell p), some (.int t), none, none, none, none, none, none, none, none]
theorem zr_dif {n : Nat} {f : F2} {dn : List (List Nat × Int)} (hc : ∀ q ∈ dn, Cyc n q.1) : Zr n (dif (shifts f dn) f) := fun x hx => by rw [sum_dif, row_shifts x dn f hc]; omega
theorem j_between {n m : Nat} {f g : F2} {a b a' b' : Bool} {x y : D} (X : snap h x = some (tabD a b n f)) (Y : snap h y = some (tabD a' b' n g)) (hn : 1 ≤ n) (hn8 : n ≤ 900) (skf : Skew n f) (skg : Skew n g) (zr : Zr n (dif g f)) :
    ∃ fs h', callM false (run tb (k + 5)) 11 [x, y] h = .ok (.lst (fs.map shD)) h' ∧ Keep h h' ∧ Ch n (dif g f) fs ∧ 2 * fs.length ≤ n * (n - 1) := by
  obtain ⟨d, h', e, K, R⟩ := c_between (k := k + 1) X Y hn hn8 skf skg
  rcases R with ⟨_, fs, rfl, ch, hl⟩ | ⟨nz, _⟩
  · exact ⟨fs, h', e, K, ch, hl⟩
  · exact absurd zr nz
theorem dif_self {n : Nat} (f : F2) : Zr n (dif f f) := fun x hx => by rw [sum_dif]; omega
theorem kept_eq (n : Nat) (f : F2) : D.lst ((List.range n).map fun i => D.tup (iL (rowF n f i))) = tabD false true n f := rfl
theorem r_tail {n m p : Nat} {f g : F2} {dn : List (List Nat × Int)} {H : CH} {ns : List Int} {t : Int} (S : St n f H m p g dn) (hn : 1 ≤ n) (hn8 : n ≤ 8) (skf : Skew n f) :
    ∃ h', fin (evSs (run tb (k + 5)) lawTail (lawEnv ns n f m p t) H) = .ok (.bl true) h' := by
  obtain ⟨cs, M, hcs⟩ := S.mx
  have hz : n ≤ SZ := SZ_of (by omega)
  have skg : Skew n g := by rw [S.eq]; exact shifts_skew _ skf
  have b1 := j_after (k := k) S.dn_ hn (by omega) skf S.cyc
  rw [← S.eq] at b1
  have b2 := j_same (k := k) M (by omega)
  have b3 := j_scores (k := k) (h := H) hn (by omega) skf
  have b4 := j_scores' (k := k) M hn (by omega) skg
  have rs : ((List.range n).map fun i => (rowF n g i).sum) = ((List.range n).map fun i => (rowF n f i).sum) := by
    apply List.map_congr_left
    intro i hi
    rw [S.eq, row_shifts i dn f S.cyc]
  rw [rs] at b4
  have b5 : cmpD .ne (tR ((List.range n).map fun i => (rowF n f i).sum)) (tR ((List.range n).map fun i => (rowF n f i).sum)) H = .ok (.bl false) H := by
    rw [ne_pl (snap_nc (nc_tR _)) (snap_nc (nc_tR _)) (pl_tR _) (pl_tR _), beq_refl']
    rfl
  generalize tR ((List.range n).map fun i => (rowF n f i).sum) = SC at b3 b4 b5
  obtain ⟨fs, H2, e1, K2, ch, hl⟩ := j_between (k := k) (m := 0) (snap_tab (h := H) false false n f) M.snap hn (by omega) skf skg (by rw [S.eq]; exact zr_dif S.cyc)
  have M2 := K2.mx M
  have b6 := j_right (k := k) M2 hn (by omega) ch hl
  have b7 := j_after' (k := k) (h := H2) hn (by omega : n ≤ 900) skf (ch_cyc ch)
  rw [mat_congr (ch_end fs ch)] at b7
  have b8 := j_same (k := k) M2 (by omega)
  obtain ⟨fs0, H3, e2, K3, ch0, hl0⟩ := j_between (k := k) (m := 0) (snap_tab (h := H2) true true n f) (snap_tab (h := H2) false false n f) hn (by omega) skf skf (dif_self f)
  have b9 := j_right' (k := k) (h := H3) hn (by omega) ch0 hl0
  have tk : ∀ h : CH, biD .tuple false [tabD false true n f] h = .ok (tabD true true n f) h := fun h => tuple_ok (items_tab _ _ _ _)
  have fin1 : ∀ h : CH, cmpD .eq (tabD false true n f) (tabD false true n f) h = .ok (.bl true) h := fun h => by
    have pl' : pl 3 (tabD false true n f) = true := by
      show pls 2 _ = true
      exact pls_map _ fun i => pl_tR _
    rw [eq_pl (snap_tab _ _ _ _) (snap_tab _ _ _ _) pl' pl', beq_refl']
  simp [lawTail, lawEnv, e_comp]
  rw [comp_rng rfl (fun i => .tup (iL (rowF n f i)))]
  rotate_left
  · intro i hi
    simp [tuple_ok (items_W _ _)]
  simp only [R.bnd_ok, List.length_map, List.length_range, hz, if_true, newL]
  rw [kept_eq]
  generalize hst : tabD false true n f = KD at tk fin1
  simp [b1, b2, b3, b4, b5, e1, b6, b7, b8, tk, e2, b9]
  have D3 : Drw 0 H3 := drk_keep (K2.trans K3) S.drw
  have M3 := K3.mx M2
  by_cases big : (1 : Int) < n
  · rw [if_pos big]
    obtain ⟨r1, H4, e3, p0, p1, D4⟩ := c_take (k := k + 4) D3 (m := (n : Int)) (by omega)
    obtain ⟨r2, H5, e4, q0, q1, D5⟩ := c_take (k := k + 4) D4.drw (m := (n : Int) - 1) (by omega)
    obtain ⟨u, rfl⟩ : ∃ u : Nat, r1 = u := ⟨r1.toNat, by omega⟩
    have hu : u < n := by omega
    have md : ∀ h : CH, binD .mod false (.int ((u : Int) + 1 + r2)) (.int (n : Nat)) h = .ok (.int (((u : Int) + 1 + r2) % n)) h := fun h => mod_ok (by omega)
    have v0 := Int.emod_nonneg ((u : Int) + 1 + r2) (show (n : Int) ≠ 0 by omega)
    have v1 := Int.emod_lt_of_pos ((u : Int) + 1 + r2) (show (0 : Int) < n by omega)
    have vne : ((u : Int) + 1 + r2) % n ≠ u := by
      by_cases lt : (u : Int) + 1 + r2 < n
      · rw [Int.emod_eq_of_lt (by omega) lt]; omega
      · have : ((u : Int) + 1 + r2) % n = (u : Int) + 1 + r2 - n := by
          rw [← Int.sub_emod_right, Int.emod_eq_of_lt (by omega) (by omega)]
        rw [this]; omega
    generalize ((u : Int) + 1 + r2) % n = w at md v0 v1 vne
    obtain ⟨v, rfl⟩ : ∃ v : Nat, w = v := ⟨w.toNat, by omega⟩
    have hv : v < n := by omega
    have M4 := mx_dr M3 D4 (fun e => S.m0 e.symm) (fun i hi e => (hcs i hi).1 e.symm)
    have M5 := mx_dr M4 D5 (fun e => S.m0 e.symm) (fun i hi e => (hcs i hi).1 e.symm)
    obtain ⟨h6, h7, a1, a2, a3, a4, a5⟩ := put2 M5 hu hv 1
    have skn : Skew n (upd2 g (u, v) 1) := shift_skew skg [(u, v)] 1
    obtain ⟨d, H8, e5, K8, Rb⟩ := c_between (k := k + 1) (snap_tab (h := h7) false false n f) a4.snap hn (by omega) skf skn
    have nz : ¬ Zr n (dif (upd2 g (u, v) 1) f) := fun z => by
      have z1 := z u hu
      rw [sum_dif, row_upd2 g hu hv 1 u, S.eq, row_shifts u dn f S.cyc] at z1
      have : ¬ v = u := by omega
      simp [this] at z1
      omega
    have dn0 : d = .non := by
      rcases Rb with ⟨z, _⟩ | ⟨_, rfl⟩
      · exact absurd z nz
      · rfl
    subst dn0
    have e6 : callM false (run tb (k + 5)) 11 [tabD false false n f, .cell m] h7 = .ok .non H8 := e5
    simp [e3, e4, md, M5.at_row hu, M5.at_ hu hv, a1, a2.at_row hv, a2.at_ hv hu, a3, e6]
    rw [comp_rng rfl (fun i => .tup (iL (rowF n f i)))]
    rotate_left
    · intro i hi
      simp [tuple_ok (items_W _ _)]
    simp only [R.bnd_ok, List.length_map, List.length_range, hz, if_true, newL]
    rw [kept_eq, hst]
    simp [fin1]
  · rw [if_neg big]
    rw [comp_rng rfl (fun i => .tup (iL (rowF n f i)))]
    rotate_left
    · intro i hi
      simp [tuple_ok (items_W _ _)]
    simp only [R.bnd_ok, List.length_map, List.length_range, hz, if_true, newL]
    rw [kept_eq, hst]
    simp [fin1]
theorem r_loop {n m p : Nat} {f : F2} {H : CH} {ns : List Int} {t : Int} (S : St n f H m p f []) (hn : 1 ≤ n) (hn8 : n ≤ 8) (skf : Skew n f) (t0 : 1 ≤ t) (t1 : t ≤ 2) :
    ∃ H' m' g dn, evS (run tb (k + 5)) lawIf (lawEnv ns n f m p t) H = .nx (lawEnv ns n f m' p t) H' ∧ St n f H' m' p g dn := by
  by_cases big : (2 : Int) < n
  · obtain ⟨r, H1, e1, p0, p1, D1⟩ := c_take (k := k + 4) S.drw (m := 5) (by decide)
    have R0 : itD .rng1 [.int r] H1 = .ok ((List.range r.toNat).map (fun i : Nat => D.int i), none) H1 := by
      have : r = ((r.toNat : Nat) : Int) := by omega
      rw [this]
      exact it_rng1 (by omega)
    have S1 : St n f H1 m p f [] := by
      obtain ⟨cs, M, hcs⟩ := S.mx
      exact ⟨D1.drw, ⟨cs, mx_dr M D1 (fun e => S.m0 e.symm) (fun i hi e => (hcs i hi).1 e.symm), hcs⟩, S.m0, S.p0, S.pm, (D1.oth p S.p0).trans S.dn_, S.eq, S.cyc⟩
    simp [lawIf, lawEnv, big, s_fr, e1, R0]
    refine forGo_rng (C := fun r => ∃ H' m', RS.andThen r (fun e h => RS.nx e h) = RS.nx (lawEnv ns n f m' p t) H' ∧ ∃ g dn, St n f H' m' p g dn)
      (fun i env hh => ∃ m' g dn, env = lawEnv ns n f m' p t ∧ St n f hh m' p g dn ∧ dn.length = i) ?_ ?_ ?_ ?_
    · exact ⟨m, f, [], rfl, S1, rfl⟩
    · exact fun _ _ _ _ _ => rfl
    · rintro i env hh hi ⟨m', g, dn, rfl, S2, hd⟩
      obtain ⟨H', m2, g2, dn2, T, S3, hd2⟩ := law_turn (k := k) (ns := ns) (u := (i : Int)) S2 (by omega) hn8 skf t0 t1 (by omega)
      refine ⟨_, rfl, ?_⟩
      obtain ⟨env2, h2, q1, q2, q3⟩ := T
      subst q2
      exact ⟨env2, h2, q1, m2, g2, dn2, q3, S3, by omega⟩
    · rintro env hh ⟨m', g, dn, rfl, S2, hd⟩
      exact ⟨hh, m', by simp, g, dn, S2⟩
  · refine ⟨H, m, f, [], ?_, S⟩
    simp [lawIf, lawEnv, big]
theorem r_law (ns : List Int) (hns : ns.length ≤ 63) : ∃ h', run tb (k + 6) 0 [.scr ns] [] = .ok (.bl true) h' := by
  rw [run_eq (fd := ⟨"law", 1, 15, b_law⟩) rfl rfl]
  obtain ⟨l, hl, e0⟩ := r_draws (k := k + 4) ns hns
  have e1 : callM false (run tb (k + 5)) 1 [.scr ns] [] = .ok (.cell 0) [.lst (iL l)] := by rw [call_heap e0]; rfl
  have D0 : Drw 0 [Cell.lst (iL l)] := ⟨l, hl, rfl⟩
  obtain ⟨r1, H1, e2, p0, p1, D1⟩ := c_take (k := k + 4) D0 (m := 8) (by decide)
  obtain ⟨n, hn, hn8, e3⟩ := many_ok p0 p1
  obtain ⟨f, H2, e4, skf, D2⟩ := c_table (k := k + 2) D1.drw (n := n) (by omega)
  have M := Mx.new H2 n f
  have hz : n ≤ SZ := SZ_of (by omega)
  simp [b_law_eq, envOf, e1, e2, e3, e4, e_comp]
  rw [comp_cells (G := fun i => .lst (iL (rowF n f i))) (fun _ => rfl)]
  rotate_left
  · intro i l hi hl
    simp [list_ok (items_W _ _)]
  have lq : 0 < H2.length := D2.drw.lt
  generalize hH : H2 ++ (List.range n).map (fun i => Cell.lst (iL (rowF n f i))) ++ [.lst ((List.range n).map fun i => .cell (H2.length + i))] = H at *
  have hH2 := hH
  simp at hH2
  have lH : H.length = H2.length + n + 1 := by rw [← hH]; simp; omega
  have DH : Drw 0 (H ++ [.lst []]) := by
    obtain ⟨l, hl, e⟩ := D2.drw
    exact ⟨l, hl, by rw [← hH, List.append_assoc, List.append_assoc]; exact get_app e⟩
  obtain ⟨r2, H3, e5, q0, q1, D3⟩ := c_take (k := k + 4) DH (m := 3) (by decide)
  obtain ⟨t, t0, t1, e6⟩ := step_ok q0 q1
  simp [hz, hH2, e5, e6]
  have S0 : St n f H3 (H2.length + n) H.length f [] := by
    have M1 : Mx (H ++ [.lst []]) (H2.length + n) (fun i => H2.length + i) n f := mx_app M
    refine ⟨D3.drw, ⟨_, mx_dr M1 D3 (by omega) (fun i hi => by omega), fun i hi => ⟨by omega, by omega⟩⟩, by omega, by omega, by omega, ?_, rfl, fun q hq => by simp at hq⟩
    rw [D3.oth _ (by omega)]
    simp
  obtain ⟨H9, m9, g9, dn9, e7, S9⟩ := r_loop (k := k) (ns := ns) S0 hn hn8 skf t0 t1
  simp only [lawEnv] at e7
  rw [e7]
  exact r_tail (k := k) (ns := ns) (t := t) S9 hn hn8 skf
end ZK72

namespace ZK72
open PySem PySem.Spec PyProof.Rows L2 Z
def top (i : Nat) : Stmt := PySem.Challenge.pw_dicewhobeats_k72_whole_shifts_between_ta.main.body.getD i (.Pass ⟨0, 0, 0, 0⟩)
def d_law : Def := ⟨"law", defArgs (top 34), defBody (top 34), defScope (top 34), ["script", "drawn", "many", "first", "second", "done", "step", "kept", "found", "turn", "one", "other", "row", "amount", "told"], ["script"], none, b_law⟩
def d_law_draws_m : Def := ⟨"_law_draws", defArgs (top 24), defBody (top 24), defScope (top 24), ["script", "drawn", "at", "cell", "turn", "state"], ["script"], none, b_law_draws_m⟩
def d_law_take : Def := ⟨"_law_take", defArgs (top 25), defBody (top 25), defScope (top 25), ["drawn", "many"], ["drawn", "many"], none, b_law_take⟩
def d_law_table : Def := ⟨"_law_table", defArgs (top 28), defBody (top 28), defScope (top 28), ["drawn", "many", "top", "rows", "one", "other", "entry"], ["drawn", "many"], none, b_law_table⟩
def d_law_row : Def := ⟨"_law_row", defArgs (top 29), defBody (top 29), defScope (top 29), ["drawn", "many", "left", "row", "turn", "number"], ["drawn", "many"], none, b_law_row⟩
def d_law_wide : Def := ⟨"_law_wide", defArgs (top 26), defBody (top 26), defScope (top 26), ["drawn", "most", "found", "turn"], ["drawn", "most"], none, b_law_wide⟩
def d_shifted_by : Def := ⟨"shifted_by", defArgs (top 19), defBody (top 19), defScope (top 19), ["table", "row", "amount", "rows", "chosen", "line"], ["table", "row", "amount"], none, b_shifted_by⟩
def d_law_shifted_m : Def := ⟨"_law_shifted", defArgs (top 30), defBody (top 30), defScope (top 30), ["rows", "row", "amount", "made", "at", "one", "other", "line"], ["rows", "row", "amount"], none, b_law_shifted_m⟩
def d_law_same : Def := ⟨"_law_same", defArgs (top 31), defBody (top 31), defScope (top 31), ["told", "rows", "at", "entry"], ["told", "rows"], none, b_law_same⟩
def d_table_scores : Def := ⟨"table_scores", defArgs (top 13), defBody (top 13), defScope (top 13), ["table", "row"], ["table"], none, b_table_scores⟩
def d_after_shifts : Def := ⟨"after_shifts", defArgs (top 22), defBody (top 22), defScope (top 22), ["table", "shifts", "rows", "shift", "row", "amount"], ["table", "shifts"], none, b_after_shifts⟩
def d_shifts_between : Def := ⟨"shifts_between", defArgs (top 21), defBody (top 21), defScope (top 21), ["table", "other", "here", "there", "lacking", "found", "row", "way", "amount", "i", "line", "j", "entry", "one", "after"], ["table", "other"], none, b_shifts_between⟩
def d_law_way_right : Def := ⟨"_law_way_right", defArgs (top 33), defBody (top 33), defScope (top 33), ["shifts", "first", "second", "many", "now", "even", "one", "shift", "other", "at", "row"], ["shifts", "first", "second"], none, b_law_way_right⟩
def d_check_table : Def := ⟨"check_table", defArgs (top 11), defBody (top 11), defScope (top 11), ["rows", "many", "row", "i", "j", "here", "there"], ["rows"], none, b_check_table⟩
def d_picked : Def := ⟨"picked", defArgs (top 9), defBody (top 9), defScope (top 9), ["row", "many", "met", "place", "entry"], ["row", "many"], none, b_picked⟩
def d_is_int : Def := ⟨"is_int", defArgs (top 7), defBody (top 7), defScope (top 7), ["value"], ["value"], none, b_is_int⟩
def d_raised_way : Def := ⟨"raised_way", defArgs (top 16), defBody (top 16), defScope (top 16), ["rows", "way", "amount", "one", "other"], ["rows", "way", "amount"], none, b_raised_way⟩
def d_frozen : Def := ⟨"frozen", defArgs (top 17), defBody (top 17), defScope (top 17), ["rows", "row"], ["rows"], none, b_frozen⟩
def d_law_int : Def := ⟨"_law_int", defArgs (top 27), defBody (top 27), defScope (top 27), ["value"], ["value"], none, b_law_int⟩
def d_is_row : Def := ⟨"is_row", defArgs (top 8), defBody (top 8), defScope (top 8), ["value"], ["value"], none, b_is_row⟩
def d_rising_row : Def := ⟨"rising_row", defArgs (top 20), defBody (top 20), defScope (top 20), ["lacking", "starts", "walked", "again", "line", "after", "number", "entry"], ["lacking"], none, b_rising_row⟩
def d_links_of : Def := ⟨"links_of", defArgs (top 15), defBody (top 15), defScope (top 15), ["way", "at"], ["way"], none, b_links_of⟩
def d_law_one_shift : Def := ⟨"_law_one_shift", defArgs (top 32), defBody (top 32), defScope (top 32), ["shift", "many", "at", "number"], ["shift", "many"], none, b_law_one_shift⟩
def d_law_shifted : Def := ⟨"_law_shifted", defArgs (top 30), defBody (top 30), defScope (top 30), ["rows", "row", "amount", "made", "at", "one", "other", "line"], ["rows", "row", "amount"], none, b_law_shifted⟩
def defs : List Def := [d_law, d_law_draws_m, d_law_take, d_law_table, d_law_row, d_law_wide, d_shifted_by, d_law_shifted_m, d_law_same, d_table_scores, d_after_shifts, d_shifts_between, d_law_way_right, d_check_table, d_picked, d_is_int, d_raised_way, d_frozen, d_law_int, d_is_row, d_rising_row, d_links_of, d_law_one_shift, d_law_shifted]
def bn : List Str := ["any", "bool", "enumerate", "int", "isinstance", "len", "list", "max", "min", "range", "sum", "tuple"]
def li : LI := ⟨fnOf' defs, bn, fun _ => none⟩
theorem ls_law : d_law.scB = true := by kernel_rfl
theorem lc_law : d_law.chk li = true := by kernel_rfl
theorem lp_law : d_law.binds := fun _ _ _ _ _ _ us hl => match us, hl with | [_], _ => rfl
theorem ls_law_draws_m : d_law_draws_m.scB = true := by kernel_rfl
theorem lc_law_draws_m : d_law_draws_m.chk li = true := by kernel_rfl
theorem lp_law_draws_m : d_law_draws_m.binds := fun _ _ _ _ _ _ us hl => match us, hl with | [_], _ => rfl
theorem ls_law_take : d_law_take.scB = true := by kernel_rfl
theorem lc_law_take : d_law_take.chk li = true := by kernel_rfl
theorem lp_law_take : d_law_take.binds := fun _ _ _ _ _ _ us hl => match us, hl with | [_, _], _ => rfl
theorem ls_law_table : d_law_table.scB = true := by kernel_rfl
theorem lc_law_table : d_law_table.chk li = true := by kernel_rfl
theorem lp_law_table : d_law_table.binds := fun _ _ _ _ _ _ us hl => match us, hl with | [_, _], _ => rfl
theorem ls_law_row : d_law_row.scB = true := by kernel_rfl
theorem lc_law_row : d_law_row.chk li = true := by kernel_rfl
theorem lp_law_row : d_law_row.binds := fun _ _ _ _ _ _ us hl => match us, hl with | [_, _], _ => rfl
theorem ls_law_wide : d_law_wide.scB = true := by kernel_rfl
theorem lc_law_wide : d_law_wide.chk li = true := by kernel_rfl
theorem lp_law_wide : d_law_wide.binds := fun _ _ _ _ _ _ us hl => match us, hl with | [_, _], _ => rfl
theorem ls_shifted_by : d_shifted_by.scB = true := by kernel_rfl
theorem lc_shifted_by : d_shifted_by.chk li = true := by kernel_rfl
theorem lp_shifted_by : d_shifted_by.binds := fun _ _ _ _ _ _ us hl => match us, hl with | [_, _, _], _ => rfl
theorem ls_law_shifted_m : d_law_shifted_m.scB = true := by kernel_rfl
theorem lc_law_shifted_m : d_law_shifted_m.chk li = true := by kernel_rfl
theorem lp_law_shifted_m : d_law_shifted_m.binds := fun _ _ _ _ _ _ us hl => match us, hl with | [_, _, _], _ => rfl
theorem ls_law_same : d_law_same.scB = true := by kernel_rfl
theorem lc_law_same : d_law_same.chk li = true := by kernel_rfl
theorem lp_law_same : d_law_same.binds := fun _ _ _ _ _ _ us hl => match us, hl with | [_, _], _ => rfl
theorem ls_table_scores : d_table_scores.scB = true := by kernel_rfl
theorem lc_table_scores : d_table_scores.chk li = true := by kernel_rfl
theorem lp_table_scores : d_table_scores.binds := fun _ _ _ _ _ _ us hl => match us, hl with | [_], _ => rfl
theorem ls_after_shifts : d_after_shifts.scB = true := by kernel_rfl
theorem lc_after_shifts : d_after_shifts.chk li = true := by kernel_rfl
theorem lp_after_shifts : d_after_shifts.binds := fun _ _ _ _ _ _ us hl => match us, hl with | [_, _], _ => rfl
theorem ls_shifts_between : d_shifts_between.scB = true := by kernel_rfl
theorem lc_shifts_between : d_shifts_between.chk li = true := by kernel_rfl
theorem lp_shifts_between : d_shifts_between.binds := fun _ _ _ _ _ _ us hl => match us, hl with | [_, _], _ => rfl
theorem ls_law_way_right : d_law_way_right.scB = true := by kernel_rfl
theorem lc_law_way_right : d_law_way_right.chk li = true := by kernel_rfl
theorem lp_law_way_right : d_law_way_right.binds := fun _ _ _ _ _ _ us hl => match us, hl with | [_, _, _], _ => rfl
theorem ls_check_table : d_check_table.scB = true := by kernel_rfl
theorem lc_check_table : d_check_table.chk li = true := by kernel_rfl
theorem lp_check_table : d_check_table.binds := fun _ _ _ _ _ _ us hl => match us, hl with | [_], _ => rfl
theorem ls_picked : d_picked.scB = true := by kernel_rfl
theorem lc_picked : d_picked.chk li = true := by kernel_rfl
theorem lp_picked : d_picked.binds := fun _ _ _ _ _ _ us hl => match us, hl with | [_, _], _ => rfl
theorem ls_is_int : d_is_int.scB = true := by kernel_rfl
theorem lc_is_int : d_is_int.chk li = true := by kernel_rfl
theorem lp_is_int : d_is_int.binds := fun _ _ _ _ _ _ us hl => match us, hl with | [_], _ => rfl
theorem ls_raised_way : d_raised_way.scB = true := by kernel_rfl
theorem lc_raised_way : d_raised_way.chk li = true := by kernel_rfl
theorem lp_raised_way : d_raised_way.binds := fun _ _ _ _ _ _ us hl => match us, hl with | [_, _, _], _ => rfl
theorem ls_frozen : d_frozen.scB = true := by kernel_rfl
theorem lc_frozen : d_frozen.chk li = true := by kernel_rfl
theorem lp_frozen : d_frozen.binds := fun _ _ _ _ _ _ us hl => match us, hl with | [_], _ => rfl
theorem ls_law_int : d_law_int.scB = true := by kernel_rfl
theorem lc_law_int : d_law_int.chk li = true := by kernel_rfl
theorem lp_law_int : d_law_int.binds := fun _ _ _ _ _ _ us hl => match us, hl with | [_], _ => rfl
theorem ls_is_row : d_is_row.scB = true := by kernel_rfl
theorem lc_is_row : d_is_row.chk li = true := by kernel_rfl
theorem lp_is_row : d_is_row.binds := fun _ _ _ _ _ _ us hl => match us, hl with | [_], _ => rfl
theorem ls_rising_row : d_rising_row.scB = true := by kernel_rfl
theorem lc_rising_row : d_rising_row.chk li = true := by kernel_rfl
theorem lp_rising_row : d_rising_row.binds := fun _ _ _ _ _ _ us hl => match us, hl with | [_], _ => rfl
theorem ls_links_of : d_links_of.scB = true := by kernel_rfl
theorem lc_links_of : d_links_of.chk li = true := by kernel_rfl
theorem lp_links_of : d_links_of.binds := fun _ _ _ _ _ _ us hl => match us, hl with | [_], _ => rfl
theorem ls_law_one_shift : d_law_one_shift.scB = true := by kernel_rfl
theorem lc_law_one_shift : d_law_one_shift.chk li = true := by kernel_rfl
theorem lp_law_one_shift : d_law_one_shift.binds := fun _ _ _ _ _ _ us hl => match us, hl with | [_, _], _ => rfl
theorem ls_law_shifted : d_law_shifted.scB = true := by kernel_rfl
theorem lc_law_shifted : d_law_shifted.chk li = true := by kernel_rfl
theorem lp_law_shifted : d_law_shifted.binds := fun _ _ _ _ _ _ us hl => match us, hl with | [_, _, _], _ => rfl
theorem all_s : ∀ (i : Nat) (d : Def), defs[i]? = some d → d.scB = true
  | 0, _, h => by cases h; exact ls_law
  | 1, _, h => by cases h; exact ls_law_draws_m
  | 2, _, h => by cases h; exact ls_law_take
  | 3, _, h => by cases h; exact ls_law_table
  | 4, _, h => by cases h; exact ls_law_row
  | 5, _, h => by cases h; exact ls_law_wide
  | 6, _, h => by cases h; exact ls_shifted_by
  | 7, _, h => by cases h; exact ls_law_shifted_m
  | 8, _, h => by cases h; exact ls_law_same
  | 9, _, h => by cases h; exact ls_table_scores
  | 10, _, h => by cases h; exact ls_after_shifts
  | 11, _, h => by cases h; exact ls_shifts_between
  | 12, _, h => by cases h; exact ls_law_way_right
  | 13, _, h => by cases h; exact ls_check_table
  | 14, _, h => by cases h; exact ls_picked
  | 15, _, h => by cases h; exact ls_is_int
  | 16, _, h => by cases h; exact ls_raised_way
  | 17, _, h => by cases h; exact ls_frozen
  | 18, _, h => by cases h; exact ls_law_int
  | 19, _, h => by cases h; exact ls_is_row
  | 20, _, h => by cases h; exact ls_rising_row
  | 21, _, h => by cases h; exact ls_links_of
  | 22, _, h => by cases h; exact ls_law_one_shift
  | 23, _, h => by cases h; exact ls_law_shifted
  | n + 24, _, h => by cases h
theorem all_c : ∀ (i : Nat) (d : Def), defs[i]? = some d → d.chk li = true
  | 0, _, h => by cases h; exact lc_law
  | 1, _, h => by cases h; exact lc_law_draws_m
  | 2, _, h => by cases h; exact lc_law_take
  | 3, _, h => by cases h; exact lc_law_table
  | 4, _, h => by cases h; exact lc_law_row
  | 5, _, h => by cases h; exact lc_law_wide
  | 6, _, h => by cases h; exact lc_shifted_by
  | 7, _, h => by cases h; exact lc_law_shifted_m
  | 8, _, h => by cases h; exact lc_law_same
  | 9, _, h => by cases h; exact lc_table_scores
  | 10, _, h => by cases h; exact lc_after_shifts
  | 11, _, h => by cases h; exact lc_shifts_between
  | 12, _, h => by cases h; exact lc_law_way_right
  | 13, _, h => by cases h; exact lc_check_table
  | 14, _, h => by cases h; exact lc_picked
  | 15, _, h => by cases h; exact lc_is_int
  | 16, _, h => by cases h; exact lc_raised_way
  | 17, _, h => by cases h; exact lc_frozen
  | 18, _, h => by cases h; exact lc_law_int
  | 19, _, h => by cases h; exact lc_is_row
  | 20, _, h => by cases h; exact lc_rising_row
  | 21, _, h => by cases h; exact lc_links_of
  | 22, _, h => by cases h; exact lc_law_one_shift
  | 23, _, h => by cases h; exact lc_law_shifted
  | n + 24, _, h => by cases h
theorem all_p : ∀ (i : Nat) (d : Def), defs[i]? = some d → d.binds
  | 0, _, h => by cases h; exact lp_law
  | 1, _, h => by cases h; exact lp_law_draws_m
  | 2, _, h => by cases h; exact lp_law_take
  | 3, _, h => by cases h; exact lp_law_table
  | 4, _, h => by cases h; exact lp_law_row
  | 5, _, h => by cases h; exact lp_law_wide
  | 6, _, h => by cases h; exact lp_shifted_by
  | 7, _, h => by cases h; exact lp_law_shifted_m
  | 8, _, h => by cases h; exact lp_law_same
  | 9, _, h => by cases h; exact lp_table_scores
  | 10, _, h => by cases h; exact lp_after_shifts
  | 11, _, h => by cases h; exact lp_shifts_between
  | 12, _, h => by cases h; exact lp_law_way_right
  | 13, _, h => by cases h; exact lp_check_table
  | 14, _, h => by cases h; exact lp_picked
  | 15, _, h => by cases h; exact lp_is_int
  | 16, _, h => by cases h; exact lp_raised_way
  | 17, _, h => by cases h; exact lp_frozen
  | 18, _, h => by cases h; exact lp_law_int
  | 19, _, h => by cases h; exact lp_is_row
  | 20, _, h => by cases h; exact lp_rising_row
  | 21, _, h => by cases h; exact lp_links_of
  | 22, _, h => by cases h; exact lp_law_one_shift
  | 23, _, h => by cases h; exact lp_law_shifted
  | n + 24, _, h => by cases h
theorem tab_eq : tabOf defs = tb := by
  funext i
  match i with
  | 0 => rfl
  | 1 => rfl
  | 2 => rfl
  | 3 => rfl
  | 4 => rfl
  | 5 => rfl
  | 6 => rfl
  | 7 => rfl
  | 8 => rfl
  | 9 => rfl
  | 10 => rfl
  | 11 => rfl
  | 12 => rfl
  | 13 => rfl
  | 14 => rfl
  | 15 => rfl
  | 16 => rfl
  | 17 => rfl
  | 18 => rfl
  | 19 => rfl
  | 20 => rfl
  | 21 => rfl
  | 22 => rfl
  | 23 => rfl
  | n + 24 => rfl
end ZK72

namespace ZK72
open PySem PySem.Spec PyProof.Rows L2 Z
def fa : List He.Fa := defs.map (fun d => He.Fa.glo d.nm) ++ bn.map He.Fa.free
abbrev R : PySem.W.OpenRow := PySem.W.OpenLaw.row PySem.Challenge.rw_dicewhobeats_k72_whole_shifts_between_ta
abbrev fnH : List He.DefD := defs.map Def.hd
abbrev hk : PySem.W.Hook := He.hookD 4 fa fnH
def ob (s : PySem.W.SharedT) : He.AlD := He.obsDG 4 fa fnH (HandSHeadRun.getT s)
theorem ob_eq (s : PySem.W.SharedT) : ob s = hk.obs s.abs := He.obsDG_eq (HandSHeadRun.getT_eq s)
def nm0 : List PySem.Str := ["DiceError", "BadNumber", "BadTable", "OtherSize", "BadSet", "is_int", "is_row", "picked", "check_table", "table_scores", "links_of", "raised_way", "frozen", "shifted_by", "rising_row", "shifts_between", "after_shifts", "_law_draws", "_law_take", "_law_wide"]
def nm1 : List PySem.Str := ["_law_int", "_law_table", "_law_row", "_law_shifted", "_law_same", "_law_one_shift", "_law_way_right"]
def nms : List PySem.Str := nm0 ++ nm1
theorem runs (w : World) : HandSHeadRun.RunEq R (PySem.W.view R.prog [34]) hk ob 4000 nms w := by
  intro os
  kernel_rfl
theorem binds_law {K : PySem.W.Frag} {fd : FuncData} (F : d_law.At K fd) (s : Shared) (u : Value) : BindsTo s fd ⟨[u], []⟩ [("script", u)] := FunD.bindsA (ps := ["script"]) F lp_law s [u] rfl
end ZK72
open PySem PySem.W PySem.Calls PyProof.Rows
theorem ZK72.holds_of (H : ∀ ns : List Int, ns.length ≤ 63 → ∃ h', Z.run ZK72.tb 20 0 [.scr ns] [] = .ok (.bl true) h') : PySem.Challenge.rw_dicewhobeats_k72_whole_shifts_between_ta.Holds := by
  w_on; o_law
  refine HandSHeadRun.head_any (r := OpenLaw.row PySem.Challenge.rw_dicewhobeats_k72_whole_shifts_between_ta) (q := view (OpenLaw.row PySem.Challenge.rw_dicewhobeats_k72_whole_shifts_between_ta).prog [34]) (H := ZK72.hk) (ob := ZK72.ob) (M := 4000) (loose := ZK72.nms) (d := HandSHeadRun.topDef (OpenLaw.row PySem.Challenge.rw_dicewhobeats_k72_whole_shifts_between_ta).prog 34) (kwd := []) ZK72.ob_eq
    (by kernel_rfl) (fun s => by kernel_rfl) ZK72.runs (by kernel_rfl) (by kernel_rfl) (by kernel_rfl) (by rfl) (by first | assumption | decide +kernel) (by decide +kernel) ⟨rfl, rfl, rfl, rfl, rfl, by decide +kernel⟩ ?hw ?hc
  case hw => w_witness2
  case hc =>
    refine L2.walk_ofE (l := PySem.Challenge.rw_dicewhobeats_k72_whole_shifts_between_ta) (n := 63) (k := 20) (x := "script") (CX := L2.CX0) rfl (by decide) (by kernel_rfl) ⟨rfl, by decide, by decide⟩ ?F (fun _ _ _ _ z => z)
    intro w mg fa h Y G hmg0
    obtain ⟨K, KX, c⟩ := Y
    have hmg : mg ("law" : PySem.Str) = some (.ref fa) := by
      have e : (HandSHeadRun.topDef (OpenLaw.row PySem.Challenge.rw_dicewhobeats_k72_whole_shifts_between_ta).prog 34).name = ("law" : PySem.Str) := by kernel_rfl
      rw [← e]
      exact hmg0
    have S := Z.facts_of (bn := ZK72.bn) KX G c (fun d hd => List.mem_append_left _ (List.mem_map_of_mem hd)) (fun x hx => List.mem_append_right _ (List.mem_map_of_mem hx))
    obtain ⟨⟨fd, F⟩, hm⟩ := S.def_ 0 ZK72.d_law rfl
    have e := hmg.symm.trans hm
    cases e
    refine ⟨K, fd, Z.spOf K (fun _ => none) (Z.run (Z.tabOf ZK72.defs) 20) 0 1, KX, fun s u => ZK72.binds_law F s u, fun Hp a ns hl hO hS => ?_, fun base _ _ => Z.run_ok S ZK72.all_p ZK72.all_s ZK72.all_c 20 0 ZK72.d_law rfl fd F⟩
    obtain ⟨h', e⟩ := H ns hl
    rw [← ZK72.tab_eq] at e
    exact Z.law_sp hO hS e _

theorem PySem.Challenge.cw_dicewhobeats_k72_whole_shifts_between_ta_holds : PySem.Challenge.rw_dicewhobeats_k72_whole_shifts_between_ta.Holds := by
  exact ZK72.holds_of fun ns hn => ZK72.r_law (k := 14) ns hn
