import PyProof.Rows.All
import KE.DataEq
import KE.SortData
import Wide.All
import OpenK.AllK
import Wide.FinOn
import HandS.ForMost
import HandS.IsInst
import HandS.Wide
import HandS.Style
import HandS.Zip
import HandS.Walk
import HandS.Deep
import HandS.Defaults
import HandS.WideBits
import HandS.TupAny
import HandS.Conv
import HandS.SetFor
import HandS.IterVal
import KE.KDictZip
import KE.DataFind
import HandS.Text
import HandS.Iter
import HandS.Dict
import HandS.WordsDict
import PyProof.ReprBulk
import PyProof.FitsInt
import PySem.Challenge.RW_saidahead_k11_hidden_models_and_beliefs
section
set_option linter.all false
/-! DLcore: the data layer, plain: values as data, the meaning of a def's body as a function of slots. -/
namespace DL
open PySem
abbrev D := PyData

/-- what a slot holds: data that nobody changes any more, a list of one's own, a list lent by the caller to be changed -/
inductive SV where
  | d (x : D) | own (xs : List D) | lent (xs : List D)
abbrev DSt := List (Option SV)
/-- an expression's value: data, a new list, the list in a slot -/
inductive Rv where
  | d (x : D) | tmp (xs : List D) | sl (i : Nat)
/-- what a def hands back -/
inductive Rt where
  | d (x : D) | own (xs : List D)
/-- what a def is handed -/
inductive Ar where
  | d (x : D) | m (xs : List D)
inductive Fl where
  | nx | bk | ct | rt (r : Rt)
abbrev DE := DSt → Option (Rv × DSt)
abbrev DT := DSt → Option (Bool × DSt)
abbrev DA := DSt → Option (List Rv × DSt)
abbrev DO := DSt → Option (Option Int × DSt)
abbrev DS := DSt → Option (Fl × DSt)
/-- a walked thing: its items -/
abbrev DI := DSt → Option (List D × DSt)
/-- a target: the item is stored -/
abbrev DG := D → DSt → Option DSt
abbrev Fn := List Ar → Option (Rt × List (List D))

def lookS : Option SV → Option D
  | some (.d x) => some x
  | some (.own xs) => some (.list xs)
  | some (.lent xs) => some (.list xs)
  | none => none
def look (st : DSt) : Rv → Option D
  | .d x => some x
  | .tmp xs => some (.list xs)
  | .sl i => lookS (st.getD i none)
def looks (st : DSt) : List Rv → Option (List D)
  | [] => some []
  | r :: rs => (look st r).bind fun x => (looks st rs).bind fun xs => some (x :: xs)
/-- a value given away: it is changed no more -/
def toD (st : DSt) : Rv → Option (D × DSt)
  | .d x => some (x, st)
  | .tmp xs => some (.list xs, st)
  | .sl i => match st.getD i none with
    | some (.d x) => some (x, st)
    | some (.own xs) => some (.list xs, st.set i (some (.d (.list xs))))
    | _ => none
def toDs (st : DSt) : List Rv → Option (List D × DSt)
  | [] => some ([], st)
  | r :: rs => (toD st r).bind fun p => (toDs p.2 rs).bind fun q => some (p.1 :: q.1, q.2)

/-! ### expressions -/
def dVar (i : Nat) : DE := fun st => match st.getD i none with
  | some (.d x) => some (.d x, st)
  | some (.own _) => some (.sl i, st)
  | some (.lent _) => some (.sl i, st)
  | none => none
def dC (x : D) : DE := fun st => some (.d x, st)
def dNil : DA := fun st => some ([], st)
def dCons (f : DE) (g : DA) : DA := fun st => (f st).bind fun p => (g p.2).bind fun q => some (p.1 :: q.1, q.2)
def dOp2 (op : D → D → Option Rv) (f g : DE) : DE := fun st => (f st).bind fun p => (g p.2).bind fun q =>
  (look q.2 p.1).bind fun x => (look q.2 q.1).bind fun y => (op x y).bind fun z => some (z, q.2)
def dOp1 (op : D → Option Rv) (f : DE) : DE := fun st => (f st).bind fun p => (look p.2 p.1).bind fun x => (op x).bind fun z => some (z, p.2)
def dCallB (op : List D → Option Rv) (f : DA) : DE := fun st => (f st).bind fun p => (looks p.2 p.1).bind fun xs => (op xs).bind fun z => some (z, p.2)
def dSlice (op : D → Option Int → Option Int → Option Rv) (f : DE) (lo hi : DO) : DE := fun st => (f st).bind fun p => (lo p.2).bind fun l => (hi l.2).bind fun h =>
  (look h.2 p.1).bind fun x => (op x l.1 h.1).bind fun z => some (z, h.2)
def dNoPart : DO := fun st => some (none, st)
def dPart (f : DE) : DO := fun st => (f st).bind fun p => match look p.2 p.1 with
  | some (.int i) => some (some i, p.2)
  | _ => none
def dList (f : DA) : DE := fun st => (f st).bind fun p => (toDs p.2 p.1).bind fun q => if q.1.length ≤ sizeLine then some (.tmp q.1, q.2) else none
def dTup (f : DA) : DE := fun st => (f st).bind fun p => (toDs p.2 p.1).bind fun q => if q.1.length ≤ sizeLine then some (.d (.tuple q.1), q.2) else none
def asB : D → Option Bool
  | .bool b => some b
  | _ => none
/-- a test whose value is a bool -/
def dTest (f : DE) : DT := fun st => (f st).bind fun p => match look p.2 p.1 with
  | some (.bool b) => some (b, p.2)
  | _ => none
def dNot (f : DT) : DT := fun st => (f st).bind fun p => some (!p.1, p.2)
def dAnd (f g : DT) : DT := fun st => (f st).bind fun p => if p.1 = true then g p.2 else some (false, p.2)
def dOr (f g : DT) : DT := fun st => (f st).bind fun p => if p.1 = true then some (true, p.2) else g p.2
/-- as values: all but the last are bools -/
def dAndV (f g : DE) : DE := fun st => (f st).bind fun p => match look p.2 p.1 with
  | some (.bool b) => if b = true then g p.2 else some (.d (.bool false), p.2)
  | _ => none
def dOrV (f g : DE) : DE := fun st => (f st).bind fun p => match look p.2 p.1 with
  | some (.bool b) => if b = true then some (.d (.bool true), p.2) else g p.2
  | _ => none
def dNotV (f : DE) : DE := fun st => (f st).bind fun p => match look p.2 p.1 with
  | some (.bool b) => some (.d (.bool (!b)), p.2)
  | _ => none
def dIf (t : DT) (f g : DE) : DE := fun st => (t st).bind fun p => if p.1 = true then f p.2 else g p.2

/-! ### calls of defs -/
/-- data arguments are given away; lent ones are slots -/
def marsh (st : DSt) : List (Rv × Bool) → Option (List (Sum D Nat) × DSt)
  | [] => some ([], st)
  | (r, false) :: rs => (toD st r).bind fun p => (marsh p.2 rs).bind fun q => some (.inl p.1 :: q.1, q.2)
  | (.sl i, true) :: rs => (marsh st rs).bind fun q => some (.inr i :: q.1, q.2)
  | (_, true) :: _ => none
def lentAt (st : DSt) : Sum D Nat → Option Ar
  | .inl x => some (.d x)
  | .inr i => match st.getD i none with
    | some (.own xs) => some (.m xs)
    | some (.lent xs) => some (.m xs)
    | _ => none
def lents (st : DSt) : List (Sum D Nat) → Option (List Ar)
  | [] => some []
  | a :: r => (lentAt st a).bind fun x => (lents st r).bind fun xs => some (x :: xs)
def lentIx : List (Sum D Nat) → List Nat
  | [] => []
  | .inl _ :: r => lentIx r
  | .inr i :: r => i :: lentIx r
def putBack (st : DSt) : List Nat → List (List D) → Option DSt
  | [], [] => some st
  | i :: is, xs :: r => match st.getD i none with
    | some (.own _) => putBack (st.set i (some (.own xs))) is r
    | some (.lent _) => putBack (st.set i (some (.lent xs))) is r
    | _ => none
  | _, _ => none
def rvOf : Rt → Rv
  | .d x => .d x
  | .own xs => .tmp xs
/-- f(e, ..): modes: which arguments are lent; more: the defaults -/
def dCall (g : Fn) (modes : List Bool) (more : List D) (f : DA) : DE := fun st => (f st).bind fun p =>
  (marsh p.2 (p.1.zip modes)).bind fun q => if (lentIx q.1).length ≤ 1 ∧ p.1.length = modes.length then
    (lents q.2 q.1).bind fun as => (g (as ++ more.map Ar.d)).bind fun r => (putBack q.2 (lentIx q.1) r.2).bind fun st' => some (rvOf r.1, st')
  else none
def permute {α : Type} (perm : List Nat) (xs : List α) : List α := perm.filterMap fun i => xs[i]?
/-- f(e, .., k = v, ..): n positional ones, m named ones, more: the defaults; perm brings them to the parameters' order; none is lent -/
def dCallK (g : Fn) (n m : Nat) (perm : List Nat) (more : List D) (f f2 : DA) : DE := fun st => (f st).bind fun p => (f2 p.2).bind fun p2 =>
  (toDs p2.2 (p.1 ++ p2.1)).bind fun q => if p.1.length = n ∧ p2.1.length = m then
    (g ((permute perm (q.1 ++ more)).map Ar.d)).bind fun r => some (rvOf r.1, q.2)
  else none

/-! ### walked things -/
def dIter (op : D → Option (List D)) (f : DE) : DI := fun st => (f st).bind fun p => (toD p.2 p.1).bind fun q => (op q.1).bind fun xs => some (xs, q.2)
def dIterA (op : List D → Option (List D)) (f : DA) : DI := fun st => (f st).bind fun p => (toDs p.2 p.1).bind fun q => (op q.1).bind fun xs => some (xs, q.2)

/-! ### targets -/
def setS (st : DSt) (i : Nat) (v : SV) : Option DSt := match st.getD i none with
  | some (.lent _) => none
  | _ => if i < st.length then some (st.set i (some v)) else none
def gName (i : Nat) : DG := fun x st => setS st i (.d x)
abbrev DGs := List D → DSt → Option DSt
def gNil : DGs := fun xs st => match xs with
  | [] => some st
  | _ => none
def gCons (g : DG) (h : DGs) : DGs := fun xs st => match xs with
  | x :: r => (g x st).bind fun st' => h r st'
  | _ => none
def gTup (n : Nat) (h : DGs) : DG := fun x st => match x with
  | .tuple xs => if xs.length = n then h xs st else none
  | _ => none

/-! ### comprehensions -/
def wipeD (st : DSt) : List Nat → DSt
  | [] => st
  | v :: vs => (wipeD st vs).set v none
/-- the block's own slots are empty ahead; a turn: the target, the tests, the element -/
def lcGo (g : DG) (t : DT) (e : DE) (vs : List Nat) : List D → DSt → Option (List D × DSt)
  | [], st => some ([], st)
  | x :: xs, st => (g x st).bind fun s1 => (t s1).bind fun p => if p.1 = true then
      (e p.2).bind fun q => (toD q.2 q.1).bind fun r => (lcGo g t e vs xs (wipeD r.2 vs)).bind fun w => some (r.1 :: w.1, w.2)
    else lcGo g t e vs xs (wipeD p.2 vs)
/-- the slots as they stood ahead -/
def refill (s0 st : DSt) : List Nat → DSt
  | [] => st
  | v :: vs => (refill s0 st vs).set v (s0.getD v none)
def dLc (it : DI) (g : DG) (t : DT) (e : DE) (vs : List Nat) : DE := fun st => (it st).bind fun p =>
  if p.1.length ≤ sizeLine ∧ vs.all (fun i => match p.2.getD i none with | none => true | some (.d _) => true | _ => false) = true then
    (lcGo g t e vs p.1 (wipeD p.2 vs)).bind fun q => some (.tmp q.1, refill p.2 q.2 vs)
  else none
def dTests : DT := fun st => some (true, st)
def dTests1 (t : DT) : DT := t

/-! ### statements -/
def dNext : DS := fun st => some (.nx, st)
def dSeq (f g : DS) : DS := fun st => (f st).bind fun p => match p.1 with
  | .nx => g p.2
  | _ => some p
def dBreak : DS := fun st => some (.bk, st)
def dCont : DS := fun st => some (.ct, st)
def dNever : DS := fun _ => none
/-- x = e -/
def dSet (i : Nat) (f : DE) : DS := fun st => (f st).bind fun p => match p.1 with
  | .tmp xs => (setS p.2 i (.own xs)).bind fun s => some (.nx, s)
  | r => (toD p.2 r).bind fun q => (setS q.2 i (.d q.1)).bind fun s => some (.nx, s)
/-- target = e, a tuple of targets -/
def dAsg (g : DG) (f : DE) : DS := fun st => (f st).bind fun p => (toD p.2 p.1).bind fun q => (g q.1 q.2).bind fun s => some (.nx, s)
/-- a, b = e1, e2: no tuple -/
def dPar (is : List Nat) (f : DA) : DS := fun st => (f st).bind fun p => (toDs p.2 p.1).bind fun q => (parGo is q.1 q.2).bind fun s => some (.nx, s)
where parGo : List Nat → List D → DSt → Option DSt
  | [], [], st => some st
  | i :: is, x :: xs, st => (setS st i (.d x)).bind fun s => parGo is xs s
  | _, _, _ => none
/-- x op= e -/
def dAug (op : D → D → Option Rv) (i : Nat) (f : DE) : DS := fun st => (dVar i st).bind fun v => (f v.2).bind fun p =>
  match v.1 with
  | .d x => (look p.2 p.1).bind fun y => match op x y with
    | some (.d z) => (setS p.2 i (.d z)).bind fun s => some (.nx, s)
    | _ => none
  | _ => none
/-- a list at a slot is changed -/
def putL (st : DSt) (i : Nat) (xs : List D) : Option DSt := match st.getD i none with
  | some (.own _) => some (st.set i (some (.own xs)))
  | some (.lent _) => some (st.set i (some (.lent xs)))
  | _ => none
def getL (st : DSt) (i : Nat) : Option (List D) := match st.getD i none with
  | some (.own xs) => some xs
  | some (.lent xs) => some xs
  | _ => none
/-- xs.append(e) -/
def dAppend (i : Nat) (f : DE) : DS := fun st => (getL st i).bind fun _ => (f st).bind fun p => (toD p.2 p.1).bind fun q => (getL q.2 i).bind fun xs =>
  if xs.length < sizeLine then (putL q.2 i (xs ++ [q.1])).bind fun s => some (.nx, s) else none
def ixAt {α : Type} (xs : List α) (i : Int) : Option Nat := if 0 ≤ i then (if i < xs.length then some i.toNat else none) else if -(xs.length : Int) ≤ i then some (i + xs.length).toNat else none
/-- xs[k] = e -/
def dSetIx (i : Nat) (k f : DE) : DS := fun st => (f st).bind fun p => (toD p.2 p.1).bind fun q => (getL q.2 i).bind fun _ => (k q.2).bind fun r => match look r.2 r.1 with
  | some (.int j) => (getL r.2 i).bind fun xs => (ixAt xs j).bind fun n => (putL r.2 i (xs.set n q.1)).bind fun s => some (.nx, s)
  | _ => none
/-- xs[k] op= e -/
def dAugIx (op : D → D → Option Rv) (i : Nat) (k f : DE) : DS := fun st => (getL st i).bind fun _ => (k st).bind fun r => match look r.2 r.1 with
  | some (.int j) => (getL r.2 i).bind fun xs => (ixAt xs j).bind fun n => (xs[n]?).bind fun x => (f r.2).bind fun p => (look p.2 p.1).bind fun y =>
    match op x y with
    | some (.d z) => (getL p.2 i).bind fun ys => (ixAt ys j).bind fun n' => (putL p.2 i (ys.set n' z)).bind fun s => some (.nx, s)
    | _ => none
  | _ => none
def dDrop (f : DE) : DS := fun st => (f st).bind fun p => some (.nx, p.2)
def dRet (f : DE) : DS := fun st => (f st).bind fun p => match p.1 with
  | .d x => some (.rt (.d x), p.2)
  | .tmp xs => some (.rt (.own xs), p.2)
  | .sl i => match p.2.getD i none with
    | some (.d x) => some (.rt (.d x), p.2)
    | some (.own xs) => some (.rt (.own xs), p.2.set i none)
    | _ => none
def dRetN : DS := fun st => some (.rt (.d .none), st)
def dIfS (t : DT) (f g : DS) : DS := fun st => (t st).bind fun p => if p.1 = true then f p.2 else g p.2
def forGo (g : DG) (b : DS) : List D → DSt → Option (Fl × DSt)
  | [], st => some (.nx, st)
  | x :: xs, st => (g x st).bind fun s => (b s).bind fun p => match p.1 with
    | .nx => forGo g b xs p.2
    | .ct => forGo g b xs p.2
    | .bk => some (.nx, p.2)
    | .rt r => some (.rt r, p.2)
def dFor (it : DI) (g : DG) (b : DS) : DS := fun st => (it st).bind fun p => forGo g b p.1 p.2
def whileN (t : DT) (b : DS) : Nat → DSt → Option (Fl × DSt)
  | 0, _ => none
  | n + 1, st => (t st).bind fun q => if q.1 = true then (b q.2).bind fun p => match p.1 with
      | .nx => whileN t b n p.2
      | .ct => whileN t b n p.2
      | .bk => some (.nx, p.2)
      | .rt r => some (.rt r, p.2)
    else some (.nx, q.2)
open Classical in
noncomputable def dWhile (t : DT) (b : DS) : DS := fun st => if h : ∃ n r, whileN t b n st = some r then some (choose (choose_spec h)) else none

/-! ### a def -/
def arS : Ar → SV
  | .d x => .d x
  | .m xs => .lent xs
def startD (n : Nat) (as : List Ar) : DSt := as.map (fun a => some (arS a)) ++ List.replicate (n - as.length) none
/-- the lent lists behind the run -/
def outsGo (st : DSt) : List Ar → Nat → Option (List (List D))
  | [], _ => some []
  | .d _ :: r, i => outsGo st r (i + 1)
  | .m _ :: r, i => match st.getD i none with
    | some (.lent xs) => (outsGo st r (i + 1)).bind fun o => some (xs :: o)
    | _ => none
def run (n : Nat) (b : DS) : Fn := fun as => (b (startD n as)).bind fun p => (outsGo p.2 as 0).bind fun o => match p.1 with
  | .nx => some (.d .none, o)
  | .rt r => some (r, o)
  | _ => none

/-! ### what the operators make -/
def opAdd : D → D → Option Rv
  | .int i, .int j => some (.d (.int (i + j)))
  | .str a, .str b => if a.length + b.length ≤ sizeLine then some (.d (.str (a ++ b))) else none
  | .list xs, .list ys => if xs.length + ys.length ≤ sizeLine then some (.tmp (xs ++ ys)) else none
  | _, _ => none
/-- in place -/
def opAddI : D → D → Option Rv
  | .int i, .int j => some (.d (.int (i + j)))
  | _, _ => none
def opSub : D → D → Option Rv
  | .int i, .int j => some (.d (.int (i - j)))
  | _, _ => none
def opMul : D → D → Option Rv
  | .int i, .int j => if i.natAbs.log2 + j.natAbs.log2 < 1000000 then some (.d (.int (i * j))) else none
  | .list xs, .int k => if -(2 ^ 63) ≤ k ∧ k < 2 ^ 63 ∧ xs.length * k.toNat ≤ sizeLine then some (.tmp (List.replicate k.toNat xs).flatten) else none
  | _, _ => none
def opDiv : D → D → Option Rv
  | .int i, .int j => if 0 < j ∧ j.natAbs.log2 < 9000 then some (.d (.int (i / j))) else none
  | _, _ => none
def opMod : D → D → Option Rv
  | .int i, .int j => if 0 < j then some (.d (.int (i % j))) else none
  | _, _ => none
def opPow : D → D → Option Rv
  | .int i, .int j => if 0 ≤ j ∧ j ≤ 1000000 ∧ i.natAbs < 2 ^ 64 then some (.d (.int (i ^ j.toNat))) else none
  | _, _ => none
def opNeg : D → Option Rv
  | .int i => some (.d (.int (-i)))
  | _ => none
def opCmp (p : Int → Int → Bool) : D → D → Option Rv
  | .int i, .int j => some (.d (.bool (p i j)))
  | _, _ => none
def opLt : D → D → Option Rv := opCmp fun i j => decide (i < j)
def opLe : D → D → Option Rv := opCmp fun i j => decide (i ≤ j)
def opGt : D → D → Option Rv := opCmp fun i j => decide (j < i)
def opGe : D → D → Option Rv := opCmp fun i j => decide (j ≤ i)
/-- no dict within, not too deep: what == takes -/
def flat (x : D) : Bool := x.plain && decide (x.depth ≤ 64)
def opEq (x y : D) : Option Rv := if flat x = true ∧ flat y = true then some (.d (.bool (PyData.eqv x y))) else none
def opNe (x y : D) : Option Rv := if flat x = true ∧ flat y = true then some (.d (.bool (!PyData.eqv x y))) else none
/-- is, with None or a bool at the right -/
def isV : D → D → Option Bool
  | .none, .none => some true
  | _, .none => some false
  | .bool a, .bool b => some (a == b)
  | _, .bool _ => some false
  | _, _ => none
def opIs (x y : D) : Option Rv := (isV x y).bind fun b => some (.d (.bool b))
def opIsNot (x y : D) : Option Rv := (isV x y).bind fun b => some (.d (.bool (!b)))
def atomD : D → Bool
  | .none => true
  | .bool _ => true
  | .int _ => true
  | .str _ => true
  | _ => false
/-- x in ys, all of them atoms -/
def opInB (x : D) : D → Option Bool
  | .list ys => if atomD x = true ∧ ys.all atomD = true then some (ys.any fun y => PyData.eqv y x) else none
  | .tuple ys => if atomD x = true ∧ ys.all atomD = true then some (ys.any fun y => PyData.eqv y x) else none
  | _ => none
def opIn (x y : D) : Option Rv := (opInB x y).bind fun b => some (.d (.bool b))
def opNotIn (x y : D) : Option Rv := (opInB x y).bind fun b => some (.d (.bool (!b)))
def opIx : D → D → Option Rv
  | .list xs, .int i => (ixAt xs i).bind fun n => (xs[n]?).bind fun x => some (.d x)
  | .tuple xs, .int i => (ixAt xs i).bind fun n => (xs[n]?).bind fun x => some (.d x)
  | .str z, .int i => if z.length ≤ sizeLine then (ixAt z.cps.toList i).bind fun n => (z.cps.toList[n]?).bind fun c => some (.d (.str ⟨#[c]⟩)) else none
  | _, _ => none
def cutAt (n d : Nat) : Option Int → Nat
  | none => d
  | some v => if v < 0 then (v + (n : Int)).toNat else min v.toNat n
def cutD {α : Type} (xs : List α) (lo hi : Option Int) : List α := (xs.drop (cutAt xs.length 0 lo)).take (cutAt xs.length xs.length hi - cutAt xs.length 0 lo)
def opSlice : D → Option Int → Option Int → Option Rv
  | .list xs, lo, hi => some (.tmp (cutD xs lo hi))
  | _, _, _ => none
def opRev : D → Option Rv
  | .list xs => some (.tmp xs.reverse)
  | _ => none

/-! ### built-in calls -/
def bLen : List D → Option Rv
  | [.list xs] => some (.d (.int xs.length))
  | [.tuple xs] => some (.d (.int xs.length))
  | [.str z] => if z.length ≤ sizeLine then some (.d (.int z.length)) else none
  | _ => none
def bInt : List D → Option Rv
  | [.int i] => some (.d (.int i))
  | [.bool b] => some (.d (.int (if b then 1 else 0)))
  | _ => none
def bStr : List D → Option Rv
  | [.int i] => if i.natAbs.log2 < 1920 then some (.d (.str (Str.ofString (toString i)))) else none
  | _ => none
def dictRepr : D → Option Rv
  | .dict [] => some (.d (.str (PyData.shown (.dict []))))
  | _ => none
def bRepr : List D → Option Rv
  | [x] => if x.hasDict = false ∧ x.showable = true ∧ x.depth ≤ 40 ∧ x.shown.length ≤ sizeLine then some (.d (.str x.shown)) else dictRepr x
  | _ => none
def boolsOf : List D → Option (List Bool)
  | [] => some []
  | .bool b :: r => (boolsOf r).bind fun bs => some (b :: bs)
  | _ => none
def intsOf : List D → Option (List Int)
  | [] => some []
  | .int i :: r => (intsOf r).bind fun is => some (i :: is)
  | _ => none
def bAll : List D → Option Rv
  | [.list xs] => (boolsOf xs).bind fun bs => some (.d (.bool (bs.all id)))
  | _ => none
def bAny : List D → Option Rv
  | [.list xs] => (boolsOf xs).bind fun bs => some (.d (.bool (bs.any id)))
  | _ => none
def bSum : List D → Option Rv
  | [.list xs] => (intsOf xs).bind fun is => some (.d (.int is.sum))
  | _ => none
def bList : List D → Option Rv
  | [.list xs] => some (.tmp xs)
  | [.tuple xs] => some (.tmp xs)
  | _ => none
/-- the built-in types of data -/
def tyName : D → String
  | .none => "NoneType"
  | .bool _ => "bool"
  | .int _ => "int"
  | .str _ => "str"
  | .list _ => "list"
  | .tuple _ => "tuple"
  | .dict _ => "dict"
def isTy (x : D) (T : String) : Bool := tyName x == T || (T == "int" && tyName x == "bool")
def bIsi (T : String) (x : D) : Option Rv := some (.d (.bool (isTy x T)))
def bIsi2 (T U : String) (x : D) : Option Rv := some (.d (.bool (isTy x T || isTy x U)))
/-- range -/
def iRange1 : List D → Option (List D)
  | [.int n] => if -(2 ^ 62) ≤ n ∧ n < 2 ^ 62 then some ((List.range n.toNat).map fun i => .int (0 + (i : Nat))) else none
  | _ => none
def iRange2 : List D → Option (List D)
  | [.int a, .int b] => if -(2 ^ 62) ≤ a ∧ a < 2 ^ 62 ∧ -(2 ^ 62) ≤ b ∧ b < 2 ^ 62 then some ((List.range (b - a).toNat).map fun i => .int (a + (i : Nat))) else none
  | _ => none
def iList : D → Option (List D)
  | .list xs => some xs
  | _ => none
def iTup : D → Option (List D)
  | .tuple xs => some xs
  | _ => none
def iSeq : D → Option (List D)
  | .list xs => some xs
  | .tuple xs => some xs
  | _ => none
def iZip : List D → Option (List D)
  | [.list xs, .list ys] => some ((xs.zip ys).map fun p => .tuple [p.1, p.2])
  | [.tuple xs, .tuple ys] => some ((xs.zip ys).map fun p => .tuple [p.1, p.2])
  | _ => none
def iEnum : List D → Option (List D)
  | [.list xs] => some (xs.zipIdx.map fun p => .tuple [.int (p.2 : Nat), p.1])
  | _ => none
/-! ### further ones -/
/-- a op b op' c -/
def dChain (op op' : D → D → Option Rv) (f g h : DE) : DE := fun st => (f st).bind fun p => (g p.2).bind fun q => (look q.2 p.1).bind fun x => (look q.2 q.1).bind fun y => (op x y).bind fun z => match z with
  | .d (.bool true) => (h q.2).bind fun w => (look w.2 q.1).bind fun y' => (look w.2 w.1).bind fun u => (op' y' u).bind fun z' => some (z', w.2)
  | .d (.bool false) => some (.d (.bool false), q.2)
  | _ => none
def bMax2 : List D → Option Rv
  | [.int i, .int j] => some (.d (.int (if j > i then j else i)))
  | _ => none
def bMin2 : List D → Option Rv
  | [.int i, .int j] => some (.d (.int (if j < i then j else i)))
  | _ => none
/-- n.bit_length() -/
def opBits : D → Option Rv
  | .int i => some (.d (.int (Builtin.Int.intBits i : Nat)))
  | _ => none
def opAddT : D → D → Option Rv
  | .tuple xs, .tuple ys => if xs.length + ys.length ≤ sizeLine then some (.d (.tuple (xs ++ ys))) else none
  | _, _ => none
def opSliceT : D → Option Int → Option Int → Option Rv
  | .tuple xs, lo, hi => some (.d (.tuple (cutD xs lo hi)))
  | _, _, _ => none
def bTuple : List D → Option Rv
  | [.list xs] => some (.d (.tuple xs))
  | [.tuple xs] => some (.d (.tuple xs))
  | _ => none
/-- every list of one's own or of the caller's, looked at as data -/
def fz : Option SV → Option SV
  | some (.d x) => some (.d x)
  | some (.own xs) => some (.d (.list xs))
  | some (.lent xs) => some (.d (.list xs))
  | none => none
def freeze (st : DSt) : DSt := st.map fz
/-- the lists are handed on for this expression alone; what comes is an atom -/
def dBorrow (f : DE) : DE := fun st => (f (freeze st)).bind fun p => match p.1 with
  | .d x => if atomD x = true then some (.d x, st) else none
  | _ => none
def dBorrowT (f : DT) : DT := fun st => (f (freeze st)).bind fun p => some (p.1, st)
/-- i ** j, any base -/
def opPowW : D → D → Option Rv
  | .int i, .int j => if 0 ≤ j ∧ (Builtin.Int.intBits i : Int) * j ≤ 2 ^ 27 then some (.d (.int (i ^ j.toNat))) else none
  | _, _ => none
def dIfT (t f g : DT) : DT := fun st => (t st).bind fun p => if p.1 = true then f p.2 else g p.2
/-- x, ys = e, e2: e2 gives a new list, which becomes one's own -/
def dAsgO (i j : Nat) (f g : DE) : DS := fun st => (f st).bind fun p => (g p.2).bind fun q => match p.1, q.1 with
  | .d x, .tmp ys => (setS q.2 j (.own ys)).bind fun s => (setS s i (.d x)).bind fun s' => some (.nx, s')
  | _, _ => none
/-- {} -/
def dDict0 : DE := fun st => some (.d (.dict []), st)
def maxOf : List Int → Option Int
  | [] => none
  | x :: r => some (match maxOf r with | some m => if x > m then x else m | none => x)
def minOf : List Int → Option Int
  | [] => none
  | x :: r => some (match minOf r with | some m => if x < m then x else m | none => x)
/-- max(xs), min(xs) of ints -/
def bMaxL : List D → Option Rv
  | [.list xs] => (intsOf xs).bind fun is => (maxOf is).bind fun m => some (.d (.int m))
  | _ => none
def bMinL : List D → Option Rv
  | [.list xs] => (intsOf xs).bind fun is => (minOf is).bind fun m => some (.d (.int m))
  | _ => none
/-- f(e, ..): the first argument is a new list, lent for this call alone -/
def dCallT (g : Fn) (n : Nat) (more : List D) (f : DE) (h : DA) : DE := fun st => (f st).bind fun p => match p.1 with
  | .tmp xs => (h p.2).bind fun q => (toDs q.2 q.1).bind fun w => if q.1.length = n then
      (g (.m xs :: (w.1 ++ more).map Ar.d)).bind fun r => some (rvOf r.1, w.2)
    else none
  | _ => none
/-- ys, x, .. = e, e2, ..: the first one gives a new list, which becomes one's own -/
def dParS (i : Nat) (is : List Nat) (f : DE) (h : DA) : DS := fun st => (f st).bind fun p => match p.1 with
  | .tmp xs => (h p.2).bind fun q => (toDs q.2 q.1).bind fun w => (setS w.2 i (.own xs)).bind fun s => (dPar.parGo is w.1 s).bind fun s' => some (.nx, s')
  | _ => none
/-- what sorted takes: data of one shape -/
def headed : D → Bool
  | .tuple (_ :: _) => true
  | _ => false
def other : D → Bool
  | .none => false
  | .tuple _ => false
  | _ => true
def sortable (xs : List D) : Bool := xs.all (fun d => xs.all fun d' => PySem.W.alike d d') && (xs.all headed || xs.all other) && xs.all (fun d => !d.hasDict && decide (d.depth ≤ 30))
noncomputable def sortD (xs : List D) : List D := xs.mergeSort (PySem.W.dataLe false id)
noncomputable def bSorted : List D → Option Rv
  | [.list xs] => if sortable xs = true then some (.tmp (sortD xs)) else none
  | _ => none
/-- x, ys, z.. = e, e2, e3..: e2 gives a new list, which becomes one's own; e gives data -/
def dParQ (i j : Nat) (is : List Nat) (f g : DE) (h : DA) : DS := fun st => (f st).bind fun p => (g p.2).bind fun q => match p.1, q.1 with
  | .d x, .tmp ys => (h q.2).bind fun u => (toDs u.2 u.1).bind fun w => (setS w.2 i (.d x)).bind fun s1 => (setS s1 j (.own ys)).bind fun s => (dPar.parGo is w.1 s).bind fun s' => some (.nx, s')
  | _, _ => none
/-- list(range(n)) -/
def dListR (f : DE) : DE := fun st => (f st).bind fun p => match look p.2 p.1 with
  | some (.int n) => if n ≤ 16777216 ∧ -(2 ^ 62) ≤ n then some (.tmp ((List.range n.toNat).map fun i => .int (0 + (i : Nat))), p.2) else none
  | _ => none
def removeI (k : Int) : List Int → Option (List Int)
  | [] => none
  | x :: r => if x = k then some r else (removeI k r).bind fun s => some (x :: s)
/-- xs.remove(e), ints -/
def dRemove (i : Nat) (f : DE) : DS := fun st => (getL st i).bind fun _ => (f st).bind fun p => (toD p.2 p.1).bind fun q => match q.1 with
  | .int k => (getL q.2 i).bind fun xs => (intsOf xs).bind fun is => (removeI k is).bind fun r => (putL q.2 i (r.map .int)).bind fun s => some (.nx, s)
  | _ => none
open Classical in
/-- for x in ys: .., ys a list of one's own that the body leaves alone -/
noncomputable def forGoB (i : Nat) (full : List D) (g : DG) (b : DS) : List D → DSt → Option (Fl × DSt)
  | [], st => if getL st i = some full then some (.nx, st) else none
  | x :: xs, st => if getL st i = some full then (g x st).bind fun s => (b s).bind fun p => match p.1 with
      | .nx => forGoB i full g b xs p.2
      | _ => none
    else none
noncomputable def dForB (i : Nat) (g : DG) (b : DS) : DS := fun st => (getL st i).bind fun xs => forGoB i xs g b xs st
/-- xs, ys, z.. = e, e2, e3..: both give new lists -/
def dParW (i j : Nat) (is : List Nat) (f g : DE) (h : DA) : DS := fun st => (f st).bind fun p => (g p.2).bind fun q => match p.1, q.1 with
  | .tmp xs, .tmp ys => (h q.2).bind fun u => (toDs u.2 u.1).bind fun w => (setS w.2 i (.own xs)).bind fun s1 => (setS s1 j (.own ys)).bind fun s => (dPar.parGo is w.1 s).bind fun s' => some (.nx, s')
  | _, _ => none
/-- i << j, i >> j -/
def opShl : D → D → Option Rv
  | .int i, .int j => if 0 ≤ j ∧ j ≤ 1000000 ∧ i.natAbs < 2 ^ 64 then some (.d (.int (i * 2 ^ j.toNat))) else none
  | _, _ => none
def opShr : D → D → Option Rv
  | .int i, .int j => if 0 ≤ j then some (.d (.int (i / 2 ^ j.toNat))) else none
  | _, _ => none
/-- zip of two lists -/
def iZipL : List D → Option (List D)
  | [.list xs, .list ys] => some ((xs.zip ys).map fun p => .tuple [p.1, p.2])
  | _ => none
/-- list(zip(a, b)) -/
def dListZip (f : DA) : DE := fun st => (f st).bind fun p => (toDs p.2 p.1).bind fun q => (iZipL q.1).bind fun xs => some (.tmp xs, q.2)
/-- x = zip(a, b); return [e for .. in x]: x is met there first -/
def dZipRet (i : Nat) (fr : DA) (g : DG) (t : DT) (e : DE) (vs : List Nat) : DS := fun st => (dIterA iZipL fr st).bind fun p =>
  if i < p.2.length then match p.2.getD i none with
    | none => dRet (dLc (fun s => some (p.1, s)) g t e vs) p.2
    | _ => none
  else none
/-! ### lists of data: in, index, count, pop, remove -/
def inD (x : D) : D → Option Bool
  | .list ys => if flat x = true ∧ flat (.list ys) = true then some (ys.any fun y => PyData.eqv y x) else none
  | .tuple ys => if flat x = true ∧ flat (.tuple ys) = true then some (ys.any fun y => PyData.eqv y x) else none
  | _ => none
def opInD (x y : D) : Option Rv := (inD x y).bind fun b => some (.d (.bool b))
def opNotInD (x y : D) : Option Rv := (inD x y).bind fun b => some (.d (.bool (!b)))
def opIndex : D → D → Option Rv
  | .list ys, x => if flat x = true ∧ flat (.list ys) = true then (ys.findIdx? fun y => PyData.eqv y x).bind fun j => some (.d (.int (j : Nat))) else none
  | _, _ => none
def opCount : D → D → Option Rv
  | .list ys, x => if flat x = true ∧ flat (.list ys) = true then some (.d (.int (ys.countP fun y => PyData.eqv y x : Nat))) else none
  | _, _ => none
def isLst : D → Bool
  | .list _ => true
  | _ => false
/-- xs.method(e), xs a list that is looked at -/
def dMethL (op : D → D → Option Rv) (f g : DE) : DE := fun st => (f st).bind fun p => (look p.2 p.1).bind fun x0 => if isLst x0 = true then
    (g p.2).bind fun q => (look q.2 p.1).bind fun x => (look q.2 q.1).bind fun y => (op x y).bind fun z => some (z, q.2)
  else none
/-- xs.pop(k), xs a list of one's own -/
def dPop (i : Nat) (k : DE) : DE := fun st => (getL st i).bind fun _ => (k st).bind fun r => match look r.2 r.1 with
  | some (.int j) => if -(2 ^ 63) ≤ j ∧ j < 2 ^ 63 then (getL r.2 i).bind fun xs => (ixAt xs j).bind fun n => (xs[n]?).bind fun x => (putL r.2 i (xs.eraseIdx n)).bind fun s => some (.d x, s) else none
  | _ => none
/-- xs.remove(e), data -/
def dRemoveD (i : Nat) (f : DE) : DS := fun st => (getL st i).bind fun _ => (f st).bind fun p => (toD p.2 p.1).bind fun q => (getL q.2 i).bind fun xs =>
  if flat q.1 = true ∧ flat (.list xs) = true then (xs.findIdx? fun y => PyData.eqv y q.1).bind fun j => (putL q.2 i (xs.eraseIdx j)).bind fun s => some (.nx, s) else none
/-! ### texts -/
def opCmpS (p : List Nat → List Nat → Bool) : D → D → Option Rv
  | .str a, .str b => some (.d (.bool (p a.cps.toList b.cps.toList)))
  | _, _ => none
def opLtS : D → D → Option Rv := opCmpS fun a b => decide (a < b)
def opLeS : D → D → Option Rv := opCmpS fun a b => !decide (b < a)
def opGtS : D → D → Option Rv := opCmpS fun a b => decide (b < a)
def opGeS : D → D → Option Rv := opCmpS fun a b => !decide (a < b)
/-- one text within another -/
def inStr (x z : Str) : Bool := !(Builtin.Str.occurrences z x 0 z.length 1).isEmpty
def opInS : D → D → Option Rv
  | .str a, .str b => some (.d (.bool (inStr a b)))
  | _, _ => none
def opNotInS : D → D → Option Rv
  | .str a, .str b => some (.d (.bool (!inStr a b)))
  | _, _ => none
def opStarts : Str → D → Option Rv
  | a, .str b => some (.d (.bool (Txt.startswith a b)))
  | _, _ => none
def opEnds : Str → D → Option Rv
  | a, .str b => some (.d (.bool (Txt.endswith a b)))
  | _, _ => none
def strsOf : List D → Option (List Str)
  | [] => some []
  | .str z :: r => (strsOf r).bind fun zs => some (z :: zs)
  | _ => none
def opJoin : Str → D → Option Rv
  | a, .list xs => (strsOf xs).bind fun ys => if (ys.map (·.length)).sum + ys.length * a.length ≤ 16777216 then some (.d (.str (Txt.join a ys))) else none
  | _, _ => none
/-- text.method(e) -/
def dM1 (op : Str → D → Option Rv) (f g : DE) : DE := fun st => (f st).bind fun p => match p.1 with
  | .d (.str a) => (g p.2).bind fun q => (look q.2 q.1).bind fun y => (op a y).bind fun z => some (z, q.2)
  | _ => none
def cutStr (z : Str) (lo hi : Option Int) : Str := ⟨(cutD z.cps.toList lo hi).toArray⟩
def opSliceS : D → Option Int → Option Int → Option Rv
  | .str z, lo, hi => if z.length ≤ sizeLine then some (.d (.str (cutStr z lo hi))) else none
  | _, _, _ => none
/-- the signs of a text -/
def iStr : D → Option (List D)
  | .str z => some (z.cps.toList.map fun c => .str ⟨#[c]⟩)
  | _ => none
/-- pairs' first texts and numbers -/
def keysOf : List D → Option (List (Int ⊕ Str))
  | [] => some []
  | .tuple [.str z, _] :: r => (keysOf r).bind fun zs => some (.inr z :: zs)
  | .tuple [.int i, _] :: r => (keysOf r).bind fun zs => some (.inl i :: zs)
  | _ => none
open Classical in
noncomputable def distinctF (za zs : List (Int ⊕ Str)) : List (Int ⊕ Str) := zs.foldl (fun acc z => if z ∈ acc then acc else acc ++ [z]) za
noncomputable def distinct (zs : List (Int ⊕ Str)) : List (Int ⊕ Str) := distinctF [] zs
/-- len(dict(xs)) -/
noncomputable def bLenDict : D → Option Rv
  | .list xs => (keysOf xs).bind fun zs => some (.d (.int ((distinct zs).length : Nat)))
  | _ => none
/-- sum(xs, []) -/
def listsOf : List D → Option (List (List D))
  | [] => some []
  | .list xs :: r => (listsOf r).bind fun zs => some (xs :: zs)
  | _ => none
def bSumL : D → Option Rv
  | .list xs => (listsOf xs).bind fun zs => if zs.flatten.length ≤ sizeLine then some (.tmp zs.flatten) else none
  | _ => none
/-! ### a value made of new lists, looked at, then changed list by list (_law_spoilt) -/

mutual
def noList : D → Bool
  | .list _ => false
  | .dict _ => false
  | .tuple xs => decide (xs.length ≤ 1000) && noListAll xs
  | _ => true
def noListAll : List D → Bool
  | [] => true
  | x :: r => noList x && noListAll r
end
def endStr : Option D → Bool
  | some (.str _) => true
  | _ => false
def toldOf : List Rv → Option (List D)
  | [] => some []
  | .d x :: r => if atomD x = true then (toldOf r).bind fun ds => some (x :: ds) else none
  | .tmp xs :: r => if xs.length ≤ 1000 ∧ endStr xs.getLast? = false ∧ noListAll xs = true then (toldOf r).bind fun ds => some (.list xs :: ds) else none
  | _ => none
/-- x = [..]; if not T or not spoilt(x): return False; .. -/
def dTold (i n : Nat) (fa : DA) (ft : DT) (fs : DS) : DS := fun st => (fa st).bind fun p => (toldOf p.1).bind fun ds => if ds.length ≤ 1000 ∧ endStr ds.getLast? = false ∧ PyData.depthAll ds + 1 < n then
    (setS p.2 i (.d .none)).bind fun _ => (ft ((freeze (p.2.set i none)).set i (some (.d (.list ds))))).bind fun q => if q.1 = true then fs (p.2.set i none) else none
  else none
/-- x = [..]; if T: return False; return spoilt(x) and e -/
def dToldRet (i n : Nat) (fa : DA) (ft : DT) (fe : DE) : DS := fun st => (fa st).bind fun p => (toldOf p.1).bind fun ds => if ds.length ≤ 1000 ∧ endStr ds.getLast? = false ∧ PyData.depthAll ds + 1 < n then
    (setS p.2 i (.d .none)).bind fun _ => (ft ((freeze (p.2.set i none)).set i (some (.d (.list ds))))).bind fun q => if q.1 = false then dRet fe (p.2.set i none) else none
  else none
/-- x, y, zs = e, e2, e3: e3 gives a new list, which becomes one's own -/
def dAsgO3 (i j k : Nat) (f g h : DE) : DS := fun st => (f st).bind fun p => (g p.2).bind fun q => (h q.2).bind fun w => match p.1, q.1, w.1 with
  | .d x, .d y, .tmp zs => (setS w.2 k (.own zs)).bind fun s => (setS s j (.d y)).bind fun s2 => (setS s2 i (.d x)).bind fun s3 => some (.nx, s3)
  | _, _, _ => none
end DL
end

section
set_option Elab.async false
set_option linter.all false
set_option maxRecDepth 100000
set_option maxHeartbeats 1000000
/-! DLsnd: the data layer over the hand layer: a reading is met by what the plain function of slots says. -/
namespace DL
open PySem PySem.Spec PyProof.Rows L2

/-! ### data in the heap -/
/-- a list that nobody changes: given away (F), locked, or of the written part -/
def FL (K : PySem.W.Frag) (F : Addr → Prop) (H : Hp) (a : Addr) (xs : List V) : Prop :=
  (F a ∧ H a = some (.lst xs)) ∨ (∃ o, H a = some (.frz o (.lst xs))) ∨ SqL K (fun _ => none) a xs
theorem sqK {K : PySem.W.Frag} {H : Hp} {a : Addr} {xs : List V} (h : SqL K (fun _ => none) a xs) : SqL K H a xs := by
  rcases h with (h | ⟨o, h⟩) | h
  · cases h
  · cases h
  · exact .inr h
theorem FL.sql {K : PySem.W.Frag} {F : Addr → Prop} {H : Hp} {a : Addr} {xs : List V} (h : FL K F H a xs) : SqL K H a xs := by
  rcases h with ⟨_, h⟩ | ⟨o, h⟩ | h
  · exact .inl (.inl h)
  · exact .inl (.inr ⟨o, h⟩)
  · exact sqK h
/-- what never changes, once it is there: a tuple; an empty dict -/
def STD (K : PySem.W.Frag) (H : Hp) (a : Addr) : Option (List V) → Prop
  | some xs => SqT K H a xs
  | none => H a = some (.dK [])
mutual
inductive Rp (K : PySem.W.Frag) (F : Addr → Prop) (H : Hp) : V → PyData → Prop
  | non : Rp K F H .non .none
  | bl (b : Bool) : Rp K F H (.bl b) (.bool b)
  | int (i : Int) : Rp K F H (.int i) (.int i)
  | str (x : Str) : Rp K F H (.str x) (.str x)
  | lst {a : Addr} {xs : List V} {ds : List PyData} : FL K F H a xs → RpAll K F H xs ds → Rp K F H (.ref a) (.list ds)
  | tup {a : Addr} {xs : List V} {ds : List PyData} : SqT K H a xs → RpAll K F H xs ds → Rp K F H (.ref a) (.tuple ds)
  | dic {a : Addr} : H a = some (.dK []) → Rp K F H (.ref a) (.dict [])
inductive RpAll (K : PySem.W.Frag) (F : Addr → Prop) (H : Hp) : List V → List PyData → Prop
  | nil : RpAll K F H [] []
  | cons {v : V} {vs : List V} {d : PyData} {ds : List PyData} : Rp K F H v d → RpAll K F H vs ds → RpAll K F H (v :: vs) (d :: ds)
end
section
variable {K : PySem.W.Frag} {F F' : Addr → Prop} {H H' : Hp}
mutual
theorem Rp.mono (h1 : ∀ a xs, FL K F H a xs → FL K F' H' a xs) (h2 : ∀ a xs, STD K H a xs → STD K H' a xs) : ∀ {v : V} {d : PyData}, Rp K F H v d → Rp K F' H' v d
  | _, _, .non => .non
  | _, _, .bl b => .bl b
  | _, _, .int i => .int i
  | _, _, .str x => .str x
  | _, _, .lst h hs => .lst (h1 _ _ h) (RpAll.mono h1 h2 hs)
  | _, _, .tup h hs => .tup (h2 _ (some _) h) (RpAll.mono h1 h2 hs)
  | _, _, .dic h => .dic (h2 _ none h)
theorem RpAll.mono (h1 : ∀ a xs, FL K F H a xs → FL K F' H' a xs) (h2 : ∀ a xs, STD K H a xs → STD K H' a xs) : ∀ {vs : List V} {ds : List PyData}, RpAll K F H vs ds → RpAll K F' H' vs ds
  | _, _, .nil => .nil
  | _, _, .cons a b => .cons (Rp.mono h1 h2 a) (RpAll.mono h1 h2 b)
end
mutual
theorem Rp.dp : ∀ {v : V} {d : PyData}, Rp K F H v d → d.hasDict = false → Dp K H v d
  | _, _, .non, _ => .non
  | _, _, .bl b, _ => .bl b
  | _, _, .int i, _ => .int i
  | _, _, .str x, _ => .str x
  | _, _, .lst h hs, n => .lst h.sql (RpAll.dp hs (by simpa [PyData.hasDict] using n))
  | _, _, .tup h hs, n => .tup h (RpAll.dp hs (by simpa [PyData.hasDict] using n))
  | _, _, .dic _, n => by simp [PyData.hasDict] at n
theorem RpAll.dp : ∀ {vs : List V} {ds : List PyData}, RpAll K F H vs ds → PyData.hasDictAll ds = false → DpAll K H vs ds
  | _, _, .nil, _ => .nil
  | _, _, .cons a b, n => .cons (Rp.dp a (by simp only [PyData.hasDictAll, Bool.or_eq_false_iff] at n; exact n.1)) (RpAll.dp b (by simp only [PyData.hasDictAll, Bool.or_eq_false_iff] at n; exact n.2))
end
theorem RpAll.length : ∀ {vs : List V} {ds : List PyData}, RpAll K F H vs ds → vs.length = ds.length
  | _, _, .nil => rfl
  | _, _, .cons _ b => congrArg (· + 1) (RpAll.length b)
theorem RpAll.get : ∀ {vs : List V} {ds : List PyData} {i : Nat} {d : PyData}, RpAll K F H vs ds → ds[i]? = some d → ∃ v, vs[i]? = some v ∧ Rp K F H v d
  | _, _, _, _, .nil, e => by simp at e
  | _, _, 0, _, .cons a _, e => by
    simp at e
    subst e
    exact ⟨_, rfl, a⟩
  | _, _, i + 1, _, .cons _ b, e => by
    obtain ⟨v, h1, h2⟩ := RpAll.get (i := i) b (by simpa using e)
    exact ⟨v, by simpa using h1, h2⟩
theorem RpAll.got : ∀ {vs : List V} {ds : List PyData} {i : Nat} {v : V}, RpAll K F H vs ds → vs[i]? = some v → ∃ d, ds[i]? = some d ∧ Rp K F H v d
  | _, _, _, _, .nil, e => by simp at e
  | _, _, 0, _, .cons a _, e => by
    simp at e
    subst e
    exact ⟨_, rfl, a⟩
  | _, _, i + 1, _, .cons _ b, e => by
    obtain ⟨v, h1, h2⟩ := RpAll.got (i := i) b (by simpa using e)
    exact ⟨v, by simpa using h1, h2⟩
theorem RpAll.append : ∀ {vs ws : List V} {ds es : List PyData}, RpAll K F H vs ds → RpAll K F H ws es → RpAll K F H (vs ++ ws) (ds ++ es)
  | _, _, _, _, .nil, h => h
  | _, _, _, _, .cons a b, h => .cons a (RpAll.append b h)
theorem RpAll.drop : ∀ {vs : List V} {ds : List PyData} (n : Nat), RpAll K F H vs ds → RpAll K F H (vs.drop n) (ds.drop n)
  | _, _, 0, h => h
  | _, _, _ + 1, .nil => .nil
  | _, _, n + 1, .cons _ b => RpAll.drop n b
theorem RpAll.take : ∀ {vs : List V} {ds : List PyData} (n : Nat), RpAll K F H vs ds → RpAll K F H (vs.take n) (ds.take n)
  | _, _, 0, _ => .nil
  | _, _, _ + 1, .nil => .nil
  | _, _, n + 1, .cons a b => .cons a (RpAll.take n b)
theorem RpAll.set {x : V} {d : PyData} (r : Rp K F H x d) : ∀ {vs : List V} {ds : List PyData} (i : Nat), RpAll K F H vs ds → RpAll K F H (vs.set i x) (ds.set i d)
  | _, _, _, .nil => .nil
  | _, _, 0, .cons _ b => .cons r b
  | _, _, i + 1, .cons a b => .cons a (RpAll.set r i b)
theorem RpAll.reverse {vs : List V} {ds : List PyData} (h : RpAll K F H vs ds) : RpAll K F H vs.reverse ds.reverse := by
  induction h using RpAll.rec (motive_1 := fun _ _ _ => True) with
  | non | bl | int | str | lst | tup | dic => trivial
  | nil => exact .nil
  | cons a b iha ihb => rw [List.reverse_cons, List.reverse_cons]; exact ihb.append (.cons a .nil)
theorem RpAll.rep {vs : List V} {ds : List PyData} (h : RpAll K F H vs ds) : ∀ k : Nat, RpAll K F H (List.replicate k vs).flatten (List.replicate k ds).flatten
  | 0 => .nil
  | k + 1 => by
    rw [List.replicate_succ, List.replicate_succ, List.flatten_cons, List.flatten_cons]
    exact h.append (h.rep k)
theorem RpAll.snoc {vs : List V} {ds : List PyData} {v : V} {d : PyData} (h : RpAll K F H vs ds) (r : Rp K F H v d) : RpAll K F H (vs ++ [v]) (ds ++ [d]) := h.append (.cons r .nil)
end
theorem sqT_up {K : PySem.W.Frag} {H H' : Hp} (h : ∀ b u, H b = some u → (∀ xs, u ≠ .lst xs) → H' b = some u) {a : Addr} {xs : List V} (q : SqT K H a xs) : SqT K H' a xs := by
  rcases q with (q | ⟨o, q⟩) | q
  · exact .inl (.inl (h _ _ q fun _ z => by cases z))
  · exact .inl (.inr ⟨o, h _ _ q fun _ z => by cases z⟩)
  · exact .inr q

theorem stD_up {K : PySem.W.Frag} {H H' : Hp} (h : ∀ b u, H b = some u → (∀ xs, u ≠ .lst xs) → H' b = some u) {a : Addr} : ∀ {o : Option (List V)}, STD K H a o → STD K H' a o
  | some _, q => sqT_up h q
  | none, q => h _ _ q fun _ z => by cases z

/-! ### the slots and the heap -/
def IsOwn (st : DSt) (i : Nat) : Prop := ∃ xs, st.getD i none = some (.own xs) ∨ st.getD i none = some (.lent xs)
def OwnAt (st : DSt) (σ : L2.St) (p : Addr) : Prop := ∃ i, IsOwn st i ∧ σ[i]? = some (some (.ref p))
/-- H0: the heap at the def's entry; M: where the lent lists are -/
structure Sim (K : PySem.W.Frag) (H0 : Hp) (M : Nat → Option Addr) (st : DSt) (σ : L2.St) (F : Addr → Prop) (H : Hp) : Prop where
  len : σ.length = st.length
  dat : ∀ i x, st.getD i none = some (.d x) → ∃ v, σ[i]? = some (some v) ∧ Rp K F H v x
  own : ∀ i xs, st.getD i none = some (.own xs) → ∃ p vs, σ[i]? = some (some (.ref p)) ∧ H p = some (.lst vs) ∧ RpAll K F H vs xs ∧ ¬ F p ∧ H0 p = none
  lent : ∀ i xs, st.getD i none = some (.lent xs) → ∃ p vs, M i = some p ∧ σ[i]? = some (some (.ref p)) ∧ H p = some (.lst vs) ∧ RpAll K F H vs xs ∧ ¬ F p
  lentE : ∀ i p, M i = some p → ∃ xs, st.getD i none = some (.lent xs)
  lent0 : ∀ i p, M i = some p → H0 p ≠ none
  inj : ∀ i j p, IsOwn st i → IsOwn st j → σ[i]? = some (some (.ref p)) → σ[j]? = some (some (.ref p)) → i = j
  frz : ∀ a, F a → ∃ xs, H a = some (.lst xs)
  base : ∀ b u, H0 b = some u → (∀ i, M i ≠ some b) → H b = some u
/-- from one point of an expression to a later one -/
structure Ext (st : DSt) (σ : L2.St) (F : Addr → Prop) (H : Hp) (st' : DSt) (F' : Addr → Prop) (H' : Hp) : Prop where
  sub : ∀ a, F a → F' a
  new : ∀ a, F' a → F a ∨ H a = none ∨ OwnAt st σ a
  keep : ∀ b u, H b = some u → ¬ OwnAt st σ b → H' b = some u
  live : ∀ b, H b ≠ none → H' b ≠ none
  own : ∀ i, IsOwn st' i → IsOwn st i
section
variable {K : PySem.W.Frag} {H0 : Hp} {M : Nat → Option Addr} {st st' st2 : DSt} {σ : L2.St} {F F' F2 : Addr → Prop} {H H' H2 Hb : Hp}
theorem Ext.refl : Ext st σ F H st F H := ⟨fun _ h => h, fun _ h => .inl h, fun _ _ h _ => h, fun _ h => h, fun _ h => h⟩
theorem Sim.atOwn (S : Sim K H0 M st σ F H) {p : Addr} (o : OwnAt st σ p) : (∃ vs, H p = some (.lst vs)) ∧ ¬ F p := by
  obtain ⟨i, ⟨xs, h | h⟩, e⟩ := o
  · obtain ⟨q, vs, e1, e2, _, nf, _⟩ := S.own i xs h
    rw [e] at e1
    cases e1
    exact ⟨⟨vs, e2⟩, nf⟩
  · obtain ⟨q, vs, _, e1, e2, _, nf⟩ := S.lent i xs h
    rw [e] at e1
    cases e1
    exact ⟨⟨vs, e2⟩, nf⟩
theorem OwnAt.imp (o : ∀ i, IsOwn st' i → IsOwn st i) {p : Addr} (h : OwnAt st' σ p) : OwnAt st σ p := let ⟨i, h1, h2⟩ := h; ⟨i, o i h1, h2⟩
theorem Ext.trans (a : Ext st σ F H st' F' H') (b : Ext st' σ F' H' st2 F2 H2) : Ext st σ F H st2 F2 H2 where
  sub := fun c h => b.sub c (a.sub c h)
  new := fun c h => by
    rcases b.new c h with h | h | h
    · exact a.new c h
    · refine .inr (.inl ?_)
      apply Classical.byContradiction
      intro z
      exact a.live c z h
    · exact .inr (.inr (h.imp a.own))
  keep := fun c u h n => b.keep c u (a.keep c u h n) fun z => n (z.imp a.own)
  live := fun c h => b.live c (a.live c h)
  own := fun i h => a.own i (b.own i h)
theorem Ext.fl (S : Sim K H0 M st σ F H) (E : Ext st σ F H st' F' H') {a : Addr} {xs : List V} (h : FL K F H a xs) : FL K F' H' a xs := by
  rcases h with ⟨f, h⟩ | ⟨o, h⟩ | h
  · exact .inl ⟨E.sub _ f, E.keep _ _ h fun z => (S.atOwn z).2 f⟩
  · refine .inr (.inl ⟨o, E.keep _ _ h fun z => ?_⟩)
    obtain ⟨⟨vs, e⟩, _⟩ := S.atOwn z
    rw [h] at e
    cases e
  · exact .inr (.inr h)
theorem Ext.sqt (S : Sim K H0 M st σ F H) (E : Ext st σ F H st' F' H') {a : Addr} {xs : List V} (h : SqT K H a xs) : SqT K H' a xs :=
  sqT_up (fun b u e nl => E.keep b u e fun z => by
    obtain ⟨⟨vs, e'⟩, _⟩ := S.atOwn z
    rw [e] at e'
    cases e'
    exact nl vs rfl) h
theorem Ext.std (S : Sim K H0 M st σ F H) (E : Ext st σ F H st' F' H') {a : Addr} {o : Option (List V)} (h : STD K H a o) : STD K H' a o :=
  stD_up (fun b u e nl => E.keep b u e fun z => by
    obtain ⟨⟨vs, e'⟩, _⟩ := S.atOwn z
    rw [e] at e'
    cases e'
    exact nl vs rfl) h
theorem Ext.rp (S : Sim K H0 M st σ F H) (E : Ext st σ F H st' F' H') {v : V} {x : PyData} (h : Rp K F H v x) : Rp K F' H' v x := h.mono (fun _ _ => E.fl S) fun _ _ => E.std S
theorem Ext.rpAll (S : Sim K H0 M st σ F H) (E : Ext st σ F H st' F' H') {vs : List V} {xs : List PyData} (h : RpAll K F H vs xs) : RpAll K F' H' vs xs := h.mono (fun _ _ => E.fl S) fun _ _ => E.std S
theorem Sim.fresh0 (S : Sim K H0 M st σ F H) {p : Addr} (h : H p = none) : H0 p = none := by
  cases e : H0 p with
  | none => rfl
  | some u =>
    exfalso
    by_cases m : ∃ i, M i = some p
    · obtain ⟨i, m⟩ := m
      obtain ⟨xs, q⟩ := S.lentE i p m
      obtain ⟨p', vs, m', _, e2, _⟩ := S.lent i xs q
      rw [m] at m'
      cases m'
      rw [h] at e2
      cases e2
    · have := S.base p u e fun i z => m ⟨i, z⟩
      rw [h] at this
      cases this
/-- the heap grew -/
theorem Rp.grow (s : Same H H') {v : V} {x : PyData} (h : Rp K F H v x) : Rp K F H' v x :=
  h.mono (fun a xs h => h.elim (fun h => .inl ⟨h.1, s _ _ h.2⟩) fun h => h.elim (fun ⟨o, h⟩ => .inr (.inl ⟨o, s _ _ h⟩)) fun h => .inr (.inr h)) fun a xs h => stD_up (fun b u e _ => s b u e) h
theorem RpAll.grow (s : Same H H') {v : List V} {x : List PyData} (h : RpAll K F H v x) : RpAll K F H' v x :=
  h.mono (fun a xs h => h.elim (fun h => .inl ⟨h.1, s _ _ h.2⟩) fun h => h.elim (fun ⟨o, h⟩ => .inr (.inl ⟨o, s _ _ h⟩)) fun h => .inr (.inr h)) fun a xs h => stD_up (fun b u e _ => s b u e) h
theorem Rp.more (s : ∀ a, F a → F' a) {v : V} {x : PyData} (h : Rp K F H v x) : Rp K F' H v x :=
  h.mono (fun a xs h => h.elim (fun h => .inl ⟨s _ h.1, h.2⟩) .inr) fun _ _ h => h
theorem RpAll.more (s : ∀ a, F a → F' a) {v : List V} {x : List PyData} (h : RpAll K F H v x) : RpAll K F' H v x :=
  h.mono (fun a xs h => h.elim (fun h => .inl ⟨s _ h.1, h.2⟩) .inr) fun _ _ h => h
theorem Sim.grow (S : Sim K H0 M st σ F H) (s : Same H H') : Sim K H0 M st σ F H' where
  len := S.len
  dat := fun i x h => let ⟨v, e, r⟩ := S.dat i x h; ⟨v, e, r.grow s⟩
  own := fun i xs h => let ⟨p, vs, e1, e2, r, n, z⟩ := S.own i xs h; ⟨p, vs, e1, s _ _ e2, r.grow s, n, z⟩
  lent := fun i xs h => let ⟨p, vs, m, e1, e2, r, n⟩ := S.lent i xs h; ⟨p, vs, m, e1, s _ _ e2, r.grow s, n⟩
  lentE := S.lentE
  lent0 := S.lent0
  inj := S.inj
  frz := fun a h => let ⟨xs, e⟩ := S.frz a h; ⟨xs, s _ _ e⟩
  base := fun b u h n => s _ _ (S.base b u h n)
theorem Ext.grow (s : Same H H') : Ext st σ F H st F H' :=
  ⟨fun _ h => h, fun _ h => .inl h, fun _ _ h _ => s _ _ h, fun b h => by
    cases e : H b with
    | none => exact absurd e h
    | some u => rw [s _ _ e]; exact fun z => (by cases z), fun _ h => h⟩
/-- more is given away -/
theorem Sim.more (S : Sim K H0 M st σ F H) (s : ∀ a, F a → F' a) (f : ∀ a, F' a → ∃ xs, H a = some (.lst xs)) (no : ∀ a, F' a → ¬ OwnAt st σ a) : Sim K H0 M st σ F' H where
  len := S.len
  dat := fun i x h => let ⟨v, e, r⟩ := S.dat i x h; ⟨v, e, r.more s⟩
  own := fun i xs h => let ⟨p, vs, e1, e2, r, n, z⟩ := S.own i xs h; ⟨p, vs, e1, e2, r.more s, fun q => no p q ⟨i, ⟨xs, .inl h⟩, e1⟩, z⟩
  lent := fun i xs h => let ⟨p, vs, m, e1, e2, r, n⟩ := S.lent i xs h; ⟨p, vs, m, e1, e2, r.more s, fun q => no p q ⟨i, ⟨xs, .inr h⟩, e1⟩⟩
  lentE := S.lentE
  lent0 := S.lent0
  inj := S.inj
  frz := f
  base := S.base
theorem getD_set {st : DSt} {i j : Nat} {x : Option SV} (hi : i < st.length) : (st.set i x).getD j none = if i = j then x else st.getD j none := by
  rw [List.getD_eq_getElem?_getD, List.getD_eq_getElem?_getD, List.getElem?_set]
  by_cases h : i = j
  · subst h
    simp [hi]
  · simp [h]
theorem getD_lt {st : DSt} {i : Nat} {x : SV} (h : st.getD i none = some x) : i < st.length := by
  apply Classical.byContradiction
  intro n
  rw [List.getD_eq_getElem?_getD, List.getElem?_eq_none (by omega)] at h
  cases h
/-- a slot's list is given away -/
theorem Sim.give (S : Sim K H0 M st σ F H) {i : Nat} {xs : List D} {p : Addr} (h : st.getD i none = some (.own xs)) (e : σ[i]? = some (some (.ref p))) :
    Sim K H0 M (st.set i (some (.d (.list xs)))) σ (fun a => F a ∨ a = p) H ∧ Rp K (fun a => F a ∨ a = p) H (.ref p) (.list xs) ∧ (∀ j, IsOwn (st.set i (some (.d (.list xs)))) j → IsOwn st j) := by
  have hi := getD_lt h
  obtain ⟨q, vs, e1, e2, r, nf, z⟩ := S.own i xs h
  rw [e] at e1
  cases e1
  have sub : ∀ a, F a → (F a ∨ a = p) := fun _ => .inl
  have rr : Rp K (fun a => F a ∨ a = p) H (.ref p) (.list xs) := .lst (.inl ⟨.inr rfl, e2⟩) (r.more sub)
  have own : ∀ j, IsOwn (st.set i (some (.d (.list xs)))) j → IsOwn st j ∧ j ≠ i := fun j ⟨ys, hj⟩ => by
    rw [getD_set hi] at hj
    by_cases ij : i = j
    · rw [if_pos ij] at hj
      rcases hj with hj | hj <;> cases hj
    · rw [if_neg ij] at hj
      exact ⟨⟨ys, hj⟩, fun z => ij z.symm⟩
  refine ⟨⟨by rw [List.length_set]; exact S.len, fun j x hj => ?_, fun j ys hj => ?_, fun j ys hj => ?_, fun j q m => ?_, S.lent0, fun j k q a b => S.inj j k q (own j a).1 (own k b).1, fun a ha => ?_, S.base⟩, rr, fun j hj => (own j hj).1⟩
  · rw [getD_set hi] at hj
    by_cases ij : i = j
    · subst ij
      rw [if_pos rfl] at hj
      cases hj
      exact ⟨_, e, rr⟩
    · rw [if_neg ij] at hj
      obtain ⟨v, a, b⟩ := S.dat j x hj
      exact ⟨v, a, b.more sub⟩
  · have oj := own j ⟨ys, .inl hj⟩
    rw [getD_set hi, if_neg fun z => oj.2 z.symm] at hj
    obtain ⟨q, ws, a, b, c, d, f⟩ := S.own j ys hj
    refine ⟨q, ws, a, b, c.more sub, ?_, f⟩
    rintro (z | z)
    · exact d z
    · subst z
      exact oj.2 (S.inj j i q oj.1 ⟨xs, .inl h⟩ a e)
  · have oj := own j ⟨ys, .inr hj⟩
    rw [getD_set hi, if_neg fun z => oj.2 z.symm] at hj
    obtain ⟨q, ws, m, a, b, c, d⟩ := S.lent j ys hj
    refine ⟨q, ws, m, a, b, c.more sub, ?_⟩
    rintro (z | z)
    · exact d z
    · subst z
      exact oj.2 (S.inj j i q oj.1 ⟨xs, .inl h⟩ a e)
  · obtain ⟨ys, hj⟩ := S.lentE j q m
    refine ⟨ys, ?_⟩
    rw [getD_set hi, if_neg, hj]
    rintro rfl
    rw [h] at hj
    cases hj
  · rcases ha with ha | rfl
    · exact S.frz a ha
    · exact ⟨vs, e2⟩
end

/-! ### values -/
/-- Hb: the heap ahead of the expression -/
def RvOk (K : PySem.W.Frag) (F : Addr → Prop) (H : Hp) (st : DSt) (σ : L2.St) (Hb : Hp) : Rv → V → Prop
  | .d x, v => Rp K F H v x
  | .tmp xs, v => ∃ p vs, v = .ref p ∧ H p = some (.lst vs) ∧ RpAll K F H vs xs ∧ ¬ F p ∧ ¬ OwnAt st σ p ∧ Hb p = none
  | .sl i, v => σ[i]? = some (some v)
/-- .. of which it is not told that no other one has it -/
def RvW (K : PySem.W.Frag) (F : Addr → Prop) (H : Hp) (st : DSt) (σ : L2.St) (Hb : Hp) : Rv → V → Prop
  | .d x, v => Rp K F H v x
  | .tmp xs, v => ∃ p vs, v = .ref p ∧ H p = some (.lst vs) ∧ RpAll K F H vs xs ∧ ¬ OwnAt st σ p ∧ Hb p = none
  | .sl i, v => σ[i]? = some (some v)
inductive RvWs (K : PySem.W.Frag) (F : Addr → Prop) (H : Hp) (st : DSt) (σ : L2.St) (Hb : Hp) : List Rv → List V → Prop
  | nil : RvWs K F H st σ Hb [] []
  | cons {r : Rv} {v : V} {rs : List Rv} {vs : List V} : RvW K F H st σ Hb r v → RvWs K F H st σ Hb rs vs → RvWs K F H st σ Hb (r :: rs) (v :: vs)
/-- what may be looked at -/
def Pk (K : PySem.W.Frag) (F : Addr → Prop) (H : Hp) (v : V) (x : PyData) : Prop :=
  Rp K F H v x ∨ ∃ p vs xs, v = .ref p ∧ x = .list xs ∧ H p = some (.lst vs) ∧ RpAll K F H vs xs
inductive PkAll (K : PySem.W.Frag) (F : Addr → Prop) (H : Hp) : List V → List PyData → Prop
  | nil : PkAll K F H [] []
  | cons {v : V} {x : PyData} {vs : List V} {xs : List PyData} : Pk K F H v x → PkAll K F H vs xs → PkAll K F H (v :: vs) (x :: xs)
section
variable {K : PySem.W.Frag} {H0 : Hp} {M : Nat → Option Addr} {st st' st2 : DSt} {σ : L2.St} {F F' F2 : Addr → Prop} {H H' H2 Hb Hc : Hp} {v : V} {r : Rv} {x : PyData}
theorem RvOk.weak (h : RvOk K F H st σ Hb r v) : RvW K F H st σ Hb r v := by
  cases r with
  | d x => exact h
  | tmp xs => obtain ⟨p, vs, a, b, c, _, d, e⟩ := h; exact ⟨p, vs, a, b, c, d, e⟩
  | sl i => exact h
theorem RvW.birth (h : RvW K F H st σ Hb r v) (l : ∀ b, Hc b ≠ none → Hb b ≠ none) : RvW K F H st σ Hc r v := by
  cases r with
  | d x => exact h
  | tmp xs =>
    obtain ⟨p, vs, a, b, c, d, e⟩ := h
    exact ⟨p, vs, a, b, c, d, Classical.byContradiction fun z => l p z e⟩
  | sl i => exact h
theorem RvOk.birth (h : RvOk K F H st σ Hb r v) (l : ∀ b, Hc b ≠ none → Hb b ≠ none) : RvOk K F H st σ Hc r v := by
  cases r with
  | d x => exact h
  | tmp xs =>
    obtain ⟨p, vs, a, b, c, f, d, e⟩ := h
    exact ⟨p, vs, a, b, c, f, d, Classical.byContradiction fun z => l p z e⟩
  | sl i => exact h
/-- slots stay filled -/
def Fill (_ _ : DSt) : Prop := True
theorem RvW.ext (S : Sim K H0 M st σ F H) (E : Ext st σ F H st' F' H') (f : Fill st st') (h : RvW K F H st σ Hb r v) : RvW K F' H' st' σ Hb r v := by
  cases r with
  | d x => exact E.rp S h
  | tmp xs =>
    obtain ⟨p, vs, a, b, c, d, e⟩ := h
    exact ⟨p, vs, a, E.keep _ _ b d, E.rpAll S c, fun z => d (z.imp E.own), e⟩
  | sl i => exact h
theorem RvOk.ext (S : Sim K H0 M st σ F H) (E : Ext st σ F H st' F' H') (f : Fill st st') (h : RvOk K F H st σ Hb r v) : RvOk K F' H' st' σ Hb r v := by
  cases r with
  | d x => exact E.rp S h
  | tmp xs =>
    obtain ⟨p, vs, a, b, c, nf, d, e⟩ := h
    refine ⟨p, vs, a, E.keep _ _ b d, E.rpAll S c, fun z => ?_, fun z => d (z.imp E.own), e⟩
    rcases E.new p z with z | z | z
    · exact nf z
    · rw [b] at z; cases z
    · exact d z
  | sl i => exact h
theorem look_ok (S : Sim K H0 M st σ F H) (h : RvW K F H st σ Hb r v) (e : look st r = some x) : Pk K F H v x := by
  cases r with
  | d y => cases e; exact .inl h
  | tmp xs =>
    obtain ⟨p, vs, a, b, c, _⟩ := h
    cases e
    exact .inr ⟨p, vs, xs, a, rfl, b, c⟩
  | sl i =>
    have h : σ[i]? = some (some v) := h
    have e : lookS (st.getD i none) = some x := e
    cases q : st.getD i none with
    | none => rw [q] at e; cases e
    | some s =>
      rw [q] at e
      cases s with
      | d y =>
        cases e
        obtain ⟨w, e1, r1⟩ := S.dat i _ q
        rw [h] at e1
        cases e1
        exact .inl r1
      | own xs =>
        cases e
        obtain ⟨p, vs, e1, e2, r1, _⟩ := S.own i xs q
        rw [h] at e1
        cases e1
        exact .inr ⟨p, vs, xs, rfl, rfl, e2, r1⟩
      | lent xs =>
        cases e
        obtain ⟨p, vs, _, e1, e2, r1, _⟩ := S.lent i xs q
        rw [h] at e1
        cases e1
        exact .inr ⟨p, vs, xs, rfl, rfl, e2, r1⟩
theorem looks_ok (S : Sim K H0 M st σ F H) : ∀ {rs : List Rv} {vs : List V} {xs : List D}, RvWs K F H st σ Hb rs vs → looks st rs = some xs → PkAll K F H vs xs
  | [], _, xs, .nil, e => by cases e; exact .nil
  | r :: rs, _, xs, .cons h t, e => by
    have e : ((look st r).bind fun x => (looks st rs).bind fun xs => some (x :: xs)) = some xs := e
    cases q : look st r with
    | none => rw [q] at e; cases e
    | some x =>
      rw [q] at e
      cases q2 : looks st rs with
      | none => rw [q2] at e; cases e
      | some ys =>
        rw [q2] at e
        cases e
        exact .cons (look_ok S h q) (looks_ok S t q2)
theorem Fill.refl : Fill st st := trivial
theorem Fill.trans (_ : Fill st st') (_ : Fill st' st2) : Fill st st2 := trivial
theorem Fill.set {i : Nat} {s : SV} (_ : i < st.length) : Fill st (st.set i (some s)) := trivial
/-- a value given away; the way from the expression's beginning goes on to here -/
theorem toD_ok {sts : DSt} {Fs : Addr → Prop} (S : Sim K H0 M st σ F H) (E : Ext sts σ Fs Hb st F H) (h : RvW K F H st σ Hb r v) (e : toD st r = some (x, st')) :
    ∃ F', Sim K H0 M st' σ F' H ∧ Ext sts σ Fs Hb st' F' H ∧ Rp K F' H v x ∧ (∀ a, F a → F' a) ∧ (∀ i, IsOwn st' i → IsOwn st i) ∧ Fill st st' := by
  cases r with
  | d y =>
    cases e
    exact ⟨F, S, E, h, fun _ h => h, fun _ h => h, .refl⟩
  | tmp xs =>
    cases e
    obtain ⟨p, vs, rfl, b, c, d, f⟩ := h
    have sub : ∀ a, F a → (F a ∨ a = p) := fun _ => .inl
    refine ⟨fun a => F a ∨ a = p, S.more sub ?_ ?_, ⟨fun a z => .inl (E.sub a z), ?_, E.keep, E.live, E.own⟩, .lst (.inl ⟨.inr rfl, b⟩) (c.more sub), sub, fun _ h => h, .refl⟩
    · rintro a (z | rfl)
      · exact S.frz a z
      · exact ⟨vs, b⟩
    · rintro a (z | rfl)
      · exact fun o => (S.atOwn o).2 z
      · exact d
    · rintro a (z | rfl)
      · exact E.new a z
      · exact .inr (.inl f)
  | sl i =>
    have h : σ[i]? = some (some v) := h
    have e : (match st.getD i none with
      | some (.d x) => some (x, st)
      | some (.own xs) => some (.list xs, st.set i (some (.d (.list xs))))
      | _ => none) = some (x, st') := e
    cases q : st.getD i none with
    | none => rw [q] at e; cases e
    | some s =>
      rw [q] at e
      cases s with
      | d y =>
        cases e
        obtain ⟨w, e1, r1⟩ := S.dat i _ q
        rw [h] at e1
        cases e1
        exact ⟨F, S, E, r1, fun _ h => h, fun _ h => h, .refl⟩
      | own xs =>
        cases e
        obtain ⟨p, vs, e1, e2, _⟩ := S.own i xs q
        rw [h] at e1
        cases e1
        obtain ⟨S', rr, o⟩ := S.give q h
        have own1 : OwnAt st σ p := ⟨i, ⟨xs, .inl q⟩, h⟩
        refine ⟨fun a => F a ∨ a = p, S', ⟨fun a z => .inl (E.sub a z), ?_, E.keep, E.live, fun j z => E.own j (o j z)⟩, rr, fun _ => .inl, o, .set (getD_lt q)⟩
        rintro a (z | rfl)
        · exact E.new a z
        · exact .inr (.inr (own1.imp E.own))
      | lent xs => cases e
theorem RvWs.to {F' : Addr → Prop} (s : ∀ a, F a → F' a) (o : ∀ i, IsOwn st' i → IsOwn st i) (f : Fill st st') : ∀ {rs : List Rv} {vs : List V}, RvWs K F H st σ Hb rs vs → RvWs K F' H st' σ Hb rs vs
  | _, _, .nil => .nil
  | r :: rs, _, .cons h t => by
    refine .cons ?_ (RvWs.to s o f t)
    cases r with
    | d x => exact Rp.more s h
    | tmp xs =>
      obtain ⟨p, vs, a, b, c, d, e⟩ := h
      exact ⟨p, vs, a, b, c.more s, fun z => d (z.imp o), e⟩
    | sl i => exact h
theorem RvWs.ext (S : Sim K H0 M st σ F H) (E : Ext st σ F H st' F' H') (f : Fill st st') : ∀ {rs : List Rv} {vs : List V}, RvWs K F H st σ Hb rs vs → RvWs K F' H' st' σ Hb rs vs
  | _, _, .nil => .nil
  | _, _, .cons h t => .cons (h.ext S E f) (RvWs.ext S E f t)
theorem RvWs.birth (l : ∀ b, Hc b ≠ none → Hb b ≠ none) : ∀ {rs : List Rv} {vs : List V}, RvWs K F H st σ Hb rs vs → RvWs K F H st σ Hc rs vs
  | _, _, .nil => .nil
  | _, _, .cons h t => .cons (h.birth l) (RvWs.birth l t)
theorem toDs_ok {sts : DSt} {Fs : Addr → Prop} : ∀ {rs : List Rv} {vs : List V} {xs : List D} {st st' : DSt} {F : Addr → Prop}, Sim K H0 M st σ F H → Ext sts σ Fs Hb st F H → RvWs K F H st σ Hb rs vs → toDs st rs = some (xs, st') →
    ∃ F', Sim K H0 M st' σ F' H ∧ Ext sts σ Fs Hb st' F' H ∧ RpAll K F' H vs xs ∧ (∀ a, F a → F' a) ∧ (∀ i, IsOwn st' i → IsOwn st i) ∧ Fill st st'
  | [], _, xs, st, st', F, S, E, .nil, e => by
    cases e
    exact ⟨F, S, E, .nil, fun _ h => h, fun _ h => h, .refl⟩
  | r :: rs, _, xs, st, st', F, S, E, .cons h t, e => by
    have e : ((toD st r).bind fun p => (toDs p.2 rs).bind fun q => some (p.1 :: q.1, q.2)) = some (xs, st') := e
    cases q : toD st r with
    | none => rw [q] at e; cases e
    | some p =>
      rw [q] at e
      cases q2 : toDs p.2 rs with
      | none =>
        have e : ((toDs p.2 rs).bind fun q => some (p.1 :: q.1, q.2)) = some (xs, st') := e
        rw [q2] at e
        cases e
      | some w =>
        have e : ((toDs p.2 rs).bind fun q => some (p.1 :: q.1, q.2)) = some (xs, st') := e
        rw [q2] at e
        cases e
        obtain ⟨F1, S1, E1, r1, s1, o1, f1⟩ := toD_ok S E h q
        obtain ⟨F2, S2, E2, r2, s2, o2, f2⟩ := toDs_ok S1 E1 (t.to s1 o1 f1) q2
        exact ⟨F2, S2, E2, .cons (r1.more s2) r2, fun a z => s2 a (s1 a z), fun i z => o1 i (o2 i z), f1.trans f2⟩
end
end DL
end

section
set_option Elab.async false
set_option linter.all false
set_option maxRecDepth 100000
set_option maxHeartbeats 1000000
/-! DLsnd2: readings of expressions and tests. -/
namespace DL
open PySem PySem.Spec PyProof.Rows L2
def SndE (K : PySem.W.Frag) (t : TE) (f : DE) : Prop := ∀ (H0 : Hp) (M : Nat → Option Addr) (st : DSt) (σ : L2.St) (F : Addr → Prop) (H : Hp) (r : Rv) (st' : DSt) (Q : VK), Sim K H0 M st σ F H → f st = some (r, st') →
  (∀ v F' H', Sim K H0 M st' σ F' H' → Ext st σ F H st' F' H' → Fill st st' → RvOk K F' H' st' σ H r v → Q v H') → t σ H Q
def SndT (K : PySem.W.Frag) (t : TT) (f : DT) : Prop := ∀ (H0 : Hp) (M : Nat → Option Addr) (st : DSt) (σ : L2.St) (F : Addr → Prop) (H : Hp) (b : Bool) (st' : DSt) (Q : Bool → Hp → Prop), Sim K H0 M st σ F H → f st = some (b, st') →
  (∀ F' H', Sim K H0 M st' σ F' H' → Ext st σ F H st' F' H' → Fill st st' → Q b H') → t σ H Q
def SndA (K : PySem.W.Frag) (t : TA) (f : DA) : Prop := ∀ (H0 : Hp) (M : Nat → Option Addr) (st : DSt) (σ : L2.St) (F : Addr → Prop) (H : Hp) (rs : List Rv) (st' : DSt) (Q : List V → Hp → Prop), Sim K H0 M st σ F H → f st = some (rs, st') →
  (∀ vs F' H', Sim K H0 M st' σ F' H' → Ext st σ F H st' F' H' → Fill st st' → RvWs K F' H' st' σ H rs vs → Q vs H') → t σ H Q
def SndO (K : PySem.W.Frag) (t : TO) (f : DO) : Prop := ∀ (H0 : Hp) (M : Nat → Option Addr) (st : DSt) (σ : L2.St) (F : Addr → Prop) (H : Hp) (o : Option Int) (st' : DSt) (Q : Option Int → Hp → Prop), Sim K H0 M st σ F H → f st = some (o, st') →
  (∀ F' H', Sim K H0 M st' σ F' H' → Ext st σ F H st' F' H' → Fill st st' → Q o H') → t σ H Q
/-- what an operation makes -/
def NewOk (K : PySem.W.Frag) (F : Addr → Prop) (H H' : Hp) (v : V) : Rv → Prop
  | .d x => Rp K F H' v x
  | .tmp xs => ∃ p vs, v = .ref p ∧ H p = none ∧ H' p = some (.lst vs) ∧ RpAll K F H' vs xs
  | .sl _ => False
def Prim2 (K : PySem.W.Frag) (r : R2) (op : D → D → Option Rv) : Prop := ∀ (F : Addr → Prop) (H : Hp) (v w : V) (x y : D) (z : Rv) (Q : VK), Pk K F H v x → Pk K F H w y → op x y = some z →
  (∀ v' H', Same H H' → NewOk K F H H' v' z → Q v' H') → r v w H Q
def Prim1 (K : PySem.W.Frag) (r : V → Hp → VK → Prop) (op : D → Option Rv) : Prop := ∀ (F : Addr → Prop) (H : Hp) (v : V) (x : D) (z : Rv) (Q : VK), Pk K F H v x → op x = some z →
  (∀ v' H', Same H H' → NewOk K F H H' v' z → Q v' H') → r v H Q
def PrimN (K : PySem.W.Frag) (r : List V → Hp → VK → Prop) (op : List D → Option Rv) : Prop := ∀ (F : Addr → Prop) (H : Hp) (vs : List V) (xs : List D) (z : Rv) (Q : VK), PkAll K F H vs xs → op xs = some z →
  (∀ v' H', Same H H' → NewOk K F H H' v' z → Q v' H') → r vs H Q
def PrimS (K : PySem.W.Frag) (r : V → Option Int → Option Int → Hp → VK → Prop) (op : D → Option Int → Option Int → Option Rv) : Prop := ∀ (F : Addr → Prop) (H : Hp) (v : V) (x : D) (lo hi : Option Int) (z : Rv) (Q : VK), Pk K F H v x → op x lo hi = some z →
  (∀ v' H', Same H H' → NewOk K F H H' v' z → Q v' H') → r v lo hi H Q
section
variable {K : PySem.W.Frag} {H0 : Hp} {M : Nat → Option Addr} {st st' st2 : DSt} {σ : L2.St} {F F' F2 : Addr → Prop} {H H' H2 H3 Hb Hc : Hp} {v w : V} {r : Rv} {x : PyData}
theorem bs {α β : Type} {o : Option α} {f : α → Option β} {r : β} (h : (o.bind f) = some r) : ∃ x, o = some x ∧ f x = some r := by
  cases o with
  | none => cases h
  | some x => exact ⟨x, rfl, h⟩
theorem fin_new {z : Rv} (S2 : Sim K H0 M st2 σ F2 H2) (E : Ext st σ F H st2 F2 H2) (s : Same H2 H3) (n : NewOk K F2 H2 H3 v z) : Sim K H0 M st2 σ F2 H3 ∧ Ext st σ F H st2 F2 H3 ∧ RvOk K F2 H3 st2 σ H z v := by
  refine ⟨S2.grow s, E.trans (.grow s), ?_⟩
  cases z with
  | d x => exact n
  | tmp xs =>
    obtain ⟨p, vs, a, b, c, d⟩ := n
    refine ⟨p, vs, a, c, d, fun z => ?_, fun z => ?_, Classical.byContradiction fun z => E.live p z b⟩
    · obtain ⟨ys, e⟩ := S2.frz p z
      rw [b] at e
      cases e
    · obtain ⟨⟨ys, e⟩, _⟩ := S2.atOwn z
      rw [b] at e
      cases e
  | sl i => exact n.elim

/-! ### names, constants -/
theorem snd_var {i : Nat} : SndE K (tVar i) (dVar i) := by
  intro H0 M st σ F H r st' Q S e q
  have e : (match st.getD i none with
    | some (.d x) => some (.d x, st)
    | some (.own _) => some (.sl i, st)
    | some (.lent _) => some (.sl i, st)
    | none => none) = some (r, st') := e
  cases g : st.getD i none with
  | none => rw [g] at e; cases e
  | some s =>
    rw [g] at e
    cases s with
    | d x =>
      cases e
      obtain ⟨v, e1, r1⟩ := S.dat i x g
      exact ⟨v, e1, q v F H S .refl .refl r1⟩
    | own xs =>
      cases e
      obtain ⟨p, vs, e1, _⟩ := S.own i xs g
      exact ⟨_, e1, q _ F H S .refl .refl e1⟩
    | lent xs =>
      cases e
      obtain ⟨p, vs, _, e1, _⟩ := S.lent i xs g
      exact ⟨_, e1, q _ F H S .refl .refl e1⟩
theorem snd_c {v : V} {x : D} (h : ∀ (F : Addr → Prop) (H : Hp), Rp K F H v x) : SndE K (tC v) (dC x) := by
  intro H0 M st σ F H r st' Q S e q
  cases e
  exact q v F H S .refl .refl (h F H)

/-! ### argument lists -/
theorem snd_nil : SndA K tNil dNil := by
  intro H0 M st σ F H rs st' Q S e q
  cases e
  exact q [] F H S .refl .refl .nil
theorem snd_cons {ta : TE} {tr : TA} {f : DE} {g : DA} (a : SndE K ta f) (b : SndA K tr g) : SndA K (tCons ta tr) (dCons f g) := by
  intro H0 M st σ F H rs st' Q S e q
  obtain ⟨p, e1, e⟩ := bs e
  obtain ⟨w, e2, e⟩ := bs e
  cases e
  refine a H0 M st σ F H p.1 p.2 _ S e1 fun v F1 H1 S1 E1 f1 r1 => ?_
  refine b H0 M p.2 σ F1 H1 w.1 w.2 _ S1 e2 fun vs F2 H2 S2 E2 f2 r2 => ?_
  exact q (v :: vs) F2 H2 S2 (E1.trans E2) (f1.trans f2) (.cons (r1.weak.ext S1 E2 f2) (r2.birth E1.live))

/-! ### operators -/
theorem snd_op2 {r : R2} {op : D → D → Option Rv} {ta tb : TE} {f g : DE} (h : Prim2 K r op) (a : SndE K ta f) (b : SndE K tb g) : SndE K (tOp r ta tb) (dOp2 op f g) := by
  intro H0 M st σ F H z st' Q S e q
  obtain ⟨p, e1, e⟩ := bs e
  obtain ⟨w, e2, e⟩ := bs e
  obtain ⟨x, e3, e⟩ := bs e
  obtain ⟨y, e4, e⟩ := bs e
  obtain ⟨u, e5, e⟩ := bs e
  cases e
  refine a H0 M st σ F H p.1 p.2 _ S e1 fun v F1 H1 S1 E1 f1 r1 => ?_
  refine b H0 M p.2 σ F1 H1 w.1 w.2 _ S1 e2 fun v2 F2 H2 S2 E2 f2 r2 => ?_
  refine h F2 H2 v v2 x y z Q (look_ok S2 (r1.weak.ext S1 E2 f2) e3) (look_ok S2 r2.weak e4) e5 fun v' H' s n => ?_
  obtain ⟨S3, E3, r3⟩ := fin_new S2 (E1.trans E2) s n
  exact q v' F2 H' S3 E3 (f1.trans f2) r3
theorem snd_op1 {r : V → Hp → VK → Prop} {op : D → Option Rv} {ta : TE} {f : DE} (h : Prim1 K r op) (a : SndE K ta f) : SndE K (tUn r ta) (dOp1 op f) := by
  intro H0 M st σ F H z st' Q S e q
  obtain ⟨p, e1, e⟩ := bs e
  obtain ⟨x, e3, e⟩ := bs e
  obtain ⟨u, e5, e⟩ := bs e
  cases e
  refine a H0 M st σ F H p.1 p.2 _ S e1 fun v F1 H1 S1 E1 f1 r1 => ?_
  refine h F1 H1 v x z Q (look_ok S1 r1.weak e3) e5 fun v' H' s n => ?_
  obtain ⟨S3, E3, r3⟩ := fin_new S1 E1 s n
  exact q v' F1 H' S3 E3 f1 r3
theorem snd_callB {r : List V → Hp → VK → Prop} {op : List D → Option Rv} {t : TA} {f : DA} (h : PrimN K r op) (a : SndA K t f) : SndE K (tCB r t) (dCallB op f) := by
  intro H0 M st σ F H z st' Q S e q
  obtain ⟨p, e1, e⟩ := bs e
  obtain ⟨xs, e3, e⟩ := bs e
  obtain ⟨u, e5, e⟩ := bs e
  cases e
  refine a H0 M st σ F H p.1 p.2 _ S e1 fun vs F1 H1 S1 E1 f1 r1 => ?_
  refine h F1 H1 vs xs z Q (looks_ok S1 r1 e3) e5 fun v' H' s n => ?_
  obtain ⟨S3, E3, r3⟩ := fin_new S1 E1 s n
  exact q v' F1 H' S3 E3 f1 r3
theorem snd_nopart : SndO K tNoPart dNoPart := by
  intro H0 M st σ F H o st' Q S e q
  cases e
  exact q F H S .refl .refl
theorem snd_part {t : TE} {f : DE} (a : SndE K t f) : SndO K (tPart t) (dPart f) := by
  intro H0 M st σ F H o st' Q S e q
  obtain ⟨p, e1, e⟩ := bs e
  refine a H0 M st σ F H p.1 p.2 _ S e1 fun v F1 H1 S1 E1 f1 r1 => ?_
  cases g : look p.2 p.1 with
  | none => rw [g] at e; cases e
  | some x =>
    rw [g] at e
    cases x with
    | int i =>
      cases e
      have k := look_ok S1 r1.weak g
      rcases k with k | ⟨_, _, _, _, k, _⟩
      · cases k
        exact ⟨i, rfl, q F1 H1 S1 E1 f1⟩
      · cases k
    | _ => cases e
theorem snd_slice {r : V → Option Int → Option Int → Hp → VK → Prop} {op : D → Option Int → Option Int → Option Rv} {te : TE} {tl th : TO} {f : DE} {fl fh : DO} (h : PrimS K r op) (a : SndE K te f) (b : SndO K tl fl) (c : SndO K th fh) :
    SndE K (tSl r te tl th) (dSlice op f fl fh) := by
  intro H0 M st σ F H z st' Q S e q
  obtain ⟨p, e1, e⟩ := bs e
  obtain ⟨l, e2, e⟩ := bs e
  obtain ⟨u, e3, e⟩ := bs e
  obtain ⟨x, e4, e⟩ := bs e
  obtain ⟨y, e5, e⟩ := bs e
  cases e
  refine a H0 M st σ F H p.1 p.2 _ S e1 fun v F1 H1 S1 E1 f1 r1 => ?_
  refine b H0 M p.2 σ F1 H1 l.1 l.2 _ S1 e2 fun F2 H2 S2 E2 f2 => ?_
  refine c H0 M l.2 σ F2 H2 u.1 u.2 _ S2 e3 fun F3 H3 S3 E3 f3 => ?_
  refine h F3 H3 v x l.1 u.1 z Q (look_ok S3 ((r1.weak.ext S1 E2 f2).ext S2 E3 f3) e4) e5 fun v' H' s n => ?_
  obtain ⟨S4, E4, r4⟩ := fin_new S3 ((E1.trans E2).trans E3) s n
  exact q v' F3 H' S4 E4 ((f1.trans f2).trans f3) r4
theorem same_upd {H : Hp} {p : Addr} {o : HO} (h : H p = none) : Same H (upd H p o) := fun b x e => by
  rw [upd_ne (ne_of_none e h)]
  exact e
theorem snd_list {t : TA} {f : DA} (a : SndA K t f) : SndE K (tLst t) (dList f) := by
  intro H0 M st σ F H z st' Q S e q
  obtain ⟨p, e1, e⟩ := bs e
  obtain ⟨w, e2, e⟩ := bs e
  refine a H0 M st σ F H p.1 p.2 _ S e1 fun vs F1 H1 S1 E1 f1 r1 => ?_
  obtain ⟨F2, S2, E2, rr, _, _, f2⟩ := toDs_ok S1 E1 r1 e2
  by_cases hz : w.1.length ≤ sizeLine
  · rw [if_pos hz] at e
    cases e
    refine ⟨by rw [rr.length]; exact hz, fun p hp => ?_⟩
    obtain ⟨S3, E3, r3⟩ := fin_new (z := .tmp w.1) S2 E2 (same_upd hp) ⟨p, vs, rfl, hp, upd_same, rr.grow (same_upd hp)⟩
    exact q _ F2 _ S3 E3 (f1.trans f2) r3
  · rw [if_neg hz] at e
    cases e
theorem snd_tup {t : TA} {f : DA} (a : SndA K t f) : SndE K (tTup t) (dTup f) := by
  intro H0 M st σ F H z st' Q S e q
  obtain ⟨p, e1, e⟩ := bs e
  obtain ⟨w, e2, e⟩ := bs e
  refine a H0 M st σ F H p.1 p.2 _ S e1 fun vs F1 H1 S1 E1 f1 r1 => ?_
  obtain ⟨F2, S2, E2, rr, _, _, f2⟩ := toDs_ok S1 E1 r1 e2
  by_cases hz : w.1.length ≤ sizeLine
  · rw [if_pos hz] at e
    cases e
    refine ⟨by rw [rr.length]; exact hz, fun p hp => ?_⟩
    obtain ⟨S3, E3, r3⟩ := fin_new (z := .d (.tuple w.1)) S2 E2 (same_upd hp) (show Rp K F2 _ (.ref p) _ from .tup (SqT.of upd_same) (rr.grow (same_upd hp)))
    exact q _ F2 _ S3 E3 (f1.trans f2) r3
  · rw [if_neg hz] at e
    cases e

/-! ### tests -/
theorem look_bool (S : Sim K H0 M st σ F H) (h : RvW K F H st σ Hb r v) {b : Bool} (e : look st r = some (.bool b)) : v = .bl b := by
  rcases look_ok S h e with k | ⟨_, _, _, _, k, _⟩
  · cases k
    rfl
  · cases k
theorem snd_test {t : TE} {f : DE} (a : SndE K t f) : SndT K (tB t) (dTest f) := by
  intro H0 M st σ F H b st' Q S e q
  obtain ⟨p, e1, e⟩ := bs e
  refine a H0 M st σ F H p.1 p.2 _ S e1 fun v F1 H1 S1 E1 f1 r1 => ?_
  cases g : look p.2 p.1 with
  | none => rw [g] at e; cases e
  | some x =>
    rw [g] at e
    cases x with
    | bool c =>
      cases e
      exact ⟨b, look_bool S1 r1.weak g, q F1 H1 S1 E1 f1⟩
    | _ => cases e
theorem snd_testC {t : TE} {f : DE} (a : SndE K t f) : SndT K (tTest t) (dTest f) := snd_test a
theorem snd_not {t : TT} {f : DT} (a : SndT K t f) : SndT K (tNot t) (dNot f) := by
  intro H0 M st σ F H b st' Q S e q
  obtain ⟨p, e1, e⟩ := bs e
  cases e
  exact a H0 M st σ F H p.1 p.2 _ S e1 fun F1 H1 S1 E1 f1 => q F1 H1 S1 E1 f1
theorem snd_and {t u : TT} {f g : DT} (a : SndT K t f) (b : SndT K u g) : SndT K (tAnd t u) (dAnd f g) := by
  intro H0 M st σ F H k st' Q S e q
  obtain ⟨p, e1, e⟩ := bs e
  refine a H0 M st σ F H p.1 p.2 _ S e1 fun F1 H1 S1 E1 f1 => ?_
  by_cases c : p.1 = true
  · rw [if_pos c] at e
    rw [if_pos c]
    exact b H0 M p.2 σ F1 H1 k st' _ S1 e fun F2 H2 S2 E2 f2 => q F2 H2 S2 (E1.trans E2) (f1.trans f2)
  · rw [if_neg c] at e
    rw [if_neg c]
    cases e
    exact q F1 H1 S1 E1 f1
theorem snd_or {t u : TT} {f g : DT} (a : SndT K t f) (b : SndT K u g) : SndT K (tOr t u) (dOr f g) := by
  intro H0 M st σ F H k st' Q S e q
  obtain ⟨p, e1, e⟩ := bs e
  refine a H0 M st σ F H p.1 p.2 _ S e1 fun F1 H1 S1 E1 f1 => ?_
  by_cases c : p.1 = true
  · rw [if_pos c] at e
    rw [if_pos c]
    cases e
    exact q F1 H1 S1 E1 f1
  · rw [if_neg c] at e
    rw [if_neg c]
    exact b H0 M p.2 σ F1 H1 k st' _ S1 e fun F2 H2 S2 E2 f2 => q F2 H2 S2 (E1.trans E2) (f1.trans f2)
theorem snd_andV {t u : TE} {f g : DE} (a : SndE K t f) (b : SndE K u g) : SndE K (tAndV t u) (dAndV f g) := by
  intro H0 M st σ F H k st' Q S e q
  obtain ⟨p, e1, e⟩ := bs e
  refine a H0 M st σ F H p.1 p.2 _ S e1 fun v F1 H1 S1 E1 f1 r1 => ?_
  cases g' : look p.2 p.1 with
  | none => rw [g'] at e; cases e
  | some x =>
    rw [g'] at e
    cases x with
    | bool c =>
      refine ⟨c, look_bool S1 r1.weak g', ?_⟩
      cases c with
      | true =>
        rw [if_pos rfl]
        have e : g p.2 = some (k, st') := e
        exact b H0 M p.2 σ F1 H1 k st' _ S1 e fun v F2 H2 S2 E2 f2 r2 => q v F2 H2 S2 (E1.trans E2) (f1.trans f2) (r2.birth E1.live)
      | false =>
        rw [if_neg Bool.false_ne_true]
        have e : some (Rv.d (.bool false), p.2) = some (k, st') := e
        cases e
        exact q _ F1 H1 S1 E1 f1 (.bl false)
    | _ => cases e
theorem snd_orV {t u : TE} {f g : DE} (a : SndE K t f) (b : SndE K u g) : SndE K (tOrV t u) (dOrV f g) := by
  intro H0 M st σ F H k st' Q S e q
  obtain ⟨p, e1, e⟩ := bs e
  refine a H0 M st σ F H p.1 p.2 _ S e1 fun v F1 H1 S1 E1 f1 r1 => ?_
  cases g' : look p.2 p.1 with
  | none => rw [g'] at e; cases e
  | some x =>
    rw [g'] at e
    cases x with
    | bool c =>
      refine ⟨c, look_bool S1 r1.weak g', ?_⟩
      cases c with
      | false =>
        rw [if_neg Bool.false_ne_true]
        have e : g p.2 = some (k, st') := e
        exact b H0 M p.2 σ F1 H1 k st' _ S1 e fun v F2 H2 S2 E2 f2 r2 => q v F2 H2 S2 (E1.trans E2) (f1.trans f2) (r2.birth E1.live)
      | true =>
        rw [if_pos rfl]
        have e : some (Rv.d (.bool true), p.2) = some (k, st') := e
        cases e
        exact q _ F1 H1 S1 E1 f1 (.bl true)
    | _ => cases e
theorem snd_notV {t : TE} {f : DE} (a : SndE K t f) : SndE K (tNotV t) (dNotV f) := by
  intro H0 M st σ F H k st' Q S e q
  obtain ⟨p, e1, e⟩ := bs e
  refine a H0 M st σ F H p.1 p.2 _ S e1 fun v F1 H1 S1 E1 f1 r1 => ?_
  cases g' : look p.2 p.1 with
  | none => rw [g'] at e; cases e
  | some x =>
    rw [g'] at e
    cases x with
    | bool c =>
      cases e
      exact ⟨c, look_bool S1 r1.weak g', q _ F1 H1 S1 E1 f1 (.bl _)⟩
    | _ => cases e
theorem snd_if {t : TT} {ta tb : TE} {c : DT} {f g : DE} (a : SndT K t c) (b : SndE K ta f) (d : SndE K tb g) : SndE K (tIf t ta tb) (dIf c f g) := by
  intro H0 M st σ F H k st' Q S e q
  obtain ⟨p, e1, e⟩ := bs e
  refine a H0 M st σ F H p.1 p.2 _ S e1 fun F1 H1 S1 E1 f1 => ?_
  by_cases h : p.1 = true
  · rw [if_pos h] at e
    rw [if_pos h]
    exact b H0 M p.2 σ F1 H1 k st' _ S1 e fun v F2 H2 S2 E2 f2 r2 => q v F2 H2 S2 (E1.trans E2) (f1.trans f2) (r2.birth E1.live)
  · rw [if_neg h] at e
    rw [if_neg h]
    exact d H0 M p.2 σ F1 H1 k st' _ S1 e fun v F2 H2 S2 E2 f2 r2 => q v F2 H2 S2 (E1.trans E2) (f1.trans f2) (r2.birth E1.live)
end

/-! ### what the operators' readings ask -/
section
variable {K : PySem.W.Frag} {F : Addr → Prop} {H : Hp} {v : V}
theorem Pk.int {i : Int} (h : Pk K F H v (.int i)) : v = .int i := by
  rcases h with k | ⟨_, _, _, _, k, _⟩
  · cases k; rfl
  · cases k
theorem Pk.bl {i : Bool} (h : Pk K F H v (.bool i)) : v = .bl i := by
  rcases h with k | ⟨_, _, _, _, k, _⟩
  · cases k; rfl
  · cases k
theorem Pk.str {i : Str} (h : Pk K F H v (.str i)) : v = .str i := by
  rcases h with k | ⟨_, _, _, _, k, _⟩
  · cases k; rfl
  · cases k
theorem Pk.non (h : Pk K F H v .none) : v = .non := by
  rcases h with k | ⟨_, _, _, _, k, _⟩
  · cases k; rfl
  · cases k
theorem Pk.list {xs : List D} (h : Pk K F H v (.list xs)) : ∃ p vs, v = .ref p ∧ SqL K H p vs ∧ RpAll K F H vs xs := by
  rcases h with k | ⟨p, vs, ys, rfl, k, e, r⟩
  · cases k with
    | lst a b => exact ⟨_, _, rfl, a.sql, b⟩
  · cases k
    exact ⟨p, vs, rfl, SqL.of e, r⟩
theorem Pk.tup {xs : List D} (h : Pk K F H v (.tuple xs)) : ∃ p vs, v = .ref p ∧ SqT K H p vs ∧ RpAll K F H vs xs := by
  rcases h with k | ⟨p, vs, ys, rfl, k, e, r⟩
  · cases k with
    | tup a b => exact ⟨_, _, rfl, a, b⟩
  · cases k
theorem Pk.dp {x : D} (h : Pk K F H v x) (n : x.hasDict = false) : Dp K H v x := by
  rcases h with k | ⟨p, vs, ys, rfl, k, e, r⟩
  · exact k.dp n
  · subst k
    exact .lst (SqL.of e) (r.dp (by simpa [PyData.hasDict] using n))
theorem Same.rfl' : Same H H := fun _ _ h => h
theorem p_int2 {g : Int → Int → V} {gd : Int → Int → Option Rv} {C : Int → Int → Prop} (h : ∀ i j z, gd i j = some z → C i j ∧ ∀ (F : Addr → Prop) (H : Hp), NewOk K F H H (g i j) z) :
    Prim2 K (rI C g) fun x y => match x, y with | .int i, .int j => gd i j | _, _ => none := by
  intro F H v w x y z Q a b e q
  cases x with
  | int i =>
    cases y with
    | int j =>
      obtain ⟨c, n⟩ := h i j z e
      exact ⟨i, j, a.int, b.int, c, q _ H Same.rfl' (n F H)⟩
    | _ => cases e
  | _ => cases e
theorem prim_sub : Prim2 K (rI0 fun i j => .int (i - j)) opSub := by
  intro F H v w x y z Q a b e q
  cases x <;> cases y <;> try (cases e; done)
  cases e
  exact ⟨_, _, a.int, b.int, q _ H Same.rfl' (.int _)⟩
theorem prim_div : Prim2 K (rI CDivW fun i j => .int (i / j)) opDiv := by
  intro F H v w x y z Q a b e q
  cases x <;> cases y <;> try (cases e; done)
  rename_i i j
  have e : (if 0 < j ∧ j.natAbs.log2 < 9000 then some (Rv.d (.int (i / j))) else none) = some z := e
  by_cases c : 0 < j ∧ j.natAbs.log2 < 9000
  · rw [if_pos c] at e
    cases e
    exact ⟨_, _, a.int, b.int, c, q _ H Same.rfl' (.int _)⟩
  · rw [if_neg c] at e
    cases e
theorem prim_mod : Prim2 K (rI (fun _ j => 0 < j) fun i j => .int (i % j)) opMod := by
  intro F H v w x y z Q a b e q
  cases x <;> cases y <;> try (cases e; done)
  rename_i i j
  have e : (if 0 < j then some (Rv.d (.int (i % j))) else none) = some z := e
  by_cases c : 0 < j
  · rw [if_pos c] at e
    cases e
    exact ⟨_, _, a.int, b.int, c, q _ H Same.rfl' (.int _)⟩
  · rw [if_neg c] at e
    cases e
theorem prim_pow : Prim2 K (rI CPow fun i j => .int (i ^ j.toNat)) opPow := by
  intro F H v w x y z Q a b e q
  cases x <;> cases y <;> try (cases e; done)
  rename_i i j
  have e : (if 0 ≤ j ∧ j ≤ 1000000 ∧ i.natAbs < 2 ^ 64 then some (Rv.d (.int (i ^ j.toNat))) else none) = some z := e
  by_cases c : 0 ≤ j ∧ j ≤ 1000000 ∧ i.natAbs < 2 ^ 64
  · rw [if_pos c] at e
    cases e
    exact ⟨_, _, a.int, b.int, c, q _ H Same.rfl' (.int _)⟩
  · rw [if_neg c] at e
    cases e
theorem prim_cmp {p : Int → Int → Bool} : Prim2 K (rI0 fun i j => .bl (p i j)) (opCmp p) := by
  intro F H v w x y z Q a b e q
  cases x <;> cases y <;> try (cases e; done)
  cases e
  exact ⟨_, _, a.int, b.int, q _ H Same.rfl' (.bl _)⟩
theorem prim_neg : Prim1 K (rU fun i => .int (-i)) opNeg := by
  intro F H v x z Q a e q
  cases x <;> try (cases e; done)
  cases e
  exact ⟨_, a.int, q _ H Same.rfl' (.int _)⟩
theorem flat_plain {x : PyData} (h : flat x = true) : x.plain = true := by
  unfold flat at h
  exact (Bool.and_eq_true _ _ ▸ h).1
theorem flat_depth {x : PyData} (h : flat x = true) : x.depth ≤ 64 := by
  unfold flat at h
  exact of_decide_eq_true (Bool.and_eq_true _ _ ▸ h).2
mutual
theorem plain_noDict : ∀ x : PyData, x.plain = true → x.hasDict = false
  | .none, _ => rfl
  | .bool _, _ => rfl
  | .int _, _ => rfl
  | .str _, _ => rfl
  | .list xs, h => by
    simp only [PyData.plain] at h
    simp only [PyData.hasDict]
    exact plain_noDictAll xs h
  | .tuple xs, h => by
    simp only [PyData.plain] at h
    simp only [PyData.hasDict]
    exact plain_noDictAll xs h
  | .dict _, h => by simp [PyData.plain] at h
theorem plain_noDictAll : ∀ xs : List PyData, PyData.plainAll xs = true → PyData.hasDictAll xs = false
  | [], _ => rfl
  | x :: xs, h => by
    simp only [PyData.plainAll, Bool.and_eq_true] at h
    simp only [PyData.hasDictAll, Bool.or_eq_false_iff]
    exact ⟨plain_noDict x h.1, plain_noDictAll xs h.2⟩
end
theorem flat_noDict {x : PyData} (h : flat x = true) : x.hasDict = false := plain_noDict x (flat_plain h)
def rEqP (K : PySem.W.Frag) : R2 := fun x y H Q => ∃ d e, Dp K H x d ∧ Dp K H y e ∧ flat d = true ∧ flat e = true ∧ Q (.bl (PyData.eqv d e)) H
def rNeP (K : PySem.W.Frag) : R2 := fun x y H Q => ∃ d e, Dp K H x d ∧ Dp K H y e ∧ flat d = true ∧ flat e = true ∧ Q (.bl (!PyData.eqv d e)) H
theorem op_eqP {X : Cx} (hu : X.A.units + 64 < cLine) : OpR X (compareOp .Eq) (rEqP X.K) := by
  intro pins s σ H x y v u Q I rx ry h
  obtain ⟨d, e, hd, he, sd, se, q⟩ := h
  obtain ⟨as, r1⟩ := Dp.reads I d x v hd rx
  obtain ⟨bs, r2⟩ := Dp.reads I e y u he ry
  have h1 := flat_depth sd
  exact SeqAt.eq_plain r1 r2 (flat_plain sd) (flat_plain se) (by omega) ⟨.bl _, H, I, rfl, q⟩
theorem op_neP {X : Cx} (hu : X.A.units + 64 < cLine) : OpR X (compareOp .NotEq) (rNeP X.K) := by
  intro pins s σ H x y v u Q I rx ry h
  obtain ⟨d, e, hd, he, sd, se, q⟩ := h
  obtain ⟨as, r1⟩ := Dp.reads I d x v hd rx
  obtain ⟨bs, r2⟩ := Dp.reads I e y u he ry
  have h1 := flat_depth sd
  exact SeqAt.ne_plain r1 r2 (flat_plain sd) (flat_plain se) (by omega) ⟨.bl _, H, I, rfl, q⟩
theorem prim_eq : Prim2 K (rEqP K) opEq := by
  intro F H v w x y z Q a b e q
  have e : (if flat x = true ∧ flat y = true then some (Rv.d (.bool (PyData.eqv x y))) else none) = some z := e
  by_cases c : flat x = true ∧ flat y = true
  · rw [if_pos c] at e
    cases e
    exact ⟨x, y, a.dp (flat_noDict c.1), b.dp (flat_noDict c.2), c.1, c.2, q _ H Same.rfl' (.bl _)⟩
  · rw [if_neg c] at e
    cases e
theorem prim_ne : Prim2 K (rNeP K) opNe := by
  intro F H v w x y z Q a b e q
  have e : (if flat x = true ∧ flat y = true then some (Rv.d (.bool (!PyData.eqv x y))) else none) = some z := e
  by_cases c : flat x = true ∧ flat y = true
  · rw [if_pos c] at e
    cases e
    exact ⟨x, y, a.dp (flat_noDict c.1), b.dp (flat_noDict c.2), c.1, c.2, q _ H Same.rfl' (.bl _)⟩
  · rw [if_neg c] at e
    cases e
end
end DL
end

section
set_option Elab.async false
set_option linter.all false
set_option maxRecDepth 100000
set_option maxHeartbeats 1000000
/-! DLsnd3: readings of statements, loops, comprehensions, calls. -/
namespace DL
open PySem PySem.Spec PyProof.Rows L2
/-- from one point of a def's run to a later one -/
structure FExt (K : PySem.W.Frag) (H0 : Hp) (F : Addr → Prop) (H : Hp) (F' : Addr → Prop) (H' : Hp) : Prop where
  sub : ∀ a, F a → F' a
  new : ∀ a, F' a → F a ∨ H0 a = none
  fl : ∀ a xs, FL K F H a xs → FL K F' H' a xs
  tup : ∀ a xs, STD K H a xs → STD K H' a xs
def RtOk (K : PySem.W.Frag) (H0 : Hp) (F : Addr → Prop) (H : Hp) : Rt → V → Prop
  | .d x, v => Rp K F H v x
  | .own xs, v => ∃ p vs, v = .ref p ∧ H p = some (.lst vs) ∧ RpAll K F H vs xs ∧ ¬ F p ∧ H0 p = none
def FlOk (K : PySem.W.Frag) (H0 : Hp) (M : Nat → Option Addr) (F : Addr → Prop) (H : Hp) (st' : DSt) (E : Ends) : Fl → Prop
  | .nx => ∀ σ' F' H', Sim K H0 M st' σ' F' H' → FExt K H0 F H F' H' → E.nx σ' H'
  | .bk => ∀ σ' F' H', Sim K H0 M st' σ' F' H' → FExt K H0 F H F' H' → E.bk σ' H'
  | .ct => ∀ σ' F' H', Sim K H0 M st' σ' F' H' → FExt K H0 F H F' H' → E.ct σ' H'
  | .rt r => ∀ v σ' F' H', Sim K H0 M st' σ' F' H' → FExt K H0 F H F' H' → RtOk K H0 F' H' r v → E.rt v H'
def SndS (K : PySem.W.Frag) (t : TS) (g : DS) : Prop := ∀ (H0 : Hp) (M : Nat → Option Addr) (st : DSt) (σ : L2.St) (F : Addr → Prop) (H : Hp) (fl : Fl) (st' : DSt) (E : Ends), Sim K H0 M st σ F H → g st = some (fl, st') →
  FlOk K H0 M F H st' E fl → t E σ H
def SndG (K : PySem.W.Frag) (is : List Nat) (tg : TG) (g : DG) : Prop := ∀ (H0 : Hp) (M : Nat → Option Addr) (st : DSt) (σ : L2.St) (F : Addr → Prop) (H : Hp) (x : D) (v : V) (st' : DSt) (Q : L2.St → Hp → Prop), Sim K H0 M st σ F H → Rp K F H v x → g x st = some st' →
  (∀ σ', Sim K H0 M st' σ' F H → (σ'.length = σ.length ∧ ∀ j, j ∉ is → σ'[j]? = σ[j]?) → (∀ j, IsOwn st' j → IsOwn st j ∧ j ∉ is) → Q σ' H) → tg v σ H Q
def SndGs (K : PySem.W.Frag) (is : List Nat) (tg : TGs) (g : DGs) : Prop := ∀ (H0 : Hp) (M : Nat → Option Addr) (st : DSt) (σ : L2.St) (F : Addr → Prop) (H : Hp) (xs : List D) (vs : List V) (st' : DSt) (Q : L2.St → Hp → Prop), Sim K H0 M st σ F H → RpAll K F H vs xs → g xs st = some st' →
  (∀ σ', Sim K H0 M st' σ' F H → (σ'.length = σ.length ∧ ∀ j, j ∉ is → σ'[j]? = σ[j]?) → (∀ j, IsOwn st' j → IsOwn st j ∧ j ∉ is) → Q σ' H) → tg vs σ H Q
section
variable {K : PySem.W.Frag} {H0 : Hp} {M : Nat → Option Addr} {st st' st2 : DSt} {σ σ' : L2.St} {F F' F2 : Addr → Prop} {H H' H2 H3 Hb Hc : Hp} {v w : V} {r : Rv} {x : PyData} {fl : Fl} {E : Ends}
theorem FExt.refl : FExt K H0 F H F H := ⟨fun _ h => h, fun _ h => .inl h, fun _ _ h => h, fun _ _ h => h⟩
theorem FExt.trans (a : FExt K H0 F H F' H') (b : FExt K H0 F' H' F2 H2) : FExt K H0 F H F2 H2 :=
  ⟨fun c h => b.sub c (a.sub c h), fun c h => (b.new c h).elim (a.new c) .inr, fun c xs h => b.fl c xs (a.fl c xs h), fun c xs h => b.tup c xs (a.tup c xs h)⟩
theorem FExt.rp (E : FExt K H0 F H F' H') (h : Rp K F H v x) : Rp K F' H' v x := h.mono E.fl E.tup
theorem FExt.rpAll (E : FExt K H0 F H F' H') {vs : List V} {xs : List D} (h : RpAll K F H vs xs) : RpAll K F' H' vs xs := h.mono E.fl E.tup
theorem Ext.fext (S : Sim K H0 M st σ F H) (S' : Sim K H0 M st' σ F' H') (E : Ext st σ F H st' F' H') : FExt K H0 F H F' H' := by
  refine ⟨E.sub, fun a h => ?_, fun a xs h => E.fl S h, fun a xs h => E.std S h⟩
  rcases E.new a h with z | z | ⟨i, ⟨xs, z⟩, e⟩
  · exact .inl z
  · exact .inr (S.fresh0 z)
  · rcases z with z | z
    · obtain ⟨p, vs, e1, _, _, _, e2⟩ := S.own i xs z
      rw [e] at e1
      cases e1
      exact .inr e2
    · obtain ⟨p, vs, m, e1, _⟩ := S.lent i xs z
      rw [e] at e1
      cases e1
      obtain ⟨ys, z'⟩ := S'.lentE i _ m
      obtain ⟨p', vs', m', _, _, _, nf⟩ := S'.lent i ys z'
      rw [m] at m'
      cases m'
      exact absurd h nf
theorem FlOk.from (e : FExt K H0 F H F' H') (h : FlOk K H0 M F H st' E fl) : FlOk K H0 M F' H' st' E fl := by
  cases fl with
  | nx => exact fun σ1 F1 H1 S1 e1 => h σ1 F1 H1 S1 (e.trans e1)
  | bk => exact fun σ1 F1 H1 S1 e1 => h σ1 F1 H1 S1 (e.trans e1)
  | ct => exact fun σ1 F1 H1 S1 e1 => h σ1 F1 H1 S1 (e.trans e1)
  | rt r => exact fun v σ1 F1 H1 S1 e1 => h v σ1 F1 H1 S1 (e.trans e1)

/-! ### slots stored -/
theorem σget {i j : Nat} {o : Option V} (hi : i < σ.length) : (σ.set i o)[j]? = if i = j then some o else σ[j]? := by
  rw [List.getElem?_set]
  by_cases h : i = j
  · subst h
    simp [hi]
  · simp [h]
theorem Sim.setD (S : Sim K H0 M st σ F H) {i : Nat} (hi : i < st.length) (nl : ∀ xs, st.getD i none ≠ some (.lent xs)) (r : Rp K F H v x) : Sim K H0 M (st.set i (some (.d x))) (σ.set i (some v)) F H := by
  have hσ : i < σ.length := by rw [S.len]; exact hi
  have own : ∀ j, IsOwn (st.set i (some (.d x))) j → IsOwn st j ∧ i ≠ j := fun j ⟨ys, hj⟩ => by
    rw [getD_set hi] at hj
    by_cases ij : i = j
    · rw [if_pos ij] at hj
      rcases hj with hj | hj <;> cases hj
    · rw [if_neg ij] at hj
      exact ⟨⟨ys, hj⟩, ij⟩
  refine ⟨by rw [List.length_set, List.length_set]; exact S.len, fun j y hj => ?_, fun j ys hj => ?_, fun j ys hj => ?_, fun j q m => ?_, S.lent0, fun j k q a b e1 e2 => ?_, S.frz, S.base⟩
  · rw [getD_set hi] at hj
    rw [σget hσ]
    by_cases ij : i = j
    · rw [if_pos ij] at hj
      cases hj
      exact ⟨v, if_pos ij, r⟩
    · rw [if_neg ij] at hj
      rw [if_neg ij]
      exact S.dat j y hj
  · obtain ⟨_, ij⟩ := own j ⟨ys, .inl hj⟩
    rw [getD_set hi, if_neg ij] at hj
    rw [σget hσ, if_neg ij]
    exact S.own j ys hj
  · obtain ⟨_, ij⟩ := own j ⟨ys, .inr hj⟩
    rw [getD_set hi, if_neg ij] at hj
    rw [σget hσ, if_neg ij]
    exact S.lent j ys hj
  · obtain ⟨ys, h⟩ := S.lentE j q m
    refine ⟨ys, ?_⟩
    rw [getD_set hi, if_neg, h]
    rintro rfl
    exact nl ys h
  · obtain ⟨a, ij⟩ := own j a
    obtain ⟨b, ik⟩ := own k b
    rw [σget hσ, if_neg ij] at e1
    rw [σget hσ, if_neg ik] at e2
    exact S.inj j k q a b e1 e2
theorem Sim.setOwn (S : Sim K H0 M st σ F H) {i : Nat} {p : Addr} {vs : List V} {xs : List D} (hi : i < st.length) (nl : ∀ xs, st.getD i none ≠ some (.lent xs)) (hp : H p = some (.lst vs)) (r : RpAll K F H vs xs) (nf : ¬ F p) (no : ¬ OwnAt st σ p) (h0 : H0 p = none) :
    Sim K H0 M (st.set i (some (.own xs))) (σ.set i (some (.ref p))) F H := by
  have hσ : i < σ.length := by rw [S.len]; exact hi
  have own : ∀ j, i ≠ j → IsOwn (st.set i (some (.own xs))) j → IsOwn st j := fun j ij ⟨ys, hj⟩ => by
    rw [getD_set hi, if_neg ij] at hj
    exact ⟨ys, hj⟩
  refine ⟨by rw [List.length_set, List.length_set]; exact S.len, fun j y hj => ?_, fun j ys hj => ?_, fun j ys hj => ?_, fun j q m => ?_, S.lent0, fun j k q a b e1 e2 => ?_, S.frz, S.base⟩
  · rw [getD_set hi] at hj
    rw [σget hσ]
    by_cases ij : i = j
    · rw [if_pos ij] at hj
      cases hj
    · rw [if_neg ij] at hj
      rw [if_neg ij]
      exact S.dat j y hj
  · rw [getD_set hi] at hj
    rw [σget hσ]
    by_cases ij : i = j
    · rw [if_pos ij] at hj
      cases hj
      exact ⟨p, vs, if_pos ij, hp, r, nf, h0⟩
    · rw [if_neg ij] at hj
      rw [if_neg ij]
      exact S.own j ys hj
  · rw [getD_set hi] at hj
    rw [σget hσ]
    by_cases ij : i = j
    · rw [if_pos ij] at hj
      cases hj
    · rw [if_neg ij] at hj
      rw [if_neg ij]
      exact S.lent j ys hj
  · obtain ⟨ys, h⟩ := S.lentE j q m
    refine ⟨ys, ?_⟩
    rw [getD_set hi, if_neg, h]
    rintro rfl
    exact nl ys h
  · rw [σget hσ] at e1 e2
    by_cases ij : i = j
    · by_cases ik : i = k
      · exact ij.symm.trans ik
      · rw [if_pos ij] at e1
        rw [if_neg ik] at e2
        cases e1
        exact absurd ⟨k, own k ik b, e2⟩ no
    · by_cases ik : i = k
      · rw [if_neg ij] at e1
        rw [if_pos ik] at e2
        cases e2
        exact absurd ⟨j, own j ij a, e1⟩ no
      · rw [if_neg ij] at e1
        rw [if_neg ik] at e2
        exact S.inj j k q (own j ij a) (own k ik b) e1 e2
theorem setS_ok {i : Nat} {s : SV} (e : setS st i s = some st') : i < st.length ∧ (∀ xs, st.getD i none ≠ some (.lent xs)) ∧ st' = st.set i (some s) := by
  have go : ∀ {o : Option DSt}, o = (if i < st.length then some (st.set i (some s)) else none) → o = some st' → i < st.length ∧ st' = st.set i (some s) := fun h h' => by
    rw [h] at h'
    by_cases c : i < st.length
    · rw [if_pos c] at h'
      cases h'
      exact ⟨c, rfl⟩
    · rw [if_neg c] at h'
      cases h'
  unfold setS at e
  cases q : st.getD i none with
  | none =>
    rw [q] at e
    obtain ⟨a, b⟩ := go rfl e
    exact ⟨a, fun xs z => (by cases z), b⟩
  | some t =>
    rw [q] at e
    cases t with
    | lent ys => cases e
    | d y =>
      obtain ⟨a, b⟩ := go rfl e
      exact ⟨a, fun xs z => (by cases z), b⟩
    | own ys =>
      obtain ⟨a, b⟩ := go rfl e
      exact ⟨a, fun xs z => (by cases z), b⟩

/-! ### targets -/
theorem snd_gname {i : Nat} : SndG K [i] (L2.gName i) (gName i) := by
  intro H0 M st σ F H x v st' Q S r e q
  obtain ⟨hi, nl, rfl⟩ := setS_ok e
  refine q _ (S.setD hi nl r) ⟨List.length_set, fun j hj => ?_⟩ fun j ⟨ys, hj⟩ => ?_
  · rw [List.getElem?_set_ne]
    rintro rfl
    exact hj (by simp)
  · rw [getD_set hi] at hj
    by_cases ij : i = j
    · rw [if_pos ij] at hj
      rcases hj with hj | hj <;> cases hj
    · rw [if_neg ij] at hj
      exact ⟨⟨ys, hj⟩, fun z => ij (List.mem_singleton.mp z).symm⟩
theorem snd_gnil : SndGs K [] L2.gNil gNil := by
  intro H0 M st σ F H xs vs st' Q S r e q
  cases r with
  | nil => cases e; exact ⟨rfl, q _ S ⟨rfl, fun _ _ => rfl⟩ fun j h => ⟨h, by simp⟩⟩
  | cons _ _ => cases e
theorem snd_gcons {is js : List Nat} {t : TG} {u : TGs} {g : DG} {h : DGs} (a : SndG K is t g) (b : SndGs K js u h) : SndGs K (is ++ js) (L2.gCons t u) (gCons g h) := by
  intro H0 M st σ F H xs vs st' Q S r e q
  cases r with
  | nil => cases e
  | @cons v vs d ds r1 r2 =>
    obtain ⟨s1, e1, e2⟩ := bs e
    refine ⟨v, vs, rfl, a H0 M st σ F H d v s1 _ S r1 e1 fun σ1 S1 f1 g1 => ?_⟩
    refine b H0 M s1 σ1 F H ds vs st' _ S1 r2 e2 fun σ2 S2 f2 g2 => q σ2 S2 ⟨f2.1.trans f1.1, fun j hj => ?_⟩ fun j h => ?_
    · rw [List.mem_append] at hj
      exact (f2.2 j fun z => hj (.inr z)).trans (f1.2 j fun z => hj (.inl z))
    · obtain ⟨h2, n2⟩ := g2 j h
      obtain ⟨h1, n1⟩ := g1 j h2
      refine ⟨h1, fun z => ?_⟩
      rcases List.mem_append.mp z with z | z
      · exact n1 z
      · exact n2 z
theorem snd_gtup {is : List Nat} {n : Nat} {t : TGs} {h : DGs} (a : SndGs K is t h) : SndG K is (L2.gTup K n t) (gTup n h) := by
  intro H0 M st σ F H x v st' Q S r e q
  cases x with
  | tuple xs =>
    have e : (if xs.length = n then h xs st else none) = some st' := e
    by_cases c : xs.length = n
    · rw [if_pos c] at e
      cases r with
      | @tup p vs ds hs ha => exact ⟨p, vs, rfl, hs, ha.length.trans c, a H0 M st σ F H xs vs st' Q S ha e q⟩
    · rw [if_neg c] at e
      cases e
  | _ => cases e

/-! ### statements -/
theorem snd_next : SndS K tNext dNext := by
  intro H0 M st σ F H fl st' E S e q
  cases e
  exact q σ F H S .refl
theorem snd_break : SndS K tBreak dBreak := by
  intro H0 M st σ F H fl st' E S e q
  cases e
  exact q σ F H S .refl
theorem snd_cont : SndS K tCont dCont := by
  intro H0 M st σ F H fl st' E S e q
  cases e
  exact q σ F H S .refl
theorem snd_never {t : TS} : SndS K t dNever := by
  intro H0 M st σ F H fl st' E S e q
  cases e
theorem snd_seq {t u : TS} {f g : DS} (a : SndS K t f) (b : SndS K u g) : SndS K (tSeq t u) (dSeq f g) := by
  intro H0 M st σ F H fl st' E S e q
  obtain ⟨p, e1, e⟩ := bs e
  obtain ⟨f1, s1⟩ := p
  refine a H0 M st σ F H f1 s1 _ S e1 ?_
  cases f1 with
  | nx => exact fun σ1 F1 H1 S1 x1 => b H0 M s1 σ1 F1 H1 fl st' E S1 e (q.from x1)
  | bk => cases e; exact q
  | ct => cases e; exact q
  | rt r => cases e; exact q
theorem snd_set {i : Nat} {t : TE} {f : DE} (a : SndE K t f) : SndS K (tAsg t (L2.gName i)) (dSet i f) := by
  intro H0 M st σ F H fl st' E S e q
  obtain ⟨p, e1, e⟩ := bs e
  obtain ⟨r, s1⟩ := p
  refine a H0 M st σ F H r s1 _ S e1 fun v F1 H1 S1 E1 f1 r1 => ?_
  have fin : ∀ {F2 : Addr → Prop} {s2 : DSt} {x : D}, Sim K H0 M s2 σ F2 H1 → Ext st σ F H s2 F2 H1 → Rp K F2 H1 v x → ((setS s2 i (.d x)).bind fun s => some (Fl.nx, s)) = some (fl, st') → E.nx (σ.set i (some v)) H1 := fun {F2 s2 x} S2 E2 r2 e2 => by
    obtain ⟨s, e3, e4⟩ := bs e2
    cases e4
    obtain ⟨hi, nl, rfl⟩ := setS_ok e3
    have S3 := S2.setD hi nl r2
    exact q _ F2 H1 S3 (E2.fext S S2)
  cases r with
  | tmp xs =>
    have e : ((setS s1 i (.own xs)).bind fun s => some (Fl.nx, s)) = some (fl, st') := e
    obtain ⟨s, e3, e4⟩ := bs e
    cases e4
    obtain ⟨hi, nl, rfl⟩ := setS_ok e3
    obtain ⟨p, vs, rfl, b, c, nf, no, h0⟩ := r1
    exact q _ F1 H1 (S1.setOwn hi nl b c nf no (S.fresh0 h0)) (E1.fext S S1)
  | d x =>
    have e : ((toD s1 (.d x)).bind fun q => (setS q.2 i (.d q.1)).bind fun s => some (Fl.nx, s)) = some (fl, st') := e
    exact fin S1 E1 r1 e
  | sl j =>
    have e : ((toD s1 (.sl j)).bind fun q => (setS q.2 i (.d q.1)).bind fun s => some (Fl.nx, s)) = some (fl, st') := e
    obtain ⟨p, e2, e3⟩ := bs e
    obtain ⟨F2, S2, E2, r2, _⟩ := toD_ok S1 E1 (RvOk.weak r1) e2
    exact fin S2 E2 r2 e3
theorem snd_asg {is : List Nat} {t : TE} {tg : TG} {f : DE} {g : DG} (a : SndE K t f) (b : SndG K is tg g) : SndS K (tAsg t tg) (dAsg g f) := by
  intro H0 M st σ F H fl st' E S e q
  obtain ⟨p, e1, e⟩ := bs e
  obtain ⟨w, e2, e⟩ := bs e
  obtain ⟨s, e3, e⟩ := bs e
  cases e
  refine a H0 M st σ F H p.1 p.2 _ S e1 fun v F1 H1 S1 E1 f1 r1 => ?_
  obtain ⟨F2, S2, E2, r2, _⟩ := toD_ok S1 E1 r1.weak e2
  exact b H0 M w.2 σ F2 H1 w.1 v st' _ S2 r2 e3 fun σ' S3 _ _ => q σ' F2 H1 S3 (E2.fext S S2)
theorem snd_par2 {i j : Nat} {t : TA} {f : DA} (a : SndA K t f) : SndS K (tPar i j t) (dPar [i, j] f) := by
  intro H0 M st σ F H fl st' E S e q
  obtain ⟨p, e1, e⟩ := bs e
  obtain ⟨w, e2, e⟩ := bs e
  obtain ⟨s, e3, e⟩ := bs e
  cases e
  refine a H0 M st σ F H p.1 p.2 _ S e1 fun vs F1 H1 S1 E1 f1 r1 => ?_
  obtain ⟨F2, S2, E2, rr, _⟩ := toDs_ok S1 E1 r1 e2
  obtain ⟨ws, s2⟩ := w
  match ws, vs, rr, e3 with
  | [x, y], [v1, v2], .cons r1 (.cons r2 .nil), e3 =>
    obtain ⟨s3, e4, e5⟩ := bs e3
    obtain ⟨hi, nl, rfl⟩ := setS_ok e4
    obtain ⟨s4, e6, e7⟩ := bs e5
    obtain ⟨hj, nl2, rfl⟩ := setS_ok e6
    cases e7
    exact ⟨v1, v2, rfl, q _ F2 H1 ((S2.setD hi nl r1).setD hj nl2 r2) (E2.fext S S2)⟩
  | [], _, _, e3 => cases e3
  | [x], _, _, e3 =>
    obtain ⟨s3, e4, e5⟩ := bs e3
    cases e5
  | x :: y :: z :: r, _, _, e3 =>
    obtain ⟨s3, e4, e5⟩ := bs e3
    obtain ⟨s4, e6, e7⟩ := bs e5
    cases e7
theorem snd_par3 {i j l : Nat} {t : TA} {f : DA} (a : SndA K t f) : SndS K (tPar3 i j l t) (dPar [i, j, l] f) := by
  intro H0 M st σ F H fl st' E S e q
  obtain ⟨p, e1, e⟩ := bs e
  obtain ⟨w, e2, e⟩ := bs e
  obtain ⟨s, e3, e⟩ := bs e
  cases e
  refine a H0 M st σ F H p.1 p.2 _ S e1 fun vs F1 H1 S1 E1 f1 r1 => ?_
  obtain ⟨F2, S2, E2, rr, _⟩ := toDs_ok S1 E1 r1 e2
  obtain ⟨ws, s2⟩ := w
  match ws, vs, rr, e3 with
  | [x, y, z], [v1, v2, v3], .cons r1 (.cons r2 (.cons r3 .nil)), e3 =>
    obtain ⟨s3, e4, e5⟩ := bs e3
    obtain ⟨hi, nl, rfl⟩ := setS_ok e4
    obtain ⟨s4, e6, e7⟩ := bs e5
    obtain ⟨hj, nl2, rfl⟩ := setS_ok e6
    obtain ⟨s5, e8, e9⟩ := bs e7
    obtain ⟨hl, nl3, rfl⟩ := setS_ok e8
    cases e9
    exact ⟨v1, v2, v3, rfl, q _ F2 H1 (((S2.setD hi nl r1).setD hj nl2 r2).setD hl nl3 r3) (E2.fext S S2)⟩
  | [], _, _, e3 => cases e3
  | [x], _, _, e3 =>
    obtain ⟨s3, e4, e5⟩ := bs e3
    cases e5
  | [x, y], _, _, e3 =>
    obtain ⟨s3, e4, e5⟩ := bs e3
    obtain ⟨s4, e6, e7⟩ := bs e5
    cases e7
  | x :: y :: z :: u :: r, _, _, e3 =>
    obtain ⟨s3, e4, e5⟩ := bs e3
    obtain ⟨s4, e6, e7⟩ := bs e5
    obtain ⟨s5, e8, e9⟩ := bs e7
    cases e9
theorem snd_drop {t : TE} {f : DE} (a : SndE K t f) : SndS K (tDrop t) (dDrop f) := by
  intro H0 M st σ F H fl st' E S e q
  obtain ⟨p, e1, e⟩ := bs e
  cases e
  exact a H0 M st σ F H p.1 p.2 _ S e1 fun v F1 H1 S1 E1 f1 r1 => q σ F1 H1 S1 (E1.fext S S1)
theorem Sim.forget (S : Sim K H0 M st σ F H) {i : Nat} (nl : ∀ xs, st.getD i none ≠ some (.lent xs)) : Sim K H0 M (st.set i none) σ F H := by
  by_cases hi : i < st.length
  · have own : ∀ j, IsOwn (st.set i none) j → IsOwn st j := fun j ⟨ys, hj⟩ => by
      rw [getD_set hi] at hj
      by_cases ij : i = j
      · rw [if_pos ij] at hj
        rcases hj with hj | hj <;> cases hj
      · rw [if_neg ij] at hj
        exact ⟨ys, hj⟩
    have back : ∀ j s, (st.set i none).getD j none = some s → st.getD j none = some s := fun j s hj => by
      rw [getD_set hi] at hj
      by_cases ij : i = j
      · rw [if_pos ij] at hj
        cases hj
      · rw [if_neg ij] at hj
        exact hj
    refine ⟨by rw [List.length_set]; exact S.len, fun j y hj => S.dat j y (back j _ hj), fun j ys hj => S.own j ys (back j _ hj), fun j ys hj => S.lent j ys (back j _ hj), fun j q m => ?_, S.lent0, fun j k q a b => S.inj j k q (own j a) (own k b), S.frz, S.base⟩
    obtain ⟨ys, h⟩ := S.lentE j q m
    refine ⟨ys, ?_⟩
    rw [getD_set hi, if_neg, h]
    rintro rfl
    exact nl ys h
  · rw [List.set_eq_of_length_le (by omega)]
    exact S
theorem snd_ret {t : TE} {f : DE} (a : SndE K t f) : SndS K (tRet t) (dRet f) := by
  intro H0 M st σ F H fl st' E S e q
  obtain ⟨p, e1, e⟩ := bs e
  obtain ⟨r, s1⟩ := p
  refine a H0 M st σ F H r s1 _ S e1 fun v F1 H1 S1 E1 f1 r1 => ?_
  cases r with
  | d x => cases e; exact q v σ F1 H1 S1 (E1.fext S S1) r1
  | tmp xs =>
    cases e
    obtain ⟨p, vs, rfl, b, c, nf, no, h0⟩ := r1
    exact q _ σ F1 H1 S1 (E1.fext S S1) ⟨p, vs, rfl, b, c, nf, S.fresh0 h0⟩
  | sl i =>
    have r1 : σ[i]? = some (some v) := r1
    have e : (match s1.getD i none with
      | some (.d x) => some (Fl.rt (.d x), s1)
      | some (.own xs) => some (Fl.rt (.own xs), s1.set i none)
      | _ => none) = some (fl, st') := e
    cases g : s1.getD i none with
    | none => rw [g] at e; cases e
    | some s =>
      rw [g] at e
      cases s with
      | d x =>
        cases e
        obtain ⟨v', e1, r2⟩ := S1.dat i x g
        rw [r1] at e1
        cases e1
        exact q v σ F1 H1 S1 (E1.fext S S1) r2
      | own xs =>
        cases e
        obtain ⟨p, vs, e1, e2, r2, nf, h0⟩ := S1.own i xs g
        rw [r1] at e1
        cases e1
        exact q _ σ F1 H1 (S1.forget fun ys z => by rw [g] at z; cases z) (E1.fext S S1) ⟨p, vs, rfl, e2, r2, nf, h0⟩
      | lent xs => cases e
theorem snd_retN : SndS K tRetN dRetN := by
  intro H0 M st σ F H fl st' E S e q
  cases e
  exact q .non σ F H S .refl .non
theorem snd_ifS {t : TT} {u w : TS} {c : DT} {f g : DS} (a : SndT K t c) (b : SndS K u f) (d : SndS K w g) : SndS K (tIfS t u w) (dIfS c f g) := by
  intro H0 M st σ F H fl st' E S e q
  obtain ⟨p, e1, e⟩ := bs e
  refine a H0 M st σ F H p.1 p.2 _ S e1 fun F1 H1 S1 E1 f1 => ?_
  by_cases h : p.1 = true
  · rw [if_pos h] at e
    rw [if_pos h]
    exact b H0 M p.2 σ F1 H1 fl st' E S1 e (q.from (E1.fext S S1))
  · rw [if_neg h] at e
    rw [if_neg h]
    exact d H0 M p.2 σ F1 H1 fl st' E S1 e (q.from (E1.fext S S1))

/-! ### changing a list of one's own -/
theorem getL_ok {i : Nat} {xs : List D} (S : Sim K H0 M st σ F H) (e : getL st i = some xs) : ∃ p vs, σ[i]? = some (some (.ref p)) ∧ H p = some (.lst vs) ∧ RpAll K F H vs xs ∧ IsOwn st i := by
  unfold getL at e
  cases g : st.getD i none with
  | none => rw [g] at e; cases e
  | some s =>
    rw [g] at e
    cases s with
    | d x => cases e
    | own ys =>
      cases e
      obtain ⟨p, vs, a, b, c, _⟩ := S.own i _ g
      exact ⟨p, vs, a, b, c, _, .inl g⟩
    | lent ys =>
      cases e
      obtain ⟨p, vs, _, a, b, c, _⟩ := S.lent i _ g
      exact ⟨p, vs, a, b, c, _, .inr g⟩
/-- the list at slot i is another one now -/
theorem Sim.put (S : Sim K H0 M st σ F H) {i : Nat} {p : Addr} {vs : List V} {xs : List D} (o : IsOwn st i) (e : σ[i]? = some (some (.ref p))) (r : RpAll K F H vs xs) (pu : putL st i xs = some st') : Sim K H0 M st' σ F (upd H p (.lst vs)) ∧ FExt K H0 F H F (upd H p (.lst vs)) := by
  have at_ : OwnAt st σ p := ⟨i, o, e⟩
  obtain ⟨⟨old, hp⟩, nf⟩ := S.atOwn at_
  have flk : ∀ a ys, FL K F H a ys → FL K F (upd H p (.lst vs)) a ys := fun a ys h => by
    rcases h with ⟨f, h⟩ | ⟨ob, h⟩ | h
    · exact .inl ⟨f, by rw [upd_ne (by rintro rfl; exact nf f)]; exact h⟩
    · exact .inr (.inl ⟨ob, by rw [upd_ne (by rintro rfl; rw [hp] at h; cases h)]; exact h⟩)
    · exact .inr (.inr h)
  have sqk : ∀ a ys, STD K H a ys → STD K (upd H p (.lst vs)) a ys := fun a ys h => stD_up (fun b u e1 nl => by
    rw [upd_ne]
    · exact e1
    · rintro rfl
      rw [hp] at e1
      cases e1
      exact nl _ rfl) h
  refine ⟨?_, ⟨fun _ h => h, fun _ h => .inl h, flk, sqk⟩⟩
  have hi : i < st.length := by
    obtain ⟨ys, h | h⟩ := o
    · exact getD_lt h
    · exact getD_lt h
  -- the slots
  have sp : (∃ ys, st.getD i none = some (.own ys) ∧ st' = st.set i (some (.own xs))) ∨ (∃ ys, st.getD i none = some (.lent ys) ∧ st' = st.set i (some (.lent xs))) := by
    unfold putL at pu
    obtain ⟨ys, h | h⟩ := o
    · rw [h] at pu
      cases pu
      exact .inl ⟨ys, h, rfl⟩
    · rw [h] at pu
      cases pu
      exact .inr ⟨ys, h, rfl⟩
  have other : ∀ j, i ≠ j → st'.getD j none = st.getD j none := fun j ij => by
    rcases sp with ⟨ys, _, rfl⟩ | ⟨ys, _, rfl⟩
    · rw [getD_set hi, if_neg ij]
    · rw [getD_set hi, if_neg ij]
  have len : st'.length = st.length := by
    rcases sp with ⟨ys, _, rfl⟩ | ⟨ys, _, rfl⟩ <;> rw [List.length_set]
  have own : ∀ j, IsOwn st' j → IsOwn st j := fun j h => by
    by_cases ij : i = j
    · subst ij
      exact o
    · obtain ⟨ys, h⟩ := h
      rw [other j ij] at h
      exact ⟨ys, h⟩
  have pne : ∀ {j q}, i ≠ j → IsOwn st j → σ[j]? = some (some (.ref q)) → q ≠ p := fun {j q} ij oj ej z => by
    subst z
    exact ij (S.inj i j q o oj e ej)
  refine ⟨S.len.trans len.symm, fun j y hj => ?_, fun j ys hj => ?_, fun j ys hj => ?_, fun j q m => ?_, S.lent0, fun j k q a b => S.inj j k q (own j a) (own k b), fun a h => ?_, fun b u h n => ?_⟩
  · have ij : i ≠ j := by
      rintro rfl
      rcases sp with ⟨_, _, rfl⟩ | ⟨_, _, rfl⟩
      · rw [getD_set hi, if_pos rfl] at hj; cases hj
      · rw [getD_set hi, if_pos rfl] at hj; cases hj
    rw [other j ij] at hj
    obtain ⟨v, a, b⟩ := S.dat j y hj
    exact ⟨v, a, b.mono flk sqk⟩
  · by_cases ij : i = j
    · subst ij
      rcases sp with ⟨zs, g, rfl⟩ | ⟨_, _, rfl⟩
      · rw [getD_set hi, if_pos rfl] at hj
        cases hj
        obtain ⟨q, ws, a, b, c, d, f⟩ := S.own i zs g
        rw [e] at a
        cases a
        exact ⟨p, vs, e, upd_same, r.mono flk sqk, d, f⟩
      · rw [getD_set hi, if_pos rfl] at hj; cases hj
    · rw [other j ij] at hj
      obtain ⟨q, ws, a, b, c, d, f⟩ := S.own j ys hj
      exact ⟨q, ws, a, by rw [upd_ne (pne ij ⟨ys, .inl hj⟩ a)]; exact b, c.mono flk sqk, d, f⟩
  · by_cases ij : i = j
    · subst ij
      rcases sp with ⟨_, _, rfl⟩ | ⟨zs, g, rfl⟩
      · rw [getD_set hi, if_pos rfl] at hj; cases hj
      · rw [getD_set hi, if_pos rfl] at hj
        cases hj
        obtain ⟨q, ws, m, a, b, c, d⟩ := S.lent i zs g
        rw [e] at a
        cases a
        exact ⟨p, vs, m, e, upd_same, r.mono flk sqk, d⟩
    · rw [other j ij] at hj
      obtain ⟨q, ws, m, a, b, c, d⟩ := S.lent j ys hj
      exact ⟨q, ws, m, a, by rw [upd_ne (pne ij ⟨ys, .inr hj⟩ a)]; exact b, c.mono flk sqk, d⟩
  · obtain ⟨ys, h⟩ := S.lentE j q m
    by_cases ij : i = j
    · subst ij
      rcases sp with ⟨_, g, _⟩ | ⟨_, _, rfl⟩
      · rw [h] at g; cases g
      · exact ⟨xs, by rw [getD_set hi, if_pos rfl]⟩
    · exact ⟨ys, by rw [other j ij]; exact h⟩
  · by_cases ap : a = p
    · subst ap
      exact absurd h nf
    · rw [upd_ne ap]
      exact S.frz a h
  · by_cases bp : b = p
    · subst bp
      rcases sp with ⟨ys, g, _⟩ | ⟨ys, g, _⟩
      · obtain ⟨q, ws, a, _, _, _, f⟩ := S.own i ys g
        rw [e] at a
        cases a
        rw [h] at f
        cases f
      · obtain ⟨q, ws, m, a, _⟩ := S.lent i ys g
        rw [e] at a
        cases a
        exact absurd m (n i)
    · rw [upd_ne bp]
      exact S.base b u h n
/-- xs.append(e) -/
theorem snd_append {i : Nat} {te : TE} {f : DE} (a : SndE K te f) : SndS K (tDrop (tBM K "list" rAppend (tVar i) (tCons te tNil))) (dAppend i f) := by
  intro H0 M st σ F H fl st' E S e q
  obtain ⟨zs, e0, e⟩ := bs e
  obtain ⟨p, e1, e⟩ := bs e
  obtain ⟨w, e2, e⟩ := bs e
  obtain ⟨xs, e3, e⟩ := bs e
  have e : (if xs.length < sizeLine then (putL w.2 i (xs ++ [w.1])).bind fun s => some (Fl.nx, s) else none) = some (fl, st') := e
  by_cases c : xs.length < sizeLine
  · rw [if_pos c] at e
    obtain ⟨s, e4, e⟩ := bs e
    cases e
    obtain ⟨p0, vs0, a1, a2, _⟩ := getL_ok S e0
    refine ⟨.ref p0, a1, .inl ⟨rfl, _, SqL.of a2⟩, ?_⟩
    refine a H0 M st σ F H p.1 p.2 _ S e1 fun v F1 H1 S1 E1 f1 r1 => ?_
    obtain ⟨F2, S2, E2, r2, _⟩ := toD_ok S1 E1 r1.weak e2
    obtain ⟨p1, vs, b1, b2, b3, o⟩ := getL_ok S2 e3
    rw [a1] at b1
    cases b1
    obtain ⟨S3, E3⟩ := S2.put o a1 (b3.snoc r2) e4
    exact ⟨p0, vs, v, rfl, rfl, b2, by rw [b3.length]; exact c, q σ F2 _ S3 ((E2.fext S S2).trans E3)⟩
  · rw [if_neg c] at e
    cases e
end
end DL
end

section
set_option Elab.async false
set_option linter.all false
set_option maxRecDepth 100000
set_option maxHeartbeats 1000000
/-! DLsnd4: stores into lists, loops, comprehensions. -/
namespace DL
open PySem PySem.Spec PyProof.Rows L2
section
variable {K : PySem.W.Frag} {H0 : Hp} {M : Nat → Option Addr} {st st' st2 : DSt} {σ σ' : L2.St} {F F' F2 : Addr → Prop} {H H' H2 H3 Hb Hc : Hp} {v w : V} {r : Rv} {x : PyData} {fl : Fl} {E : Ends}
theorem ixAt_eq {α : Type} (xs : List α) (i : Int) : ixAt xs i = ixN xs.length i := rfl
/-- xs[k] = e -/
theorem snd_setIx {i : Nat} {tk te : TE} {k f : DE} (b : SndE K tk k) (a : SndE K te f) : SndS K (tAsg te (gSub (tVar i) tk rSetL)) (dSetIx i k f) := by
  intro H0 M st σ F H fl st' E S e q
  obtain ⟨p, e1, e⟩ := bs e
  obtain ⟨w, e2, e⟩ := bs e
  obtain ⟨zs, e0, e⟩ := bs e
  obtain ⟨u, e3, e⟩ := bs e
  refine a H0 M st σ F H p.1 p.2 _ S e1 fun v F1 H1 S1 E1 f1 r1 => ?_
  obtain ⟨F2, S2, E2, r2, _⟩ := toD_ok S1 E1 r1.weak e2
  obtain ⟨p0, vs0, a1, a2, _⟩ := getL_ok S2 e0
  refine ⟨.ref p0, a1, ?_⟩
  refine b H0 M w.2 σ F2 H1 u.1 u.2 _ S2 e3 fun v3 F3 H3 S3 E3 f3 r3 => ?_
  cases g : look u.2 u.1 with
  | none => rw [g] at e; cases e
  | some y =>
    rw [g] at e
    cases y with
    | int j =>
      have e : ((getL u.2 i).bind fun xs => (ixAt xs j).bind fun n => (putL u.2 i (xs.set n w.1)).bind fun s => some (Fl.nx, s)) = some (fl, st') := e
      obtain ⟨xs, e4, e⟩ := bs e
      obtain ⟨n, e5, e⟩ := bs e
      obtain ⟨s, e6, e⟩ := bs e
      cases e
      obtain ⟨p1, vs, b1, b2, b3, o⟩ := getL_ok S3 e4
      rw [a1] at b1
      cases b1
      have kv := (look_ok S3 r3.weak g).int
      obtain ⟨S4, E4⟩ := S3.put o a1 (b3.set (E3.rp S2 r2) n) e6
      refine ⟨p0, vs, j, n, rfl, kv, b2, ?_, q σ F3 _ S4 (((E2.fext S S2).trans (E3.fext S2 S3)).trans E4)⟩
      rw [b3.length, ← ixAt_eq]
      exact e5
    | _ => cases e
/-- xs[k] op= e -/
theorem snd_augIx {i : Nat} {tk te : TE} {k f : DE} {tip : TIp} {op : D → D → Option Rv} (hp : Prim2 K tip op) (b : SndE K tk k) (a : SndE K te f) : SndS K (tAugS (tVar i) tk te (rIxL K) tip rSetL) (dAugIx op i k f) := by
  intro H0 M st σ F H fl st' E S e q
  obtain ⟨zs, e0, e⟩ := bs e
  obtain ⟨u, e3, e⟩ := bs e
  obtain ⟨p0, vs0, a1, a2, _⟩ := getL_ok S e0
  refine ⟨.ref p0, a1, ?_⟩
  refine b H0 M st σ F H u.1 u.2 _ S e3 fun v3 F3 H3 S3 E3 f3 r3 => ?_
  cases g : look u.2 u.1 with
  | none => rw [g] at e; cases e
  | some y =>
    rw [g] at e
    cases y with
    | int j =>
      have e : ((getL u.2 i).bind fun xs => (ixAt xs j).bind fun n => (xs[n]?).bind fun x => (f u.2).bind fun p => (look p.2 p.1).bind fun y =>
        match op x y with
        | some (.d z) => (getL p.2 i).bind fun ys => (ixAt ys j).bind fun n' => (putL p.2 i (ys.set n' z)).bind fun s => some (Fl.nx, s)
        | _ => none) = some (fl, st') := e
      obtain ⟨xs, e4, e⟩ := bs e
      obtain ⟨n, e5, e⟩ := bs e
      obtain ⟨x, e6, e⟩ := bs e
      obtain ⟨p, e7, e⟩ := bs e
      obtain ⟨y, e8, e⟩ := bs e
      obtain ⟨p1, vs, b1, b2, b3, o⟩ := getL_ok S3 e4
      rw [a1] at b1
      cases b1
      have kv := (look_ok S3 r3.weak g).int
      obtain ⟨vx, gx, rx⟩ := b3.get e6
      refine ⟨p0, vs, j, vx, rfl, kv, SqL.of b2, ?_, ?_⟩
      · show (ixN vs.length j).bind (fun n => vs[n]?) = some vx
        rw [b3.length, ← ixAt_eq, e5]
        exact gx
      · refine a H0 M u.2 σ F3 H3 p.1 p.2 _ S3 e7 fun v4 F4 H4 S4 E4 f4 r4 => ?_
        cases z : op x y with
        | none => rw [z] at e; cases e
        | some rv =>
          rw [z] at e
          cases rv with
          | d zd =>
            have e : ((getL p.2 i).bind fun ys => (ixAt ys j).bind fun n' => (putL p.2 i (ys.set n' zd)).bind fun s => some (Fl.nx, s)) = some (fl, st') := e
            obtain ⟨ys, e9, e⟩ := bs e
            obtain ⟨n', e10, e⟩ := bs e
            obtain ⟨s, e11, e⟩ := bs e
            cases e
            refine hp F4 H4 vx v4 x y (.d zd) _ (.inl (E4.rp S3 rx)) (look_ok S4 r4.weak e8) z fun v5 H5 s5 n5 => ?_
            obtain ⟨S5, E5, r5⟩ := fin_new (z := .d zd) S4 (E3.trans E4) s5 n5
            obtain ⟨p2, ws, c1, c2, c3, o'⟩ := getL_ok S5 e9
            rw [a1] at c1
            cases c1
            obtain ⟨S6, E6⟩ := S5.put o' a1 (c3.set r5 n') e11
            refine ⟨p0, ws, j, n', rfl, kv, c2, ?_, q σ F4 _ S6 ((E5.fext S S5).trans E6)⟩
            rw [c3.length, ← ixAt_eq]
            exact e10
          | tmp _ => cases e
          | sl _ => cases e
    | _ => cases e
/-- x op= e -/
theorem snd_aug {i : Nat} {te : TE} {f : DE} {tip : TIp} {op : D → D → Option Rv} (hp : Prim2 K tip op) (a : SndE K te f) : SndS K (tAug i te tip) (dAug op i f) := by
  intro H0 M st σ F H fl st' E S e q
  obtain ⟨⟨rv, s0⟩, e1, e⟩ := bs e
  obtain ⟨p, e2, e⟩ := bs e
  have hv : s0 = st ∧ (∀ x, rv = .d x → ∃ w, σ[i]? = some (some w) ∧ Rp K F H w x) := by
    have e1 : (match st.getD i none with
      | some (.d x) => some (Rv.d x, st)
      | some (.own _) => some (.sl i, st)
      | some (.lent _) => some (.sl i, st)
      | none => none) = some (rv, s0) := e1
    cases g : st.getD i none with
    | none => rw [g] at e1; cases e1
    | some s =>
      rw [g] at e1
      cases s with
      | d x =>
        cases e1
        exact ⟨rfl, fun y h => by cases h; exact S.dat i x g⟩
      | own xs => cases e1; exact ⟨rfl, fun y h => by cases h⟩
      | lent xs => cases e1; exact ⟨rfl, fun y h => by cases h⟩
  obtain ⟨hs, hv⟩ := hv
  have e2' : f s0 = some p := e2
  rw [hs] at e2'
  cases rv with
  | d x =>
    have e : ((look p.2 p.1).bind fun y => match op x y with
      | some (.d z) => (setS p.2 i (.d z)).bind fun s => some (Fl.nx, s)
      | _ => none) = some (fl, st') := e
    obtain ⟨y, e3, e⟩ := bs e
    obtain ⟨w, a1, rw'⟩ := hv x rfl
    refine ⟨w, a1, ?_⟩
    refine a H0 M st σ F H p.1 p.2 _ S e2' fun v1 F1 H1 S1 E1 f1 r1 => ?_
    cases z : op x y with
    | none => rw [z] at e; cases e
    | some ru =>
      rw [z] at e
      cases ru with
      | d zd =>
        have e : ((setS p.2 i (.d zd)).bind fun s => some (Fl.nx, s)) = some (fl, st') := e
        obtain ⟨s, e4, e⟩ := bs e
        cases e
        obtain ⟨hi, nl, rfl⟩ := setS_ok e4
        refine hp F1 H1 w v1 x y (.d zd) _ (.inl (E1.rp S rw')) (look_ok S1 r1.weak e3) z fun v5 H5 s5 n5 => ?_
        obtain ⟨S5, E5, r5⟩ := fin_new (z := .d zd) S1 E1 s5 n5
        exact q _ F1 H5 (S5.setD hi nl r5) (E5.fext S S5)
      | tmp _ => cases e
      | sl _ => cases e
  | tmp _ => cases e
  | sl _ => cases e

/-! ### walked things -/
/-- while this holds of the heap the walk goes on -/
def Gd (K : PySem.W.Frag) (F1 : Addr → Prop) (H1 : Hp) (H : Hp) : Prop := (∀ a xs, FL K F1 H1 a xs → SqL K H a xs) ∧ ∀ a xs, STD K H1 a xs → STD K H a xs
structure WalkD (K : PySem.W.Frag) (J : It) (ds : List D) (F1 : Addr → Prop) (H1 : Hp) : Prop where
  goes : ∀ i H, i < ds.length → Gd K F1 H1 H → J.go i H
  stops : ∀ H, Gd K F1 H1 H → J.stop ds.length H
  yields : ∀ i H x H' (F : Addr → Prop), i < ds.length → Gd K F1 H1 H → (∀ v d, Rp K F1 H1 v d → Rp K F H v d) → J.yld i H x H' → Same H H' ∧ ∃ d, ds[i]? = some d ∧ Rp K F H' x d
theorem FExt.gd (e : FExt K H0 F H F' H') : Gd K F H H' := ⟨fun a xs h => (e.fl a xs h).sql, e.tup⟩
def SndI (K : PySem.W.Frag) (wi : TI) (f : DI) : Prop := ∀ (H0 : Hp) (M : Nat → Option Addr) (st : DSt) (σ : L2.St) (F : Addr → Prop) (H : Hp) (ds : List D) (st' : DSt) (R : It → Hp → Prop), Sim K H0 M st σ F H → f st = some (ds, st') →
  (∀ J F' H', Sim K H0 M st' σ F' H' → Ext st σ F H st' F' H' → WalkD K J ds F' H' → R J H') → wi σ H R
theorem snd_for {is : List Nat} {wi : TI} {tg : TG} {tb : TS} {it : DI} {g : DG} {b : DS} (a : SndI K wi it) (c : SndG K is tg g) (d : SndS K tb b) : SndS K (tFor wi tg tb) (dFor it g b) := by
  intro H0 M st σ F H fl st' E S e q
  obtain ⟨p, e1, e⟩ := bs e
  refine a H0 M st σ F H p.1 p.2 _ S e1 fun J F1 H1 S1 E1 W => ?_
  have x1 := E1.fext S S1
  refine ⟨fun i m σ' H' => i + m = p.1.length ∧ ∃ s' F', Sim K H0 M s' σ' F' H' ∧ FExt K H0 F1 H1 F' H' ∧ forGo g b (p.1.drop i) s' = some (fl, st'), ⟨p.1.length, by simp, p.2, F1, S1, .refl, e⟩, ?_⟩
  rintro i m σ' H' ⟨him, s', F', S', x', e'⟩
  by_cases hi : i < p.1.length
  · refine .inr ⟨W.goes i H' hi x'.gd, fun σ2 H2 => ∃ s2 F2, Sim K H0 M s2 σ2 F2 H2 ∧ FExt K H0 F1 H1 F2 H2 ∧ forGo g b (p.1.drop (i + 1)) s2 = some (fl, st'), fun σ2 H2 ⟨s2, F2, h1, h2, h3⟩ => ⟨m - 1, by omega, by omega, s2, F2, h1, h2, h3⟩, fun x H2 y => ?_⟩
    obtain ⟨sm, dd, gd, rx⟩ := W.yields i H' x H2 F' hi x'.gd (fun v d h => x'.rp h) y
    have hdrop : p.1.drop i = dd :: p.1.drop (i + 1) := by
      obtain ⟨h, e⟩ := List.getElem?_eq_some_iff.mp gd
      rw [List.drop_eq_getElem_cons h, e]
    rw [hdrop] at e'
    obtain ⟨s3, e3, e'⟩ := bs e'
    obtain ⟨w, e4, e'⟩ := bs e'
    have S2 := S'.grow sm
    have x2 : FExt K H0 F1 H1 F' H2 := x'.trans ((Ext.grow sm).fext S' S2)
    refine c H0 M s' σ' F' H2 dd x s3 _ S2 rx e3 fun σ3 S3 _ _ => ?_
    refine d H0 M s3 σ3 F' H2 w.1 w.2 _ S3 e4 ?_
    obtain ⟨wf, ws⟩ := w
    cases wf with
    | nx => exact fun σ4 F4 H4 S4 x4 => ⟨ws, F4, S4, x2.trans x4, e'⟩
    | ct => exact fun σ4 F4 H4 S4 x4 => ⟨ws, F4, S4, x2.trans x4, e'⟩
    | bk =>
      cases e'
      exact fun σ4 F4 H4 S4 x4 => q σ4 F4 H4 S4 (x1.trans (x2.trans x4))
    | rt r =>
      cases e'
      exact fun v σ4 F4 H4 S4 x4 r4 => q v σ4 F4 H4 S4 (x1.trans (x2.trans x4)) r4
  · have hl : i = p.1.length := by omega
    subst hl
    rw [List.drop_length] at e'
    cases e'
    exact .inl ⟨W.stops H' x'.gd, q σ' F' H' S' (x1.trans x')⟩
theorem snd_while {tt : TT} {tb : TS} {t : DT} {b : DS} (a : SndT K tt t) (d : SndS K tb b) : SndS K (tWhile tt tb) (dWhile t b) := by
  intro H0 M st σ F H fl st' E S e q
  have hex : ∃ n, whileN t b n st = some (fl, st') := by
    unfold dWhile at e
    by_cases h : ∃ n r, whileN t b n st = some r
    · rw [dif_pos h] at e
      have := Classical.choose_spec (Classical.choose_spec h)
      exact ⟨Classical.choose h, by rw [this]; exact e⟩
    · rw [dif_neg h] at e
      cases e
  obtain ⟨n, e⟩ := hex
  refine ⟨fun m σ' H' => ∃ s' F', Sim K H0 M s' σ' F' H' ∧ FExt K H0 F H F' H' ∧ whileN t b m s' = some (fl, st'), ⟨n, st, F, S, .refl, e⟩, ?_⟩
  rintro m σ' H' ⟨s', F', S', x', e'⟩
  cases m with
  | zero => cases e'
  | succ m =>
    obtain ⟨u, e1, e'⟩ := bs e'
    refine a H0 M s' σ' F' H' u.1 u.2 _ S' e1 fun F1 H1 S1 E1 f1 => ?_
    have x1 := x'.trans (E1.fext S' S1)
    by_cases c : u.1 = true
    · rw [if_pos c] at e'
      rw [if_pos c]
      obtain ⟨w, e2, e'⟩ := bs e'
      refine ⟨fun σ2 H2 => ∃ s2 F2, Sim K H0 M s2 σ2 F2 H2 ∧ FExt K H0 F H F2 H2 ∧ whileN t b m s2 = some (fl, st'), fun σ2 H2 h => ⟨m, Nat.lt_succ_self m, h⟩, ?_⟩
      refine d H0 M u.2 σ' F1 H1 w.1 w.2 _ S1 e2 ?_
      obtain ⟨wf, ws⟩ := w
      cases wf with
      | nx => exact fun σ4 F4 H4 S4 x4 => ⟨ws, F4, S4, x1.trans x4, e'⟩
      | ct => exact fun σ4 F4 H4 S4 x4 => ⟨ws, F4, S4, x1.trans x4, e'⟩
      | bk =>
        cases e'
        exact fun σ4 F4 H4 S4 x4 => q σ4 F4 H4 S4 (x1.trans x4)
      | rt r =>
        cases e'
        exact fun v σ4 F4 H4 S4 x4 r4 => q v σ4 F4 H4 S4 (x1.trans x4) r4
    · rw [if_neg c] at e'
      rw [if_neg c]
      cases e'
      exact q σ' F1 H1 S1 x1

/-! ### comprehensions -/
theorem wipeD_len (s : DSt) : ∀ vs : List Nat, (wipeD s vs).length = s.length
  | [] => rfl
  | v :: vs => by unfold wipeD; rw [List.length_set, wipeD_len s vs]
theorem wipe_get (s : L2.St) : ∀ (vs : List Nat) (j : Nat), j ∉ vs → (wipe s vs)[j]? = s[j]?
  | [], _, _ => rfl
  | v :: vs, j, h => by
    unfold wipe
    rw [List.getElem?_set_ne (by rintro rfl; exact h (by simp))]
    exact wipe_get s vs j fun z => h (by simp [z])
theorem wipe_in (s : L2.St) : ∀ (vs : List Nat) (j : Nat), j ∈ vs → j < s.length → (wipe s vs)[j]? = some none
  | [], _, h, _ => by simp at h
  | v :: vs, j, h, hl => by
    unfold wipe
    by_cases e : v = j
    · subst e
      rw [List.getElem?_set_self (by rw [wipe_length]; exact hl)]
    · rw [List.getElem?_set_ne e]
      refine wipe_in s vs j ?_ hl
      rcases List.mem_cons.mp h with z | z
      · exact absurd z.symm e
      · exact z
theorem wipe_ext {s s' : L2.St} {vs : List Nat} (hl : s.length = s'.length) (h : ∀ j, j ∉ vs → s'[j]? = s[j]?) : wipe s' vs = wipe s vs := by
  apply List.ext_getElem?
  intro j
  by_cases hj : j ∈ vs
  · by_cases hlt : j < s.length
    · rw [wipe_in s vs j hj hlt, wipe_in s' vs j hj (by omega)]
    · rw [List.getElem?_eq_none (by rw [wipe_length]; omega), List.getElem?_eq_none (by rw [wipe_length]; omega)]
  · rw [wipe_get s vs j hj, wipe_get s' vs j hj]
    exact h j hj
theorem wipeD_get (s : DSt) : ∀ (vs : List Nat) (j : Nat), (wipeD s vs).getD j none = if j ∈ vs then none else s.getD j none
  | [], j => by simp [wipeD]
  | v :: vs, j => by
    unfold wipeD
    rw [List.getD_eq_getElem?_getD, List.getElem?_set]
    have ih := wipeD_get s vs j
    by_cases e : v = j
    · subst e
      rw [if_pos rfl, if_pos List.mem_cons_self]
      split <;> rfl
    · rw [if_neg e, ← List.getD_eq_getElem?_getD, ih]
      by_cases h : j ∈ vs
      · rw [if_pos h, if_pos (List.mem_cons_of_mem _ h)]
      · rw [if_neg h, if_neg]
        intro z
        rcases List.mem_cons.mp z with z | z
        · exact e z.symm
        · exact h z
/-- the block's slots are empty -/
theorem Sim.wipe (S : Sim K H0 M st σ F H) {vs : List Nat} (no : ∀ j ∈ vs, ∀ xs, st.getD j none ≠ some (.lent xs)) : Sim K H0 M (wipeD st vs) (wipe σ vs) F H := by
  have back : ∀ j s, (wipeD st vs).getD j none = some s → st.getD j none = some s ∧ j ∉ vs := fun j s h => by
    rw [wipeD_get] at h
    by_cases c : j ∈ vs
    · rw [if_pos c] at h; cases h
    · rw [if_neg c] at h; exact ⟨h, c⟩
  have own : ∀ j, IsOwn (wipeD st vs) j → IsOwn st j ∧ j ∉ vs := fun j ⟨xs, h⟩ => by
    rcases h with h | h
    · exact ⟨⟨xs, .inl (back j _ h).1⟩, (back j _ h).2⟩
    · exact ⟨⟨xs, .inr (back j _ h).1⟩, (back j _ h).2⟩
  refine ⟨by rw [wipe_length, wipeD_len]; exact S.len, fun j x h => ?_, fun j x h => ?_, fun j x h => ?_, fun j p m => ?_, S.lent0, fun j k p a b e1 e2 => ?_, S.frz, S.base⟩
  · obtain ⟨h, c⟩ := back j _ h
    rw [wipe_get σ vs j c]
    exact S.dat j x h
  · obtain ⟨h, c⟩ := back j _ h
    rw [wipe_get σ vs j c]
    exact S.own j x h
  · obtain ⟨h, c⟩ := back j _ h
    rw [wipe_get σ vs j c]
    exact S.lent j x h
  · obtain ⟨xs, h⟩ := S.lentE j p m
    refine ⟨xs, ?_⟩
    rw [wipeD_get, if_neg, h]
    intro z
    exact no j z xs h
  · obtain ⟨a, ca⟩ := own j a
    obtain ⟨b, cb⟩ := own k b
    rw [wipe_get σ vs j ca] at e1
    rw [wipe_get σ vs k cb] at e2
    exact S.inj j k p a b e1 e2
theorem Sim.unwipe {vs : List Nat} (S : Sim K H0 M st (L2.wipe σ vs) F H) (em : ∀ j ∈ vs, st.getD j none = none) : Sim K H0 M st σ F H := by
  have out : ∀ j s, st.getD j none = some s → j ∉ vs := fun j s h z => by
    rw [em j z] at h
    cases h
  have own : ∀ j, IsOwn st j → j ∉ vs := fun j ⟨xs, h⟩ => by
    rcases h with h | h <;> exact out j _ h
  refine ⟨by rw [← wipe_length σ vs]; exact S.len, fun j x h => ?_, fun j x h => ?_, fun j x h => ?_, S.lentE, S.lent0, fun j k p a b e1 e2 => ?_, S.frz, S.base⟩
  · have := S.dat j x h
    rw [wipe_get σ vs j (out j _ h)] at this
    exact this
  · have := S.own j x h
    rw [wipe_get σ vs j (out j _ h)] at this
    exact this
  · have := S.lent j x h
    rw [wipe_get σ vs j (out j _ h)] at this
    exact this
  · rw [← wipe_get σ vs j (own j a)] at e1
    rw [← wipe_get σ vs k (own k b)] at e2
    exact S.inj j k p a b e1 e2
theorem Ext.trans' {σ' : L2.St} (a : Ext st σ F H st' F' H') (o : ∀ p, OwnAt st' σ' p → OwnAt st σ p) (b : Ext st' σ' F' H' st2 F2 H2) : Ext st σ F H st2 F2 H2 where
  sub := fun c h => b.sub c (a.sub c h)
  new := fun c h => by
    rcases b.new c h with h | h | h
    · exact a.new c h
    · refine .inr (.inl ?_)
      apply Classical.byContradiction
      intro z
      exact a.live c z h
    · exact .inr (.inr (o c h))
  keep := fun c u h n => b.keep c u (a.keep c u h n) fun z => n (o c z)
  live := fun c h => b.live c (a.live c h)
  own := fun i h => a.own i (b.own i h)
/-- a list that nobody of us has is another one now -/
theorem FL.upd {D : Addr} {old ys : List V} (hD : H D = some (.lst old)) (nf : ¬ F D) {a : Addr} {xs : List V} (h : FL K F H a xs) : FL K F (upd H D (.lst ys)) a xs := by
  rcases h with ⟨f, h⟩ | ⟨ob, h⟩ | h
  · exact .inl ⟨f, by rw [upd_ne (by rintro rfl; exact nf f)]; exact h⟩
  · exact .inr (.inl ⟨ob, by rw [upd_ne (by rintro rfl; rw [hD] at h; cases h)]; exact h⟩)
  · exact .inr (.inr h)
theorem stD_upd {D : Addr} {old ys : List V} (hD : H D = some (.lst old)) {a : Addr} {xs : Option (List V)} (h : STD K H a xs) : STD K (upd H D (.lst ys)) a xs := stD_up (fun b u e1 nl => by
    rw [upd_ne]
    · exact e1
    · rintro rfl
      rw [hD] at e1
      cases e1
      exact nl _ rfl) h
theorem Sim.updFree (S : Sim K H0 M st σ F H) {D : Addr} {old ys : List V} (hD : H D = some (.lst old)) (nf : ¬ F D) (no : ¬ OwnAt st σ D) (h0 : H0 D = none) : Sim K H0 M st σ F (L2.upd H D (.lst ys)) := by
  have mono : ∀ {v : V} {x : PyData}, Rp K F H v x → Rp K F (L2.upd H D (.lst ys)) v x := fun r => r.mono (fun _ _ h => h.upd hD nf) fun _ _ h => stD_upd hD h
  have monoA : ∀ {v : List V} {x : List PyData}, RpAll K F H v x → RpAll K F (L2.upd H D (.lst ys)) v x := fun r => r.mono (fun _ _ h => h.upd hD nf) fun _ _ h => stD_upd hD h
  have ne : ∀ {i p}, IsOwn st i → σ[i]? = some (some (.ref p)) → p ≠ D := fun {i p} o e z => by
    subst z
    exact no ⟨i, o, e⟩
  refine ⟨S.len, fun j x h => ?_, fun j x h => ?_, fun j x h => ?_, S.lentE, S.lent0, S.inj, fun a h => ?_, fun b u h n => ?_⟩
  · obtain ⟨v, a, b⟩ := S.dat j x h
    exact ⟨v, a, mono b⟩
  · obtain ⟨p, vs, a, b, c, d, f⟩ := S.own j x h
    exact ⟨p, vs, a, by rw [upd_ne (ne ⟨x, .inl h⟩ a)]; exact b, monoA c, d, f⟩
  · obtain ⟨p, vs, m, a, b, c, d⟩ := S.lent j x h
    exact ⟨p, vs, m, a, by rw [upd_ne (ne ⟨x, .inr h⟩ a)]; exact b, monoA c, d⟩
  · rw [upd_ne (by rintro rfl; exact nf h)]
    exact S.frz a h
  · rw [upd_ne (by rintro rfl; rw [h0] at h; cases h)]
    exact S.base b u h n
theorem refill_len (s0 s : DSt) : ∀ vs : List Nat, (refill s0 s vs).length = s.length
  | [] => rfl
  | v :: vs => by unfold refill; rw [List.length_set, refill_len s0 s vs]
theorem refill_get (s0 s : DSt) : ∀ (vs : List Nat) (j : Nat), (refill s0 s vs).getD j none = if j ∈ vs ∧ j < s.length then s0.getD j none else s.getD j none
  | [], j => by simp [refill]
  | v :: vs, j => by
    unfold refill
    rw [List.getD_eq_getElem?_getD, List.getElem?_set, refill_len]
    have ih := refill_get s0 s vs j
    by_cases e : v = j
    · subst e
      rw [if_pos rfl]
      by_cases h : v < s.length
      · rw [if_pos h, if_pos ⟨List.mem_cons_self, h⟩]
        rfl
      · rw [if_neg h, if_neg fun z => h z.2, List.getD_eq_getElem?_getD, List.getElem?_eq_none (by omega)]
    · rw [if_neg e, ← List.getD_eq_getElem?_getD, ih]
      by_cases h : j ∈ vs ∧ j < s.length
      · rw [if_pos h, if_pos ⟨List.mem_cons_of_mem _ h.1, h.2⟩]
      · rw [if_neg h, if_neg]
        rintro ⟨z, z2⟩
        rcases List.mem_cons.mp z with z | z
        · exact e z.symm
        · exact h ⟨z, z2⟩
/-- the block's slots hold again what they held -/
theorem Sim.refill {s0 : DSt} {vs : List Nat} (S : Sim K H0 M st σ F H) (em : ∀ j ∈ vs, st.getD j none = none) (old : ∀ j ∈ vs, ∀ s, s0.getD j none = some s → ∃ x v, s = .d x ∧ σ[j]? = some (some v) ∧ Rp K F H v x) : Sim K H0 M (DL.refill s0 st vs) σ F H ∧ ∀ i, IsOwn (DL.refill s0 st vs) i → IsOwn st i := by
  have new : ∀ j s, (DL.refill s0 st vs).getD j none = some s → (st.getD j none = some s) ∨ (∃ x v, s = .d x ∧ σ[j]? = some (some v) ∧ Rp K F H v x) := fun j s h => by
    rw [refill_get] at h
    by_cases c : j ∈ vs ∧ j < st.length
    · rw [if_pos c] at h
      exact .inr (old j c.1 s h)
    · rw [if_neg c] at h
      exact .inl h
  have own : ∀ i, IsOwn (DL.refill s0 st vs) i → IsOwn st i := fun i ⟨xs, h⟩ => by
    rcases h with h | h
    · rcases new i _ h with z | ⟨x, v, z, _⟩
      · exact ⟨xs, .inl z⟩
      · cases z
    · rcases new i _ h with z | ⟨x, v, z, _⟩
      · exact ⟨xs, .inr z⟩
      · cases z
  refine ⟨⟨S.len.trans (refill_len s0 st vs).symm, fun i x h => ?_, fun i x h => ?_, fun i x h => ?_, fun i p m => ?_, S.lent0, fun i j p a b => S.inj i j p (own i a) (own j b), S.frz, S.base⟩, own⟩
  · rcases new i _ h with z | ⟨y, v, z, z2, z3⟩
    · exact S.dat i x z
    · cases z
      exact ⟨v, z2, z3⟩
  · rcases new i _ h with z | ⟨y, v, z, _⟩
    · exact S.own i x z
    · cases z
  · rcases new i _ h with z | ⟨y, v, z, _⟩
    · exact S.lent i x z
    · cases z
  · obtain ⟨xs, h⟩ := S.lentE i p m
    refine ⟨xs, ?_⟩
    rw [refill_get, if_neg, h]
    rintro ⟨z, _⟩
    rw [em i z] at h
    cases h
/-- a comprehension from its source on -/
theorem lc_body {is vs : List Nat} {tg : TG} {tt : TT} {te : TE} {g : DG} {t : DT} {f : DE} (c : SndG K is tg g) (b : SndT K tt t) (d : SndE K te f) (hsub : ∀ j ∈ is, j ∈ vs) {H0 : Hp} {M : Nat → Option Addr} {st : DSt} {σ : L2.St} {F : Addr → Prop} {H : Hp} {r : Rv} {st' : DSt} {Q : VK} (S : Sim K H0 M st σ F H) {ds : List D} {s1 : DSt} {J : It} {F1 : Addr → Prop} {H1 : Hp} (S1 : Sim K H0 M s1 σ F1 H1) (E1 : Ext st σ F H s1 F1 H1) (W : WalkD K J ds F1 H1)
    (e : (if ds.length ≤ sizeLine ∧ vs.all (fun i => match s1.getD i none with | none => true | some (.d _) => true | _ => false) = true then
    (lcGo g t f vs ds (wipeD s1 vs)).bind fun q => some (Rv.tmp q.1, refill s1 q.2 vs) else none) = some (r, st'))
    (q : ∀ v F' H', Sim K H0 M st' σ F' H' → Ext st σ F H st' F' H' → Fill st st' → RvOk K F' H' st' σ H r v → Q v H') : ∀ D, H1 D = none → ∃ W : Nat → Nat → Hp → Prop, (∃ m, W 0 m (upd H1 D (.lst []))) ∧ ∀ i m H, W i m H →
  (J.stop i H ∧ Q (.ref D) H) ∨ (J.go i H ∧ ∃ Nx : Hp → Prop, (∀ H', Nx H' → ∃ m', m' < m ∧ W (i + 1) m' H') ∧ ∀ x H', J.yld i H x H' → tg x (L2.wipe σ vs) H' fun σ2 H2 => L2.wipe σ2 vs = L2.wipe σ vs ∧ tt σ2 H2 fun b H3 =>
    if b = true then te σ2 H3 fun y H4 => ∃ acc, H4 D = some (.lst acc) ∧ acc.length < sizeLine ∧ Nx (upd H4 D (.lst (acc ++ [y]))) else Nx H3) := by
  intro D hD
  by_cases cd : ds.length ≤ sizeLine ∧ vs.all (fun i => match s1.getD i none with | none => true | some (.d _) => true | _ => false) = true
  · rw [if_pos cd] at e
    obtain ⟨⟨tot, sE⟩, e2, e⟩ := bs e
    cases e
    obtain ⟨hlen, hall⟩ := cd
    have nl1 : ∀ j ∈ vs, ∀ xs, s1.getD j none ≠ some (.lent xs) := fun j hj xs z => by
      have := List.all_eq_true.mp hall j hj
      rw [z] at this
      cases this
    have nM : ∀ j ∈ vs, M j = none := fun j hj => by
      cases m : M j with
      | none => rfl
      | some p =>
        obtain ⟨xs, z⟩ := S1.lentE j p m
        exact absurd z (nl1 j hj xs)
    have nlent : ∀ {s2 : DSt} {σ2 : L2.St} {F2 : Addr → Prop} {H2 : Hp}, Sim K H0 M s2 σ2 F2 H2 → ∀ j ∈ vs, ∀ xs, s2.getD j none ≠ some (.lent xs) := fun S2 j hj xs z => by
      obtain ⟨p, _, m, _⟩ := S2.lent j xs z
      rw [nM j hj] at m
      cases m
    have hD0 : H D = none := Classical.byContradiction fun z => E1.live D z hD
    have h00 : H0 D = none := S.fresh0 hD0
    have gr : Same H1 (upd H1 D (.lst [])) := same_upd hD
    have Sw : Sim K H0 M (wipeD s1 vs) (L2.wipe σ vs) F1 (upd H1 D (.lst [])) := (S1.wipe nl1).grow gr
    have ownw : ∀ i, IsOwn (wipeD s1 vs) i → IsOwn s1 i := fun i ⟨xs, h⟩ => by
      rw [wipeD_get] at h
      by_cases c : i ∈ vs
      · rw [if_pos c] at h
        rcases h with h | h <;> cases h
      · rw [if_neg c] at h
        exact ⟨xs, h⟩
    have Ew : Ext st σ F H (wipeD s1 vs) F1 (upd H1 D (.lst [])) := by
      have := E1.trans (Ext.grow (st := s1) (σ := σ) (F := F1) gr)
      exact ⟨this.sub, this.new, this.keep, this.live, fun i h => this.own i (ownw i h)⟩
    -- wiped slots are slots
    have back : ∀ {s2 : DSt}, (∀ i, IsOwn s2 i → IsOwn st i) → ∀ p, OwnAt s2 (L2.wipe σ vs) p → OwnAt st σ p := fun {s2} o p ⟨i, h1, h2⟩ => ⟨i, o i h1, (wipe_some h2).1⟩
    refine ⟨fun i m Hc => i + m = ds.length ∧ ∃ (s2 : DSt) (F2 : Addr → Prop) (av : List V) (ad rest : List PyData), Sim K H0 M s2 (L2.wipe σ vs) F2 Hc ∧ FExt K H0 F1 H1 F2 Hc ∧ Ext st σ F H s2 F2 Hc ∧ Hc D = some (.lst av) ∧ RpAll K F2 Hc av ad ∧ ¬ F2 D ∧ ¬ OwnAt s2 (L2.wipe σ vs) D ∧
      (∀ j ∈ vs, s2.getD j none = none) ∧ lcGo g t f vs (ds.drop i) s2 = some (rest, sE) ∧ ad ++ rest = tot ∧ ad.length ≤ i, ⟨ds.length, by simp, wipeD s1 vs, F1, [], [], tot, Sw, ?_, Ew, upd_same, .nil, ?_, ?_, ?_, e2, rfl, Nat.le_refl _⟩, ?_⟩
    · exact (Ext.grow (st := s1) (σ := σ) (F := F1) gr).fext S1 (S1.grow gr)
    · intro z
      obtain ⟨ys, e⟩ := S1.frz D z
      rw [hD] at e
      cases e
    · rintro ⟨i, h1, h2⟩
      obtain ⟨⟨ys, e⟩, _⟩ := S1.atOwn ⟨i, ownw i h1, (wipe_some h2).1⟩
      rw [hD] at e
      cases e
    · intro j hj
      rw [wipeD_get, if_pos hj]
    · rintro i m Hc ⟨him, s2, F2, av, ad, rest, S2, x2, E2, hDc, rA, nfD, noD, em, e3, htot, hal⟩
      by_cases hi : i < ds.length
      · refine .inr ⟨W.goes i Hc hi x2.gd, fun Hn => ∃ (s2 : DSt) (F2 : Addr → Prop) (av : List V) (ad rest : List PyData), Sim K H0 M s2 (L2.wipe σ vs) F2 Hn ∧ FExt K H0 F1 H1 F2 Hn ∧ Ext st σ F H s2 F2 Hn ∧ Hn D = some (.lst av) ∧ RpAll K F2 Hn av ad ∧ ¬ F2 D ∧ ¬ OwnAt s2 (L2.wipe σ vs) D ∧
          (∀ j ∈ vs, s2.getD j none = none) ∧ lcGo g t f vs (ds.drop (i + 1)) s2 = some (rest, sE) ∧ ad ++ rest = tot ∧ ad.length ≤ i + 1, fun Hn h => ⟨m - 1, by omega, by omega, h⟩, fun x H3 y => ?_⟩
        obtain ⟨sm, dd, gd, rx⟩ := W.yields i Hc x H3 F2 hi x2.gd (fun v d h => x2.rp h) y
        have hdrop : ds.drop i = dd :: ds.drop (i + 1) := by
          obtain ⟨h, e⟩ := List.getElem?_eq_some_iff.mp gd
          rw [List.drop_eq_getElem_cons h, e]
        rw [hdrop] at e3
        obtain ⟨s3, e4, e3⟩ := bs e3
        obtain ⟨⟨kb, s4⟩, e5, e3⟩ := bs e3
        have S3 := S2.grow sm
        have E3 : Ext st σ F H s2 F2 H3 := E2.trans' (back E2.own) (Ext.grow sm)
        have x3 : FExt K H0 F1 H1 F2 H3 := x2.trans ((Ext.grow sm).fext S2 S3)
        refine c H0 M s2 (L2.wipe σ vs) F2 H3 dd x s3 _ S3 rx e4 fun σ3 S4 same3 own3 => ?_
        have wk : L2.wipe σ3 vs = L2.wipe (L2.wipe σ vs) vs := wipe_ext same3.1.symm fun j hj => same3.2 j fun z => hj (hsub j z)
        have ww : L2.wipe (L2.wipe σ vs) vs = L2.wipe σ vs := wipe_ext (wipe_length σ vs).symm fun j hj => wipe_get σ vs j hj
        have wσ : L2.wipe σ3 vs = L2.wipe σ vs := wk.trans ww
        refine ⟨wσ, ?_⟩
        -- from the target's slots back
        have o3 : ∀ p, OwnAt s3 σ3 p → OwnAt s2 (L2.wipe σ vs) p := fun p ⟨i, h1, h2⟩ => by
          obtain ⟨h3, h4⟩ := own3 i h1
          exact ⟨i, h3, by rw [← same3.2 i h4]; exact h2⟩
        have o3' : ∀ p, OwnAt s3 σ3 p → OwnAt st σ p := fun p h => back E2.own p (o3 p h)
        have E4 : Ext st σ F H s3 F2 H3 := ⟨E3.sub, E3.new, E3.keep, E3.live, fun i h => E2.own i (own3 i h).1⟩
        have hD3 : H3 D = some (.lst av) := sm _ _ hDc
        have noD3 : ¬ OwnAt s3 σ3 D := fun z => noD (o3 D z)
        refine b H0 M s3 σ3 F2 H3 kb s4 _ S4 e5 fun F5 H5 S5 E5 _ => ?_
        have x5 := x3.trans (E5.fext S4 S5)
        have E5' : Ext st σ F H s4 F5 H5 := E4.trans' o3' E5
        have hD5 : H5 D = some (.lst av) := E5.keep _ _ hD3 noD3
        have o5 : ∀ p, OwnAt s4 σ3 p → OwnAt s3 σ3 p := fun p z => z.imp E5.own
        have nfD5 : ¬ F5 D := fun z => by
          rcases E5.new D z with z | z | z
          · exact nfD z
          · rw [hD3] at z; cases z
          · exact noD3 z
        have rA5 : RpAll K F5 H5 av ad := E5.rpAll S4 (rA.grow sm)
        -- the turn's end
        have fin : ∀ {s6 : DSt} {F6 : Addr → Prop} {H6 : Hp} {av' : List V} {ad' rest' : List PyData}, Sim K H0 M s6 σ3 F6 H6 → FExt K H0 F1 H1 F6 H6 → Ext st σ F H s6 F6 H6 → H6 D = some (.lst av') → RpAll K F6 H6 av' ad' → ¬ F6 D → ¬ OwnAt s6 σ3 D →
            lcGo g t f vs (ds.drop (i + 1)) (wipeD s6 vs) = some (rest', sE) → ad' ++ rest' = tot → ad'.length ≤ i + 1 →
            ∃ (s2 : DSt) (F2 : Addr → Prop) (av : List V) (ad rest : List PyData), Sim K H0 M s2 (L2.wipe σ vs) F2 H6 ∧ FExt K H0 F1 H1 F2 H6 ∧ Ext st σ F H s2 F2 H6 ∧ H6 D = some (.lst av) ∧ RpAll K F2 H6 av ad ∧ ¬ F2 D ∧ ¬ OwnAt s2 (L2.wipe σ vs) D ∧
              (∀ j ∈ vs, s2.getD j none = none) ∧ lcGo g t f vs (ds.drop (i + 1)) s2 = some (rest, sE) ∧ ad ++ rest = tot ∧ ad.length ≤ i + 1 := fun {s6 F6 H6 av' ad' rest'} S6 x6 E6 hD6 rA6 nf6 no6 e6 t6 l6 => by
          have ow : ∀ i, IsOwn (wipeD s6 vs) i → IsOwn s6 i := fun i ⟨xs, h⟩ => by
            rw [wipeD_get] at h
            by_cases c : i ∈ vs
            · rw [if_pos c] at h
              rcases h with h | h <;> cases h
            · rw [if_neg c] at h
              exact ⟨xs, h⟩
          have Sw6 := S6.wipe (nlent S6)
          rw [wσ] at Sw6
          refine ⟨wipeD s6 vs, F6, av', ad', rest', Sw6, x6, ⟨E6.sub, E6.new, E6.keep, E6.live, fun i h => E6.own i (ow i h)⟩, hD6, rA6, nf6, ?_, fun j hj => by rw [wipeD_get, if_pos hj], e6, t6, l6⟩
          rintro ⟨i, h1, h2⟩
          rw [← wσ] at h2
          exact no6 ⟨i, ow i h1, (wipe_some h2).1⟩
        by_cases hb : kb = true
        · subst hb
          rw [if_pos rfl] at e3
          rw [if_pos rfl]
          obtain ⟨⟨rv, s6⟩, e6, e3⟩ := bs e3
          obtain ⟨⟨yd, s7⟩, e7, e3⟩ := bs e3
          obtain ⟨⟨rest', sE'⟩, e8, e3⟩ := bs e3
          cases e3
          refine d H0 M s4 σ3 F5 H5 rv s6 _ S5 e6 fun yv F6 H6 S6 E6 _ r6 => ?_
          obtain ⟨F7, S7, E7, r7, sub7, own7, _⟩ := toD_ok S6 E6 r6.weak e7
          have no5 : ¬ OwnAt s4 σ3 D := fun z => noD3 (o5 D z)
          have hD7 : H6 D = some (.lst av) := E7.keep _ _ hD5 no5
          have nfD7 : ¬ F7 D := fun z => by
            rcases E7.new D z with z | z | z
            · exact nfD5 z
            · rw [hD5] at z; cases z
            · exact no5 z
          have no7 : ¬ OwnAt s7 σ3 D := fun z => no5 (z.imp E7.own)
          refine ⟨av, hD7, ?_, ?_⟩
          · rw [rA5.length]
            exact Nat.lt_of_lt_of_le (Nat.lt_of_le_of_lt hal hi) hlen
          · have S8 := S7.updFree (ys := av ++ [yv]) hD7 nfD7 no7 h00
            have up1 : ∀ a xs, FL K F7 H6 a xs → FL K F7 (upd H6 D (.lst (av ++ [yv]))) a xs := fun _ _ h => h.upd hD7 nfD7
            have up2 : ∀ a xs, STD K H6 a xs → STD K (upd H6 D (.lst (av ++ [yv]))) a xs := fun _ _ h => stD_upd hD7 h
            have E8 : Ext st σ F H s7 F7 (upd H6 D (.lst (av ++ [yv]))) := by
              have e9 := E5'.trans' (fun p z => o3' p (o5 p z)) E7
              refine ⟨e9.sub, e9.new, fun b u h n => ?_, fun b h => ?_, e9.own⟩
              · rw [upd_ne (by rintro rfl; rw [hD0] at h; cases h)]
                exact e9.keep b u h n
              · by_cases bd : b = D
                · subst bd
                  exact absurd hD0 h
                · rw [upd_ne bd]
                  exact e9.live b h
            exact fin (av' := av ++ [yv]) (ad' := ad ++ [yd]) (rest' := rest') S8 ((x5.trans (E7.fext S5 S7)).trans ⟨fun _ h => h, fun _ h => .inl h, up1, up2⟩) E8 upd_same
              ((RpAll.mono up1 up2 (E7.rpAll S5 rA5)).snoc (r7.mono up1 up2)) nfD7 no7 e8 (by rw [List.append_assoc]; exact htot) (by rw [List.length_append, List.length_singleton]; omega)
        · rw [if_neg hb] at e3
          rw [if_neg hb]
          exact fin S5 x5 E5' hD5 rA5 nfD5 (fun z => noD3 (o5 D z)) e3 htot (Nat.le_succ_of_le hal)
      · have hl : i = ds.length := by omega
        subst hl
        rw [List.drop_length] at e3
        cases e3
        rw [List.append_nil] at htot
        subst htot
        have S5 := S2.unwipe em
        obtain ⟨S6, own6⟩ := S5.refill (s0 := s1) em fun j hj s hs => by
          have hd := List.all_eq_true.mp hall j hj
          rw [hs] at hd
          cases s with
          | d x =>
            obtain ⟨v, e1, e2⟩ := S1.dat j x hs
            exact ⟨x, v, rfl, e1, x2.rp e2⟩
          | own xs => cases hd
          | lent xs => cases hd
        refine .inl ⟨W.stops Hc x2.gd, q _ F2 Hc S6 ⟨E2.sub, E2.new, E2.keep, E2.live, fun i h => E2.own i (own6 i h)⟩ trivial ⟨D, av, rfl, hDc, rA, nfD, fun z => ?_, hD0⟩⟩
        obtain ⟨i, h1, h2⟩ := z
        have h1 := own6 i h1
        refine noD ⟨i, h1, ?_⟩
        rw [wipe_get σ vs i]
        · exact h2
        · intro z
          obtain ⟨xs, h1⟩ := h1
          rw [em i z] at h1
          rcases h1 with h1 | h1 <;> cases h1
  · rw [if_neg cd] at e
    cases e
theorem snd_lc {is vs : List Nat} {wi : TI} {tg : TG} {tt : TT} {te : TE} {it : DI} {g : DG} {t : DT} {f : DE} (a : SndI K wi it) (c : SndG K is tg g) (b : SndT K tt t) (d : SndE K te f) (hsub : ∀ j ∈ is, j ∈ vs) : SndE K (tLc wi tg tt te vs) (dLc it g t f vs) := by
  intro H0 M st σ F H r st' Q S e q
  obtain ⟨⟨ds, s1⟩, e1, e⟩ := bs e
  exact a H0 M st σ F H ds s1 _ S e1 fun J F1 H1 S1 E1 W => lc_body c b d hsub S S1 E1 W e q
end
end DL
end

section
set_option Elab.async false
set_option linter.all false
set_option maxRecDepth 100000
set_option maxHeartbeats 1000000
/-! DLfn: defs that run where no repr is under way (repr asks for that): their promises, calls, the law's own end. -/
namespace DL
open PySem PySem.Spec PyProof.Rows L2
/-- a def's promise, where no guard stands around -/
structure FnG (P : Program) (w : World) (K : PySem.W.Frag) (mg : Str → Option Value) (base : Heap) (CX : CXT) (lv : Nat) (f : Addr) (fd : FuncData) (ps : List Str) (sp : Sp) : Prop where
  many : ∀ vs H Q E, sp vs H Q E → vs.length = ps.length
  go : ∀ (A : Around) (out : List Env) (s : Shared) (H : Hp) (args : Args) (us : List Value) (vs : List V) (Q : VK) (E : XK), Room lv A → A.guards = some [] → Env0 P w K mg base A out s H → BindsTo s fd args (ps.zip us) → Vals vs us → sp vs H Q E →
    codeAny (model P w) A (.call (.ref f) args) (CR CX out P w H s Q E) s
section
variable {P : Program} {w : World} {K : PySem.W.Frag} {mg : Str → Option Value} {base : Heap} {CX : CXT}
theorem FnG.mono {i j : Nat} {f : Addr} {fd : FuncData} {ps : List Str} {sp : Sp} (g : FnG P w K mg base CX i f fd ps sp) (h : i ≤ j) : FnG P w K mg base CX j f fd ps sp :=
  ⟨g.many, fun A out s H args us vs Q E room => g.go A out s H args us vs Q E (room.mono h)⟩
theorem FnG.imp {i : Nat} {f : Addr} {fd : FuncData} {ps : List Str} {sp sp' : Sp} (g : FnG P w K mg base CX i f fd ps sp) (h : ∀ vs H Q E, sp' vs H Q E → sp vs H Q E) : FnG P w K mg base CX i f fd ps sp' :=
  ⟨fun vs H Q E z => g.many vs H Q E (h _ _ _ _ z), fun A out s H args us vs Q E room gd env bd vl z => g.go A out s H args us vs Q E room gd env bd vl (h _ _ _ _ z)⟩
/-- from the body -/
theorem fnG_of {lv : Nat} {f : Addr} {nm ql : Str} {prm : Arguments} {bd : List Stmt} {sc : Scope} {dV kV dc pm cdv ct oc : Value} {an od : Option Addr} {osl : Array (Option Value)} {N ps : List Str} {sp : Sp}
    (at_ : K.lookup f = some ⟨oc, od, .func (PySem.W.fnOf nm ql prm bd sc dV kV dc pm an cdv ct), osl⟩) (isc : PySem.W.codeIn K cdv ql = true) (S : FnScope N ps sc) (many : ∀ vs H Q E, sp vs H Q E → vs.length = ps.length)
    (body : ∀ (A : Around) (out : List Env) (s : Shared) (H : Hp) (vs : List V) (Q : VK) (E : XK), Room lv (A.deeper (envOfC ql sc s.heap.objs.size f cdv)) → (A.deeper (envOfC ql sc s.heap.objs.size f cdv)).guards = some [] → sp vs H Q E →
      ∃ t, PSs (cxOf CX P w K mg base N ql sc f cdv A out s H E) bd t ∧ t { nx := fun _ H' => Q .non H', rt := Q } (L2.start N vs) H) :
    FnG P w K mg base CX (lv + 1) f (PySem.W.fnOf nm ql prm bd sc dV kV dc pm an cdv ct) ps sp := by
  refine ⟨many, fun A out s H args us vs Q E room gd env bnd vals want => ?_⟩
  have vlen := many _ _ _ _ want
  have kept : ∀ b o, base.get? b = some o → s.heap.get? b = some o := fun b o z => (env.bs b o z).1
  have inK : K.In s.heap := env.mod.kin.keeps kept
  have places : ∀ y ∈ ps.zip us, sc.names.lookup y.1 = some .local ∨ (sc.names.lookup y.1 = some .cell ∧ ((cellsFrom (s.heap.objs.size + 1) sc.names []).lookup y.1).isSome = true) := by
    rintro ⟨nm', v'⟩ hy
    rcases S.par nm' (List.of_mem_zip hy).1 with z | z
    · exact .inl z
    · exact .inr ⟨z, PySem.W.cellsFrom_some _ _ _ (.inl z)⟩
  refine codeAny_call_function room.depth (inK _ _ at_) rfl S.co S.gen rfl (PySem.W.codeRec_of inK isc) (bnd _ _ _ _ ?_)
  refine wpAny_newFunctionEnv_cells S.kind places fun env' he st1 x => ?_
  subst he
  refine ⟨(env.mod.nolimit.keeps kept).keeps x.toInCall.keep, codeAny_func ?_⟩
  obtain ⟨t, pt, qt⟩ := body A out s H vs Q E (room.deeper _) gd want
  have J : Inv (cxOf CX P w K mg base N ql sc f cdv A out s H E) [] (L2.start N vs) H st1 := inv_start S room.hd env vlen vals x
  refine wpAny_mono (pt.run [] st1 (L2.start N vs) H _ J qt) (fun fl st2 z => ?_) fun e st2 z => z
  cases fl with
  | ret u =>
    obtain ⟨v, σ', H', J', rv, z⟩ := z
    exact ⟨v, H', J'.os, J'.bare, J'.base, J'.hok, rv, z⟩
  | next =>
    obtain ⟨σ', H', J', z⟩ := z
    exact ⟨.non, H', J'.os, J'.bare, J'.base, J'.hok, rfl, z⟩
  | brk =>
    obtain ⟨_, _, _, z⟩ := z
    exact z.elim
  | cont =>
    obtain ⟨_, _, _, z⟩ := z
    exact z.elim
end
section
variable {X : Cx} {CX : CXT} {lv n : Nat} {f : Addr} {fd : FuncData} {ps ks : List Str} {sp : Sp} {dvs : List V} {ds : List Value} {E : XK} {x : Str} {p pos : Pos} {e : Expr} {es : List Expr} {kws : List Keyword} {t tk : TA} {perm : List Nat}
/-- a callee's end is the caller's -/
theorem callG {pins : List (Addr × Obj)} {σ : L2.St} {H : Hp} {s : Shared} {Q : VK} {us : List Value} {kw : List (Str × Value)} {full : List Value} {vs : List V} (g : FnG X.prog X.w X.K X.mg X.base CX lv f fd ps sp) (room : Room lv X.A) (gd : X.A.guards = some []) (pa : Passes CX X E)
    (I : Inv X pins σ H s) (bnd : BindsTo s fd ⟨us, kw⟩ (ps.zip full)) (r : Vals vs full) (want : sp vs H Q E) : wpAny (model X.prog X.w) X.A (call (.ref f) us kw) (EP X pins σ Q) X.xe s := by
  refine wpAny_call (codeAny_mono (g.go X.A X.stack s H ⟨us, kw⟩ full vs Q E room gd I.env0 bnd r want) fun res s' z => ?_)
  match res, z with
  | .error er, z => exact pa pins σ H s er s' I z
  | .ok (.ret u), z => exact I.after z
  | .ok .next, z => exact z.elim
  | .ok .brk, z => exact z.elim
  | .ok .cont, z => exact z.elim
theorem pe_callG (g : FnG X.prog X.w X.K X.mg X.base CX lv f fd ps sp) (room : Room lv X.A) (gd : X.A.guards = some []) (hg : Gl X x) (hm : X.mg x = some (.ref f)) (kp : PySem.W.keepIn X.K (.ref f) = true) (hb : Binds X.K fd ps ds) (hd : Vals dvs ds) (pa : Passes CX X E)
    (ha : PA X (e :: es) t) (h1 : (x == ("__debug__" : Str)) = false := by decide) (h2 : starEach (e :: es) X.env = (false, eval e X.env) :: starEach es X.env := by rfl) (h3 : (backTo pos (starEach es X.env)).any (·.1) = false := by rfl) :
    PE X (.Call (.Name x p) (e :: es) [] pos) (tCall sp dvs E t) := by
  constructor
  intro pins s σ H Q I want
  refine wpAny_Call_Name_kw (ld_glob I hg hm ?_ h1)
  refine PySem.W.callWith_K (h₀ := X.base) I.ok.mod.kin kp ?_ h2 h3
  refine thn (ha.run pos pins s σ H _ I want) ?_
  rintro us s1 ⟨vs, H1, I1, r, z⟩
  have r2 : Vals (vs ++ dvs) (us ++ ds) := r.append hd
  have l2 : (us ++ ds).length = ps.length := r2.length.symm.trans (g.many _ _ _ _ z)
  exact ⟨I1.kIn, callG g room gd pa I1 (hb s1 us I1.kIn l2) r2 z⟩
theorem pe_call0G (g : FnG X.prog X.w X.K X.mg X.base CX lv f fd ps sp) (room : Room lv X.A) (gd : X.A.guards = some []) (hg : Gl X x) (hm : X.mg x = some (.ref f)) (kp : PySem.W.keepIn X.K (.ref f) = true) (hb : Binds X.K fd ps ds) (hd : Vals dvs ds) (pa : Passes CX X E)
    (h1 : (x == ("__debug__" : Str)) = false := by decide) : PE X (.Call (.Name x p) [] [] pos) (tCall sp dvs E tNil) := by
  constructor
  intro pins s σ H Q I want
  refine wpAny_Call_Name_kw (ld_glob I hg hm ?_ h1)
  have r2 : Vals ([] ++ dvs) ([] ++ ds) := hd
  have l2 : (([] : List Value) ++ ds).length = ps.length := r2.length.symm.trans (g.many _ _ _ _ want)
  exact PySem.W.callWith_K0 I.kIn kp (callG g room gd pa I (hb s [] I.kIn l2) r2 want)

/-! ### calls with names -/
theorem permute_cons {α : Type} (k : Nat) (perm : List Nat) (xs : List α) : permute (k :: perm) xs = match xs[k]? with | some x => x :: permute perm xs | none => permute perm xs := by
  unfold permute
  rw [List.filterMap_cons]
  cases xs[k]? <;> rfl
theorem Vals.permute {vs : List V} {us : List Value} (h : Vals vs us) : ∀ perm : List Nat, Vals (DL.permute perm vs) (DL.permute perm us)
  | [] => .nil
  | k :: perm => by
    rw [permute_cons, permute_cons]
    cases q : vs[k]? with
    | none =>
      rw [Vals.none_of h q]
      exact Vals.permute h perm
    | some x =>
      obtain ⟨v, e, r⟩ := Vals.get h q
      rw [e]
      exact .cons r (Vals.permute h perm)
def KB (K : PySem.W.Frag) (fd : FuncData) (ps ks : List Str) (n : Nat) (perm : List Nat) (ds : List Value) : Prop :=
  ∀ (s : Shared) (us ws : List Value), K.In s.heap → us.length = n → ws.length = ks.length → BindsTo s fd ⟨us, ks.zip ws⟩ (ps.zip (permute perm (us ++ ws ++ ds)))
def tCallP (n m : Nat) (perm : List Nat) (dvs : List V) (sp : Sp) (E : XK) (t tk : TA) : TE := fun σ H Q => t σ H fun vs H1 => tk σ H1 fun zs H2 => vs.length = n ∧ zs.length = m ∧ sp (permute perm (vs ++ zs ++ dvs)) H2 Q E
theorem pe_callP (g : FnG X.prog X.w X.K X.mg X.base CX lv f fd ps sp) (room : Room lv X.A) (gd : X.A.guards = some []) (hg : Gl X x) (hm : X.mg x = some (.ref f)) (kp : PySem.W.keepIn X.K (.ref f) = true) (hb : KB X.K fd ps ks n perm ds) (hd : Vals dvs ds) (pa : Passes CX X E)
    (ha : PA X (e :: es) t) (hkw : PK X kws tk) (k1 : (backToKw pos (keywordEach kws X.env)).all (·.1.isSome) = true := by rfl) (k2 : (backToKw pos (keywordEach kws X.env)).filterMap (·.1) = ks := by rfl)
    (h1 : (x == ("__debug__" : Str)) = false := by decide) (h2 : starEach (e :: es) X.env = (false, eval e X.env) :: starEach es X.env := by rfl)
    (h3 : ((backTo pos (starEach (e :: es) X.env)).any (·.1) || (backToKw pos (keywordEach kws X.env)).any (·.1.isNone)) = false := by rfl) :
    PE X (.Call (.Name x p) (e :: es) kws pos) (tCallP n ks.length perm dvs sp E t tk) := by
  constructor
  intro pins s σ H Q I want
  refine wpAny_Call_Name_kw (ld_glob I hg hm ?_ h1)
  refine PySem.W.callWith_KW (h₀ := X.base) I.ok.mod.kin kp k1 (thn (ha.run pos pins s σ H _ I want) ?_) h3 h2
  rintro us s1 ⟨vs, H1, I1, r, z⟩
  refine thn (hkw.run pos pins s1 σ H1 _ I1 z) ?_
  rintro ws s2 ⟨zs, H2, I2, rz, l1, l2, z2⟩
  refine ⟨I2.kIn, ?_⟩
  rw [k2]
  exact callG g room gd pa I2 (hb s2 us ws I2.kIn (r.length.symm.trans l1) (rz.length.symm.trans l2)) (Vals.permute (Vals.append (Vals.append r rz) hd) perm) z2
theorem pe_callP0 (g : FnG X.prog X.w X.K X.mg X.base CX lv f fd ps sp) (room : Room lv X.A) (gd : X.A.guards = some []) (hg : Gl X x) (hm : X.mg x = some (.ref f)) (kp : PySem.W.keepIn X.K (.ref f) = true) (hb : KB X.K fd ps ks 0 perm ds) (hd : Vals dvs ds) (pa : Passes CX X E)
    (hkw : PK X kws tk) (k1 : (backToKw pos (keywordEach kws X.env)).all (·.1.isSome) = true := by rfl) (k2 : (backToKw pos (keywordEach kws X.env)).filterMap (·.1) = ks := by rfl)
    (h1 : (x == ("__debug__" : Str)) = false := by decide)
    (h3 : ((backTo pos (starEach [] X.env)).any (·.1) || (backToKw pos (keywordEach kws X.env)).any (·.1.isNone)) = false := by rfl) :
    PE X (.Call (.Name x p) [] kws pos) (tCallP 0 ks.length perm dvs sp E tNil tk) := by
  constructor
  intro pins s σ H Q I want
  refine wpAny_Call_Name_kw (ld_glob I hg hm ?_ h1)
  refine PySem.W.callWith_KW0 (h₀ := X.base) I.ok.mod.kin kp k1 (thn (hkw.run pos pins s σ H _ I want) ?_) h3
  rintro ws s2 ⟨zs, H2, I2, rz, l1, l2, z2⟩
  refine ⟨I2.kIn, ?_⟩
  rw [k2]
  exact callG g room gd pa I2 (hb s2 [] ws I2.kIn rfl (rz.length.symm.trans l2)) (Vals.permute (Vals.append (Vals.append .nil rz) hd) perm) z2
end

/-! ### the law's own end -/
section
variable {P : Program} {w : World} {K : PySem.W.Frag} {mg mb : Str → Option Value}
/-- the script's heap: nothing is told but the script, which is locked; or nothing at all -/
theorem lawG {lv : Nat} {fa a : Addr} {fd : FuncData} {x : Str} {sp : Sp} {s1 : Shared} {us : List Value} {ns : List Int}
    (inK : K.In s1.heap) (nsG : s1.heap.Ns mainGlobals mg) (nsB : s1.heap.Ns builtinsNs mb) (blt : ∀ y : Str, y ≠ "__name__" → mb y = bootBuiltins y) (noLim : s1.heap.NoLimit) (gens : s1.gens = #[])
    (scr : s1.heap.get? a = some { cls := .type "list", data := .seq us.toArray }) (isI : IntsAre us ns) (short : ns.length ≤ sizeLine) (room : Room lv callerA)
    (g : ∀ base : Heap, K.In base → base.Ns mainGlobals mg → FnG P w K mg base CX0 lv fa fd [x] sp) (bnd : ∀ (s : Shared) (u : Value), BindsTo s fd ⟨[u], []⟩ [(x, u)])
    (want : ∀ H : Hp, Only H → SqL K H a (ns.map V.int) → sp [.ref a] H (fun v _ => v = .bl true) fun _ _ _ => False) :
    codeAny (model P w) callerA (.call (.ref fa) ⟨[.ref a], []⟩) (fun r s' => r = .ok (.ret (.bool true)) ∧ OldK s1.heap s'.heap ∧ s'.os = s1.os ∧ AllBare s'.gens) s1 := by
  have vals : Vals (ns.map V.int) us := vals_ints isI
  have ulen : us.length = ns.length := isI.length
  -- both shapes of the told heap at once
  have both : ∀ H : Hp, Only H → SqL K H a (ns.map V.int) → HOk P w H s1.heap → (∀ b u, H b = some u → b = a ∧ K.lookup b = none) →
      codeAny (model P w) callerA (.call (.ref fa) ⟨[.ref a], []⟩) (fun r s' => r = .ok (.ret (.bool true)) ∧ OldK s1.heap s'.heap ∧ s'.os = s1.os ∧ AllBare s'.gens) s1 := by
    intro H only sq hok told
    have keepK : K.In (hidT s1.heap H) := by
      intro b o hb
      refine hidT_get (inK b o hb) ?_
      cases q : H b with
      | none => rfl
      | some u =>
        obtain ⟨_, z⟩ := told b u q
        rw [z] at hb
        cases hb
    have keepNs : ∀ {b : Addr} {m : Str → Option Value}, s1.heap.Ns b m → (hidT s1.heap H).Ns b m := by
      rintro b m ⟨o, es, ep, h1, h2, h3⟩
      refine ⟨o, es, ep, hidT_get h1 ?_, h2, h3⟩
      cases q : H b with
      | none => rfl
      | some u =>
        obtain ⟨z, _⟩ := told b u q
        subst z
        rw [scr] at h1
        cases h1
        cases (show Data.seq us.toArray _ = Data.dict es ep from h2)
    have md : Mod K mg (hidT s1.heap H) := by
      obtain ⟨mc, c1, c2⟩ := noLim
      exact ⟨keepK, keepNs nsG, ⟨mb, keepNs nsB, blt⟩, mc, keepNs c1, c2⟩
    have env : Env0 P w K mg (hidT s1.heap H) callerA [] s1 H :=
      ⟨rfl, md, fun b o hb => of_hidT hb, Nat.le_of_eq (hidT_size _ _), trivial, fun b hb => absurd (show b ∈ ([] : List Addr) from hb) List.not_mem_nil, hok, .of_eq gens⟩
    refine codeAny_mono ((g _ keepK (keepNs nsG)).go callerA [] s1 H ⟨[.ref a], []⟩ [.ref a] [.ref a] _ _ room rfl env (bnd s1 (.ref a)) (.cons rfl .nil) (want H only sq)) fun r s' z => ?_
    match r, z with
    | .error er, z => exact False.elim z
    | .ok .next, z => exact False.elim z
    | .ok .brk, z => exact False.elim z
    | .ok .cont, z => exact False.elim z
    | .ok (.ret u), z =>
      obtain ⟨v, H', os, bare, un, hok', rv, isT⟩ := z
      have isT : v = .bl true := isT
      subst isT
      cases (show u = Value.bool true from rv)
      refine ⟨rfl, OldK.of_keep fun b o hb => ?_, os, bare⟩
      cases q : H b with
      | none => exact un.keep b o hb q (fun c => absurd (show b ∈ ([] : List Addr) from c) List.not_mem_nil) List.not_mem_nil
      | some u =>
        rcases only b with c | ⟨ob, zs, c⟩
        · rw [q] at c
          cases c
        · obtain ⟨o1, _⟩ := hok b _ c
          obtain ⟨o2, _⟩ := hok' b _ (un.frzs b ob _ c)
          rw [hb] at o1
          cases o1
          exact o2
  cases inMod : K.lookup a with
  | some o =>
    have same := inK a o inMod
    rw [scr] at same
    cases same
    refine both (fun _ => none) (fun _ => .inl rfl) (.inr ⟨_, us.toArray, _, inMod, rfl, rfl, rfl, ?_, vals⟩) (fun b u c => nomatch c) fun b u c => nomatch c
    rw [List.size_toArray, ulen]
    exact short
  | none =>
    refine both (fun b => if b = a then some (.frz { cls := .type "list", data := .seq us.toArray } (.lst (ns.map V.int))) else none) (fun b => ?_) (.inl (.inr ⟨_, if_pos rfl⟩)) (fun b u c => ?_) fun b u c => ?_
    · by_cases ba : b = a
      · exact .inr ⟨_, _, if_pos ba⟩
      · exact .inl (if_neg ba)
    · by_cases ba : b = a
      · subst ba
        have c := (if_pos rfl).symm.trans c
        cases c
        exact ⟨scr, by rw [List.length_map]; exact short, us, _, vals, scr⟩
      · have c := (if_neg ba).symm.trans c
        cases c
    · by_cases ba : b = a
      · subst ba
        exact ⟨rfl, inMod⟩
      · have c := (if_neg ba).symm.trans c
        cases c
/-- the goal that the head leaves -/
theorem walkG {l : PySem.W.OpenLaw} {n lv : Nat} {q : Program} {loose : List Str} {XP : (Str → Option Value) → Heap → Prop} {YP : World → Heap → Prop} {d : DefRec} {KK : Params → PySem.W.Frag} {sp : PySem.W.Frag → Sp} {x : Str}
    (most : l.most = some n) (fits : n ≤ sizeLine) (noDef : d.params.defaults = []) (room : Room lv callerA) (isK : ∀ (w : World) (h : Heap), YP w h → (KK w.params).In h)
    (g : ∀ (w : World) (mg : Str → Option Value) (fa : Addr) (h : Heap), (KK w.params).In h → h.Ns mainGlobals mg → mg d.name = some (.ref fa) →
      ∃ fd : FuncData, (∀ (s : Shared) (u : Value), BindsTo s fd ⟨[u], []⟩ [(x, u)]) ∧ ∀ base : Heap, (KK w.params).In base → base.Ns mainGlobals mg → FnG l.prog w (KK w.params) mg base CX0 lv fa fd [x] (sp (KK w.params)))
    (want : ∀ (K : PySem.W.Frag) (H : Hp) (a : Addr) (ns : List Int), ns.length ≤ n → Only H → SqL K H a (ns.map V.int) → sp K [.ref a] H (fun v _ => v = .bl true) fun _ _ _ => False) :
    PySem.W.WalkO q loose XP YP l.row.toRowW d [] (fun f vs => PySem.call f vs) := by
  refine Att.attach_call most noDef ?_
  intro w s0 s1 mg mb fa o pm cd doc a us ns G Y ho hd hcd hmg hobj isI hlen gens
  have inK := isK w _ Y
  obtain ⟨fd, bnd, gb⟩ := g w mg fa _ inK G.T.g hmg
  exact lawG inK G.T.g G.T.b G.T.builtins G.T.nolimit gens hobj isI (Nat.le_trans hlen fits) room gb bnd fun H only sq => want _ H a ns hlen only sq
end
end DL
end

section
set_option Elab.async false
set_option linter.all false
set_option maxRecDepth 100000
set_option maxHeartbeats 1000000
/-! DLsnd5: promises of defs, calls. -/
namespace DL
open PySem PySem.Spec PyProof.Rows L2
def ArOk (K : PySem.W.Frag) (F : Addr → Prop) (H : Hp) (v : V) : Ar → Prop
  | .d x => Rp K F H v x
  | .m xs => ∃ p vs, v = .ref p ∧ H p = some (.lst vs) ∧ RpAll K F H vs xs ∧ ¬ F p
/-- the lent lists' addresses, by the arguments' places -/
def lentP (vs : List V) (as : List Ar) (i : Nat) : Option Addr := match as[i]?, vs[i]? with
  | some (.m _), some (.ref p) => some p
  | _, _ => none
/-- THE PROMISE of a def whose plain function is g -/
def spD (K : PySem.W.Frag) (n : Nat) (g : Fn) : Sp := fun vs H Q _ => ∃ (F : Addr → Prop) (as : List Ar) (r : Rt) (outs : List (List D)),
  vs.length = n ∧ Paired (ArOk K F H) vs as ∧ (∀ a, F a → ∃ xs, H a = some (.lst xs)) ∧ (∀ i j p, lentP vs as i = some p → lentP vs as j = some p → i = j) ∧ g as = some (r, outs) ∧
  ∀ v F' H', (∀ a, F a → F' a) → (∀ a, F' a → F a ∨ H a = none) → (∀ a, F' a → ∃ xs, H' a = some (.lst xs)) → (∀ b u, H b = some u → (∀ i, lentP vs as i ≠ some b) → H' b = some u) →
    (∀ i p, lentP vs as i = some p → ¬ F' p) →
    (∃ st, outsGo st as 0 = some outs ∧ ∀ i p, lentP vs as i = some p → ∃ xs ws, st.getD i none = some (.lent xs) ∧ H' p = some (.lst ws) ∧ RpAll K F' H' ws xs) →
    (∀ a xs, FL K F H a xs → FL K F' H' a xs) → (∀ a xs, STD K H a xs → STD K H' a xs) →
    RtOk K H F' H' r v → Q v H'
theorem Paired.at {α β : Type} {R : α → β → Prop} : ∀ {l : List α} {m : List β} {i : Nat} {b : β}, Paired R l m → m[i]? = some b → ∃ a, l[i]? = some a ∧ R a b
  | _, _, _, _, .nil, e => by simp at e
  | _, _, 0, _, .cons a _, e => by
    simp at e
    subst e
    exact ⟨_, rfl, a⟩
  | _, _, i + 1, _, .cons _ b, e => by
    obtain ⟨v, h1, h2⟩ := Paired.at (i := i) b (by simpa using e)
    exact ⟨v, by simpa using h1, h2⟩
theorem startD_get {n : Nat} {as : List Ar} {i : Nat} {s : SV} (h : (startD n as).getD i none = some s) : ∃ a, as[i]? = some a ∧ s = arS a := by
  unfold startD at h
  rw [List.getD_eq_getElem?_getD] at h
  by_cases hi : i < as.length
  · rw [List.getElem?_append_left (by rw [List.length_map]; exact hi), List.getElem?_map, List.getElem?_eq_getElem hi] at h
    exact ⟨as[i], List.getElem?_eq_getElem hi, (Option.some.inj h).symm⟩
  · rw [List.getElem?_append_right (by rw [List.length_map]; omega), List.getElem?_replicate] at h
    split at h <;> cases h
theorem startD_at {n : Nat} {as : List Ar} {i : Nat} {a : Ar} (h : as[i]? = some a) : (startD n as).getD i none = some (arS a) := by
  obtain ⟨hi, e⟩ := List.getElem?_eq_some_iff.mp h
  unfold startD
  rw [List.getD_eq_getElem?_getD, List.getElem?_append_left (by rw [List.length_map]; exact hi), List.getElem?_map, h]
  rfl
theorem start_at {N : List Str} {vs : List V} {i : Nat} {v : V} (h : vs[i]? = some v) : (L2.start N vs)[i]? = some (some v) := by
  obtain ⟨hi, e⟩ := List.getElem?_eq_some_iff.mp h
  unfold L2.start
  rw [List.getElem?_append_left (by rw [List.length_map]; exact hi), List.getElem?_map, h]
  rfl
section
variable {P : Program} {w : World} {K : PySem.W.Frag} {mg : Str → Option Value} {base : Heap}
/-- a def's body, read by a plain function, keeps the promise -/
theorem dl_body {n : Nat} {N : List Str} {b : DS} {t : TS} {vs : List V} {H : Hp} {Q : VK} {E : XK} (hN : n ≤ N.length) (s : SndS K t b) (h : spD K n (run N.length b) vs H Q E) : t { nx := fun _ H' => Q .non H', rt := Q } (L2.start N vs) H := by
  obtain ⟨F, as, r, outs, hl, pr, hF, hinj, hg, q⟩ := h
  obtain ⟨⟨fl, st'⟩, e1, e⟩ := bs hg
  obtain ⟨o, e2, e⟩ := bs e
  have hl2 : as.length = n := by rw [← Paired.length pr]; exact hl
  have lp : ∀ {i xs}, as[i]? = some (Ar.m xs) → ∃ p ws, lentP vs as i = some p ∧ vs[i]? = some (.ref p) ∧ H p = some (.lst ws) ∧ RpAll K F H ws xs ∧ ¬ F p := fun {i xs} ha => by
    obtain ⟨v, hv, p, ws, rfl, h1, h2, h3⟩ := Paired.at pr ha
    exact ⟨p, ws, by unfold lentP; rw [ha, hv], hv, h1, h2, h3⟩
  have lp' : ∀ {i p}, lentP vs as i = some p → ∃ xs, as[i]? = some (Ar.m xs) := fun {i p} h => by
    unfold lentP at h
    cases ha : as[i]? with
    | none => rw [ha] at h; cases h
    | some a =>
      rw [ha] at h
      cases a with
      | d x => cases h
      | m xs => exact ⟨xs, rfl⟩
  have S : Sim K H (lentP vs as) (startD N.length as) (L2.start N vs) F H := by
    refine ⟨?_, fun i x h => ?_, fun i x h => ?_, fun i x h => ?_, fun i p h => ?_, fun i p h => ?_, fun i j p a b e1 e2 => ?_, hF, fun b u h _ => h⟩
    · unfold L2.start startD
      rw [List.length_append, List.length_append, List.length_map, List.length_map, List.length_replicate, List.length_replicate, Paired.length pr]
    · obtain ⟨a, ha, hs⟩ := startD_get h
      cases a with
      | d y =>
        cases hs
        obtain ⟨v, hv, rv⟩ := Paired.at pr ha
        exact ⟨v, start_at hv, rv⟩
      | m y => cases hs
    · obtain ⟨a, ha, hs⟩ := startD_get h
      cases a <;> cases hs
    · obtain ⟨a, ha, hs⟩ := startD_get h
      cases a with
      | d y => cases hs
      | m y =>
        cases hs
        obtain ⟨p, ws, h1, h2, h3, h4, h5⟩ := lp ha
        exact ⟨p, ws, h1, start_at h2, h3, h4, h5⟩
    · obtain ⟨xs, ha⟩ := lp' h
      exact ⟨xs, startD_at ha⟩
    · obtain ⟨xs, ha⟩ := lp' h
      obtain ⟨p', ws, h1, h2, h3, _⟩ := lp ha
      rw [h] at h1
      cases h1
      rw [h3]
      exact fun z => by cases z
    · have own : ∀ k, IsOwn (startD N.length as) k → (L2.start N vs)[k]? = some (some (.ref p)) → lentP vs as k = some p := fun k ⟨xs, o⟩ e => by
        rcases o with o | o
        · obtain ⟨a, ha, hs⟩ := startD_get o
          cases a <;> cases hs
        · obtain ⟨a, ha, hs⟩ := startD_get o
          cases a with
          | d y => cases hs
          | m y =>
            obtain ⟨p', ws, h1, h2, _⟩ := lp ha
            rw [start_at h2] at e
            cases e
            exact h1
      exact hinj i j p (own i a e1) (own j b e2)
  have post : ∀ {σ' : L2.St} {F' : Addr → Prop} {H' : Hp} {v : V} {r' : Rt}, Sim K H (lentP vs as) st' σ' F' H' → FExt K H F H F' H' → RtOk K H F' H' r' v → r' = r → o = outs → Q v H' := fun {σ' F' H' v r'} S' x' rt e3 e4 => by
    subst e3
    subst e4
    refine q v F' H' x'.sub x'.new S'.frz S'.base (fun i p h => ?_) ⟨st', e2, fun i p h => ?_⟩ x'.fl x'.tup rt
    · obtain ⟨xs, h1⟩ := S'.lentE i p h
      obtain ⟨p', ws, m, _, _, _, nf⟩ := S'.lent i xs h1
      rw [h] at m
      cases m
      exact nf
    · obtain ⟨xs, h1⟩ := S'.lentE i p h
      obtain ⟨p', ws, m, _, h2, h3, _⟩ := S'.lent i xs h1
      rw [h] at m
      cases m
      exact ⟨xs, ws, h1, h2, h3⟩
  refine s H (lentP vs as) (startD N.length as) (L2.start N vs) F H fl st' _ S e1 ?_
  cases fl with
  | nx =>
    cases e
    exact fun σ' F' H' S' x' => post S' x' (r' := .d .none) .non rfl rfl
  | bk => cases e
  | ct => cases e
  | rt r' =>
    cases e
    exact fun v σ' F' H' S' x' rt => post S' x' rt rfl rfl
/-- THE RULE: a def by its body's reading -/
theorem dl_ok {x qual : Str} {st : Stmt} {f : Addr} {fd : FuncData} {N ps : List Str} {k : Nat} {b : DS} (F : Fun K x qual st f fd) (S : FnScope N ps (defScope st)) (hN : ps.length ≤ N.length)
    (hbody : ∀ (cdv : Value) (A : Around) (outer : List Env) (s : Shared) (H : Hp) (E : XK), Room k (A.deeper (envOfC qual (defScope st) s.heap.objs.size f cdv)) → (A.deeper (envOfC qual (defScope st) s.heap.objs.size f cdv)).guards = some [] →
      ∃ t, PSs (cxOf CX0 P w K mg base N qual (defScope st) f cdv A outer s H E).nox (defBody st) t ∧ SndS K t b) : FnG P w K mg base CX0 (k + 1) f fd ps (spD K ps.length (run N.length b)) := by
  obtain ⟨oc, od, kV, doc, pm, an, cdv, ct, osl, rfl, lk, isc⟩ := F.ex
  refine fnG_of lk isc S (fun vs H Q E h => let ⟨_, _, _, _, hl, _⟩ := h; hl) fun A outer s H vs Q E hr gd h => ?_
  obtain ⟨t, h1, h2⟩ := hbody cdv A outer s H E hr gd
  exact ⟨t, h1.nox, dl_body hN h2 h⟩
/-- .. for a def with defaults -/
theorem dl_okD {x qual : Str} {params : Arguments} {body : List Stmt} {scope : Scope} {dvs : List V} {kws : List (Str × V)} {f : Addr} {fd : FuncData} {N ps : List Str} {k : Nat} {b : DS} (F : FunD K x qual params body scope dvs kws f fd) (S : FnScope N ps scope) (hN : ps.length ≤ N.length)
    (hbody : ∀ (cdv : Value) (A : Around) (outer : List Env) (s : Shared) (H : Hp) (E : XK), Room k (A.deeper (envOfC qual scope s.heap.objs.size f cdv)) → (A.deeper (envOfC qual scope s.heap.objs.size f cdv)).guards = some [] →
      ∃ t, PSs (cxOf CX0 P w K mg base N qual scope f cdv A outer s H E).nox body t ∧ SndS K t b) : FnG P w K mg base CX0 (k + 1) f fd ps (spD K ps.length (run N.length b)) := by
  obtain ⟨oc, od, dV, kV, doc, pm, an, cdv, ct, osl, rfl, lk, isc, _, _⟩ := F.ex
  refine fnG_of lk isc S (fun vs H Q E h => let ⟨_, _, _, _, hl, _⟩ := h; hl) fun A outer s H vs Q E hr gd h => ?_
  obtain ⟨t, h1, h2⟩ := hbody cdv A outer s H E hr gd
  exact ⟨t, h1.nox, dl_body hN h2 h⟩
end

/-! ### calls -/
section
variable {K : PySem.W.Frag} {H0 : Hp} {M : Nat → Option Addr} {st st' st2 : DSt} {σ : L2.St} {F F' F2 : Addr → Prop} {H H' H2 H3 Hb Hc : Hp} {v w : V} {r : Rv} {x : PyData}
/-- what the arguments are behind the giving away -/
def AtOk (K : PySem.W.Frag) (F : Addr → Prop) (H : Hp) (σ : L2.St) (v : V) : Sum D Nat → Prop
  | .inl x => Rp K F H v x
  | .inr i => σ[i]? = some (some v)
theorem marsh_ok {sts : DSt} {Fs : Addr → Prop} : ∀ {rs : List Rv} {ms : List Bool} {vs : List V} {as : List (Sum D Nat)} {st st' : DSt} {F : Addr → Prop}, rs.length = ms.length → Sim K H0 M st σ F H → Ext sts σ Fs Hb st F H → RvWs K F H st σ Hb rs vs → marsh st (rs.zip ms) = some (as, st') →
    ∃ F', Sim K H0 M st' σ F' H ∧ Ext sts σ Fs Hb st' F' H ∧ Paired (AtOk K F' H σ) vs as ∧ (∀ a, F a → F' a)
  | [], [], _, as, st, st', F, hl, S, E, .nil, e => by
    cases e
    exact ⟨F, S, E, .nil, fun _ h => h⟩
  | r :: rs, false :: ms, _, as, st, st', F, hl, S, E, .cons h t, e => by
    have e : ((toD st r).bind fun p => (marsh p.2 (rs.zip ms)).bind fun q => some (Sum.inl p.1 :: q.1, q.2)) = some (as, st') := by
      have : (r :: rs).zip (false :: ms) = (r, false) :: rs.zip ms := rfl
      rw [this] at e
      exact e
    obtain ⟨p, e1, e⟩ := bs e
    obtain ⟨q, e2, e⟩ := bs e
    cases e
    obtain ⟨F1, S1, E1, r1, s1, o1, f1⟩ := toD_ok S E h e1
    obtain ⟨F2, S2, E2, r2, s2⟩ := marsh_ok (by simpa using hl) S1 E1 (t.to s1 o1 f1) e2
    exact ⟨F2, S2, E2, .cons (Rp.more s2 r1) r2, fun a z => s2 a (s1 a z)⟩
  | .sl i :: rs, true :: ms, _, as, st, st', F, hl, S, E, .cons h t, e => by
    have e : ((marsh st (rs.zip ms)).bind fun q => some (Sum.inr i :: q.1, q.2)) = some (as, st') := by
      have : (Rv.sl i :: rs).zip (true :: ms) = (Rv.sl i, true) :: rs.zip ms := rfl
      rw [this] at e
      exact e
    obtain ⟨q, e2, e⟩ := bs e
    cases e
    obtain ⟨F2, S2, E2, r2, s2⟩ := marsh_ok (by simpa using hl) S E t e2
    exact ⟨F2, S2, E2, .cons h r2, s2⟩
  | .d x :: rs, true :: ms, _, as, st, st', F, hl, S, E, _, e => by cases e
  | .tmp x :: rs, true :: ms, _, as, st, st', F, hl, S, E, _, e => by cases e
theorem lents_ok (S : Sim K H0 M st σ F H) : ∀ {vs : List V} {as : List (Sum D Nat)} {bs' : List Ar}, Paired (AtOk K F H σ) vs as → lents st as = some bs' →
    Paired (ArOk K F H) vs bs' ∧ ∀ i p, lentP vs bs' i = some p → ∃ j, as[i]? = some (.inr j) ∧ IsOwn st j ∧ σ[j]? = some (some (.ref p))
  | [], [], bs', .nil, e => by
    cases e
    exact ⟨.nil, fun i p h => by unfold lentP at h; simp at h⟩
  | v :: vs, a :: as, bs', .cons h t, e => by
    obtain ⟨x, e1, e⟩ := bs e
    obtain ⟨xs, e2, e⟩ := bs e
    cases e
    obtain ⟨p1, p2⟩ := lents_ok S t e2
    have hx : ArOk K F H v x ∧ ∀ p, (match some x, some v with | some (.m _), some (.ref p) => some p | _, _ => (none : Option Addr)) = some p → ∃ j, a = .inr j ∧ IsOwn st j ∧ σ[j]? = some (some (.ref p)) := by
      cases a with
      | inl y =>
        cases e1
        exact ⟨h, fun p z => by cases z⟩
      | inr j =>
        have h : σ[j]? = some (some v) := h
        have e1 : (match st.getD j none with
          | some (.own xs) => some (Ar.m xs)
          | some (.lent xs) => some (.m xs)
          | _ => none) = some x := e1
        cases g : st.getD j none with
        | none => rw [g] at e1; cases e1
        | some s =>
          rw [g] at e1
          cases s with
          | d y => cases e1
          | own ys =>
            cases e1
            obtain ⟨p, ws, a1, a2, a3, a4, _⟩ := S.own j ys g
            rw [h] at a1
            cases a1
            exact ⟨⟨p, ws, rfl, a2, a3, a4⟩, fun p' z => by cases z; exact ⟨j, rfl, ⟨ys, .inl g⟩, h⟩⟩
          | lent ys =>
            cases e1
            obtain ⟨p, ws, _, a1, a2, a3, a4⟩ := S.lent j ys g
            rw [h] at a1
            cases a1
            exact ⟨⟨p, ws, rfl, a2, a3, a4⟩, fun p' z => by cases z; exact ⟨j, rfl, ⟨ys, .inr g⟩, h⟩⟩
    refine ⟨.cons hx.1 p1, fun i p h => ?_⟩
    cases i with
    | zero =>
      obtain ⟨j, h1, h2, h3⟩ := hx.2 p h
      exact ⟨j, by rw [h1]; rfl, h2, h3⟩
    | succ i =>
      obtain ⟨j, h1, h2, h3⟩ := p2 i p h
      exact ⟨j, by simpa using h1, h2, h3⟩
theorem lentIx_mem : ∀ {as : List (Sum D Nat)} {i j : Nat}, as[i]? = some (.inr j) → j ∈ lentIx as
  | [], i, j, h => by simp at h
  | a :: as, 0, j, h => by
    simp at h
    subst h
    exact List.mem_cons_self
  | a :: as, i + 1, j, h => by
    have := lentIx_mem (as := as) (i := i) (j := j) (by simpa using h)
    cases a with
    | inl x => exact this
    | inr x => exact List.mem_cons_of_mem _ this
theorem lentIx_one : ∀ {as : List (Sum D Nat)} {i i' j j' : Nat}, (lentIx as).length ≤ 1 → as[i]? = some (.inr j) → as[i']? = some (.inr j') → i = i'
  | [], i, i', j, j', _, h, _ => by simp at h
  | a :: as, 0, 0, j, j', _, _, _ => rfl
  | a :: as, 0, i' + 1, j, j', hl, h, h' => by
    simp at h
    subst h
    have := lentIx_mem (as := as) (i := i') (j := j') (by simpa using h')
    have hl : (lentIx as).length + 1 ≤ 1 := hl
    cases q : lentIx as with
    | nil => rw [q] at this; simp at this
    | cons c d => rw [q] at hl; simp at hl
  | a :: as, i + 1, 0, j, j', hl, h', h => by
    simp at h
    subst h
    have := lentIx_mem (as := as) (i := i) (j := j) (by simpa using h')
    have hl : (lentIx as).length + 1 ≤ 1 := hl
    cases q : lentIx as with
    | nil => rw [q] at this; simp at this
    | cons c d => rw [q] at hl; simp at hl
  | a :: as, i + 1, i' + 1, j, j', hl, h, h' => by
    have hl2 : (lentIx as).length ≤ 1 := by
      cases a with
      | inl x => exact hl
      | inr x =>
        have hl : (lentIx as).length + 1 ≤ 1 := hl
        omega
    exact congrArg (· + 1) (lentIx_one hl2 (by simpa using h) (by simpa using h'))
/-- what outsGo gathers, and putBack lays down, of one lent list -/
theorem outs_one : ∀ {as : List Ar} {k i : Nat} {s : DSt} {outs : List (List D)} {xs ys : List D}, outsGo s as k = some outs → as[i]? = some (Ar.m xs) → (∀ j zs, as[j]? = some (.m zs) → j = i) → s.getD (k + i) none = some (.lent ys) → outs = [ys]
  | [], k, i, s, outs, xs, ys, e, h, u, g => by simp at h
  | .d x :: as, k, 0, s, outs, xs, ys, e, h, u, g => by simp at h
  | .d x :: as, k, i + 1, s, outs, xs, ys, e, h, u, g => outs_one (as := as) (k := k + 1) (i := i) e (by simpa using h) (fun j zs hj => by have := u (j + 1) zs (by simpa using hj); omega) (by rw [show k + 1 + i = k + (i + 1) by omega]; exact g)
  | .m x :: as, k, i + 1, s, outs, xs, ys, e, h, u, g => by
    have := u 0 x rfl
    omega
  | .m x :: as, k, 0, s, outs, xs, ys, e, h, u, g => by
    have e : (match s.getD k none with
      | some (.lent xs) => (outsGo s as (k + 1)).bind fun o => some (xs :: o)
      | _ => none) = some outs := e
    rw [show s.getD k none = some (.lent ys) from g] at e
    obtain ⟨o, e1, e2⟩ := bs e
    cases e2
    have : o = [] := by
      have non : ∀ (as : List Ar) (k : Nat) (o : List (List D)), (∀ (j : Nat) (zs : List D), as[j]? ≠ some (Ar.m zs)) → outsGo s as k = some o → o = [] := by
        intro as
        induction as with
        | nil => intro k o _ e; cases e; rfl
        | cons a as ih =>
          intro k o n e
          cases a with
          | d x => exact ih (k + 1) o (fun j zs h => n (j + 1) zs (by simpa using h)) e
          | m x => exact absurd rfl (n 0 x)
      exact non as (k + 1) o (fun j zs h => by have := u (j + 1) zs (by simpa using h); omega) e1
    rw [this]
theorem lents_len : ∀ {as : List (Sum D Nat)} {bs' : List Ar} {i : Nat} {xs : List D}, lents st as = some bs' → bs'[i]? = some (Ar.m xs) → ∃ j, as[i]? = some (.inr j)
  | [], bs', i, xs, e, h => by cases e; simp at h
  | a :: as, bs', i, xs, e, h => by
    obtain ⟨x, e1, e⟩ := bs e
    obtain ⟨ys, e2, e⟩ := bs e
    cases e
    cases i with
    | zero =>
      simp at h
      subst h
      cases a with
      | inl y => cases e1
      | inr j => exact ⟨j, rfl⟩
    | succ i =>
      obtain ⟨j, q⟩ := lents_len e2 (by simpa using h)
      exact ⟨j, by simpa using q⟩
/-- the state behind a call -/
theorem after_call {sts : DSt} {Fs : Addr → Prop} {vs : List V} {as : List (Sum D Nat)} {bs' : List Ar} {perm : List Nat} {dvs : List V} {more : List D} {outs : List (List D)} {rt : Rt}
    (S : Sim K H0 M st σ F H) (E : Ext sts σ Fs Hb st F H) (pa : Paired (AtOk K F H σ) vs as) (le : lents st as = some bs') (one : (lentIx as).length ≤ 1) (pb : putBack st (lentIx as) outs = some st')
    {vs2 : List V} {as2 : List Ar}
    (hl : ∀ i p, lentP vs2 as2 i = some p → ∃ j, lentIx as = [j] ∧ IsOwn st j ∧ σ[j]? = some (some (.ref p)) ∧ ∃ xs, as2[i]? = some (Ar.m xs))
    (hm : ∀ (i : Nat) (xs : List D), as2[i]? = some (Ar.m xs) → ∃ p, lentP vs2 as2 i = some p) (hu : ∀ (i j : Nat) (xs ys : List D), as2[i]? = some (Ar.m xs) → as2[j]? = some (Ar.m ys) → i = j) (hx : ∀ j, lentIx as = [j] → ∃ (i : Nat) (xs : List D), as2[i]? = some (Ar.m xs))
    (f1 : ∀ a, F a → F' a) (f2 : ∀ a, F' a → F a ∨ H a = none) (f3 : ∀ a, F' a → ∃ xs, H' a = some (.lst xs)) (f4 : ∀ b u, H b = some u → (∀ i, lentP vs2 as2 i ≠ some b) → H' b = some u)
    (f5 : ∀ i p, lentP vs2 as2 i = some p → ¬ F' p) (f6 : ∃ so, outsGo so as2 0 = some outs ∧ ∀ i p, lentP vs2 as2 i = some p → ∃ xs ws, so.getD i none = some (.lent xs) ∧ H' p = some (.lst ws) ∧ RpAll K F' H' ws xs)
    (f7 : ∀ a xs, FL K F H a xs → FL K F' H' a xs) (f8 : ∀ a xs, STD K H a xs → STD K H' a xs) (f9 : RtOk K H F' H' rt v) :
    Sim K H0 M st' σ F' H' ∧ Ext sts σ Fs Hb st' F' H' ∧ RvOk K F' H' st' σ Hb (rvOf rt) v := by
  have rp : ∀ {v : V} {x : PyData}, Rp K F H v x → Rp K F' H' v x := fun r => r.mono f7 f8
  have rpA : ∀ {v : List V} {x : List PyData}, RpAll K F H v x → RpAll K F' H' v x := fun r => r.mono f7 f8
  have nF : ∀ {p}, (∃ u, H p = some u) → ¬ F p → ¬ F' p := fun ⟨u, h⟩ n z => by
    rcases f2 _ z with z | z
    · exact n z
    · rw [h] at z; cases z
  have lentOwn : ∀ i p, lentP vs2 as2 i = some p → OwnAt st σ p := fun i p h => let ⟨j, _, h2, h3, _⟩ := hl i p h; ⟨j, h2, h3⟩
  -- st' by its slots
  have desc : (∀ j, j ∉ lentIx as → st'.getD j none = st.getD j none) ∧ st'.length = st.length ∧
      (∀ j, lentIx as = [j] → ∃ i p xs ws, lentP vs2 as2 i = some p ∧ σ[j]? = some (some (.ref p)) ∧ H' p = some (.lst ws) ∧ RpAll K F' H' ws xs ∧ ((∃ ys, st.getD j none = some (.own ys) ∧ st'.getD j none = some (.own xs)) ∨ (∃ ys, st.getD j none = some (.lent ys) ∧ st'.getD j none = some (.lent xs)))) := by
    obtain ⟨so, o1, o2⟩ := f6
    cases q : lentIx as with
    | nil =>
      rw [q] at pb
      have : outs = [] := by
        cases outs with
        | nil => rfl
        | cons a b => cases pb
      rw [this] at pb
      cases pb
      exact ⟨fun _ _ => rfl, rfl, fun j z => by cases z⟩
    | cons j rest =>
      have hr : rest = [] := by
        rw [q] at one
        cases rest with
        | nil => rfl
        | cons a b => simp at one
      subst hr
      obtain ⟨i, xs0, hi⟩ := hx j q
      obtain ⟨p, hp⟩ := hm i xs0 hi
      obtain ⟨xs, ws, g1, g2, g3⟩ := o2 i p hp
      have ho : outs = [xs] := outs_one o1 hi (fun j' zs h => hu j' i zs xs0 h hi) (by rw [Nat.zero_add]; exact g1)
      subst ho
      rw [q] at pb
      obtain ⟨j2, q2, own2, σ2, _⟩ := hl i p hp
      rw [q] at q2
      cases q2
      have pb : (match st.getD j none with
        | some (.own _) => putBack (st.set j (some (.own xs))) [] []
        | some (.lent _) => putBack (st.set j (some (.lent xs))) [] []
        | _ => none) = some st' := pb
      have hj : j < st.length := by
        obtain ⟨ys, h | h⟩ := own2
        · exact getD_lt h
        · exact getD_lt h
      cases g : st.getD j none with
      | none => rw [g] at pb; cases pb
      | some s =>
        rw [g] at pb
        cases s with
        | d y => cases pb
        | own ys =>
          cases pb
          refine ⟨fun k hk => by rw [getD_set hj, if_neg fun z => hk (by simp [z])], List.length_set, fun k hk => ?_⟩
          cases hk
          exact ⟨i, p, xs, ws, hp, σ2, g2, g3, .inl ⟨ys, g, by rw [getD_set hj, if_pos rfl]⟩⟩
        | lent ys =>
          cases pb
          refine ⟨fun k hk => by rw [getD_set hj, if_neg fun z => hk (by simp [z])], List.length_set, fun k hk => ?_⟩
          cases hk
          exact ⟨i, p, xs, ws, hp, σ2, g2, g3, .inr ⟨ys, g, by rw [getD_set hj, if_pos rfl]⟩⟩
  obtain ⟨d1, d2, d3⟩ := desc
  have isj : ∀ {j}, j ∈ lentIx as → lentIx as = [j] := fun {j} h => by
    cases q : lentIx as with
    | nil => rw [q] at h; simp at h
    | cons a b =>
      rw [q] at one h
      cases b with
      | nil => simp at h; rw [h]
      | cons c d => simp at one
  have own : ∀ j, IsOwn st' j → IsOwn st j := fun j h => by
    by_cases c : j ∈ lentIx as
    · obtain ⟨i, p, xs, ws, _, _, _, _, h1 | h1⟩ := d3 j (isj c)
      · obtain ⟨ys, h1, _⟩ := h1; exact ⟨ys, .inl h1⟩
      · obtain ⟨ys, h1, _⟩ := h1; exact ⟨ys, .inr h1⟩
    · obtain ⟨xs, h⟩ := h
      rw [d1 j c] at h
      exact ⟨xs, h⟩
  have notLent : ∀ {j p}, j ∉ lentIx as → IsOwn st j → σ[j]? = some (some (.ref p)) → ∀ i, lentP vs2 as2 i ≠ some p := fun {j p} hj oj ej i z => by
    obtain ⟨j2, q2, own2, σ2, _⟩ := hl i p z
    have := S.inj j j2 p oj own2 ej σ2
    subst this
    exact hj (by rw [q2]; simp)
  have S' : Sim K H0 M st' σ F' H' := by
    refine ⟨S.len.trans d2.symm, fun j x h => ?_, fun j x h => ?_, fun j x h => ?_, fun j p m => ?_, S.lent0, fun j k p a b => S.inj j k p (own j a) (own k b), f3, fun b u h n => ?_⟩
    · by_cases c : j ∈ lentIx as
      · obtain ⟨i, p, xs, ws, _, _, _, _, h1 | h1⟩ := d3 j (isj c)
        · obtain ⟨ys, _, h1⟩ := h1; rw [h] at h1; cases h1
        · obtain ⟨ys, _, h1⟩ := h1; rw [h] at h1; cases h1
      · rw [d1 j c] at h
        obtain ⟨v, a, b⟩ := S.dat j x h
        exact ⟨v, a, rp b⟩
    · by_cases c : j ∈ lentIx as
      · obtain ⟨i, p, xs, ws, lp, σj, hp, rr, h1 | h1⟩ := d3 j (isj c)
        · obtain ⟨ys, g, h1⟩ := h1
          rw [h] at h1
          cases h1
          obtain ⟨p', _, e1, _, _, _, h0⟩ := S.own j ys g
          rw [σj] at e1
          cases e1
          exact ⟨p, ws, σj, hp, rr, f5 i p lp, h0⟩
        · obtain ⟨ys, _, h1⟩ := h1; rw [h] at h1; cases h1
      · rw [d1 j c] at h
        obtain ⟨p, ws, a, b, cc, dd, ee⟩ := S.own j x h
        exact ⟨p, ws, a, f4 _ _ b (notLent c ⟨x, .inl h⟩ a), rpA cc, nF ⟨_, b⟩ dd, ee⟩
    · by_cases c : j ∈ lentIx as
      · obtain ⟨i, p, xs, ws, lp, σj, hp, rr, h1 | h1⟩ := d3 j (isj c)
        · obtain ⟨ys, _, h1⟩ := h1; rw [h] at h1; cases h1
        · obtain ⟨ys, g, h1⟩ := h1
          rw [h] at h1
          cases h1
          obtain ⟨p', _, m, e1, _⟩ := S.lent j ys g
          rw [σj] at e1
          cases e1
          exact ⟨p, ws, m, σj, hp, rr, f5 i p lp⟩
      · rw [d1 j c] at h
        obtain ⟨p, ws, m, a, b, cc, dd⟩ := S.lent j x h
        exact ⟨p, ws, m, a, f4 _ _ b (notLent c ⟨x, .inr h⟩ a), rpA cc, nF ⟨_, b⟩ dd⟩
    · obtain ⟨ys, h⟩ := S.lentE j p m
      by_cases c : j ∈ lentIx as
      · obtain ⟨i, p', xs, ws, lp, σj, hp, rr, h1 | h1⟩ := d3 j (isj c)
        · obtain ⟨zs, g, _⟩ := h1; rw [h] at g; cases g
        · obtain ⟨zs, _, h1⟩ := h1; exact ⟨xs, h1⟩
      · exact ⟨ys, by rw [d1 j c]; exact h⟩
    · refine f4 _ _ (S.base b u h n) fun i z => ?_
      obtain ⟨j, _, ⟨ys, g | g⟩, σj, _⟩ := hl i b z
      · obtain ⟨p', _, e1, _, _, _, h0⟩ := S.own j ys g
        rw [σj] at e1
        cases e1
        rw [h] at h0
        cases h0
      · obtain ⟨p', _, m, e1, _⟩ := S.lent j ys g
        rw [σj] at e1
        cases e1
        exact n j m
  have E' : Ext st σ F H st' F' H' := by
    refine ⟨f1, fun a h => ?_, fun b u h n => f4 b u h fun i z => n (lentOwn i b z), fun b h => ?_, own⟩
    · rcases f2 a h with z | z
      · exact .inl z
      · exact .inr (.inl z)
    · cases q : H b with
      | none => exact absurd q h
      | some u =>
        by_cases c : ∃ i, lentP vs2 as2 i = some b
        · obtain ⟨i, c⟩ := c
          obtain ⟨so, _, o2⟩ := f6
          obtain ⟨_, ws, _, g, _⟩ := o2 i b c
          rw [g]
          exact fun z => by cases z
        · rw [f4 b u q fun i z => c ⟨i, z⟩]
          exact fun z => by cases z
  refine ⟨S', E.trans E', ?_⟩
  cases rt with
  | d x => exact f9
  | own xs =>
    obtain ⟨p, ws, e1, e2, e3, e4, e5⟩ := f9
    refine ⟨p, ws, e1, e2, e3, e4, fun z => ?_, Classical.byContradiction fun z => E.live p z e5⟩
    obtain ⟨⟨ys, h⟩, _⟩ := S.atOwn (z.imp own)
    rw [e5] at h
    cases h
end
end DL
end

section
set_option Elab.async false
set_option linter.all false
set_option maxRecDepth 100000
set_option maxHeartbeats 1000000
/-! DLsnd6: the calls' readings; walked things; what the operators and built-ins ask. -/
namespace DL
open PySem PySem.Spec PyProof.Rows L2
section
variable {K : PySem.W.Frag} {H0 : Hp} {M : Nat → Option Addr} {st st' st2 : DSt} {σ : L2.St} {F F' F2 : Addr → Prop} {H H' H2 H3 Hb Hc : Hp} {v w : V} {r : Rv} {x : PyData}
theorem RvWs.length : ∀ {rs : List Rv} {vs : List V}, RvWs K F H st σ Hb rs vs → rs.length = vs.length
  | _, _, .nil => rfl
  | _, _, .cons _ t => congrArg (· + 1) (RvWs.length t)
theorem RvWs.app : ∀ {rs ss : List Rv} {vs ws : List V}, RvWs K F H st σ Hb rs vs → RvWs K F H st σ Hb ss ws → RvWs K F H st σ Hb (rs ++ ss) (vs ++ ws)
  | _, _, _, _, .nil, h => h
  | _, _, _, _, .cons a t, h => .cons a (RvWs.app t h)
theorem paired_app {α β : Type} {R : α → β → Prop} : ∀ {a b : List α} {c d : List β}, Paired R a c → Paired R b d → Paired R (a ++ b) (c ++ d)
  | _, _, _, _, .nil, h => h
  | _, _, _, _, .cons x y, h => .cons x (paired_app y h)
theorem arD : ∀ {vs : List V} {xs : List PyData}, RpAll K F H vs xs → Paired (ArOk K F H) vs (xs.map Ar.d)
  | _, _, .nil => .nil
  | _, _, .cons a b => .cons a (arD b)
theorem lentP_app {vs dvs : List V} {as : List Ar} {more : List PyData} (hl : vs.length = as.length) {i : Nat} {p : Addr} (h : lentP (vs ++ dvs) (as ++ more.map Ar.d) i = some p) : lentP vs as i = some p := by
  by_cases hi : i < as.length
  · unfold lentP at h ⊢
    rw [List.getElem?_append_left hi, List.getElem?_append_left (by omega)] at h
    exact h
  · unfold lentP at h
    rw [List.getElem?_append_right (by omega), List.getElem?_map] at h
    cases q : more[i - as.length]? with
    | none => rw [q] at h; cases h
    | some y => rw [q] at h; cases h
theorem mAt_app {as : List Ar} {more : List PyData} {i : Nat} {xs : List PyData} (h : (as ++ more.map Ar.d)[i]? = some (Ar.m xs)) : as[i]? = some (Ar.m xs) := by
  by_cases hi : i < as.length
  · rw [List.getElem?_append_left hi] at h
    exact h
  · rw [List.getElem?_append_right (by omega), List.getElem?_map] at h
    cases q : more[i - as.length]? with
    | none => rw [q] at h; cases h
    | some y => rw [q] at h; cases h
theorem constD {dvs : List V} {more : List PyData} (hd : ∀ (F : Addr → Prop) (H : Hp), RpAll K F H dvs more) : more.length = dvs.length := ((hd (fun _ => False) (fun _ => none)).length).symm
/-- f(e, ..) -/
theorem snd_call {g : Fn} {n : Nat} {modes : List Bool} {dvs : List V} {more : List PyData} {E : XK} {t : TA} {f : DA} (hd : ∀ (F : Addr → Prop) (H : Hp), RpAll K F H dvs more) (hn : modes.length + more.length = n) (a : SndA K t f) : SndE K (tCall (spD K n g) dvs E t) (dCall g modes more f) := by
  intro H0 M st σ F H r st' Q S e q
  obtain ⟨⟨rs, s1⟩, e1, e⟩ := bs e
  obtain ⟨⟨as, s2⟩, e2, e⟩ := bs e
  refine a H0 M st σ F H rs s1 _ S e1 fun vs F1 H1 S1 E1 f1 r1 => ?_
  by_cases c : (lentIx as).length ≤ 1 ∧ rs.length = modes.length
  · rw [if_pos c] at e
    obtain ⟨one, hlen⟩ := c
    obtain ⟨bs', e3, e⟩ := bs e
    obtain ⟨⟨rt, outs⟩, e4, e⟩ := bs e
    obtain ⟨s3, e5, e⟩ := bs e
    cases e
    obtain ⟨F2, S2, E2, pa, sub2⟩ := marsh_ok hlen S1 E1 r1 e2
    obtain ⟨pb1, pb2⟩ := lents_ok S2 pa e3
    have lb : vs.length = bs'.length := Paired.length pb1
    have lv : vs.length = modes.length := by rw [← r1.length, hlen]
    have pat : ∀ i p, lentP (vs ++ dvs) (bs' ++ more.map Ar.d) i = some p → ∃ j, lentIx as = [j] ∧ IsOwn s2 j ∧ σ[j]? = some (some (.ref p)) ∧ ∃ xs, (bs' ++ more.map Ar.d)[i]? = some (Ar.m xs) := fun i p h => by
      have h' := lentP_app lb h
      obtain ⟨j, h1, h2, h3⟩ := pb2 i p h'
      refine ⟨j, ?_, h2, h3, ?_⟩
      · have := lentIx_mem h1
        cases q : lentIx as with
        | nil => rw [q] at this; simp at this
        | cons a b =>
          rw [q] at one this
          cases b with
          | nil => simp at this; rw [this]
          | cons c d => simp at one
      · unfold lentP at h
        cases z : (bs' ++ more.map Ar.d)[i]? with
        | none => rw [z] at h; cases h
        | some y =>
          rw [z] at h
          cases y with
          | d y => cases h
          | m y => exact ⟨y, rfl⟩
    have mat : ∀ (i : Nat) (xs : List PyData), (bs' ++ more.map Ar.d)[i]? = some (Ar.m xs) → ∃ p, lentP (vs ++ dvs) (bs' ++ more.map Ar.d) i = some p := fun i xs h => by
      have h' := mAt_app h
      obtain ⟨v, hv, p, ws, rfl, _⟩ := Paired.at pb1 h'
      refine ⟨p, ?_⟩
      unfold lentP
      obtain ⟨hi, _⟩ := List.getElem?_eq_some_iff.mp hv
      rw [h, List.getElem?_append_left hi, hv]
    have uniq : ∀ (i j : Nat) (xs ys : List PyData), (bs' ++ more.map Ar.d)[i]? = some (Ar.m xs) → (bs' ++ more.map Ar.d)[j]? = some (Ar.m ys) → i = j := fun i j xs ys h h' => by
      obtain ⟨k, hk⟩ := lents_len e3 (mAt_app h)
      obtain ⟨l, hl⟩ := lents_len e3 (mAt_app h')
      exact lentIx_one one hk hl
    have ex : ∀ j, lentIx as = [j] → ∃ (i : Nat) (xs : List PyData), (bs' ++ more.map Ar.d)[i]? = some (Ar.m xs) := fun j hj => by
      have find : ∀ (as : List (Sum PyData Nat)) (bs' : List Ar) (j : Nat), j ∈ lentIx as → lents s2 as = some bs' → ∃ (i : Nat) (xs : List PyData), bs'[i]? = some (Ar.m xs) := by
        intro as
        induction as with
        | nil => intro bs' j h _; simp [lentIx] at h
        | cons a as ih =>
          intro bs' j h e
          obtain ⟨x, e1, e⟩ := bs e
          obtain ⟨ys, e2, e⟩ := bs e
          cases e
          cases a with
          | inl y =>
            obtain ⟨i, xs, h1⟩ := ih ys j h e2
            exact ⟨i + 1, xs, by simpa using h1⟩
          | inr k =>
            have e1 : (match s2.getD k none with
              | some (.own xs) => some (Ar.m xs)
              | some (.lent xs) => some (.m xs)
              | _ => none) = some x := e1
            cases g : s2.getD k none with
            | none => rw [g] at e1; cases e1
            | some s =>
              rw [g] at e1
              cases s with
              | d y => cases e1
              | own ys => cases e1; exact ⟨0, ys, rfl⟩
              | lent ys => cases e1; exact ⟨0, ys, rfl⟩
      obtain ⟨i, xs, h⟩ := find as bs' j (by rw [hj]; simp) e3
      obtain ⟨hi, _⟩ := List.getElem?_eq_some_iff.mp h
      exact ⟨i, xs, by rw [List.getElem?_append_left hi]; exact h⟩
    refine ⟨F2, bs' ++ more.map Ar.d, rt, outs, ?_, paired_app pb1 (arD (hd F2 H1)), S2.frz, fun i j p h h' => ?_, e4, fun v F' H' g1 g2 g3 g4 g5 g6 g7 g8 g9 => ?_⟩
    · rw [List.length_append, lv, ← constD hd]
      exact hn
    · obtain ⟨_, _, _, _, xs, h1⟩ := pat i p h
      obtain ⟨_, _, _, _, ys, h2⟩ := pat j p h'
      exact uniq i j xs ys h1 h2
    · obtain ⟨S3, E3, R3⟩ := after_call (perm := []) (dvs := []) (more := []) S2 E2 pa e3 one e5 pat mat uniq ex g1 g2 g3 g4 g5 g6 g7 g8 g9
      exact q v F' H' S3 E3 trivial R3
  · rw [if_neg c] at e
    cases e

/-! ### calls with names -/
theorem RpAll.permute {vs : List V} {xs : List PyData} (h : RpAll K F H vs xs) : ∀ perm : List Nat, RpAll K F H (DL.permute perm vs) (DL.permute perm xs)
  | [] => .nil
  | k :: perm => by
    rw [permute_cons, permute_cons]
    cases q : xs[k]? with
    | none =>
      have : vs[k]? = none := by
        rw [List.getElem?_eq_none_iff] at q ⊢
        rw [h.length]
        exact q
      rw [this]
      exact h.permute perm
    | some x =>
      obtain ⟨v, e, r⟩ := h.get q
      rw [e]
      exact .cons r (h.permute perm)
end
section
variable {K : PySem.W.Frag} {H0 : Hp} {M : Nat → Option Addr} {st st' st2 : DSt} {σ : L2.St} {F F' F2 : Addr → Prop} {H H' H2 H3 Hb Hc : Hp} {v w : V} {r : Rv} {x : PyData}
theorem lentP_d {vs : List V} {xs : List PyData} {i : Nat} : lentP vs (xs.map Ar.d) i = none := by
  unfold lentP
  rw [List.getElem?_map]
  cases q : xs[i]? with
  | none => rfl
  | some y => rfl
theorem snd_callP {g : Fn} {n m l : Nat} {perm : List Nat} {dvs : List V} {more : List PyData} {E : XK} {t tk : TA} {f f2 : DA} (hd : ∀ (F : Addr → Prop) (H : Hp), RpAll K F H dvs more) (hl : (permute perm (List.replicate (n + m + more.length) ())).length = l) (a : SndA K t f) (b : SndA K tk f2) :
    SndE K (tCallP n m perm dvs (spD K l g) E t tk) (dCallK g n m perm more f f2) := by
  intro H0 M st σ F H r st' Q S e q
  obtain ⟨⟨rs, s1⟩, e1, e⟩ := bs e
  obtain ⟨⟨rs2, s2⟩, e2, e⟩ := bs e
  obtain ⟨⟨xs, s3⟩, e3, e⟩ := bs e
  refine a H0 M st σ F H rs s1 _ S e1 fun vs F1 H1 S1 E1 f1 r1 => ?_
  refine b H0 M s1 σ F1 H1 rs2 s2 _ S1 e2 fun zs F2 H2 S2 E2 f2 r2 => ?_
  by_cases c : rs.length = n ∧ rs2.length = m
  · rw [if_pos c] at e
    obtain ⟨⟨rt, outs⟩, e4, e⟩ := bs e
    cases e
    obtain ⟨F3, S3, E3, rr, _⟩ := toDs_ok S2 (E1.trans E2) ((r1.ext S1 E2 trivial).app (r2.birth E1.live)) e3
    have l1 : vs.length = n := by rw [← r1.length]; exact c.1
    have l2 : zs.length = m := by rw [← r2.length]; exact c.2
    have pr : RpAll K F3 H2 (permute perm (vs ++ zs ++ dvs)) (permute perm (xs ++ more)) := (rr.append (hd F3 H2)).permute perm
    refine ⟨l1, l2, F3, (permute perm (xs ++ more)).map Ar.d, rt, outs, ?_, arD pr, S3.frz, fun i j p h _ => ?_, e4, fun v F' H' g1 g2 g3 g4 g5 g6 g7 g8 g9 => ?_⟩
    · have : ∀ {α β : Type} (perm : List Nat) (a : List α) (b : List β), a.length = b.length → (permute perm a).length = (permute perm b).length := by
        intro α β perm a b h
        induction perm with
        | nil => rfl
        | cons k perm ih =>
          rw [permute_cons, permute_cons]
          by_cases hk : k < a.length
          · rw [List.getElem?_eq_getElem hk, List.getElem?_eq_getElem (by omega)]
            exact congrArg (· + 1) ih
          · rw [List.getElem?_eq_none (by omega), List.getElem?_eq_none (by omega)]
            exact ih
      rw [this perm (vs ++ zs ++ dvs) (List.replicate (n + m + more.length) ()) (by rw [List.length_append, List.length_append, List.length_replicate, l1, l2, constD hd])]
      exact hl
    · rw [lentP_d] at h
      cases h
    · obtain ⟨so, o1, o2⟩ := g6
      have ho : outs = [] := by
        have non : ∀ (ys : List PyData) (k : Nat) (o : List (List PyData)), outsGo so (ys.map Ar.d) k = some o → o = [] := by
          intro ys
          induction ys with
          | nil => intro k o e; cases e; rfl
          | cons a ys ih => intro k o e; exact ih (k + 1) o e
        exact non _ _ _ o1
      subst ho
      obtain ⟨S4, E4, R4⟩ := after_call (perm := []) (dvs := []) (more := []) (vs := []) (as := []) (bs' := []) (outs := []) (st' := s3) S3 E3 .nil rfl (Nat.zero_le _) rfl
        (fun i p h => by rw [lentP_d] at h; cases h) (fun i ys h => by rw [List.getElem?_map] at h; cases z : (permute perm (xs ++ more))[i]? <;> rw [z] at h <;> cases h) (fun i j ys zs h => by rw [List.getElem?_map] at h; cases z : (permute perm (xs ++ more))[i]? <;> rw [z] at h <;> cases h)
        (fun j h => by cases h) g1 g2 g3 g4 g5 ⟨so, o1, o2⟩ g7 g8 g9
      exact q v F' H' S4 E4 trivial R4
  · rw [if_neg c] at e
    cases e
end

/-! ### walked things -/
section
variable {K : PySem.W.Frag} {F1 : Addr → Prop} {H1 : Hp} {a b : Addr} {vs ws : List V} {xs ys : List PyData}
theorem wd_list (h : FL K F1 H1 a vs) (r : RpAll K F1 H1 vs xs) : WalkD K (Itl K a) xs F1 H1 where
  goes := fun i H hi g => by
    obtain ⟨d, e⟩ : ∃ d, xs[i]? = some d := ⟨xs[i], List.getElem?_eq_getElem hi⟩
    obtain ⟨v, e1, _⟩ := r.get e
    exact ⟨vs, v, g.1 _ _ h, e1⟩
  stops := fun H g => ⟨vs, g.1 _ _ h, by rw [r.length]; exact Nat.le_refl _⟩
  yields := fun i H x H' F hi g mono y => by
    obtain ⟨e, y⟩ := y
    subst e
    have := y vs (g.1 _ _ h)
    obtain ⟨d, e1, r1⟩ := r.got this
    exact ⟨fun _ _ z => z, d, e1, mono _ _ r1⟩
theorem wd_tup (h : SqT K H1 a vs) (r : RpAll K F1 H1 vs xs) : WalkD K (Itt K a) xs F1 H1 where
  goes := fun i H hi g => by
    obtain ⟨d, e⟩ : ∃ d, xs[i]? = some d := ⟨xs[i], List.getElem?_eq_getElem hi⟩
    obtain ⟨v, e1, _⟩ := r.get e
    exact ⟨vs, v, g.2 _ (some _) h, e1⟩
  stops := fun H g => ⟨vs, g.2 _ (some _) h, by rw [r.length]; exact Nat.le_refl _⟩
  yields := fun i H x H' F hi g mono y => by
    obtain ⟨e, y⟩ := y
    subst e
    have := y vs (g.2 _ (some _) h)
    obtain ⟨d, e1, r1⟩ := r.got this
    exact ⟨fun _ _ z => z, d, e1, mono _ _ r1⟩
theorem wd_range {lo : Int} {n : Nat} : WalkD K (Itr lo n) ((List.range n).map fun i => PyData.int (lo + (i : Nat))) F1 H1 where
  goes := fun i H hi g => by
    rw [List.length_map, List.length_range] at hi
    exact hi
  stops := fun H g => by
    rw [List.length_map, List.length_range]
    exact Nat.le_refl _
  yields := fun i H x H' F hi g mono y => by
    rw [List.length_map, List.length_range] at hi
    obtain ⟨e, y⟩ := y
    subst e
    subst y
    exact ⟨fun _ _ z => z, _, by rw [List.getElem?_map, List.getElem?_range hi]; rfl, .int _⟩
theorem wd_zip (h : FL K F1 H1 a vs) (r : RpAll K F1 H1 vs xs) (h2 : FL K F1 H1 b ws) (r2 : RpAll K F1 H1 ws ys) : WalkD K (Itz K a b) ((xs.zip ys).map fun p => PyData.tuple [p.1, p.2]) F1 H1 where
  goes := fun i H hi g => by
    rw [List.length_map, List.length_zip] at hi
    obtain ⟨v, e1, _⟩ := r.get (List.getElem?_eq_getElem (show i < xs.length by omega))
    obtain ⟨w, e2, _⟩ := r2.get (List.getElem?_eq_getElem (show i < ys.length by omega))
    exact ⟨vs, ws, v, w, g.1 _ _ h, g.1 _ _ h2, e1, e2⟩
  stops := fun H g => by
    rw [List.length_map, List.length_zip]
    refine ⟨vs, ws, g.1 _ _ h, g.1 _ _ h2, ?_⟩
    rw [r.length, r2.length]
    omega
  yields := fun i H x H' F hi g mono y => by
    rw [List.length_map, List.length_zip] at hi
    obtain ⟨T, v, w, h3, h4, h5, h6, h7⟩ := y
    subst h3 h5
    obtain ⟨d, e1, q1⟩ := r.got (h6 _ (g.1 _ _ h))
    obtain ⟨d2, e2, q2⟩ := r2.got (h7 _ (g.1 _ _ h2))
    refine ⟨same_upd h4, .tuple [d, d2], ?_, .tup (SqT.of upd_same) (.cons ((mono _ _ q1).grow (same_upd h4)) (.cons ((mono _ _ q2).grow (same_upd h4)) .nil))⟩
    rw [List.getElem?_map, show (xs.zip ys)[i]? = some (d, d2) from List.getElem?_zip_eq_some.mpr ⟨e1, e2⟩]
    rfl
theorem wd_zipT (h : SqT K H1 a vs) (r : RpAll K F1 H1 vs xs) (h2 : SqT K H1 b ws) (r2 : RpAll K F1 H1 ws ys) : WalkD K (RZ.ItzT K a b) ((xs.zip ys).map fun p => PyData.tuple [p.1, p.2]) F1 H1 where
  goes := fun i H hi g => by
    rw [List.length_map, List.length_zip] at hi
    obtain ⟨v, e1, _⟩ := r.get (List.getElem?_eq_getElem (show i < xs.length by omega))
    obtain ⟨w, e2, _⟩ := r2.get (List.getElem?_eq_getElem (show i < ys.length by omega))
    exact ⟨vs, ws, v, w, g.2 _ (some _) h, g.2 _ (some _) h2, e1, e2⟩
  stops := fun H g => by
    rw [List.length_map, List.length_zip]
    refine ⟨vs, ws, g.2 _ (some _) h, g.2 _ (some _) h2, ?_⟩
    rw [r.length, r2.length]
    omega
  yields := fun i H x H' F hi g mono y => by
    rw [List.length_map, List.length_zip] at hi
    obtain ⟨T, v, w, h3, h4, h5, h6, h7⟩ := y
    subst h3 h5
    obtain ⟨d, e1, q1⟩ := r.got (h6 _ (g.2 _ (some _) h))
    obtain ⟨d2, e2, q2⟩ := r2.got (h7 _ (g.2 _ (some _) h2))
    refine ⟨same_upd h4, .tuple [d, d2], ?_, .tup (SqT.of upd_same) (.cons ((mono _ _ q1).grow (same_upd h4)) (.cons ((mono _ _ q2).grow (same_upd h4)) .nil))⟩
    rw [List.getElem?_map, show (xs.zip ys)[i]? = some (d, d2) from List.getElem?_zip_eq_some.mpr ⟨e1, e2⟩]
    rfl
theorem wd_enum (h : FL K F1 H1 a vs) (r : RpAll K F1 H1 vs xs) : WalkD K (Ite K a) (xs.zipIdx.map fun p => PyData.tuple [.int (p.2 : Nat), p.1]) F1 H1 where
  goes := fun i H hi g => by
    rw [List.length_map, List.length_zipIdx] at hi
    obtain ⟨v, e1, _⟩ := r.get (List.getElem?_eq_getElem hi)
    exact ⟨vs, v, g.1 _ _ h, e1⟩
  stops := fun H g => by
    rw [List.length_map, List.length_zipIdx]
    exact ⟨vs, g.1 _ _ h, by rw [r.length]; exact Nat.le_refl _⟩
  yields := fun i H x H' F hi g mono y => by
    rw [List.length_map, List.length_zipIdx] at hi
    obtain ⟨T, v, h3, h4, h5, h6⟩ := y
    subst h3 h5
    obtain ⟨d, e1, q1⟩ := r.got (h6 _ (g.1 _ _ h))
    refine ⟨same_upd h4, .tuple [.int (i : Nat), d], ?_, .tup (SqT.of upd_same) (.cons (.int _) (.cons ((mono _ _ q1).grow (same_upd h4)) .nil))⟩
    rw [List.getElem?_map, List.getElem?_zipIdx, e1]
    simp
end
section
variable {K : PySem.W.Frag}
theorem snd_ilist {t : TE} {f : DE} (a : SndE K t f) : SndI K (L2.iList K t) (dIter DL.iList f) := by
  intro H0 M st σ F H ds st' R S e q
  obtain ⟨p, e1, e⟩ := bs e
  obtain ⟨⟨y, s2⟩, e2, e⟩ := bs e
  obtain ⟨zs, e3, e⟩ := bs e
  cases e
  refine a H0 M st σ F H p.1 p.2 _ S e1 fun v F1 H1 S1 E1 f1 r1 => ?_
  obtain ⟨F2, S2, E2, r2, _⟩ := toD_ok S1 E1 r1.weak e2
  cases y <;> try (cases e3; done)
  cases e3
  cases r2 with
  | lst h hs => exact ⟨_, rfl, ⟨_, h.sql⟩, q _ F2 H1 S2 E2 (wd_list h hs)⟩
theorem snd_itup {t : TE} {f : DE} (a : SndE K t f) : SndI K (L2.iTup K t) (dIter DL.iTup f) := by
  intro H0 M st σ F H ds st' R S e q
  obtain ⟨p, e1, e⟩ := bs e
  obtain ⟨⟨y, s2⟩, e2, e⟩ := bs e
  obtain ⟨zs, e3, e⟩ := bs e
  cases e
  refine a H0 M st σ F H p.1 p.2 _ S e1 fun v F1 H1 S1 E1 f1 r1 => ?_
  obtain ⟨F2, S2, E2, r2, _⟩ := toD_ok S1 E1 r1.weak e2
  cases y <;> try (cases e3; done)
  cases e3
  cases r2 with
  | tup h hs => exact ⟨_, rfl, ⟨_, h⟩, q _ F2 H1 S2 E2 (wd_tup h hs)⟩
theorem snd_irange1 {t : TA} {f : DA} (a : SndA K t f) : SndI K (iRng1 t) (dIterA iRange1 f) := by
  intro H0 M st σ F H ds st' R S e q
  obtain ⟨p, e1, e⟩ := bs e
  obtain ⟨⟨ys, s2⟩, e2, e⟩ := bs e
  obtain ⟨zs, e3, e⟩ := bs e
  cases e
  refine a H0 M st σ F H p.1 p.2 _ S e1 fun vs F1 H1 S1 E1 f1 r1 => ?_
  obtain ⟨F2, S2, E2, rr, _⟩ := toDs_ok S1 E1 r1 e2
  match ys, vs, rr, e3 with
  | [.int n], [_], .cons (.int _) .nil, e3 =>
    have e3 : (if -(2 ^ 62) ≤ n ∧ n < 2 ^ 62 then some ((List.range n.toNat).map fun i => PyData.int (0 + (i : Nat))) else none) = some ds := e3
    by_cases c : -(2 ^ 62) ≤ n ∧ n < 2 ^ 62
    · rw [if_pos c] at e3
      cases e3
      exact ⟨n, rfl, c.1, c.2, q _ F2 H1 S2 E2 wd_range⟩
    · rw [if_neg c] at e3
      cases e3
theorem snd_irange2 {t : TA} {f : DA} (a : SndA K t f) : SndI K (iRng2 t) (dIterA iRange2 f) := by
  intro H0 M st σ F H ds st' R S e q
  obtain ⟨p, e1, e⟩ := bs e
  obtain ⟨⟨ys, s2⟩, e2, e⟩ := bs e
  obtain ⟨zs, e3, e⟩ := bs e
  cases e
  refine a H0 M st σ F H p.1 p.2 _ S e1 fun vs F1 H1 S1 E1 f1 r1 => ?_
  obtain ⟨F2, S2, E2, rr, _⟩ := toDs_ok S1 E1 r1 e2
  match ys, vs, rr, e3 with
  | [.int m, .int n], [_, _], .cons (.int _) (.cons (.int _) .nil), e3 =>
    have e3 : (if -(2 ^ 62) ≤ m ∧ m < 2 ^ 62 ∧ -(2 ^ 62) ≤ n ∧ n < 2 ^ 62 then some ((List.range (n - m).toNat).map fun i => PyData.int (m + (i : Nat))) else none) = some ds := e3
    by_cases c : -(2 ^ 62) ≤ m ∧ m < 2 ^ 62 ∧ -(2 ^ 62) ≤ n ∧ n < 2 ^ 62
    · rw [if_pos c] at e3
      cases e3
      exact ⟨m, n, rfl, c, q _ F2 H1 S2 E2 wd_range⟩
    · rw [if_neg c] at e3
      cases e3
theorem snd_izip {t : TA} {f : DA} (a : SndA K t f) : SndI K (RZ.iZipA K t) (dIterA DL.iZip f) := by
  intro H0 M st σ F H ds st' R S e q
  obtain ⟨p, e1, e⟩ := bs e
  obtain ⟨⟨ys, s2⟩, e2, e⟩ := bs e
  obtain ⟨zs, e3, e⟩ := bs e
  cases e
  refine a H0 M st σ F H p.1 p.2 _ S e1 fun vs F1 H1 S1 E1 f1 r1 => ?_
  obtain ⟨F2, S2, E2, rr, _⟩ := toDs_ok S1 E1 r1 e2
  match ys, vs, rr, e3 with
  | [.list m, .list n], [_, _], .cons (.lst h1 r1) (.cons (.lst h2 r2) .nil), e3 =>
    cases e3
    exact ⟨_, _, _, _, rfl, .inl ⟨h1.sql, h2.sql, q _ F2 H1 S2 E2 (wd_zip h1 r1 h2 r2)⟩⟩
  | [.tuple m, .tuple n], [_, _], .cons (.tup h1 r1) (.cons (.tup h2 r2) .nil), e3 =>
    cases e3
    exact ⟨_, _, _, _, rfl, .inr ⟨h1, h2, q _ F2 H1 S2 E2 (wd_zipT h1 r1 h2 r2)⟩⟩
theorem snd_ienum {t : TA} {f : DA} (a : SndA K t f) : SndI K (L2.iEnum K t) (dIterA DL.iEnum f) := by
  intro H0 M st σ F H ds st' R S e q
  obtain ⟨p, e1, e⟩ := bs e
  obtain ⟨⟨ys, s2⟩, e2, e⟩ := bs e
  obtain ⟨zs, e3, e⟩ := bs e
  cases e
  refine a H0 M st σ F H p.1 p.2 _ S e1 fun vs F1 H1 S1 E1 f1 r1 => ?_
  obtain ⟨F2, S2, E2, rr, _⟩ := toDs_ok S1 E1 r1 e2
  match ys, vs, rr, e3 with
  | [.list m], [_], .cons (.lst h1 r1) .nil, e3 =>
    cases e3
    exact ⟨_, _, rfl, h1.sql, q _ F2 H1 S2 E2 (wd_enum h1 r1)⟩
end
end DL
end

section
set_option Elab.async false
set_option linter.all false
set_option maxRecDepth 100000
set_option maxHeartbeats 1000000
/-! DLprim: what operators and built-ins ask and make, over data. -/
namespace DL
open PySem PySem.Spec PyProof.Rows L2

/-! ### rules of one's own -/
section
variable {X : Cx}
/-- list + list, whatever stands behind them -/
def rCatS (K : PySem.W.Frag) : R2 := fun x y H Q => ∃ l b xs zs, x = .ref l ∧ y = .ref b ∧ SqL K H l xs ∧ SqL K H b zs ∧ xs.length + zs.length ≤ sizeLine ∧ ∀ p, H p = none → Q (.ref p) (upd H p (.lst (xs ++ zs)))
theorem op_catS : OpR X (binaryOp .Add) (rCatS X.K) := by
  intro pins s σ H x y v u Q I rx ry h
  obtain ⟨l, b, xs, zs, rfl, rfl, hl, hb, hz, q⟩ := h
  cases rx
  cases ry
  obtain ⟨its, r, ⟨⟨c1, d1, t1, s1⟩, n, g1, g2, _, g3⟩, _⟩ := I.list hl
  obtain ⟨its2, r2, ⟨⟨c2, d2, t2, s2⟩, m, k1, k2, _, k3⟩, _⟩ := I.list hb
  simp only at g2 g3 k2 k3
  subst g2 g3 k2 k3
  have z1 := r.length
  have z2 := r2.length
  refine concat_meets ⟨_, g1, rfl⟩ ⟨_, k1, rfl⟩ noFill_list_add seq_list_add PySem.F.slot_list_add PySem.F.entry_list_add (PySem.F.args_list_add_2 _ _) (list_addW l b its.toArray its2.toArray n m d1 d2 s1 s2 (by rw [List.size_toArray, List.size_toArray]; omega)) ⟨g1, k1, ?_⟩
  have ea : its.toArray ++ its2.toArray = (its ++ its2).toArray := by simp
  rw [ea]
  exact ⟨.ref s.heap.objs.size, _, I.lnew (t' := s.toks) (r.append r2) (by rw [List.length_append]; exact hz), rfl, q _ I.fresh⟩
/-- list * int -/
def rRepS (K : PySem.W.Frag) : R2 := fun x y H Q => ∃ l k xs, x = .ref l ∧ y = .int k ∧ SqL K H l xs ∧ -(2 ^ 63) ≤ k ∧ k < 2 ^ 63 ∧ xs.length * k.toNat ≤ sizeLine ∧ ∀ p, H p = none → Q (.ref p) (upd H p (.lst (List.replicate k.toNat xs).flatten))
theorem op_repS : OpR X (binaryOp .Mult) (rRepS X.K) := by
  intro pins s σ H x y v u Q I rx ry h
  obtain ⟨l, k, xs, rfl, rfl, hl, h1, h2, hz, q⟩ := h
  cases rx
  obtain ⟨t, rfl⟩ := ry
  obtain ⟨its, r, ⟨⟨c1, d1, t1, s1⟩, n, g1, g2, _, g3⟩, _⟩ := I.list hl
  simp only at g2 g3
  subst g2 g3
  have z1 := r.length
  have cap : its.toArray.size * k.toNat ≤ sizeLine := by rw [List.size_toArray, ← z1]; exact hz
  have c1 : ¬ (!Builtin.List.listFitsIndex k) = true := by
    rw [fitsIndex_both h1 h2]
    exact Bool.false_ne_true
  have c2 : ¬ its.toArray.size * k.toNat > (2 ^ 63 - 1) / 8 := by
    have big : (sizeLine : Nat) ≤ (2 ^ 63 - 1) / 8 := by decide
    omega
  have c3 : ¬ Builtin.List.listTooLong (its.toArray.size * k.toNat) = true := by
    rw [notLongL cap]
    exact Bool.false_ne_true
  have joined : List.foldl (fun x1 x2 => x1 ++ x2) #[] (List.replicate (if its.toArray.isEmpty = true then 0 else k.toNat) its.toArray) = (List.replicate k.toNat its).flatten.toArray := by
    have all : ∀ j : Nat, List.foldl (fun x1 x2 => x1 ++ x2) #[] (List.replicate j its.toArray) = (List.replicate j its).flatten.toArray := fun j => by
      have z := foldl_rep its j []
      rw [List.nil_append] at z
      exact z
    rw [all]
    cases its with
    | nil => simp
    | cons a b => rw [if_neg (by simp)]
  have len : (List.replicate k.toNat xs).flatten.length ≤ sizeLine := by
    rw [PyProof.Rows.lm_len_rep_flat, Nat.mul_comm]
    exact hz
  refine wpAny_binaryOp_repeat_ref (T := "list") (U := "int") (by decide) ⟨_, g1, rfl⟩ (fun s' => typeIs_int s' k t) noFill_list_mul PySem.F.fills_int_mul PySem.F.slot_int_rmul repeat_list PySem.F.slot_int_index.lookup ?_
  refine call_meets PySem.F.slot_int_rmul (typeIs_int s k t) PySem.F.entry_int_rmul (PySem.F.args_int_rmul_2 _ _) (lm_int_rmul_list_any k t l its.toArray n d1 s1) ⟨g1, rfl, ⟨_, g1, rfl⟩, ?_⟩
  refine call_meets PySem.F.slot_list_mul ⟨_, g1, rfl⟩ PySem.F.entry_list_mul (PySem.F.args_list_mul_2 _ _) (lm_list_mul_any l its.toArray n d1 s1 k t c1 c2 c3) ⟨g1, ?_⟩
  rw [joined]
  exact ⟨.ref s.heap.objs.size, _, I.lnew (t' := s.toks) (r.rep k.toNat) len, rfl, q _ I.fresh⟩
/-- is, with None or a bool at the right -/
def plainV : V → Bool
  | .non => true
  | .bl _ => true
  | .int _ => true
  | .str _ => true
  | .ref _ => true
  | _ => false
def eqConst : V → V → Bool
  | .non, .non => true
  | .bl a, .bl b => a == b
  | _, _ => false
def constV : V → Bool
  | .non => true
  | .bl _ => true
  | _ => false
def rIsC (neg : Bool) : R2 := fun x y H Q => plainV x = true ∧ constV y = true ∧ Q (.bl (if neg then !eqConst x y else eqConst x y)) H
theorem is_plain {x y : V} {v u : Value} (rx : RelV x v) (ry : RelV y u) (p : plainV x = true) (c : constV y = true) : plainIs v u = true ∧ (v == u) = eqConst x y := by
  cases y with
  | non =>
    cases (show u = Value.none from ry)
    cases x with
    | non => cases (show v = Value.none from rx); exact ⟨rfl, rfl⟩
    | bl a => cases (show v = Value.bool a from rx); exact ⟨rfl, rfl⟩
    | int i => obtain ⟨t, rfl⟩ := rx; exact ⟨rfl, rfl⟩
    | str i => obtain ⟨t, rfl⟩ := rx; exact ⟨rfl, rfl⟩
    | ref a => cases (show v = Value.ref a from rx); exact ⟨rfl, rfl⟩
    | _ => cases p
  | bl b =>
    cases (show u = Value.bool b from ry)
    cases x with
    | non => cases (show v = Value.none from rx); exact ⟨rfl, rfl⟩
    | bl a =>
      cases (show v = Value.bool a from rx)
      refine ⟨rfl, ?_⟩
      show (Value.bool a == Value.bool b) = (a == b)
      cases a <;> cases b <;> rfl
    | int i => obtain ⟨t, rfl⟩ := rx; exact ⟨rfl, rfl⟩
    | str i => obtain ⟨t, rfl⟩ := rx; exact ⟨rfl, rfl⟩
    | ref a => cases (show v = Value.ref a from rx); exact ⟨rfl, rfl⟩
    | _ => cases p
  | _ => cases c
theorem op_isC : OpR X (compareOp .Is) (rIsC false) := by
  intro pins s σ H x y v u Q I rx ry h
  obtain ⟨p, c, q⟩ := h
  obtain ⟨h1, h2⟩ := is_plain rx ry p c
  exact wpAny_is_plain h1 ⟨.bl (eqConst x y), H, I, by rw [h2]; rfl, q⟩
theorem op_isnotC : OpR X (compareOp .IsNot) (rIsC true) := by
  intro pins s σ H x y v u Q I rx ry h
  obtain ⟨p, c, q⟩ := h
  obtain ⟨h1, h2⟩ := is_plain rx ry p c
  exact wpAny_isNot_plain h1 ⟨.bl (!eqConst x y), H, I, by rw [h2]; rfl, q⟩
/-- repr of a list or a tuple -/
def rRepr (K : PySem.W.Frag) : List V → Hp → VK → Prop := fun xs H Q => (∃ a, xs = [.ref a] ∧ H a = some (.dK []) ∧ Q (.str (PyData.shown (.dict []))) H) ∨ ∃ (a : V) (d : PyData), xs = [a] ∧ Dp K H a d ∧ d.hasDict = false ∧ d.showable = true ∧ d.depth ≤ 40 ∧ d.shown.length ≤ sizeLine ∧ Q (.str d.shown) H
theorem call_repr (gd : X.A.guards = some []) (hu : X.A.units + 64 < cLine) : CallR X (.builtin "repr") (rRepr X.K) := by
  intro pins s σ H xs us Q I r h
  rcases h with ⟨a, rfl, ea, q⟩ | ⟨a, d, rfl, hd, h1, h2, h3, h4, q⟩
  · rw [Vals.ref1 r]
    obtain ⟨_, hm, vs, kv, o, es, ep, g1, g2, g3, _, g5, _⟩ := dk_of I.hok ea
    have ev : vs = [] := by
      cases kv
      rfl
    subst ev
    have ee : es.toList = [] := List.length_eq_zero_iff.mp (Pairs.length g5)
    have rd : Reads s.heap (.ref a) (.dict []) (a :: [] ++ []) := Reads.dict g1 g2.1 g3 (by rw [ee]; exact .nil) (by rw [ee]; exact .nil)
    refine repr_of_reads' rd (by simp [PyData.showable, PyData.showableKv]) (fun _ z => ?_) gd (by simp [PyData.depth, PyData.depthKv]; omega) (fun _ _ e => e) (fun h' u tk hk => ?_) ?_
    · simp at z
      subst z
      simp at hm
    · exact ⟨.str (PyData.shown _), H, I.kept (t' := tk) hk, ⟨_, rfl⟩, q⟩
    · show (PyData.shown (.dict [])).length ≤ sizeLine
      rw [sizeLine_eq]
      decide +kernel
  cases r with
  | cons r rr =>
    cases rr
    obtain ⟨as, rd⟩ := Dp.reads I d _ _ hd r
    cases hd with
    | non =>
      cases (show _ = Value.none from r)
      exact P.repr_of_none ⟨.str (PyData.shown .none), H, I.tok _, ⟨_, rfl⟩, q⟩
    | bl b =>
      cases (show _ = Value.bool b from r)
      exact P.repr_of_bool ⟨.str (PyData.shown (.bool b)), H, I.tok _, ⟨_, rfl⟩, q⟩
    | int i =>
      obtain ⟨t, rfl⟩ := r
      exact P.repr_of_int (of_decide_eq_true (by simpa only [PyData.showable] using h2)) ⟨.str (PyData.shown (.int i)), H, I.tok _, ⟨_, rfl⟩, q⟩
    | str x =>
      obtain ⟨t, rfl⟩ := r
      exact P.repr_of_str ⟨.str (PyData.shown (.str x)), H, I.tok _, ⟨_, rfl⟩, q⟩ h4
    | lst _ _ =>
      cases (show _ = Value.ref _ from r)
      refine repr_of_reads' rd h2 (PyData.noDict_hsm h1) gd (by omega) (fun _ _ e => e) (fun h' u tk hk => ?_) h4
      exact ⟨.str (PyData.shown _), H, I.kept (t' := tk) hk, ⟨_, rfl⟩, q⟩
    | tup _ _ =>
      cases (show _ = Value.ref _ from r)
      refine repr_of_reads' rd h2 (PyData.noDict_hsm h1) gd (by omega) (fun _ _ e => e) (fun h' u tk hk => ?_) h4
      exact ⟨.str (PyData.shown _), H, I.kept (t' := tk) hk, ⟨_, rfl⟩, q⟩
end

/-! ### over data -/
section
variable {K : PySem.W.Frag} {F : Addr → Prop} {H : Hp} {v : V}
theorem new_tmp {p : Addr} {vs : List V} {xs : List PyData} (hp : H p = none) (r : RpAll K F H vs xs) : Same H (upd H p (.lst vs)) ∧ NewOk K F H (upd H p (.lst vs)) (.ref p) (.tmp xs) :=
  ⟨same_upd hp, p, vs, rfl, hp, upd_same, r.grow (same_upd hp)⟩
def rAddD (K : PySem.W.Frag) : R2 := fun x y H Q => (∃ i j, x = .int i ∧ y = .int j ∧ Q (.int (i + j)) H) ∨ (∃ i j, x = .str i ∧ y = .str j ∧ i.length + j.length ≤ sizeLine ∧ Q (.str (i ++ j)) H) ∨ rCatS K x y H Q
theorem op_addD {X : Cx} : OpR X (binaryOp .Add) (rAddD X.K) := op_add.or (op_add_str.or op_catS)
theorem prim_add : Prim2 K (rAddD K) opAdd := by
  intro F H v w x y z Q a b e q
  cases x <;> cases y <;> try (cases e; done)
  · cases e
    exact .inl ⟨_, _, a.int, b.int, q _ H Same.rfl' (.int _)⟩
  · rename_i i j
    have e : (if i.length + j.length ≤ sizeLine then some (Rv.d (.str (i ++ j))) else none) = some z := e
    by_cases c : i.length + j.length ≤ sizeLine
    · rw [if_pos c] at e
      cases e
      exact .inr (.inl ⟨_, _, a.str, b.str, c, q _ H Same.rfl' (.str _)⟩)
    · rw [if_neg c] at e
      cases e
  · rename_i i j
    have e : (if i.length + j.length ≤ sizeLine then some (Rv.tmp (i ++ j)) else none) = some z := e
    by_cases c : i.length + j.length ≤ sizeLine
    · rw [if_pos c] at e
      cases e
      obtain ⟨p, vs, rfl, h1, r1⟩ := a.list
      obtain ⟨p2, vs2, rfl, h2, r2⟩ := b.list
      refine .inr (.inr ⟨p, p2, vs, vs2, rfl, rfl, h1, h2, by rw [r1.length, r2.length]; exact c, fun p hp => ?_⟩)
      obtain ⟨s, n⟩ := new_tmp hp (r1.append r2)
      exact q _ _ s n
    · rw [if_neg c] at e
      cases e
def rMulD (K : PySem.W.Frag) : R2 := fun x y H Q => (∃ i j, x = .int i ∧ y = .int j ∧ CMulW i j ∧ Q (.int (i * j)) H) ∨ rRepS K x y H Q
theorem op_mulD {X : Cx} : OpR X (binaryOp .Mult) (rMulD X.K) := op_mulW.or op_repS
theorem prim_mul : Prim2 K (rMulD K) opMul := by
  intro F H v w x y z Q a b e q
  cases x <;> cases y <;> try (cases e; done)
  · rename_i i j
    have e : (if i.natAbs.log2 + j.natAbs.log2 < 1000000 then some (Rv.d (.int (i * j))) else none) = some z := e
    by_cases c : i.natAbs.log2 + j.natAbs.log2 < 1000000
    · rw [if_pos c] at e
      cases e
      exact .inl ⟨_, _, a.int, b.int, c, q _ H Same.rfl' (.int _)⟩
    · rw [if_neg c] at e
      cases e
  · rename_i xs k
    have e : (if -(2 ^ 63) ≤ k ∧ k < 2 ^ 63 ∧ xs.length * k.toNat ≤ sizeLine then some (Rv.tmp (List.replicate k.toNat xs).flatten) else none) = some z := e
    by_cases c : -(2 ^ 63) ≤ k ∧ k < 2 ^ 63 ∧ xs.length * k.toNat ≤ sizeLine
    · rw [if_pos c] at e
      cases e
      obtain ⟨p, vs, rfl, h1, r1⟩ := a.list
      refine .inr ⟨p, k, vs, rfl, b.int, h1, c.1, c.2.1, by rw [r1.length]; exact c.2.2, fun p hp => ?_⟩
      obtain ⟨s, n⟩ := new_tmp hp (r1.rep k.toNat)
      exact q _ _ s n
    · rw [if_neg c] at e
      cases e
theorem Pk.plain {x : D} (h : Pk K F H v x) (y : D) (b : Bool) (e : isV x y = some b) {w : V} (h2 : Pk K F H w y) : plainV v = true ∧ constV w = true ∧ eqConst v w = b := by
  have pl : plainV v = true := by
    rcases h with k | ⟨p, vs, xs, rfl, _⟩
    · cases k <;> rfl
    · rfl
  cases y with
  | none =>
    have := h2.non
    subst this
    refine ⟨pl, rfl, ?_⟩
    cases x with
    | none => have := h.non; subst this; cases e; rfl
    | bool c => have := h.bl; subst this; cases e; rfl
    | int c => have := h.int; subst this; cases e; rfl
    | str c => have := h.str; subst this; cases e; rfl
    | list c => obtain ⟨p, vs, rfl, _⟩ := h.list; cases e; rfl
    | tuple c => obtain ⟨p, vs, rfl, _⟩ := h.tup; cases e; rfl
    | dict c =>
      rcases h with k | ⟨_, _, _, _, k, _⟩
      · cases k; cases e; rfl
      · cases k
  | bool d =>
    have := h2.bl
    subst this
    refine ⟨pl, rfl, ?_⟩
    cases x with
    | none => have := h.non; subst this; cases e; rfl
    | bool c => have := h.bl; subst this; cases e; rfl
    | int c => have := h.int; subst this; cases e; rfl
    | str c => have := h.str; subst this; cases e; rfl
    | list c => obtain ⟨p, vs, rfl, _⟩ := h.list; cases e; rfl
    | tuple c => obtain ⟨p, vs, rfl, _⟩ := h.tup; cases e; rfl
    | dict c =>
      rcases h with k | ⟨_, _, _, _, k, _⟩
      · cases k; cases e; rfl
      · cases k
  | _ => cases x <;> cases e
theorem prim_is : Prim2 K (rIsC false) opIs := by
  intro F H v w x y z Q a b e q
  obtain ⟨c, e1, e2⟩ := bs e
  cases e2
  obtain ⟨h1, h2, h3⟩ := a.plain y c e1 b
  refine ⟨h1, h2, ?_⟩
  subst h3
  exact q _ H Same.rfl' (.bl _)
theorem prim_isnot : Prim2 K (rIsC true) opIsNot := by
  intro F H v w x y z Q a b e q
  obtain ⟨c, e1, e2⟩ := bs e
  cases e2
  obtain ⟨h1, h2, h3⟩ := a.plain y c e1 b
  refine ⟨h1, h2, ?_⟩
  subst h3
  exact q _ H Same.rfl' (.bl _)
theorem prim_ix : Prim2 K (rIx K) opIx := by
  intro F H v w x y z Q a b e q
  cases x <;> cases y <;> try (cases e; done)
  · rename_i s i
    have e : (if s.length ≤ sizeLine then (ixAt s.cps.toList i).bind fun n => (s.cps.toList[n]?).bind fun c => some (Rv.d (.str ⟨#[c]⟩)) else none) = some z := e
    by_cases c : s.length ≤ sizeLine
    · rw [if_pos c] at e
      obtain ⟨n, e1, e⟩ := bs e
      obtain ⟨ch, e2, e⟩ := bs e
      cases e
      refine .inr (.inr ⟨s, i, ch, a.str, b.int, c, ?_, q _ H Same.rfl' (.str _)⟩)
      show (ixN s.cps.toList.length i).bind (fun j => s.cps.toList[j]?) = some ch
      rw [← ixAt_eq, e1]
      exact e2
    · rw [if_neg c] at e
      cases e
  · rename_i xs i
    obtain ⟨n, e1, e⟩ := bs e
    obtain ⟨y, e2, e⟩ := bs e
    cases e
    obtain ⟨p, vs, rfl, h1, r1⟩ := a.list
    obtain ⟨vy, g1, g2⟩ := r1.get e2
    refine .inl ⟨p, vs, i, vy, rfl, b.int, h1, ?_, q _ H Same.rfl' g2⟩
    show (ixN vs.length i).bind (fun j => vs[j]?) = some vy
    rw [r1.length, ← ixAt_eq, e1]
    exact g1
  · rename_i xs i
    obtain ⟨n, e1, e⟩ := bs e
    obtain ⟨y, e2, e⟩ := bs e
    cases e
    obtain ⟨p, vs, rfl, h1, r1⟩ := a.tup
    obtain ⟨vy, g1, g2⟩ := r1.get e2
    refine .inr (.inl ⟨p, vs, i, vy, rfl, b.int, h1, ?_, q _ H Same.rfl' g2⟩)
    show (ixN vs.length i).bind (fun j => vs[j]?) = some vy
    rw [r1.length, ← ixAt_eq, e1]
    exact g1
theorem cut_eq (n d : Nat) (o : Option Int) : cutAt n d o = HT.sIx n d o := rfl
theorem prim_slice : PrimS K (rSlL K) opSlice := by
  intro F H v x lo hi z Q a e q
  cases x <;> try (cases e; done)
  rename_i ys
  cases e
  obtain ⟨p, vs, rfl, h1, r1⟩ := a.list
  refine ⟨p, vs, rfl, h1, fun p hp => ?_⟩
  have r2 : RpAll K F H (cutV vs lo hi) (cutD ys lo hi) := by
    unfold cutV cutD
    rw [r1.length]
    exact (r1.drop _).take _
  obtain ⟨s, n⟩ := new_tmp hp r2
  exact q _ _ s n
theorem snd_rev {t : TE} {f : DE} (a : SndE K t f) : SndE K (tRevL K t) (dOp1 opRev f) := by
  refine snd_op1 (r := fun x H1 Q => ∃ a xs, x = .ref a ∧ SqL K H1 a xs ∧ ∀ p, H1 p = none → Q (.ref p) (upd H1 p (.lst xs.reverse))) ?_ a
  intro F H v x z Q a e q
  cases x <;> try (cases e; done)
  cases e
  obtain ⟨p, vs, rfl, h1, r1⟩ := a.list
  refine ⟨p, vs, rfl, h1, fun p hp => ?_⟩
  obtain ⟨s, n⟩ := new_tmp hp r1.reverse
  exact q _ _ s n

/-! ### built-in calls -/
theorem PkAll.one {vs : List V} {x : D} (h : PkAll K F H vs [x]) : ∃ v, vs = [v] ∧ Pk K F H v x := by
  cases h with
  | cons a t => cases t; exact ⟨_, rfl, a⟩
def rLenD (K : PySem.W.Frag) : List V → Hp → VK → Prop := fun xs H Q => (∃ p ys, xs = [.ref p] ∧ (SqL K H p ys ∨ SqT K H p ys) ∧ Q (.int ys.length) H) ∨ ∃ z, xs = [.str z] ∧ z.length ≤ sizeLine ∧ Q (.int z.length) H
theorem call_lenD' {X : Cx} : CallR X (.builtin "len") (rLenD X.K) := call_len_seq.or call_len_str
theorem prim_len : PrimN K (rLenD K) bLen := by
  intro F H vs xs z Q a e q
  match xs, a, e with
  | [.list ys], a, e =>
    cases e
    obtain ⟨v, rfl, a'⟩ := a.one
    obtain ⟨p, vs, rfl, h1, r1⟩ := a'.list
    refine .inl ⟨p, vs, rfl, .inl h1, ?_⟩
    rw [r1.length]
    exact q _ H Same.rfl' (.int _)
  | [.tuple ys], a, e =>
    cases e
    obtain ⟨v, rfl, a'⟩ := a.one
    obtain ⟨p, vs, rfl, h1, r1⟩ := a'.tup
    refine .inl ⟨p, vs, rfl, .inr h1, ?_⟩
    rw [r1.length]
    exact q _ H Same.rfl' (.int _)
  | [.str s], a, e =>
    have e : (if s.length ≤ sizeLine then some (Rv.d (.int s.length)) else none) = some z := e
    obtain ⟨v, rfl, a'⟩ := a.one
    by_cases c : s.length ≤ sizeLine
    · rw [if_pos c] at e
      cases e
      have := a'.str
      subst this
      exact .inr ⟨s, rfl, c, q _ H Same.rfl' (.int _)⟩
    · rw [if_neg c] at e
      cases e
def rIntD : List V → Hp → VK → Prop := fun xs H Q => (∃ i, xs = [.int i] ∧ Q (.int i) H) ∨ ∃ k, xs = [.bl k] ∧ Q (.int (if k then 1 else 0)) H
theorem prim_int : PrimN K rIntD bInt := by
  intro F H vs xs z Q a e q
  match xs, a, e with
  | [.int i], a, e =>
    cases e
    obtain ⟨v, rfl, a'⟩ := a.one
    have := a'.int
    subst this
    exact .inl ⟨i, rfl, q _ H Same.rfl' (.int _)⟩
  | [.bool b], a, e =>
    cases e
    obtain ⟨v, rfl, a'⟩ := a.one
    have := a'.bl
    subst this
    exact .inr ⟨b, rfl, q _ H Same.rfl' (.int _)⟩
def rStrD : List V → Hp → VK → Prop := fun xs H Q => ∃ i : Int, xs = [.int i] ∧ i.natAbs.log2 < 1920 ∧ Q (.str (toString i)) H
theorem prim_str : PrimN K rStrD bStr := by
  intro F H vs xs z Q a e q
  match xs, a, e with
  | [.int i], a, e =>
    have e : (if i.natAbs.log2 < 1920 then some (Rv.d (.str (Str.ofString (toString i)))) else none) = some z := e
    obtain ⟨v, rfl, a'⟩ := a.one
    by_cases c : i.natAbs.log2 < 1920
    · rw [if_pos c] at e
      cases e
      have := a'.int
      subst this
      exact ⟨i, rfl, c, q _ H Same.rfl' (.str _)⟩
    · rw [if_neg c] at e
      cases e
theorem prim_repr : PrimN K (rRepr K) bRepr := by
  intro F H vs xs z Q a e q
  match xs, a, e with
  | [x], a, e =>
    have e : (if x.hasDict = false ∧ x.showable = true ∧ x.depth ≤ 40 ∧ x.shown.length ≤ sizeLine then some (Rv.d (.str x.shown)) else dictRepr x) = some z := e
    obtain ⟨v, rfl, a'⟩ := a.one
    by_cases c : x.hasDict = false ∧ x.showable = true ∧ x.depth ≤ 40 ∧ x.shown.length ≤ sizeLine
    · rw [if_pos c] at e
      cases e
      exact .inr ⟨v, x, rfl, a'.dp c.1, c.1, c.2.1, c.2.2.1, c.2.2.2, q _ H Same.rfl' (.str _)⟩
    · rw [if_neg c] at e
      match x, a', e with
      | .dict [], a', e =>
        cases e
        rcases a' with k | ⟨_, _, _, _, k, _⟩
        · cases k with
          | dic h => exact .inl ⟨_, rfl, h, q _ H Same.rfl' (.str _)⟩
        · cases k
theorem bools_ok : ∀ {vs : List V} {xs : List PyData} {bs' : List Bool}, RpAll K F H vs xs → boolsOf xs = some bs' → vs = bs'.map V.bl
  | _, [], _, .nil, e => by cases e; rfl
  | _, .bool b :: xs, _, .cons a t, e => by
    obtain ⟨cs, e1, e2⟩ := bs e
    cases e2
    cases a
    rw [bools_ok t e1]
    rfl
theorem ints_ok : ∀ {vs : List V} {xs : List PyData} {is : List Int}, RpAll K F H vs xs → intsOf xs = some is → vs = is.map V.int
  | _, [], _, .nil, e => by cases e; rfl
  | _, .int b :: xs, _, .cons a t, e => by
    obtain ⟨cs, e1, e2⟩ := bs e
    cases e2
    cases a
    rw [ints_ok t e1]
    rfl
theorem prim_all : PrimN K (rAll K) bAll := by
  intro F H vs xs z Q a e q
  match xs, a, e with
  | [.list ys], a, e =>
    obtain ⟨cs, e1, e2⟩ := bs e
    cases e2
    obtain ⟨v, rfl, a'⟩ := a.one
    obtain ⟨p, ws, rfl, h1, r1⟩ := a'.list
    have := bools_ok r1 e1
    subst this
    exact ⟨p, cs, rfl, h1, q _ H Same.rfl' (.bl _)⟩
theorem prim_any : PrimN K (rAny K) bAny := by
  intro F H vs xs z Q a e q
  match xs, a, e with
  | [.list ys], a, e =>
    obtain ⟨cs, e1, e2⟩ := bs e
    cases e2
    obtain ⟨v, rfl, a'⟩ := a.one
    obtain ⟨p, ws, rfl, h1, r1⟩ := a'.list
    have := bools_ok r1 e1
    subst this
    exact ⟨p, cs, rfl, h1, q _ H Same.rfl' (.bl _)⟩
theorem prim_sum : PrimN K (rSum K) bSum := by
  intro F H vs xs z Q a e q
  match xs, a, e with
  | [.list ys], a, e =>
    obtain ⟨cs, e1, e2⟩ := bs e
    cases e2
    obtain ⟨v, rfl, a'⟩ := a.one
    obtain ⟨p, ws, rfl, h1, r1⟩ := a'.list
    have := ints_ok r1 e1
    subst this
    exact ⟨p, cs, rfl, h1, q _ H Same.rfl' (.int _)⟩
def rListD (K : PySem.W.Frag) : List V → Hp → VK → Prop := fun xs H Q => ∃ p ys, xs = [.ref p] ∧ (SqL K H p ys ∨ SqT K H p ys) ∧ ∀ l, H l = none → Q (.ref l) (upd H l (.lst ys))
theorem prim_list : PrimN K (rListD K) bList := by
  intro F H vs xs z Q a e q
  match xs, a, e with
  | [.list ys], a, e =>
    cases e
    obtain ⟨v, rfl, a'⟩ := a.one
    obtain ⟨p, ws, rfl, h1, r1⟩ := a'.list
    refine ⟨p, ws, rfl, .inl h1, fun p hp => ?_⟩
    obtain ⟨s, n⟩ := new_tmp hp r1
    exact q _ _ s n
  | [.tuple ys], a, e =>
    cases e
    obtain ⟨v, rfl, a'⟩ := a.one
    obtain ⟨p, ws, rfl, h1, r1⟩ := a'.tup
    refine ⟨p, ws, rfl, .inr h1, fun p hp => ?_⟩
    obtain ⟨s, n⟩ := new_tmp hp r1
    exact q _ _ s n
/-! isinstance -/
theorem Pk.ty {x : D} (h : Pk K F H v x) : TyX K H v (.type (tyName x)) := by
  have sq : ∀ {a xs}, SqL K H a xs → TyX K H (.ref a) (.type "list") := fun {a xs} s => by
    rcases s with (s | ⟨o, s⟩) | ⟨o, its, n, s, c, _⟩
    · exact .base (.lst s)
    · exact .base (.frz s)
    · exact .kList s c
  have st : ∀ {a xs}, SqT K H a xs → TyX K H (.ref a) (.type "tuple") := fun {a xs} s => by
    rcases s with (s | ⟨o, s⟩) | ⟨o, its, n, s, c, _⟩
    · exact .base (.tup s)
    · exact .fTuple s
    · exact .kTuple s c
  cases x with
  | none => have := h.non; subst this; exact .base .non
  | bool c => have := h.bl; subst this; exact .base (.bl c)
  | int c => have := h.int; subst this; exact .base (.int c)
  | str c => have := h.str; subst this; exact .base (.str c)
  | list c => obtain ⟨p, vs, rfl, h1, _⟩ := h.list; exact sq h1
  | tuple c => obtain ⟨p, vs, rfl, h1, _⟩ := h.tup; exact st h1
  | dict c =>
    rcases h with k | ⟨_, _, _, _, k, _⟩
    · cases k with
      | dic h => exact .base (.dK h)
    · cases k
end
end DL
end

section
set_option Elab.async false
set_option linter.all false
set_option maxRecDepth 100000
set_option maxHeartbeats 1000000
/-! DLrul: rules: a piece of syntax, its reading, its plain function, at once. -/
namespace DL
open PySem PySem.Spec PyProof.Rows L2
/-! ### isinstance -/
def tyNames : List String := ["NoneType", "bool", "int", "str", "list", "tuple", "dict"]
def TyOkc (T : String) : Prop := ∀ n ∈ tyNames, kitB n T = some (n == T || (T == "int" && n == "bool"))
theorem tyName_mem (x : D) : tyName x ∈ tyNames := by
  cases x <;> simp [tyName, tyNames]
section
variable {K : PySem.W.Frag}
theorem kit_at {T : String} (hT : TyOkc T) (x : D) : PySem.W.kitOne K (.type (tyName x)) (.type T) = some (isTy x T) := kit_ty (hT _ (tyName_mem x))
theorem snd_isi {T : String} {t : TE} {f : DE} (hT : TyOkc T) (a : SndE K t f) : SndE K (tCB (rIsi K) (tCons t (tCons (tC (.ty T)) tNil))) (dOp1 (bIsi T) f) := by
  intro H0 M st σ F H z st' Q S e q
  obtain ⟨p, e1, e⟩ := bs e
  obtain ⟨x, e3, e⟩ := bs e
  obtain ⟨u, e5, e⟩ := bs e
  cases e
  refine a H0 M st σ F H p.1 p.2 _ S e1 fun v F1 H1 S1 E1 f1 r1 => ?_
  have pk := look_ok S1 r1.weak e3
  have ez : z = .d (.bool (isTy x T)) := by
    exact (Option.some.inj e5).symm
  subst ez
  exact ⟨v, .ty T, .type (tyName x), .type T, isTy x T, rfl, .ty T, pk.ty, kit_at hT x, q _ F1 H1 S1 E1 f1 (.bl _)⟩
theorem snd_isi2 {T U : String} {t : TE} {f : DE} (hT : TyOkc T) (hU : TyOkc U) (a : SndE K t f) : SndE K (tCB (rIsiT K) (tCons t (tCons (tTup (tCons (tC (.ty T)) (tCons (tC (.ty U)) tNil))) tNil))) (dOp1 (bIsi2 T U) f) := by
  intro H0 M st σ F H z st' Q S e q
  obtain ⟨p, e1, e⟩ := bs e
  obtain ⟨x, e3, e⟩ := bs e
  obtain ⟨u, e5, e⟩ := bs e
  cases e
  refine a H0 M st σ F H p.1 p.2 _ S e1 fun v F1 H1 S1 E1 f1 r1 => ?_
  have ez : z = .d (.bool (isTy x T || isTy x U)) := by
    exact (Option.some.inj e5).symm
  subst ez
  refine ⟨by show 2 ≤ sizeLine; decide, fun tp hp => ?_⟩
  have S2 := S1.grow (same_upd (o := .tup [.ty T, .ty U]) hp)
  have E2 := E1.trans (Ext.grow (st := p.2) (σ := σ) (F := F1) (same_upd (o := .tup [.ty T, .ty U]) hp))
  have pk : Pk K F1 (upd H1 tp (.tup [.ty T, .ty U])) v x := look_ok S2 (r1.weak.ext S1 (Ext.grow (same_upd hp)) trivial) e3
  refine ⟨v, tp, [.ty T, .ty U], .type (tyName x), [.type T, .type U], isTy x T || isTy x U, rfl, upd_same, .cons (.ty T) (.cons (.ty U) .nil), pk.ty, ?_, q _ F1 _ S2 E2 trivial (.bl _)⟩
  refine kitAny_cons (kit_at hT x) (fun h => ?_) (fun h => by rw [h]; rfl)
  refine kitAny_cons (kit_at hU x) (fun h2 => ?_) (fun h2 => by rw [h, h2]; rfl)
  rw [h, h2]
  exact kitAny_nil
end
theorem tyok_int : TyOkc "int" := by unfold TyOkc tyNames; decide +kernel
theorem tyok_bool : TyOkc "bool" := by unfold TyOkc tyNames; decide +kernel
theorem tyok_str : TyOkc "str" := by unfold TyOkc tyNames; decide +kernel
theorem tyok_list : TyOkc "list" := by unfold TyOkc tyNames; decide +kernel
theorem tyok_tuple : TyOkc "tuple" := by unfold TyOkc tyNames; decide +kernel

/-! ### operators in place -/
section
variable {K : PySem.W.Frag} {X : Cx}
theorem prim_addI : Prim2 K (ipI fun i j => i + j) opAddI := by
  intro F H v w x y z Q a b e q
  cases x <;> cases y <;> try (cases e; done)
  cases e
  exact ⟨_, _, a.int, b.int, q _ H Same.rfl' (.int _)⟩
theorem pget_list : PGet X (rIxL X.K) := by
  intro pins s σ H x y v u Q I rx ry h
  obtain ⟨p, xs, i, z, rfl, rfl, hq, he, q⟩ := h
  cases rx
  obtain ⟨t, rfl⟩ := ry
  obtain ⟨its, r, pl, hz⟩ := I.list hq
  obtain ⟨j, h1, h2, h3, h4, h5⟩ := atI_get he
  obtain ⟨w, ew, rw'⟩ := r.get h2
  have hl := r.length
  have hn := line63
  have fin : EP X pins σ Q w s := ⟨z, H, I, rw', q⟩
  by_cases h0 : 0 ≤ i
  · have hj : i.toNat = j := by
      rw [seqIndex_of h0 h5] at h1
      exact Option.some.inj h1
    exact wpAny_getItem_list pl.isList h0 (by omega) (by rw [hj]; simpa using ew) fin
  · have hj : (i + (its.toArray.size : Int)).toNat = j := by
      rw [seqIndex_neg (by omega) h4] at h1
      rw [List.size_toArray, ← hl]
      exact Option.some.inj h1
    exact wpAny_getItem_list_neg pl.isList (by omega) (by rw [List.size_toArray] <;> omega) (by omega) (by rw [hj]; simpa using ew) fin
end

/-! ### the judgements -/
structure SE (K : PySem.W.Frag) (X : Cx) (e : Expr) (t : TE) (f : DE) : Prop where
  pe : PE X e t
  sn : SndE K t f
structure ST (K : PySem.W.Frag) (X : Cx) (e : Expr) (t : TT) (f : DT) : Prop where
  pe : PT X e t
  sn : SndT K t f
structure SW (K : PySem.W.Frag) (X : Cx) (e : Expr) (t : TT) (f : DT) : Prop where
  pe : PW X e t
  sn : SndT K t f
structure SA (K : PySem.W.Frag) (X : Cx) (es : List Expr) (t : TA) (f : DA) : Prop where
  pe : PA X es t
  sn : SndA K t f
structure SK (K : PySem.W.Frag) (X : Cx) (ks : List Keyword) (t : TA) (f : DA) : Prop where
  pe : PK X ks t
  sn : SndA K t f
structure SO (K : PySem.W.Frag) (X : Cx) (e : Option Expr) (t : TO) (f : DO) : Prop where
  pe : PO X e t
  sn : SndO K t f
structure SS (K : PySem.W.Frag) (X : Cx) (s : Stmt) (t : TS) (f : DS) : Prop where
  pe : PS X s t
  sn : SndS K t f
structure SSs (K : PySem.W.Frag) (X : Cx) (s : List Stmt) (t : TS) (f : DS) : Prop where
  pe : PSs X s t
  sn : SndS K t f
structure SG (K : PySem.W.Frag) (X : Cx) (e : Expr) (is : List Nat) (t : TG) (f : DG) : Prop where
  pe : PG X e t
  sn : SndG K is t f
structure SGs (K : PySem.W.Frag) (X : Cx) (es : List Expr) (is : List Nat) (t : TGs) (f : DGs) : Prop where
  pe : PGs X es t
  sn : SndGs K is t f
structure SI (K : PySem.W.Frag) (X : Cx) (tg it : Expr) (w : TI) (f : DI) : Prop where
  pe : PI X tg it w
  sn : SndI K w f
section
variable {K : PySem.W.Frag} {X : Cx} {a b c e : Expr} {es : List Expr} {ta tb tc te : TE} {f g h : DE} {pos p : Pos} {x : Str}
theorem se_var (i : Nat) (hN : X.N[i]? = some x := by rfl) (hv : Vis X.env.scope x := by first | exact Or.inl rfl | exact Or.inr (Or.inl rfl) | exact Or.inr (Or.inr rfl)) (hd : (x == ("__debug__" : Str)) = false := by decide)
    (hcd : (x == ("__classdict__" : Str)) = false := by decide) : SE K X (.Name x pos) (tVar i) (dVar i) := ⟨pe_var hN hv hd hcd, snd_var⟩
theorem se_int {i j} : SE K X (.Constant (.int i) j pos) (tC (.int i)) (dC (.int i)) := ⟨pe_int, snd_c fun _ _ => .int _⟩
theorem se_bl {i j} : SE K X (.Constant (.bool i) j pos) (tC (.bl i)) (dC (.bool i)) := ⟨pe_bl, snd_c fun _ _ => .bl _⟩
theorem se_non {j} : SE K X (.Constant .none j pos) (tC .non) (dC .none) := ⟨pe_non, snd_c fun _ _ => .non⟩
theorem se_str {s j} : SE K X (.Constant (.str s) j pos) (tC (.str s)) (dC (.str s)) := ⟨pe_str, snd_c fun _ _ => .str _⟩
/-- a module's constant -/
theorem se_glob {v : V} {u : Value} {d : PyData} (hg : Gl X x) (hm : X.mg x = some u) (r : RelV v u) (hd : ∀ (F : Addr → Prop) (H : Hp), Rp K F H v d) (h1 : (x == ("__debug__" : Str)) = false := by decide) : SE K X (.Name x pos) (tC v) (dC d) := ⟨pe_glob hg hm r h1, snd_c hd⟩
theorem se_op {op : Operator} {r : R2} {o : D → D → Option Rv} (hp : Prim2 K r o) (ho : OpR X (binaryOp op) r) (ha : SE K X a ta f) (hb : SE K X b tb g) : SE K X (.BinOp a op b pos) (tOp r ta tb) (dOp2 o f g) := ⟨pe_op ho ha.pe hb.pe, snd_op2 hp ha.sn hb.sn⟩
theorem se_add (ha : SE K X a ta f) (hb : SE K X b tb g) (hK : X.K = K := by rfl) : SE K X (.BinOp a .Add b pos) (tOp (rAddD K) ta tb) (dOp2 opAdd f g) := by
  subst hK
  exact se_op prim_add op_addD ha hb
theorem se_sub (ha : SE K X a ta f) (hb : SE K X b tb g) : SE K X (.BinOp a .Sub b pos) (tOp (rI0 fun i j => .int (i - j)) ta tb) (dOp2 opSub f g) := se_op prim_sub op_sub ha hb
theorem se_mul (ha : SE K X a ta f) (hb : SE K X b tb g) (hK : X.K = K := by rfl) : SE K X (.BinOp a .Mult b pos) (tOp (rMulD K) ta tb) (dOp2 opMul f g) := by
  subst hK
  exact se_op prim_mul op_mulD ha hb
theorem se_div (ha : SE K X a ta f) (hb : SE K X b tb g) : SE K X (.BinOp a .FloorDiv b pos) (tOp (rI CDivW fun i j => .int (i / j)) ta tb) (dOp2 opDiv f g) := se_op prim_div op_fdivW ha hb
theorem se_mod (ha : SE K X a ta f) (hb : SE K X b tb g) : SE K X (.BinOp a .Mod b pos) (tOp (rI (fun _ j => 0 < j) fun i j => .int (i % j)) ta tb) (dOp2 opMod f g) := se_op prim_mod op_mod ha hb
theorem se_pow (ha : SE K X a ta f) (hb : SE K X b tb g) : SE K X (.BinOp a .Pow b pos) (tOp (rI CPow fun i j => .int (i ^ j.toNat)) ta tb) (dOp2 opPow f g) := se_op prim_pow op_pow ha hb
theorem se_neg (ha : SE K X a ta f) : SE K X (.UnaryOp .USub a pos) (tUn (rU fun i => .int (-i)) ta) (dOp1 opNeg f) := ⟨pe_un un_neg ha.pe, snd_op1 prim_neg ha.sn⟩
theorem se_cmp {op : CmpOp} {r : R2} {o : D → D → Option Rv} (hp : Prim2 K r o) (ho : OpR X (compareOp op) r) (hm : behindInMarks op b = false) (ha : SE K X a ta f) (hb : SE K X b tb g) : SE K X (.Compare a [op] [b] pos) (tOp r ta tb) (dOp2 o f g) := ⟨pe_cmpR ho ha.pe hb.pe hm, snd_op2 hp ha.sn hb.sn⟩
theorem st_cmp {op : CmpOp} {r : R2} {o : D → D → Option Rv} (hp : Prim2 K r o) (ho : OpR X (compareOp op) r) (hm : behindInMarks op b = false) (ha : SE K X a ta f) (hb : SE K X b tb g) : ST K X (.Compare a [op] [b] pos) (tTest (tOp r ta tb)) (dTest (dOp2 o f g)) := ⟨pt_cmpR ho ha.pe hb.pe hm, snd_testC (snd_op2 hp ha.sn hb.sn)⟩
/-- an expression that gives a bool, as a test -/
theorem st_val (ha : SE K X a ta f) (he : ∀ whole, isTrue a X.env whole = (do let v ← whole; standAt a.pos; holding [v] (truthy v)) := by intro _; rfl) : ST K X a (tB ta) (dTest f) := ⟨pt_val ha.pe he, snd_test ha.sn⟩
variable {t u : TT} {ft gt : DT}
theorem st_not (ha : ST K X a t ft) : ST K X (.UnaryOp .Not a pos) (tNot t) (dNot ft) := ⟨pt_not ha.pe, snd_not ha.sn⟩
theorem sw_and1 (ha : ST K X a t ft) : SW K X (.BoolOp .And [a] pos) t ft := ⟨pw_and1 ha.pe, ha.sn⟩
theorem sw_or1 (ha : ST K X a t ft) : SW K X (.BoolOp .Or [a] pos) t ft := ⟨pw_or1 ha.pe, ha.sn⟩
theorem sw_and {r : List Expr} (ha : ST K X a t ft) (hb : SW K X (.BoolOp .And (b :: r) pos) u gt) : SW K X (.BoolOp .And (a :: b :: r) pos) (tAnd t u) (dAnd ft gt) := ⟨pw_and ha.pe hb.pe, snd_and ha.sn hb.sn⟩
theorem sw_or {r : List Expr} (ha : ST K X a t ft) (hb : SW K X (.BoolOp .Or (b :: r) pos) u gt) : SW K X (.BoolOp .Or (a :: b :: r) pos) (tOr t u) (dOr ft gt) := ⟨pw_or ha.pe hb.pe, snd_or ha.sn hb.sn⟩
theorem st_w (ha : SW K X a t ft) : ST K X a t ft := ⟨ha.pe.pt, ha.sn⟩
theorem se_one {op} (ha : SE K X a ta f) : SE K X (.BoolOp op [a] pos) ta f := ⟨pe_one ha.pe, ha.sn⟩
theorem se_and {r : List Expr} (ha : SE K X a ta f) (hb : SE K X (.BoolOp .And (b :: r) pos) tb g) : SE K X (.BoolOp .And (a :: b :: r) pos) (tAndV ta tb) (dAndV f g) := ⟨pe_and ha.pe hb.pe, snd_andV ha.sn hb.sn⟩
theorem se_or {r : List Expr} (ha : SE K X a ta f) (hb : SE K X (.BoolOp .Or (b :: r) pos) tb g) : SE K X (.BoolOp .Or (a :: b :: r) pos) (tOrV ta tb) (dOrV f g) := ⟨pe_or ha.pe hb.pe, snd_orV ha.sn hb.sn⟩
theorem se_not (ha : SE K X a ta f) : SE K X (.UnaryOp .Not a pos) (tNotV ta) (dNotV f) := ⟨pe_not ha.pe, snd_notV ha.sn⟩
theorem se_if (hc : ST K X c t ft) (ha : SE K X a ta f) (hb : SE K X b tb g) : SE K X (.IfExp c a b pos) (tIf t ta tb) (dIf ft f g) := ⟨pe_ifExp hc.pe ha.pe hb.pe, snd_if hc.sn ha.sn hb.sn⟩
/-! lists of arguments -/
variable {tr tk : TA} {fr fk : DA}
theorem sa_nil : SA K X [] tNil dNil := ⟨pa_nil, snd_nil⟩
theorem sa_cons (ha : SE K X e te f) (hr : SA K X es tr fr) (hs : starEach (e :: es) X.env = (false, eval e X.env) :: starEach es X.env := by rfl) : SA K X (e :: es) (tCons te tr) (dCons f fr) := ⟨pa_cons ha.pe hr.pe hs, snd_cons ha.sn hr.sn⟩
theorem sk_nil : SK K X [] tNil dNil := ⟨pk_nil, snd_nil⟩
theorem sk_cons {nm : Option Str} {kpos : Pos} {kws : List Keyword} (ha : SE K X e te f) (hr : SK K X kws tr fr) : SK K X (⟨nm, e, kpos⟩ :: kws) (tCons te tr) (dCons f fr) := ⟨pk_cons ha.pe hr.pe, snd_cons ha.sn hr.sn⟩
theorem se_tup {k} (h : SA K X es tr fr) : SE K X (.Tuple es k pos) (tTup tr) (dTup fr) := ⟨pe_tup h.pe, snd_tup h.sn⟩
theorem se_lst (h : SA K X es tr fr) : SE K X (.List es pos) (tLst tr) (dList fr) := ⟨pe_lst h.pe, snd_list h.sn⟩
/-! subscripts -/
theorem se_ix (ha : SE K X a ta f) (hb : SE K X b tb g) (hs : PlainIx b := by intro _ _; rfl) (hK : X.K = K := by rfl) : SE K X (.Subscript a b pos) (tOp (rIx K) ta tb) (dOp2 opIx f g) := by
  subst hK
  exact ⟨pe_ix ix_seq ha.pe hb.pe hs, snd_op2 prim_ix ha.sn hb.sn⟩
theorem so_none : SO K X none tNoPart dNoPart := ⟨po_none, snd_nopart⟩
theorem so_some (ha : SE K X a ta f) : SO K X (some a) (tPart ta) (dPart f) := ⟨po_some ha.pe, snd_part ha.sn⟩
theorem se_slice {lo hi : Option Expr} {p2 : Pos} {tl th : TO} {fl fh : DO} (ha : SE K X a ta f) (hl : SO K X lo tl fl) (hh : SO K X hi th fh) (hK : X.K = K := by rfl) : SE K X (.Subscript a (.Slice lo hi none p2) pos) (tSl (rSlL K) ta tl th) (dSlice opSlice f fl fh) := by
  subst hK
  exact ⟨pe_slice sl_list ha.pe hl.pe hh.pe, snd_slice prim_slice ha.sn hl.sn hh.sn⟩
theorem se_rev {k : Nat} {p1 p2 p3 : Pos} (ha : SE K X a ta f) (hK : X.K = K := by rfl) : SE K X (.Subscript a (.Slice none none (some (.UnaryOp .USub (.Constant (.int 1) k p1) p2)) p3) pos) (tRevL K ta) (dOp1 opRev f) := by
  subst hK
  exact ⟨pe_revL ha.pe, snd_rev ha.sn⟩
/-! calls of built-ins -/
theorem se_callB {id : String} {r : List V → Hp → VK → Prop} {o : List D → Option Rv} (hp : PrimN K r o) (hc : CallR X (.builtin id) r) (hg : Gl X x) (hm : X.mg x = none) (hv : bootBuiltins x = some (.builtin id)) (ha : SA K X (e :: es) tr fr) (hn : x ≠ "__name__" := by decide) (hdb : (x == ("__debug__" : Str)) = false := by decide)
    (he : starEach (e :: es) X.env = (false, eval e X.env) :: starEach es X.env := by rfl) (hpl : (backTo pos (starEach es X.env)).any (·.1) = false := by rfl) : SE K X (.Call (.Name x p) (e :: es) [] pos) (tCB r tr) (dCallB o fr) := ⟨pe_callB hc hg hm hv ha.pe hn hdb he hpl, snd_callB hp ha.sn⟩
theorem se_callTy {T : String} {r : List V → Hp → VK → Prop} {o : List D → Option Rv} (hp : PrimN K r o) (hc : CallR X (.type T) r) (hg : Gl X x) (hm : X.mg x = none) (hv : bootBuiltins x = some (.type T)) (ha : SA K X (e :: es) tr fr) (hn : x ≠ "__name__" := by decide) (hdb : (x == ("__debug__" : Str)) = false := by decide)
    (he : starEach (e :: es) X.env = (false, eval e X.env) :: starEach es X.env := by rfl) (hpl : (backTo pos (starEach es X.env)).any (·.1) = false := by rfl) : SE K X (.Call (.Name x p) (e :: es) [] pos) (tCB r tr) (dCallB o fr) := ⟨pe_callTy hc hg hm hv ha.pe hn hdb he hpl, snd_callB hp ha.sn⟩
/-- isinstance(e, T) -/
theorem se_isi {T : String} {y : Str} {p2 : Pos} (hT : TyOkc T) (hg : Gl X "isinstance") (hm : X.mg "isinstance" = none) (hb : bootBuiltins "isinstance" = some (.builtin "isinstance")) (hg2 : Gl X y) (hm2 : X.mg y = none) (hb2 : bootBuiltins y = some (.type T)) (ha : SE K X a ta f) (hn : y ≠ "__name__" := by decide) (hd : (y == ("__debug__" : Str)) = false := by decide)
    (h1 : starEach [a, .Name y p2] X.env = (false, eval a X.env) :: starEach [.Name y p2] X.env := by rfl) (h2 : starEach [.Name y p2] X.env = (false, eval (.Name y p2) X.env) :: starEach [] X.env := by rfl) (h3 : (backTo pos (starEach [.Name y p2] X.env)).any (·.1) = false := by rfl) (hK : X.K = K := by rfl) :
    SE K X (.Call (.Name "isinstance" p) [a, .Name y p2] [] pos) (tCB (rIsi K) (tCons ta (tCons (tC (.ty T)) tNil))) (dOp1 (bIsi T) f) := by
  subst hK
  exact ⟨pe_callB call_isi hg hm hb (pa_cons ha.pe (pa_cons (pe_bltn (v := .ty T) hg2 hm2 hb2 rfl hn hd) pa_nil h2) h1) (by decide) (by decide) h1 h3, snd_isi hT ha.sn⟩
/-- isinstance(e, (T, U)) -/
theorem se_isi2 {T U : String} {y z : Str} {p2 p3 p4 : Pos} {k} (hT : TyOkc T) (hU : TyOkc U) (hg : Gl X "isinstance") (hm : X.mg "isinstance" = none) (hb : bootBuiltins "isinstance" = some (.builtin "isinstance")) (hg2 : Gl X y) (hm2 : X.mg y = none) (hb2 : bootBuiltins y = some (.type T)) (hg3 : Gl X z) (hm3 : X.mg z = none) (hb3 : bootBuiltins z = some (.type U)) (ha : SE K X a ta f)
    (hn : y ≠ "__name__" := by decide) (hd : (y == ("__debug__" : Str)) = false := by decide) (hn' : z ≠ "__name__" := by decide) (hd' : (z == ("__debug__" : Str)) = false := by decide)
    (h1 : starEach [a, .Tuple [.Name y p2, .Name z p3] k p4] X.env = (false, eval a X.env) :: starEach [.Tuple [.Name y p2, .Name z p3] k p4] X.env := by rfl) (h2 : starEach [.Tuple [.Name y p2, .Name z p3] k p4] X.env = (false, eval (.Tuple [.Name y p2, .Name z p3] k p4) X.env) :: starEach [] X.env := by rfl) (h3 : (backTo pos (starEach [.Tuple [.Name y p2, .Name z p3] k p4] X.env)).any (·.1) = false := by rfl)
    (h4 : starEach [.Name y p2, .Name z p3] X.env = (false, eval (.Name y p2) X.env) :: starEach [.Name z p3] X.env := by rfl) (h5 : starEach [.Name z p3] X.env = (false, eval (.Name z p3) X.env) :: starEach [] X.env := by rfl) (hK : X.K = K := by rfl) :
    SE K X (.Call (.Name "isinstance" p) [a, .Tuple [.Name y p2, .Name z p3] k p4] [] pos) (tCB (rIsiT K) (tCons ta (tCons (tTup (tCons (tC (.ty T)) (tCons (tC (.ty U)) tNil))) tNil))) (dOp1 (bIsi2 T U) f) := by
  subst hK
  exact ⟨pe_callB call_isiT hg hm hb (pa_cons ha.pe (pa_cons (pe_tup (pa_cons (pe_bltn (v := .ty T) hg2 hm2 hb2 rfl hn hd) (pa_cons (pe_bltn (v := .ty U) hg3 hm3 hb3 rfl hn' hd') pa_nil h5) h4)) pa_nil h2) h1) (by decide) (by decide) h1 h3, snd_isi2 hT hU ha.sn⟩
/-! calls of defs -/
theorem se_call {lv n : Nat} {fa : Addr} {fd : FuncData} {ps : List Str} {G : Fn} {ds : List Value} {dvs : List V} {modes : List Bool} {more : List PyData} (F : FnG X.prog X.w X.K X.mg X.base CX0 lv fa fd ps (spD K n G)) (hr : Room lv X.A) (gd : X.A.guards = some []) (hg : Gl X x) (hm : X.mg x = some (.ref fa)) (kp : PySem.W.keepIn X.K (.ref fa) = true) (hb : Binds X.K fd ps ds) (hd : Vals dvs ds)
    (hdd : ∀ (F : Addr → Prop) (H : Hp), RpAll K F H dvs more) (hn : modes.length + more.length = n) (ha : SA K X (e :: es) tr fr) (h1 : (x == ("__debug__" : Str)) = false := by decide) (h2 : starEach (e :: es) X.env = (false, eval e X.env) :: starEach es X.env := by rfl) (h3 : (backTo pos (starEach es X.env)).any (·.1) = false := by rfl) (hK : X.K = K := by rfl) :
    SE K X (.Call (.Name x p) (e :: es) [] pos) (tCall (spD K n G) dvs E0 tr) (dCall G modes more fr) := by
  subst hK
  exact ⟨pe_callG F hr gd hg hm kp hb hd pass0 ha.pe h1 h2 h3, snd_call hdd hn ha.sn⟩
theorem se_call0 {lv n : Nat} {fa : Addr} {fd : FuncData} {ps : List Str} {G : Fn} {ds : List Value} {dvs : List V} {more : List PyData} (F : FnG X.prog X.w X.K X.mg X.base CX0 lv fa fd ps (spD K n G)) (hr : Room lv X.A) (gd : X.A.guards = some []) (hg : Gl X x) (hm : X.mg x = some (.ref fa)) (kp : PySem.W.keepIn X.K (.ref fa) = true) (hb : Binds X.K fd ps ds) (hd : Vals dvs ds)
    (hdd : ∀ (F : Addr → Prop) (H : Hp), RpAll K F H dvs more) (hn : ([] : List Bool).length + more.length = n) (h1 : (x == ("__debug__" : Str)) = false := by decide) (hK : X.K = K := by rfl) :
    SE K X (.Call (.Name x p) [] [] pos) (tCall (spD K n G) dvs E0 tNil) (dCall G [] more dNil) := by
  subst hK
  exact ⟨pe_call0G F hr gd hg hm kp hb hd pass0 h1, snd_call hdd hn snd_nil⟩
theorem se_callP {lv l n : Nat} {fa : Addr} {fd : FuncData} {ps ks : List Str} {G : Fn} {ds : List Value} {dvs : List V} {perm : List Nat} {more : List PyData} {kws : List Keyword} {m : Nat} (F : FnG X.prog X.w X.K X.mg X.base CX0 lv fa fd ps (spD K l G)) (hr : Room lv X.A) (gd : X.A.guards = some []) (hg : Gl X x) (hm : X.mg x = some (.ref fa)) (kp : PySem.W.keepIn X.K (.ref fa) = true) (hb : KB X.K fd ps ks n perm ds) (hd : Vals dvs ds)
    (hdd : ∀ (F : Addr → Prop) (H : Hp), RpAll K F H dvs more) (hm : ks.length = m) (hl : (permute perm (List.replicate (n + m + more.length) ())).length = l) (ha : SA K X (e :: es) tr fr) (hk : SK K X kws tk fk) (k1 : (backToKw pos (keywordEach kws X.env)).all (·.1.isSome) = true := by rfl) (k2 : (backToKw pos (keywordEach kws X.env)).filterMap (·.1) = ks := by rfl)
    (h1 : (x == ("__debug__" : Str)) = false := by decide) (h2 : starEach (e :: es) X.env = (false, eval e X.env) :: starEach es X.env := by rfl) (h3 : ((backTo pos (starEach (e :: es) X.env)).any (·.1) || (backToKw pos (keywordEach kws X.env)).any (·.1.isNone)) = false := by rfl) (hK : X.K = K := by rfl) :
    SE K X (.Call (.Name x p) (e :: es) kws pos) (tCallP n m perm dvs (spD K l G) E0 tr tk) (dCallK G n m perm more fr fk) := by
  subst hK hm
  exact ⟨pe_callP F hr gd hg hm kp hb hd pass0 ha.pe hk.pe k1 k2 h1 h2 h3, snd_callP hdd hl ha.sn hk.sn⟩
theorem se_callP0 {lv l : Nat} {fa : Addr} {fd : FuncData} {ps ks : List Str} {G : Fn} {ds : List Value} {dvs : List V} {perm : List Nat} {more : List PyData} {kws : List Keyword} {m : Nat} (F : FnG X.prog X.w X.K X.mg X.base CX0 lv fa fd ps (spD K l G)) (hr : Room lv X.A) (gd : X.A.guards = some []) (hg : Gl X x) (hm : X.mg x = some (.ref fa)) (kp : PySem.W.keepIn X.K (.ref fa) = true) (hb : KB X.K fd ps ks 0 perm ds) (hd : Vals dvs ds)
    (hdd : ∀ (F : Addr → Prop) (H : Hp), RpAll K F H dvs more) (hm : ks.length = m) (hl : (permute perm (List.replicate (0 + m + more.length) ())).length = l) (hk : SK K X kws tk fk) (k1 : (backToKw pos (keywordEach kws X.env)).all (·.1.isSome) = true := by rfl) (k2 : (backToKw pos (keywordEach kws X.env)).filterMap (·.1) = ks := by rfl)
    (h1 : (x == ("__debug__" : Str)) = false := by decide) (h3 : ((backTo pos (starEach [] X.env)).any (·.1) || (backToKw pos (keywordEach kws X.env)).any (·.1.isNone)) = false := by rfl) (hK : X.K = K := by rfl) :
    SE K X (.Call (.Name x p) [] kws pos) (tCallP 0 m perm dvs (spD K l G) E0 tNil tk) (dCallK G 0 m perm more dNil fk) := by
  subst hK hm
  exact ⟨pe_callP0 F hr gd hg hm kp hb hd pass0 hk.pe k1 k2 h1 h3, snd_callP hdd hl snd_nil hk.sn⟩
/-! walked things -/
variable {tg : Expr}
theorem si_list (ha : SE K X a ta f) (hK : X.K = K := by rfl) : SI K X tg a (L2.iList K ta) (dIter DL.iList f) := by
  subst hK
  exact ⟨pi_list ha.pe, snd_ilist ha.sn⟩
theorem si_tup (ha : SE K X a ta f) (hK : X.K = K := by rfl) : SI K X tg a (L2.iTup K ta) (dIter DL.iTup f) := by
  subst hK
  exact ⟨pi_tup ha.pe, snd_itup ha.sn⟩
def iSeqT (K : PySem.W.Frag) (tl : TE) : TI := fun σ H R => tl σ H fun x H1 => ∃ a, x = .ref a ∧ (((∃ xs, SqL K H1 a xs) ∧ R (Itl K a) H1) ∨ ((∃ xs, SqT K H1 a xs) ∧ R (Itt K a) H1))
theorem pi_seq {l : Expr} {tl : TE} (hl : PE X l tl) : PI X tg l (iSeqT X.K tl) := by
  refine ⟨fun pins s σ H R I h => ?_⟩
  refine thn (hl.run pins s σ H _ I h) fun v s1 ⟨x, H1, I1, r1, q1⟩ => ?_
  obtain ⟨a, e, q1⟩ := q1
  subst e
  cases r1
  rcases q1 with ⟨⟨xs, hq⟩, q⟩ | ⟨⟨xs, hq⟩, q⟩
  · obtain ⟨its, rv, p, hz⟩ := I1.list hq
    refine wpAny_pyIter_list p.isList ?_
    refine ⟨s1.heap.objs.size, [s1.heap.objs.size], _, _, H1, rfl, I1.kept (t' := s1.toks) fun b o e => Heap.get?_push_of_some _ e, turn_list a _, ⟨_, Heap.get?_push_size _ rfl, rfl, rfl⟩, fun b hb => ?_, q⟩
    have e : b = s1.heap.objs.size := by simpa using hb
    subst e
    exact I1.fpOk (Nat.le_refl _) (I1.hok.fresh (Nat.le_refl _))
  · obtain ⟨its, rv, p, hz⟩ := I1.tuple hq
    refine wpAny_pyIter_tuple (show s1.heap.IsTuple a its.toArray from p) ?_
    refine ⟨s1.heap.objs.size, [s1.heap.objs.size], _, _, H1, rfl, I1.kept (t' := s1.toks) fun b o e => Heap.get?_push_of_some _ e, turn_tuple a _, ⟨_, Heap.get?_push_size _ rfl, rfl, rfl⟩, fun b hb => ?_, q⟩
    have e : b = s1.heap.objs.size := by simpa using hb
    subst e
    exact I1.fpOk (Nat.le_refl _) (I1.hok.fresh (Nat.le_refl _))
theorem snd_iseq {t : TE} {f : DE} (a : SndE K t f) : SndI K (iSeqT K t) (dIter DL.iSeq f) := by
  intro H0 M st σ F H ds st' R S e q
  obtain ⟨p, e1, e⟩ := bs e
  obtain ⟨⟨y, s2⟩, e2, e⟩ := bs e
  obtain ⟨zs, e3, e⟩ := bs e
  cases e
  refine a H0 M st σ F H p.1 p.2 _ S e1 fun v F1 H1 S1 E1 f1 r1 => ?_
  obtain ⟨F2, S2, E2, r2, _⟩ := toD_ok S1 E1 r1.weak e2
  cases y <;> try (cases e3; done)
  · cases e3
    cases r2 with
    | lst h hs => exact ⟨_, rfl, .inl ⟨⟨_, h.sql⟩, q _ F2 H1 S2 E2 (wd_list h hs)⟩⟩
  · cases e3
    cases r2 with
    | tup h hs => exact ⟨_, rfl, .inr ⟨⟨_, h⟩, q _ F2 H1 S2 E2 (wd_tup h hs)⟩⟩
theorem si_seq (ha : SE K X a ta f) (hK : X.K = K := by rfl) : SI K X tg a (iSeqT K ta) (dIter DL.iSeq f) := by
  subst hK
  exact ⟨pi_seq ha.pe, snd_iseq ha.sn⟩
theorem si_range1 (hg : Gl X "range") (hm : X.mg "range" = none) (ha : SA K X [a] tr fr) (hs : starEach [a] X.env = [(false, eval a X.env)] := by rfl) : SI K X tg (.Call (.Name "range" p) [a] [] pos) (iRng1 tr) (dIterA iRange1 fr) := ⟨pi_range1 hg hm ha.pe hs, snd_irange1 ha.sn⟩
theorem si_range2 (hg : Gl X "range") (hm : X.mg "range" = none) (ha : SA K X [a, b] tr fr) (hs : starEach [a, b] X.env = [(false, eval a X.env), (false, eval b X.env)] := by rfl) (hs2 : starEach [b] X.env = [(false, eval b X.env)] := by rfl) : SI K X tg (.Call (.Name "range" p) [a, b] [] pos) (iRng2 tr) (dIterA iRange2 fr) := ⟨pi_range2 hg hm ha.pe hs hs2, snd_irange2 ha.sn⟩
theorem si_zip {tpos : Pos} {elts : List Expr} {kk : Nat} (hg : Gl X "zip") (hm : X.mg "zip" = none) (ha : SA K X [a, b] tr fr) (hs : starEach [a, b] X.env = (false, eval a X.env) :: starEach [b] X.env := by rfl) (hpl : (backTo pos (starEach [b] X.env)).any (·.1) = false := by rfl) (hK : X.K = K := by rfl) :
    SI K X (.Tuple elts kk tpos) (.Call (.Name "zip" p) [a, b] [] pos) (RZ.iZipA K tr) (dIterA DL.iZip fr) := by
  subst hK
  exact ⟨RZ.pi_zipA hg hm ha.pe hs hpl, snd_izip ha.sn⟩
theorem si_enum {tpos : Pos} {elts : List Expr} {kk : Nat} (hg : Gl X "enumerate") (hm : X.mg "enumerate" = none) (ha : SA K X [a] tr fr) (hs : starEach [a] X.env = [(false, eval a X.env)] := by rfl) (hK : X.K = K := by rfl) :
    SI K X (.Tuple elts kk tpos) (.Call (.Name "enumerate" p) [a] [] pos) (L2.iEnum K tr) (dIterA DL.iEnum fr) := by
  subst hK
  exact ⟨pi_enum hg hm ha.pe hs, snd_ienum ha.sn⟩
/-! targets -/
theorem sg_name (i : Nat) (hN : X.N.Nodup) (hi : X.N[i]? = some x) (hx : Loc X.env.scope x) (hf : X.fn x = true ∨ X.env.scope.names.lookup x = some .local := by first | exact .inl rfl | exact .inr rfl | assumption) : SG K X (.Name x pos) [i] (L2.gName i) (DL.gName i) := ⟨pg_name hN hi hx hf, snd_gname⟩
theorem sgs_nil : SGs K X [] [] L2.gNil DL.gNil := ⟨pgs_nil, snd_gnil⟩
theorem sgs_cons {is js : List Nat} {t : TG} {u : TGs} {dg : DG} {dh : DGs} (h1 : SG K X e is t dg) (h2 : SGs K X es js u dh) (hs : (assignEach (e :: es) X.env).map (·.2) = assign e X.env :: (assignEach es X.env).map (·.2) := by rfl) : SGs K X (e :: es) (is ++ js) (L2.gCons t u) (DL.gCons dg dh) := ⟨pgs_cons h1.pe h2.pe hs, snd_gcons h1.sn h2.sn⟩
theorem sg_tup {is : List Nat} {k : Nat} {t : TGs} {dh : DGs} {n : Nat} (hc : X.calm = true) (h : SGs K X es is t dh) (hn : (assignEach es X.env).length = n := by rfl) (hst : (assignEach es X.env).findIdx? (·.1) = none := by rfl) (hK : X.K = K := by rfl) : SG K X (.Tuple es k pos) is (L2.gTup K n t) (DL.gTup n dh) := by
  subst hK
  exact ⟨pg_tup hc h.pe hn hst, snd_gtup h.sn⟩
/-! comprehensions -/
structure STs (K : PySem.W.Frag) (X : Cx) (es : List Expr) (t : TT) (f : DT) : Prop where
  pe : PTs X es t
  sn : SndT K t f
theorem snd_yes : SndT K tYes dTests := by
  intro H0 M st σ F H b st' Q S e q
  cases e
  exact q F H S .refl trivial
theorem sts_nil : STs K X [] tYes dTests := ⟨pts_nil, snd_yes⟩
theorem sts_one (h : ST K X a t ft) : STs K X [a] t ft := ⟨pts_one h.pe, h.sn⟩
theorem se_lc {elt tgt iter : Expr} {ifs : List Expr} {scope : Scope} {own : List (Str × Nat)} {is vs : List Nat} {wi : TI} {tgr : TG} {tt : TT} {teL : TE} {it : DI} {dg : DG} {dt : DT} {de : DE} (hc : X.calm = true) (hN : X.N.Nodup) (hi : SI K X tgt iter wi it) (ok : BlkOk X.N X.env.scope scope own)
    (hg : ∀ (s : Shared) (H : Hp) (C : Addr) (cl : List (Str × Addr)) (fp : List Addr), SG K (X.blk s H scope (compEnvC scope cl C X.env) fp) tgt is tgr dg) (ht : ∀ (s : Shared) (H : Hp) (C : Addr) (cl : List (Str × Addr)) (fp : List Addr), STs K (X.blk s H scope (compEnvC scope cl C X.env) fp) ifs tt dt)
    (he : ∀ (s : Shared) (H : Hp) (C : Addr) (cl : List (Str × Addr)) (fp : List Addr), SE K (X.blk s H scope (compEnvC scope cl C X.env) fp) elt teL de) (hvs : own.map (·.2) = vs) (hsub : ∀ j ∈ is, j ∈ vs) (hs : ∀ x, foldedSetIterable iter X.env x = pure x := by intro _; rfl) (hK : X.K = K := by rfl) :
    SE K X (.ListComp elt [⟨tgt, iter, ifs, 0⟩] scope pos) (tLc wi tgr tt teL vs) (dLc it dg dt de vs) := by
  subst hK
  subst hvs
  exact
  ⟨pe_lc hc hN hi.pe ok (fun s H C cl fp => (hg s H C cl fp).pe) (fun s H C cl fp => (ht s H C cl fp).pe) (fun s H C cl fp => (he s H C cl fp).pe) hs,
    snd_lc hi.sn (hg {} (fun _ => none) 0 [] []).sn (ht {} (fun _ => none) 0 [] []).sn (he {} (fun _ => none) 0 [] []).sn hsub⟩
/-! statements -/
variable {st : Stmt} {rest : List Stmt} {ts us : TS} {fs gs : DS}
theorem sss_nil : SSs K X [] tNext dNext := ⟨pss_nil, snd_next⟩
theorem sss_cons (h1 : SS K X st ts fs) (h2 : SSs K X rest us gs) : SSs K X (st :: rest) (tSeq ts us) (dSeq fs gs) := ⟨pss_cons h1.pe h2.pe, snd_seq h1.sn h2.sn⟩
theorem sss_one (h1 : SS K X st ts fs) : SSs K X [st] ts fs := ⟨pss_one h1.pe, h1.sn⟩
theorem sss_never {sts : List Stmt} : SSs K X sts tNever dNever := ⟨pss_never, snd_never⟩
theorem ss_never : SS K X st tNever dNever := ⟨ps_never, snd_never⟩
theorem ss_pass : SS K X (.Pass pos) tNext dNext := ⟨ps_pass, snd_next⟩
theorem ss_break : SS K X (.Break pos) tBreak dBreak := ⟨ps_break, snd_break⟩
theorem ss_continue : SS K X (.Continue pos) tCont dCont := ⟨ps_continue, snd_cont⟩
theorem ss_set (i : Nat) {pos' : Pos} (hN : X.N.Nodup) (hi : X.N[i]? = some x) (hx : Loc X.env.scope x) (he : SE K X e te f) (hs : swapsWith e (some (.Name x pos')) pos.line X.env = pure false := by rfl) (hf : X.fn x = true ∨ X.env.scope.names.lookup x = some .local := by first | exact .inl rfl | exact .inr rfl | assumption) :
    SS K X (.Assign [.Name x pos'] e pos) (tAsg te (L2.gName i)) (dSet i f) := ⟨ps_set hN hi hx he.pe hs hf, snd_set he.sn⟩
theorem ss_setLc (i : Nat) {py lpos : Pos} {elt tgt iter : Expr} {ifs : List Expr} {scope : Scope} {own : List (Str × Nat)} {is vs : List Nat} {wi : TI} {tgr : TG} {tt : TT} {teL : TE} {it : DI} {dg : DG} {dt : DT} {de : DE} (hc : X.calm = true) (hN : X.N.Nodup) (hy : X.N[i]? = some x) (hyl : X.env.scope.names.lookup x = some .local)
    (hsw : swapsWith (.ListComp elt [⟨tgt, iter, ifs, 0⟩] scope lpos) (some (.Name x py)) pos.line X.env = pure true) (hi : SI K X tgt iter wi it) (ok : BlkOk X.N X.env.scope scope own)
    (hg : ∀ (s : Shared) (H : Hp) (C : Addr) (cl : List (Str × Addr)) (fp : List Addr), SG K (X.blk s H scope (compEnvC scope cl C X.env) fp) tgt is tgr dg) (ht : ∀ (s : Shared) (H : Hp) (C : Addr) (cl : List (Str × Addr)) (fp : List Addr), STs K (X.blk s H scope (compEnvC scope cl C X.env) fp) ifs tt dt)
    (he : ∀ (s : Shared) (H : Hp) (C : Addr) (cl : List (Str × Addr)) (fp : List Addr), SE K (X.blk s H scope (compEnvC scope cl C X.env) fp) elt teL de) (hvs : own.map (·.2) = vs) (hsub : ∀ j ∈ is, j ∈ vs) (hs : ∀ x, foldedSetIterable iter X.env x = pure x := by intro _; rfl) (hK : X.K = K := by rfl) :
    SS K X (.Assign [.Name x py] (.ListComp elt [⟨tgt, iter, ifs, 0⟩] scope lpos) pos) (tAsg (tLc wi tgr tt teL vs) (L2.gName i)) (dSet i (dLc it dg dt de vs)) := by
  subst hK
  subst hvs
  exact
  ⟨ps_setLc hc hN hy hyl hsw hi.pe ok (fun s H C cl fp => (hg s H C cl fp).pe) (fun s H C cl fp => (ht s H C cl fp).pe) (fun s H C cl fp => (he s H C cl fp).pe) hs,
    snd_set (snd_lc hi.sn (hg {} (fun _ => none) 0 [] []).sn (ht {} (fun _ => none) 0 [] []).sn (he {} (fun _ => none) 0 [] []).sn hsub)⟩
theorem ss_asg {is : List Nat} {tgr : TG} {dg : DG} (he : SE K X e te f) (hg : SG K X tg is tgr dg) (hs : swapsWithSole [tg] e pos.line X.env = pure false := by rfl) (hw : swappedStores [tg] e X.env = pure none := by rfl) (h1 : (assignEach [tg] X.env).map (·.2) = [assign tg X.env] := by rfl) :
    SS K X (.Assign [tg] e pos) (tAsg te tgr) (dAsg dg f) := ⟨ps_asg he.pe hg.pe hs hw h1, snd_asg he.sn hg.sn⟩
theorem ss_par (i j : Nat) {y : Str} {px py pt : Pos} {kt k2 pt2} (hc : X.calm = true) (hN : X.N.Nodup) (hi : X.N[i]? = some x) (hj : X.N[j]? = some y) (hij : i ≠ j) (hx : X.env.scope.names.lookup x = some .local) (hy : X.env.scope.names.lookup y = some .local) (ha : SA K X [a, b] tr fr)
    (hw : swappedStores [.Tuple [.Name x px, .Name y py] kt pt] (.Tuple [a, b] k2 pt2) X.env = pure (some [x, y])) (hs : swapsWithSole [.Tuple [.Name x px, .Name y py] kt pt] (.Tuple [a, b] k2 pt2) pos.line X.env = pure false := by rfl) :
    SS K X (.Assign [.Tuple [.Name x px, .Name y py] kt pt] (.Tuple [a, b] k2 pt2) pos) (tPar i j tr) (dPar [i, j] fr) := ⟨ps_par hc hN hi hj hij hx hy ha.pe hw hs, snd_par2 ha.sn⟩
theorem ss_par3 (i j l : Nat) {y z : Str} {px py pz pt : Pos} {kt k2 pt2} (hc : X.calm = true) (hN : X.N.Nodup) (hi : X.N[i]? = some x) (hj : X.N[j]? = some y) (hl : X.N[l]? = some z) (hij : i ≠ j) (hil : i ≠ l) (hjl : j ≠ l) (hx : X.env.scope.names.lookup x = some .local) (hy : X.env.scope.names.lookup y = some .local) (hz : X.env.scope.names.lookup z = some .local) (ha : SA K X [a, b, c] tr fr)
    (hw : swappedStores [.Tuple [.Name x px, .Name y py, .Name z pz] kt pt] (.Tuple [a, b, c] k2 pt2) X.env = pure (some [x, y, z])) (hs : swapsWithSole [.Tuple [.Name x px, .Name y py, .Name z pz] kt pt] (.Tuple [a, b, c] k2 pt2) pos.line X.env = pure false := by rfl) :
    SS K X (.Assign [.Tuple [.Name x px, .Name y py, .Name z pz] kt pt] (.Tuple [a, b, c] k2 pt2) pos) (tPar3 i j l tr) (dPar [i, j, l] fr) := ⟨ps_par3 hc hN hi hj hl hij hil hjl hx hy hz ha.pe hw hs, snd_par3 ha.sn⟩
theorem ss_augAdd (i : Nat) {pos' : Pos} (hN : X.N.Nodup) (hi : X.N[i]? = some x) (hx : Loc X.env.scope x) (he : SE K X e te f) (hf : X.fn x = true ∨ X.env.scope.names.lookup x = some .local := by first | exact .inl rfl | exact .inr rfl | assumption) : SS K X (.AugAssign (.Name x pos') .Add e pos) (tAug i te (ipI fun i j => i + j)) (dAug opAddI i f) :=
  ⟨ps_aug hN hi hx he.pe ip_add hf, snd_aug prim_addI he.sn⟩
theorem ss_augSub (i : Nat) {pos' : Pos} (hN : X.N.Nodup) (hi : X.N[i]? = some x) (hx : Loc X.env.scope x) (he : SE K X e te f) (hf : X.fn x = true ∨ X.env.scope.names.lookup x = some .local := by first | exact .inl rfl | exact .inr rfl | assumption) : SS K X (.AugAssign (.Name x pos') .Sub e pos) (tAug i te (ipI fun i j => i - j)) (dAug opSub i f) :=
  ⟨ps_aug hN hi hx he.pe ip_sub hf, snd_aug prim_sub he.sn⟩
theorem ss_append (i : Nat) {call : Expr} (hp : PE X e te → PE X call (tBM K "list" rAppend (tVar i) (tCons te tNil))) (he : SE K X e te f) (hs : swapsWith call none pos.line X.env = pure false := by rfl) (hK : X.K = K := by rfl) :
    SS K X (.Expr call pos) (tDrop (tBM K "list" rAppend (tVar i) (tCons te tNil))) (dAppend i f) := by
  subst hK
  exact ⟨ps_expr (hp he.pe) hs, snd_append he.sn⟩
theorem ss_setIx (i : Nat) {p2 : Pos} {o : Expr} (hv : PE X o (tVar i)) (hk : SE K X b tb g) (he : SE K X e te f)
    (ha : ∀ v, assign (.Subscript o b p2) X.env v = (do
      let ov ← holding [v] (eval o X.env)
      let iv ← holding [v, ov] (eval b X.env)
      standAt p2
      holding [v, ov, iv] (setItem ov iv v)
      release [v, ov, iv] []) := by intro _; rfl)
    (hs : swapsWithSole [.Subscript o b p2] e pos.line X.env = pure false := by rfl) (hw : swappedStores [.Subscript o b p2] e X.env = pure none := by rfl) (h1 : (assignEach [.Subscript o b p2] X.env).map (·.2) = [assign (.Subscript o b p2) X.env] := by rfl) (hK : X.K = K := by rfl) :
    SS K X (.Assign [.Subscript o b p2] e pos) (tAsg te (gSub (tVar i) tb rSetL)) (dSetIx i g f) := by
  subst hK
  exact ⟨ps_asg he.pe (pg_sub hv hk.pe set_list ha) hs hw h1, snd_setIx hk.sn he.sn⟩
theorem ss_augIx (i : Nat) {p2 : Pos} {o : Expr} {op : Operator} {tip : TIp} {oo : D → D → Option Rv} (hpr : Prim2 K tip oo) (hp : PIp X op tip) (hv : PE X o (tVar i)) (hk : SE K X b tb g) (he : SE K X e te f) (ha : ∀ ov iv new, augStore b ov iv new = (do holding [new, ov, iv] (setItem ov iv new); release [new, ov, iv] []; pure .next) := by intros; rfl) (hK : X.K = K := by rfl) :
    SS K X (.AugAssign (.Subscript o b p2) op e pos) (tAugS (tVar i) tb te (rIxL K) tip rSetL) (dAugIx oo i g f) := by
  subst hK
  exact ⟨ps_augS hv hk.pe pget_list he.pe hp set_list ha, snd_augIx hpr hk.sn he.sn⟩
theorem ss_drop (he : SE K X e te f) (hs : swapsWith e none pos.line X.env = pure false := by rfl) : SS K X (.Expr e pos) (tDrop te) (dDrop f) := ⟨ps_expr he.pe hs, snd_drop he.sn⟩
theorem ss_ret (he : SE K X e te f) : SS K X (.Return (some e) pos) (tRet te) (dRet f) := ⟨ps_ret he.pe, snd_ret he.sn⟩
theorem ss_retN : SS K X (.Return none pos) tRetN dRetN := ⟨ps_retN, snd_retN⟩
theorem ss_if {s1 s2 : List Stmt} (hc : ST K X c t ft) (h1 : SSs K X s1 ts fs) (h2 : SSs K X s2 us gs) : SS K X (.If c s1 s2 pos) (tIfS t ts us) (dIfS ft fs gs) := ⟨ps_if hc.pe h1.pe h2.pe, snd_ifS hc.sn h1.sn h2.sn⟩
theorem ss_for {is : List Nat} {iter : Expr} {body : List Stmt} {wi : TI} {it : DI} {tgr : TG} {dg : DG} (hp : PassesOwn (model X.prog X.w) X.A X.env X.xe) (hc : X.calm = true) (hi : SI K X tg iter wi it) (hg : SG K X tg is tgr dg) (hb : SSs K X body ts fs) (hs : ∀ x, foldedSetIterable iter X.env x = pure x := by intro _; rfl) :
    SS K X (.For tg iter body [] pos) (tFor wi tgr ts) (dFor it dg fs) := ⟨ps_for hp hc hi.pe hg.pe hb.pe hs, snd_for hi.sn hg.sn hb.sn⟩
theorem ss_while {body : List Stmt} (hp : PassesOwn (model X.prog X.w) X.A X.env X.xe) (hc : ST K X c t ft) (hb : SSs K X body ts fs) : SS K X (.While c body [] pos) (tWhile t ts) (dWhile ft fs) := ⟨ps_while hp hc.pe hb.pe, snd_while hc.sn hb.sn⟩
end
end DL
end

section
set_option Elab.async false
set_option linter.all false
set_option maxRecDepth 100000
set_option maxHeartbeats 1000000
/-! DLmore: further rules: a op b op' c; max; bit_length; tuples' sums and parts; tuple(x); lists lent for one expression. -/
namespace DL
open PySem PySem.Spec PyProof.Rows L2
section
variable {K : PySem.W.Frag}
theorem snd_chain {r r' : R2} {op op' : D → D → Option Rv} {ta tb tc : TE} {f g h : DE} (hp : Prim2 K r op) (hp' : Prim2 K r' op') (a : SndE K ta f) (b : SndE K tb g) (c : SndE K tc h) : SndE K (tChain r r' ta tb tc) (dChain op op' f g h) := by
  intro H0 M st σ F H z st' Q S e q
  obtain ⟨p, e1, e⟩ := bs e
  obtain ⟨w, e2, e⟩ := bs e
  obtain ⟨x, e3, e⟩ := bs e
  obtain ⟨y, e4, e⟩ := bs e
  obtain ⟨u, e5, e⟩ := bs e
  refine a H0 M st σ F H p.1 p.2 _ S e1 fun v F1 H1 S1 E1 f1 r1 => ?_
  refine b H0 M p.2 σ F1 H1 w.1 w.2 _ S1 e2 fun v2 F2 H2 S2 E2 f2 r2 => ?_
  refine hp F2 H2 v v2 x y u _ (look_ok S2 (r1.weak.ext S1 E2 f2) e3) (look_ok S2 r2.weak e4) e5 fun v' H' s n => ?_
  obtain ⟨S3, E3, r3⟩ := fin_new S2 (E1.trans E2) s n
  obtain ⟨_, E3', _⟩ := fin_new S2 Ext.refl s n
  match u, e, n, r3 with
  | .d (.bool false), e, n, r3 =>
    cases e
    have hv : v' = .bl false := by cases n; rfl
    subst hv
    exact ⟨false, rfl, q _ F2 H' S3 E3 (f1.trans f2) (.bl _)⟩
  | .d (.bool true), e, n, r3 =>
    have hv : v' = .bl true := by cases n; rfl
    subst hv
    obtain ⟨w3, e6, e⟩ := bs e
    obtain ⟨y2, e7, e⟩ := bs e
    obtain ⟨u2, e8, e⟩ := bs e
    obtain ⟨z2, e9, e⟩ := bs e
    cases e
    refine ⟨true, rfl, ?_⟩
    refine c H0 M w.2 σ F2 H' w3.1 w3.2 _ S3 e6 fun v3 F4 H4 S4 E4 f4 r4 => ?_
    refine hp' F4 H4 v2 v3 y2 u2 z Q (look_ok S4 ((r2.weak.ext S2 E3' trivial).ext S3 E4 f4) e7) (look_ok S4 r4.weak e8) e9 fun v4 H5 s5 n5 => ?_
    obtain ⟨S5, E5, r5⟩ := fin_new S4 (E3.trans E4) s5 n5
    exact q v4 F4 H5 S5 E5 trivial r5
  | .d .none, e, _, _ => cases e
  | .d (.int _), e, _, _ => cases e
  | .d (.str _), e, _, _ => cases e
  | .d (.list _), e, _, _ => cases e
  | .d (.tuple _), e, _, _ => cases e
  | .d (.dict _), e, _, _ => cases e
  | .tmp _, e, _, _ => cases e
  | .sl _, e, _, _ => cases e
theorem freeze_getD (st : DSt) (i : Nat) : (freeze st).getD i none = fz (st.getD i none) := by
  unfold freeze
  rw [List.getD_eq_getElem?_getD, List.getD_eq_getElem?_getD, List.getElem?_map]
  cases st[i]? with
  | none => rfl
  | some o => rfl
theorem fz_own {o : Option SV} {xs : List D} : fz o ≠ some (.own xs) := by
  rcases o with _ | o
  · exact fun h => by cases h
  · cases o <;> exact fun h => by cases h
theorem fz_lent {o : Option SV} {xs : List D} : fz o ≠ some (.lent xs) := by
  rcases o with _ | o
  · exact fun h => by cases h
  · cases o <;> exact fun h => by cases h
theorem freeze_own {st : DSt} {i : Nat} : ¬ IsOwn (freeze st) i := by
  rintro ⟨xs, h | h⟩
  · rw [freeze_getD] at h
    exact fz_own h
  · rw [freeze_getD] at h
    exact fz_lent h
theorem Sim.freeze {H0 : Hp} {M : Nat → Option Addr} {st : DSt} {σ : L2.St} {F : Addr → Prop} {H : Hp} (S : Sim K H0 M st σ F H) : Sim K (fun _ => none) (fun _ => none) (freeze st) σ (fun a => F a ∨ OwnAt st σ a) H where
  len := by
    unfold DL.freeze
    rw [List.length_map]
    exact S.len
  dat := fun i x h => by
    rw [freeze_getD] at h
    have up : ∀ {a : Addr} {xs : List V}, FL K F H a xs → FL K (fun a => F a ∨ OwnAt st σ a) H a xs := fun {a xs} h => by
      rcases h with ⟨f, h⟩ | h
      · exact .inl ⟨.inl f, h⟩
      · exact .inr h
    cases e : st.getD i none with
    | none => rw [e] at h; cases h
    | some o =>
      rw [e] at h
      cases o with
      | d y =>
        cases h
        obtain ⟨v, h1, h2⟩ := S.dat i x e
        exact ⟨v, h1, h2.mono (fun _ _ => up) fun _ _ z => z⟩
      | own xs =>
        cases h
        obtain ⟨p, vs, h1, h2, h3, _⟩ := S.own i xs e
        exact ⟨.ref p, h1, .lst (.inl ⟨.inr ⟨i, ⟨xs, .inl e⟩, h1⟩, h2⟩) (h3.mono (fun _ _ => up) fun _ _ z => z)⟩
      | lent xs =>
        cases h
        obtain ⟨p, vs, _, h1, h2, h3, _⟩ := S.lent i xs e
        exact ⟨.ref p, h1, .lst (.inl ⟨.inr ⟨i, ⟨xs, .inr e⟩, h1⟩, h2⟩) (h3.mono (fun _ _ => up) fun _ _ z => z)⟩
  own := fun i xs h => absurd ⟨xs, .inl h⟩ freeze_own
  lent := fun i xs h => absurd ⟨xs, .inr h⟩ freeze_own
  lentE := fun _ _ h => by cases h
  lent0 := fun _ _ h => by cases h
  inj := fun i _ _ h => absurd h freeze_own
  frz := fun a h => by
    rcases h with h | h
    · exact S.frz a h
    · exact (S.atOwn h).1
  base := fun _ _ h => by cases h
theorem freeze_same {st : DSt} {σ : L2.St} {F F' : Addr → Prop} {H H' : Hp} {st' : DSt} (E : Ext (freeze st) σ F H st' F' H') : Same H H' := fun b u h => E.keep b u h fun ⟨i, o, _⟩ => freeze_own o
theorem snd_borrow {t : TE} {f : DE} (a : SndE K t f) : SndE K t (dBorrow f) := by
  intro H0 M st σ F H r st' Q S e q
  obtain ⟨p, e1, e⟩ := bs e
  refine a _ _ (freeze st) σ _ H p.1 p.2 _ S.freeze e1 fun v F' H' S' E' f' r' => ?_
  have s := freeze_same E'
  rcases p with ⟨pr, ps⟩
  cases pr with
  | d x =>
    have e : (if atomD x = true then some (Rv.d x, st) else none) = some (r, st') := e
    by_cases c : atomD x = true
    · rw [if_pos c] at e
      cases e
      refine q v F H' (S.grow s) (.grow s) trivial ?_
      have r2 : Rp K F' H' v x := r'
      show Rp K F H' v x
      cases r2 with
      | non => exact .non
      | bl b => exact .bl b
      | int i => exact .int i
      | str z => exact .str z
      | lst _ _ => cases c
      | tup _ _ => cases c
      | dic _ => cases c
    · rw [if_neg c] at e
      cases e
  | tmp _ => cases e
  | sl _ => cases e
theorem snd_borrowT {t : TT} {f : DT} (a : SndT K t f) : SndT K t (dBorrowT f) := by
  intro H0 M st σ F H r st' Q S e q
  obtain ⟨p, e1, e⟩ := bs e
  cases e
  refine a _ _ (freeze st) σ _ H p.1 p.2 _ S.freeze e1 fun F' H' S' E' f' => ?_
  have s := freeze_same E'
  exact q F H' (S.grow s) (.grow s) trivial
def rMaxI : List V → Hp → VK → Prop := fun xs H Q => ∃ i j : Int, xs = [.int i, .int j] ∧ Q (.int (if j > i then j else i)) H
theorem call_maxI {X : Cx} (hc : X.calm = true) : CallR X (.builtin "max") rMaxI := call_max2 hc
theorem prim_max2 : PrimN K rMaxI bMax2 := by
  intro F H vs xs z Q a e q
  match xs, a, e with
  | [.int i, .int j], .cons a (.cons b .nil), e =>
    cases e
    have h1 := a.int
    have h2 := b.int
    subst h1 h2
    exact ⟨i, j, rfl, q _ H Same.rfl' (.int _)⟩
theorem snd_bits {t : TE} {f : DE} (a : SndE K t f) : SndE K (tBits t) (dOp1 opBits f) := by
  refine snd_op1 (r := fun x H1 Q => ∃ i, x = .int i ∧ Q (.int (Builtin.Int.intBits i : Nat)) H1) ?_ a
  intro F H v x z Q a e q
  cases x <;> try (cases e; done)
  cases e
  exact ⟨_, a.int, q _ H Same.rfl' (.int _)⟩
theorem prim_addT : Prim2 K (rCatA K) opAddT := by
  intro F H v w x y z Q a b e q
  cases x <;> cases y <;> try (cases e; done)
  rename_i i j
  have e : (if i.length + j.length ≤ sizeLine then some (Rv.d (.tuple (i ++ j))) else none) = some z := e
  by_cases c : i.length + j.length ≤ sizeLine
  · rw [if_pos c] at e
    cases e
    obtain ⟨p, vs, rfl, h1, r1⟩ := a.tup
    obtain ⟨p2, vs2, rfl, h2, r2⟩ := b.tup
    refine ⟨p, p2, vs, vs2, rfl, rfl, h1, h2, by rw [r1.length, r2.length]; exact c, fun hz => ?_, fun h0 hz => ?_, fun _ _ p hp => ?_⟩
    · subst hz
      cases r1
      exact q _ H Same.rfl' (.tup h2 r2)
    · subst hz
      cases r2
      refine q _ H Same.rfl' ?_
      show Rp K F H _ (.tuple (i ++ []))
      rw [List.append_nil]
      exact .tup h1 r1
    · exact q _ _ (same_upd hp) (.tup (SqT.of upd_same) ((r1.append r2).grow (same_upd hp)))
  · rw [if_neg c] at e
    cases e
theorem cutV_whole {xs : List V} {lo hi : Option Int} (h : HT.sIx xs.length 0 lo = 0 ∧ HT.sIx xs.length xs.length hi = xs.length) : cutV xs lo hi = xs := by
  unfold cutV
  rw [h.1, h.2]
  simp
theorem prim_sliceT : PrimS K (rSlA K) opSliceT := by
  intro F H v x lo hi z Q a e q
  cases x <;> try (cases e; done)
  rename_i ys
  cases e
  obtain ⟨p, vs, rfl, h1, r1⟩ := a.tup
  have r2 : RpAll K F H (cutV vs lo hi) (cutD ys lo hi) := by
    unfold cutV cutD
    rw [r1.length]
    exact (r1.drop _).take _
  refine ⟨p, vs, rfl, h1, fun hw => ?_, fun hw p hp => ?_⟩
  · rw [cutV_whole hw] at r2
    exact q _ H Same.rfl' (.tup h1 r2)
  · exact q _ _ (same_upd hp) (.tup (SqT.of upd_same) (r2.grow (same_upd hp)))
def CPowW (i j : Int) : Prop := 0 ≤ j ∧ (Builtin.Int.intBits i : Int) * j ≤ 2 ^ 27
theorem op_powW {X : Cx} : OpR X (binaryOp .Pow) (rI CPowW fun i j => .int (i ^ j.toNat)) := opI fun _ _ _ _ _ _ _ hc q => pow_int hc.1 hc.2 q
theorem prim_powW : Prim2 K (rI CPowW fun i j => .int (i ^ j.toNat)) opPowW := by
  intro F H v w x y z Q a b e q
  cases x <;> cases y <;> try (cases e; done)
  rename_i i j
  have e : (if 0 ≤ j ∧ (Builtin.Int.intBits i : Int) * j ≤ 2 ^ 27 then some (Rv.d (.int (i ^ j.toNat))) else none) = some z := e
  by_cases c : 0 ≤ j ∧ (Builtin.Int.intBits i : Int) * j ≤ 2 ^ 27
  · rw [if_pos c] at e
    cases e
    exact ⟨_, _, a.int, b.int, c, q _ H Same.rfl' (.int _)⟩
  · rw [if_neg c] at e
    cases e
def tIfT (t u w : TT) : TT := fun σ H Q => t σ H fun d H1 => if d = true then u σ H1 Q else w σ H1 Q
theorem pt_ifExp {X : Cx} {c a b : Expr} {pos : Pos} {t u w : TT} (hc : PT X c t) (ha : PT X a u) (hb : PT X b w) : PT X (.IfExp c a b pos) (tIfT t u w) := by
  refine ⟨fun pins s σ H Q I h => ?_⟩
  refine PyProof.Rows.isTrue_IfExp (thn (hc.run pins s σ H _ I h) fun d s1 ⟨H1, I1, q1⟩ => ?_)
  cases d with
  | true => exact ha.run pins s1 σ H1 Q I1 q1
  | false => exact hb.run pins s1 σ H1 Q I1 q1
theorem snd_ifT {t u w : TT} {c f g : DT} (a : SndT K t c) (b : SndT K u f) (d : SndT K w g) : SndT K (tIfT t u w) (dIfT c f g) := by
  intro H0 M st σ F H k st' Q S e q
  obtain ⟨p, e1, e⟩ := bs e
  refine a H0 M st σ F H p.1 p.2 _ S e1 fun F1 H1 S1 E1 f1 => ?_
  by_cases h : p.1 = true
  · rw [if_pos h] at e
    rw [if_pos h]
    exact b H0 M p.2 σ F1 H1 k st' _ S1 e fun F2 H2 S2 E2 f2 => q F2 H2 S2 (E1.trans E2) (f1.trans f2)
  · rw [if_neg h] at e
    rw [if_neg h]
    exact d H0 M p.2 σ F1 H1 k st' _ S1 e fun F2 H2 S2 E2 f2 => q F2 H2 S2 (E1.trans E2) (f1.trans f2)
theorem snd_asgO {i j : Nat} (hij : i ≠ j) {ta tb : TE} {f g : DE} (a : SndE K ta f) (b : SndE K tb g) :
    SndS K (tAsg (tTup (tCons ta (tCons tb tNil))) (L2.gTup K 2 (L2.gCons (L2.gName i) (L2.gCons (L2.gName j) L2.gNil)))) (dAsgO i j f g) := by
  intro H0 M st σ F H fl st' E S e q
  obtain ⟨p, e1, e⟩ := bs e
  obtain ⟨w, e2, e⟩ := bs e
  refine a H0 M st σ F H p.1 p.2 _ S e1 fun v1 F1 H1 S1 E1 f1 r1 => ?_
  refine b H0 M p.2 σ F1 H1 w.1 w.2 _ S1 e2 fun v2 F2 H2 S2 E2 f2 r2 => ?_
  refine ⟨by rw [sizeLine_eq]; simp, fun T hT => ⟨T, [v1, v2], rfl, SqT.of upd_same, rfl, v1, [v2], rfl, v2, [], rfl, ?_⟩⟩
  have same := same_upd (o := HO.tup [v1, v2]) hT
  rcases p with ⟨p1, ps⟩
  rcases w with ⟨w1, ws⟩
  match p1, w1, e, r1, r2 with
  | .d x, .tmp ys, e, r1, r2 =>
    have e : ((setS ws j (.own ys)).bind fun s => (setS s i (.d x)).bind fun s' => some (Fl.nx, s')) = some (fl, st') := e
    obtain ⟨s, e3, e⟩ := bs e
    obtain ⟨s2, e4, e⟩ := bs e
    cases e
    obtain ⟨hj, nl, rfl⟩ := setS_ok e3
    obtain ⟨hi, nl2, rfl⟩ := setS_ok e4
    obtain ⟨pa, vs, rfl, hb, hc, nf, no, h0⟩ := r2
    have S3 := S2.grow same
    have S4 := S3.setOwn hj nl (same _ _ hb) (hc.grow same) nf no (S1.fresh0 h0)
    have rp : Rp K F2 H2 v1 x := E2.rp S1 r1
    have S5 := S4.setD hi nl2 (rp.grow same)
    have E3 : Ext st σ F H ws F2 _ := (E1.trans E2).trans (.grow same)
    have := q _ F2 _ S5 (E3.fext S S3)
    rw [List.set_comm _ _ (Ne.symm hij)] at this
    exact ⟨rfl, this⟩
  | .tmp _, _, e, _, _ => cases e
  | .sl _, _, e, _, _ => cases e
  | .d _, .d _, e, _, _ => cases e
  | .d _, .sl _, e, _, _ => cases e
def rTupleC (K : PySem.W.Frag) : List V → Hp → VK → Prop := fun vs H Q => ∃ x, vs = [x] ∧ kTup K x H Q
theorem call_tupleC {X : Cx} : CallR X (.type "tuple") (rTupleC X.K) := by
  intro pins s σ H xs us Q I r h
  obtain ⟨x, rfl, q⟩ := h
  cases r with
  | cons r rr =>
    cases rr
    exact rl_tuple pins s σ H x _ Q I r q
theorem prim_tuple : PrimN K (rTupleC K) bTuple := by
  intro F H vs xs z Q a e q
  match xs, a, e with
  | [.list ys], .cons a .nil, e =>
    cases e
    obtain ⟨p, vs, rfl, h1, r1⟩ := a.list
    exact ⟨_, rfl, .inl ⟨p, vs, rfl, h1, fun p hp => q _ _ (same_upd hp) (.tup (SqT.of upd_same) (r1.grow (same_upd hp)))⟩⟩
  | [.tuple ys], .cons a .nil, e =>
    cases e
    obtain ⟨p, vs, rfl, h1, r1⟩ := a.tup
    exact ⟨_, rfl, .inr ⟨p, vs, rfl, h1, q _ H Same.rfl' (.tup h1 r1)⟩⟩
theorem snd_dict0 : SndE K tDNewK dDict0 := by
  intro H0 M st σ F H r st' Q S e q
  cases e
  intro p hp
  have same := same_upd (o := HO.dK []) hp
  exact q (.ref p) F _ (S.grow same) (.grow same) trivial (show Rp K F _ (.ref p) (.dict []) from .dic upd_same)
theorem maxOf_ok : ∀ {is : List Int} {m : Int}, maxOf is = some m → m ∈ is ∧ ∀ y ∈ is, y ≤ m
  | [], m, h => by cases h
  | x :: r, m, h => by
    unfold maxOf at h
    cases e : maxOf r with
    | none =>
      rw [e] at h
      cases h
      cases r with
      | nil => simp
      | cons a b => unfold maxOf at e; cases e
    | some k =>
      rw [e] at h
      obtain ⟨h1, h2⟩ := maxOf_ok e
      have h : (if x > k then x else k) = m := Option.some.inj h
      by_cases c : x > k
      · rw [if_pos c] at h
        subst h
        refine ⟨by simp, fun y hy => ?_⟩
        rcases List.mem_cons.mp hy with rfl | hy
        · omega
        · have := h2 y hy
          omega
      · rw [if_neg c] at h
        subst h
        refine ⟨by simp [h1], fun y hy => ?_⟩
        rcases List.mem_cons.mp hy with rfl | hy
        · omega
        · exact h2 y hy
theorem minOf_ok : ∀ {is : List Int} {m : Int}, minOf is = some m → m ∈ is ∧ ∀ y ∈ is, m ≤ y
  | [], m, h => by cases h
  | x :: r, m, h => by
    unfold minOf at h
    cases e : minOf r with
    | none =>
      rw [e] at h
      cases h
      cases r with
      | nil => simp
      | cons a b => unfold minOf at e; cases e
    | some k =>
      rw [e] at h
      obtain ⟨h1, h2⟩ := minOf_ok e
      have h : (if x < k then x else k) = m := Option.some.inj h
      by_cases c : x < k
      · rw [if_pos c] at h
        subst h
        refine ⟨by simp, fun y hy => ?_⟩
        rcases List.mem_cons.mp hy with rfl | hy
        · omega
        · have := h2 y hy
          omega
      · rw [if_neg c] at h
        subst h
        refine ⟨by simp [h1], fun y hy => ?_⟩
        rcases List.mem_cons.mp hy with rfl | hy
        · omega
        · exact h2 y hy
theorem prim_maxL : PrimN K (rMax K) bMaxL := by
  intro F H vs xs z Q a e q
  match xs, a, e with
  | [.list ys], a, e =>
    obtain ⟨is, e1, e⟩ := bs e
    obtain ⟨m, e2, e⟩ := bs e
    cases e
    obtain ⟨v, rfl, a'⟩ := a.one
    obtain ⟨p, ws, rfl, h1, r1⟩ := a'.list
    obtain ⟨m1, m2⟩ := maxOf_ok e2
    rw [ints_ok r1 e1] at h1
    refine ⟨p, is, rfl, h1, List.length_pos_of_mem m1, fun k k1 k2 => ?_⟩
    have : k = m := by
      have := k2 m m1
      have := m2 k k1
      omega
    subst this
    exact q _ H Same.rfl' (.int _)
theorem prim_minL : PrimN K (rMin K) bMinL := by
  intro F H vs xs z Q a e q
  match xs, a, e with
  | [.list ys], a, e =>
    obtain ⟨is, e1, e⟩ := bs e
    obtain ⟨m, e2, e⟩ := bs e
    cases e
    obtain ⟨v, rfl, a'⟩ := a.one
    obtain ⟨p, ws, rfl, h1, r1⟩ := a'.list
    obtain ⟨m1, m2⟩ := minOf_ok e2
    rw [ints_ok r1 e1] at h1
    refine ⟨p, is, rfl, h1, List.length_pos_of_mem m1, fun k k1 k2 => ?_⟩
    have : k = m := by
      have := k2 m m1
      have := m2 k k1
      omega
    subst this
    exact q _ H Same.rfl' (.int _)
theorem lentP_one {p : Addr} {xs : List D} {vs : List V} {as : List D} {i : Nat} {q : Addr} (h : lentP (.ref p :: vs) (Ar.m xs :: as.map Ar.d) i = some q) : i = 0 ∧ q = p := by
  cases i with
  | zero => cases h; exact ⟨rfl, rfl⟩
  | succ i =>
    have h : lentP vs (as.map Ar.d) i = some q := h
    rw [lentP_d] at h
    cases h
/-- f(e, ..), the first argument a new list that is lent -/
theorem snd_callT {g : Fn} {n l : Nat} {dvs : List V} {more : List PyData} {E : XK} {te : TE} {t : TA} {f : DE} {h : DA} (hd : ∀ (F : Addr → Prop) (H : Hp), RpAll K F H dvs more) (hn : n + 1 + more.length = l) (a : SndE K te f) (b : SndA K t h) :
    SndE K (tCall (spD K l g) dvs E (tCons te t)) (dCallT g n more f h) := by
  intro H0 M st σ F H r st' Q S e q
  obtain ⟨⟨p0, s1⟩, e1, e⟩ := bs e
  match p0, e1, e with
  | .tmp xs, e1, e =>
    obtain ⟨⟨rs, s2⟩, e2, e⟩ := bs e
    obtain ⟨⟨ds, s3⟩, e3, e⟩ := bs e
    refine a H0 M st σ F H (.tmp xs) s1 _ S e1 fun v F1 H1 S1 E1 f1 r1 => ?_
    refine b H0 M s1 σ F1 H1 rs s2 _ S1 e2 fun vs F2 H2 S2 E2 f2 r2 => ?_
    by_cases c : rs.length = n
    · rw [if_pos c] at e
      obtain ⟨⟨rt, outs⟩, e4, e⟩ := bs e
      cases e
      obtain ⟨p, ws, rfl, hp, hr, nf, no, h0⟩ := r1
      obtain ⟨F3, S3, E3, rr, _⟩ := toDs_ok S2 E2 r2 e3
      have nf3 : ¬ F3 p := fun z => by
        rcases E3.new p z with z | z | z
        · exact nf z
        · rw [hp] at z; cases z
        · exact no z
      have hp3 : H2 p = some (.lst ws) := E3.keep _ _ hp no
      have hr3 : RpAll K F3 H2 ws xs := E3.rpAll S1 hr
      have no3 : ¬ OwnAt s3 σ p := fun z => no (z.imp E3.own)
      have h00 : H0 p = none := S.fresh0 h0
      refine ⟨F3, .m xs :: (ds ++ more).map Ar.d, rt, outs, ?_, .cons ⟨p, ws, rfl, hp3, hr3, nf3⟩ (arD (rr.append (hd F3 H2))), S3.frz, fun i j p1 h h' => by rw [(lentP_one h).1, (lentP_one h').1], e4, fun v F' H' g1 g2 g3 g4 g5 g6 g7 g8 g9 => ?_⟩
      · have l1 : vs.length = n := by rw [← r2.length]; exact c
        show (V.ref p :: (vs ++ dvs)).length = l
        rw [List.length_cons, List.length_append, l1, ← constD hd]
        omega
      have keep : ∀ b u, H2 b = some u → b ≠ p → H' b = some u := fun b u hb ne => g4 b u hb fun i z => ne (lentP_one z).2
      obtain ⟨so, _, o2⟩ := g6
      obtain ⟨zs, us, _, hp', _⟩ := o2 0 p rfl
      have notp : ∀ {q}, OwnAt s3 σ q → q ≠ p := fun {q} o z => no3 (z ▸ o)
      have S4 : Sim K H0 M s3 σ F' H' := by
        refine ⟨S3.len, fun j x h => ?_, fun j x h => ?_, fun j x h => ?_, S3.lentE, S3.lent0, S3.inj, g3, fun b u h n => ?_⟩
        · obtain ⟨w, a1, a2⟩ := S3.dat j x h
          exact ⟨w, a1, a2.mono g7 g8⟩
        · obtain ⟨p1, w1, a1, a2, a3, a4, a5⟩ := S3.own j x h
          have ne := notp ⟨j, ⟨x, .inl h⟩, a1⟩
          refine ⟨p1, w1, a1, keep _ _ a2 ne, a3.mono g7 g8, fun z => ?_, a5⟩
          rcases g2 _ z with z | z
          · exact a4 z
          · rw [a2] at z; cases z
        · obtain ⟨p1, w1, m, a1, a2, a3, a4⟩ := S3.lent j x h
          have ne := notp ⟨j, ⟨x, .inr h⟩, a1⟩
          refine ⟨p1, w1, m, a1, keep _ _ a2 ne, a3.mono g7 g8, fun z => ?_⟩
          rcases g2 _ z with z | z
          · exact a4 z
          · rw [a2] at z; cases z
        · refine keep _ _ (S3.base b u h n) fun z => ?_
          subst z
          rw [h00] at h
          cases h
      have E5 := E1.trans E3
      have E4 : Ext st σ F H s3 F' H' := by
        refine ⟨fun a h => g1 a (E5.sub a h), fun a h => ?_, fun b u h n => ?_, fun b h => ?_, E5.own⟩
        · rcases g2 a h with z | z
          · exact E5.new a z
          · refine .inr (.inl (Classical.byContradiction fun y => E5.live a y z))
        · refine keep b u (E5.keep b u h n) fun z => ?_
          subst z
          rw [h0] at h
          cases h
        · by_cases z : b = p
          · subst z
            rw [hp']
            exact fun z => by cases z
          · cases y : H2 b with
            | none => exact absurd y (E5.live b h)
            | some u =>
              rw [keep b u y z]
              exact fun z => by cases z
      refine q v F' H' S4 E4 trivial ?_
      cases rt with
      | d x => exact g9
      | own xs =>
        obtain ⟨p1, w1, a1, a2, a3, a4, a5⟩ := g9
        refine ⟨p1, w1, a1, a2, a3, a4, fun z => ?_, Classical.byContradiction fun z => E5.live p1 z a5⟩
        obtain ⟨⟨ys, h⟩, _⟩ := S3.atOwn z
        rw [a5] at h
        cases h
    · rw [if_neg c] at e
      cases e
  | .d _, _, e => cases e
  | .sl _, _, e => cases e
/-- ys, x = e, e2 and ys, x, y = e, e2, e3: ys becomes one's own -/
theorem parS_core {i : Nat} {is : List Nat} {te : TE} {t : TA} {f : DE} {h : DA} (a : SndE K te f) (b : SndA K t h) {H0 : Hp} {M : Nat → Option Addr} {st : DSt} {σ : L2.St} {F : Addr → Prop} {H : Hp} {fl : Fl} {st' : DSt} {E : Ends} (S : Sim K H0 M st σ F H) (e : dParS i is f h st = some (fl, st')) (q : FlOk K H0 M F H st' E fl)
    {R : List V → Hp → Prop} (fin : ∀ v vs σ' H', vs.length = is.length → σ' = (is.zip vs).foldl (fun s x => s.set x.1 (some x.2)) (σ.set i (some v)) → E.nx σ' H' → R (v :: vs) H') : tCons te t σ H R := by
  obtain ⟨⟨p0, s1⟩, e1, e⟩ := bs e
  match p0, e1, e with
  | .tmp xs, e1, e =>
    obtain ⟨⟨rs, s2⟩, e2, e⟩ := bs e
    obtain ⟨⟨ds, s3⟩, e3, e⟩ := bs e
    obtain ⟨s4, e4, e⟩ := bs e
    obtain ⟨s5, e5, e⟩ := bs e
    cases e
    refine a H0 M st σ F H (.tmp xs) s1 _ S e1 fun v F1 H1 S1 E1 f1 r1 => ?_
    refine b H0 M s1 σ F1 H1 rs s2 _ S1 e2 fun vs F2 H2 S2 E2 f2 r2 => ?_
    obtain ⟨p, ws, rfl, hp, hr, nf, no, h0⟩ := r1
    obtain ⟨F3, S3, E3, rr, _⟩ := toDs_ok S2 E2 r2 e3
    have nf3 : ¬ F3 p := fun z => by
      rcases E3.new p z with z | z | z
      · exact nf z
      · rw [hp] at z; cases z
      · exact no z
    have no3 : ¬ OwnAt s3 σ p := fun z => no (z.imp E3.own)
    obtain ⟨hi, nl, rfl⟩ := setS_ok e4
    have S4 := S3.setOwn hi nl (E3.keep _ _ hp no) (E3.rpAll S1 hr) nf3 no3 (S.fresh0 h0)
    have fe := (E1.trans E3).fext S S3
    have go : ∀ (js : List Nat) (us : List V) (ys : List D) (sa : DSt) (σa : L2.St), RpAll K F3 H2 us ys → Sim K H0 M sa σa F3 H2 → dPar.parGo js ys sa = some st' → us.length = js.length ∧ Sim K H0 M st' ((js.zip us).foldl (fun s x => s.set x.1 (some x.2)) σa) F3 H2 := by
      intro js
      induction js with
      | nil =>
        intro us ys sa σa r s e
        cases r with
        | nil => cases e; exact ⟨rfl, s⟩
        | cons _ _ => cases e
      | cons j js ih =>
        intro us ys sa σa r s e
        cases r with
        | nil => cases e
        | cons r1 r2 =>
          obtain ⟨sb, e6, e7⟩ := bs e
          obtain ⟨hj, nl2, rfl⟩ := setS_ok e6
          obtain ⟨l, z⟩ := ih _ _ _ _ r2 (s.setD hj nl2 r1) e7
          exact ⟨congrArg (· + 1) l, z⟩
    obtain ⟨l, S5⟩ := go is vs ds _ _ rr S4 e5
    exact fin _ _ _ _ l rfl (q _ F3 H2 S5 fe)
  | .d _, _, e => cases e
  | .sl _, _, e => cases e
theorem snd_parS2 {i j : Nat} {te : TE} {t : TA} {f : DE} {h : DA} (a : SndE K te f) (b : SndA K t h) : SndS K (tPar i j (tCons te t)) (dParS i [j] f h) := by
  intro H0 M st σ F H fl st' E S e q
  have hfl : fl = .nx := by
    obtain ⟨⟨p0, s1⟩, e1, e⟩ := bs e
    match p0, e1, e with
    | .tmp xs, e1, e =>
      obtain ⟨_, _, e⟩ := bs e
      obtain ⟨_, _, e⟩ := bs e
      obtain ⟨_, _, e⟩ := bs e
      obtain ⟨_, _, e⟩ := bs e
      cases e
      rfl
    | .d _, _, e => cases e
    | .sl _, _, e => cases e
  subst hfl
  refine parS_core a b S e q fun v vs σ' H' l es z => ?_
  match vs, l, es with
  | [w], _, es =>
    subst es
    exact ⟨v, w, rfl, z⟩
theorem snd_parS3 {i j k : Nat} {te : TE} {t : TA} {f : DE} {h : DA} (a : SndE K te f) (b : SndA K t h) : SndS K (tPar3 i j k (tCons te t)) (dParS i [j, k] f h) := by
  intro H0 M st σ F H fl st' E S e q
  have hfl : fl = .nx := by
    obtain ⟨⟨p0, s1⟩, e1, e⟩ := bs e
    match p0, e1, e with
    | .tmp xs, e1, e =>
      obtain ⟨_, _, e⟩ := bs e
      obtain ⟨_, _, e⟩ := bs e
      obtain ⟨_, _, e⟩ := bs e
      obtain ⟨_, _, e⟩ := bs e
      cases e
      rfl
    | .d _, _, e => cases e
    | .sl _, _, e => cases e
  subst hfl
  refine parS_core a b S e q fun v vs σ' H' l es z => ?_
  match vs, l, es with
  | [w, u], _, es =>
    subst es
    exact ⟨v, w, u, rfl, z⟩
end
/-! rules -/
section
variable {K : PySem.W.Frag} {X : Cx} {a b c e o : Expr} {es : List Expr} {ta tb tc : TE} {f g h : DE} {pos p apos : Pos} {x : Str}
theorem se_chain {op op' : CmpOp} {r r' : R2} {o o' : D → D → Option Rv} (hp : Prim2 K r o) (ho : OpR X (compareOp op) r) (hp' : Prim2 K r' o') (ho' : OpR X (compareOp op') r') (ha : SE K X a ta f) (hb : SE K X b tb g) (hc : SE K X c tc h)
    (hm : lastMarks [op, op'] [b, c] = false := by with_unfolding_all rfl) : SE K X (.Compare a [op, op'] [b, c] pos) (tChain r r' ta tb tc) (dChain o o' f g h) := ⟨pe_chain ho ho' ha.pe hb.pe hc.pe hm, snd_chain hp hp' ha.sn hb.sn hc.sn⟩
theorem st_chain {op op' : CmpOp} {r r' : R2} {o o' : D → D → Option Rv} (hp : Prim2 K r o) (ho : OpR X (compareOp op) r) (hp' : Prim2 K r' o') (ho' : OpR X (compareOp op') r') (ha : SE K X a ta f) (hb : SE K X b tb g) (hc : SE K X c tc h)
    (hm : lastMarks [op, op'] [b, c] = false := by with_unfolding_all rfl) : ST K X (.Compare a [op, op'] [b, c] pos) (tTest (tChain r r' ta tb tc)) (dTest (dChain o o' f g h)) := ⟨pt_chain ho ho' ha.pe hb.pe hc.pe hm, snd_testC (snd_chain hp hp' ha.sn hb.sn hc.sn)⟩
theorem se_powW (ha : SE K X a ta f) (hb : SE K X b tb g) : SE K X (.BinOp a .Pow b pos) (tOp (rI CPowW fun i j => .int (i ^ j.toNat)) ta tb) (dOp2 opPowW f g) := se_op prim_powW op_powW ha hb
theorem st_if {t u w : TT} {dt du dw : DT} (hc : ST K X c t dt) (ha : ST K X a u du) (hb : ST K X b w dw) : ST K X (.IfExp c a b pos) (tIfT t u w) (dIfT dt du dw) := ⟨pt_ifExp hc.pe ha.pe hb.pe, snd_ifT hc.sn ha.sn hb.sn⟩
theorem se_borrow (ha : SE K X a ta f) : SE K X a ta (dBorrow f) := ⟨ha.pe, snd_borrow ha.sn⟩
theorem st_borrow {t : TT} {ft : DT} (ha : ST K X a t ft) : ST K X a t (dBorrowT ft) := ⟨ha.pe, snd_borrowT ha.sn⟩
theorem se_bits (ha : SE K X o ta f) (hbase : attributeBase o "bit_length" X.env (eval o X.env) = eval o X.env := by rfl) (hline : (apos.endLine == pos.line) = true := by rfl) : SE K X (.Call (.Attribute o "bit_length" apos) [] [] pos) (tBits ta) (dOp1 opBits f) := ⟨pe_bits ha.pe hbase hline, snd_bits ha.sn⟩
theorem se_addT (ha : SE K X a ta f) (hb : SE K X b tb g) (hK : X.K = K := by rfl) : SE K X (.BinOp a .Add b pos) (tOp (rCatA K) ta tb) (dOp2 opAddT f g) := by
  subst hK
  exact se_op prim_addT op_catA ha hb
theorem se_sliceT {lo hi : Option Expr} {p2 : Pos} {tl th : TO} {fl fh : DO} (ha : SE K X a ta f) (hl : SO K X lo tl fl) (hh : SO K X hi th fh) (hK : X.K = K := by rfl) : SE K X (.Subscript a (.Slice lo hi none p2) pos) (tSl (rSlA K) ta tl th) (dSlice opSliceT f fl fh) := by
  subst hK
  exact ⟨pe_slice sl_tupA ha.pe hl.pe hh.pe, snd_slice prim_sliceT ha.sn hl.sn hh.sn⟩
theorem ss_asgO {i j k2 : Nat} {tg : Expr} {pt2 : Pos} {dv : DE} {is : List Nat} {dg : DG} (hij : i ≠ j) (ha : SE K X a ta f) (hb : SE K X b tb g) (he : SE K X (.Tuple [a, b] k2 pt2) (tTup (tCons ta (tCons tb tNil))) dv) (hg : SG K X tg is (L2.gTup K 2 (L2.gCons (L2.gName i) (L2.gCons (L2.gName j) L2.gNil))) dg)
    (hs : swapsWithSole [tg] (.Tuple [a, b] k2 pt2) pos.line X.env = pure false := by rfl) (hw : swappedStores [tg] (.Tuple [a, b] k2 pt2) X.env = pure none := by rfl) (h1 : (assignEach [tg] X.env).map (·.2) = [assign tg X.env] := by rfl) :
    SS K X (.Assign [tg] (.Tuple [a, b] k2 pt2) pos) (tAsg (tTup (tCons ta (tCons tb tNil))) (L2.gTup K 2 (L2.gCons (L2.gName i) (L2.gCons (L2.gName j) L2.gNil)))) (dAsgO i j f g) := ⟨ps_asg he.pe hg.pe hs hw h1, snd_asgO hij ha.sn hb.sn⟩
theorem se_dict0 : SE K X (.Dict [] [] pos) tDNewK dDict0 := ⟨pe_dnewK, snd_dict0⟩
theorem se_callT {lv n l : Nat} {fa : Addr} {fd : FuncData} {ps : List Str} {G : Fn} {ds : List Value} {dvs : List V} {more : List PyData} {tr : TA} {fr : DA} (F : FnG X.prog X.w X.K X.mg X.base CX0 lv fa fd ps (spD K l G)) (hr : Room lv X.A) (gd : X.A.guards = some []) (hg : Gl X x) (hm : X.mg x = some (.ref fa)) (kp : PySem.W.keepIn X.K (.ref fa) = true) (hb : Binds X.K fd ps ds) (hd : Vals dvs ds)
    (hdd : ∀ (F : Addr → Prop) (H : Hp), RpAll K F H dvs more) (hn : n + 1 + more.length = l) (ha : SE K X e ta f) (hes : SA K X es tr fr) (h1 : (x == ("__debug__" : Str)) = false := by decide) (h2 : starEach (e :: es) X.env = (false, eval e X.env) :: starEach es X.env := by rfl) (h3 : (backTo pos (starEach es X.env)).any (·.1) = false := by rfl) (hK : X.K = K := by rfl) :
    SE K X (.Call (.Name x p) (e :: es) [] pos) (tCall (spD K l G) dvs E0 (tCons ta tr)) (dCallT G n more f fr) := by
  subst hK
  exact ⟨pe_callG F hr gd hg hm kp hb hd pass0 (sa_cons ha hes h2).pe h1 h2 h3, snd_callT hdd hn ha.sn hes.sn⟩
theorem ss_parS2 (i j : Nat) {y : Str} {px py pt : Pos} {kt k2 pt2} {tr : TA} {fr : DA} (hc : X.calm = true) (hN : X.N.Nodup) (hi : X.N[i]? = some x) (hj : X.N[j]? = some y) (hij : i ≠ j) (hx : X.env.scope.names.lookup x = some .local) (hy : X.env.scope.names.lookup y = some .local) (ha : SE K X a ta f) (hb : SA K X [b] tr fr)
    (hw : swappedStores [.Tuple [.Name x px, .Name y py] kt pt] (.Tuple [a, b] k2 pt2) X.env = pure (some [x, y])) (h2 : starEach (a :: [b]) X.env = (false, eval a X.env) :: starEach [b] X.env := by rfl) (hs : swapsWithSole [.Tuple [.Name x px, .Name y py] kt pt] (.Tuple [a, b] k2 pt2) pos.line X.env = pure false := by rfl) :
    SS K X (.Assign [.Tuple [.Name x px, .Name y py] kt pt] (.Tuple [a, b] k2 pt2) pos) (tPar i j (tCons ta tr)) (dParS i [j] f fr) := ⟨ps_par hc hN hi hj hij hx hy (sa_cons ha hb h2).pe hw hs, snd_parS2 ha.sn hb.sn⟩
theorem ss_parS3 (i j l : Nat) {y z : Str} {px py pz pt : Pos} {kt k2 pt2} {tr : TA} {fr : DA} (hc : X.calm = true) (hN : X.N.Nodup) (hi : X.N[i]? = some x) (hj : X.N[j]? = some y) (hl : X.N[l]? = some z) (hij : i ≠ j) (hil : i ≠ l) (hjl : j ≠ l) (hx : X.env.scope.names.lookup x = some .local) (hy : X.env.scope.names.lookup y = some .local) (hz : X.env.scope.names.lookup z = some .local) (ha : SE K X a ta f) (hb : SA K X [b, c] tr fr)
    (hw : swappedStores [.Tuple [.Name x px, .Name y py, .Name z pz] kt pt] (.Tuple [a, b, c] k2 pt2) X.env = pure (some [x, y, z])) (h2 : starEach (a :: [b, c]) X.env = (false, eval a X.env) :: starEach [b, c] X.env := by rfl) (hs : swapsWithSole [.Tuple [.Name x px, .Name y py, .Name z pz] kt pt] (.Tuple [a, b, c] k2 pt2) pos.line X.env = pure false := by rfl) :
    SS K X (.Assign [.Tuple [.Name x px, .Name y py, .Name z pz] kt pt] (.Tuple [a, b, c] k2 pt2) pos) (tPar3 i j l (tCons ta tr)) (dParS i [j, l] f fr) := ⟨ps_par3 hc hN hi hj hl hij hil hjl hx hy hz (sa_cons ha hb h2).pe hw hs, snd_parS3 ha.sn hb.sn⟩
end
end DL
end

section
set_option Elab.async false
set_option linter.all false
set_option maxRecDepth 100000
set_option maxHeartbeats 1000000
/-! DLsort: sorted of data; in; min. -/
namespace DL
open PySem PySem.Spec PyProof.Rows L2
section
variable {X : Cx} {pins : List (Addr × Obj)} {σ : L2.St} {H : Hp} {s : Shared}
def rSortedD (K : PySem.W.Frag) : List V → Hp → VK → Prop := fun vs H Q => ∃ (a : Addr) (xs : List V) (ds : List PyData), vs = [V.ref a] ∧ SqL K H a xs ∧ DpAll K H xs ds ∧ PySem.W.AllAlike ds ∧ PySem.W.Sortable ds ∧ (∀ d ∈ ds, d.depth ≤ 30) ∧
  ∀ p, H p = none → Q (.ref p) (upd H p (.lst (((xs.zip ds).mergeSort (PySem.W.dataLe false (fun b => b.2))).map (·.1))))
theorem zip_each {K : PySem.W.Frag} : ∀ {xs : List V} {its : List Value} {ds : List PyData}, Vals xs its → DpAll K H xs ds → PySem.W.EachIs (fun (v : Value) (b : V × PyData) => RelV b.1 v ∧ Dp K H b.1 b.2) its (xs.zip ds)
  | [], _, _, .nil, .nil => .nil
  | _ :: _, _, _, .cons r t, .cons d e => .cons ⟨r, d⟩ (zip_each t e)
theorem each_vals : ∀ {out : List Value} {bs : List (V × PyData)}, PySem.W.EachIs (fun (v : Value) (b : V × PyData) => RelV b.1 v ∧ True) out bs → Vals (bs.map (·.1)) out
  | _, _, .nil => .nil
  | _, _, .cons h t => .cons h.1 (each_vals t)
theorem dpAll_len {K : PySem.W.Frag} : ∀ {xs : List V} {ds : List PyData}, DpAll K H xs ds → xs.length = ds.length
  | _, _, .nil => rfl
  | _, _, .cons _ t => congrArg (· + 1) (dpAll_len t)
theorem cr_sortedD (hu : X.A.units + 64 < cLine) : CallR X (.builtin "sorted") (rSortedD X.K) := by
  intro pins s σ H vs us Q I r h
  obtain ⟨a, xs, ds, rfl, hs, hd, hal, hk, hdep, q⟩ := h
  obtain ⟨its, rv, hl, hz⟩ := I.list hs
  rw [Vals.ref1 r]
  have ez := zip_each rv hd
  have es : (xs.zip ds).map (fun b => b.2) = ds := List.map_snd_zip (by rw [dpAll_len hd]; exact Nat.le_refl _)
  have e : PySem.W.EachIs (fun (v : Value) (b : V × PyData) => RelV b.1 v ∧ True) its (xs.zip ds) := ez.mono fun _ _ h => ⟨h.1, trivial⟩
  have er : PySem.W.EachIs (fun (v : Value) (b : V × PyData) => ∃ as, Reads s.heap v b.2 as) its (xs.zip ds) := ez.mono fun _ _ h => Dp.reads I _ _ _ h.2 h.1
  have lz : (xs.zip ds).length ≤ sizeLine := by
    rw [List.length_zip, dpAll_len hd]
    have := dpAll_len hd
    omega
  refine PySem.W.sorted_data (enc := fun (b : V × PyData) => b.2) hl.isList e er (by rw [es]; exact hal) (by rw [es]; exact hk) lz (fun b hb => ?_) fun out ho eo => ?_
  · have := hdep b.2 (List.of_mem_zip hb).2
    omega
  · obtain ⟨n, hn⟩ := PyProof.Rows.sortedAll_at s.heap its out.toArray
    refine ⟨.ref (s.heap.objs.size + 1), upd H (s.heap.objs.size + 1) (.lst (((xs.zip ds).mergeSort (PySem.W.dataLe false (fun b => b.2))).map (·.1))), I.laid (t' := s.toks) (fun b o e => PyProof.Rows.sortedAll_old e) (Nat.le_succ _) ⟨?_, out, n, each_vals eo, hn⟩, rfl, q _ (I.hok.fresh (Nat.le_succ _))⟩
    rw [List.length_map, List.length_mergeSort]
    exact lz
end
section
variable {K : PySem.W.Frag}
theorem rpAll_of {F : Addr → Prop} {H : Hp} : ∀ {l : List (V × PyData)}, (∀ p ∈ l, Rp K F H p.1 p.2) → RpAll K F H (l.map (·.1)) (l.map (·.2))
  | [], _ => .nil
  | p :: r, h => .cons (h p List.mem_cons_self) (rpAll_of fun q hq => h q (List.mem_cons_of_mem _ hq))
theorem RpAll.zip {F : Addr → Prop} {H : Hp} : ∀ {vs : List V} {ds : List PyData}, RpAll K F H vs ds → ∀ p ∈ vs.zip ds, Rp K F H p.1 p.2
  | _, _, .nil, p, hp => by simp at hp
  | _, _, .cons a b, p, hp => by
    rw [List.zip_cons_cons] at hp
    rcases List.mem_cons.mp hp with rfl | hp
    · exact a
    · exact RpAll.zip b p hp
theorem noDict_all : ∀ {xs : List PyData}, (∀ d ∈ xs, d.hasDict = false) → PyData.hasDictAll xs = false
  | [], _ => rfl
  | x :: r, h => by
    simp only [PyData.hasDictAll, Bool.or_eq_false_iff]
    exact ⟨h x List.mem_cons_self, noDict_all fun d hd => h d (List.mem_cons_of_mem _ hd)⟩
theorem prim_sorted : PrimN K (rSortedD K) bSorted := by
  intro F H vs xs z Q a e q
  match xs, a, e with
  | [.list ys], a, e =>
    have e : (if sortable ys = true then some (Rv.tmp (sortD ys)) else none) = some z := e
    by_cases c : sortable ys = true
    · rw [if_pos c] at e
      cases e
      obtain ⟨v, rfl, a'⟩ := a.one
      obtain ⟨p, ws, rfl, h1, r1⟩ := a'.list
      simp only [sortable, Bool.and_eq_true, Bool.or_eq_true, List.all_eq_true, Bool.not_eq_true', decide_eq_true_eq] at c
      obtain ⟨⟨c1, c2⟩, c3⟩ := c
      have es : (ws.zip ys).map (·.2) = ys := List.map_snd_zip (by rw [r1.length]; exact Nat.le_refl _)
      refine ⟨p, ws, ys, rfl, h1, r1.dp (noDict_all fun d hd => (c3 d hd).1), fun d hd d' hd' => c1 d hd d' hd', ?_, fun d hd => (c3 d hd).2, fun l hl => ?_⟩
      · rcases c2 with c2 | c2
        · refine .inl fun d hd => ?_
          have := c2 d hd
          unfold headed at this
          split at this
          · exact ⟨_, _, rfl⟩
          · cases this
        · refine .inr fun d hd => ?_
          have := c2 d hd
          unfold other at this
          split at this
          · cases this
          · cases this
          · rename_i h2 h3
            exact ⟨h2, h3⟩
      · have rr : RpAll K F H (((ws.zip ys).mergeSort (PySem.W.dataLe false (fun b => b.2))).map (·.1)) (((ws.zip ys).mergeSort (PySem.W.dataLe false (fun b => b.2))).map (·.2)) := rpAll_of fun p hp => r1.zip p (List.mem_mergeSort.mp hp)
        have em : ((ws.zip ys).mergeSort (PySem.W.dataLe false (fun b => b.2))).map (·.2) = sortD ys := by
          unfold sortD
          rw [List.map_mergeSort (r := PySem.W.dataLe false (fun b : V × PyData => b.2)) (s := PySem.W.dataLe false id) (f := fun b : V × PyData => b.2) (l := ws.zip ys) (fun a _ b _ => rfl), es]
        rw [em] at rr
        obtain ⟨s, n⟩ := new_tmp hl rr
        exact q _ _ s n
    · rw [if_neg c] at e
      cases e
theorem atom_V {F : Addr → Prop} {H : Hp} {v : V} {x : PyData} (h : Rp K F H v x) (c : atomD x = true) : flatV v = true := by
  cases h <;> first | rfl | cases c
theorem atom_eq {F : Addr → Prop} {H : Hp} {v w : V} {x y : PyData} (h : Rp K F H v x) (h' : Rp K F H w y) (c : atomD x = true) (c' : atomD y = true) : eqV v w = PyData.eqv x y := by
  cases h <;> first | (cases c; done) | (cases h' <;> first | (cases c'; done) | simp [eqV, PyData.eqv])
theorem atoms_V {F : Addr → Prop} {H : Hp} : ∀ {vs : List V} {xs : List PyData}, RpAll K F H vs xs → xs.all atomD = true → vs.all flatV = true
  | _, _, .nil, _ => rfl
  | _, _, .cons a b, c => by
    rw [List.all_cons, Bool.and_eq_true] at c ⊢
    exact ⟨atom_V a c.1, atoms_V b c.2⟩
theorem atoms_in {F : Addr → Prop} {H : Hp} {w : V} {y : PyData} (h : Rp K F H w y) (c : atomD y = true) : ∀ {vs : List V} {xs : List PyData}, RpAll K F H vs xs → xs.all atomD = true → inV w vs = xs.any fun x => PyData.eqv x y
  | _, _, .nil, _ => rfl
  | _, _, .cons a b, d => by
    rw [List.all_cons, Bool.and_eq_true] at d
    have := atoms_in h c b d.2
    unfold inV at this ⊢
    rw [List.any_cons, List.any_cons, this, atom_eq a h d.1 c]
theorem Pk.atom {F : Addr → Prop} {H : Hp} {v : V} {x : PyData} (h : Pk K F H v x) (c : atomD x = true) : Rp K F H v x := by
  rcases h with k | ⟨_, _, _, _, k, _⟩
  · exact k
  · subst k
    cases c
theorem in_core {F : Addr → Prop} {H : Hp} {v w : V} {x y : PyData} {b : Bool} (a : Pk K F H v x) (a' : Pk K F H w y) (e : opInB x y = some b) : ∃ p xs, w = .ref p ∧ (SqL K H p xs ∨ SqT K H p xs) ∧ flatV v = true ∧ xs.all flatV = true ∧ inV v xs = b := by
  cases y with
  | list ys =>
    have e : (if atomD x = true ∧ ys.all atomD = true then some (ys.any fun y => PyData.eqv y x) else none) = some b := e
    by_cases c : atomD x = true ∧ ys.all atomD = true
    · rw [if_pos c] at e
      obtain ⟨p, ws, rfl, h1, r1⟩ := a'.list
      have ax := a.atom c.1
      exact ⟨p, ws, rfl, .inl h1, atom_V ax c.1, atoms_V r1 c.2, (atoms_in ax c.1 r1 c.2).trans (Option.some.inj e)⟩
    · rw [if_neg c] at e
      cases e
  | tuple ys =>
    have e : (if atomD x = true ∧ ys.all atomD = true then some (ys.any fun y => PyData.eqv y x) else none) = some b := e
    by_cases c : atomD x = true ∧ ys.all atomD = true
    · rw [if_pos c] at e
      obtain ⟨p, ws, rfl, h1, r1⟩ := a'.tup
      have ax := a.atom c.1
      exact ⟨p, ws, rfl, .inr h1, atom_V ax c.1, atoms_V r1 c.2, (atoms_in ax c.1 r1 c.2).trans (Option.some.inj e)⟩
    · rw [if_neg c] at e
      cases e
  | _ => cases e
theorem prim_inA : Prim2 K (rIn K false) opIn := by
  intro F H v w x y z Q a b e q
  obtain ⟨c, e1, e2⟩ := bs e
  cases e2
  obtain ⟨p, xs, h1, h2, h3, h4, h5⟩ := in_core a b e1
  refine ⟨p, xs, h1, h2, h3, h4, ?_⟩
  rw [if_neg (by decide), h5]
  exact q _ H Same.rfl' (.bl _)
theorem prim_notinA : Prim2 K (rIn K true) opNotIn := by
  intro F H v w x y z Q a b e q
  obtain ⟨c, e1, e2⟩ := bs e
  cases e2
  obtain ⟨p, xs, h1, h2, h3, h4, h5⟩ := in_core a b e1
  refine ⟨p, xs, h1, h2, h3, h4, ?_⟩
  rw [if_pos rfl, h5]
  exact q _ H Same.rfl' (.bl _)
def rMinI : List V → Hp → VK → Prop := fun xs H Q => ∃ i j : Int, xs = [.int i, .int j] ∧ Q (.int (if j < i then j else i)) H
theorem call_minI {X : Cx} (hc : X.calm = true) : CallR X (.builtin "min") rMinI := call_min2 hc
theorem prim_min2 : PrimN K rMinI bMin2 := by
  intro F H vs xs z Q a e q
  match xs, a, e with
  | [.int i, .int j], .cons a (.cons b .nil), e =>
    cases e
    have h1 := a.int
    have h2 := b.int
    subst h1 h2
    exact ⟨i, j, rfl, q _ H Same.rfl' (.int _)⟩
theorem parQ_core {i j : Nat} {is : List Nat} {ta te : TE} {t : TA} {f g : DE} {h : DA} (a : SndE K ta f) (a2 : SndE K te g) (b : SndA K t h) {H0 : Hp} {M : Nat → Option Addr} {st : DSt} {σ : L2.St} {F : Addr → Prop} {H : Hp} {fl : Fl} {st' : DSt} {E : Ends} (S : Sim K H0 M st σ F H) (e : dParQ i j is f g h st = some (fl, st')) (q : fl = .nx → FlOk K H0 M F H st' E .nx)
    {R : List V → Hp → Prop} (fin : ∀ u v vs σ' H', vs.length = is.length → σ' = (is.zip vs).foldl (fun s x => s.set x.1 (some x.2)) ((σ.set i (some u)).set j (some v)) → E.nx σ' H' → R (u :: v :: vs) H') : tCons ta (tCons te t) σ H R := by
  obtain ⟨⟨p0, s1⟩, e1, e⟩ := bs e
  obtain ⟨⟨q0, s2⟩, e2, e⟩ := bs e
  match p0, q0, e1, e2, e with
  | .d x, .tmp xs, e1, e2, e =>
    obtain ⟨⟨rs, s3⟩, e3, e⟩ := bs e
    obtain ⟨⟨ds, s4⟩, e4, e⟩ := bs e
    obtain ⟨s5, e5, e⟩ := bs e
    obtain ⟨s6, e6, e⟩ := bs e
    obtain ⟨s7, e7, e⟩ := bs e
    cases e
    refine a H0 M st σ F H (.d x) s1 _ S e1 fun u F1 H1 S1 E1 f1 r1 => ?_
    refine a2 H0 M s1 σ F1 H1 (.tmp xs) s2 _ S1 e2 fun v F2 H2 S2 E2 f2 r2 => ?_
    refine b H0 M s2 σ F2 H2 rs s3 _ S2 e3 fun vs F3 H3 S3 E3 f3 r3 => ?_
    obtain ⟨p, ws, rfl, hp, hr, nf, no, h0⟩ := r2
    have r1 : Rp K F1 H1 u x := r1
    obtain ⟨F4, S4, E4, rr, _⟩ := toDs_ok S3 E3 r3 e4
    have nf4 : ¬ F4 p := fun z => by
      rcases E4.new p z with z | z | z
      · exact nf z
      · rw [hp] at z; cases z
      · exact no z
    have no4 : ¬ OwnAt s4 σ p := fun z => no (z.imp E4.own)
    obtain ⟨hi, nl, rfl⟩ := setS_ok e5
    obtain ⟨hj, nl2, rfl⟩ := setS_ok e6
    have ru : Rp K F4 H3 u x := E4.rp S2 (E2.rp S1 r1)
    have S5 := S4.setD hi nl ru
    have no5 : ¬ OwnAt (s4.set i (some (.d x))) (σ.set i (some u)) p := fun ⟨k, hk, ek⟩ => by
      obtain ⟨zs, hk⟩ := hk
      rw [getD_set hi] at hk
      by_cases ik : i = k
      · rw [if_pos ik] at hk
        rcases hk with hk | hk <;> cases hk
      · rw [if_neg ik] at hk
        refine no4 ⟨k, ⟨zs, hk⟩, ?_⟩
        rw [List.getElem?_set_ne ik] at ek
        exact ek
    have S6 := S5.setOwn hj nl2 (E4.keep _ _ hp no) (E4.rpAll S2 hr) nf4 no5 (S1.fresh0 h0)
    have fe := ((E1.trans E2).trans E4).fext S S4
    have go : ∀ (js : List Nat) (us : List V) (ys : List D) (sa : DSt) (σa : L2.St), RpAll K F4 H3 us ys → Sim K H0 M sa σa F4 H3 → dPar.parGo js ys sa = some st' → us.length = js.length ∧ Sim K H0 M st' ((js.zip us).foldl (fun s x => s.set x.1 (some x.2)) σa) F4 H3 := by
      intro js
      induction js with
      | nil =>
        intro us ys sa σa r s e
        cases r with
        | nil => cases e; exact ⟨rfl, s⟩
        | cons _ _ => cases e
      | cons j js ih =>
        intro us ys sa σa r s e
        cases r with
        | nil => cases e
        | cons r1 r2 =>
          obtain ⟨sb, e6, e7⟩ := bs e
          obtain ⟨hj, nl2, rfl⟩ := setS_ok e6
          obtain ⟨l, z⟩ := ih _ _ _ _ r2 (s.setD hj nl2 r1) e7
          exact ⟨congrArg (· + 1) l, z⟩
    obtain ⟨l, S7⟩ := go is vs ds _ _ rr S6 e7
    exact fin _ _ _ _ _ l rfl (q rfl _ F4 H3 S7 fe)
  | .tmp _, _, _, _, e => cases e
  | .sl _, _, _, _, e => cases e
  | .d _, .d _, _, _, e => cases e
  | .d _, .sl _, _, _, e => cases e
theorem parQ_nx {i j : Nat} {is : List Nat} {f g : DE} {h : DA} {st st' : DSt} {fl : Fl} (e : dParQ i j is f g h st = some (fl, st')) : fl = .nx := by
  obtain ⟨⟨p0, s1⟩, e1, e⟩ := bs e
  obtain ⟨⟨q0, s2⟩, e2, e⟩ := bs e
  match p0, q0, e1, e2, e with
  | .d x, .tmp xs, e1, e2, e =>
    obtain ⟨_, _, e⟩ := bs e
    obtain ⟨_, _, e⟩ := bs e
    obtain ⟨_, _, e⟩ := bs e
    obtain ⟨_, _, e⟩ := bs e
    obtain ⟨_, _, e⟩ := bs e
    cases e
    rfl
  | .tmp _, _, _, _, e => cases e
  | .sl _, _, _, _, e => cases e
  | .d _, .d _, _, _, e => cases e
  | .d _, .sl _, _, _, e => cases e
theorem snd_parQ2 {i j : Nat} {ta te : TE} {f g : DE} (a : SndE K ta f) (a2 : SndE K te g) (b : SndA K tNil dNil) : SndS K (tPar i j (tCons ta (tCons te tNil))) (dParQ i j [] f g dNil) := by
  intro H0 M st σ F H fl st' E S e q
  have hfl := parQ_nx e
  subst hfl
  refine parQ_core a a2 b S e (fun _ => q) fun u v vs σ' H' l es z => ?_
  match vs, l, es with
  | [], _, es =>
    subst es
    exact ⟨u, v, rfl, z⟩
theorem snd_parQ3 {i j k : Nat} {ta te : TE} {t : TA} {f g : DE} {h : DA} (a : SndE K ta f) (a2 : SndE K te g) (b : SndA K t h) : SndS K (tPar3 i j k (tCons ta (tCons te t))) (dParQ i j [k] f g h) := by
  intro H0 M st σ F H fl st' E S e q
  have hfl := parQ_nx e
  subst hfl
  refine parQ_core a a2 b S e (fun _ => q) fun u v vs σ' H' l es z => ?_
  match vs, l, es with
  | [w], _, es =>
    subst es
    exact ⟨u, v, w, rfl, z⟩
end
section
variable {K : PySem.W.Frag} {X : Cx} {a b c : Expr} {ta tb : TE} {f g : DE} {pos : Pos} {x : Str}
theorem ss_parQ2 (i j : Nat) {y : Str} {px py pt : Pos} {kt k2 pt2} (hc : X.calm = true) (hN : X.N.Nodup) (hi : X.N[i]? = some x) (hj : X.N[j]? = some y) (hij : i ≠ j) (hx : X.env.scope.names.lookup x = some .local) (hy : X.env.scope.names.lookup y = some .local) (ha : SE K X a ta f) (hb : SE K X b tb g)
    (hw : swappedStores [.Tuple [.Name x px, .Name y py] kt pt] (.Tuple [a, b] k2 pt2) X.env = pure (some [x, y])) (h2 : starEach (a :: [b]) X.env = (false, eval a X.env) :: starEach [b] X.env := by rfl) (h3 : starEach (b :: []) X.env = (false, eval b X.env) :: starEach [] X.env := by rfl) (hs : swapsWithSole [.Tuple [.Name x px, .Name y py] kt pt] (.Tuple [a, b] k2 pt2) pos.line X.env = pure false := by rfl) :
    SS K X (.Assign [.Tuple [.Name x px, .Name y py] kt pt] (.Tuple [a, b] k2 pt2) pos) (tPar i j (tCons ta (tCons tb tNil))) (dParQ i j [] f g dNil) := ⟨ps_par hc hN hi hj hij hx hy (sa_cons ha (sa_cons hb sa_nil h3) h2).pe hw hs, snd_parQ2 ha.sn hb.sn (sa_nil (X := X)).sn⟩
theorem ss_parQ3 (i j l : Nat) {y z : Str} {px py pz pt : Pos} {kt k2 pt2} {tr : TA} {fr : DA} (hc : X.calm = true) (hN : X.N.Nodup) (hi : X.N[i]? = some x) (hj : X.N[j]? = some y) (hl : X.N[l]? = some z) (hij : i ≠ j) (hil : i ≠ l) (hjl : j ≠ l) (hx : X.env.scope.names.lookup x = some .local) (hy : X.env.scope.names.lookup y = some .local) (hz : X.env.scope.names.lookup z = some .local) (ha : SE K X a ta f) (hb : SE K X b tb g) (hd : SA K X [c] tr fr)
    (hw : swappedStores [.Tuple [.Name x px, .Name y py, .Name z pz] kt pt] (.Tuple [a, b, c] k2 pt2) X.env = pure (some [x, y, z])) (h2 : starEach (a :: [b, c]) X.env = (false, eval a X.env) :: starEach [b, c] X.env := by rfl) (h3 : starEach (b :: [c]) X.env = (false, eval b X.env) :: starEach [c] X.env := by rfl) (hs : swapsWithSole [.Tuple [.Name x px, .Name y py, .Name z pz] kt pt] (.Tuple [a, b, c] k2 pt2) pos.line X.env = pure false := by rfl) :
    SS K X (.Assign [.Tuple [.Name x px, .Name y py, .Name z pz] kt pt] (.Tuple [a, b, c] k2 pt2) pos) (tPar3 i j l (tCons ta (tCons tb tr))) (dParQ i j [l] f g fr) := ⟨ps_par3 hc hN hi hj hl hij hil hjl hx hy hz (sa_cons ha (sa_cons hb hd h3) h2).pe hw hs, snd_parQ3 ha.sn hb.sn hd.sn⟩
end
end DL
end

section
set_option Elab.async false
set_option linter.all false
set_option maxRecDepth 100000
set_option maxHeartbeats 1000000
/-! DLfor: loops over a list of one's own; remove; list(range); two new lists at once. -/
namespace DL
open PySem PySem.Spec PyProof.Rows L2
section
variable {K : PySem.W.Frag}
theorem parW_core {i j : Nat} {is : List Nat} {ta te : TE} {t : TA} {f g : DE} {h : DA} (a : SndE K ta f) (a2 : SndE K te g) (b : SndA K t h) {H0 : Hp} {M : Nat → Option Addr} {st : DSt} {σ : L2.St} {F : Addr → Prop} {H : Hp} {fl : Fl} {st' : DSt} {E : Ends} (S : Sim K H0 M st σ F H) (e : dParW i j is f g h st = some (fl, st')) (q : fl = .nx → FlOk K H0 M F H st' E .nx)
    {R : List V → Hp → Prop} (fin : ∀ u v vs σ' H', vs.length = is.length → σ' = (is.zip vs).foldl (fun s x => s.set x.1 (some x.2)) ((σ.set i (some u)).set j (some v)) → E.nx σ' H' → R (u :: v :: vs) H') : tCons ta (tCons te t) σ H R := by
  obtain ⟨⟨p0, s1⟩, e1, e⟩ := bs e
  obtain ⟨⟨q0, s2⟩, e2, e⟩ := bs e
  match p0, q0, e1, e2, e with
  | .tmp ys, .tmp xs, e1, e2, e =>
    obtain ⟨⟨rs, s3⟩, e3, e⟩ := bs e
    obtain ⟨⟨ds, s4⟩, e4, e⟩ := bs e
    obtain ⟨s5, e5, e⟩ := bs e
    obtain ⟨s6, e6, e⟩ := bs e
    obtain ⟨s7, e7, e⟩ := bs e
    cases e
    refine a H0 M st σ F H (.tmp ys) s1 _ S e1 fun u F1 H1 S1 E1 f1 r1 => ?_
    refine a2 H0 M s1 σ F1 H1 (.tmp xs) s2 _ S1 e2 fun v F2 H2 S2 E2 f2 r2 => ?_
    refine b H0 M s2 σ F2 H2 rs s3 _ S2 e3 fun vs F3 H3 S3 E3 f3 r3 => ?_
    obtain ⟨p, ws, rfl, hp, hr, nf, no, h0⟩ := r2
    obtain ⟨p1, ws1, rfl, hp1, hr1, nf1, no1, h01⟩ := r1
    obtain ⟨F4, S4, E4, rr, _⟩ := toDs_ok S3 E3 r3 e4
    have nf4 : ¬ F4 p := fun z => by
      rcases E4.new p z with z | z | z
      · exact nf z
      · rw [hp] at z; cases z
      · exact no z
    have no4 : ¬ OwnAt s4 σ p := fun z => no (z.imp E4.own)
    obtain ⟨hi, nl, rfl⟩ := setS_ok e5
    obtain ⟨hj, nl2, rfl⟩ := setS_ok e6
    have hp1' := E2.keep _ _ hp1 no1
    have no12 : ¬ OwnAt s2 σ p1 := fun z => no1 (z.imp E2.own)
    have nf12 : ¬ F2 p1 := fun z => by
      rcases E2.new p1 z with z | z | z
      · exact nf1 z
      · rw [hp1] at z; cases z
      · exact no1 z
    have nf14 : ¬ F4 p1 := fun z => by
      rcases E4.new p1 z with z | z | z
      · exact nf12 z
      · rw [hp1'] at z; cases z
      · exact no12 z
    have no14 : ¬ OwnAt s4 σ p1 := fun z => no12 (z.imp E4.own)
    have S5 := S4.setOwn hi nl (E4.keep _ _ hp1' no12) (E4.rpAll S2 (E2.rpAll S1 hr1)) nf14 no14 (S.fresh0 h01)
    have no5 : ¬ OwnAt (s4.set i (some (.own ys))) (σ.set i (some (.ref p1))) p := fun ⟨k, hk, ek⟩ => by
      obtain ⟨zs, hk⟩ := hk
      rw [getD_set hi] at hk
      by_cases ik : i = k
      · subst ik
        have hσ : i < σ.length := by rw [S4.len]; exact hi
        rw [List.getElem?_set_self hσ] at ek
        cases ek
        rw [h0] at hp1
        cases hp1
      · rw [if_neg ik] at hk
        refine no4 ⟨k, ⟨zs, hk⟩, ?_⟩
        rw [List.getElem?_set_ne ik] at ek
        exact ek
    have S6 := S5.setOwn hj nl2 (E4.keep _ _ hp no) (E4.rpAll S2 hr) nf4 no5 (S1.fresh0 h0)
    have fe := ((E1.trans E2).trans E4).fext S S4
    have go : ∀ (js : List Nat) (us : List V) (ys : List D) (sa : DSt) (σa : L2.St), RpAll K F4 H3 us ys → Sim K H0 M sa σa F4 H3 → dPar.parGo js ys sa = some st' → us.length = js.length ∧ Sim K H0 M st' ((js.zip us).foldl (fun s x => s.set x.1 (some x.2)) σa) F4 H3 := by
      intro js
      induction js with
      | nil =>
        intro us ys sa σa r s e
        cases r with
        | nil => cases e; exact ⟨rfl, s⟩
        | cons _ _ => cases e
      | cons j js ih =>
        intro us ys sa σa r s e
        cases r with
        | nil => cases e
        | cons r1 r2 =>
          obtain ⟨sb, e6, e7⟩ := bs e
          obtain ⟨hj, nl2, rfl⟩ := setS_ok e6
          obtain ⟨l, z⟩ := ih _ _ _ _ r2 (s.setD hj nl2 r1) e7
          exact ⟨congrArg (· + 1) l, z⟩
    obtain ⟨l, S7⟩ := go is vs ds _ _ rr S6 e7
    exact fin _ _ _ _ _ l rfl (q rfl _ F4 H3 S7 fe)
  | .d _, _, _, _, e => cases e
  | .sl _, _, _, _, e => cases e
  | .tmp _, .d _, _, _, e => cases e
  | .tmp _, .sl _, _, _, e => cases e
theorem parW_nx {i j : Nat} {is : List Nat} {f g : DE} {h : DA} {st st' : DSt} {fl : Fl} (e : dParW i j is f g h st = some (fl, st')) : fl = .nx := by
  obtain ⟨⟨p0, s1⟩, e1, e⟩ := bs e
  obtain ⟨⟨q0, s2⟩, e2, e⟩ := bs e
  match p0, q0, e1, e2, e with
  | .tmp ys, .tmp xs, e1, e2, e =>
    obtain ⟨_, _, e⟩ := bs e
    obtain ⟨_, _, e⟩ := bs e
    obtain ⟨_, _, e⟩ := bs e
    obtain ⟨_, _, e⟩ := bs e
    obtain ⟨_, _, e⟩ := bs e
    cases e
    rfl
  | .d _, _, _, _, e => cases e
  | .sl _, _, _, _, e => cases e
  | .tmp _, .d _, _, _, e => cases e
  | .tmp _, .sl _, _, _, e => cases e
theorem snd_parW2 {i j : Nat} {ta te : TE} {f g : DE} (a : SndE K ta f) (a2 : SndE K te g) (b : SndA K tNil dNil) : SndS K (tPar i j (tCons ta (tCons te tNil))) (dParW i j [] f g dNil) := by
  intro H0 M st σ F H fl st' E S e q
  have hfl := parW_nx e
  subst hfl
  refine parW_core a a2 b S e (fun _ => q) fun u v vs σ' H' l es z => ?_
  match vs, l, es with
  | [], _, es =>
    subst es
    exact ⟨u, v, rfl, z⟩
theorem snd_parW3 {i j k : Nat} {ta te : TE} {t : TA} {f g : DE} {h : DA} (a : SndE K ta f) (a2 : SndE K te g) (b : SndA K t h) : SndS K (tPar3 i j k (tCons ta (tCons te t))) (dParW i j [k] f g h) := by
  intro H0 M st σ F H fl st' E S e q
  have hfl := parW_nx e
  subst hfl
  refine parW_core a a2 b S e (fun _ => q) fun u v vs σ' H' l es z => ?_
  match vs, l, es with
  | [w], _, es =>
    subst es
    exact ⟨u, v, w, rfl, z⟩

/-! ### what leaves a slot alone -/
def Frame (j : Nat) (t : TS) : Prop := ∀ (E : Ends) (σ : L2.St) (H : Hp) (c : Option (Option V)), σ[j]? = c → (t { E with nx := fun σ' H' => σ'[j]? = c → E.nx σ' H' } σ H ↔ t E σ H)
theorem frame_next {j : Nat} : Frame j tNext := fun E σ H c hc => ⟨fun h => h hc, fun h _ => h⟩
theorem frame_seq {j : Nat} {a b : TS} (fa : Frame j a) (fb : Frame j b) : Frame j (tSeq a b) := fun E σ H c hc => by
  have h1 := fa { E with nx := fun σ' H' => b { E with nx := fun σ' H' => σ'[j]? = c → E.nx σ' H' } σ' H' } σ H c hc
  have h2 := fa { E with nx := fun σ' H' => b E σ' H' } σ H c hc
  have e : (fun (σ' : L2.St) (H' : Hp) => σ'[j]? = c → b { E with nx := fun σ' H' => σ'[j]? = c → E.nx σ' H' } σ' H') = fun σ' H' => σ'[j]? = c → b E σ' H' := by
    funext σ' H'
    exact propext ⟨fun h z => (fb E σ' H' c z).mp (h z), fun h z => (fb E σ' H' c z).mpr (h z)⟩
  have h1' : a { E with nx := fun σ' H' => σ'[j]? = c → b { E with nx := fun σ' H' => σ'[j]? = c → E.nx σ' H' } σ' H' } σ H ↔ a { E with nx := fun σ' H' => b { E with nx := fun σ' H' => σ'[j]? = c → E.nx σ' H' } σ' H' } σ H := h1
  have h2' : a { E with nx := fun σ' H' => σ'[j]? = c → b E σ' H' } σ H ↔ a { E with nx := fun σ' H' => b E σ' H' } σ H := h2
  rw [e] at h1'
  exact h1'.symm.trans h2'
theorem frame_if {j : Nat} {c : TT} {t u : TS} (ft : Frame j t) (fu : Frame j u) : Frame j (tIfS c t u) := fun E σ H k hk => by
  have e : (fun (b : Bool) (H1 : Hp) => if b = true then t { E with nx := fun σ' H' => σ'[j]? = k → E.nx σ' H' } σ H1 else u { E with nx := fun σ' H' => σ'[j]? = k → E.nx σ' H' } σ H1) = fun b H1 => if b = true then t E σ H1 else u E σ H1 := by
    funext b H1
    cases b with
    | true => exact propext (ft E σ H1 k hk)
    | false => exact propext (fu E σ H1 k hk)
  show c σ H _ ↔ c σ H _
  exact Iff.of_eq (congrArg (c σ H) e)
theorem frame_set {i j : Nat} {te : TE} (hij : i ≠ j) : Frame j (tAsg te (L2.gName i)) := fun E σ H k hk => by
  have e : (fun (x : V) (H1 : Hp) => (σ.set i (some x))[j]? = k → E.nx (σ.set i (some x)) H1) = fun x H1 => E.nx (σ.set i (some x)) H1 := by
    funext x H1
    exact propext ⟨fun h => h (by rw [List.getElem?_set_ne hij]; exact hk), fun h _ => h⟩
  show te σ H _ ↔ te σ H _
  exact Iff.of_eq (congrArg (te σ H) e)
/-- the list's reading by its name -/
theorem snd_forB {i : Nat} {is : List Nat} {tg : TG} {tb : TS} {g : DG} {b : DS} (hi : i ∉ is) (fr : Frame i tb) (c : SndG K is tg g) (d : SndS K tb b) : SndS K (tFor (iSeqT K (tVar i)) tg tb) (dForB i g b) := by
  intro H0 M st σ F H fl st' E S e q
  obtain ⟨xs, e1, e⟩ := bs e
  obtain ⟨p, vs, a1, a2, a3, ow⟩ := getL_ok S e1
  refine ⟨.ref p, a1, p, rfl, .inl ⟨⟨vs, SqL.of a2⟩, ?_⟩⟩
  refine ⟨fun k m σ' H' => k + m = xs.length ∧ σ'[i]? = some (some (.ref p)) ∧ ∃ s' F', Sim K H0 M s' σ' F' H' ∧ FExt K H0 F H F' H' ∧ forGoB i xs g b (xs.drop k) s' = some (fl, st'), ⟨xs.length, by simp, a1, st, F, S, .refl, e⟩, ?_⟩
  rintro k m σ' H' ⟨hkm, hσ, s', F', S', x', e'⟩
  by_cases hk : k < xs.length
  · have hdrop : xs.drop k = xs[k] :: xs.drop (k + 1) := List.drop_eq_getElem_cons hk
    rw [hdrop] at e'
    unfold forGoB at e'
    by_cases cg : getL s' i = some xs
    · rw [if_pos cg] at e'
      obtain ⟨p', vs', b1, b2, b3, ow'⟩ := getL_ok S' cg
      rw [hσ] at b1
      cases b1
      obtain ⟨vk, ek, rk⟩ := b3.get (List.getElem?_eq_getElem hk)
      refine .inr ⟨⟨vs', vk, SqL.of b2, ek⟩, fun σ2 H2 => σ2[i]? = some (some (.ref p)) ∧ ∃ s2 F2, Sim K H0 M s2 σ2 F2 H2 ∧ FExt K H0 F H F2 H2 ∧ forGoB i xs g b (xs.drop (k + 1)) s2 = some (fl, st'), fun σ2 H2 ⟨h0, s2, F2, h1, h2, h3⟩ => ⟨m - 1, by omega, by omega, h0, s2, F2, h1, h2, h3⟩, fun x H2 y => ?_⟩
      obtain ⟨ey, y⟩ := y
      subst ey
      have yy := y vs' (SqL.of b2)
      rw [ek] at yy
      cases yy
      obtain ⟨s3, e3, e'⟩ := bs e'
      obtain ⟨w, e4, e'⟩ := bs e'
      obtain ⟨wf, ws⟩ := w
      refine c H0 M s' σ' F' _ xs[k] vk s3 _ S' rk e3 fun σ3 S3 hs _ => ?_
      have hσ3 : σ3[i]? = some (some (.ref p)) := by rw [hs.2 i hi]; exact hσ
      refine (fr _ σ3 _ _ hσ3).mp ?_
      refine d H0 M s3 σ3 F' _ wf ws _ S3 e4 ?_
      cases wf with
      | nx => exact fun σ4 F4 H4 S4 x4 h4 => ⟨h4, ws, F4, S4, x'.trans x4, e'⟩
      | ct => cases e'
      | bk => cases e'
      | rt r => cases e'
    · rw [if_neg cg] at e'
      cases e'
  · have hl : k = xs.length := by omega
    subst hl
    rw [List.drop_length] at e'
    unfold forGoB at e'
    by_cases cg : getL s' i = some xs
    · rw [if_pos cg] at e'
      cases e'
      obtain ⟨p', vs', b1, b2, b3, ow'⟩ := getL_ok S' cg
      rw [hσ] at b1
      cases b1
      exact .inl ⟨⟨vs', SqL.of b2, by rw [b3.length]; exact Nat.le_refl _⟩, q σ' F' H' S' x'⟩
    · rw [if_neg cg] at e'
      cases e'
/-! ### remove -/
theorem removeI_ok {k : Int} : ∀ {is r : List Int}, removeI k is = some r → ∃ j, is[j]? = some k ∧ (∀ m : Nat, m < j → is[m]? ≠ some k) ∧ is.eraseIdx j = r
  | [], r, h => by cases h
  | x :: t, r, h => by
    have h : (if x = k then some t else (removeI k t).bind fun s => some (x :: s)) = some r := h
    by_cases c : x = k
    · rw [if_pos c] at h
      cases h
      exact ⟨0, by simp [c], fun m hm => by omega, rfl⟩
    · rw [if_neg c] at h
      obtain ⟨s, h1, h⟩ := bs h
      cases h
      obtain ⟨j, j1, j2, j3⟩ := removeI_ok h1
      refine ⟨j + 1, by simpa using j1, fun m hm => ?_, by simp [j3]⟩
      cases m with
      | zero => simpa using c
      | succ m => simpa using j2 m (by omega)
theorem rpAll_ints {F : Addr → Prop} {H : Hp} : ∀ is : List Int, RpAll K F H (is.map V.int) (is.map PyData.int)
  | [] => .nil
  | i :: r => .cons (.int i) (rpAll_ints r)
theorem snd_remove {i : Nat} {te : TE} {f : DE} (a : SndE K te f) : SndS K (tDrop (tBM K "list" rRemI (tVar i) (tCons te tNil))) (dRemove i f) := by
  intro H0 M st σ F H fl st' E S e q
  obtain ⟨zs, e0, e⟩ := bs e
  obtain ⟨p, e1, e⟩ := bs e
  obtain ⟨w, e2, e⟩ := bs e
  obtain ⟨p0, vs0, a1, a2, _⟩ := getL_ok S e0
  refine ⟨.ref p0, a1, .inl ⟨rfl, _, SqL.of a2⟩, ?_⟩
  refine a H0 M st σ F H p.1 p.2 _ S e1 fun v F1 H1 S1 E1 f1 r1 => ?_
  obtain ⟨F2, S2, E2, r2, _⟩ := toD_ok S1 E1 r1.weak e2
  obtain ⟨wd, ws⟩ := w
  match wd, e, r2 with
  | .int k, e, r2 =>
    obtain ⟨xs, e3, e⟩ := bs e
    obtain ⟨is, e4, e⟩ := bs e
    obtain ⟨r, e5, e⟩ := bs e
    obtain ⟨s, e6, e⟩ := bs e
    cases e
    cases r2
    obtain ⟨p1, vs, b1, b2, b3, o⟩ := getL_ok S2 e3
    rw [a1] at b1
    cases b1
    rw [ints_ok b3 e4] at b2
    obtain ⟨j, j1, j2, j3⟩ := removeI_ok e5
    obtain ⟨S3, E3⟩ := S2.put o a1 (rpAll_ints r) e6
    refine ⟨p0, is, k, j, rfl, rfl, b2, j1, j2, ?_⟩
    rw [j3]
    exact q σ F2 _ S3 ((E2.fext S S2).trans E3)
  | .none, e, _ => cases e
  | .bool _, e, _ => cases e
  | .str _, e, _ => cases e
  | .list _, e, _ => cases e
  | .tuple _, e, _ => cases e
  | .dict _, e, _ => cases e
/-! ### list(range(n)) -/
theorem rpAll_rg {F : Addr → Prop} {H : Hp} (n : Nat) : RpAll K F H ((List.range n).map fun i => V.int (0 + (i : Nat))) ((List.range n).map fun i => PyData.int (0 + (i : Nat))) := by
  have : ∀ l : List Nat, RpAll K F H (l.map fun i => V.int (0 + (i : Nat))) (l.map fun i => PyData.int (0 + (i : Nat))) := by
    intro l
    induction l with
    | nil => exact .nil
    | cons x r ih => exact .cons (.int _) ih
  exact this _
theorem snd_listR {ta : TE} {f : DE} (a : SndE K ta f) : SndE K (tLstRg (tRg1 ta)) (dListR f) := by
  intro H0 M st σ F H r st' Q S e q
  obtain ⟨p, e1, e⟩ := bs e
  refine a H0 M st σ F H p.1 p.2 _ S e1 fun v F1 H1 S1 E1 f1 r1 => ?_
  cases el : look p.2 p.1 with
  | none => rw [el] at e; cases e
  | some x =>
    rw [el] at e
    match x, e, el with
    | .int n, e, el =>
      have e : (if n ≤ 16777216 ∧ -(2 ^ 62) ≤ n then some (Rv.tmp ((List.range n.toNat).map fun i => .int (0 + (i : Nat))), p.2) else none) = some (r, st') := e
      have hv := (look_ok S1 r1.weak el).int
      subst hv
      by_cases c : n ≤ 16777216 ∧ -(2 ^ 62) ≤ n
      · rw [if_pos c] at e
        cases e
        refine ⟨n, rfl, ⟨by decide, by decide, c.2, by omega, by omega⟩, fun l hl => ?_⟩
        have rr := rpAll_rg (K := K) (F := F1) (H := H1) n.toNat
        obtain ⟨s, nn⟩ := new_tmp hl rr
        have eq : rgV 0 n = (List.range n.toNat).map fun i => V.int (0 + (i : Nat)) := by
          unfold rgV
          rw [Int.sub_zero]
        rw [eq]
        obtain ⟨S3, E3, r3⟩ := fin_new S1 E1 s nn
        exact q _ F1 _ S3 E3 trivial r3
      · rw [if_neg c] at e
        cases e
    | .none, e, _ => cases e
    | .bool _, e, _ => cases e
    | .str _, e, _ => cases e
    | .list _, e, _ => cases e
    | .tuple _, e, _ => cases e
    | .dict _, e, _ => cases e
end
section
variable {K : PySem.W.Frag} {X : Cx} {a b c e tg : Expr} {ta tb te : TE} {f g : DE} {pos p p2 : Pos} {x : Str} {ts : TS} {fs : DS}
theorem ss_parW2 (i j : Nat) {y : Str} {px py pt : Pos} {kt k2 pt2} (hc : X.calm = true) (hN : X.N.Nodup) (hi : X.N[i]? = some x) (hj : X.N[j]? = some y) (hij : i ≠ j) (hx : X.env.scope.names.lookup x = some .local) (hy : X.env.scope.names.lookup y = some .local) (ha : SE K X a ta f) (hb : SE K X b tb g)
    (hw : swappedStores [.Tuple [.Name x px, .Name y py] kt pt] (.Tuple [a, b] k2 pt2) X.env = pure (some [x, y])) (h2 : starEach (a :: [b]) X.env = (false, eval a X.env) :: starEach [b] X.env := by rfl) (h3 : starEach (b :: []) X.env = (false, eval b X.env) :: starEach [] X.env := by rfl) (hs : swapsWithSole [.Tuple [.Name x px, .Name y py] kt pt] (.Tuple [a, b] k2 pt2) pos.line X.env = pure false := by rfl) :
    SS K X (.Assign [.Tuple [.Name x px, .Name y py] kt pt] (.Tuple [a, b] k2 pt2) pos) (tPar i j (tCons ta (tCons tb tNil))) (dParW i j [] f g dNil) := ⟨ps_par hc hN hi hj hij hx hy (sa_cons ha (sa_cons hb sa_nil h3) h2).pe hw hs, snd_parW2 ha.sn hb.sn (sa_nil (X := X)).sn⟩
theorem ss_parW3 (i j l : Nat) {y z : Str} {px py pz pt : Pos} {kt k2 pt2} {tr : TA} {fr : DA} (hc : X.calm = true) (hN : X.N.Nodup) (hi : X.N[i]? = some x) (hj : X.N[j]? = some y) (hl : X.N[l]? = some z) (hij : i ≠ j) (hil : i ≠ l) (hjl : j ≠ l) (hx : X.env.scope.names.lookup x = some .local) (hy : X.env.scope.names.lookup y = some .local) (hz : X.env.scope.names.lookup z = some .local) (ha : SE K X a ta f) (hb : SE K X b tb g) (hd : SA K X [c] tr fr)
    (hw : swappedStores [.Tuple [.Name x px, .Name y py, .Name z pz] kt pt] (.Tuple [a, b, c] k2 pt2) X.env = pure (some [x, y, z])) (h2 : starEach (a :: [b, c]) X.env = (false, eval a X.env) :: starEach [b, c] X.env := by rfl) (h3 : starEach (b :: [c]) X.env = (false, eval b X.env) :: starEach [c] X.env := by rfl) (hs : swapsWithSole [.Tuple [.Name x px, .Name y py, .Name z pz] kt pt] (.Tuple [a, b, c] k2 pt2) pos.line X.env = pure false := by rfl) :
    SS K X (.Assign [.Tuple [.Name x px, .Name y py, .Name z pz] kt pt] (.Tuple [a, b, c] k2 pt2) pos) (tPar3 i j l (tCons ta (tCons tb tr))) (dParW i j [l] f g fr) := ⟨ps_par3 hc hN hi hj hl hij hil hjl hx hy hz (sa_cons ha (sa_cons hb hd h3) h2).pe hw hs, snd_parW3 ha.sn hb.sn hd.sn⟩
theorem se_listR {pos' : Pos} (hc : X.calm = true) (hg : Gl X "list") (hm : X.mg "list" = none) (hg2 : Gl X "range") (hm2 : X.mg "range" = none) (ha : SE K X a ta f) (n1 : starEach [a] X.env = (false, eval a X.env) :: starEach [] X.env := by rfl)
    (n2 : starEach [.Call (.Name "range" p2) [a] [] pos] X.env = (false, eval (.Call (.Name "range" p2) [a] [] pos) X.env) :: starEach [] X.env := by rfl) : SE K X (.Call (.Name "list" p) [.Call (.Name "range" p2) [a] [] pos] [] pos') (tLstRg (tRg1 ta)) (dListR f) := ⟨pe_listRg hc hg hm (prg_1 hg2 hm2 ha.pe n1) n2, snd_listR ha.sn⟩
theorem ss_forB (i : Nat) {is : List Nat} {iter : Expr} {body : List Stmt} {it : DI} {tgr : TG} {dg : DG} (hp : PassesOwn (model X.prog X.w) X.A X.env X.xe) (hc : X.calm = true) (hii : i ∉ is) (fr : Frame i ts) (hi : SI K X tg iter (iSeqT K (tVar i)) it) (hg : SG K X tg is tgr dg) (hb : SSs K X body ts fs) (hs : ∀ x, foldedSetIterable iter X.env x = pure x := by intro _; rfl) :
    SS K X (.For tg iter body [] pos) (tFor (iSeqT K (tVar i)) tgr ts) (dForB i dg fs) := ⟨ps_for hp hc hi.pe hg.pe hb.pe hs, snd_forB hii fr hg.sn hb.sn⟩
theorem ss_remove (i : Nat) {call : Expr} (hp : PE X e te → PE X call (tBM K "list" rRemI (tVar i) (tCons te tNil))) (he : SE K X e te f) (hs : swapsWith call none pos.line X.env = pure false := by rfl) (hK : X.K = K := by rfl) :
    SS K X (.Expr call pos) (tDrop (tBM K "list" rRemI (tVar i) (tCons te tNil))) (dRemove i f) := by
  subst hK
  exact ⟨ps_expr (hp he.pe) hs, snd_remove he.sn⟩
end
end DL
end

section
set_option Elab.async false
set_option linter.all false
set_option maxRecDepth 100000
set_option maxHeartbeats 1000000
/-! DLzip: shifts; a comprehension in a comprehension; a zip that is kept in a name. -/
namespace DL
open PySem PySem.Spec PyProof.Rows L2
section
variable {K : PySem.W.Frag}
theorem prim_shl : Prim2 K (rI CPow fun i j => .int (i * 2 ^ j.toNat)) opShl := by
  intro F H v w x y z Q a b e q
  cases x <;> cases y <;> try (cases e; done)
  rename_i i j
  have e : (if 0 ≤ j ∧ j ≤ 1000000 ∧ i.natAbs < 2 ^ 64 then some (Rv.d (.int (i * 2 ^ j.toNat))) else none) = some z := e
  by_cases c : 0 ≤ j ∧ j ≤ 1000000 ∧ i.natAbs < 2 ^ 64
  · rw [if_pos c] at e
    cases e
    exact ⟨_, _, a.int, b.int, c, q _ H Same.rfl' (.int _)⟩
  · rw [if_neg c] at e
    cases e
theorem prim_shr : Prim2 K (rI (fun _ j => 0 ≤ j) fun i j => .int (i / 2 ^ j.toNat)) opShr := by
  intro F H v w x y z Q a b e q
  cases x <;> cases y <;> try (cases e; done)
  rename_i i j
  have e : (if 0 ≤ j then some (Rv.d (.int (i / 2 ^ j.toNat))) else none) = some z := e
  by_cases c : 0 ≤ j
  · rw [if_pos c] at e
    cases e
    exact ⟨_, _, a.int, b.int, c, q _ H Same.rfl' (.int _)⟩
  · rw [if_neg c] at e
    cases e
end
section
variable {K : PySem.W.Frag} {X : Cx} {a b : Expr} {ta tb : TE} {f g : DE} {pos : Pos}
theorem se_lshift (ha : SE K X a ta f) (hb : SE K X b tb g) : SE K X (.BinOp a .LShift b pos) (tOp (rI CPow fun i j => .int (i * 2 ^ j.toNat)) ta tb) (dOp2 opShl f g) := se_op prim_shl op_shl ha hb
theorem se_rshift (ha : SE K X a ta f) (hb : SE K X b tb g) : SE K X (.BinOp a .RShift b pos) (tOp (rI (fun _ j => 0 ≤ j) fun i j => .int (i / 2 ^ j.toNat)) ta tb) (dOp2 opShr f g) := se_op prim_shr op_shr ha hb
end
theorem lookup_rel {env : Env} {x : Str} : ∀ {names : List (Str × NameKind)}, (names.lookup x = some .cell ∨ names.lookup x = some .free) →
    (names.map fun (n, k) => if (k == NameKind.free && env.scope.kind == .function && env.kindOf n == some .cell) then (n, NameKind.cell) else (n, k)).lookup x = some .cell ∨
    (names.map fun (n, k) => if (k == NameKind.free && env.scope.kind == .function && env.kindOf n == some .cell) then (n, NameKind.cell) else (n, k)).lookup x = some .free
  | [], h => by simp at h
  | (n, k) :: r, h => by
    have ih := @lookup_rel env x r
    show List.lookup x ((if (k == NameKind.free && env.scope.kind == .function && env.kindOf n == some .cell) = true then (n, NameKind.cell) else (n, k)) :: _) = _ ∨ List.lookup x ((if (k == NameKind.free && env.scope.kind == .function && env.kindOf n == some .cell) = true then (n, NameKind.cell) else (n, k)) :: _) = _
    cases hx : x == n with
    | true =>
      simp only [List.lookup_cons, hx] at h
      by_cases hc : (k == NameKind.free && env.scope.kind == .function && env.kindOf n == some .cell) = true
      · rw [if_pos hc]
        simp [List.lookup_cons, hx]
      · rw [if_neg hc]
        simpa [List.lookup_cons, hx] using h
    | false =>
      simp only [List.lookup_cons, hx] at h
      by_cases hc : (k == NameKind.free && env.scope.kind == .function && env.kindOf n == some .cell) = true
      · rw [if_pos hc]
        simp only [List.lookup_cons, hx]
        exact ih h
      · rw [if_neg hc]
        simp only [List.lookup_cons, hx]
        exact ih h
/-- a comprehension in a comprehension -/
theorem se_lcN {K : PySem.W.Frag} {X0 : Cx} {s0 : Shared} {H0 : Hp} {C0 : Addr} {cl0 : List (Str × Addr)} {fp0 : List Addr} {sc0 : Scope} {N : List Str} {pos : Pos} {elt tgt iter : Expr} {ifs : List Expr} {scope : Scope} {own : List (Str × Nat)} {is vs : List Nat} {wi : TI} {tgr : TG} {tt : TT} {teL : TE} {it : DI} {dg : DG} {dt : DT} {de : DE}
    (hc : X0.calm = true) (hN : X0.N.Nodup) (hi : SI K (X0.blk s0 H0 sc0 (compEnvC sc0 cl0 C0 X0.env) fp0) tgt iter wi it) (hNN : X0.N = N) (ok : BlkOk N sc0 scope own)
    (hg : ∀ (s : Shared) (H : Hp) (C : Addr) (cl : List (Str × Addr)) (fp : List Addr), SG K ((X0.blk s0 H0 sc0 (compEnvC sc0 cl0 C0 X0.env) fp0).blk s H scope (compEnvC scope cl C (X0.blk s0 H0 sc0 (compEnvC sc0 cl0 C0 X0.env) fp0).env) fp) tgt is tgr dg)
    (ht : ∀ (s : Shared) (H : Hp) (C : Addr) (cl : List (Str × Addr)) (fp : List Addr), STs K ((X0.blk s0 H0 sc0 (compEnvC sc0 cl0 C0 X0.env) fp0).blk s H scope (compEnvC scope cl C (X0.blk s0 H0 sc0 (compEnvC sc0 cl0 C0 X0.env) fp0).env) fp) ifs tt dt)
    (he : ∀ (s : Shared) (H : Hp) (C : Addr) (cl : List (Str × Addr)) (fp : List Addr), SE K ((X0.blk s0 H0 sc0 (compEnvC sc0 cl0 C0 X0.env) fp0).blk s H scope (compEnvC scope cl C (X0.blk s0 H0 sc0 (compEnvC sc0 cl0 C0 X0.env) fp0).env) fp) elt teL de)
    (hvs : own.map (·.2) = vs) (hsub : ∀ j ∈ is, j ∈ vs) (hs : ∀ x, foldedSetIterable iter (X0.blk s0 H0 sc0 (compEnvC sc0 cl0 C0 X0.env) fp0).env x = pure x := by intro _; rfl) (hK : X0.K = K := by rfl) :
    SE K (X0.blk s0 H0 sc0 (compEnvC sc0 cl0 C0 X0.env) fp0) (.ListComp elt [⟨tgt, iter, ifs, 0⟩] scope pos) (tLc wi tgr tt teL vs) (dLc it dg dt de vs) := by
  subst hNN
  have ok' : BlkOk (X0.blk s0 H0 sc0 (compEnvC sc0 cl0 C0 X0.env) fp0).N (X0.blk s0 H0 sc0 (compEnvC sc0 cl0 C0 X0.env) fp0).env.scope scope own := ⟨ok.kind, ok.uniq, ok.ix, fun y hy e => lookup_rel (ok.free y hy e), ok.own⟩
  exact se_lc (X := X0.blk s0 H0 sc0 (compEnvC sc0 cl0 C0 X0.env) fp0) hc hN hi ok' hg ht he hvs hsub hs hK
/-! ### a zip in a name -/
def extH (H : Hp) (h0 : Heap) (fp : List Addr) : Hp := fun b => if b ∈ fp then some (.ext fun h => h.get? b = h0.get? b) else H b
theorem extH_in {H : Hp} {h0 : Heap} {fp : List Addr} {b : Addr} (h : b ∈ fp) : extH H h0 fp b = some (.ext fun h => h.get? b = h0.get? b) := by
  unfold extH
  rw [if_pos h]
theorem extH_out {H : Hp} {h0 : Heap} {fp : List Addr} {b : Addr} (h : b ∉ fp) : extH H h0 fp b = H b := by
  unfold extH
  rw [if_neg h]
/-- a zip of the lists at a and b stands at z -/
def ZRd (z : Addr) (fp : List Addr) (h0 : Heap) (a b : Addr) : Prop := ∃ TI TO i1 i2, fp = [z, TI, TO, i1, i2] ∧ ZipApart z TI TO i1 i2 a b ∧ IsZip h0 z TI TO .none ∧ IsPair h0 TI (.ref i1) (.ref i2) ∧ (∃ x y, IsPair h0 TO x y) ∧ h0.IsListIter i1 a 0 ∧ h0.IsListIter i2 b 0
theorem ZRd.there {z : Addr} {fp : List Addr} {h0 : Heap} {a b : Addr} (h : ZRd z fp h0 a b) : ∀ c ∈ fp, ∃ o, h0.get? c = some o := by
  obtain ⟨TI, TO, i1, i2, rfl, _, q1, q2, ⟨x, y, q3⟩, ⟨o4, q4, _⟩, ⟨o5, q5, _⟩⟩ := h
  intro c hc
  simp only [List.mem_cons, List.not_mem_nil, or_false] at hc
  rcases hc with rfl | rfl | rfl | rfl | rfl
  · exact ⟨_, q1⟩
  · exact ⟨_, q2⟩
  · exact ⟨_, q3⟩
  · exact ⟨_, q4⟩
  · exact ⟨_, q5⟩
section
variable {X : Cx} {pins : List (Addr × Obj)} {σ : L2.St} {H : Hp} {s : Shared} {h' : Heap} {fp : List Addr}
theorem inv_ext (I : Inv X pins σ H s) (k : ∀ b o, s.heap.get? b = some o → h'.get? b = some o) (hn : ∀ c ∈ fp, s.heap.objs.size ≤ c) (ho : ∀ c ∈ fp, ∃ o, h'.get? c = some o) : Inv X pins σ (extH H h' fp) { s with heap := h' } := by
  have out : ∀ b o, s.heap.get? b = some o → b ∉ fp := fun b o e z => absurd (Nat.lt_of_lt_of_le (Heap.lt_size e) (hn b z)) (Nat.lt_irrefl _)
  have out2 : ∀ b u, H b = some u → b ∉ fp := fun b u e z => by
    have := I.hok.fresh (hn b z)
    rw [this] at e
    cases e
  have same : ∀ b u, H b = some u → extH H h' fp b = some u := fun b u e => (extH_out (out2 b u e)).trans e
  refine I.un (t' := s.toks) ⟨fun b o e _ _ _ => k b o e, fun b o e _ _ _ => ⟨o.slots, by rw [k b o e]⟩, fun b o e n _ => by rw [extH_out (out b o e)]; exact n, fun b o e _ => ⟨o, k b o e⟩, fun b xs e => same b _ e, fun b o u e => same b _ e, fun b ps e => ⟨#[], by rw [same b _ e]; simp⟩⟩ ?_
  intro b u e
  by_cases hb : b ∈ fp
  · rw [extH_in hb] at e
    cases e
    obtain ⟨o, eo⟩ := ho b hb
    exact ⟨rfl, ⟨o, eo⟩, fun h1 h2 q kk => (kk o (q.trans eo)).trans eo.symm⟩
  · rw [extH_out hb] at e
    exact (I.hok b u e).stay (fun c v _ z => k c v z) (fun c z => same c _ z) fun c xs z => same c _ z
theorem inv_unext {h0 : Heap} (I : Inv X pins σ (extH H h0 fp) s) (hf : ∀ c ∈ fp, H c = none) : Inv X pins σ H s := by
  have back : ∀ b u, H b = some u → extH H h0 fp b = some u := fun b u e => by
    have : b ∉ fp := fun z => by
      rw [hf b z] at e
      cases e
    exact (extH_out this).trans e
  have forth : ∀ b u, extH H h0 fp b = some u → (∀ φ, u ≠ .ext φ) → H b = some u := fun b u e n => by
    by_cases hb : b ∈ fp
    · rw [extH_in hb] at e
      exact absurd (Option.some.inj e).symm (n _)
    · rw [extH_out hb] at e
      exact e
  have non : ∀ b, extH H h0 fp b = none → H b = none := fun b e => by
    by_cases hb : b ∈ fp
    · rw [extH_in hb] at e
      cases e
    · rw [extH_out hb] at e
      exact e
  refine I.un (t' := s.toks) (h' := s.heap) ⟨fun _ _ e _ _ _ => e, fun _ o e _ _ _ => ⟨o.slots, e⟩, fun b _ _ z _ => non b z, fun _ o e _ => ⟨o, e⟩, fun b xs z => forth b _ z fun _ w => (nomatch w), fun b o x z => forth b _ z fun _ w => (nomatch w),
    fun b ps z => ⟨#[], by rw [forth b _ z fun _ w => (nomatch w)]; simp⟩⟩ ?_
  intro b u e
  exact (I.hok b u (back b u e)).stay (fun _ _ _ z => z) (fun c z => forth c _ z fun _ w => (nomatch w)) fun c xs z => forth c _ z fun _ w => (nomatch w)
theorem fp_ext {h0 : Heap} (I : Inv X pins σ (extH H h0 fp) s) (hf : ∀ c ∈ fp, H c = none) (hy : ∀ c ∈ fp, X.s_0.heap.objs.size ≤ c) {c : Addr} (hc : c ∈ fp) : FpOk X pins H c := by
  have e := extH_in (H := H) (h0 := h0) hc
  refine ⟨hf c hc, fun z => ?_, fun z => ?_, .inr (hy c hc), fun x a q z => ?_, fun p hp z => ?_⟩
  · have := I.free
    rw [← z, e] at this
    cases this
  · obtain ⟨_, o, ho, _⟩ := I.ok.funs.mem z
    exact absurd (Nat.lt_of_lt_of_le (Heap.lt_size ho) (hy c hc)) (Nat.lt_irrefl _)
  · have := I.freeC x a q
    rw [z, e] at this
    cases this
  · have := (I.pin p hp).2.1
    rw [z, e] at this
    cases this
end
def tZip (X : Cx) (ta : TA) : TE := fun σ H Q => ta σ H fun vs H1 => ∃ a b xs ys, vs = [.ref a, .ref b] ∧ SqL X.K H1 a xs ∧ SqL X.K H1 b ys ∧
  ∀ z fp h0, ZRd z fp h0 a b → (∀ c ∈ fp, X.s_0.heap.objs.size ≤ c) → (∀ c ∈ fp, H1 c = none) → Q (.ref z) (extH H1 h0 fp)
def iZipN (X : Cx) (i : Nat) : TI := fun σ H R => ∃ z fp h0 a b H1, σ[i]? = some (some (.ref z)) ∧ ZRd z fp h0 a b ∧ (∀ c ∈ fp, X.s_0.heap.objs.size ≤ c) ∧ (∀ c ∈ fp, H1 c = none) ∧ H = extH H1 h0 fp ∧ R (Itz X.K a b) H1
section
variable {X : Cx} {ta : TA} {e e2 : Expr} {p pos tpos : Pos} {elts : List Expr} {kk i : Nat} {x : Str}
theorem five_ge {n c : Nat} (h : c ∈ [n + 4, n + 2, n + 3, n, n + 1]) : n ≤ c := by
  simp only [List.mem_cons, List.not_mem_nil, or_false] at h
  omega
theorem zip_end {pins : List (Addr × Obj)} {σ : L2.St} {H1 : Hp} {s1 : Shared} {h' : Heap} {z a b : Addr} {fp : List Addr} {Q : VK} (I1 : Inv X pins σ H1 s1) (hk : ∀ c o, s1.heap.get? c = some o → h'.get? c = some o)
    (big : ∀ c ∈ fp, s1.heap.objs.size ≤ c) (rd : ZRd z fp h' a b)
    (q : ∀ z fp h0, ZRd z fp h0 a b → (∀ c ∈ fp, X.s_0.heap.objs.size ≤ c) → (∀ c ∈ fp, H1 c = none) → Q (.ref z) (extH H1 h0 fp)) : EP X pins σ Q (.ref z) { s1 with heap := h' } :=
  ⟨.ref z, _, inv_ext I1 hk big rd.there, rfl, q _ _ _ rd (fun c hc => Nat.le_trans I1.sz (big c hc)) fun c hc => I1.hok.fresh (big c hc)⟩
theorem pe_zipV (hg : Gl X "zip") (hm : X.mg "zip" = none) (ha : PA X [e, e2] ta) (hs : starEach [e, e2] X.env = (false, eval e X.env) :: starEach [e2] X.env := by rfl) (hpl : (backTo pos (starEach [e2] X.env)).any (·.1) = false := by rfl) :
    PE X (.Call (.Name "zip" p) [e, e2] [] pos) (tZip X ta) := by
  refine ⟨fun pins s σ H Q I h => ?_⟩
  refine Call_ (ld_blt I hg hm PyProof.Rows.boot_zip (PyProof.Rows.callWith_type1 (thn (ha.run pos pins s σ H _ I h) fun us s1 ⟨vs, H1, I1, r1, a, b, xs, ys, ex, hqx, hqy, q⟩ => ?_) hs hpl))
  subst ex
  cases r1 with
  | cons r rr =>
    cases rr with
    | cons r' rr =>
      cases rr
      cases r
      cases r'
      obtain ⟨its, rv, p1, _⟩ := I1.list hqx
      obtain ⟨its2, rv2, p2, _⟩ := I1.list hqy
      refine call_zip_2 p1.isList p2.isList fun h' hz hTI hTO h1 h2 hsz hk => ?_
      exact zip_end I1 hk (fun c hc => five_ge hc) ⟨_, _, _, _, rfl, PySem.W.ktu_apart s1.heap.objs.size a b p1.lt p2.lt, hz, hTI, ⟨_, _, hTO⟩, h1, h2⟩ q
theorem pi_zipN (hN : X.N[i]? = some x) (hv : Vis X.env.scope x) (hd : (x == ("__debug__" : Str)) = false := by decide) (hcd : (x == ("__classdict__" : Str)) = false := by decide) : PI X (.Tuple elts kk tpos) (.Name x p) (iZipN X i) := by
  refine ⟨fun pins s σ H R I h => ?_⟩
  obtain ⟨z, fp, h0, a, b, H1, hs, ⟨TI, TO, i1, i2, rfl, D, q1, q2, q3, q4, q5⟩, hy, hf, rfl, q⟩ := h
  refine thn ((pe_var (pos := p) (i := i) hN hv hd hcd).run pins s σ _ (fun v H2 => v = .ref z ∧ H2 = extH H1 h0 [z, TI, TO, i1, i2]) I ⟨.ref z, hs, rfl, rfl⟩) fun u s1 ⟨v, H2, I1, r1, ev, eH⟩ => ?_
  subst ev
  rw [eH] at I1
  cases r1
  have T := turn_zip (P := X.prog) (w := X.w) (K := X.K) (elts := elts) (kk := kk) (tpos := tpos) D
  have keep : ∀ c ∈ [z, TI, TO, i1, i2], s1.heap.get? c = h0.get? c := fun c hc => (I1.hok c _ (extH_in hc)).1
  have st := T.keep 0 h0 s1.heap ⟨q1, q2, q3, q4, q5⟩ fun c hc o eo => (keep c hc).trans eo
  refine T.self X.A 0 s1 _ _ st ?_
  exact ⟨z, _, _, _, H1, rfl, inv_unext I1 hf, T, st, fun c hc => fp_ext I1 hf hy hc, q⟩
end
theorem Sim.setNone {K : PySem.W.Frag} {H0 : Hp} {M : Nat → Option Addr} {st : DSt} {σ : L2.St} {F : Addr → Prop} {H : Hp} (S : Sim K H0 M st σ F H) {i : Nat} (h : st.getD i none = none) (v : V) : Sim K H0 M st (σ.set i (some v)) F H := by
  have ne : ∀ {j : Nat} {s : SV}, st.getD j none = some s → (σ.set i (some v))[j]? = σ[j]? := fun {j s} e => List.getElem?_set_ne fun z => by
    rw [z, e] at h
    cases h
  refine ⟨by rw [List.length_set]; exact S.len, fun j x e => ?_, fun j x e => ?_, fun j x e => ?_, S.lentE, S.lent0, fun j l p a b ea eb => ?_, S.frz, S.base⟩
  · rw [ne e]
    exact S.dat j x e
  · rw [ne e]
    exact S.own j x e
  · rw [ne e]
    exact S.lent j x e
  · obtain ⟨xs, a'⟩ := a
    obtain ⟨ys, b'⟩ := b
    have ea' : σ[j]? = some (some (.ref p)) := by
      rcases a' with z | z <;> rw [ne z] at ea <;> exact ea
    have eb' : σ[l]? = some (some (.ref p)) := by
      rcases b' with z | z <;> rw [ne z] at eb <;> exact eb
    exact S.inj j l p ⟨xs, a'⟩ ⟨ys, b'⟩ ea' eb'
theorem snd_zipRet {X : Cx} {i : Nat} {is vs : List Nat} {ta : TA} {tg : TG} {tt : TT} {te : TE} {fr : DA} {g : DG} {t : DT} {f : DE} (a : SndA X.K ta fr) (c : SndG X.K is tg g) (b : SndT X.K tt t) (d : SndE X.K te f) (hsub : ∀ j ∈ is, j ∈ vs) :
    SndS X.K (tSeq (tAsg (tZip X ta) (L2.gName i)) (tRet (tLc (iZipN X i) tg tt te vs))) (dZipRet i fr g t f vs) := by
  intro H0 M st σ F H fl st' E S e q
  obtain ⟨⟨ds, s2⟩, e0, e⟩ := bs e
  obtain ⟨p, e1, e0⟩ := bs e0
  obtain ⟨⟨ys, s2'⟩, e2, e0⟩ := bs e0
  obtain ⟨zs, e3, e0⟩ := bs e0
  have e0' : zs = ds ∧ s2' = s2 := by
    cases e0
    exact ⟨rfl, rfl⟩
  obtain ⟨rfl, rfl⟩ := e0'
  have e : (if i < s2'.length then match s2'.getD i none with
    | none => dRet (dLc (fun s => some (zs, s)) g t f vs) s2'
    | _ => none else none) = some (fl, st') := e
  by_cases hi : i < s2'.length
  · rw [if_pos hi] at e
    cases hn : s2'.getD i none with
    | some y => rw [hn] at e; cases e
    | none =>
      rw [hn] at e
      refine a H0 M st σ F H p.1 p.2 _ S e1 fun us F1 H1 S1 E1 f1 r1 => ?_
      obtain ⟨F2, S2, E2, rr, _⟩ := toDs_ok S1 E1 r1 e2
      match ys, us, rr, e3 with
      | [.list m, .list n], [_, _], .cons (.lst h1 r1) (.cons (.lst h2 r2) .nil), e3 =>
        cases e3
        refine ⟨_, _, _, _, rfl, h1.sql, h2.sql, fun z fp h0 rd hy hf => ?_⟩
        have hi' : i < σ.length := by rw [S2.len]; exact hi
        refine ⟨z, fp, h0, _, _, H1, by rw [List.getElem?_set_self hi'], rd, hy, hf, rfl, ?_⟩
        have S3 := S2.setNone hn (.ref z)
        obtain ⟨⟨r, s4⟩, e4, e⟩ := bs e
        have e5 := e4
        obtain ⟨⟨ds2, s5⟩, e6, e5⟩ := bs e5
        cases e6
        refine lc_body c b d hsub S3 S3 .refl (wd_zip h1 r1 h2 r2) e5 fun v F' H' S4 E4 f4 r4 => ?_
        have x1 := E2.fext S S2
        have x2 := E4.fext S3 S4
        cases r with
        | tmp xs =>
          cases e
          obtain ⟨p', vs', rfl, b', c', nf, no, hh0⟩ := r4
          exact q _ _ F' H' S4 (x1.trans x2) ⟨p', vs', rfl, b', c', nf, S3.fresh0 hh0⟩
        | d y =>
          exfalso
          revert e5
          show ¬ ((if _ then _ else none) = some (Rv.d y, s4))
          intro e5
          split at e5
          · obtain ⟨w', _, e5⟩ := bs e5
            cases e5
          · cases e5
        | sl y =>
          exfalso
          revert e5
          show ¬ ((if _ then _ else none) = some (Rv.sl y, s4))
          intro e5
          split at e5
          · obtain ⟨w', _, e5⟩ := bs e5
            cases e5
          · cases e5
  · rw [if_neg hi] at e
    cases e
/-- x = zip(a, b); return [e for .. in x] -/
theorem sss_zipRet {K : PySem.W.Frag} {X : Cx} (i : Nat) {x : Str} {p px pi pos cp rpos lpos tpos : Pos} {a b elt : Expr} {elts : List Expr} {kk : Nat} {ifs : List Expr} {scope : Scope} {own : List (Str × Nat)} {is vs : List Nat} {ta : TA} {fr : DA} {tgr : TG} {tt : TT} {teL : TE} {dg : DG} {dt : DT} {de : DE} (hc : X.calm = true) (hN : X.N.Nodup) (hi : X.N[i]? = some x) (hx : Loc X.env.scope x)
    (hg0 : Gl X "zip") (hm0 : X.mg "zip" = none) (ha : SA K X [a, b] ta fr) (ok : BlkOk X.N X.env.scope scope own)
    (hg : ∀ (s : Shared) (H : Hp) (C : Addr) (cl : List (Str × Addr)) (fp : List Addr), SG K (X.blk s H scope (compEnvC scope cl C X.env) fp) (.Tuple elts kk tpos) is tgr dg) (ht : ∀ (s : Shared) (H : Hp) (C : Addr) (cl : List (Str × Addr)) (fp : List Addr), STs K (X.blk s H scope (compEnvC scope cl C X.env) fp) ifs tt dt)
    (he : ∀ (s : Shared) (H : Hp) (C : Addr) (cl : List (Str × Addr)) (fp : List Addr), SE K (X.blk s H scope (compEnvC scope cl C X.env) fp) elt teL de) (hvs : own.map (·.2) = vs) (hsub : ∀ j ∈ is, j ∈ vs)
    (hv : Vis X.env.scope x := by first | exact Or.inl rfl | exact Or.inr (Or.inl rfl) | exact Or.inr (Or.inr rfl)) (hd : (x == ("__debug__" : Str)) = false := by decide) (hcd : (x == ("__classdict__" : Str)) = false := by decide)
    (hs : ∀ y, foldedSetIterable (.Name x pi) X.env y = pure y := by intro _; rfl) (hsw : swapsWith (.Call (.Name "zip" p) [a, b] [] cp) (some (.Name x px)) pos.line X.env = pure false := by rfl) (hf : X.fn x = true ∨ X.env.scope.names.lookup x = some .local := by first | exact .inl rfl | exact .inr rfl | assumption)
    (h2 : starEach [a, b] X.env = (false, eval a X.env) :: starEach [b] X.env := by rfl) (hpl : (backTo cp (starEach [b] X.env)).any (·.1) = false := by rfl) (hK : X.K = K := by rfl) :
    SSs K X [.Assign [.Name x px] (.Call (.Name "zip" p) [a, b] [] cp) pos, .Return (some (.ListComp elt [⟨.Tuple elts kk tpos, .Name x pi, ifs, 0⟩] scope lpos)) rpos] (tSeq (tAsg (tZip X ta) (L2.gName i)) (tRet (tLc (iZipN X i) tgr tt teL vs))) (dZipRet i fr dg dt de vs) := by
  subst hK
  subst hvs
  exact ⟨pss_cons (ps_set hN hi hx (pe_zipV hg0 hm0 ha.pe h2 hpl) hsw hf) (pss_one (ps_ret (pe_lc hc hN (pi_zipN hi hv hd hcd) ok (fun s H C cl fp => (hg s H C cl fp).pe) (fun s H C cl fp => (ht s H C cl fp).pe) (fun s H C cl fp => (he s H C cl fp).pe) hs))),
    snd_zipRet ha.sn (hg {} (fun _ => none) 0 [] []).sn (ht {} (fun _ => none) 0 [] []).sn (he {} (fun _ => none) 0 [] []).sn hsub⟩
end DL
end

section
set_option Elab.async false
set_option linter.all false
set_option maxRecDepth 100000
set_option maxHeartbeats 1000000
/-! DLlzip: list(zip(a, b)). -/
namespace DL
open PySem PySem.Spec PyProof.Rows L2
theorem zip_no_len : typeLookup (.type "zip") "__len__" = pure none := am_miss_of_fast (by decide +kernel)
theorem zip_no_hint : typeLookup (.type "zip") "__length_hint__" = pure none := am_miss_of_fast (by decide +kernel)
/-- the zip stands ahead of pair i; its last pair may be out -/
structure ZAt (h : Heap) (z TI TO i1 i2 l1 l2 : Addr) (xs ys : Array Value) (i : Nat) : Prop where
  zip : (IsZip h z TI TO .none ∧ ∃ a b, IsPair h TO a b) ∨ ∃ T f o, IsZipHeld h z TI TO T f ∧ h.get? T = some o
  ti : IsPair h TI (.ref i1) (.ref i2)
  h1 : h.IsListIter i1 l1 i
  h2 : h.IsListIter i2 l2 i
  hl1 : h.IsList l1 xs
  hl2 : h.IsList l2 ys
section
variable {h h' : Heap} {z TI TO i1 i2 l1 l2 S : Addr} {xs ys : Array Value} {i : Nat}
theorem ZAt.isZip (Z : ZAt h z TI TO i1 i2 l1 l2 xs ys i) : ∃ o, h.get? z = some o ∧ o.cls = .type "zip" := by
  rcases Z.zip with ⟨q, _⟩ | ⟨_, _, _, q, _⟩
  · exact ⟨_, q, rfl⟩
  · exact ⟨_, q, rfl⟩
theorem ZAt.keep (Z : ZAt h z TI TO i1 i2 l1 l2 xs ys i) (nS : S ≠ z ∧ S ≠ TI ∧ S ≠ TO ∧ S ≠ i1 ∧ S ≠ i2 ∧ S ≠ l1 ∧ S ≠ l2) (k : ∀ b o, b ≠ S → h.get? b = some o → h'.get? b = some o) (hS : (∃ o, h.get? S = some o) → ∃ o, h'.get? S = some o) : ZAt h' z TI TO i1 i2 l1 l2 xs ys i := by
  obtain ⟨n1, n2, n3, n4, n5, n6, n7⟩ := nS
  refine ⟨?_, k _ _ n2.symm Z.ti, Z.h1.at fun o e => k _ o n4.symm e, Z.h2.at fun o e => k _ o n5.symm e, Z.hl1.at fun o e => k _ o n6.symm e, Z.hl2.at fun o e => k _ o n7.symm e⟩
  rcases Z.zip with ⟨q, a, b, q2⟩ | ⟨T, f, o, q, q2⟩
  · exact .inl ⟨k _ _ n1.symm q, a, b, k _ _ n3.symm q2⟩
  · by_cases hT : T = S
    · subst hT
      obtain ⟨o', e⟩ := hS ⟨o, q2⟩
      exact .inr ⟨T, f, o', k _ _ n1.symm q, e⟩
    · exact .inr ⟨T, f, o, k _ _ n1.symm q, k _ _ hT q2⟩
end
def PairsAt (h : Heap) (n0 : Nat) (acc xs ys : Array Value) (i : Nat) : Prop := ∃ t : Nat → Addr, ∀ j, j < i → acc[j]? = some (.ref (t j)) ∧ (∃ x y, xs[j]? = some x ∧ ys[j]? = some y ∧ IsPair h (t j) x y) ∧ n0 ≤ t j ∧ ∀ k, k < j → t k < t j
section
variable {prog : Program} {w : World} {A : Around} {E : Value → Shared → Prop} {s : Shared} {z TI TO i1 i2 l1 l2 : Addr} {xs ys : Array Value}
/-- the next pair -/
theorem zip_pair {n0 i : Nat} {x y : Value} {Q : Option Value → Shared → Prop} (D : ZipApart z TI TO i1 i2 l1 l2) (Z : ZAt s.heap z TI TO i1 i2 l1 l2 xs ys i) (hx : xs[i]? = some x) (hy : ys[i]? = some y)
    (hQ : ∀ h', ZAt h' z TI TO i1 i2 l1 l2 xs ys (i + 1) → IsPair h' s.heap.objs.size x y → (∀ c o, c ∉ [z, TO, i1, i2] → s.heap.get? c = some o → h'.get? c = some o) → Q (some (.ref s.heap.objs.size)) { s with heap := h' }) :
    wpAny (model prog w) A (pyNext (.ref z)) Q E s := by
  have ne : ∀ {c : Addr}, c ∉ [z, TO, i1, i2] → c ≠ z ∧ c ≠ TO ∧ c ≠ i1 ∧ c ≠ i2 := fun h => by
    simp only [List.mem_cons, List.not_mem_nil, or_false, not_or] at h
    exact h
  rcases Z.zip with ⟨q, a, b, q2⟩ | ⟨T, f, o, q, q2⟩
  · refine wpAny_pyNext_zip_item D q Z.ti q2 Z.h1 Z.h2 Z.hl1 Z.hl2 hx hy fun h' a1 a2 a3 a4 a5 a6 hk => ?_
    refine hQ h' ⟨.inr ⟨_, false, _, a1, a5⟩, hk _ _ D.TIz D.TITO D.TIi1 D.TIi2 Z.ti, a3, a4, Z.hl1.at fun o e => hk _ o D.l1z D.l1TO D.l1i1 D.l1i2 e, Z.hl2.at fun o e => hk _ o D.l2z D.l2TO D.l2i1 D.l2i2 e⟩ a5 fun c o hc e => ?_
    obtain ⟨m1, m2, m3, m4⟩ := ne hc
    exact hk c o m1 m2 m3 m4 e
  · refine wpAny_pyNext_zip_item_held D q q2 Z.ti Z.h1 Z.h2 Z.hl1 Z.hl2 hx hy fun h' a1 a3 a4 a5 a6 hk => ?_
    have hT : ∃ o', h'.get? T = some o' := by
      by_cases c1 : T = z
      · subst c1; exact ⟨_, a1⟩
      · by_cases c2 : T = i1
        · subst c2; obtain ⟨o', e, _⟩ := a3; exact ⟨o', e⟩
        · by_cases c3 : T = i2
          · subst c3; obtain ⟨o', e, _⟩ := a4; exact ⟨o', e⟩
          · exact ⟨o, hk T o c1 c2 c3 q2⟩
    obtain ⟨o', eo'⟩ := hT
    refine hQ h' ⟨.inr ⟨_, true, _, a1, eo'⟩, hk _ _ D.TIz D.TIi1 D.TIi2 Z.ti, a3, a4, Z.hl1.at fun o e => hk _ o D.l1z D.l1i1 D.l1i2 e, Z.hl2.at fun o e => hk _ o D.l2z D.l2i1 D.l2i2 e⟩ a5 fun c o hc e => ?_
    obtain ⟨m1, m2, m3, m4⟩ := ne hc
    exact hk c o m1 m3 m4 e
theorem zip_stop {i : Nat} {Q : Option Value → Shared → Prop} (hh : A.handled = none) (D : ZipApart z TI TO i1 i2 l1 l2) (Z : ZAt s.heap z TI TO i1 i2 l1 l2 xs ys i) (hend : xs[i]? = none ∨ ys[i]? = none)
    (hQ : ∀ h', (∀ c o, c ∉ [z, TO, i1, i2] → s.heap.get? c = some o → h'.get? c = some o) → Q none { s with heap := h' }) :
    wpAny (model prog w) A (pyNext (.ref z)) Q E s := by
  have ne : ∀ {c : Addr}, c ∉ [z, TO, i1, i2] → c ≠ z ∧ c ≠ TO ∧ c ≠ i1 ∧ c ≠ i2 := fun h => by
    simp only [List.mem_cons, List.not_mem_nil, or_false, not_or] at h
    exact h
  rcases Z.zip with ⟨q, a, b, q2⟩ | ⟨T, f, o, q, q2⟩
  · refine wpAny_pyNext_zip_end hh D q Z.ti q2 Z.h1 Z.h2 Z.hl1 Z.hl2 hend fun h' hk => hQ h' fun c o hc e => ?_
    obtain ⟨m1, m2, m3, m4⟩ := ne hc
    exact hk c o m1 m2 m3 m4 e
  · refine wpAny_pyNext_zip_end_held hh D q q2 Z.ti Z.h1 Z.h2 Z.hl1 Z.hl2 hend fun h' hk => hQ h' fun c o hc e => ?_
    obtain ⟨m1, m2, m3, m4⟩ := ne hc
    exact hk c o m1 m3 m4 e
end
section
variable {prog : Program} {w : World} {A : Around} {R : Result → Shared → Prop} {z TI TO i1 i2 l1 l2 S : Addr} {xs ys : Array Value}
theorem zip_loop (hh : A.handled = none) (D : ZipApart z TI TO i1 i2 l1 l2) (hn : min xs.size ys.size ≤ sizeLine) (nS : S ≠ z ∧ S ≠ TI ∧ S ≠ TO ∧ S ≠ i1 ∧ S ≠ i2 ∧ S ≠ l1 ∧ S ≠ l2) (n0 : Nat) (hlt : ∀ b, b ∈ [S, z, TO, i1, i2] → b < n0) (res : Value) :
    ∀ (k i : Nat) (s : Shared) (acc : Array Value) (c : Nat), min xs.size ys.size - i = k → i ≤ min xs.size ys.size → ZAt s.heap z TI TO i1 i2 l1 l2 xs ys i → n0 ≤ s.heap.objs.size → s.heap.get? S = some { cls := .type "list", dict := none, data := .seq acc c, slots := #[] } → acc.size = i → PairsAt s.heap n0 acc xs ys i →
    (∀ h' acc' c', (∀ b o, b ∉ [S, z, TO, i1, i2] → s.heap.get? b = some o → h'.get? b = some o) → h'.get? S = some { cls := .type "list", dict := none, data := .seq acc' c', slots := #[] } → acc'.size = min xs.size ys.size → PairsAt h' n0 acc' xs ys (min xs.size ys.size) → R (.ok (.ret res)) { s with heap := h' }) →
    codeAny (model prog w) A (.builtin "list.extend.loop" ⟨[.ref S, .ref z, res], []⟩) R s := by
  obtain ⟨n1, n2, n3, n4, n5, n6, n7⟩ := id nS
  have sub : ∀ {b : Addr}, b ∉ [S, z, TO, i1, i2] → b ∉ [z, TO, i1, i2] := fun h z => h (List.mem_cons_of_mem _ z)
  have S4 : S ∉ [z, TO, i1, i2] := by
    simp only [List.mem_cons, List.not_mem_nil, or_false, not_or]
    exact ⟨n1, n3, n4, n5⟩
  have new : ∀ {b : Addr}, n0 ≤ b → b ∉ [S, z, TO, i1, i2] := fun h z => absurd (Nat.lt_of_lt_of_le (hlt _ z) h) (Nat.lt_irrefl _)
  intro k
  induction k with
  | zero =>
    intro i s acc c hk hi Z hs hS hac hP hR
    have hin : i = min xs.size ys.size := by omega
    subst hin
    refine codeAny_builtin F.entry_extend_loop ?_
    rw [Around.under_plainId F.plain_extend_loop _]
    show wpAny _ A.in1 (pyNext (.ref z) >>= _) _ _ s
    have hend : xs[min xs.size ys.size]? = none ∨ ys[min xs.size ys.size]? = none := by
      rcases Nat.le_total xs.size ys.size with h | h
      · exact .inl (by rw [Nat.min_eq_left h]; exact Array.getElem?_eq_none (Nat.le_refl _))
      · exact .inr (by rw [Nat.min_eq_right h]; exact Array.getElem?_eq_none (Nat.le_refl _))
    refine wpAny_bind (zip_stop (A := A.in1) hh D Z hend fun h' hk2 => ?_)
    refine wpAny_pure (hR h' acc c (fun b o hb e => hk2 b o (sub hb) e) (hk2 S _ S4 hS) hac ?_)
    obtain ⟨t, ht⟩ := hP
    refine ⟨t, fun j hj => ?_⟩
    obtain ⟨p1, ⟨x, y, p2, p3, p4⟩, p5, p6⟩ := ht j hj
    exact ⟨p1, ⟨x, y, p2, p3, hk2 _ _ (sub (new p5)) p4⟩, p5, p6⟩
  | succ k ih =>
    intro i s acc c hk hi Z hs hS hac hP hR
    have hix : i < xs.size := Nat.lt_of_lt_of_le (show i < min xs.size ys.size by omega) (Nat.min_le_left ..)
    have hiy : i < ys.size := Nat.lt_of_lt_of_le (show i < min xs.size ys.size by omega) (Nat.min_le_right ..)
    refine codeAny_builtin F.entry_extend_loop ?_
    rw [Around.under_plainId F.plain_extend_loop _]
    show wpAny _ A.in1 (pyNext (.ref z) >>= _) _ _ s
    refine wpAny_bind (zip_pair (n0 := n0) D Z (Array.getElem?_eq_getElem hix) (Array.getElem?_eq_getElem hiy) fun h' Z' hp hk2 => ?_)
    have hS' := hk2 S _ S4 hS
    have szT : s.heap.objs.size < h'.objs.size := Heap.lt_size hp
    show wpAny _ A.in1 (updateSeq S (·.push (.ref s.heap.objs.size)) >>= _) _ _ _
    refine wpAny_bind ?_
    have oth : ∀ b o, b ≠ S → h'.get? b = some o → (h'.update S (Obj.mapSeq (·.push (.ref s.heap.objs.size)))).get? b = some o := fun b o hb e => (Heap.get?_update_other _ _ (Ne.symm hb)).trans e
    have self' := Heap.get?_update_self (Obj.mapSeq (·.push (Value.ref s.heap.objs.size))) hS' rfl
    refine wpAny_updateSeq hS' rfl (wpAny_pure ⟨plainId_quiet F.plain_extend_loop _, ih (i + 1) _ (acc.push (.ref s.heap.objs.size)) _ (by omega) (by omega) (Z'.keep nS oth fun _ => ⟨_, self'⟩) ?_ self' (by rw [Array.size_push, hac]) ?_ fun h'' acc' c' m2 hS2 hz2 hP2 => ?_⟩)
      (by rw [hac]; omega) (by show (acc.push _).size ≤ sizeLine + 1; rw [Array.size_push, hac]; omega)
    · exact Nat.le_trans hs (Nat.le_of_lt (Nat.lt_of_lt_of_le szT (Nat.le_of_eq (Heap.size_update ..).symm)))
    · obtain ⟨t, ht⟩ := hP
      have keep2 : ∀ b o, n0 ≤ b → s.heap.get? b = some o → (h'.update S (Obj.mapSeq (·.push (.ref s.heap.objs.size)))).get? b = some o := fun b o hb e => oth b o (fun z => new hb (by rw [z]; exact List.mem_cons_self)) (hk2 b o (sub (new hb)) e)
      refine ⟨fun j => if j < i then t j else s.heap.objs.size, fun j hj => ?_⟩
      by_cases c : j < i
      · obtain ⟨p1, ⟨x, y, p2, p3, p4⟩, p5, p6⟩ := ht j c
        simp only [if_pos c]
        refine ⟨?_, ⟨x, y, p2, p3, keep2 _ _ p5 p4⟩, p5, fun k hk => ?_⟩
        · rw [Array.getElem?_push_lt (by omega), ← p1, Array.getElem?_eq_getElem (by omega)]
        · rw [if_pos (by omega)]
          exact p6 k hk
      · have hji : j = i := by omega
        subst hji
        simp only [if_neg c]
        refine ⟨?_, ⟨_, _, Array.getElem?_eq_getElem hix, Array.getElem?_eq_getElem hiy, oth _ _ (fun z => new hs (by rw [z]; exact List.mem_cons_self)) hp⟩, hs, fun k hk => ?_⟩
        · rw [← hac]
          simp
        · rw [if_pos hk]
          obtain ⟨_, ⟨x, y, _, _, p4⟩, _⟩ := ht k hk
          exact Heap.lt_size p4
    · refine hR h'' acc' c' (fun b o hb e => m2 b o hb (oth b o (fun z => hb (by rw [z]; exact List.mem_cons_self)) (hk2 b o (sub hb) e))) hS2 hz2 hP2
end
section
variable {prog : Program} {w : World} {A : Around} {E : Value → Shared → Prop} {s : Shared} {z TI TO i1 i2 l1 l2 : Addr} {xs ys : Array Value}
/-- list(z), z a zip of two lists that was not asked yet -/
theorem call_list_zip {Q : Value → Shared → Prop} (hh : A.handled = none) (D : ZipApart z TI TO i1 i2 l1 l2) (hn : min xs.size ys.size ≤ sizeLine) (Z : ZAt s.heap z TI TO i1 i2 l1 l2 xs ys 0) (hlt : ∀ b, b ∈ [z, TI, TO, i1, i2, l1, l2] → b < s.heap.objs.size)
    (hQ : ∀ h' acc c, (∀ b o, b ∉ [s.heap.objs.size, z, TO, i1, i2] → s.heap.get? b = some o → h'.get? b = some o) → h'.get? s.heap.objs.size = some { cls := .type "list", dict := none, data := .seq acc c, slots := #[] } →
      acc.size = min xs.size ys.size → PairsAt h' (s.heap.objs.size + 1) acc xs ys (min xs.size ys.size) → Q (.ref s.heap.objs.size) { s with heap := h' }) :
    wpAny (model prog w) A (call (.type "list") [.ref z]) Q E s := by
  generalize hSz : s.heap.objs.size = S at *
  have neS : ∀ b, b ∈ [z, TI, TO, i1, i2, l1, l2] → S ≠ b := fun b hb e => by
    have := hlt b hb
    rw [← e] at this
    exact Nat.lt_irrefl _ this
  have nS : S ≠ z ∧ S ≠ TI ∧ S ≠ TO ∧ S ≠ i1 ∧ S ≠ i2 ∧ S ≠ l1 ∧ S ≠ l2 := ⟨neS _ (by simp), neS _ (by simp), neS _ (by simp), neS _ (by simp), neS _ (by simp), neS _ (by simp), neS _ (by simp)⟩
  refine callType_codes (Q₁ := fun obj s₁ => obj = .ref S ∧ s₁ = { s with heap := s.heap.push { cls := .type "list", data := .seq #[] } }) F.called_list (F.typeCall_list_1 _) F.entry_list_init
    (code_list_new _ ⟨by rw [hSz], rfl⟩) fun obj s₁ h₁ => ?_
  obtain ⟨rfl, rfl⟩ := h₁
  have hS : (s.heap.push { cls := .type "list", data := .seq #[] }).get? S = some { cls := .type "list", data := .seq #[] } := by
    rw [← hSz]
    exact Heap.get?_push_size _ rfl
  have push : ∀ b o, s.heap.get? b = some o → (s.heap.push { cls := .type "list", data := .seq #[] }).get? b = some o := fun b o e => Heap.get?_push_of_some _ e
  have Z1 : ZAt (s.heap.push { cls := .type "list", data := .seq #[] }) z TI TO i1 i2 l1 l2 xs ys 0 := Z.keep nS (fun b o _ e => push b o e) fun _ => ⟨_, hS⟩
  refine ⟨⟨_, hS, rfl⟩, F.args_list_init_2 _ _, ?_⟩
  show wpAny _ A.in1.in1 (do let old ← Builtin.List.listItems (.ref S); Builtin.List.listUpdate (.ref S) (fun _ => #[]); letGo old.toList.reverse; Builtin.List.listExtendWith (.ref S) (.ref z) .none) _ _ _
  refine wpAny_bind ?_
  unfold Builtin.List.listItems
  refine wpAny_bind (wpAny_seqItems hS rfl (wpAny_pure ?_))
  show wpAny _ A.in1.in1 (updateSeq S (fun _ => #[]) >>= fun _ => letGo (#[] : Array Value).toList.reverse >>= fun _ => Builtin.List.listExtendWith (.ref S) (.ref z) .none) _ _ _
  refine wpAny_bind (wpAny_updateSeq hS rfl ?_)
  have hS2 := Heap.get?_update_self (Obj.mapSeq (fun _ => (#[] : Array Value))) hS rfl
  have oth2 : ∀ b o, b ≠ S → (s.heap.push { cls := .type "list", data := .seq #[] }).get? b = some o → ((s.heap.push { cls := .type "list", data := .seq #[] }).update S (Obj.mapSeq (fun _ => (#[] : Array Value)))).get? b = some o :=
    fun b o hb e => (Heap.get?_update_other _ _ (Ne.symm hb)).trans e
  refine wpAny_bind (wpAny_letGo ?_)
  generalize hg2 : (s.heap.push { cls := .type "list", data := .seq #[] }).update S (Obj.mapSeq (fun _ => (#[] : Array Value))) = g2 at hS2 oth2
  have Z2 : ZAt g2 z TI TO i1 i2 l1 l2 xs ys 0 := Z1.keep nS oth2 fun _ => ⟨_, hS2⟩
  obtain ⟨oz, eoz, eoc⟩ := Z2.isZip
  unfold Builtin.List.listExtendWith
  refine wpAny_bind (wpAny_typeOf (T := "zip") ⟨oz, eoz, eoc⟩ ?_)
  have t1 : Builtin.List.listSameRef (.ref S) (.ref z) = false := by simp [Builtin.List.listSameRef, nS.1]
  have t2 : (Value.type "zip" == Value.type "list") = false := by decide
  have t3 : (Value.type "zip" == Value.type "tuple") = false := by decide
  simp only [t1, t2, t3, Bool.or_false, Bool.false_eq_true, if_false]
  have self0 : ∀ {Q : Value → Shared → Prop} {B : Around} {E : Value → Shared → Prop}, Q (.ref z) { s with heap := g2 } → wpAny (model prog w) B (pyIter (.ref z)) Q E { s with heap := g2 } := fun hq => by
    rcases Z2.zip with ⟨q, _⟩ | ⟨_, _, _, q, _⟩
    · exact wpAny_pyIter_zip q hq
    · rename_i T f o _
      have hT : Shared.TypeIs { s with heap := g2 } (.ref z) "zip" := ⟨_, q, rfl⟩
      refine wpAny_pyIter_slot hT F.slot_zip_iter (wpAny_call_entry F.slot_zip_iter hT F.entry_zip_iter ?_ (F.args_zip_iter_1 _))
      show wpAny _ _ (ret (.ref z)) _ _ _
      exact wpAny_pure ⟨_, rfl, "zip", _, hT, F.slot_zip_next.lookup, hq⟩
  refine wpAny_bind (self0 ?_)
  refine wpAny_bind (wpAny_holding ?_)
  unfold Builtin.List.listLengthHint
  refine wpAny_bind (wpAny_specialOf (T := "zip") ⟨oz, eoz, eoc⟩ zip_no_len ?_)
  show wpAny _ A.in1.in1 (specialOf (Value.ref z) (Str.ofString "__length_hint__") >>= _) _ _ _
  refine wpAny_bind (wpAny_specialOf (T := "zip") ⟨oz, eoz, eoc⟩ zip_no_hint ?_)
  refine wpAny_pure ?_
  show wpAny _ A.in1.in1 (rule "list.extend.makes-room" >>= fun _ => Builtin.List.listTouch (.ref S) >>= fun _ =>
    again (.builtin "list.extend.loop" ⟨[.ref S, .ref z, .none], []⟩)) _ _ _
  refine wpAny_bind (wpAny_rule ?_)
  refine wpAny_bind ?_
  show wpAny _ A.in1.in1 (updateSeq S (·.push .none) >>= fun _ => updateSeq S (·.pop)) _ _ _
  refine wpAny_bind (wpAny_updateSeq hS2 rfl ?_)
  have hS3 := Heap.get?_update_self (Obj.mapSeq (·.push Value.none)) hS2 rfl
  refine wpAny_updateSeq (hz := by seq_fits) hS3 rfl ?_
  have hS4 := Heap.get?_update_self (Obj.mapSeq (·.pop)) hS3 rfl
  have oth4 : ∀ b o, b ≠ S → g2.get? b = some o → ((g2.update S (Obj.mapSeq (·.push Value.none))).update S (Obj.mapSeq (·.pop))).get? b = some o :=
    fun b o hb e => (Heap.get?_update_other _ _ (Ne.symm hb)).trans ((Heap.get?_update_other _ _ (Ne.symm hb)).trans e)
  have hsz : S + 1 ≤ ((g2.update S (Obj.mapSeq (·.push Value.none))).update S (Obj.mapSeq (·.pop))).objs.size := Heap.lt_size hS4
  refine wpAny_pure ⟨plainId_quiet F.plain_extend_loop _, zip_loop (A := A.in1) hh D hn nS (S + 1) (fun b hb => ?_) .none _ 0 _ #[] _ rfl (Nat.zero_le _) (Z2.keep nS oth4 fun _ => ⟨_, hS4⟩) hsz hS4 rfl ⟨fun _ => 0, fun j hj => absurd hj (Nat.not_lt_zero _)⟩ fun h' acc' c' m h1 h2 h3 => ?_⟩
  · rcases List.mem_cons.mp hb with rfl | hb
    · exact Nat.lt_succ_self _
    · refine Nat.lt_succ_of_lt (hlt b ?_)
      simp only [List.mem_cons, List.not_mem_nil, or_false] at hb ⊢
      rcases hb with rfl | rfl | rfl | rfl <;> simp
  · refine ⟨rfl, hQ h' acc' c' (fun b o hb e => ?_) h1 h2 h3⟩
    have hbS : b ≠ S := fun z => hb (by rw [z]; exact List.mem_cons_self)
    exact m b o hb (oth4 b o hbS (oth2 b o hbS (push b o e)))
end
end DL
end

section
set_option Elab.async false
set_option linter.all false
set_option maxRecDepth 100000
set_option maxHeartbeats 1000000
/-! DLlz2: list(zip(a, b)), the rule. -/
namespace DL
open PySem PySem.Spec PyProof.Rows L2
def zipH (H : Hp) (S : Addr) (t : Nat → Addr) (n : Nat) (xs ys : List V) : Hp := fun b => if b = S then some (.lst ((List.range n).map fun j => V.ref (t j))) else
  match (List.range n).find? (fun j => t j == b) with
  | some j => some (.tup [xs.getD j .non, ys.getD j .non])
  | none => H b
section
variable {H : Hp} {S : Addr} {t : Nat → Addr} {n : Nat} {xs ys : List V} {b : Addr}
theorem zipH_S : zipH H S t n xs ys S = some (.lst ((List.range n).map fun j => V.ref (t j))) := by
  unfold zipH
  rw [if_pos rfl]
theorem zipH_t {j : Nat} (hj : j < n) (hS : t j ≠ S) (inj : ∀ j k, j < k → k < n → t j ≠ t k) : zipH H S t n xs ys (t j) = some (.tup [xs.getD j .non, ys.getD j .non]) := by
  unfold zipH
  rw [if_neg hS]
  have : (List.range n).find? (fun i => t i == t j) = some j := by
    rw [List.find?_range_eq_some]
    refine ⟨by simp, List.mem_range.mpr hj, fun i hi => ?_⟩
    simpa using inj i j hi hj
  rw [this]
theorem zipH_o (hS : b ≠ S) (ht : ∀ j, j < n → t j ≠ b) : zipH H S t n xs ys b = H b := by
  unfold zipH
  rw [if_neg hS]
  have : (List.range n).find? (fun i => t i == b) = none := by
    rw [List.find?_eq_none]
    intro i hi
    simpa using ht i (List.mem_range.mp hi)
  rw [this]
theorem zipH_cases {u : HO} (e : zipH H S t n xs ys b = some u) : b = S ∨ (∃ j, j < n ∧ t j = b) ∨ H b = some u := by
  by_cases hS : b = S
  · exact .inl hS
  · by_cases ht : ∃ j, j < n ∧ t j = b
    · exact .inr (.inl ht)
    · rw [zipH_o hS fun j hj z => ht ⟨j, hj, z⟩] at e
      exact .inr (.inr e)
end
section
variable {X : Cx} {pins : List (Addr × Obj)} {σ : L2.St} {H : Hp} {s : Shared} {h' : Heap} {fp : List Addr} {S : Addr} {t : Nat → Addr} {n : Nat} {xs ys : List V}
theorem inv_zipped (I : Inv X pins σ H s) (hf : ∀ c ∈ fp, FpOk X pins H c) (hex : ∀ c ∈ fp, X.s_0.heap.objs.size ≤ c) (k : ∀ b o, b ∉ fp → s.heap.get? b = some o → h'.get? b = some o)
    (hS : s.heap.objs.size ≤ S) (ht : ∀ j, j < n → s.heap.objs.size ≤ t j ∧ t j ≠ S) (inj : ∀ j k, j < k → k < n → t j ≠ t k)
    (oS : ObjOk X.prog X.w (zipH H S t n xs ys) h' S (.lst ((List.range n).map fun j => V.ref (t j)))) (ot : ∀ j, j < n → ObjOk X.prog X.w (zipH H S t n xs ys) h' (t j) (.tup [xs.getD j .non, ys.getD j .non])) :
    Inv X pins σ (zipH H S t n xs ys) { s with heap := h' } := by
  have old : ∀ b, b < s.heap.objs.size → zipH H S t n xs ys b = H b := fun b hb => zipH_o (fun z => by rw [z] at hb; exact absurd hb (Nat.not_lt.mpr hS)) fun j hj z => by
    rw [← z] at hb
    exact absurd hb (Nat.not_lt.mpr (ht j hj).1)
  have lt0 : ∀ b o, X.s_0.heap.get? b = some o → b < X.s_0.heap.objs.size := fun b o e => Heap.lt_size e
  have sz := I.sz
  have nfp : ∀ b, b < X.s_0.heap.objs.size → b ∉ fp := fun b hb z => absurd hb (Nat.not_lt.mpr (hex b z))
  have grow : ∀ b u, H b = some u → zipH H S t n xs ys b = some u := fun b u e => by
    have : b < s.heap.objs.size := by
      apply Classical.byContradiction
      intro z
      rw [I.hok.fresh (Nat.not_lt.mp z)] at e
      cases e
    rw [old b this]
    exact e
  refine ⟨I.ok, I.os, I.bare, ?_, ?_, ?_, ?_, ?_, ?_, ?_, I.len⟩
  · refine ⟨fun b o e h1 h2 h3 => k b o (nfp b (lt0 b o e)) (I.base.keep b o e h1 h2 h3), fun b o e h1 h2 h3 => ?_, fun b o e h1 h2 => ?_, fun b o e h1 => ?_, fun b xs e => grow b _ (I.base.tups b xs e), fun b o u e => grow b _ (I.base.frzs b o u e), fun b ps e => ?_⟩
    · obtain ⟨sl, e2⟩ := I.base.slot b o e h1 h2 h3
      exact ⟨sl, k b _ (nfp b (lt0 b o e)) e2⟩
    · rw [old b (Nat.lt_of_lt_of_le (lt0 b o e) sz)]
      exact I.base.free b o e h1 h2
    · obtain ⟨o', e2⟩ := I.base.there b o e h1
      exact ⟨o', k b o' (nfp b (lt0 b o e)) e2⟩
    · obtain ⟨more, e2⟩ := I.base.tbls b ps e
      exact ⟨more, grow b _ e2⟩
  · obtain ⟨m, ⟨o, es, ep, e1, e2, e3, e4⟩, hl⟩ := I.loc
    refine ⟨m, ⟨o, es, ep, k _ _ (fun z => (hf _ z).2.1 rfl) e1, e2, e3, e4⟩, fun i x v a b c => ?_⟩
    obtain ⟨u, r, l⟩ := hl i x v a b c
    refine ⟨u, r, l.elim .inl fun ⟨h1, c, h2, h3⟩ => .inr ⟨h1, c, h2, ?_⟩⟩
    obtain ⟨o, e1, e2⟩ := h3
    exact ⟨o, k c _ (fun z => (hf _ z).2.2.2.2.1 x c h2 rfl) e1, e2⟩
  · intro x c h
    obtain ⟨v, hv⟩ := I.cell x c h
    obtain ⟨o, e1, e2⟩ := hv
    exact ⟨v, o, k c _ (fun z => (hf _ z).2.2.2.2.1 x c h rfl) e1, e2⟩
  · obtain ⟨m, ⟨o, es, ep, e1, e2, e3, e4⟩, hl⟩ := I.loc
    rw [old _ (Heap.lt_size e1)]
    exact I.free
  · intro x c h
    obtain ⟨v, hv⟩ := I.cell x c h
    obtain ⟨o, e1, e2⟩ := hv
    rw [old _ (Heap.lt_size e1)]
    exact I.freeC x c h
  · intro p hp
    obtain ⟨h1, h2, h3, h4, h5⟩ := I.pin p hp
    exact ⟨k _ _ (fun z => (hf _ z).2.2.2.2.2 p hp rfl) h1, by rw [old _ (Heap.lt_size h1)]; exact h2, h3, h4, h5⟩
  · intro b u e
    rcases zipH_cases e with rfl | ⟨j, hj, rfl⟩ | e2
    · rw [zipH_S] at e
      cases e
      exact oS
    · rw [zipH_t hj (ht j hj).2 inj] at e
      cases e
      exact ot j hj
    · refine (I.hok b u e2).stay (fun c o hc z => k c o (fun w => ?_) z) (fun c z => grow c _ z) fun c xs z => grow c _ z
      have := (hf c w).1
      rcases hc with rfl | hc
      · rw [this] at e2; cases e2
      · rw [this] at hc; cases hc
end
theorem vals_get {vs : List V} {us : List Value} (h : Vals vs us) : ∀ {i : Nat} {u : Value}, us[i]? = some u → ∃ v, vs[i]? = some v ∧ RelV v u := by
  induction h with
  | nil => intro i u e; simp at e
  | cons r _ ih =>
    intro i u e
    cases i with
    | zero => simp at e; subst e; exact ⟨_, rfl, r⟩
    | succ i => exact ih (by simpa using e)
theorem vals_len {vs : List V} {us : List Value} (h : Vals vs us) : vs.length = us.length := by
  induction h with
  | nil => rfl
  | cons _ _ ih => simp [ih]
theorem vals_of : ∀ {vs : List V} {us : List Value}, vs.length = us.length → (∀ (i : Nat) (v : V) (u : Value), vs[i]? = some v → us[i]? = some u → RelV v u) → Vals vs us
  | [], [], _, _ => .nil
  | v :: vs, u :: us, h, r => .cons (r 0 v u rfl rfl) (vals_of (by simpa using h) fun i a b x y => r (i + 1) a b (by simpa using x) (by simpa using y))
theorem rpAll_get {K : PySem.W.Frag} {F : Addr → Prop} {H : Hp} : ∀ {vs : List V} {ds : List D}, vs.length = ds.length → (∀ (i : Nat) (v : V) (d : D), vs[i]? = some v → ds[i]? = some d → Rp K F H v d) → RpAll K F H vs ds
  | [], [], _, _ => .nil
  | v :: vs, u :: us, h, r => .cons (r 0 v u rfl rfl) (rpAll_get (by simpa using h) fun i a b x y => r (i + 1) a b (by simpa using x) (by simpa using y))
def tListZip (X : Cx) (ta : TA) : TE := fun σ H Q => tCons (tZip X ta) tNil σ H fun vs H2 => ∃ z fp h0 a b xs ys H1, vs = [.ref z] ∧ H2 = extH H1 h0 fp ∧ ZRd z fp h0 a b ∧ (∀ c ∈ fp, X.s_0.heap.objs.size ≤ c) ∧ (∀ c ∈ fp, H1 c = none) ∧ SqL X.K H1 a xs ∧ SqL X.K H1 b ys ∧
  ∀ S t, H1 S = none → (∀ j, j < min xs.length ys.length → H1 (t j) = none ∧ t j ≠ S) → (∀ j k, j < k → k < min xs.length ys.length → t j ≠ t k) → Q (.ref S) (zipH H1 S t (min xs.length ys.length) xs ys)
section
variable {X : Cx} {ta : TA} {e e2 : Expr} {p pos pos' p' : Pos}
theorem pe_listZip (hc : X.calm = true) (hg : Gl X "list") (hm : X.mg "list" = none) (hg2 : Gl X "zip") (hm2 : X.mg "zip" = none) (ha : PA X [e, e2] ta) (hs : starEach [e, e2] X.env = (false, eval e X.env) :: starEach [e2] X.env := by rfl) (hpl : (backTo pos (starEach [e2] X.env)).any (·.1) = false := by rfl)
    (n2 : starEach [.Call (.Name "zip" p) [e, e2] [] pos] X.env = (false, eval (.Call (.Name "zip" p) [e, e2] [] pos) X.env) :: starEach [] X.env := by rfl) :
    PE X (.Call (.Name "list" p') [.Call (.Name "zip" p) [e, e2] [] pos] [] pos') (tListZip X ta) := by
  refine ⟨fun pins s σ H Q I h => ?_⟩
  refine Call_ (ld_blt I hg hm PyProof.Rows.boot_list (PyProof.Rows.callWith_type1 (thn ((pa_cons (pe_zipV hg2 hm2 ha hs hpl) pa_nil n2).run pos' pins s σ H _ I h) fun us s1 ⟨vs, H2, I2, r, z, fp, h0, a, b, xs, ys, H1, ev, eH, rd, hy, hf, hqx, hqy, q⟩ => ?_) n2 (by rfl)))
  subst ev
  subst eH
  cases r with
  | cons r rr =>
    cases rr
    cases r
    have I1 := inv_unext I2 hf
    obtain ⟨TI, TO, i1, i2, rfl, D, q1, q2, ⟨x0, y0, q3⟩, ⟨o4, q4, q4'⟩, ⟨o5, q5, q5'⟩⟩ := rd
    have keep : ∀ c ∈ [z, TI, TO, i1, i2], s1.heap.get? c = h0.get? c := fun c hc => (I2.hok c _ (extH_in hc)).1
    obtain ⟨its, rv, p1, lx⟩ := I1.list hqx
    obtain ⟨its2, rv2, p2, ly⟩ := I1.list hqy
    have Z : ZAt s1.heap z TI TO i1 i2 a b its.toArray its2.toArray 0 := ⟨.inl ⟨(keep _ (by simp)).trans q1, x0, y0, (keep _ (by simp)).trans q3⟩, (keep _ (by simp)).trans q2, ⟨o4, (keep _ (by simp)).trans q4, q4'⟩, ⟨o5, (keep _ (by simp)).trans q5, q5'⟩, p1.isList, p2.isList⟩
    have l1 := vals_len rv
    have l2 := vals_len rv2
    have lt : ∀ c ∈ [z, TI, TO, i1, i2], c < s1.heap.objs.size := fun c hc => by
      obtain ⟨o, eo⟩ := ZRd.there (h0 := h0) (a := a) (b := b) ⟨TI, TO, i1, i2, rfl, D, q1, q2, ⟨x0, y0, q3⟩, ⟨o4, q4, q4'⟩, ⟨o5, q5, q5'⟩⟩ c hc
      exact Heap.lt_size ((keep c hc).trans eo)
    refine call_list_zip (I1.ok.hd hc) D (by simp; omega) Z (fun c hc => ?_) fun h' acc c kk hS hsz hP => ?_
    · simp only [List.mem_cons, List.not_mem_nil, or_false] at hc
      rcases hc with rfl | rfl | rfl | rfl | rfl | rfl | rfl
      · exact lt _ (by simp)
      · exact lt _ (by simp)
      · exact lt _ (by simp)
      · exact lt _ (by simp)
      · exact lt _ (by simp)
      · exact p1.lt
      · exact p2.lt
    · obtain ⟨t, hP⟩ := hP
      have hn : min its.toArray.size its2.toArray.size = min xs.length ys.length := by simp [l1, l2]
      rw [hn] at hP hsz
      have inj : ∀ j k, j < k → k < min xs.length ys.length → t j ≠ t k := fun j k hjk hk => by
        obtain ⟨_, _, _, lt'⟩ := hP k hk
        exact Nat.ne_of_lt (lt' j hjk)
      have ht : ∀ j, j < min xs.length ys.length → s1.heap.objs.size ≤ t j ∧ t j ≠ s1.heap.objs.size := fun j hj => by
        obtain ⟨_, _, ge, _⟩ := hP j hj
        exact ⟨Nat.le_of_succ_le ge, fun w => by rw [w] at ge; exact absurd ge (Nat.not_succ_le_self _)⟩
      refine ⟨.ref s1.heap.objs.size, _, inv_zipped (fp := [z, TI, TO, i1, i2]) I1 (fun c hc => fp_ext I2 hf hy hc) hy (fun b o hb e => kk b o (fun w => ?_) e) (Nat.le_refl _) ht inj ?_ ?_, rfl, q _ t (I1.hok.fresh (Nat.le_refl _)) (fun j hj => ⟨I1.hok.fresh (ht j hj).1, (ht j hj).2⟩) inj⟩
      · simp only [List.mem_cons, List.not_mem_nil, or_false, not_or] at hb w
        rcases w with rfl | rfl | rfl | rfl | rfl
        · exact absurd (Heap.lt_size e) (Nat.lt_irrefl _)
        · exact hb.1 rfl
        · exact hb.2.2.1 rfl
        · exact hb.2.2.2.1 rfl
        · exact hb.2.2.2.2 rfl
      · unfold ObjOk
        refine ⟨by simp; omega, acc.toList, c, vals_of (by simp [hsz]) fun i v u e1 e2 => ?_, hS⟩
        have hi : i < min xs.length ys.length := by
          have := (List.getElem?_eq_some_iff.mp e1).1
          simpa using this
        obtain ⟨g, _⟩ := hP i hi
        have e1' : v = .ref (t i) := by
          rw [List.getElem?_map, List.getElem?_range hi] at e1
          simpa using e1.symm
        have e2' : u = .ref (t i) := by
          have : acc.toList[i]? = acc[i]? := by simp
          rw [this, g] at e2
          exact (Option.some.inj e2).symm
        rw [e1', e2']
        rfl
      · intro j hj
        obtain ⟨_, ⟨x, y, g1, g2, g3⟩, _⟩ := hP j hj
        unfold ObjOk
        have g1' : its[j]? = some x := by simpa using g1
        have g2' : its2[j]? = some y := by simpa using g2
        obtain ⟨v1, f1, r1⟩ := vals_get rv g1'
        obtain ⟨v2, f2, r2⟩ := vals_get rv2 g2'
        refine ⟨by simp [sizeLine_eq], [x, y], .cons ?_ (.cons ?_ .nil), ⟨_, g3, rfl, 0, rfl⟩⟩
        · rw [List.getD_eq_getElem?_getD, f1]
          exact r1
        · rw [List.getD_eq_getElem?_getD, f2]
          exact r2
end
theorem snd_listZip {X : Cx} {ta : TA} {fr : DA} (a : SndA X.K ta fr) : SndE X.K (tListZip X ta) (dListZip fr) := by
  intro H0 M st σ F H r st' Q S e q
  obtain ⟨p, e1, e⟩ := bs e
  obtain ⟨⟨ys, s2⟩, e2, e⟩ := bs e
  obtain ⟨zs, e3, e⟩ := bs e
  cases e
  refine a H0 M st σ F H p.1 p.2 _ S e1 fun us F1 H1 S1 E1 f1 r1 => ?_
  obtain ⟨F2, S2, E2, rr, _, _, f2⟩ := toDs_ok S1 E1 r1 e2
  match ys, us, rr, e3 with
  | [.list m, .list n], [_, _], .cons (.lst (xs := vx) h1 rx) (.cons (.lst (xs := vy) h2 ry) .nil), e3 =>
    cases e3
    refine ⟨_, _, _, _, rfl, h1.sql, h2.sql, fun z fp h0 rd hy hf => ?_⟩
    refine ⟨z, fp, h0, _, _, _, _, H1, rfl, rfl, rd, hy, hf, h1.sql, h2.sql, fun T t hT ht inj => ?_⟩
    have lx := rx.length
    have ly := ry.length
    have gr : Same H1 (zipH H1 T t (min vx.length vy.length) vx vy) := fun b u e => by
      rw [zipH_o (fun z => ?_) fun j hj z => ?_]
      · exact e
      · rw [z, hT] at e; cases e
      · rw [← z, (ht j hj).1] at e; cases e
    have key : RpAll X.K F2 (zipH H1 T t (min vx.length vy.length) vx vy) ((List.range (min vx.length vy.length)).map fun j => V.ref (t j)) ((m.zip n).map fun p => PyData.tuple [p.1, p.2]) := by
      refine rpAll_get (by simp [lx, ly]) fun i v d g1 g2 => ?_
      have hi : i < min vx.length vy.length := by
        have := (List.getElem?_eq_some_iff.mp g1).1
        simpa using this
      have e1' : v = .ref (t i) := by
        rw [List.getElem?_map, List.getElem?_range hi] at g1
        simpa using g1.symm
      obtain ⟨x, y, k1, k2, rfl⟩ : ∃ x y, m[i]? = some x ∧ n[i]? = some y ∧ d = .tuple [x, y] := by
        have i1 : i < m.length := by omega
        have i2 : i < n.length := by omega
        refine ⟨m[i], n[i], List.getElem?_eq_getElem i1, List.getElem?_eq_getElem i2, ?_⟩
        rw [List.getElem?_map, List.getElem?_eq_getElem (by simp; omega), List.getElem_zip] at g2
        simpa using g2.symm
      obtain ⟨v1, f1, r1⟩ := rx.get k1
      obtain ⟨v2, f2, r2⟩ := ry.get k2
      rw [e1']
      refine .tup (SqT.of (zipH_t hi (ht i hi).2 inj)) (.cons ?_ (.cons ?_ .nil))
      · rw [List.getD_eq_getElem?_getD, f1]
        exact r1.grow gr
      · rw [List.getD_eq_getElem?_getD, f2]
        exact r2.grow gr
    obtain ⟨S3, E3, r3⟩ := fin_new (z := .tmp ((m.zip n).map fun p => PyData.tuple [p.1, p.2])) S2 E2 gr ⟨T, _, rfl, hT, zipH_S, key⟩
    exact q _ F2 _ S3 E3 (f1.trans f2) r3
theorem se_listZip {K : PySem.W.Frag} {X : Cx} {e e2 : Expr} {p pos pos' p' : Pos} {ta : TA} {fr : DA} (hc : X.calm = true) (hg : Gl X "list") (hm : X.mg "list" = none) (hg2 : Gl X "zip") (hm2 : X.mg "zip" = none) (ha : SA K X [e, e2] ta fr)
    (hs : starEach [e, e2] X.env = (false, eval e X.env) :: starEach [e2] X.env := by rfl) (hpl : (backTo pos (starEach [e2] X.env)).any (·.1) = false := by rfl)
    (n2 : starEach [.Call (.Name "zip" p) [e, e2] [] pos] X.env = (false, eval (.Call (.Name "zip" p) [e, e2] [] pos) X.env) :: starEach [] X.env := by rfl) (hK : X.K = K := by rfl) :
    SE K X (.Call (.Name "list" p') [.Call (.Name "zip" p) [e, e2] [] pos] [] pos') (tListZip X ta) (dListZip fr) := by
  subst hK
  exact ⟨pe_listZip hc hg hm hg2 hm2 ha.pe hs hpl n2, snd_listZip ha.sn⟩
end DL
end

section
set_option Elab.async false
set_option linter.all false
set_option maxRecDepth 100000
set_option maxHeartbeats 1000000
/-! DLdat: in, index, count, pop, remove over data. -/
namespace DL
open PySem PySem.Spec PyProof.Rows L2
theorem flat_list_in {ys : List D} (h : flat (.list ys) = true) : PyData.plainAll ys = true ∧ PyData.depthAll ys ≤ 63 := by
  have h1 := flat_plain h
  have h2 := flat_depth h
  simp only [PyData.plain] at h1
  simp only [PyData.depth] at h2
  exact ⟨h1, by omega⟩
theorem flat_tup_in {ys : List D} (h : flat (.tuple ys) = true) : PyData.plainAll ys = true ∧ PyData.depthAll ys ≤ 63 := by
  have h1 := flat_plain h
  have h2 := flat_depth h
  simp only [PyData.plain] at h1
  simp only [PyData.depth] at h2
  exact ⟨h1, by omega⟩
section
variable {X : Cx} {K : PySem.W.Frag}
def rInP (K : PySem.W.Frag) (neg : Bool) : R2 := fun x y H Q => ∃ d e b, Dp K H x d ∧ Dp K H y e ∧ inD d e = some b ∧ Q (.bl (if neg then !b else b)) H
theorem inD_cases {d e : D} {b : Bool} (h : inD d e = some b) : (∃ ys, e = .list ys ∧ flat d = true ∧ flat (.list ys) = true ∧ b = ys.any fun y => PyData.eqv y d) ∨ (∃ ys, e = .tuple ys ∧ flat d = true ∧ flat (.tuple ys) = true ∧ b = ys.any fun y => PyData.eqv y d) := by
  cases e with
  | list ys =>
    have h : (if flat d = true ∧ flat (.list ys) = true then some (ys.any fun y => PyData.eqv y d) else none) = some b := h
    split at h
    · rename_i c
      cases h
      exact .inl ⟨ys, rfl, c.1, c.2, rfl⟩
    · cases h
  | tuple ys =>
    have h : (if flat d = true ∧ flat (.tuple ys) = true then some (ys.any fun y => PyData.eqv y d) else none) = some b := h
    split at h
    · rename_i c
      cases h
      exact .inr ⟨ys, rfl, c.1, c.2, rfl⟩
    · cases h
  | _ => cases h
theorem op_inP (hu : X.A.units + 64 < cLine) : OpR X (compareOp .In) (rInP X.K false) := by
  intro pins s σ H x y v u Q I rx ry h
  obtain ⟨d, e, b, hd, he, hb, q⟩ := h
  obtain ⟨as, r1⟩ := Dp.reads I d x v hd rx
  obtain ⟨bs, r2⟩ := Dp.reads I e y u he ry
  rcases inD_cases hb with ⟨ys, rfl, f1, f2, rfl⟩ | ⟨ys, rfl, f1, f2, rfl⟩
  · obtain ⟨p1, p2⟩ := flat_list_in f2
    exact SeqAt.in_list_data r2 r1 p1 (flat_plain f1) (by have := Nat.min_le_left (PyData.depthAll ys) d.depth; omega) ⟨.bl _, H, I, rfl, q⟩
  · obtain ⟨p1, p2⟩ := flat_tup_in f2
    exact SeqAt.in_tuple_data r2 r1 p1 (flat_plain f1) (by have := Nat.min_le_left (PyData.depthAll ys) d.depth; omega) ⟨.bl _, H, I, rfl, q⟩
theorem op_notInP (hu : X.A.units + 64 < cLine) : OpR X (compareOp .NotIn) (rInP X.K true) := by
  intro pins s σ H x y v u Q I rx ry h
  obtain ⟨d, e, b, hd, he, hb, q⟩ := h
  obtain ⟨as, r1⟩ := Dp.reads I d x v hd rx
  obtain ⟨bs, r2⟩ := Dp.reads I e y u he ry
  rcases inD_cases hb with ⟨ys, rfl, f1, f2, rfl⟩ | ⟨ys, rfl, f1, f2, rfl⟩
  · obtain ⟨p1, p2⟩ := flat_list_in f2
    exact SeqAt.notIn_list_data r2 r1 p1 (flat_plain f1) (by have := Nat.min_le_left (PyData.depthAll ys) d.depth; omega) ⟨.bl _, H, I, rfl, q⟩
  · obtain ⟨p1, p2⟩ := flat_tup_in f2
    exact SeqAt.notIn_tuple_data r2 r1 p1 (flat_plain f1) (by have := Nat.min_le_left (PyData.depthAll ys) d.depth; omega) ⟨.bl _, H, I, rfl, q⟩
theorem inD_flat {d e : D} {b : Bool} (h : inD d e = some b) : flat d = true ∧ flat e = true := by
  rcases inD_cases h with ⟨ys, rfl, f1, f2, _⟩ | ⟨ys, rfl, f1, f2, _⟩ <;> exact ⟨f1, f2⟩
theorem prim_inP : Prim2 K (rInP K false) opInD := by
  intro F H v w x y z Q a b e q
  obtain ⟨c, e1, e2⟩ := bs e
  cases e2
  obtain ⟨f1, f2⟩ := inD_flat e1
  exact ⟨x, y, c, a.dp (flat_noDict f1), b.dp (flat_noDict f2), e1, by rw [if_neg (by decide)]; exact q _ H Same.rfl' (.bl _)⟩
theorem prim_notInP : Prim2 K (rInP K true) opNotInD := by
  intro F H v w x y z Q a b e q
  obtain ⟨c, e1, e2⟩ := bs e
  cases e2
  obtain ⟨f1, f2⟩ := inD_flat e1
  exact ⟨x, y, c, a.dp (flat_noDict f1), b.dp (flat_noDict f2), e1, by rw [if_pos rfl]; exact q _ H Same.rfl' (.bl _)⟩
/-! ### list.remove of data -/
def rRemP (K : PySem.W.Frag) : V → List V → Hp → VK → Prop := fun x xs H Q => ∃ (l : Addr) (y : V) (vs : List V) (d : D) (ds : List D) (j : Nat), x = .ref l ∧ xs = [y] ∧ H l = some (.lst vs) ∧ DpAll K H vs ds ∧ Dp K H y d ∧
  flat d = true ∧ flat (.list ds) = true ∧ (ds.findIdx? fun y => PyData.eqv y d) = some j ∧ Q .non (upd H l (.lst (vs.eraseIdx j)))
theorem mt_removeP (hu : X.A.units + 64 < cLine) : MtM X "list.remove" (rRemP X.K) := by
  intro pins s σ H x xs v us Q I rx rxs h
  obtain ⟨l, y, vs, d, ds, j, rfl, rfl, hH, hds, hd, f1, f2, hj, q⟩ := h
  cases rx
  obtain ⟨u, rfl, ru⟩ := rxs.one
  obtain ⟨z, its, n, r, hl, e⟩ := I.lstM hH
  obtain ⟨as, r1⟩ := Dp.readsAll I ds vs its hds r
  obtain ⟨bs, r2⟩ := Dp.reads I d y u hd ru
  obtain ⟨p1, p2⟩ := flat_list_in f2
  refine SeqAt.remove_list_data (vs := its.toArray) (j := j) ⟨_, e, rfl, n, rfl⟩ (by simpa using r1) r2 p1 (flat_plain f1) (by have := Nat.min_le_left (PyData.depthAll ds) d.depth; omega) hj (by rw [List.size_toArray]; omega) ?_
  refine ⟨.non, _, I.lset (its' := its.eraseIdx j) hH e ?_ (r.eraseIdx j) ?_, rfl, q⟩
  · show its.toArray.eraseIdxIfInBounds j = (its.eraseIdx j).toArray
    rw [List.eraseIdxIfInBounds_toArray]
  · have := len_erase vs j
    omega
theorem RpAll.eraseIdx {F : Addr → Prop} {H : Hp} : ∀ {vs : List V} {ds : List D}, RpAll K F H vs ds → ∀ j : Nat, RpAll K F H (vs.eraseIdx j) (ds.eraseIdx j)
  | _, _, .nil, _ => .nil
  | _, _, .cons _ b, 0 => b
  | _, _, .cons a b, j + 1 => .cons a (RpAll.eraseIdx b j)
theorem snd_removeD {i : Nat} {te : TE} {f : DE} (a : SndE K te f) : SndS K (tDrop (tBM K "list" (rRemP K) (tVar i) (tCons te tNil))) (dRemoveD i f) := by
  intro H0 M st σ F H fl st' E S e q
  obtain ⟨zs, e0, e⟩ := bs e
  obtain ⟨p, e1, e⟩ := bs e
  obtain ⟨w, e2, e⟩ := bs e
  obtain ⟨xs, e3, e⟩ := bs e
  obtain ⟨p0, vs0, a1, a2, _⟩ := getL_ok S e0
  refine ⟨.ref p0, a1, .inl ⟨rfl, _, SqL.of a2⟩, ?_⟩
  refine a H0 M st σ F H p.1 p.2 _ S e1 fun v F1 H1 S1 E1 f1 r1 => ?_
  obtain ⟨F2, S2, E2, r2, _⟩ := toD_ok S1 E1 r1.weak e2
  have e : (if flat w.1 = true ∧ flat (.list xs) = true then (xs.findIdx? fun y => PyData.eqv y w.1).bind fun j => (putL w.2 i (xs.eraseIdx j)).bind fun s => some (Fl.nx, s) else none) = some (fl, st') := e
  by_cases c : flat w.1 = true ∧ flat (.list xs) = true
  · rw [if_pos c] at e
    obtain ⟨j, e4, e⟩ := bs e
    obtain ⟨s, e5, e⟩ := bs e
    cases e
    obtain ⟨p1, vs, b1, b2, b3, o⟩ := getL_ok S2 e3
    rw [a1] at b1
    cases b1
    obtain ⟨S3, E3⟩ := S2.put o a1 (b3.eraseIdx j) e5
    have nd := flat_noDict c.2
    simp only [PyData.hasDict] at nd
    exact ⟨p0, v, vs, w.1, xs, j, rfl, rfl, b2, b3.dp nd, r2.dp (flat_noDict c.1), c.1, c.2, e4, q σ F2 _ S3 ((E2.fext S S2).trans E3)⟩
  · rw [if_neg c] at e
    cases e
theorem ss_removeD (i : Nat) {e call : Expr} {pos : Pos} {te : TE} {f : DE} (hp : PE X e te → PE X call (tBM K "list" (rRemP K) (tVar i) (tCons te tNil))) (he : SE K X e te f) (hs : swapsWith call none pos.line X.env = pure false := by rfl) (hK : X.K = K := by rfl) :
    SS K X (.Expr call pos) (tDrop (tBM K "list" (rRemP K) (tVar i) (tCons te tNil))) (dRemoveD i f) := by
  subst hK
  exact ⟨ps_expr (hp he.pe) hs, snd_removeD he.sn⟩
/-! ### xs.pop(k) -/
theorem ixAt_seq {α : Type} {xs : List α} {j : Int} {n : Nat} (h : ixAt xs j = some n) : seqIndex? j xs.length = some n ∧ n < xs.length := by
  unfold ixAt at h
  by_cases h0 : 0 ≤ j
  · rw [if_pos h0] at h
    by_cases h1 : j < xs.length
    · rw [if_pos h1] at h
      cases h
      exact ⟨seqIndex_of h0 h1, by omega⟩
    · rw [if_neg h1] at h
      cases h
  · rw [if_neg h0] at h
    by_cases h1 : -(xs.length : Int) ≤ j
    · rw [if_pos h1] at h
      cases h
      refine ⟨seqIndex_neg (by omega) h1, by omega⟩
    · rw [if_neg h1] at h
      cases h
theorem Ext.put {st st' : DSt} {σ : L2.St} {F : Addr → Prop} {H : Hp} {i : Nat} {p : Addr} {vs : List V} {xs : List D} (o : IsOwn st i) (e : σ[i]? = some (some (.ref p))) (pu : putL st i xs = some st') : Ext st σ F H st' F (upd H p (.lst vs)) := by
  have hi : i < st.length := by
    obtain ⟨ys, h | h⟩ := o
    · exact getD_lt h
    · exact getD_lt h
  have sp : (∃ ys, st.getD i none = some (.own ys) ∧ st' = st.set i (some (.own xs))) ∨ (∃ ys, st.getD i none = some (.lent ys) ∧ st' = st.set i (some (.lent xs))) := by
    unfold putL at pu
    obtain ⟨ys, h | h⟩ := id o
    · rw [h] at pu
      cases pu
      exact .inl ⟨ys, h, rfl⟩
    · rw [h] at pu
      cases pu
      exact .inr ⟨ys, h, rfl⟩
  refine ⟨fun _ h => h, fun _ h => .inl h, fun b u hb n => ?_, fun b hb => ?_, fun j h => ?_⟩
  · rw [upd_ne (by rintro rfl; exact n ⟨i, o, e⟩)]
    exact hb
  · by_cases c : b = p
    · rw [c, upd_same]
      exact fun z => by cases z
    · rw [upd_ne c]
      exact hb
  · by_cases ij : i = j
    · subst ij
      exact o
    · obtain ⟨ys, h⟩ := h
      have other : st'.getD j none = st.getD j none := by
        rcases sp with ⟨ys, _, rfl⟩ | ⟨ys, _, rfl⟩
        · rw [getD_set hi, if_neg ij]
        · rw [getD_set hi, if_neg ij]
      rw [other] at h
      exact ⟨ys, h⟩
theorem snd_pop {i : Nat} {te : TE} {f : DE} (a : SndE K te f) : SndE K (tBM K "list" rPopAt (tVar i) (tCons te tNil)) (dPop i f) := by
  intro H0 M st σ F H r st' Q S e q
  obtain ⟨zs, e0, e⟩ := bs e
  obtain ⟨p, e1, e⟩ := bs e
  obtain ⟨p0, vs0, a1, a2, _⟩ := getL_ok S e0
  refine ⟨.ref p0, a1, .inl ⟨rfl, _, SqL.of a2⟩, ?_⟩
  refine a H0 M st σ F H p.1 p.2 _ S e1 fun v F1 H1 S1 E1 f1 r1 => ?_
  cases el : look p.2 p.1 with
  | none => rw [el] at e; cases e
  | some x =>
    rw [el] at e
    match x, e, el with
    | .int j, e, el =>
      have hv := (look_ok S1 r1.weak el).int
      subst hv
      have e : (if -(2 ^ 63) ≤ j ∧ j < 2 ^ 63 then (getL p.2 i).bind fun xs => (ixAt xs j).bind fun n => (xs[n]?).bind fun x => (putL p.2 i (xs.eraseIdx n)).bind fun s => some (Rv.d x, s) else none) = some (r, st') := e
      by_cases c : -(2 ^ 63) ≤ j ∧ j < 2 ^ 63
      · rw [if_pos c] at e
        obtain ⟨xs, e3, e⟩ := bs e
        obtain ⟨n, e4, e⟩ := bs e
        obtain ⟨x, e5, e⟩ := bs e
        obtain ⟨s, e6, e⟩ := bs e
        cases e
        obtain ⟨p1, vs, b1, b2, b3, o⟩ := getL_ok S1 e3
        rw [a1] at b1
        cases b1
        obtain ⟨w, g1, g2⟩ := b3.get e5
        obtain ⟨h1, h2⟩ := ixAt_seq e4
        have S3 := (S1.put o a1 (b3.eraseIdx n) e6).1
        have E3 := Ext.put (F := F1) (H := H1) (vs := vs.eraseIdx n) o a1 e6
        refine ⟨p0, vs, j, n, w, rfl, rfl, b2, c.1, c.2, by rw [b3.length]; exact h1, g1, ?_⟩
        exact q w F1 _ S3 (E1.trans E3) (f1.trans trivial) (E3.rp S1 g2)
      · rw [if_neg c] at e
        cases e
    | .none, e, _ => cases e
    | .bool _, e, _ => cases e
    | .str _, e, _ => cases e
    | .list _, e, _ => cases e
    | .tuple _, e, _ => cases e
    | .dict _, e, _ => cases e
theorem se_pop (i : Nat) {e call : Expr} {te : TE} {f : DE} (hp : PE X e te → PE X call (tBM K "list" rPopAt (tVar i) (tCons te tNil))) (he : SE K X e te f) :
    SE K X call (tBM K "list" rPopAt (tVar i) (tCons te tNil)) (dPop i f) := ⟨hp he.pe, snd_pop he.sn⟩
end
end DL
end

section
set_option Elab.async false
set_option linter.all false
set_option maxRecDepth 100000
set_option maxHeartbeats 1000000
/-! DLtree: a def that goes through a made value, list by list, and appends a text to each (_law_spoilt). -/
namespace DL
open PySem PySem.Spec PyProof.Rows L2
mutual
/-- v is x, made of lists that stand at the places G, each there once -/
inductive Tr (K : PySem.W.Frag) (H : Hp) : V → D → List Addr → Prop
  | non : Tr K H .non .none []
  | bl (b : Bool) : Tr K H (.bl b) (.bool b) []
  | int (i : Int) : Tr K H (.int i) (.int i) []
  | str (z : Str) : Tr K H (.str z) (.str z) []
  | tup {a : Addr} {xs : List V} {ds : List D} {G : List Addr} : SqT K H a xs → ds.length ≤ 1000 → TrAll K H xs ds G → Tr K H (.ref a) (.tuple ds) G
  | lst {a : Addr} {xs : List V} {ds : List D} {G : List Addr} : H a = some (.lst xs) → ds.length ≤ 1000 → a ∉ G → (∀ z, ds.getLast? ≠ some (.str z)) → TrAll K H xs ds G → Tr K H (.ref a) (.list ds) (a :: G)
inductive TrAll (K : PySem.W.Frag) (H : Hp) : List V → List D → List Addr → Prop
  | nil : TrAll K H [] [] []
  | cons {v : V} {d : D} {G : List Addr} {vs : List V} {ds : List D} {G' : List Addr} : Tr K H v d G → TrAll K H vs ds G' → (∀ b ∈ G, b ∉ G') → TrAll K H (v :: vs) (d :: ds) (G ++ G')
end
section
variable {K : PySem.W.Frag} {H H' : Hp}
theorem TrAll.length : ∀ {vs : List V} {ds : List D} {G : List Addr}, TrAll K H vs ds G → vs.length = ds.length
  | _, _, _, .nil => rfl
  | _, _, _, .cons _ t _ => by simp [TrAll.length t]
mutual
theorem Tr.lists : ∀ {v : V} {d : D} {G : List Addr}, Tr K H v d G → ∀ b ∈ G, ∃ xs, H b = some (.lst xs)
  | _, _, _, .non, _, h => by simp at h
  | _, _, _, .bl _, _, h => by simp at h
  | _, _, _, .int _, _, h => by simp at h
  | _, _, _, .str _, _, h => by simp at h
  | _, _, _, .tup _ _ t, b, h => t.lists b h
  | _, _, _, .lst e _ _ _ t, b, h => by
    rcases List.mem_cons.mp h with rfl | h
    · exact ⟨_, e⟩
    · exact t.lists b h
theorem TrAll.lists : ∀ {vs : List V} {ds : List D} {G : List Addr}, TrAll K H vs ds G → ∀ b ∈ G, ∃ xs, H b = some (.lst xs)
  | _, _, _, .nil, _, h => by simp at h
  | _, _, _, .cons h t _, b, hb => by
    rcases List.mem_append.mp hb with hb | hb
    · exact h.lists b hb
    · exact t.lists b hb
end
theorem sqT_keep {B : List Addr} (hB : ∀ b ∈ B, ∃ xs, H b = some (.lst xs)) (k : ∀ b u, H b = some u → b ∉ B → H' b = some u) {a : Addr} {xs : List V} (h : SqT K H a xs) : SqT K H' a xs := by
  rcases h with h | h
  · rcases h with h | ⟨o, h⟩
    · exact .inl (.inl (k _ _ h fun hb => by
        obtain ⟨ys, e⟩ := hB _ hb
        rw [h] at e
        cases e))
    · exact .inl (.inr ⟨o, k _ _ h fun hb => by
        obtain ⟨ys, e⟩ := hB _ hb
        rw [h] at e
        cases e⟩)
  · exact .inr h
mutual
theorem Tr.keep {B : List Addr} (hB : ∀ b ∈ B, ∃ xs, H b = some (.lst xs)) (k : ∀ b u, H b = some u → b ∉ B → H' b = some u) : ∀ {v : V} {d : D} {G : List Addr}, Tr K H v d G → (∀ b ∈ G, b ∉ B) → Tr K H' v d G
  | _, _, _, .non, _ => .non
  | _, _, _, .bl b, _ => .bl b
  | _, _, _, .int i, _ => .int i
  | _, _, _, .str z, _ => .str z
  | _, _, _, .tup s l t, n => .tup (sqT_keep hB k s) l (t.keep hB k n)
  | _, _, _, .lst e l na o t, n => .lst (k _ _ e (n _ List.mem_cons_self)) l na o (t.keep hB k fun b hb => n b (List.mem_cons_of_mem _ hb))
theorem TrAll.keep {B : List Addr} (hB : ∀ b ∈ B, ∃ xs, H b = some (.lst xs)) (k : ∀ b u, H b = some u → b ∉ B → H' b = some u) : ∀ {vs : List V} {ds : List D} {G : List Addr}, TrAll K H vs ds G → (∀ b ∈ G, b ∉ B) → TrAll K H' vs ds G
  | _, _, _, .nil, _ => .nil
  | _, _, _, .cons h t d, n => .cons (h.keep hB k fun b hb => n b (List.mem_append_left _ hb)) (t.keep hB k fun b hb => n b (List.mem_append_right _ hb)) d
end
mutual
theorem Tr.rp {F : Addr → Prop} : ∀ {v : V} {d : D} {G : List Addr}, Tr K H v d G → (∀ b ∈ G, F b) → Rp K F H v d
  | _, _, _, .non, _ => .non
  | _, _, _, .bl b, _ => .bl b
  | _, _, _, .int i, _ => .int i
  | _, _, _, .str z, _ => .str z
  | _, _, _, .tup s l t, n => .tup s (t.rp n)
  | _, _, _, .lst e l na o t, n => .lst (.inl ⟨n _ List.mem_cons_self, e⟩) (t.rp fun b hb => n b (List.mem_cons_of_mem _ hb))
theorem TrAll.rp {F : Addr → Prop} : ∀ {vs : List V} {ds : List D} {G : List Addr}, TrAll K H vs ds G → (∀ b ∈ G, F b) → RpAll K F H vs ds
  | _, _, _, .nil, _ => .nil
  | _, _, _, .cons h t d, n => .cons (h.rp fun b hb => n b (List.mem_append_left _ hb)) (t.rp fun b hb => n b (List.mem_append_right _ hb))
end
/-- the promise of such a def -/
def spT (K : PySem.W.Frag) (n : Nat) : Sp := fun vs H Q _ => ∃ (v : V) (x : D) (G : List Addr), vs = [v] ∧ Tr K H v x G ∧ x.depth < n ∧ ∀ H', (∀ b u, H b = some u → b ∉ G → H' b = some u) → Q (.bl true) H'
theorem depth_mem : ∀ {ds : List D} {d : D} {n : Nat}, d ∈ ds → PyData.depthAll ds ≤ n → d.depth ≤ n
  | [], _, _, h, _ => by simp at h
  | x :: r, d, n, h, hn => by
    simp only [PyData.depthAll] at hn
    rcases List.mem_cons.mp h with rfl | h
    · omega
    · exact depth_mem h (by omega)
theorem sqL_keep {G : List Addr} {a : Addr} {xs : List V} (h : SqL K H a xs) (na : a ∉ G) (k : ∀ b u, H b = some u → b ∉ G → H' b = some u) : SqL K H' a xs := by
  rcases h with (h | ⟨o, h⟩) | h
  · exact .inl (.inl (k _ _ h na))
  · exact .inl (.inr ⟨o, k _ _ h na⟩)
  · exact .inr h
abbrev tParts (K : PySem.W.Frag) (n : Nat) : TE := tLc (iSeqT K (tVar 0)) (L2.gName 2) tYes (tCall (spT K n) [] E0 (tCons (tVar 2) tNil)) [2]
theorem mem_drop_cons {α : Type} {xs : List α} {i : Nat} (h : i < xs.length) : xs.drop i = xs[i] :: xs.drop (i + 1) := List.drop_eq_getElem_cons h
theorem tree_loop {n : Nat} {xs : List V} {ds : List D} {G : List Addr} {σ : L2.St} {J : It} {Q : VK} {P : Hp → Prop} (hP : ∀ H', (∀ b u, H b = some u → b ∉ G → H' b = some u) → P H') (tr : TrAll K H xs ds G) (hl : ds.length ≤ 1000) (hd : PyData.depthAll ds < n)
    (go : ∀ (i : Nat) (H' : Hp) (x : V), P H' → xs[i]? = some x → J.go i H' ∧ ∀ y H'', J.yld i H' y H'' → H'' = H' ∧ y = x) (stop : ∀ H', P H' → J.stop xs.length H')
    (hQ : ∀ D H', H D = none → H' D = some (.lst (List.replicate ds.length (.bl true))) → (∀ b u, H b = some u → b ∉ G → H' b = some u) → Q (.ref D) H') (hσ : 2 < σ.length) :
    ∀ D, H D = none → ∃ W : Nat → Nat → Hp → Prop, (∃ m, W 0 m (upd H D (.lst []))) ∧ ∀ i m H', W i m H' →
      (J.stop i H' ∧ Q (.ref D) H') ∨ (J.go i H' ∧ ∃ Nx : Hp → Prop, (∀ H'', Nx H'' → ∃ m', m' < m ∧ W (i + 1) m' H'') ∧ ∀ x H'', J.yld i H' x H'' → L2.gName 2 x (wipe σ [2]) H'' fun σ2 H2 => wipe σ2 [2] = wipe σ [2] ∧ tYes σ2 H2 fun b H3 =>
        if b = true then tCall (spT K n) [] E0 (tCons (tVar 2) tNil) σ2 H3 fun y H4 => ∃ acc, H4 D = some (.lst acc) ∧ acc.length < sizeLine ∧ Nx (upd H4 D (.lst (acc ++ [y]))) else Nx H3) := by
  intro D hD
  have len := tr.length
  have GL := tr.lists
  have DG : ∀ b ∈ G, b ≠ D := fun b hb z => by
    obtain ⟨ys, e⟩ := GL b hb
    rw [z, hD] at e
    cases e
  refine ⟨fun i m H' => i + m = xs.length ∧ H' D = some (.lst (List.replicate i (.bl true))) ∧ ∃ Gd Gr, G = Gd ++ Gr ∧ TrAll K H' (xs.drop i) (ds.drop i) Gr ∧ (∀ b u, H b = some u → b ∉ Gd → H' b = some u), ⟨xs.length, by omega, upd_same, [], G, rfl, ?_, fun b u e _ => ?_⟩, ?_⟩
  · refine tr.keep (B := []) (by simp) (fun b u e _ => ?_) (by simp)
    rw [upd_ne (ne_of_none e hD)]
    exact e
  · rw [upd_ne (ne_of_none e hD)]
    exact e
  · rintro i m H' ⟨him, hD', Gd, Gr, eG, tr', k⟩
    have hx' : P H' := hP H' fun b u e hb => k b u e fun h => hb (by rw [eG]; exact List.mem_append_left _ h)
    by_cases hi : i < xs.length
    · right
      have hi2 : i < ds.length := by omega
      rw [mem_drop_cons hi, mem_drop_cons hi2] at tr'
      generalize hy : xs[i] = y at tr'
      generalize hdd : ds[i] = d at tr'
      cases tr' with
      | @cons _ _ G1 _ _ G2 t1 t2 dj =>
        obtain ⟨g1, g2⟩ := go i H' y hx' (by rw [List.getElem?_eq_getElem hi, hy])
        refine ⟨g1, fun H2 => i + 1 + (m - 1) = xs.length ∧ H2 D = some (.lst (List.replicate (i + 1) (.bl true))) ∧ ∃ Gd Gr, G = Gd ++ Gr ∧ TrAll K H2 (xs.drop (i + 1)) (ds.drop (i + 1)) Gr ∧ (∀ b u, H b = some u → b ∉ Gd → H2 b = some u), fun H2 h2 => ⟨m - 1, by omega, h2⟩, fun x H2 hyl => ?_⟩
        obtain ⟨e1, e2⟩ := g2 x H2 hyl
        subst e1 e2
        have G1G : ∀ b ∈ G1, b ∈ G := fun b hb => by
          rw [eG]
          exact List.mem_append_right _ (List.mem_append_left _ hb)
        have nD1 : D ∉ G1 := fun h => DG _ (G1G _ h) rfl
        have GL1 := t1.lists
        refine ⟨?_, ?_⟩
        · show ((σ.set 2 none).set 2 (some _)).set 2 none = σ.set 2 none
          simp
        · refine ⟨x, ?_, x, d, G1, rfl, t1, ?_, fun H3 k3 => ?_⟩
          · show ((σ.set 2 none).set 2 (some x))[2]? = some (some x)
            simp [hσ]
          · have : d ∈ ds := by
              rw [← hdd]
              exact List.getElem_mem hi2
            have := depth_mem this (Nat.le_refl _)
            omega
          · have hD3 := k3 D _ hD' nD1
            have big : 1000 < sizeLine := by
              rw [sizeLine_eq]
              decide
            refine ⟨_, hD3, by rw [List.length_replicate]; omega, by omega, ?_, Gd ++ G1, G2, by rw [eG, List.append_assoc], ?_, fun b u e hb => ?_⟩
            · rw [upd_same, List.replicate_succ']
            · refine t2.keep (B := D :: G1) (fun b hb => ?_) (fun b u e hb => ?_) fun b hb hb2 => ?_
              · rcases List.mem_cons.mp hb with rfl | hb
                · exact ⟨_, hD'⟩
                · exact GL1 b hb
              · rw [upd_ne (fun z => hb (by rw [z]; exact List.mem_cons_self))]
                exact k3 b u e fun h => hb (List.mem_cons_of_mem _ h)
              · rcases List.mem_cons.mp hb2 with rfl | hb2
                · exact DG b (by rw [eG]; exact List.mem_append_right _ (List.mem_append_right _ hb)) rfl
                · exact dj b hb2 hb
            · have h1 : b ∉ Gd := fun h => hb (List.mem_append_left _ h)
              have h2 : b ∉ G1 := fun h => hb (List.mem_append_right _ h)
              rw [upd_ne (ne_of_none e hD)]
              exact k3 b u (k b u e h1) h2
    · left
      have hin : i = xs.length := by omega
      subst hin
      refine ⟨stop H' hx', hQ D H' hD (by rw [hD', len]) fun b u e hb => k b u e fun h => hb ?_⟩
      rw [eG]
      exact List.mem_append_left _ h
theorem tree_parts {n : Nat} {a : Addr} {xs : List V} {ds : List D} {G : List Addr} {σ : L2.St} {Q : VK} (h0 : σ[0]? = some (some (.ref a))) (hσ : 2 < σ.length) (hx : (SqL K H a xs ∧ a ∉ G) ∨ SqT K H a xs) (tr : TrAll K H xs ds G) (hl : ds.length ≤ 1000) (hd : PyData.depthAll ds < n)
    (hQ : ∀ D H', H D = none → H' D = some (.lst (List.replicate ds.length (.bl true))) → (∀ b u, H b = some u → b ∉ G → H' b = some u) → Q (.ref D) H') : tParts K n σ H Q := by
  refine ⟨_, h0, a, rfl, ?_⟩
  rcases hx with ⟨hx, na⟩ | hx
  · refine .inl ⟨⟨xs, hx⟩, ?_⟩
    exact tree_loop (P := fun H' => SqL K H' a xs) (fun H' k => sqL_keep hx na k) tr hl hd (fun i H' x hx' e => ⟨⟨xs, x, hx', e⟩, fun y H'' ⟨e1, e2⟩ => ⟨e1, by
      have := e2 xs hx'
      rw [e] at this
      exact (Option.some.inj this).symm⟩⟩) (fun H' hx' => ⟨xs, hx', Nat.le_refl _⟩) hQ hσ
  · refine .inr ⟨⟨xs, hx⟩, ?_⟩
    exact tree_loop (P := fun H' => SqT K H' a xs) (fun H' k => sqT_keep tr.lists k hx) tr hl hd (fun i H' x hx' e => ⟨⟨xs, x, hx', e⟩, fun y H'' ⟨e1, e2⟩ => ⟨e1, by
      have := e2 xs hx'
      rw [e] at this
      exact (Option.some.inj this).symm⟩⟩) (fun H' hx' => ⟨xs, hx', Nat.le_refl _⟩) hQ hσ
mutual
theorem Tr.plain : ∀ {v : V} {d : D} {G : List Addr}, Tr K H v d G → d.plain = true ∧ d.hasDict = false
  | _, _, _, .non => ⟨rfl, rfl⟩
  | _, _, _, .bl _ => ⟨rfl, rfl⟩
  | _, _, _, .int _ => ⟨rfl, rfl⟩
  | _, _, _, .str _ => ⟨rfl, rfl⟩
  | _, _, _, .tup _ _ t => ⟨t.plain.1, t.plain.2⟩
  | _, _, _, .lst _ _ _ _ t => ⟨t.plain.1, t.plain.2⟩
theorem TrAll.plain : ∀ {vs : List V} {ds : List D} {G : List Addr}, TrAll K H vs ds G → PyData.plainAll ds = true ∧ PyData.hasDictAll ds = false
  | _, _, _, .nil => ⟨rfl, rfl⟩
  | _, _, _, .cons h t _ => by
    simp [PyData.plainAll, PyData.hasDictAll, h.plain, t.plain]
end
def st0 (x : D) : DSt := [some (.d x), none, none]
theorem sim_tree {v : V} {x : D} {G : List Addr} (t : Tr K H v x G) : Sim K H (fun _ => none) (st0 x) [some v, none, none] (fun b => b ∈ G) H := by
  have no : ∀ i, ¬ IsOwn (st0 x) i := fun i ⟨xs, h⟩ => by
    match i, h with
    | 0, h => rcases h with h | h <;> cases h
    | 1, h => rcases h with h | h <;> cases h
    | 2, h => rcases h with h | h <;> cases h
    | n + 3, h => rcases h with h | h <;> cases h
  refine ⟨rfl, fun i y h => ?_, fun i xs h => absurd ⟨xs, .inl h⟩ (no i), fun i xs h => absurd ⟨xs, .inr h⟩ (no i), fun i p h => (nomatch h), fun i p h => (nomatch h), fun i j p h => absurd h (no i), fun b hb => t.lists b hb, fun b u h _ => h⟩
  match i, h with
  | 0, h =>
    cases h
    exact ⟨v, rfl, t.rp fun b hb => hb⟩
  | 1, h => cases h
  | 2, h => cases h
  | n + 3, h => cases h
theorem test_step {c : TT} {f : DT} {v : V} {x : D} {G : List Addr} {b : Bool} {Q : Bool → Hp → Prop} (h : SndT K c f) (t : Tr K H v x G) (e : f (st0 x) = some (b, st0 x)) (q : ∀ H', (∀ b u, H b = some u → H' b = some u) → Q b H') : c [some v, none, none] H Q :=
  h H (fun _ => none) (st0 x) _ _ H b (st0 x) Q (sim_tree t) e fun F' H' S _ _ => q H' fun b u e => S.base b u e fun i z => by cases z
theorem Tr.grow {v : V} {x : D} {G : List Addr} (t : Tr K H v x G) (k : ∀ b u, H b = some u → H' b = some u) : Tr K H' v x G := t.keep (B := []) (by simp) (fun b u e _ => k b u e) (by simp)
abbrev tSpoil (K : PySem.W.Frag) (n : Nat) (c1 c2 c3 : TT) (z : Str) : TS := tSeq (tIfS c1 (tRet (tCB (rAll K) (tCons (tParts K n) tNil))) tNext) (tSeq (tIfS c2 (tRet (tC (.bl true))) tNext) (tSeq (tIfS c3 (tRet (tC (.bl false))) tNext)
  (tSeq (tAsg (tParts K n) (L2.gName 1)) (tSeq (tDrop (tBM K "list" rAppend (tVar 0) (tCons (tC (.str z)) tNil))) (tRet (tCB (rAll K) (tCons (tVar 1) tNil)))))))
theorem all_true (k : Nat) : (List.replicate k true).all id = true := by
  induction k with
  | zero => rfl
  | succ k ih => rw [List.replicate_succ, List.all_cons, ih]; rfl
theorem map_bl (k : Nat) : (List.replicate k true).map V.bl = List.replicate k (.bl true) := by simp
theorem tree_body {n : Nat} {c1 c2 c3 : TT} {fc1 fc2 fc3 : DT} {z : Str} {vs : List V} {Q : VK} {E : XK} {N : List Str} (hN : N.length = 3) (h1 : SndT K c1 fc1) (h2 : SndT K c2 fc2) (h3 : SndT K c3 fc3)
    (e1 : ∀ x, fc1 (st0 x) = some (isTy x "tuple", st0 x)) (e2 : ∀ x, fc2 (st0 x) = some (!isTy x "list", st0 x))
    (e3 : ∀ ds, flat (.list ds) = true → ds.length ≤ 1000 → (∀ z, ds.getLast? ≠ some (.str z)) → fc3 (st0 (.list ds)) = some (false, st0 (.list ds))) (hn : n ≤ 60) (h : spT K (n + 1) vs H Q E) :
    tSpoil K n c1 c2 c3 z { nx := fun _ H' => Q .non H', rt := Q } (L2.start N vs) H := by
  obtain ⟨v, x, G, rfl, t, hd, q⟩ := h
  have es : L2.start N [v] = [some v, none, none] := by
    unfold L2.start
    match N, hN with
    | [_, _, _], _ => rfl
  rw [es]
  refine test_step h1 t (e1 x) fun H1 k1 => ?_
  have t1 := t.grow k1
  by_cases c : isTy x "tuple" = true
  · rw [c, if_pos rfl]
    cases t1 with
    | @tup a xs ds G s l tr =>
      show tParts K n [some (.ref a), none, none] H1 (fun x H2 => rAll K [x] H2 Q)
      refine tree_parts (σ := [some (.ref a), none, none]) (a := a) rfl (by simp) (.inr s) tr l ?_ fun D H2 hD hD2 k2 => ?_
      · simp only [PyData.depth] at hd
        omega
      · refine ⟨D, List.replicate ds.length true, rfl, ?_, ?_⟩
        · rw [map_bl]
          exact .inl (.inl hD2)
        · rw [all_true]
          exact q H2 fun b u e hb => k2 b u (k1 b u e) hb
    | _ => cases c
  · rw [Bool.not_eq_true] at c
    rw [c, if_neg Bool.false_ne_true]
    refine test_step h2 t1 (e2 x) fun H2 k2 => ?_
    have t2 := t1.grow k2
    by_cases d : isTy x "list" = true
    · rw [d, if_neg (by decide)]
      cases t2 with
      | @lst a xs ds G2 e l na o tr =>
        refine test_step h3 (.lst e l na o tr) (e3 ds ?_ l o) fun H3 k3 => ?_
        · have p1 := t.plain.1
          unfold flat
          rw [p1, Bool.true_and]
          have : (PyData.list ds).depth ≤ 64 := by omega
          simpa using this
        · rw [if_neg Bool.false_ne_true]
          have t3 := (Tr.lst e l na o tr).grow k3
          cases t3 with
          | lst e' l' na' o' tr' =>
            have sq : SqL K H3 a xs := .inl (.inl (k3 _ _ e))
            show tParts K n [some (.ref a), none, none] H3 (fun x H4 => tDrop (tBM K "list" rAppend (tVar 0) (tCons (tC (.str z)) tNil)) { nx := tRet (tCB (rAll K) (tCons (tVar 1) tNil)) { nx := fun _ H' => Q .non H', rt := Q }, rt := Q } [some (.ref a), some x, none] H4)
            refine tree_parts (σ := [some (.ref a), none, none]) (a := a) rfl (by simp) (.inl ⟨.inl (.inl e'), na'⟩) tr' l' ?_ fun D H4 hD hD4 k4 => ?_
            · simp only [PyData.depth] at hd
              omega
            · have ea : H4 a = some (.lst _) := k4 _ _ e' na'
              have lx := tr'.length
              have aD : a ≠ D := fun z => by
                rw [z, hD] at e'
                cases e'
              refine ⟨.ref a, rfl, .inl ⟨rfl, _, .inl (.inl ea)⟩, a, _, .str z, rfl, rfl, ea, ?_, ?_⟩
              · have big : 1000 < sizeLine := by
                  rw [sizeLine_eq]
                  decide
                omega
              · refine ⟨.ref D, rfl, D, List.replicate ds.length true, rfl, ?_, ?_⟩
                · rw [map_bl]
                  refine .inl (.inl ?_)
                  rw [upd_ne (Ne.symm aD)]
                  exact hD4
                · rw [all_true]
                  refine q _ fun b u eb hb => ?_
                  have nb : b ≠ a := fun z => hb (by rw [z]; exact List.mem_cons_self)
                  rw [upd_ne nb]
                  exact k4 _ _ (k3 _ _ (k2 _ _ (k1 _ _ eb))) fun h => hb (List.mem_cons_of_mem _ h)
      | _ => cases d
    · rw [Bool.not_eq_true] at d
      rw [d, if_pos (by decide)]
      show Q (.bl true) H2
      exact q H2 fun b u e _ => k2 b u (k1 b u e)
end
end DL
end

section
set_option Elab.async false
set_option linter.all false
set_option maxRecDepth 100000
set_option maxHeartbeats 1000000
/-! DLtold: x = [..] of new lists; tests; spoilt(x). -/
namespace DL
open PySem PySem.Spec PyProof.Rows L2
section
variable {K : PySem.W.Frag} {H0 : Hp} {M : Nat → Option Addr} {st st' st2 : DSt} {σ : L2.St} {F F' F2 : Addr → Prop} {H H' H2 Hb Hc : Hp} {v : V}
inductive RvD (K : PySem.W.Frag) (F : Addr → Prop) (H : Hp) (st : DSt) (σ : L2.St) (Hb : Hp) : List Rv → List V → List Addr → Prop
  | nil : RvD K F H st σ Hb [] [] []
  | d {x : D} {v : V} {rs : List Rv} {vs : List V} {G : List Addr} : Rp K F H v x → RvD K F H st σ Hb rs vs G → RvD K F H st σ Hb (.d x :: rs) (v :: vs) G
  | tmp {xs : List D} {p : Addr} {ws : List V} {rs : List Rv} {vs : List V} {G : List Addr} : H p = some (.lst ws) → RpAll K F H ws xs → ¬ F p → ¬ OwnAt st σ p → Hb p = none → p ∉ G → RvD K F H st σ Hb rs vs G → RvD K F H st σ Hb (.tmp xs :: rs) (.ref p :: vs) (p :: G)
  | sl {i : Nat} {v : V} {rs : List Rv} {vs : List V} {G : List Addr} : RvD K F H st σ Hb rs vs G → RvD K F H st σ Hb (.sl i :: rs) (v :: vs) G
def SndAd (K : PySem.W.Frag) (t : TA) (f : DA) : Prop := ∀ (H0 : Hp) (M : Nat → Option Addr) (st : DSt) (σ : L2.St) (F : Addr → Prop) (H : Hp) (rs : List Rv) (st' : DSt) (Q : List V → Hp → Prop), Sim K H0 M st σ F H → f st = some (rs, st') →
  (∀ vs F' H' G, Sim K H0 M st' σ F' H' → Ext st σ F H st' F' H' → Fill st st' → RvD K F' H' st' σ H rs vs G → Q vs H') → t σ H Q
theorem RvD.born : ∀ {rs : List Rv} {vs : List V} {G : List Addr}, RvD K F H st σ Hb rs vs G → ∀ q ∈ G, Hb q = none
  | _, _, _, .nil, _, h => by simp at h
  | _, _, _, .d _ t, q, h => t.born q h
  | _, _, _, .sl t, q, h => t.born q h
  | _, _, _, .tmp _ _ _ _ b _ t, q, h => by
    rcases List.mem_cons.mp h with rfl | h
    · exact b
    · exact t.born q h
theorem RvD.free : ∀ {rs : List Rv} {vs : List V} {G : List Addr}, RvD K F H st σ Hb rs vs G → ∀ q ∈ G, ¬ F q ∧ ¬ OwnAt st σ q
  | _, _, _, .nil, _, h => by simp at h
  | _, _, _, .d _ t, q, h => t.free q h
  | _, _, _, .sl t, q, h => t.free q h
  | _, _, _, .tmp _ _ a b _ _ t, q, h => by
    rcases List.mem_cons.mp h with rfl | h
    · exact ⟨a, b⟩
    · exact t.free q h
theorem RvD.birth (l : ∀ b, Hc b ≠ none → Hb b ≠ none) {rs : List Rv} {vs : List V} {G : List Addr} (h : RvD K F H st σ Hb rs vs G) : RvD K F H st σ Hc rs vs G := by
  induction h with
  | nil => exact .nil
  | d a _ ih => exact .d a ih
  | sl _ ih => exact .sl ih
  | @tmp _ p _ _ _ _ a b c d e f _ ih =>
    refine .tmp a b c d ?_ f ih
    by_cases z : Hc p = none
    · exact z
    · exact absurd e (l _ z)
theorem snd_nilD : SndAd K tNil dNil := by
  intro H0 M st σ F H rs st' Q S e q
  cases e
  exact q [] F H [] S .refl .refl .nil
theorem snd_consD {ta : TE} {tr : TA} {f : DE} {g : DA} (a : SndE K ta f) (b : SndAd K tr g) : SndAd K (tCons ta tr) (dCons f g) := by
  intro H0 M st σ F H rs st' Q S e q
  obtain ⟨p, e1, e⟩ := bs e
  obtain ⟨w, e2, e⟩ := bs e
  cases e
  refine a H0 M st σ F H p.1 p.2 _ S e1 fun v F1 H1 S1 E1 f1 r1 => ?_
  refine b H0 M p.2 σ F1 H1 w.1 w.2 _ S1 e2 fun vs F2 H2 G S2 E2 f2 r2 => ?_
  have r3 := r2.birth (Hc := H) E1.live
  have rw_ := r1.weak.ext S1 E2 f2
  obtain ⟨p1, p2⟩ := p
  cases p1 with
  | d x => exact q (v :: vs) F2 H2 G S2 (E1.trans E2) (f1.trans f2) (.d rw_ r3)
  | sl i => exact q (v :: vs) F2 H2 G S2 (E1.trans E2) (f1.trans f2) (.sl r3)
  | tmp xs =>
    obtain ⟨p, ws, e3, e4, e5, nf, no, nb⟩ := r1
    obtain ⟨p', ws', e3', e4', e5', no', nb'⟩ := rw_
    rw [e3] at e3'
    cases e3'
    subst e3
    refine q (.ref p :: vs) F2 H2 (p :: G) S2 (E1.trans E2) (f1.trans f2) (.tmp e4' e5' (fun h => ?_) no' nb' (fun h => ?_) r3)
    · rcases E2.new p h with h | h | h
      · exact nf h
      · rw [e4] at h
        cases h
      · exact no h
    · have := r2.born p h
      rw [e4] at this
      cases this
end
section
variable {K : PySem.W.Frag} {H0 : Hp} {M : Nat → Option Addr} {st st' st2 : DSt} {σ : L2.St} {F F' F2 : Addr → Prop} {H H' H2 Hb Hc : Hp} {v : V}
mutual
theorem Rp.tr : ∀ {v : V} {x : D}, Rp K F H v x → noList x = true → Tr K H v x []
  | _, _, .non, _ => .non
  | _, _, .bl b, _ => .bl b
  | _, _, .int i, _ => .int i
  | _, _, .str z, _ => .str z
  | _, _, .lst _ _, n => by cases n
  | _, _, .tup s r, n => by
    simp only [noList, Bool.and_eq_true, decide_eq_true_eq] at n
    exact .tup s n.1 (r.tr n.2)
  | _, _, .dic _, n => by cases n
theorem RpAll.tr : ∀ {vs : List V} {xs : List D}, RpAll K F H vs xs → noListAll xs = true → TrAll K H vs xs []
  | _, _, .nil, _ => .nil
  | _, _, .cons h t, n => by
    simp only [noListAll, Bool.and_eq_true] at n
    exact .cons (G := []) (h.tr n.1) (t.tr n.2) (by simp)
end
theorem endStr_no {o : Option D} (h : endStr o = false) : ∀ z, o ≠ some (.str z) := fun z e => by
  rw [e] at h
  cases h
theorem noList_atom {x : D} (h : atomD x = true) : noList x = true := by
  cases x <;> first | rfl | cases h
theorem RvD.tr {rs : List Rv} {vs : List V} {G : List Addr} (h : RvD K F H st σ Hb rs vs G) : ∀ {ds : List D}, toldOf rs = some ds → TrAll K H vs ds G := by
  induction h with
  | nil =>
    intro ds e
    cases e
    exact .nil
  | @d x v rs vs G a _ ih =>
    intro ds e
    have e : (if atomD x = true then (toldOf rs).bind fun ds => some (x :: ds) else none) = some ds := e
    by_cases c : atomD x = true
    · rw [if_pos c] at e
      obtain ⟨es, e1, e2⟩ := bs e
      cases e2
      exact .cons (G := []) (a.tr (noList_atom c)) (ih e1) (by simp)
    · rw [if_neg c] at e
      cases e
  | sl _ _ =>
    intro ds e
    cases e
  | @tmp xs p ws rs vs G a b nf no nb np t ih =>
    intro ds e
    have e : (if xs.length ≤ 1000 ∧ endStr xs.getLast? = false ∧ noListAll xs = true then (toldOf rs).bind fun ds => some (.list xs :: ds) else none) = some ds := e
    by_cases c : xs.length ≤ 1000 ∧ endStr xs.getLast? = false ∧ noListAll xs = true
    · rw [if_pos c] at e
      obtain ⟨es, e1, e2⟩ := bs e
      cases e2
      exact .cons (G := [p]) (.lst (G := []) a c.1 (by simp) (endStr_no c.2.1) (b.tr c.2.2)) (ih e1) fun q hq => by
        have : q = p := by simpa using hq
        rw [this]
        exact np
    · rw [if_neg c] at e
      cases e
theorem Sim.off {G : List Addr} (S : Sim K H0 M st σ F H) (k : ∀ b u, H b = some u → b ∉ G → H' b = some u) (gl : ∀ b ∈ G, ∃ xs, H b = some (.lst xs)) (gf : ∀ b ∈ G, ¬ F b) (go : ∀ b ∈ G, ¬ OwnAt st σ b) (g0 : ∀ b ∈ G, H0 b = none) :
    Sim K H0 M st σ F H' ∧ FExt K H0 F H F H' := by
  have kl : ∀ {a : Addr} {xs : List V}, FL K F H a xs → FL K F H' a xs := fun {a xs} h => by
    rcases h with ⟨f, h⟩ | ⟨o, h⟩ | h
    · exact .inl ⟨f, k _ _ h fun z => gf _ z f⟩
    · refine .inr (.inl ⟨o, k _ _ h fun z => ?_⟩)
      obtain ⟨ys, e⟩ := gl _ z
      rw [h] at e
      cases e
    · exact .inr (.inr h)
  have kt : ∀ {a : Addr} {o : Option (List V)}, STD K H a o → STD K H' a o := fun {a o} h => by
    cases o with
    | some xs => exact sqT_keep gl k h
    | none =>
      refine k _ _ h fun z => ?_
      obtain ⟨ys, e⟩ := gl _ z
      rw [show H a = some (.dK []) from h] at e
      cases e
  have mono : ∀ {v : V} {x : D}, Rp K F H v x → Rp K F H' v x := fun r => r.mono (fun _ _ h => kl h) fun _ _ h => kt h
  have monoA : ∀ {v : List V} {x : List D}, RpAll K F H v x → RpAll K F H' v x := fun r => r.mono (fun _ _ h => kl h) fun _ _ h => kt h
  refine ⟨⟨S.len, fun i x h => ?_, fun i xs h => ?_, fun i xs h => ?_, S.lentE, S.lent0, S.inj, fun a h => ?_, fun b u h n => ?_⟩, fun _ h => h, fun _ h => .inl h, fun _ _ h => kl h, fun _ _ h => kt h⟩
  · obtain ⟨v, e, r⟩ := S.dat i x h
    exact ⟨v, e, mono r⟩
  · obtain ⟨p, vs, e1, e2, r, n, z⟩ := S.own i xs h
    exact ⟨p, vs, e1, k _ _ e2 fun g => go _ g ⟨i, ⟨xs, .inl h⟩, e1⟩, monoA r, n, z⟩
  · obtain ⟨p, vs, m, e1, e2, r, n⟩ := S.lent i xs h
    exact ⟨p, vs, m, e1, k _ _ e2 fun g => go _ g ⟨i, ⟨xs, .inr h⟩, e1⟩, monoA r, n⟩
  · obtain ⟨xs, e⟩ := S.frz a h
    exact ⟨xs, k _ _ e fun g => gf _ g h⟩
  · refine k _ _ (S.base b u h n) fun g => ?_
    rw [g0 b g] at h
    cases h
theorem sim_slot {i : Nat} {w : V} (S : Sim K H0 M st σ F H) (nl : ∀ xs, st.getD i none ≠ some (.lent xs)) : Sim K H0 M (st.set i none) (σ.set i (some w)) F H := by
  have S1 := S.wipe (vs := [i]) fun j hj => by
    have : j = i := by simpa using hj
    rw [this]
    exact nl
  have e : wipe (σ.set i (some w)) [i] = wipe σ [i] := by
    show (σ.set i (some w)).set i none = σ.set i none
    simp
  rw [← e] at S1
  refine S1.unwipe fun j hj => ?_
  have : j = i := by simpa using hj
  rw [this]
  show (st.set i none).getD i none = none
  by_cases h : i < st.length
  · rw [getD_set h, if_pos rfl]
  · rw [List.getD_eq_getElem?_getD, List.getElem?_eq_none (by simpa using h)]
    rfl
end
section
variable {K : PySem.W.Frag} {H0 : Hp} {M : Nat → Option Addr} {st st' st2 : DSt} {σ : L2.St} {F F' F2 : Addr → Prop} {H H' H2 Hb Hc : Hp} {v : V}
theorem ownAt_slot {i : Nat} {w : V} {q : Addr} (h : OwnAt (st.set i none) (σ.set i (some w)) q) : OwnAt st σ q := by
  obtain ⟨j, ⟨xs, hj⟩, e⟩ := h
  by_cases ij : i = j
  · subst ij
    have : (st.set i none).getD i none = none := by
      by_cases h : i < st.length
      · rw [getD_set h, if_pos rfl]
      · rw [List.getD_eq_getElem?_getD, List.getElem?_eq_none (by simpa using h)]
        rfl
    rw [this] at hj
    rcases hj with hj | hj <;> cases hj
  · refine ⟨j, ⟨xs, ?_⟩, ?_⟩
    · have : (st.set i none).getD j none = st.getD j none := by
        rw [List.getD_eq_getElem?_getD, List.getD_eq_getElem?_getD, List.getElem?_set_ne ij]
      rw [this] at hj
      exact hj
    · rw [List.getElem?_set_ne ij] at e
      exact e
/-- behind x = [..]: what stands there, and how it may be looked at -/
theorem told_made {i n : Nat} {rs : List Rv} {vs : List V} {G : List Addr} {ds : List D} {s1 : DSt} {p : Addr} (S : Sim K H0 M st σ F H) (S1 : Sim K H0 M st2 σ F2 H2) (r : RvD K F2 H2 st2 σ H rs vs G) (e : toldOf rs = some ds)
    (c : ds.length ≤ 1000 ∧ endStr ds.getLast? = false ∧ PyData.depthAll ds + 1 < n) (es : setS st2 i (.d .none) = some s1) (hp : H2 p = none) :
    Sim K H0 M (st2.set i none) (σ.set i (some (.ref p))) F2 (upd H2 p (.lst vs)) ∧
    (∃ F3, Sim K (fun _ => none) (fun _ => none) ((freeze (st2.set i none)).set i (some (.d (.list ds)))) (σ.set i (some (.ref p))) F3 (upd H2 p (.lst vs))) ∧
    Tr K (upd H2 p (.lst vs)) (.ref p) (.list ds) (p :: G) ∧ (PyData.list ds).depth < n ∧ i < σ.length ∧
    (∀ b ∈ p :: G, ¬ F2 b ∧ ¬ OwnAt (st2.set i none) (σ.set i (some (.ref p))) b ∧ H0 b = none) := by
  obtain ⟨hi, nl, _⟩ := setS_ok es
  have sm := same_upd (o := .lst vs) hp
  have Sb := sim_slot (w := .ref p) (S1.grow sm) nl
  have tr := r.tr e
  have pG : p ∉ G := fun h => by
    obtain ⟨xs, e⟩ := tr.lists p h
    rw [hp] at e
    cases e
  have tr2 : TrAll K (upd H2 p (.lst vs)) vs ds G := tr.keep (B := []) (by simp) (fun b u e _ => sm b u e) (by simp)
  have t : Tr K (upd H2 p (.lst vs)) (.ref p) (.list ds) (p :: G) := .lst upd_same c.1 pG (endStr_no c.2.1) tr2
  have hσ : i < σ.length := by rw [S1.len]; exact hi
  have fr : ∀ b ∈ p :: G, ¬ F2 b ∧ ¬ OwnAt (st2.set i none) (σ.set i (some (.ref p))) b ∧ H0 b = none := fun b hb => by
    rcases List.mem_cons.mp hb with rfl | hb
    · refine ⟨fun h => ?_, fun h => ?_, S1.fresh0 hp⟩
      · obtain ⟨xs, e⟩ := S1.frz b h
        rw [hp] at e
        cases e
      · obtain ⟨⟨xs, e⟩, _⟩ := S1.atOwn (ownAt_slot h)
        rw [hp] at e
        cases e
    · obtain ⟨h1, h2⟩ := r.free b hb
      exact ⟨h1, fun h => h2 (ownAt_slot h), S.fresh0 (r.born b hb)⟩
  refine ⟨Sb, ?_, t, by simp only [PyData.depth]; omega, hσ, fr⟩
  have Sf := Sb.freeze
  have Sm := Sf.more (F' := fun a => (F2 a ∨ OwnAt (st2.set i none) (σ.set i (some (.ref p))) a) ∨ a ∈ p :: G) (fun a h => .inl h) (fun a h => by
    rcases h with h | h
    · exact Sf.frz a h
    · exact t.lists a h) (fun a _ ⟨j, o, _⟩ => freeze_own o)
  have := Sm.setD (i := i) (v := .ref p) (x := .list ds) (by unfold DL.freeze; simpa using hi) (fun xs h => by
    rw [freeze_getD] at h
    exact fz_lent h) (t.rp fun b hb => .inr hb)
  rw [List.set_set] at this
  exact ⟨_, this⟩
theorem frozen_own {i : Nat} {s : DSt} {x : D} {j : Nat} : ¬ IsOwn ((freeze s).set i (some (.d x))) j := by
  rintro ⟨xs, h⟩
  by_cases ij : i = j
  · subst ij
    by_cases hi : i < (freeze s).length
    · rw [getD_set hi, if_pos rfl] at h
      rcases h with h | h <;> cases h
    · rw [List.getD_eq_getElem?_getD, List.getElem?_eq_none (by simpa using hi)] at h
      rcases h with h | h <;> cases h
  · rw [List.getD_eq_getElem?_getD, List.getElem?_set_ne ij, ← List.getD_eq_getElem?_getD] at h
    exact freeze_own ⟨xs, h⟩
abbrev tToldS (K : PySem.W.Frag) (i n : Nat) (tr : TA) (tt : TT) (ts : TS) : TS := tSeq (tAsg (tLst tr) (L2.gName i)) (tSeq (tIfS (tOr (tNot tt) (tNot (tB (tCall (spT K n) [] E0 (tCons (tVar i) tNil))))) (tRet (tC (.bl false))) tNext) ts)
theorem snd_told {i n : Nat} {tr : TA} {tt : TT} {ts : TS} {fa : DA} {ft : DT} {fs : DS} (a : SndAd K tr fa) (b : SndT K tt ft) (c : SndS K ts fs) : SndS K (tToldS K i n tr tt ts) (dTold i n fa ft fs) := by
  intro H0 M st σ F H fl st' E S e q
  obtain ⟨p, e1, e⟩ := bs e
  obtain ⟨ds, e2, e⟩ := bs e
  by_cases cc : ds.length ≤ 1000 ∧ endStr ds.getLast? = false ∧ PyData.depthAll ds + 1 < n
  · rw [if_pos cc] at e
    obtain ⟨s1, e3, e⟩ := bs e
    obtain ⟨w, e4, e⟩ := bs e
    obtain ⟨w1, w2⟩ := w
    have e : (if w1 = true then fs (p.2.set i none) else none) = some (fl, st') := e
    by_cases cw : w1 = true
    · rw [if_pos cw] at e
      subst cw
      refine a H0 M st σ F H p.1 p.2 _ S e1 fun vs F1 H1 G S1 E1 f1 r1 => ?_
      have big : 1000 < sizeLine := by
        rw [sizeLine_eq]
        decide
      refine ⟨by rw [(r1.tr e2).length]; omega, fun p0 hp => ?_⟩
      obtain ⟨Sb, ⟨F3, Sf⟩, t, hd, hσ, fr⟩ := told_made S S1 r1 e2 cc e3 hp
      refine b _ _ _ _ F3 _ true w2 _ Sf e4 fun F' H3 S3 E3 f3 => ?_
      have sm : Same (upd H1 p0 (.lst vs)) H3 := fun b u h => E3.keep b u h fun ⟨j, o, _⟩ => frozen_own o
      refine ⟨.ref p0, by simp [hσ], .ref p0, .list ds, p0 :: G, rfl, t.grow sm, hd, fun H4 k4 => ⟨true, rfl, ?_⟩⟩
      have S4 := Sb.grow sm
      obtain ⟨S5, x5⟩ := S4.off k4 (t.grow sm).lists (fun b hb => (fr b hb).1) (fun b hb => (fr b hb).2.1) (fun b hb => (fr b hb).2.2)
      have x1 := E1.fext S S1
      have x2 : FExt K H0 F1 H1 F1 (upd H1 p0 (.lst vs)) := (Ext.grow (st := p.2) (σ := σ) (same_upd hp)).fext S1 (S1.grow (same_upd hp))
      have x3 : FExt K H0 F1 (upd H1 p0 (.lst vs)) F1 H3 := (Ext.grow (st := p.2.set i none) (σ := σ.set i (some (.ref p0))) sm).fext Sb S4
      exact c H0 M _ _ F1 H4 fl st' E S5 e (q.from (((x1.trans x2).trans x3).trans x5))
    · rw [if_neg cw] at e
      cases e
  · rw [if_neg cc] at e
    cases e
abbrev tToldRet (K : PySem.W.Frag) (i n : Nat) (tr : TA) (tt : TT) (te : TE) : TS := tSeq (tAsg (tLst tr) (L2.gName i)) (tSeq (tIfS tt (tRet (tC (.bl false))) tNext) (tRet (tAndV (tCall (spT K n) [] E0 (tCons (tVar i) tNil)) te)))
theorem snd_toldRet {i n : Nat} {tr : TA} {tt : TT} {te : TE} {fa : DA} {ft : DT} {fe : DE} (a : SndAd K tr fa) (b : SndT K tt ft) (c : SndS K (tRet te) (dRet fe)) : SndS K (tToldRet K i n tr tt te) (dToldRet i n fa ft fe) := by
  intro H0 M st σ F H fl st' E S e q
  obtain ⟨p, e1, e⟩ := bs e
  obtain ⟨ds, e2, e⟩ := bs e
  by_cases cc : ds.length ≤ 1000 ∧ endStr ds.getLast? = false ∧ PyData.depthAll ds + 1 < n
  · rw [if_pos cc] at e
    obtain ⟨s1, e3, e⟩ := bs e
    obtain ⟨w, e4, e⟩ := bs e
    obtain ⟨w1, w2⟩ := w
    have e : (if w1 = false then dRet fe (p.2.set i none) else none) = some (fl, st') := e
    by_cases cw : w1 = false
    · rw [if_pos cw] at e
      subst cw
      refine a H0 M st σ F H p.1 p.2 _ S e1 fun vs F1 H1 G S1 E1 f1 r1 => ?_
      have big : 1000 < sizeLine := by
        rw [sizeLine_eq]
        decide
      refine ⟨by rw [(r1.tr e2).length]; omega, fun p0 hp => ?_⟩
      obtain ⟨Sb, ⟨F3, Sf⟩, t, hd, hσ, fr⟩ := told_made S S1 r1 e2 cc e3 hp
      refine b _ _ _ _ F3 _ false w2 _ Sf e4 fun F' H3 S3 E3 f3 => ?_
      have sm : Same (upd H1 p0 (.lst vs)) H3 := fun b u h => E3.keep b u h fun ⟨j, o, _⟩ => frozen_own o
      refine ⟨.ref p0, by simp [hσ], .ref p0, .list ds, p0 :: G, rfl, t.grow sm, hd, fun H4 k4 => ⟨true, rfl, ?_⟩⟩
      have S4 := Sb.grow sm
      obtain ⟨S5, x5⟩ := S4.off k4 (t.grow sm).lists (fun b hb => (fr b hb).1) (fun b hb => (fr b hb).2.1) (fun b hb => (fr b hb).2.2)
      have x1 := E1.fext S S1
      have x2 : FExt K H0 F1 H1 F1 (upd H1 p0 (.lst vs)) := (Ext.grow (st := p.2) (σ := σ) (same_upd hp)).fext S1 (S1.grow (same_upd hp))
      have x3 : FExt K H0 F1 (upd H1 p0 (.lst vs)) F1 H3 := (Ext.grow (st := p.2.set i none) (σ := σ.set i (some (.ref p0))) sm).fext Sb S4
      rw [if_pos rfl]
      exact c H0 M _ _ F1 H4 fl st' E S5 e (q.from (((x1.trans x2).trans x3).trans x5))
    · rw [if_neg cw] at e
      cases e
  · rw [if_neg cc] at e
    cases e
end
structure SAd (K : PySem.W.Frag) (X : Cx) (es : List Expr) (t : TA) (f : DA) : Prop where
  pe : PA X es t
  sn : SndAd K t f
section
variable {X : Cx} {K : PySem.W.Frag} {e : Expr} {es : List Expr} {te ta : TE} {tr : TA} {f : DE} {fr : DA} {pos p : Pos} {x : Str}
theorem sad_nil : SAd K X [] tNil dNil := ⟨pa_nil, snd_nilD⟩
theorem sad_cons (he : SE K X e te f) (hr : SAd K X es tr fr) (hs : starEach (e :: es) X.env = (false, eval e X.env) :: starEach es X.env := by rfl) : SAd K X (e :: es) (tCons te tr) (dCons f fr) := ⟨(sa_cons (fr := fun _ => none) he ⟨hr.pe, fun _ _ _ _ _ _ _ _ _ _ e => by cases e⟩ hs).pe, snd_consD he.sn hr.sn⟩
theorem snd_no {t : TE} : SndE K t (fun _ => none) := fun _ _ _ _ _ _ _ _ _ _ e => by cases e
/-- spoilt(e): what it makes is told elsewhere -/
theorem se_callTr {lv n : Nat} {fa : Addr} {fd : FuncData} {ps : List Str} (F : FnG X.prog X.w X.K X.mg X.base CX0 lv fa fd ps (spT K n)) (hr : Room lv X.A) (gd : X.A.guards = some []) (hg : Gl X x) (hm : X.mg x = some (.ref fa)) (kp : PySem.W.keepIn X.K (.ref fa) = true) (hb : Binds X.K fd ps [])
    (ha : SA K X [e] tr fr) (h1 : (x == ("__debug__" : Str)) = false := by decide) (h2 : starEach [e] X.env = (false, eval e X.env) :: starEach [] X.env := by rfl) (h3 : (backTo pos (starEach [] X.env)).any (·.1) = false := by rfl) (hK : X.K = K := by rfl) :
    SE K X (.Call (.Name x p) [e] [] pos) (tCall (spT K n) [] E0 tr) (fun _ => none) := by
  subst hK
  exact ⟨pe_callG F hr gd hg hm kp hb .nil pass0 ha.pe h1 h2 h3, snd_no⟩
theorem sss_told (i n : Nat) {c call : Expr} {rest : List Stmt} {tt : TT} {ft gc : DT} {ts : TS} {fs : DS} {pos' p1 p2 p3 p4 p5 p6 p7 : Pos} {kk} (hN : X.N.Nodup) (hi : X.N[i]? = some x) (hx : Loc X.env.scope x) (ha : SAd K X es tr fr) (hst : ST K X c tt ft)
    (hcall : ST K X call (tB (tCall (spT K n) [] E0 (tCons (tVar i) tNil))) gc) (hrest : SSs K X rest ts fs) (hs : swapsWith (.List es p1) (some (.Name x pos')) pos.line X.env = pure false := by rfl) (hf : X.fn x = true ∨ X.env.scope.names.lookup x = some .local := by first | exact .inl rfl | exact .inr rfl | assumption) :
    SSs K X (.Assign [.Name x pos'] (.List es p1) pos :: .If (.BoolOp .Or [.UnaryOp .Not c p2, .UnaryOp .Not call p3] p4) [.Return (some (.Constant (.bool false) kk p5)) p6] [] p7 :: rest) (tToldS K i n tr tt ts) (dTold i n fr ft fs) :=
  ⟨pss_cons (ps_set hN hi hx (pe_lst ha.pe) hs hf) (pss_cons (ps_if (st_w (sw_or (st_not hst) (sw_or1 (st_not hcall)))).pe (pss_one (ps_ret pe_bl)) pss_nil) hrest.pe), snd_told ha.sn hst.sn hrest.sn⟩
theorem sss_toldRet (i n : Nat) {c call b : Expr} {r : List Expr} {tt : TT} {te : TE} {ft : DT} {gc : DE} {fe : DE} {pos' p1 p3 p4 p5 p6 p7 : Pos} {kk} (hN : X.N.Nodup) (hi : X.N[i]? = some x) (hx : Loc X.env.scope x) (ha : SAd K X es tr fr) (hst : ST K X c tt ft)
    (hcall : SE K X call (tCall (spT K n) [] E0 (tCons (tVar i) tNil)) gc) (hrest : SE K X (.BoolOp .And (b :: r) p3) te fe) (hs : swapsWith (.List es p1) (some (.Name x pos')) pos.line X.env = pure false := by rfl) (hf : X.fn x = true ∨ X.env.scope.names.lookup x = some .local := by first | exact .inl rfl | exact .inr rfl | assumption) :
    SSs K X (.Assign [.Name x pos'] (.List es p1) pos :: .If c [.Return (some (.Constant (.bool false) kk p5)) p6] [] p7 :: [.Return (some (.BoolOp .And (call :: b :: r) p3)) p4]) (tToldRet K i n tr tt te) (dToldRet i n fr ft fe) :=
  ⟨pss_cons (ps_set hN hi hx (pe_lst ha.pe) hs hf) (pss_cons (ps_if hst.pe (pss_one (ps_ret pe_bl)) pss_nil) (pss_one (ps_ret (pe_and hcall.pe hrest.pe)))), snd_toldRet ha.sn hst.sn (snd_ret hrest.sn)⟩
end
/-! ### the def itself -/
abbrev fIsTup : DT := dTest (dOp1 (bIsi "tuple") (dVar 0))
abbrev fNoLst : DT := dNot (dTest (dOp1 (bIsi "list") (dVar 0)))
abbrev fEnd (z : Str) : DT := dAnd (dTest (dOp2 opNe (dVar 0) (dList dNil))) (dAnd (dTest (dOp1 (bIsi "str") (dOp2 opIx (dVar 0) (dOp1 opNeg (dC (.int 1)))))) (dTest (dOp2 opEq (dOp2 opIx (dVar 0) (dOp1 opNeg (dC (.int 1)))) (dC (.str z)))))
theorem fIsTup_at (x : D) : fIsTup (st0 x) = some (isTy x "tuple", st0 x) := rfl
theorem fNoLst_at (x : D) : fNoLst (st0 x) = some (!isTy x "list", st0 x) := rfl
def TreeBody (X : Cx) (K : PySem.W.Frag) (body : List Stmt) (n : Nat) : Prop := ∃ (c1 c2 c3 : TT) (z z' : Str), PSs X body (tSpoil K n c1 c2 c3 z) ∧ SndT K c1 fIsTup ∧ SndT K c2 fNoLst ∧ SndT K c3 (fEnd z')
section
variable {X : Cx} {K : PySem.W.Frag}
theorem tree_pe {n : Nat} {a1 a2 a3 : Expr} {s1 s2 s3 rest : List Stmt} {p1 p2 p3 : Pos} {tc1 tc2 tc3 : TT} {g1 g2 g3 g4 : DS} {z z' : Str} (c1 : ST K X a1 tc1 fIsTup) (b1 : SSs K X s1 (tRet (tCB (rAll K) (tCons (tParts K n) tNil))) g1)
    (c2 : ST K X a2 tc2 fNoLst) (b2 : SSs K X s2 (tRet (tC (.bl true))) g2) (c3 : ST K X a3 tc3 (fEnd z')) (b3 : SSs K X s3 (tRet (tC (.bl false))) g3)
    (r : SSs K X rest (tSeq (tAsg (tParts K n) (L2.gName 1)) (tSeq (tDrop (tBM K "list" rAppend (tVar 0) (tCons (tC (.str z)) tNil))) (tRet (tCB (rAll K) (tCons (tVar 1) tNil))))) g4) :
    TreeBody X K (.If a1 s1 [] p1 :: .If a2 s2 [] p2 :: .If a3 s3 [] p3 :: rest) n :=
  ⟨tc1, tc2, tc3, z, z', pss_cons (ps_if c1.pe b1.pe pss_nil) (pss_cons (ps_if c2.pe b2.pe pss_nil) (pss_cons (ps_if c3.pe b3.pe pss_nil) r.pe)), c1.sn, c2.sn, c3.sn⟩
theorem fEnd_at (z : Str) (ds : List D) (f : flat (.list ds) = true) (l : ds.length ≤ 1000) (o : ∀ z, ds.getLast? ≠ some (.str z)) : fEnd z (st0 (.list ds)) = some (false, st0 (.list ds)) := by
  have ne : opNe (.list ds) (.list []) = some (.d (.bool (!ds.isEmpty))) := by
    have f0 : flat (.list []) = true := rfl
    unfold opNe
    rw [if_pos ⟨f, f0⟩]
    cases ds <;> rfl
  have t1 : (dTest (dOp2 opNe (dVar 0) (dList dNil))) (st0 (.list ds)) = some (!ds.isEmpty, st0 (.list ds)) := by
    show ((opNe (.list ds) (.list [])).bind fun z => some (z, st0 (.list ds))).bind _ = _
    rw [ne]
    rfl
  unfold fEnd dAnd
  rw [t1]
  cases ds with
  | nil => rfl
  | cons a r =>
    obtain ⟨y, hy⟩ : ∃ y, (a :: r).getLast? = some y := ⟨(a :: r).getLast (by simp), List.getLast?_eq_some_getLast (by simp)⟩
    have ix : ixAt (a :: r) (-1) = some r.length := by
      unfold ixAt
      rw [if_neg (by decide), if_pos (by simp; omega)]
      congr 1
      simp
      omega
    have at_ : (a :: r)[r.length]? = some y := by
      rw [← hy, List.getLast?_eq_getElem?]
      simp
    have op : opIx (.list (a :: r)) (.int (-1)) = some (.d y) := by
      show (ixAt (a :: r) (-1)).bind _ = _
      rw [ix]
      show ((a :: r)[r.length]?).bind _ = _
      rw [at_]
      rfl
    have t2 : (dTest (dOp1 (bIsi "str") (dOp2 opIx (dVar 0) (dOp1 opNeg (dC (.int 1)))))) (st0 (.list (a :: r))) = some (isTy y "str", st0 (.list (a :: r))) := by
      have : (dOp2 opIx (dVar 0) (dOp1 opNeg (dC (.int 1)))) (st0 (.list (a :: r))) = some (.d y, st0 (.list (a :: r))) := by
        show (opIx (.list (a :: r)) (.int (-1))).bind _ = _
        rw [op]
        rfl
      show (((dOp2 opIx (dVar 0) (dOp1 opNeg (dC (.int 1)))) (st0 (.list (a :: r)))).bind _).bind _ = _
      rw [this]
      rfl
    have : isTy y "str" = false := by
      cases y <;> first | rfl | exact absurd hy (o _)
    rw [this] at t2
    show ((dTest (dOp1 (bIsi "str") (dOp2 opIx (dVar 0) (dOp1 opNeg (dC (.int 1))))) (st0 (.list (a :: r)))).bind fun p => _) = _
    rw [t2]
    rfl
end
section
variable {P : Program} {w : World} {K : PySem.W.Frag} {mg : Str → Option Value} {base : Heap}
/-- THE RULE of such a def -/
theorem tree_ok {x qual : Str} {st : Stmt} {f : Addr} {fd : FuncData} {N ps : List Str} {k n : Nat} (F : Fun K x qual st f fd) (S : FnScope N ps (defScope st)) (hp : ps.length = 1) (hN : N.length = 3) (hn : n ≤ 60)
    (hbody : ∀ (cdv : Value) (A : Around) (outer : List Env) (s : Shared) (H : Hp) (E : XK), Room k (A.deeper (envOfC qual (defScope st) s.heap.objs.size f cdv)) → (A.deeper (envOfC qual (defScope st) s.heap.objs.size f cdv)).guards = some [] →
      TreeBody (cxOf CX0 P w K mg base N qual (defScope st) f cdv A outer s H E).nox K (defBody st) n) : FnG P w K mg base CX0 (k + 1) f fd ps (spT K (n + 1)) := by
  obtain ⟨oc, od, kV, doc, pm, an, cdv, ct, osl, rfl, lk, isc⟩ := F.ex
  refine fnG_of lk isc S (fun vs H Q E ⟨v, x, G, e, _⟩ => by rw [e, hp]; rfl) fun A outer s H vs Q E hr gd h => ?_
  obtain ⟨c1, c2, c3, z, z', h1, h2, h3, h4⟩ := hbody cdv A outer s H E hr gd
  exact ⟨_, h1.nox, tree_body hN h2 h3 h4 fIsTup_at fNoLst_at (fun ds f l o => fEnd_at z' ds f l o) hn h⟩
theorem fnT_none {lv : Nat} {f : Addr} {fd : FuncData} {ps : List Str} (h : ps.length = 1) : FnG P w K mg base CX0 lv f fd ps (spT K 0) :=
  ⟨fun vs H Q E ⟨_, _, _, e, _⟩ => by rw [e, h]; rfl, fun A out s H args us vs Q E _ _ _ _ _ ⟨_, _, _, _, _, z, _⟩ => by omega⟩
end
section
variable {K : PySem.W.Frag}
theorem snd_asgO3 {i j k : Nat} (hij : i ≠ j) (hik : i ≠ k) (hjk : j ≠ k) {ta tb tc : TE} {f g h : DE} (a : SndE K ta f) (b : SndE K tb g) (c : SndE K tc h) :
    SndS K (tAsg (tTup (tCons ta (tCons tb (tCons tc tNil)))) (L2.gTup K 3 (L2.gCons (L2.gName i) (L2.gCons (L2.gName j) (L2.gCons (L2.gName k) L2.gNil))))) (dAsgO3 i j k f g h) := by
  intro H0 M st σ F H fl st' E S e q
  obtain ⟨p, e1, e⟩ := bs e
  obtain ⟨w, e2, e⟩ := bs e
  obtain ⟨z, e3, e⟩ := bs e
  refine a H0 M st σ F H p.1 p.2 _ S e1 fun v1 F1 H1 S1 E1 f1 r1 => ?_
  refine b H0 M p.2 σ F1 H1 w.1 w.2 _ S1 e2 fun v2 F2 H2 S2 E2 f2 r2 => ?_
  refine c H0 M w.2 σ F2 H2 z.1 z.2 _ S2 e3 fun v3 F3 H3 S3 E3 f3 r3 => ?_
  refine ⟨by rw [sizeLine_eq]; simp, fun T hT => ⟨T, [v1, v2, v3], rfl, SqT.of upd_same, rfl, v1, [v2, v3], rfl, v2, [v3], rfl, v3, [], rfl, ?_⟩⟩
  have same := same_upd (o := HO.tup [v1, v2, v3]) hT
  rcases p with ⟨p1, ps⟩
  rcases w with ⟨w1, ws⟩
  rcases z with ⟨z1, zs⟩
  match p1, w1, z1, e, r1, r2, r3 with
  | .d x, .d y, .tmp ys, e, r1, r2, r3 =>
    have e : ((setS zs k (.own ys)).bind fun s => (setS s j (.d y)).bind fun s2 => (setS s2 i (.d x)).bind fun s3 => some (Fl.nx, s3)) = some (fl, st') := e
    obtain ⟨s, e4, e⟩ := bs e
    obtain ⟨s2, e5, e⟩ := bs e
    obtain ⟨s3, e6, e⟩ := bs e
    cases e
    obtain ⟨hk, nl, rfl⟩ := setS_ok e4
    obtain ⟨hj, nl2, rfl⟩ := setS_ok e5
    obtain ⟨hi, nl3, rfl⟩ := setS_ok e6
    obtain ⟨pa, vs, rfl, hb, hc, nf, no, h0⟩ := r3
    have S4 := S3.grow same
    have S5 := S4.setOwn hk nl (same _ _ hb) (hc.grow same) nf no (S2.fresh0 h0)
    have rp1 : Rp K F3 H3 v1 x := E3.rp S2 (E2.rp S1 r1)
    have rp2 : Rp K F3 H3 v2 y := E3.rp S2 r2
    have S6 := S5.setD hj nl2 (rp2.grow same)
    have S7 := S6.setD hi nl3 (rp1.grow same)
    have E4 : Ext st σ F H zs F3 _ := ((E1.trans E2).trans E3).trans (.grow same)
    have := q _ F3 _ S7 (E4.fext S S4)
    rw [List.set_comm _ _ (Ne.symm hjk), List.set_comm _ _ (Ne.symm hik), List.set_comm _ _ (Ne.symm hij)] at this
    exact ⟨rfl, this⟩
  | .tmp _, _, _, e, _, _, _ => cases e
  | .sl _, _, _, e, _, _, _ => cases e
  | .d _, .tmp _, _, e, _, _, _ => cases e
  | .d _, .sl _, _, e, _, _, _ => cases e
  | .d _, .d _, .d _, e, _, _, _ => cases e
  | .d _, .d _, .sl _, e, _, _, _ => cases e
theorem ss_asgO3 {X : Cx} {i j k k2 : Nat} {tg a b c : Expr} {ta tb tc : TE} {f g h : DE} {pos pt2 : Pos} {dv : DE} {is : List Nat} {dg : DG} (hij : i ≠ j) (hik : i ≠ k) (hjk : j ≠ k) (ha : SE K X a ta f) (hb : SE K X b tb g) (hc : SE K X c tc h) (he : SE K X (.Tuple [a, b, c] k2 pt2) (tTup (tCons ta (tCons tb (tCons tc tNil)))) dv) (hg : SG K X tg is (L2.gTup K 3 (L2.gCons (L2.gName i) (L2.gCons (L2.gName j) (L2.gCons (L2.gName k) L2.gNil)))) dg)
    (hs : swapsWithSole [tg] (.Tuple [a, b, c] k2 pt2) pos.line X.env = pure false := by rfl) (hw : swappedStores [tg] (.Tuple [a, b, c] k2 pt2) X.env = pure none := by rfl) (h1 : (assignEach [tg] X.env).map (·.2) = [assign tg X.env] := by rfl) :
    SS K X (.Assign [tg] (.Tuple [a, b, c] k2 pt2) pos) (tAsg (tTup (tCons ta (tCons tb (tCons tc tNil)))) (L2.gTup K 3 (L2.gCons (L2.gName i) (L2.gCons (L2.gName j) (L2.gCons (L2.gName k) L2.gNil))))) (dAsgO3 i j k f g h) := ⟨ps_asg he.pe hg.pe hs hw h1, snd_asgO3 hij hik hjk ha.sn hb.sn hc.sn⟩
end
end DL
end

section
set_option Elab.async false
set_option linter.all false
set_option maxRecDepth 100000
set_option maxHeartbeats 1000000
/-! DLtxt: texts: order, within, startswith, endswith, join, slices, signs; len(dict(..)). -/
namespace DL
open PySem PySem.Spec PyProof.Rows L2
section
variable {X : Cx} {K : PySem.W.Frag}
/-! ### order -/
def rCmpS (p : List Nat → List Nat → Bool) : R2 := fun x y H Q => ∃ i j, x = .str i ∧ y = .str j ∧ Q (.bl (p i.cps.toList j.cps.toList)) H
theorem op_ltS : OpR X (compareOp .Lt) (rCmpS fun a b => decide (a < b)) := op_lt_str
theorem op_leS : OpR X (compareOp .LtE) (rCmpS fun a b => !decide (b < a)) := op_le_str
theorem op_gtS : OpR X (compareOp .Gt) (rCmpS fun a b => decide (b < a)) := op_gt_str
theorem op_geS : OpR X (compareOp .GtE) (rCmpS fun a b => !decide (a < b)) := op_ge_str
theorem prim_cmpS {p : List Nat → List Nat → Bool} : Prim2 K (rCmpS p) (opCmpS p) := by
  intro F H v w x y z Q a b e q
  cases x <;> cases y <;> try (cases e; done)
  cases e
  exact ⟨_, _, a.str, b.str, q _ H Same.rfl' (.bl _)⟩
def rInS (neg : Bool) : R2 := fun x y H Q => ∃ i j, x = .str i ∧ y = .str j ∧ Q (.bl (if neg then !inStr i j else inStr i j)) H
theorem op_inS : OpR X (compareOp .In) (rInS false) := op_in_str
theorem op_notInS : OpR X (compareOp .NotIn) (rInS true) := op_notin_str
theorem prim_inS : Prim2 K (rInS false) opInS := by
  intro F H v w x y z Q a b e q
  cases x <;> cases y <;> try (cases e; done)
  cases e
  exact ⟨_, _, a.str, b.str, q _ H Same.rfl' (.bl _)⟩
theorem prim_notInS : Prim2 K (rInS true) opNotInS := by
  intro F H v w x y z Q a b e q
  cases x <;> cases y <;> try (cases e; done)
  cases e
  exact ⟨_, _, a.str, b.str, q _ H Same.rfl' (.bl _)⟩
/-! ### methods -/
def PrimM (K : PySem.W.Frag) (r : V → List V → Hp → VK → Prop) (op : Str → D → Option Rv) : Prop := ∀ (F : Addr → Prop) (H : Hp) (a : Str) (w : V) (y : D) (z : Rv) (Q : VK), Pk K F H w y → op a y = some z →
  (∀ v' H', Same H H' → NewOk K F H H' v' z → Q v' H') → r (.str a) [w] H Q
theorem snd_m1 {r : V → List V → Hp → VK → Prop} {op : Str → D → Option Rv} {ta tb : TE} {f g : DE} (h : PrimM K r op) (a : SndE K ta f) (b : SndE K tb g) : SndE K (tM1 r ta tb) (dM1 op f g) := by
  intro H0 M st σ F H z st' Q S e q
  obtain ⟨p, e1, e⟩ := bs e
  refine a H0 M st σ F H p.1 p.2 _ S e1 fun v F1 H1 S1 E1 f1 r1 => ?_
  obtain ⟨p1, p2⟩ := p
  match p1, e, r1 with
  | .d (.str x), e, r1 =>
    obtain ⟨w, e2, e⟩ := bs e
    obtain ⟨y, e4, e⟩ := bs e
    obtain ⟨u, e5, e⟩ := bs e
    cases e
    have hv : v = .str x := (look_ok S1 r1.weak (show look p2 (.d (.str x)) = some (.str x) from rfl)).str
    subst hv
    refine ⟨⟨x, rfl⟩, ?_⟩
    refine b H0 M p2 σ F1 H1 w.1 w.2 _ S1 e2 fun v2 F2 H2 S2 E2 f2 r2 => ?_
    refine h F2 H2 x v2 y z Q (look_ok S2 r2.weak e4) e5 fun v' H' s n => ?_
    obtain ⟨S3, E3, r3⟩ := fin_new S2 (E1.trans E2) s n
    exact q v' F2 H' S3 E3 (f1.trans f2) r3
def rStarts : V → List V → Hp → VK → Prop := fun x xs H Q => ∃ a b, x = .str a ∧ xs = [.str b] ∧ Q (.bl (Txt.startswith a b)) H
def rEnds : V → List V → Hp → VK → Prop := fun x xs H Q => ∃ a b, x = .str a ∧ xs = [.str b] ∧ Q (.bl (Txt.endswith a b)) H
def rJoin (K : PySem.W.Frag) : V → List V → Hp → VK → Prop := fun x xs H Q => ∃ a p, ∃ ys : List Str, x = .str a ∧ xs = [.ref p] ∧ (SqL K H p (ys.map V.str) ∨ SqT K H p (ys.map V.str)) ∧
    (ys.map (·.length)).sum + ys.length * a.length ≤ 16777216 ∧ Q (.str (Txt.join a ys)) H
theorem prim_starts : PrimM K rStarts opStarts := by
  intro F H a w y z Q b e q
  cases y <;> try (cases e; done)
  cases e
  have := b.str
  subst this
  exact ⟨_, _, rfl, rfl, q _ H Same.rfl' (.bl _)⟩
theorem prim_ends : PrimM K rEnds opEnds := by
  intro F H a w y z Q b e q
  cases y <;> try (cases e; done)
  cases e
  have := b.str
  subst this
  exact ⟨_, _, rfl, rfl, q _ H Same.rfl' (.bl _)⟩
theorem strs_ok {F : Addr → Prop} {H : Hp} : ∀ {vs : List V} {xs : List D} {zs : List Str}, RpAll K F H vs xs → strsOf xs = some zs → vs = zs.map V.str
  | _, [], zs, r, e => by
    cases e
    cases r
    rfl
  | _, x :: xs, zs, r, e => by
    cases x <;> try (cases e; done)
    obtain ⟨ws, e1, e2⟩ := bs e
    cases e2
    cases r with
    | cons h t =>
      cases h
      rw [strs_ok t e1]
      rfl
theorem prim_join : PrimM K (rJoin K) opJoin := by
  intro F H a w y z Q b e q
  cases y <;> try (cases e; done)
  obtain ⟨ys, e1, e⟩ := bs e
  obtain ⟨p, vs, rfl, h1, r1⟩ := b.list
  have := strs_ok r1 e1
  subst this
  by_cases c : (ys.map (·.length)).sum + ys.length * a.length ≤ 16777216
  · rw [if_pos c] at e
    cases e
    exact ⟨a, p, ys, rfl, rfl, .inl h1, c, q _ H Same.rfl' (.str _)⟩
  · rw [if_neg c] at e
    cases e
/-! ### slices -/
theorem cutStr_eq (z : Str) (lo hi : Option Int) : cutStr z lo hi = cutS z lo hi := by
  unfold cutStr cutS cutD
  rw [Array.length_toList]
  rfl
theorem prim_sliceS : PrimS K rSlS opSliceS := by
  intro F H v x lo hi z Q a e q
  cases x <;> try (cases e; done)
  rename_i ys
  have e : (if ys.length ≤ sizeLine then some (Rv.d (.str (cutStr ys lo hi))) else none) = some z := e
  by_cases c : ys.length ≤ sizeLine
  · rw [if_pos c] at e
    cases e
    refine ⟨ys, a.str, c, ?_⟩
    rw [← cutStr_eq]
    exact q _ H Same.rfl' (.str _)
  · rw [if_neg c] at e
    cases e
/-! ### signs of a text -/
theorem wd_str {z : Str} {F1 : Addr → Prop} {H1 : Hp} : WalkD K (Its z) (z.cps.toList.map fun c => PyData.str ⟨#[c]⟩) F1 H1 where
  goes := fun i H hi g => by
    rw [List.length_map, Array.length_toList] at hi
    exact hi
  stops := fun H g => by
    rw [List.length_map, Array.length_toList]
    exact Nat.le_refl _
  yields := fun i H x H' F hi g mono y => by
    obtain ⟨e, c, y1, y2⟩ := y
    subst e
    subst y2
    exact ⟨fun _ _ z => z, _, by rw [List.getElem?_map, Array.getElem?_toList, y1]; rfl, .str _⟩
theorem snd_istr {t : TE} {f : DE} (a : SndE K t f) : SndI K (L2.iStr t) (dIter DL.iStr f) := by
  intro H0 M st σ F H ds st' R S e q
  obtain ⟨p, e1, e⟩ := bs e
  obtain ⟨⟨y, s2⟩, e2, e⟩ := bs e
  obtain ⟨zs, e3, e⟩ := bs e
  cases e
  refine a H0 M st σ F H p.1 p.2 _ S e1 fun v F1 H1 S1 E1 f1 r1 => ?_
  obtain ⟨F2, S2, E2, r2, _⟩ := toD_ok S1 E1 r1.weak e2
  cases y <;> try (cases e3; done)
  cases e3
  cases r2
  exact ⟨_, rfl, q _ F2 H1 S2 E2 wd_str⟩
/-! ### len(dict(pairs)) -/
def rDictP (K : PySem.W.Frag) : List V → Hp → VK → Prop := fun xs H Q => ∃ (a : Addr) (ps : List Addr) (kvs : List (Key × V)), xs = [.ref a] ∧ SqL K H a (ps.map V.ref) ∧ Paired (fun p kv => SqT K H p [kV kv.1, kv.2]) ps kvs ∧
    ∀ p, H p = none → Q (.ref p) (upd H p (.dK (mergeK [] kvs)))
def rLenDk : List V → Hp → VK → Prop := fun xs H Q => ∃ a kvs, xs = [V.ref a] ∧ H a = some (.dK kvs) ∧ Q (.int kvs.length) H
theorem pairs_ok {F : Addr → Prop} {H : Hp} : ∀ {vs : List V} {xs : List D} {zs : List Key}, RpAll K F H vs xs → keysOf xs = some zs → ∃ (ps : List Addr) (kvs : List (Key × V)), vs = ps.map V.ref ∧ Paired (fun p kv => SqT K H p [kV kv.1, kv.2]) ps kvs ∧ kvs.map (·.1) = zs
  | _, [], zs, r, e => by
    cases e
    cases r
    exact ⟨[], [], rfl, .nil, rfl⟩
  | _, x :: xs, zs, r, e => by
    match x, e with
    | .tuple [.str z, y], e =>
      obtain ⟨ws, e1, e2⟩ := bs e
      cases e2
      cases r with
      | cons h t =>
        obtain ⟨ps, kvs, a1, a2, a3⟩ := pairs_ok t e1
        cases h with
        | tup h hs =>
          cases hs with
          | cons h1 t1 =>
            cases h1
            cases t1 with
            | cons h2 t2 =>
              cases t2
              exact ⟨_ :: ps, (.inr z, _) :: kvs, by rw [a1]; rfl, .cons h a2, by rw [List.map_cons, a3]⟩
    | .tuple [.int z, y], e =>
      obtain ⟨ws, e1, e2⟩ := bs e
      cases e2
      cases r with
      | cons h t =>
        obtain ⟨ps, kvs, a1, a2, a3⟩ := pairs_ok t e1
        cases h with
        | tup h hs =>
          cases hs with
          | cons h1 t1 =>
            cases h1
            cases t1 with
            | cons h2 t2 =>
              cases t2
              exact ⟨_ :: ps, (.inl z, _) :: kvs, by rw [a1]; rfl, .cons h a2, by rw [List.map_cons, a3]⟩
theorem putK_in {kvs : List (Key × V)} {k : Key} (v : V) (c : k ∈ kvs.map (·.1)) : (putK kvs k v).map (·.1) = kvs.map (·.1) := by
  unfold putK
  have c2 : (kvs.any fun kv => decide (kv.1 = k)) = true := by
    obtain ⟨kv, h1, h2⟩ := List.mem_map.mp c
    exact List.any_eq_true.mpr ⟨kv, h1, by simpa using h2⟩
  rw [if_pos c2, List.map_map]
  apply List.map_congr_left
  intro kv _
  show (if kv.1 = k then (kv.1, v) else kv).1 = kv.1
  split <;> rfl
theorem putK_new {kvs : List (Key × V)} {k : Key} (v : V) (c : ¬ k ∈ kvs.map (·.1)) : (putK kvs k v).map (·.1) = kvs.map (·.1) ++ [k] := by
  unfold putK
  have c2 : ¬ (kvs.any fun kv => decide (kv.1 = k)) = true := by
    intro h
    obtain ⟨kv, h1, h2⟩ := List.any_eq_true.mp h
    exact c (List.mem_map.mpr ⟨kv, h1, by simpa using h2⟩)
  rw [if_neg c2, List.map_append]
  rfl
theorem mergeK_keys : ∀ (kvs : List (Key × V)) (acc : List (Key × V)) (zs za : List Key), acc.map (·.1) = za → kvs.map (·.1) = zs → (mergeK acc kvs).map (·.1) = distinctF za zs
  | [], acc, zs, za, h1, h2 => by
    cases zs with
    | nil => exact h1
    | cons z r => cases h2
  | kv :: kvs, acc, zs, za, h1, h2 => by
    cases zs with
    | nil => cases h2
    | cons z r =>
      rw [List.map_cons] at h2
      obtain ⟨h3, h4⟩ := List.cons.inj h2
      show (mergeK (putK acc kv.1 kv.2) kvs).map (·.1) = _
      unfold distinctF
      rw [List.foldl_cons]
      refine mergeK_keys kvs _ r _ ?_ h4
      by_cases c : z ∈ za
      · rw [if_pos c, putK_in _ (by rw [h1, h3]; exact c), h1]
      · rw [if_neg c, putK_new _ (by rw [h1, h3]; exact c), h1, h3]
theorem snd_lenDict {ta : TE} {f : DE} (a : SndE K ta f) : SndE K (tCB rLenDk (tCons (tCB (rDictP K) (tCons ta tNil)) tNil)) (dOp1 bLenDict f) := by
  intro H0 M st σ F H z st' Q S e q
  obtain ⟨p, e1, e⟩ := bs e
  obtain ⟨x, e3, e⟩ := bs e
  obtain ⟨u, e5, e⟩ := bs e
  cases e
  refine a H0 M st σ F H p.1 p.2 _ S e1 fun v F1 H1 S1 E1 f1 r1 => ?_
  cases x <;> try (cases e5; done)
  obtain ⟨zs, e6, e5⟩ := bs e5
  cases e5
  obtain ⟨b, vs, rfl, h1, r2⟩ := (look_ok S1 r1.weak e3).list
  obtain ⟨ps, kvs, rfl, c2, c3⟩ := pairs_ok r2 e6
  refine ⟨b, ps, kvs, rfl, h1, c2, fun p2 hp2 => ?_⟩
  refine ⟨p2, mergeK [] kvs, rfl, upd_same, ?_⟩
  have el : (mergeK [] kvs).length = (distinct zs).length := by
    have := congrArg List.length (mergeK_keys kvs [] zs [] rfl c3)
    rw [List.length_map] at this
    exact this
  rw [el]
  obtain ⟨S3, E3, r3⟩ := fin_new (z := .d (.int ((distinct zs).length : Nat))) S1 E1 (same_upd (o := .dK (mergeK [] kvs)) hp2) (.int _)
  exact q _ F1 _ S3 E3 f1 r3
end
section
variable {X : Cx} {K : PySem.W.Frag} {a : Expr} {ta : TE} {f : DE} {p1 p2 pos pos2 : Pos}
/-- len(dict(e)) -/
theorem se_lenDict (hcalm : X.calm = true) (hg : Gl X "len") (hm : X.mg "len" = none) (hv : bootBuiltins "len" = some (.builtin "len")) (hg2 : Gl X "dict") (hm2 : X.mg "dict" = none) (hv2 : bootBuiltins "dict" = some (.type "dict")) (ha : SE K X a ta f) (hK : X.K = K := by rfl)
    (he : starEach [a] X.env = (false, eval a X.env) :: starEach [] X.env := by rfl) (hpl : (backTo pos2 (starEach [] X.env)).any (·.1) = false := by rfl)
    (he2 : starEach [.Call (.Name "dict" p2) [a] [] pos2] X.env = (false, eval (.Call (.Name "dict" p2) [a] [] pos2) X.env) :: starEach [] X.env := by rfl) (hpl2 : (backTo pos (starEach [] X.env)).any (·.1) = false := by rfl) :
    SE K X (.Call (.Name "len" p1) [.Call (.Name "dict" p2) [a] [] pos2] [] pos) (tCB rLenDk (tCons (tCB (rDictP K) (tCons ta tNil)) tNil)) (dOp1 bLenDict f) := by
  subst hK
  exact ⟨pe_callB call_lenD hg hm hv (pa_cons (pe_callTy (call_dictP hcalm) hg2 hm2 hv2 (pa_cons ha.pe pa_nil he) (by decide) (by decide) he hpl) pa_nil he2) (by decide) (by decide) he2 hpl2, snd_lenDict ha.sn⟩
end
end DL
end

section
set_option Elab.async false
set_option linter.all false
set_option maxRecDepth 100000
set_option maxHeartbeats 1000000
/-! DLend: what a walk printed by dl_gen wants besides: bindings, defs without a turn left, the law. -/
namespace DL
open PySem PySem.Spec PyProof.Rows L2
theorem dl_both {K : PySem.W.Frag} {X : Cx} {st : List Stmt} {t : TS} {f : DS} (h : SSs K X st t f) : PSs X st t ∧ SndS K t f := ⟨h.pe, h.sn⟩
section
variable {P : Program} {w : World} {K : PySem.W.Frag} {mg : Str → Option Value} {base : Heap} {x ql : Str} {st : Stmt} {f : Addr} {fd : FuncData} {ps ks : List Str} {n : Nat} {perm : List Nat}
theorem fnG_none {lv : Nat} (h : ps.length = n) : FnG P w K mg base CX0 lv f fd ps (spD K n fun _ => none) :=
  ⟨fun vs H Q E ⟨_, _, _, _, hl, _⟩ => hl.trans h.symm, fun A out s H args us vs Q E _ _ _ _ _ ⟨_, _, _, _, _, _, _, _, z, _⟩ => by cases z⟩
theorem fun_b (F : Fun K x ql st f fd) (h : ∀ (kV doc pm : Value) (an : Option Addr) (cdv ct : Value) (us : List Value), us.length = ps.length → bindArgs (PySem.W.fnOf x ql (defArgs st) (defBody st) (defScope st) .none kV doc pm an cdv ct) ⟨us, []⟩ = pure (ps.zip us)) : Binds K fd ps [] := L2.Fun.binds F h
theorem fun_kb (F : Fun K x ql st f fd) (h : ∀ (kV doc pm : Value) (an : Option Addr) (cdv ct : Value) (us ws : List Value), us.length = n → ws.length = ks.length → bindArgs (PySem.W.fnOf x ql (defArgs st) (defBody st) (defScope st) .none kV doc pm an cdv ct) ⟨us, ks.zip ws⟩ = pure (ps.zip (permute perm (us ++ ws ++ [])))) : KB K fd ps ks n perm [] := by
  obtain ⟨oc, od, kV, doc, pm, an, cdv, ct, osl, rfl, _, _⟩ := F.ex
  exact fun s us ws _ h1 h2 => .of_eq (h kV doc pm an cdv ct us ws h1 h2)
theorem funD_mk {dvs : List V} {oc : Value} {od an : Option Addr} {osl : Array (Option Value)} {kV doc pm cdv ct : Value} {T : Addr} {cT : Value} {dT : Option Addr} {its : List Value} {nT : Nat} {sT : Array (Option Value)}
    (l : K.lookup f = some ⟨oc, od, .func (PySem.W.fnOf x ql (defArgs st) (defBody st) (defScope st) (.ref T) kV doc pm an cdv ct), osl⟩) (c : PySem.W.codeIn K cdv ql = true) (k : PySem.W.keepIn K (.ref f) = true) (t : K.lookup T = some ⟨cT, dT, .seq its.toArray nT, sT⟩) (ne : dvs ≠ []) (v : Vals dvs its) :
    FunD K x ql (defArgs st) (defBody st) (defScope st) dvs [] f (PySem.W.fnOf x ql (defArgs st) (defBody st) (defScope st) (.ref T) kV doc pm an cdv ct) :=
  ⟨⟨oc, od, .ref T, kV, doc, pm, an, cdv, ct, osl, rfl, l, c, .inr ⟨ne, T, _, its, nT, rfl, t, rfl, v⟩, .inl rfl⟩, k⟩
theorem funD_b {T : Addr} {its ds : List Value} {cT : Value} {dT : Option Addr} {nT : Nat} {sT : Array (Option Value)} {fd : FuncData} (t : K.lookup T = some ⟨cT, dT, .seq its.toArray nT, sT⟩) (n : Nat) (hn : n + ds.length = ps.length) (hd : fd.defaults = .ref T)
    (h : ∀ us : List Value, us.length = n → ∃ k, bindArgs fd ⟨us, []⟩ = seqItems? fd.defaults >>= k ∧ k (some its.toArray) = pure (ps.zip (us ++ ds))) : Binds K fd ps ds := fun s us inK hl => by
  obtain ⟨k, h1, h2⟩ := h us (by rw [List.length_append] at hl; omega)
  exact PySem.W.binds_K inK hd t rfl h1 h2
theorem funD_kb {T : Addr} {its : List Value} {cT : Value} {dT : Option Addr} {nT : Nat} {sT : Array (Option Value)} {fd : FuncData} (t : K.lookup T = some ⟨cT, dT, .seq its.toArray nT, sT⟩) (hd : fd.defaults = .ref T)
    (h : ∀ us ws : List Value, us.length = n → ws.length = ks.length → ∃ k, bindArgs fd ⟨us, ks.zip ws⟩ = seqItems? fd.defaults >>= k ∧ k (some its.toArray) = pure (ps.zip (permute perm (us ++ ws ++ [])))) : KB K fd ps ks n perm [] := fun s us ws inK l1 l2 => by
  obtain ⟨k, h1, h2⟩ := h us ws l1 l2
  exact PySem.W.binds_K inK hd t rfl h1 h2
end
/-- the law's promise from its plain function -/
theorem law_want {K : PySem.W.Frag} {H : Hp} {a : Addr} {ns : List Int} {g : Fn} {n : Nat} {E : XK} (only : Only H) (sq : SqL K H a (ns.map V.int)) (short : ns.length ≤ n) (tr : ∀ ns : List Int, ns.length ≤ n → g [.d (.list (ns.map .int))] = some (.d (.bool true), [])) :
    spD K 1 g [.ref a] H (fun v _ => v = .bl true) E := by
  have fl : FL K (fun _ => False) H a (ns.map V.int) := by
    rcases sq with (z | ⟨o, z⟩) | z
    · rcases only a with c | ⟨o, xs, c⟩
      · rw [c] at z; cases z
      · rw [c] at z; cases z
    · exact .inr (.inl ⟨o, z⟩)
    · exact .inr (.inr (.inr z))
  have all : ∀ ns : List Int, RpAll K (fun _ => False) H (ns.map V.int) (ns.map PyData.int) := by
    intro ns
    induction ns with
    | nil => exact .nil
    | cons i r ih => exact .cons (.int i) ih
  refine ⟨fun _ => False, [.d (.list (ns.map .int))], .d (.bool true), [], rfl, .cons (.lst fl (all ns)) .nil, fun a h => h.elim, fun i j p h _ => ?_, tr ns short, fun v F' H' _ _ _ _ _ _ _ _ rt => ?_⟩
  · exact absurd h (by rw [show ([Ar.d (.list (ns.map .int))] : List Ar) = [PyData.list (ns.map .int)].map Ar.d from rfl, lentP_d]; exact fun z => by cases z)
  · have rt : Rp K F' H' v (.bool true) := rt
    cases rt
    rfl
end DL
end

section
set_option linter.all false
/-! DLsim: evaluation of the plain combinators by simp, from the head on: what comes after stands behind a name; loops. -/
namespace DL
open PySem
/-! ### what comes after -/
def kRet {α β : Type} (s : β) (z : α) : Option (α × β) := some (z, s)
def kPush {α β : Type} (x : α) (p : List α × β) : Option (List α × β) := some (x :: p.1, p.2)
def kOne {α : Type} (x : α) (xs : List α) : Option (List α) := some (x :: xs)
def kVar (o : Option SV) (i : Nat) (st : DSt) : Option (Rv × DSt) := match o with
  | some (.d x) => some (.d x, st)
  | some (.own _) => some (.sl i, st)
  | some (.lent _) => some (.sl i, st)
  | none => none
def kGive (o : Option SV) (i : Nat) (st : DSt) : Option (D × DSt) := match o with
  | some (.d x) => some (x, st)
  | some (.own xs) => some (.list xs, st.set i (some (.d (.list xs))))
  | _ => none
def kLooks (st : DSt) (rs : List Rv) (x : D) : Option (List D) := (looks st rs).bind (kOne x)
def kToDs (rs : List Rv) (p : D × DSt) : Option (List D × DSt) := (toDs p.2 rs).bind (kPush p.1)
def kCons (g : DA) (p : Rv × DSt) : Option (List Rv × DSt) := (g p.2).bind (kPush p.1)
def kOp2d (op : D → D → Option Rv) (x : D) (s : DSt) (y : D) : Option (Rv × DSt) := (op x y).bind (kRet s)
def kOp2c (op : D → D → Option Rv) (o : Option D) (s : DSt) (x : D) : Option (Rv × DSt) := o.bind (kOp2d op x s)
def kOp2b (op : D → D → Option Rv) (r : Rv) (q : Rv × DSt) : Option (Rv × DSt) := (look q.2 r).bind (kOp2c op (look q.2 q.1) q.2)
def kOp2 (op : D → D → Option Rv) (g : DE) (p : Rv × DSt) : Option (Rv × DSt) := (g p.2).bind (kOp2b op p.1)
def kOp1b (op : D → Option Rv) (s : DSt) (x : D) : Option (Rv × DSt) := (op x).bind (kRet s)
def kOp1 (op : D → Option Rv) (p : Rv × DSt) : Option (Rv × DSt) := (look p.2 p.1).bind (kOp1b op p.2)
def kCallBb (op : List D → Option Rv) (s : DSt) (xs : List D) : Option (Rv × DSt) := (op xs).bind (kRet s)
def kCallB (op : List D → Option Rv) (p : List Rv × DSt) : Option (Rv × DSt) := (looks p.2 p.1).bind (kCallBb op p.2)
def kSld (op : D → Option Int → Option Int → Option Rv) (l h : Option Int) (s : DSt) (x : D) : Option (Rv × DSt) := (op x l h).bind (kRet s)
def kSlc (op : D → Option Int → Option Int → Option Rv) (r : Rv) (l : Option Int) (h : Option Int × DSt) : Option (Rv × DSt) := (look h.2 r).bind (kSld op l h.1 h.2)
def kSlb (op : D → Option Int → Option Int → Option Rv) (r : Rv) (hi : DO) (l : Option Int × DSt) : Option (Rv × DSt) := (hi l.2).bind (kSlc op r l.1)
def kSl (op : D → Option Int → Option Int → Option Rv) (lo hi : DO) (p : Rv × DSt) : Option (Rv × DSt) := (lo p.2).bind (kSlb op p.1 hi)
def kPartb (o : Option D) (s : DSt) : Option (Option Int × DSt) := match o with
  | some (.int i) => some (some i, s)
  | _ => none
def kPart (p : Rv × DSt) : Option (Option Int × DSt) := kPartb (look p.2 p.1) p.2
def kListb (q : List D × DSt) : Option (Rv × DSt) := if q.1.length ≤ sizeLine then some (.tmp q.1, q.2) else none
def kList (p : List Rv × DSt) : Option (Rv × DSt) := (toDs p.2 p.1).bind kListb
def kTupb (q : List D × DSt) : Option (Rv × DSt) := if q.1.length ≤ sizeLine then some (.d (.tuple q.1), q.2) else none
def kTup (p : List Rv × DSt) : Option (Rv × DSt) := (toDs p.2 p.1).bind kTupb
def kTestb (o : Option D) (s : DSt) : Option (Bool × DSt) := match o with
  | some (.bool b) => some (b, s)
  | _ => none
def kTest (p : Rv × DSt) : Option (Bool × DSt) := kTestb (look p.2 p.1) p.2
def kNot (p : Bool × DSt) : Option (Bool × DSt) := some (!p.1, p.2)
def kAnd (g : DT) (p : Bool × DSt) : Option (Bool × DSt) := if p.1 = true then g p.2 else some (false, p.2)
def kOr (g : DT) (p : Bool × DSt) : Option (Bool × DSt) := if p.1 = true then some (true, p.2) else g p.2
def kAndVb (g : DE) (o : Option D) (s : DSt) : Option (Rv × DSt) := match o with
  | some (.bool b) => if b = true then g s else some (.d (.bool false), s)
  | _ => none
def kAndV (g : DE) (p : Rv × DSt) : Option (Rv × DSt) := kAndVb g (look p.2 p.1) p.2
def kOrVb (g : DE) (o : Option D) (s : DSt) : Option (Rv × DSt) := match o with
  | some (.bool b) => if b = true then some (.d (.bool true), s) else g s
  | _ => none
def kOrV (g : DE) (p : Rv × DSt) : Option (Rv × DSt) := kOrVb g (look p.2 p.1) p.2
def kNotVb (o : Option D) (s : DSt) : Option (Rv × DSt) := match o with
  | some (.bool b) => some (.d (.bool (!b)), s)
  | _ => none
def kNotV (p : Rv × DSt) : Option (Rv × DSt) := kNotVb (look p.2 p.1) p.2
def kIf {α : Type} (f g : DSt → Option α) (p : Bool × DSt) : Option α := if p.1 = true then f p.2 else g p.2
def kM (rs : List (Rv × Bool)) (p : D × DSt) : Option (List (Sum D Nat) × DSt) := (marsh p.2 rs).bind (kPush (.inl p.1))
def kLentAt (o : Option SV) : Option Ar := match o with
  | some (.own xs) => some (.m xs)
  | some (.lent xs) => some (.m xs)
  | _ => none
def kLents (st : DSt) (r : List (Sum D Nat)) (x : Ar) : Option (List Ar) := (lents st r).bind (kOne x)
def kPutBack (o : Option SV) (st : DSt) (i : Nat) (is : List Nat) (xs : List D) (r : List (List D)) : Option DSt := match o with
  | some (.own _) => putBack (st.set i (some (.own xs))) is r
  | some (.lent _) => putBack (st.set i (some (.lent xs))) is r
  | _ => none
def kCalld (r : Rt) (st : DSt) : Option (Rv × DSt) := some (rvOf r, st)
def kCallc (st : DSt) (is : List Nat) (r : Rt × List (List D)) : Option (Rv × DSt) := (putBack st is r.2).bind (kCalld r.1)
def kCallb (g : Fn) (more : List Ar) (st : DSt) (is : List Nat) (as : List Ar) : Option (Rv × DSt) := (g (as ++ more)).bind (kCallc st is)
def kCalla (g : Fn) (more : List Ar) (n k : Nat) (q : List (Sum D Nat) × DSt) : Option (Rv × DSt) := if (lentIx q.1).length ≤ 1 ∧ n = k then (lents q.2 q.1).bind (kCallb g more q.2 (lentIx q.1)) else none
def kCall (g : Fn) (modes : List Bool) (more : List D) (p : List Rv × DSt) : Option (Rv × DSt) := (marsh p.2 (p.1.zip modes)).bind (kCalla g (more.map Ar.d) p.1.length modes.length)
def kCallKd (s : DSt) (r : Rt × List (List D)) : Option (Rv × DSt) := some (rvOf r.1, s)
def kCallKc (g : Fn) (perm : List Nat) (more : List D) (c : Prop) [Decidable c] (q : List D × DSt) : Option (Rv × DSt) := if c then (g ((permute perm (q.1 ++ more)).map Ar.d)).bind (kCallKd q.2) else none
def kCallKb (g : Fn) (n m : Nat) (perm : List Nat) (more : List D) (rs : List Rv) (p2 : List Rv × DSt) : Option (Rv × DSt) := (toDs p2.2 (rs ++ p2.1)).bind (kCallKc g perm more (rs.length = n ∧ p2.1.length = m))
def kCallK (g : Fn) (n m : Nat) (perm : List Nat) (more : List D) (f2 : DA) (p : List Rv × DSt) : Option (Rv × DSt) := (f2 p.2).bind (kCallKb g n m perm more p.1)
def kIterb (op : D → Option (List D)) (q : D × DSt) : Option (List D × DSt) := (op q.1).bind (kRet q.2)
def kIter (op : D → Option (List D)) (p : Rv × DSt) : Option (List D × DSt) := (toD p.2 p.1).bind (kIterb op)
def kIterAb (op : List D → Option (List D)) (q : List D × DSt) : Option (List D × DSt) := (op q.1).bind (kRet q.2)
def kIterA (op : List D → Option (List D)) (p : List Rv × DSt) : Option (List D × DSt) := (toDs p.2 p.1).bind (kIterAb op)
def kSetS (o : Option SV) (st : DSt) (i : Nat) (v : SV) : Option DSt := match o with
  | some (.lent _) => none
  | _ => if i < st.length then some (st.set i (some v)) else none
def kFree (o : Option SV) : Bool := match o with | none => true | some (.d _) => true | _ => false
def kLcEnd (s0 : DSt) (vs : List Nat) (q : List D × DSt) : Option (Rv × DSt) := some (.tmp q.1, refill s0 q.2 vs)
def kLc (g : DG) (t : DT) (e : DE) (vs : List Nat) (p : List D × DSt) : Option (Rv × DSt) :=
  if p.1.length ≤ sizeLine ∧ vs.all (fun i => kFree (p.2.getD i none)) = true then (lcGo g t e vs p.1 (wipeD p.2 vs)).bind (kLcEnd p.2 vs) else none
def kLcTurnE (g : DG) (t : DT) (e : DE) (vs : List Nat) (xs : List D) (r : D × DSt) : Option (List D × DSt) := (lcGo g t e vs xs (wipeD r.2 vs)).bind (kPush r.1)
def kLcTurnD (g : DG) (t : DT) (e : DE) (vs : List Nat) (xs : List D) (q : Rv × DSt) : Option (List D × DSt) := (toD q.2 q.1).bind (kLcTurnE g t e vs xs)
def kLcTurnT (g : DG) (t : DT) (e : DE) (vs : List Nat) (xs : List D) (p : Bool × DSt) : Option (List D × DSt) :=
  if p.1 = true then (e p.2).bind (kLcTurnD g t e vs xs) else lcGo g t e vs xs (wipeD p.2 vs)
def kLcTurn (g : DG) (t : DT) (e : DE) (vs : List Nat) (xs : List D) (s1 : DSt) : Option (List D × DSt) := (t s1).bind (kLcTurnT g t e vs xs)
def kSeq (g : DS) (p : Fl × DSt) : Option (Fl × DSt) := match p.1 with
  | .nx => g p.2
  | _ => some p
def kNx (s : DSt) : Option (Fl × DSt) := some (.nx, s)
def kSetD (i : Nat) (q : D × DSt) : Option (Fl × DSt) := (setS q.2 i (.d q.1)).bind kNx
def kSet (i : Nat) (p : Rv × DSt) : Option (Fl × DSt) := match p.1 with
  | .tmp xs => (setS p.2 i (.own xs)).bind kNx
  | r => (toD p.2 r).bind (kSetD i)
def kAsgb (g : DG) (q : D × DSt) : Option (Fl × DSt) := (g q.1 q.2).bind kNx
def kAsg (g : DG) (p : Rv × DSt) : Option (Fl × DSt) := (toD p.2 p.1).bind (kAsgb g)
def kParb (is : List Nat) (q : List D × DSt) : Option (Fl × DSt) := (dPar.parGo is q.1 q.2).bind kNx
def kPar (is : List Nat) (p : List Rv × DSt) : Option (Fl × DSt) := (toDs p.2 p.1).bind (kParb is)
def kParGo (is : List Nat) (xs : List D) (s : DSt) : Option DSt := dPar.parGo is xs s
def kAugOut (o : Option Rv) (s : DSt) (i : Nat) : Option (Fl × DSt) := match o with
  | some (.d z) => (setS s i (.d z)).bind kNx
  | _ => none
def kAugc (op : D → D → Option Rv) (i : Nat) (x : D) (s : DSt) (y : D) : Option (Fl × DSt) := kAugOut (op x y) s i
def kAugb (op : D → D → Option Rv) (i : Nat) (v : Rv) (p : Rv × DSt) : Option (Fl × DSt) := match v with
  | .d x => (look p.2 p.1).bind (kAugc op i x p.2)
  | _ => none
def kAug (op : D → D → Option Rv) (i : Nat) (f : DE) (v : Rv × DSt) : Option (Fl × DSt) := (f v.2).bind (kAugb op i v.1)
def kPutL (o : Option SV) (st : DSt) (i : Nat) (xs : List D) : Option DSt := match o with
  | some (.own _) => some (st.set i (some (.own xs)))
  | some (.lent _) => some (st.set i (some (.lent xs)))
  | _ => none
def kGetL (o : Option SV) : Option (List D) := match o with
  | some (.own xs) => some xs
  | some (.lent xs) => some xs
  | _ => none
def kAppc (i : Nat) (x : D) (s : DSt) (xs : List D) : Option (Fl × DSt) := if xs.length < sizeLine then (putL s i (xs ++ [x])).bind kNx else none
def kAppb (i : Nat) (q : D × DSt) : Option (Fl × DSt) := (getL q.2 i).bind (kAppc i q.1 q.2)
def kAppa (i : Nat) (p : Rv × DSt) : Option (Fl × DSt) := (toD p.2 p.1).bind (kAppb i)
def kApp (i : Nat) (f : DE) (st : DSt) (_ : List D) : Option (Fl × DSt) := (f st).bind (kAppa i)
def kSxe (i : Nat) (x : D) (s : DSt) (xs : List D) (n : Nat) : Option (Fl × DSt) := (putL s i (xs.set n x)).bind kNx
def kSxd (i : Nat) (x : D) (s : DSt) (j : Int) (xs : List D) : Option (Fl × DSt) := (ixAt xs j).bind (kSxe i x s xs)
def kSxc (i : Nat) (x : D) (o : Option D) (s : DSt) : Option (Fl × DSt) := match o with
  | some (.int j) => (getL s i).bind (kSxd i x s j)
  | _ => none
def kSxb (i : Nat) (x : D) (r : Rv × DSt) : Option (Fl × DSt) := kSxc i x (look r.2 r.1) r.2
def kSxa2 (i : Nat) (k : DE) (q : D × DSt) (_ : List D) : Option (Fl × DSt) := (k q.2).bind (kSxb i q.1)
def kSxa (i : Nat) (k : DE) (q : D × DSt) : Option (Fl × DSt) := (getL q.2 i).bind (kSxa2 i k q)
def kSx (i : Nat) (k : DE) (p : Rv × DSt) : Option (Fl × DSt) := (toD p.2 p.1).bind (kSxa i k)
def kAxi (i : Nat) (z : D) (s : DSt) (ys : List D) (n : Nat) : Option (Fl × DSt) := (putL s i (ys.set n z)).bind kNx
def kAxh (i : Nat) (z : D) (s : DSt) (j : Int) (ys : List D) : Option (Fl × DSt) := (ixAt ys j).bind (kAxi i z s ys)
def kAxg (o : Option Rv) (i : Nat) (s : DSt) (j : Int) : Option (Fl × DSt) := match o with
  | some (.d z) => (getL s i).bind (kAxh i z s j)
  | _ => none
def kAxf (op : D → D → Option Rv) (i : Nat) (j : Int) (x : D) (s : DSt) (y : D) : Option (Fl × DSt) := kAxg (op x y) i s j
def kAxe (op : D → D → Option Rv) (i : Nat) (j : Int) (x : D) (p : Rv × DSt) : Option (Fl × DSt) := (look p.2 p.1).bind (kAxf op i j x p.2)
def kAxd (op : D → D → Option Rv) (i : Nat) (f : DE) (j : Int) (s : DSt) (x : D) : Option (Fl × DSt) := (f s).bind (kAxe op i j x)
def kAxc (op : D → D → Option Rv) (i : Nat) (f : DE) (j : Int) (s : DSt) (xs : List D) (n : Nat) : Option (Fl × DSt) := (xs[n]?).bind (kAxd op i f j s)
def kAxb (op : D → D → Option Rv) (i : Nat) (f : DE) (j : Int) (s : DSt) (xs : List D) : Option (Fl × DSt) := (ixAt xs j).bind (kAxc op i f j s xs)
def kAxa (op : D → D → Option Rv) (i : Nat) (f : DE) (o : Option D) (s : DSt) : Option (Fl × DSt) := match o with
  | some (.int j) => (getL s i).bind (kAxb op i f j s)
  | _ => none
def kAx2 (op : D → D → Option Rv) (i : Nat) (f : DE) (r : Rv × DSt) : Option (Fl × DSt) := kAxa op i f (look r.2 r.1) r.2
def kAx (op : D → D → Option Rv) (i : Nat) (k f : DE) (st : DSt) (_ : List D) : Option (Fl × DSt) := (k st).bind (kAx2 op i f)
def kDrop (p : Rv × DSt) : Option (Fl × DSt) := some (.nx, p.2)
def kRetSl (o : Option SV) (s : DSt) (i : Nat) : Option (Fl × DSt) := match o with
  | some (.d x) => some (.rt (.d x), s)
  | some (.own xs) => some (.rt (.own xs), s.set i none)
  | _ => none
def kRetv (p : Rv × DSt) : Option (Fl × DSt) := match p.1 with
  | .d x => some (.rt (.d x), p.2)
  | .tmp xs => some (.rt (.own xs), p.2)
  | .sl i => kRetSl (p.2.getD i none) p.2 i
def kForb (g : DG) (b : DS) (xs : List D) (p : Fl × DSt) : Option (Fl × DSt) := match p.1 with
  | .nx => forGo g b xs p.2
  | .ct => forGo g b xs p.2
  | .bk => some (.nx, p.2)
  | .rt r => some (.rt r, p.2)
def kFora (g : DG) (b : DS) (xs : List D) (s : DSt) : Option (Fl × DSt) := (b s).bind (kForb g b xs)
def kFor (g : DG) (b : DS) (p : List D × DSt) : Option (Fl × DSt) := forGo g b p.1 p.2
def kOuts (xs : List D) (o : List (List D)) : Option (List (List D)) := some (xs :: o)
def kOutsM (o : Option SV) (st : DSt) (r : List Ar) (i : Nat) : Option (List (List D)) := match o with
  | some (.lent xs) => (outsGo st r (i + 1)).bind (kOuts xs)
  | _ => none
def kRunb (f : Fl) (o : List (List D)) : Option (Rt × List (List D)) := match f with
  | .nx => some (.d .none, o)
  | .rt r => some (r, o)
  | _ => none
def kRun (as : List Ar) (p : Fl × DSt) : Option (Rt × List (List D)) := (outsGo p.2 as 0).bind (kRunb p.1)
def kGs (h : DGs) (r : List D) (s : DSt) : Option DSt := h r s
/-- one after the other; simp never looks ahead -/
def obind {α β : Type} (x : Option α) (f : α → Option β) : Option β := x.bind f
@[simp] theorem obind_some {α β : Type} (a : α) (f : α → Option β) : obind (some a) f = f a := (rfl)
@[simp] theorem obind_none {α β : Type} (f : α → Option β) : obind none f = none := (rfl)
section
variable (st s : DSt)
@[simp] theorem kRet_ap {α β : Type} (s : β) (z : α) : kRet s z = some (z, s) := (rfl)
@[simp] theorem kPush_ap {α β : Type} (x : α) (xs : List α) (s : β) : kPush x (xs, s) = some (x :: xs, s) := (rfl)
@[simp] theorem kOne_ap {α : Type} (x : α) (xs : List α) : kOne x xs = some (x :: xs) := (rfl)
@[simp] theorem lookS_d (x) : lookS (some (.d x)) = some x := (rfl)
@[simp] theorem lookS_own (x) : lookS (some (.own x)) = some (.list x) := (rfl)
@[simp] theorem lookS_lent (x) : lookS (some (.lent x)) = some (.list x) := (rfl)
@[simp] theorem look_d (x) : look st (.d x) = some x := (rfl)
@[simp] theorem look_tmp (x) : look st (.tmp x) = some (.list x) := (rfl)
@[simp] theorem look_sl (i) : look st (.sl i) = lookS (st.getD i none) := (rfl)
@[simp] theorem looks_nil : looks st [] = some [] := (rfl)
@[simp] theorem looks_cons (r rs) : looks st (r :: rs) = obind (look st r) (kLooks st rs) := (rfl)
@[simp] theorem kLooks_ap (rs x) : kLooks st rs x = obind (looks st rs) (kOne x) := (rfl)
@[simp] theorem kGive_d (x i) : kGive (some (.d x)) i st = some (x, st) := (rfl)
@[simp] theorem kGive_own (xs i) : kGive (some (.own xs)) i st = some (.list xs, st.set i (some (.d (.list xs)))) := (rfl)
@[simp] theorem toD_d (x) : toD st (.d x) = some (x, st) := (rfl)
@[simp] theorem toD_tmp (x) : toD st (.tmp x) = some (.list x, st) := (rfl)
@[simp] theorem toD_sl (i) : toD st (.sl i) = kGive (st.getD i none) i st := (rfl)
@[simp] theorem toDs_nil : toDs st [] = some ([], st) := (rfl)
@[simp] theorem toDs_cons (r rs) : toDs st (r :: rs) = obind (toD st r) (kToDs rs) := (rfl)
@[simp] theorem kToDs_ap (rs x) : kToDs rs (x, s) = obind (toDs s rs) (kPush x) := (rfl)
@[simp] theorem dVar_ap (i) : dVar i st = kVar (st.getD i none) i st := (rfl)
@[simp] theorem kVar_d (x i) : kVar (some (.d x)) i st = some (.d x, st) := (rfl)
@[simp] theorem kVar_own (x i) : kVar (some (.own x)) i st = some (.sl i, st) := (rfl)
@[simp] theorem kVar_lent (x i) : kVar (some (.lent x)) i st = some (.sl i, st) := (rfl)
@[simp] theorem dC_ap (x) : dC x st = some (.d x, st) := (rfl)
@[simp] theorem dNil_ap : dNil st = some ([], st) := (rfl)
@[simp] theorem dCons_ap (f g) : dCons f g st = obind (f st) (kCons g) := (rfl)
@[simp] theorem kCons_ap (g r) : kCons g (r, s) = obind (g s) (kPush r) := (rfl)
@[simp] theorem dOp2_ap (op f g) : dOp2 op f g st = obind (f st) (kOp2 op g) := (rfl)
@[simp] theorem kOp2_ap (op g r) : kOp2 op g (r, s) = obind (g s) (kOp2b op r) := (rfl)
@[simp] theorem kOp2b_ap (op r r2) : kOp2b op r (r2, s) = obind (look s r) (kOp2c op (look s r2) s) := (rfl)
@[simp] theorem kOp2c_ap (op o x) : kOp2c op o s x = obind o (kOp2d op x s) := (rfl)
@[simp] theorem kOp2d_ap (op x y) : kOp2d op x s y = obind (op x y) (kRet s) := (rfl)
@[simp] theorem dOp1_ap (op f) : dOp1 op f st = obind (f st) (kOp1 op) := (rfl)
@[simp] theorem kOp1_ap (op r) : kOp1 op (r, s) = obind (look s r) (kOp1b op s) := (rfl)
@[simp] theorem kOp1b_ap (op x) : kOp1b op s x = obind (op x) (kRet s) := (rfl)
@[simp] theorem dCallB_ap (op f) : dCallB op f st = obind (f st) (kCallB op) := (rfl)
@[simp] theorem kCallB_ap (op rs) : kCallB op (rs, s) = obind (looks s rs) (kCallBb op s) := (rfl)
@[simp] theorem kCallBb_ap (op xs) : kCallBb op s xs = obind (op xs) (kRet s) := (rfl)
@[simp] theorem dSlice_ap (op f lo hi) : dSlice op f lo hi st = obind (f st) (kSl op lo hi) := (rfl)
@[simp] theorem kSl_ap (op lo hi r) : kSl op lo hi (r, s) = obind (lo s) (kSlb op r hi) := (rfl)
@[simp] theorem kSlb_ap (op r hi l) : kSlb op r hi (l, s) = obind (hi s) (kSlc op r l) := (rfl)
@[simp] theorem kSlc_ap (op r l h) : kSlc op r l (h, s) = obind (look s r) (kSld op l h s) := (rfl)
@[simp] theorem kSld_ap (op l h x) : kSld op l h s x = obind (op x l h) (kRet s) := (rfl)
@[simp] theorem dNoPart_ap : dNoPart st = some (none, st) := (rfl)
@[simp] theorem dPart_ap (f) : dPart f st = obind (f st) kPart := (rfl)
@[simp] theorem kPart_ap (r) : kPart (r, s) = kPartb (look s r) s := (rfl)
@[simp] theorem kPartb_i (i) : kPartb (some (.int i)) s = some (some i, s) := (rfl)
@[simp] theorem dList_ap (f) : dList f st = obind (f st) kList := (rfl)
@[simp] theorem kList_ap (rs) : kList (rs, s) = obind (toDs s rs) kListb := (rfl)
@[simp] theorem kListb_ap (xs) : kListb (xs, s) = if xs.length ≤ sizeLine then some (.tmp xs, s) else none := (rfl)
@[simp] theorem dTup_ap (f) : dTup f st = obind (f st) kTup := (rfl)
@[simp] theorem kTup_ap (rs) : kTup (rs, s) = obind (toDs s rs) kTupb := (rfl)
@[simp] theorem kTupb_ap (xs) : kTupb (xs, s) = if xs.length ≤ sizeLine then some (.d (.tuple xs), s) else none := (rfl)
@[simp] theorem dTest_ap (f) : dTest f st = obind (f st) kTest := (rfl)
@[simp] theorem kTest_ap (r) : kTest (r, s) = kTestb (look s r) s := (rfl)
@[simp] theorem kTestb_b (b) : kTestb (some (.bool b)) s = some (b, s) := (rfl)
@[simp] theorem dNot_ap (f) : dNot f st = obind (f st) kNot := (rfl)
@[simp] theorem kNot_ap (b) : kNot (b, s) = some (!b, s) := (rfl)
@[simp] theorem dAnd_ap (f g) : dAnd f g st = obind (f st) (kAnd g) := (rfl)
@[simp] theorem kAnd_ap (g b) : kAnd g (b, s) = if b = true then g s else some (false, s) := (rfl)
@[simp] theorem dOr_ap (f g) : dOr f g st = obind (f st) (kOr g) := (rfl)
@[simp] theorem kOr_ap (g b) : kOr g (b, s) = if b = true then some (true, s) else g s := (rfl)
@[simp] theorem dAndV_ap (f g) : dAndV f g st = obind (f st) (kAndV g) := (rfl)
@[simp] theorem kAndV_ap (g r) : kAndV g (r, s) = kAndVb g (look s r) s := (rfl)
@[simp] theorem kAndVb_b (g b) : kAndVb g (some (.bool b)) s = if b = true then g s else some (.d (.bool false), s) := (rfl)
@[simp] theorem dOrV_ap (f g) : dOrV f g st = obind (f st) (kOrV g) := (rfl)
@[simp] theorem kOrV_ap (g r) : kOrV g (r, s) = kOrVb g (look s r) s := (rfl)
@[simp] theorem kOrVb_b (g b) : kOrVb g (some (.bool b)) s = if b = true then some (.d (.bool true), s) else g s := (rfl)
@[simp] theorem dNotV_ap (f) : dNotV f st = obind (f st) kNotV := (rfl)
@[simp] theorem kNotV_ap (r) : kNotV (r, s) = kNotVb (look s r) s := (rfl)
@[simp] theorem kNotVb_b (b) : kNotVb (some (.bool b)) s = some (.d (.bool (!b)), s) := (rfl)
@[simp] theorem dIf_ap (t f g) : dIf t f g st = obind (t st) (kIf f g) := (rfl)
@[simp] theorem kIf_ap {α : Type} (f g : DSt → Option α) (b) : kIf f g (b, s) = if b = true then f s else g s := (rfl)
@[simp] theorem marsh_nil : marsh st [] = some ([], st) := (rfl)
@[simp] theorem marsh_false (r rs) : marsh st ((r, false) :: rs) = obind (toD st r) (kM rs) := by
  rw [marsh]
  rfl
@[simp] theorem kM_ap (rs x) : kM rs (x, s) = obind (marsh s rs) (kPush (.inl x)) := (rfl)
@[simp] theorem marsh_true (i rs) : marsh st ((.sl i, true) :: rs) = obind (marsh st rs) (kPush (.inr i)) := by
  rw [marsh]
  rfl
@[simp] theorem lentAt_l (x) : lentAt st (.inl x) = some (.d x) := (rfl)
@[simp] theorem lentAt_r (i) : lentAt st (.inr i) = kLentAt (st.getD i none) := (rfl)
@[simp] theorem kLentAt_own (xs) : kLentAt (some (.own xs)) = some (.m xs) := (rfl)
@[simp] theorem kLentAt_lent (xs) : kLentAt (some (.lent xs)) = some (.m xs) := (rfl)
@[simp] theorem lents_nil : lents st [] = some [] := (rfl)
@[simp] theorem lents_cons (a r) : lents st (a :: r) = obind (lentAt st a) (kLents st r) := (rfl)
@[simp] theorem kLents_ap (r x) : kLents st r x = obind (lents st r) (kOne x) := (rfl)
@[simp] theorem lentIx_nil : lentIx [] = [] := (rfl)
@[simp] theorem lentIx_l (x r) : lentIx (.inl x :: r) = lentIx r := (rfl)
@[simp] theorem lentIx_r (x r) : lentIx (.inr x :: r) = x :: lentIx r := (rfl)
@[simp] theorem putBack_nil : putBack st [] [] = some st := (rfl)
@[simp] theorem putBack_cons (i is xs r) : putBack st (i :: is) (xs :: r) = kPutBack (st.getD i none) st i is xs r := by
  rw [putBack]
  rfl
@[simp] theorem kPutBack_own (ys i is xs r) : kPutBack (some (.own ys)) st i is xs r = putBack (st.set i (some (.own xs))) is r := (rfl)
@[simp] theorem kPutBack_lent (ys i is xs r) : kPutBack (some (.lent ys)) st i is xs r = putBack (st.set i (some (.lent xs))) is r := (rfl)
@[simp] theorem rvOf_d (x) : rvOf (.d x) = .d x := (rfl)
@[simp] theorem rvOf_own (x) : rvOf (.own x) = .tmp x := (rfl)
@[simp] theorem dCall_ap (g modes more f) : dCall g modes more f st = obind (f st) (kCall g modes more) := (rfl)
@[simp] theorem kCall_ap (g modes more rs) : kCall g modes more (rs, s) = obind (marsh s (rs.zip modes)) (kCalla g (more.map Ar.d) rs.length modes.length) := (rfl)
@[simp] theorem kCalla_ap (g more n k as) : kCalla g more n k (as, s) = if (lentIx as).length ≤ 1 ∧ n = k then obind (lents s as) (kCallb g more s (lentIx as)) else none := (rfl)
@[simp] theorem kCallb_ap (g more is as) : kCallb g more s is as = obind (g (as ++ more)) (kCallc s is) := (rfl)
@[simp] theorem kCallc_ap (is r o) : kCallc s is (r, o) = obind (putBack s is o) (kCalld r) := (rfl)
@[simp] theorem kCalld_ap (r) : kCalld r s = some (rvOf r, s) := (rfl)
@[simp] theorem dCallK_ap (g n m perm more f f2) : dCallK g n m perm more f f2 st = obind (f st) (kCallK g n m perm more f2) := (rfl)
@[simp] theorem kCallK_ap (g n m perm more f2 rs) : kCallK g n m perm more f2 (rs, s) = obind (f2 s) (kCallKb g n m perm more rs) := (rfl)
@[simp] theorem kCallKb_ap (g n m perm more rs rs2) : kCallKb g n m perm more rs (rs2, s) = obind (toDs s (rs ++ rs2)) (kCallKc g perm more (rs.length = n ∧ rs2.length = m)) := (rfl)
@[simp] theorem kCallKc_ap (g perm more) (c : Prop) [Decidable c] (xs) : kCallKc g perm more c (xs, s) = if c then obind (g ((permute perm (xs ++ more)).map Ar.d)) (kCallKd s) else none := (rfl)
@[simp] theorem kCallKd_ap (r o) : kCallKd s (r, o) = some (rvOf r, s) := (rfl)
@[simp] theorem permute_nilS {α : Type} (xs : List α) : permute [] xs = [] := (rfl)
@[simp] theorem permute_consS {α : Type} (i is) (xs : List α) (x : α) (h : xs[i]? = some x) : permute (i :: is) xs = x :: permute is xs := by
  simp [permute, List.filterMap_cons, h]
@[simp] theorem dIter_ap (op f) : dIter op f st = obind (f st) (kIter op) := (rfl)
@[simp] theorem kIter_ap (op r) : kIter op (r, s) = obind (toD s r) (kIterb op) := (rfl)
@[simp] theorem kIterb_ap (op x) : kIterb op (x, s) = obind (op x) (kRet s) := (rfl)
@[simp] theorem dIterA_ap (op f) : dIterA op f st = obind (f st) (kIterA op) := (rfl)
@[simp] theorem kIterA_ap (op rs) : kIterA op (rs, s) = obind (toDs s rs) (kIterAb op) := (rfl)
@[simp] theorem kIterAb_ap (op xs) : kIterAb op (xs, s) = obind (op xs) (kRet s) := (rfl)
@[simp] theorem gName_ap (i x) : gName i x st = setS st i (.d x) := (rfl)
@[simp] theorem setS_ap (i v) : setS st i v = kSetS (st.getD i none) st i v := (rfl)
@[simp] theorem kSetS_none (i v) : kSetS none st i v = if i < st.length then some (st.set i (some v)) else none := (rfl)
@[simp] theorem kSetS_d (x i v) : kSetS (some (.d x)) st i v = if i < st.length then some (st.set i (some v)) else none := (rfl)
@[simp] theorem kSetS_own (x i v) : kSetS (some (.own x)) st i v = if i < st.length then some (st.set i (some v)) else none := (rfl)
@[simp] theorem gNil_ap : gNil [] st = some st := (rfl)
@[simp] theorem gCons_ap (g h x r) : gCons g h (x :: r) st = obind (g x st) (kGs h r) := (rfl)
@[simp] theorem kGs_ap (h r) : kGs h r s = h r s := (rfl)
@[simp] theorem gTup_ap (n h xs) : gTup n h (.tuple xs) st = if xs.length = n then h xs st else none := (rfl)
@[simp] theorem wipeD_nil : wipeD st [] = st := (rfl)
@[simp] theorem wipeD_cons (v vs) : wipeD st (v :: vs) = (wipeD st vs).set v none := (rfl)
@[simp] theorem refill_nil (s0) : refill s0 st [] = st := (rfl)
@[simp] theorem refill_cons (s0 v vs) : refill s0 st (v :: vs) = (refill s0 st vs).set v (s0.getD v none) := (rfl)
theorem lcGo_nil (g t e vs) : lcGo g t e vs [] st = some ([], st) := (rfl)
theorem lcGo_cons (g t e vs x xs) : lcGo g t e vs (x :: xs) st = obind (g x st) (kLcTurn g t e vs xs) := (rfl)
@[simp] theorem kLcTurn_ap (g t e vs xs) : kLcTurn g t e vs xs s = obind (t s) (kLcTurnT g t e vs xs) := (rfl)
@[simp] theorem kLcTurnT_ap (g t e vs xs b) : kLcTurnT g t e vs xs (b, s) = if b = true then obind (e s) (kLcTurnD g t e vs xs) else lcGo g t e vs xs (wipeD s vs) := (rfl)
@[simp] theorem kLcTurnD_ap (g t e vs xs r) : kLcTurnD g t e vs xs (r, s) = obind (toD s r) (kLcTurnE g t e vs xs) := (rfl)
@[simp] theorem kLcTurnE_ap (g t e vs xs x) : kLcTurnE g t e vs xs (x, s) = obind (lcGo g t e vs xs (wipeD s vs)) (kPush x) := (rfl)
@[simp] theorem dLc_ap (it g t e vs) : dLc it g t e vs st = obind (it st) (kLc g t e vs) := (rfl)
@[simp] theorem kLc_ap (g t e vs xs) : kLc g t e vs (xs, s) = if xs.length ≤ sizeLine ∧ vs.all (fun i => kFree (s.getD i none)) = true then obind (lcGo g t e vs xs (wipeD s vs)) (kLcEnd s vs) else none := (rfl)
@[simp] theorem kLcEnd_ap (s0 vs xs) : kLcEnd s0 vs (xs, s) = some (.tmp xs, refill s0 s vs) := (rfl)
@[simp] theorem kFree_none : kFree none = true := (rfl)
@[simp] theorem kFree_d (x) : kFree (some (.d x)) = true := (rfl)
@[simp] theorem dTests_ap : dTests st = some (true, st) := (rfl)
@[simp] theorem dNext_ap : dNext st = some (.nx, st) := (rfl)
@[simp] theorem dSeq_ap (f g) : dSeq f g st = obind (f st) (kSeq g) := (rfl)
@[simp] theorem kSeq_nx (g) : kSeq g (.nx, s) = g s := (rfl)
@[simp] theorem kSeq_bk (g) : kSeq g (.bk, s) = some (.bk, s) := (rfl)
@[simp] theorem kSeq_ct (g) : kSeq g (.ct, s) = some (.ct, s) := (rfl)
@[simp] theorem kSeq_rt (g r) : kSeq g (.rt r, s) = some (.rt r, s) := (rfl)
@[simp] theorem dBreak_ap : dBreak st = some (.bk, st) := (rfl)
@[simp] theorem dCont_ap : dCont st = some (.ct, st) := (rfl)
@[simp] theorem dNever_ap : dNever st = none := (rfl)
@[simp] theorem kNx_ap : kNx s = some (.nx, s) := (rfl)
@[simp] theorem dSet_ap (i f) : dSet i f st = obind (f st) (kSet i) := (rfl)
@[simp] theorem kSet_d (i x) : kSet i (.d x, s) = obind (setS s i (.d x)) kNx := (rfl)
@[simp] theorem kSet_tmp (i xs) : kSet i (.tmp xs, s) = obind (setS s i (.own xs)) kNx := (rfl)
@[simp] theorem kSet_sl (i j) : kSet i (.sl j, s) = obind (kGive (s.getD j none) j s) (kSetD i) := (rfl)
@[simp] theorem kSetD_ap (i x) : kSetD i (x, s) = obind (setS s i (.d x)) kNx := (rfl)
@[simp] theorem dAsg_ap (g f) : dAsg g f st = obind (f st) (kAsg g) := (rfl)
@[simp] theorem kAsg_ap (g r) : kAsg g (r, s) = obind (toD s r) (kAsgb g) := (rfl)
@[simp] theorem kAsgb_ap (g x) : kAsgb g (x, s) = obind (g x s) kNx := (rfl)
@[simp] theorem dPar_ap (is f) : dPar is f st = obind (f st) (kPar is) := (rfl)
@[simp] theorem kPar_ap (is rs) : kPar is (rs, s) = obind (toDs s rs) (kParb is) := (rfl)
@[simp] theorem kParb_ap (is xs) : kParb is (xs, s) = obind (dPar.parGo is xs s) kNx := (rfl)
@[simp] theorem parGo_nil : dPar.parGo [] [] st = some st := (rfl)
@[simp] theorem parGo_cons (i is x xs) : dPar.parGo (i :: is) (x :: xs) st = obind (setS st i (.d x)) (kParGo is xs) := (rfl)
@[simp] theorem kParGo_ap (is xs) : kParGo is xs s = dPar.parGo is xs s := (rfl)
@[simp] theorem dAug_ap (op i f) : dAug op i f st = obind (dVar i st) (kAug op i f) := (rfl)
@[simp] theorem kAug_ap (op i f v) : kAug op i f (v, s) = obind (f s) (kAugb op i v) := (rfl)
@[simp] theorem kAugb_ap (op i x r) : kAugb op i (.d x) (r, s) = obind (look s r) (kAugc op i x s) := (rfl)
@[simp] theorem kAugc_ap (op i x y) : kAugc op i x s y = kAugOut (op x y) s i := (rfl)
@[simp] theorem kAugOut_d (z i) : kAugOut (some (.d z)) s i = obind (setS s i (.d z)) kNx := (rfl)
@[simp] theorem putL_ap (i xs) : putL st i xs = kPutL (st.getD i none) st i xs := (rfl)
@[simp] theorem kPutL_own (ys i xs) : kPutL (some (.own ys)) st i xs = some (st.set i (some (.own xs))) := (rfl)
@[simp] theorem kPutL_lent (ys i xs) : kPutL (some (.lent ys)) st i xs = some (st.set i (some (.lent xs))) := (rfl)
@[simp] theorem getL_ap (i) : getL st i = kGetL (st.getD i none) := (rfl)
@[simp] theorem kGetL_own (xs) : kGetL (some (.own xs)) = some xs := (rfl)
@[simp] theorem kGetL_lent (xs) : kGetL (some (.lent xs)) = some xs := (rfl)
@[simp] theorem dAppend_ap (i f) : dAppend i f st = obind (getL st i) (kApp i f st) := (rfl)
@[simp] theorem kApp_ap (i f xs) : kApp i f st xs = obind (f st) (kAppa i) := (rfl)
@[simp] theorem kAppa_ap (i r) : kAppa i (r, s) = obind (toD s r) (kAppb i) := (rfl)
@[simp] theorem kAppb_ap (i x) : kAppb i (x, s) = obind (getL s i) (kAppc i x s) := (rfl)
@[simp] theorem kAppc_ap (i x xs) : kAppc i x s xs = if xs.length < sizeLine then obind (putL s i (xs ++ [x])) kNx else none := (rfl)
@[simp] theorem dSetIx_ap (i k f) : dSetIx i k f st = obind (f st) (kSx i k) := (rfl)
@[simp] theorem kSx_ap (i k r) : kSx i k (r, s) = obind (toD s r) (kSxa i k) := (rfl)
@[simp] theorem kSxa_ap (i k x) : kSxa i k (x, s) = obind (getL s i) (kSxa2 i k (x, s)) := (rfl)
@[simp] theorem kSxa2_ap (i k x xs) : kSxa2 i k (x, s) xs = obind (k s) (kSxb i x) := (rfl)
@[simp] theorem kSxb_ap (i x r) : kSxb i x (r, s) = kSxc i x (look s r) s := (rfl)
@[simp] theorem kSxc_i (i x j) : kSxc i x (some (.int j)) s = obind (getL s i) (kSxd i x s j) := (rfl)
@[simp] theorem kSxd_ap (i x j xs) : kSxd i x s j xs = obind (ixAt xs j) (kSxe i x s xs) := (rfl)
@[simp] theorem kSxe_ap (i x xs n) : kSxe i x s xs n = obind (putL s i (xs.set n x)) kNx := (rfl)
@[simp] theorem dAugIx_ap (op i k f) : dAugIx op i k f st = obind (getL st i) (kAx op i k f st) := (rfl)
@[simp] theorem kAx_ap (op i k f xs) : kAx op i k f st xs = obind (k st) (kAx2 op i f) := (rfl)
@[simp] theorem kAx2_ap (op i f r) : kAx2 op i f (r, s) = kAxa op i f (look s r) s := (rfl)
@[simp] theorem kAxa_i (op i f j) : kAxa op i f (some (.int j)) s = obind (getL s i) (kAxb op i f j s) := (rfl)
@[simp] theorem kAxb_ap (op i f j xs) : kAxb op i f j s xs = obind (ixAt xs j) (kAxc op i f j s xs) := (rfl)
@[simp] theorem kAxc_ap (op i f j xs n) : kAxc op i f j s xs n = obind (xs[n]?) (kAxd op i f j s) := (rfl)
@[simp] theorem kAxd_ap (op i f j x) : kAxd op i f j s x = obind (f s) (kAxe op i j x) := (rfl)
@[simp] theorem kAxe_ap (op i j x r) : kAxe op i j x (r, s) = obind (look s r) (kAxf op i j x s) := (rfl)
@[simp] theorem kAxf_ap (op i j x y) : kAxf op i j x s y = kAxg (op x y) i s j := (rfl)
@[simp] theorem kAxg_d (z i j) : kAxg (some (.d z)) i s j = obind (getL s i) (kAxh i z s j) := (rfl)
@[simp] theorem kAxh_ap (i z j ys) : kAxh i z s j ys = obind (ixAt ys j) (kAxi i z s ys) := (rfl)
@[simp] theorem kAxi_ap (i z ys n) : kAxi i z s ys n = obind (putL s i (ys.set n z)) kNx := (rfl)
@[simp] theorem dDrop_ap (f) : dDrop f st = obind (f st) kDrop := (rfl)
@[simp] theorem kDrop_ap (r) : kDrop (r, s) = some (.nx, s) := (rfl)
@[simp] theorem dRet_ap (f) : dRet f st = obind (f st) kRetv := (rfl)
@[simp] theorem kRetv_d (x) : kRetv (.d x, s) = some (.rt (.d x), s) := (rfl)
@[simp] theorem kRetv_tmp (x) : kRetv (.tmp x, s) = some (.rt (.own x), s) := (rfl)
@[simp] theorem kRetv_sl (i) : kRetv (.sl i, s) = kRetSl (s.getD i none) s i := (rfl)
@[simp] theorem kRetSl_d (x i) : kRetSl (some (.d x)) s i = some (.rt (.d x), s) := (rfl)
@[simp] theorem kRetSl_own (x i) : kRetSl (some (.own x)) s i = some (.rt (.own x), s.set i none) := (rfl)
@[simp] theorem dRetN_ap : dRetN st = some (.rt (.d .none), st) := (rfl)
@[simp] theorem dIfS_ap (t f g) : dIfS t f g st = obind (t st) (kIf f g) := (rfl)
theorem forGo_nil (g b) : forGo g b [] st = some (.nx, st) := (rfl)
theorem forGo_cons (g b x xs) : forGo g b (x :: xs) st = obind (g x st) (kFora g b xs) := (rfl)
@[simp] theorem kFora_ap (g b xs) : kFora g b xs s = obind (b s) (kForb g b xs) := (rfl)
@[simp] theorem kForb_nx (g b xs) : kForb g b xs (.nx, s) = forGo g b xs s := (rfl)
@[simp] theorem kForb_ct (g b xs) : kForb g b xs (.ct, s) = forGo g b xs s := (rfl)
@[simp] theorem kForb_bk (g b xs) : kForb g b xs (.bk, s) = some (.nx, s) := (rfl)
@[simp] theorem kForb_rt (g b xs r) : kForb g b xs (.rt r, s) = some (.rt r, s) := (rfl)
@[simp] theorem dFor_ap (it g b) : dFor it g b st = obind (it st) (kFor g b) := (rfl)
@[simp] theorem kFor_ap (g b xs) : kFor g b (xs, s) = forGo g b xs s := (rfl)
@[simp] theorem arS_d (x) : arS (.d x) = .d x := (rfl)
@[simp] theorem arS_m (x) : arS (.m x) = .lent x := (rfl)
@[simp] theorem outsGo_nil (i) : outsGo st [] i = some [] := (rfl)
@[simp] theorem outsGo_d (x r i) : outsGo st (.d x :: r) i = outsGo st r (i + 1) := (rfl)
@[simp] theorem outsGo_m (x r i) : outsGo st (.m x :: r) i = kOutsM (st.getD i none) st r i := (rfl)
@[simp] theorem kOutsM_ap (xs r i) : kOutsM (some (.lent xs)) st r i = obind (outsGo st r (i + 1)) (kOuts xs) := (rfl)
@[simp] theorem kOuts_ap (xs o) : kOuts xs o = some (xs :: o) := (rfl)
end
theorem run_ap (n b as) : run n b as = obind (b (startD n as)) (kRun as) := (rfl)
@[simp] theorem kRun_ap (as f s) : kRun as (f, s) = obind (outsGo s as 0) (kRunb f) := (rfl)
@[simp] theorem kRunb_nx (o) : kRunb .nx o = some (.d .none, o) := (rfl)
@[simp] theorem kRunb_rt (r o) : kRunb (.rt r) o = some (r, o) := (rfl)
theorem whileN_det (t : DT) (b : DS) : ∀ (n m : Nat) (st : DSt) (r s), whileN t b n st = some r → whileN t b m st = some s → r = s := by
  intro n
  induction n with
  | zero => intro m st r s h _; simp [whileN] at h
  | succ n ih =>
    intro m st r s h h'
    cases m with
    | zero => simp [whileN] at h'
    | succ m =>
      simp only [whileN] at h h'
      cases ht : t st with
      | none => rw [ht] at h; simp at h
      | some q =>
        rw [ht] at h h'
        simp only [Option.bind_some] at h h'
        by_cases hq : q.1 = true
        · rw [if_pos hq] at h h'
          cases hb : b q.2 with
          | none => rw [hb] at h; simp at h
          | some p =>
            rw [hb] at h h'
            simp only [Option.bind_some] at h h'
            rcases p with ⟨p1, p2⟩
            cases p1 with
            | nx => exact ih m _ _ _ h h'
            | ct => exact ih m _ _ _ h h'
            | bk => rw [← Option.some.inj h, ← Option.some.inj h']
            | rt x => rw [← Option.some.inj h, ← Option.some.inj h']
        · rw [if_neg hq] at h h'
          rw [← Option.some.inj h, ← Option.some.inj h']
theorem dWhile_of {t : DT} {b : DS} {n : Nat} {st : DSt} {r} (h : whileN t b n st = some r) : dWhile t b st = some r := by
  unfold dWhile
  have hx : ∃ n r, whileN t b n st = some r := ⟨n, r, h⟩
  rw [dif_pos hx]
  exact congrArg some (whileN_det t b _ _ _ _ _ (Classical.choose_spec (Classical.choose_spec hx)) h)
theorem whileN_more {t : DT} {b : DS} {n : Nat} {st st' : DSt} {r} (ht : t st = some (true, st)) (hb : b st = some (.nx, st')) (h : whileN t b n st' = some r) : whileN t b (n + 1) st = some r := by
  simp only [whileN, ht, hb, Option.bind_some, if_true]
  exact h
theorem whileN_end {t : DT} {b : DS} {n : Nat} {st : DSt} (ht : t st = some (false, st)) : whileN t b (n + 1) st = some (.nx, st) := by
  simp only [whileN, ht, Option.bind_some, if_neg Bool.false_ne_true]
/-! ### operators on numbers -/
@[simp] theorem opAdd_ii (i j : Int) : opAdd (.int i) (.int j) = some (.d (.int (i + j))) := (rfl)
@[simp] theorem opAdd_ll (xs ys : List D) : opAdd (.list xs) (.list ys) = if xs.length + ys.length ≤ sizeLine then some (.tmp (xs ++ ys)) else none := (rfl)
@[simp] theorem opAddI_ii (i j : Int) : opAddI (.int i) (.int j) = some (.d (.int (i + j))) := (rfl)
@[simp] theorem opSub_ii (i j : Int) : opSub (.int i) (.int j) = some (.d (.int (i - j))) := (rfl)
@[simp] theorem opMul_ii (i j : Int) : opMul (.int i) (.int j) = if i.natAbs.log2 + j.natAbs.log2 < 1000000 then some (.d (.int (i * j))) else none := (rfl)
@[simp] theorem opMul_li (xs : List D) (k : Int) : opMul (.list xs) (.int k) = if -(2 ^ 63) ≤ k ∧ k < 2 ^ 63 ∧ xs.length * k.toNat ≤ sizeLine then some (.tmp (List.replicate k.toNat xs).flatten) else none := (rfl)
@[simp] theorem opDiv_ii (i j : Int) : opDiv (.int i) (.int j) = if 0 < j ∧ j.natAbs.log2 < 9000 then some (.d (.int (i / j))) else none := (rfl)
@[simp] theorem opMod_ii (i j : Int) : opMod (.int i) (.int j) = if 0 < j then some (.d (.int (i % j))) else none := (rfl)
@[simp] theorem opPow_ii (i j : Int) : opPow (.int i) (.int j) = if 0 ≤ j ∧ j ≤ 1000000 ∧ i.natAbs < 2 ^ 64 then some (.d (.int (i ^ j.toNat))) else none := (rfl)
@[simp] theorem opNeg_i (i : Int) : opNeg (.int i) = some (.d (.int (-i))) := (rfl)
@[simp] theorem opLt_ii (i j : Int) : opLt (.int i) (.int j) = some (.d (.bool (decide (i < j)))) := (rfl)
@[simp] theorem opLe_ii (i j : Int) : opLe (.int i) (.int j) = some (.d (.bool (decide (i ≤ j)))) := (rfl)
@[simp] theorem opGt_ii (i j : Int) : opGt (.int i) (.int j) = some (.d (.bool (decide (j < i)))) := (rfl)
@[simp] theorem opGe_ii (i j : Int) : opGe (.int i) (.int j) = some (.d (.bool (decide (j ≤ i)))) := (rfl)
@[simp] theorem eqv_ii (i j : Int) : PyData.eqv (.int i) (.int j) = (i == j) := by simp [PyData.eqv]
@[simp] theorem shaped_i (i : Int) : flat (.int i) = true := by simp [flat, PyData.plain, PyData.depth]
@[simp] theorem opEq_ii (i j : Int) : opEq (.int i) (.int j) = some (.d (.bool (i == j))) := by simp [opEq]
@[simp] theorem opNe_ii (i j : Int) : opNe (.int i) (.int j) = some (.d (.bool (!(i == j)))) := by simp [opNe]
@[simp] theorem opIx_li (xs : List D) (i : Int) : opIx (.list xs) (.int i) = obind (ixAt xs i) fun n => obind (xs[n]?) fun x => some (.d x) := (rfl)
@[simp] theorem opIx_ti (xs : List D) (i : Int) : opIx (.tuple xs) (.int i) = obind (ixAt xs i) fun n => obind (xs[n]?) fun x => some (.d x) := (rfl)
@[simp] theorem ixAt_ap {α : Type} (xs : List α) (i : Int) : ixAt xs i = if 0 ≤ i then (if i < xs.length then some i.toNat else none) else if -(xs.length : Int) ≤ i then some (i + xs.length).toNat else none := (rfl)
@[simp] theorem bLen_l (xs : List D) : bLen [.list xs] = some (.d (.int xs.length)) := (rfl)
@[simp] theorem bLen_t (xs : List D) : bLen [.tuple xs] = some (.d (.int xs.length)) := (rfl)
@[simp] theorem bInt_i (i : Int) : bInt [.int i] = some (.d (.int i)) := (rfl)
@[simp] theorem bInt_b (b : Bool) : bInt [.bool b] = some (.d (.int (if b then 1 else 0))) := (rfl)
@[simp] theorem boolsOf_nil : boolsOf [] = some [] := (rfl)
@[simp] theorem boolsOf_cons (b r) : boolsOf (.bool b :: r) = obind (boolsOf r) fun bs => some (b :: bs) := (rfl)
@[simp] theorem bAll_l (xs : List D) : bAll [.list xs] = obind (boolsOf xs) fun bs => some (.d (.bool (bs.all id))) := (rfl)
@[simp] theorem bAny_l (xs : List D) : bAny [.list xs] = obind (boolsOf xs) fun bs => some (.d (.bool (bs.any id))) := (rfl)
@[simp] theorem bSum_l (xs : List D) : bSum [.list xs] = obind (intsOf xs) fun is => some (.d (.int is.sum)) := (rfl)
@[simp] theorem bList_l (xs : List D) : bList [.list xs] = some (.tmp xs) := (rfl)
@[simp] theorem bList_t (xs : List D) : bList [.tuple xs] = some (.tmp xs) := (rfl)
@[simp] theorem bIsi_none (T) : bIsi T .none = some (.d (.bool (isTy .none T))) := (rfl)
@[simp] theorem bIsi_b (T b) : bIsi T (.bool b) = some (.d (.bool (isTy (.bool b) T))) := (rfl)
@[simp] theorem bIsi_i (T b) : bIsi T (.int b) = some (.d (.bool (isTy (.int b) T))) := (rfl)
@[simp] theorem bIsi_s (T b) : bIsi T (.str b) = some (.d (.bool (isTy (.str b) T))) := (rfl)
@[simp] theorem bIsi_l (T b) : bIsi T (.list b) = some (.d (.bool (isTy (.list b) T))) := (rfl)
@[simp] theorem bIsi_t (T b) : bIsi T (.tuple b) = some (.d (.bool (isTy (.tuple b) T))) := (rfl)
@[simp] theorem bIsi2_none (T U) : bIsi2 T U .none = some (.d (.bool (isTy .none T || isTy .none U))) := (rfl)
@[simp] theorem bIsi2_b (T U b) : bIsi2 T U (.bool b) = some (.d (.bool (isTy (.bool b) T || isTy (.bool b) U))) := (rfl)
@[simp] theorem bIsi2_i (T U b) : bIsi2 T U (.int b) = some (.d (.bool (isTy (.int b) T || isTy (.int b) U))) := (rfl)
@[simp] theorem bIsi2_s (T U b) : bIsi2 T U (.str b) = some (.d (.bool (isTy (.str b) T || isTy (.str b) U))) := (rfl)
@[simp] theorem bIsi2_l (T U b) : bIsi2 T U (.list b) = some (.d (.bool (isTy (.list b) T || isTy (.list b) U))) := (rfl)
@[simp] theorem bIsi2_t (T U b) : bIsi2 T U (.tuple b) = some (.d (.bool (isTy (.tuple b) T || isTy (.tuple b) U))) := (rfl)
@[simp] theorem tyName_none : tyName .none = "NoneType" := (rfl)
@[simp] theorem tyName_b (b) : tyName (.bool b) = "bool" := (rfl)
@[simp] theorem tyName_i (b) : tyName (.int b) = "int" := (rfl)
@[simp] theorem tyName_s (b) : tyName (.str b) = "str" := (rfl)
@[simp] theorem tyName_l (b) : tyName (.list b) = "list" := (rfl)
@[simp] theorem tyName_t (b) : tyName (.tuple b) = "tuple" := (rfl)
@[simp] theorem isTy_ap (x T) : isTy x T = (tyName x == T || (T == "int" && tyName x == "bool")) := (rfl)
@[simp] theorem opIs_ap (x y) : opIs x y = obind (isV x y) fun b => some (.d (.bool b)) := (rfl)
@[simp] theorem opIsNot_ap (x y) : opIsNot x y = obind (isV x y) fun b => some (.d (.bool (!b))) := (rfl)
@[simp] theorem isV_nn : isV .none .none = some true := (rfl)
@[simp] theorem isV_bn (b) : isV (.bool b) .none = some false := (rfl)
@[simp] theorem isV_in (b) : isV (.int b) .none = some false := (rfl)
@[simp] theorem isV_sn (b) : isV (.str b) .none = some false := (rfl)
@[simp] theorem isV_ln (b) : isV (.list b) .none = some false := (rfl)
@[simp] theorem isV_tn (b) : isV (.tuple b) .none = some false := (rfl)
@[simp] theorem isV_bb (b c) : isV (.bool b) (.bool c) = some (b == c) := (rfl)
@[simp] theorem isV_nb (c) : isV .none (.bool c) = some false := (rfl)
@[simp] theorem isV_ib (b c) : isV (.int b) (.bool c) = some false := (rfl)
@[simp] theorem isV_sb (b c) : isV (.str b) (.bool c) = some false := (rfl)
@[simp] theorem isV_lb (b c) : isV (.list b) (.bool c) = some false := (rfl)
@[simp] theorem isV_tb (b c) : isV (.tuple b) (.bool c) = some false := (rfl)
@[simp] theorem opSlice_l (xs lo hi) : opSlice (.list xs) lo hi = some (.tmp (cutD xs lo hi)) := (rfl)
@[simp] theorem opRev_l (xs) : opRev (.list xs) = some (.tmp xs.reverse) := (rfl)
@[simp] theorem iList_l (xs) : iList (.list xs) = some xs := (rfl)
@[simp] theorem iTup_l (xs) : iTup (.tuple xs) = some xs := (rfl)
@[simp] theorem iSeq_l (xs) : iSeq (.list xs) = some xs := (rfl)
@[simp] theorem iSeq_t (xs) : iSeq (.tuple xs) = some xs := (rfl)
@[simp] theorem iZip_l (xs ys) : iZip [.list xs, .list ys] = some ((xs.zip ys).map fun p => .tuple [p.1, p.2]) := (rfl)
@[simp] theorem iZip_t (xs ys) : iZip [.tuple xs, .tuple ys] = some ((xs.zip ys).map fun p => .tuple [p.1, p.2]) := (rfl)
@[simp] theorem iEnum_l (xs) : iEnum [.list xs] = some (xs.zipIdx.map fun p => .tuple [.int (p.2 : Nat), p.1]) := (rfl)
@[simp] theorem iRange1_i (n : Int) : iRange1 [.int n] = if -(2 ^ 62) ≤ n ∧ n < 2 ^ 62 then some ((List.range n.toNat).map fun i => .int (0 + (i : Nat))) else none := (rfl)
@[simp] theorem iRange2_i (a b : Int) : iRange2 [.int a, .int b] = if -(2 ^ 62) ≤ a ∧ a < 2 ^ 62 ∧ -(2 ^ 62) ≤ b ∧ b < 2 ^ 62 then some ((List.range (b - a).toNat).map fun i => .int (a + (i : Nat))) else none := (rfl)
/-! ### the further ones -/
def kChainOut (s : DSt) (op' : D → D → Option Rv) (o : Option D) (x : D) : Option (Rv × DSt) := o.bind fun u => (op' x u).bind (kRet s)
def kChaind (op' : D → D → Option Rv) (r2 : Rv) (w : Rv × DSt) : Option (Rv × DSt) := (look w.2 r2).bind (kChainOut w.2 op' (look w.2 w.1))
def kChainc (op' : D → D → Option Rv) (h : DE) (r2 : Rv) (s : DSt) (z : Rv) : Option (Rv × DSt) := match z with
  | .d (.bool true) => (h s).bind (kChaind op' r2)
  | .d (.bool false) => some (.d (.bool false), s)
  | _ => none
def kChainb2 (op op' : D → D → Option Rv) (h : DE) (r2 : Rv) (s : DSt) (o : Option D) (x : D) : Option (Rv × DSt) := o.bind fun y => (op x y).bind (kChainc op' h r2 s)
def kChainb (op op' : D → D → Option Rv) (h : DE) (r : Rv) (q : Rv × DSt) : Option (Rv × DSt) := (look q.2 r).bind (kChainb2 op op' h q.1 q.2 (look q.2 q.1))
def kChain (op op' : D → D → Option Rv) (g h : DE) (p : Rv × DSt) : Option (Rv × DSt) := (g p.2).bind (kChainb op op' h p.1)
theorem kChainc_eq (op' h r2 s) (z : Rv) : (match z with
  | .d (.bool true) => (h s).bind fun w => (look w.2 r2).bind fun y' => (look w.2 w.1).bind fun u => (op' y' u).bind fun z' => some (z', w.2)
  | .d (.bool false) => some (Rv.d (.bool false), s)
  | _ => none) = kChainc op' h r2 s z := by
  unfold kChainc
  rcases z with z | z | z
  · cases z with
    | bool b => cases b <;> rfl
    | none => rfl
    | int b => rfl
    | str b => rfl
    | list b => rfl
    | tuple b => rfl
    | dict b => rfl
  · rfl
  · rfl
@[simp] theorem dChain_ap (op op' f g h) (st : DSt) : dChain op op' f g h st = obind (f st) (kChain op op' g h) := by
  show (f st).bind _ = (f st).bind _
  congr 1
@[simp] theorem kChain_ap (op op' g h r) (s : DSt) : kChain op op' g h (r, s) = obind (g s) (kChainb op op' h r) := (rfl)
@[simp] theorem kChainb_ap (op op' h r r2) (s : DSt) : kChainb op op' h r (r2, s) = obind (look s r) (kChainb2 op op' h r2 s (look s r2)) := (rfl)
@[simp] theorem kChainb2_ap (op op' h r2 y x) (s : DSt) : kChainb2 op op' h r2 s (some y) x = obind (op x y) (kChainc op' h r2 s) := (rfl)
@[simp] theorem kChainc_ap (op' h r2 b) (s : DSt) : kChainc op' h r2 s (.d (.bool b)) = if b = true then obind (h s) (kChaind op' r2) else some (.d (.bool false), s) := by cases b <;> rfl
@[simp] theorem kChaind_ap (op' r2 w) (s : DSt) : kChaind op' r2 (w, s) = obind (look s r2) (kChainOut s op' (look s w)) := (rfl)
@[simp] theorem kChainOut_ap (op' u x) (s : DSt) : kChainOut s op' (some u) x = obind (op' x u) (kRet s) := (rfl)
@[simp] theorem dIfT_ap (t f g) (st : DSt) : dIfT t f g st = obind (t st) (kIf f g) := (rfl)
@[simp] theorem bMax2_ii (i j : Int) : bMax2 [.int i, .int j] = some (.d (.int (if j > i then j else i))) := (rfl)
@[simp] theorem opBits_i (i : Int) : opBits (.int i) = some (.d (.int (Builtin.Int.intBits i : Nat))) := (rfl)
@[simp] theorem opAddT_tt (xs ys) : opAddT (.tuple xs) (.tuple ys) = if xs.length + ys.length ≤ sizeLine then some (.d (.tuple (xs ++ ys))) else none := (rfl)
@[simp] theorem opSliceT_t (xs lo hi) : opSliceT (.tuple xs) lo hi = some (.d (.tuple (cutD xs lo hi))) := (rfl)
@[simp] theorem bTuple_l (xs) : bTuple [.list xs] = some (.d (.tuple xs)) := (rfl)
@[simp] theorem bTuple_t (xs) : bTuple [.tuple xs] = some (.d (.tuple xs)) := (rfl)
@[simp] theorem opPowW_ii (i j : Int) : opPowW (.int i) (.int j) = if 0 ≤ j ∧ (Builtin.Int.intBits i : Int) * j ≤ 2 ^ 27 then some (.d (.int (i ^ j.toNat))) else none := (rfl)
@[simp] theorem fz_d (x) : fz (some (.d x)) = some (.d x) := (rfl)
@[simp] theorem fz_own' (x) : fz (some (.own x)) = some (.d (.list x)) := (rfl)
@[simp] theorem fz_lent' (x) : fz (some (.lent x)) = some (.d (.list x)) := (rfl)
@[simp] theorem fz_none : fz none = none := (rfl)
@[simp] theorem freeze_nil : freeze [] = [] := (rfl)
@[simp] theorem freeze_cons (o r) : freeze (o :: r) = fz o :: freeze r := (rfl)
def kAsgO2 (i j : Nat) (r : Rv) (q : Rv × DSt) : Option (Fl × DSt) := match r, q.1 with
  | .d x, .tmp ys => (setS q.2 j (.own ys)).bind fun s => (setS s i (.d x)).bind kNx
  | _, _ => none
def kAsgO (i j : Nat) (g : DE) (p : Rv × DSt) : Option (Fl × DSt) := (g p.2).bind (kAsgO2 i j p.1)
def kAsgO3 (i : Nat) (x : D) (s : DSt) : Option (Fl × DSt) := (setS s i (.d x)).bind kNx
@[simp] theorem dAsgO_ap (i j f g) (st : DSt) : dAsgO i j f g st = obind (f st) (kAsgO i j g) := (rfl)
@[simp] theorem kAsgO_ap (i j g r) (s : DSt) : kAsgO i j g (r, s) = obind (g s) (kAsgO2 i j r) := (rfl)
@[simp] theorem kAsgO2_ap (i j x ys) (s : DSt) : kAsgO2 i j (.d x) (.tmp ys, s) = obind (setS s j (.own ys)) (kAsgO3 i x) := (rfl)
@[simp] theorem kAsgO3_ap (i x) (s : DSt) : kAsgO3 i x s = obind (setS s i (.d x)) kNx := (rfl)
def kAsgO3c (i : Nat) (x : D) (s : DSt) : Option (Fl × DSt) := (setS s i (.d x)).bind kNx
def kAsgO3b (i j : Nat) (x y : D) (s : DSt) : Option (Fl × DSt) := (setS s j (.d y)).bind (kAsgO3c i x)
def kAsgO3w (i j k : Nat) (r r2 : Rv) (w : Rv × DSt) : Option (Fl × DSt) := match r, r2, w.1 with
  | .d x, .d y, .tmp zs => (setS w.2 k (.own zs)).bind (kAsgO3b i j x y)
  | _, _, _ => none
def kAsgO3g (i j k : Nat) (h : DE) (r : Rv) (q : Rv × DSt) : Option (Fl × DSt) := (h q.2).bind (kAsgO3w i j k r q.1)
def kAsgO3f (i j k : Nat) (g h : DE) (p : Rv × DSt) : Option (Fl × DSt) := (g p.2).bind (kAsgO3g i j k h p.1)
@[simp] theorem dAsgO3_ap (i j k f g h) (st : DSt) : dAsgO3 i j k f g h st = obind (f st) (kAsgO3f i j k g h) := (rfl)
@[simp] theorem kAsgO3f_ap (i j k g h r) (s : DSt) : kAsgO3f i j k g h (r, s) = obind (g s) (kAsgO3g i j k h r) := (rfl)
@[simp] theorem kAsgO3g_ap (i j k h r r2) (s : DSt) : kAsgO3g i j k h r (r2, s) = obind (h s) (kAsgO3w i j k r r2) := (rfl)
@[simp] theorem kAsgO3w_ap (i j k x y zs) (s : DSt) : kAsgO3w i j k (.d x) (.d y) (.tmp zs, s) = obind (setS s k (.own zs)) (kAsgO3b i j x y) := (rfl)
@[simp] theorem kAsgO3b_ap (i j x y) (s : DSt) : kAsgO3b i j x y s = obind (setS s j (.d y)) (kAsgO3c i x) := (rfl)
@[simp] theorem kAsgO3c_ap (i x) (s : DSt) : kAsgO3c i x s = obind (setS s i (.d x)) kNx := (rfl)
def kTold3 (i : Nat) (fs : DS) (s : DSt) (q : Bool × DSt) : Option (Fl × DSt) := if q.1 = true then fs (s.set i none) else none
def kTold2 (i : Nat) (ft : DT) (fs : DS) (s : DSt) (ds : List D) (_ : DSt) : Option (Fl × DSt) := (ft ((freeze (s.set i none)).set i (some (.d (.list ds))))).bind (kTold3 i fs s)
def kTold1 (i n : Nat) (ft : DT) (fs : DS) (s : DSt) (ds : List D) : Option (Fl × DSt) := if ds.length ≤ 1000 ∧ endStr ds.getLast? = false ∧ PyData.depthAll ds + 1 < n then (setS s i (.d .none)).bind (kTold2 i ft fs s ds) else none
def kTold (i n : Nat) (ft : DT) (fs : DS) (p : List Rv × DSt) : Option (Fl × DSt) := (toldOf p.1).bind (kTold1 i n ft fs p.2)
@[simp] theorem dTold_ap (i n fa ft fs) (st : DSt) : dTold i n fa ft fs st = obind (fa st) (kTold i n ft fs) := (rfl)
@[simp] theorem kTold_ap (i n ft fs rs) (s : DSt) : kTold i n ft fs (rs, s) = obind (toldOf rs) (kTold1 i n ft fs s) := (rfl)
@[simp] theorem kTold1_ap (i n ft fs s ds) : kTold1 i n ft fs s ds = if ds.length ≤ 1000 ∧ endStr ds.getLast? = false ∧ PyData.depthAll ds + 1 < n then obind (setS s i (.d .none)) (kTold2 i ft fs s ds) else none := (rfl)
@[simp] theorem kTold2_ap (i ft fs s ds u) : kTold2 i ft fs s ds u = obind (ft ((freeze (s.set i none)).set i (some (.d (.list ds))))) (kTold3 i fs s) := (rfl)
@[simp] theorem kTold3_true (i fs s) (u : DSt) : kTold3 i fs s (true, u) = fs (s.set i none) := (rfl)
def kToldR3 (i : Nat) (fe : DE) (s : DSt) (q : Bool × DSt) : Option (Fl × DSt) := if q.1 = false then dRet fe (s.set i none) else none
def kToldR2 (i : Nat) (ft : DT) (fe : DE) (s : DSt) (ds : List D) (_ : DSt) : Option (Fl × DSt) := (ft ((freeze (s.set i none)).set i (some (.d (.list ds))))).bind (kToldR3 i fe s)
def kToldR1 (i n : Nat) (ft : DT) (fe : DE) (s : DSt) (ds : List D) : Option (Fl × DSt) := if ds.length ≤ 1000 ∧ endStr ds.getLast? = false ∧ PyData.depthAll ds + 1 < n then (setS s i (.d .none)).bind (kToldR2 i ft fe s ds) else none
def kToldR (i n : Nat) (ft : DT) (fe : DE) (p : List Rv × DSt) : Option (Fl × DSt) := (toldOf p.1).bind (kToldR1 i n ft fe p.2)
@[simp] theorem dToldRet_ap (i n fa ft fe) (st : DSt) : dToldRet i n fa ft fe st = obind (fa st) (kToldR i n ft fe) := (rfl)
@[simp] theorem kToldR_ap (i n ft fe rs) (s : DSt) : kToldR i n ft fe (rs, s) = obind (toldOf rs) (kToldR1 i n ft fe s) := (rfl)
@[simp] theorem kToldR1_ap (i n ft fe s ds) : kToldR1 i n ft fe s ds = if ds.length ≤ 1000 ∧ endStr ds.getLast? = false ∧ PyData.depthAll ds + 1 < n then obind (setS s i (.d .none)) (kToldR2 i ft fe s ds) else none := (rfl)
@[simp] theorem kToldR2_ap (i ft fe s ds u) : kToldR2 i ft fe s ds u = obind (ft ((freeze (s.set i none)).set i (some (.d (.list ds))))) (kToldR3 i fe s) := (rfl)
@[simp] theorem kToldR3_false (i fe s) (u : DSt) : kToldR3 i fe s (false, u) = dRet fe (s.set i none) := (rfl)
def kBorrow (st : DSt) (p : Rv × DSt) : Option (Rv × DSt) := match p.1 with
  | .d x => if atomD x = true then some (.d x, st) else none
  | _ => none
def kBorrowT (st : DSt) (p : Bool × DSt) : Option (Bool × DSt) := some (p.1, st)
@[simp] theorem dBorrow_ap (f) (st : DSt) : dBorrow f st = obind (f (freeze st)) (kBorrow st) := (rfl)
@[simp] theorem kBorrow_d (x s) (st : DSt) : kBorrow st (.d x, s) = if atomD x = true then some (.d x, st) else none := (rfl)
@[simp] theorem dBorrowT_ap (f) (st : DSt) : dBorrowT f st = obind (f (freeze st)) (kBorrowT st) := (rfl)
@[simp] theorem kBorrowT_ap (b s) (st : DSt) : kBorrowT st (b, s) = some (b, st) := (rfl)
/-- whole numbers written in a slot list -/
theorem sizeLine_eq : sizeLine = 16777216 := (rfl)
/-! further ones -/
section
variable {st s : DSt}
@[simp] theorem dDict0_ap (st : DSt) : dDict0 st = some (.d (.dict []), st) := (rfl)
@[simp] theorem bIsi_dict (T b) : bIsi T (.dict b) = some (.d (.bool (isTy (.dict b) T))) := (rfl)
@[simp] theorem bIsi2_dict (T U b) : bIsi2 T U (.dict b) = some (.d (.bool (isTy (.dict b) T || isTy (.dict b) U))) := (rfl)
def kLm : Option Int → Option Rv
  | some m => some (.d (.int m))
  | none => none
@[simp] theorem bMaxL_ap (xs) : bMaxL [.list xs] = obind (intsOf xs) (fun is => kLm (maxOf is)) := by
  show (intsOf xs).bind _ = _
  cases intsOf xs with
  | none => rfl
  | some is => show (maxOf is).bind _ = kLm (maxOf is); cases maxOf is <;> rfl
@[simp] theorem bMinL_ap (xs) : bMinL [.list xs] = obind (intsOf xs) (fun is => kLm (minOf is)) := by
  show (intsOf xs).bind _ = _
  cases intsOf xs with
  | none => rfl
  | some is => show (minOf is).bind _ = kLm (minOf is); cases minOf is <;> rfl
@[simp] theorem kLm_some (m) : kLm (some m) = some (.d (.int m)) := (rfl)
def kCallT4 (st : DSt) (r : Rt × List (List D)) : Option (Rv × DSt) := some (rvOf r.1, st)
def kCallT3 (g : Fn) (n : Nat) (more xs : List D) (rs : List Rv) (w : List D × DSt) : Option (Rv × DSt) := if rs.length = n then (g (.m xs :: (w.1 ++ more).map Ar.d)).bind (kCallT4 w.2) else none
def kCallT2 (g : Fn) (n : Nat) (more xs : List D) (q : List Rv × DSt) : Option (Rv × DSt) := (toDs q.2 q.1).bind (kCallT3 g n more xs q.1)
def kCallT (g : Fn) (n : Nat) (more : List D) (h : DA) (p : Rv × DSt) : Option (Rv × DSt) := match p.1 with
  | .tmp xs => (h p.2).bind (kCallT2 g n more xs)
  | _ => none
@[simp] theorem dCallT_ap (g n more f h) (st : DSt) : dCallT g n more f h st = obind (f st) (kCallT g n more h) := (rfl)
@[simp] theorem kCallT_ap (g n more h xs) (s : DSt) : kCallT g n more h (.tmp xs, s) = obind (h s) (kCallT2 g n more xs) := (rfl)
@[simp] theorem kCallT2_ap (g n more xs rs) (s : DSt) : kCallT2 g n more xs (rs, s) = obind (toDs s rs) (kCallT3 g n more xs rs) := (rfl)
@[simp] theorem kCallT3_ap (g n more xs rs ds) (s : DSt) : kCallT3 g n more xs rs (ds, s) = if rs.length = n then obind (g (.m xs :: (ds ++ more).map Ar.d)) (kCallT4 s) else none := (rfl)
@[simp] theorem kCallT4_ap (st : DSt) (r o) : kCallT4 st (r, o) = some (rvOf r, st) := (rfl)
def kParS4 (s : DSt) : Option (Fl × DSt) := some (.nx, s)
def kParS3 (is : List Nat) (ds : List D) (s : DSt) : Option (Fl × DSt) := (dPar.parGo is ds s).bind kParS4
def kParS2 (i : Nat) (is : List Nat) (xs : List D) (w : List D × DSt) : Option (Fl × DSt) := (setS w.2 i (.own xs)).bind (kParS3 is w.1)
def kParS1 (i : Nat) (is : List Nat) (xs : List D) (q : List Rv × DSt) : Option (Fl × DSt) := (toDs q.2 q.1).bind (kParS2 i is xs)
def kParS (i : Nat) (is : List Nat) (h : DA) (p : Rv × DSt) : Option (Fl × DSt) := match p.1 with
  | .tmp xs => (h p.2).bind (kParS1 i is xs)
  | _ => none
@[simp] theorem dParS_ap (i is f h) (st : DSt) : dParS i is f h st = obind (f st) (kParS i is h) := (rfl)
@[simp] theorem kParS_ap (i is h xs) (s : DSt) : kParS i is h (.tmp xs, s) = obind (h s) (kParS1 i is xs) := (rfl)
@[simp] theorem kParS1_ap (i is xs rs) (s : DSt) : kParS1 i is xs (rs, s) = obind (toDs s rs) (kParS2 i is xs) := (rfl)
@[simp] theorem kParS2_ap (i is xs ds) (s : DSt) : kParS2 i is xs (ds, s) = obind (setS s i (.own xs)) (kParS3 is ds) := (rfl)
@[simp] theorem kParS3_ap (is ds) (s : DSt) : kParS3 is ds s = obind (dPar.parGo is ds s) kParS4 := (rfl)
@[simp] theorem kParS4_ap (s : DSt) : kParS4 s = some (.nx, s) := (rfl)
def kParQ2 (i j : Nat) (is : List Nat) (x : D) (ys : List D) (w : List D × DSt) : Option (Fl × DSt) := (setS w.2 i (.d x)).bind fun s1 => (setS s1 j (.own ys)).bind (kParS3 is w.1)
def kParQ1 (i j : Nat) (is : List Nat) (x : D) (ys : List D) (u : List Rv × DSt) : Option (Fl × DSt) := (toDs u.2 u.1).bind (kParQ2 i j is x ys)
def kParQb (i j : Nat) (is : List Nat) (h : DA) (r : Rv) (q : Rv × DSt) : Option (Fl × DSt) := match r, q.1 with
  | .d x, .tmp ys => (h q.2).bind (kParQ1 i j is x ys)
  | _, _ => none
def kParQ (i j : Nat) (is : List Nat) (g : DE) (h : DA) (p : Rv × DSt) : Option (Fl × DSt) := (g p.2).bind (kParQb i j is h p.1)
@[simp] theorem dParQ_ap (i j is f g h) (st : DSt) : dParQ i j is f g h st = obind (f st) (kParQ i j is g h) := (rfl)
@[simp] theorem kParQ_ap (i j is g h r) (s : DSt) : kParQ i j is g h (r, s) = obind (g s) (kParQb i j is h r) := (rfl)
@[simp] theorem kParQb_ap (i j is h x ys) (s : DSt) : kParQb i j is h (.d x) (.tmp ys, s) = obind (h s) (kParQ1 i j is x ys) := (rfl)
@[simp] theorem kParQ1_ap (i j is x ys rs) (s : DSt) : kParQ1 i j is x ys (rs, s) = obind (toDs s rs) (kParQ2 i j is x ys) := (rfl)
def kParQ3 (j : Nat) (is : List Nat) (ys ds : List D) (s1 : DSt) : Option (Fl × DSt) := (setS s1 j (.own ys)).bind (kParS3 is ds)
@[simp] theorem kParQ2_ap (i j is x ys ds) (s : DSt) : kParQ2 i j is x ys (ds, s) = obind (setS s i (.d x)) (kParQ3 j is ys ds) := (rfl)
@[simp] theorem kParQ3_ap (j is ys ds) (s : DSt) : kParQ3 j is ys ds s = obind (setS s j (.own ys)) (kParS3 is ds) := (rfl)
/-! in, min, sorted -/
@[simp] theorem opIn_ap (x y) : opIn x y = obind (opInB x y) fun b => some (.d (.bool b)) := (rfl)
@[simp] theorem opNotIn_ap (x y) : opNotIn x y = obind (opInB x y) fun b => some (.d (.bool (!b))) := (rfl)
@[simp] theorem bMin2_ii (i j : Int) : bMin2 [.int i, .int j] = some (.d (.int (if j < i then j else i))) := (rfl)
@[simp] theorem bSorted_l (xs) : bSorted [.list xs] = if sortable xs = true then some (.tmp (sortD xs)) else none := (rfl)
@[simp] theorem opNe_bb (a b : Bool) : opNe (.bool a) (.bool b) = some (.d (.bool (!(a == b)))) := by cases a <;> cases b <;> rfl
@[simp] theorem isV_dn (k) : isV (.dict k) .none = some false := (rfl)
/-! list(range); remove; loops over one's own list; two new lists -/
@[simp] theorem atomD_b (b) : atomD (.bool b) = true := (rfl)
@[simp] theorem atomD_i (b) : atomD (.int b) = true := (rfl)
@[simp] theorem atomD_s (b) : atomD (.str b) = true := (rfl)
@[simp] theorem atomD_n : atomD .none = true := (rfl)
def kListRb (s : DSt) (x : Option D) : Option (Rv × DSt) := match x with
  | some (.int n) => if n ≤ 16777216 ∧ -(2 ^ 62) ≤ n then some (.tmp ((List.range n.toNat).map fun i => .int (0 + (i : Nat))), s) else none
  | _ => none
def kListR (p : Rv × DSt) : Option (Rv × DSt) := kListRb p.2 (look p.2 p.1)
@[simp] theorem dListR_ap (f) (st : DSt) : dListR f st = obind (f st) kListR := (rfl)
@[simp] theorem kListR_ap (r) (s : DSt) : kListR (r, s) = kListRb s (look s r) := (rfl)
@[simp] theorem kListRb_ap (n : Int) (s : DSt) : kListRb s (some (.int n)) = if n ≤ 16777216 ∧ -(2 ^ 62) ≤ n then some (.tmp ((List.range n.toNat).map fun i => .int (0 + (i : Nat))), s) else none := (rfl)
def kRemD (i : Nat) (s : DSt) (r : List Int) : Option (Fl × DSt) := (putL s i (r.map .int)).bind kNx
def kRemC (i : Nat) (s : DSt) (k : Int) (is : List Int) : Option (Fl × DSt) := (removeI k is).bind (kRemD i s)
def kRemB (i : Nat) (s : DSt) (k : Int) (xs : List D) : Option (Fl × DSt) := (intsOf xs).bind (kRemC i s k)
def kRemA (i : Nat) (q : D × DSt) : Option (Fl × DSt) := match q.1 with
  | .int k => (getL q.2 i).bind (kRemB i q.2 k)
  | _ => none
def kRem2 (i : Nat) (p : Rv × DSt) : Option (Fl × DSt) := (toD p.2 p.1).bind (kRemA i)
def kRem1 (i : Nat) (f : DE) (st : DSt) (xs : List D) : Option (Fl × DSt) := (f st).bind (kRem2 i)
@[simp] theorem dRemove_ap (i f) (st : DSt) : dRemove i f st = obind (getL st i) (kRem1 i f st) := (rfl)
@[simp] theorem kRem1_ap (i f) (st : DSt) (xs) : kRem1 i f st xs = obind (f st) (kRem2 i) := (rfl)
@[simp] theorem kRem2_ap (i r) (s : DSt) : kRem2 i (r, s) = obind (toD s r) (kRemA i) := (rfl)
@[simp] theorem kRemA_ap (i k) (s : DSt) : kRemA i (.int k, s) = obind (getL s i) (kRemB i s k) := (rfl)
@[simp] theorem kRemB_ap (i s k xs) : kRemB i s k xs = obind (intsOf xs) (kRemC i s k) := (rfl)
@[simp] theorem kRemC_ap (i s k is) : kRemC i s k is = obind (removeI k is) (kRemD i s) := (rfl)
@[simp] theorem kRemD_ap (i s r) : kRemD i s r = obind (putL s i (r.map .int)) kNx := (rfl)
noncomputable def kForBb (i : Nat) (full : List D) (g : DG) (b : DS) (xs : List D) (p : Fl × DSt) : Option (Fl × DSt) := match p.1 with
  | .nx => forGoB i full g b xs p.2
  | _ => none
noncomputable def kForBa (i : Nat) (full : List D) (g : DG) (b : DS) (xs : List D) (s : DSt) : Option (Fl × DSt) := (b s).bind (kForBb i full g b xs)
noncomputable def kForBs (i : Nat) (g : DG) (b : DS) (st : DSt) (xs : List D) : Option (Fl × DSt) := forGoB i xs g b xs st
@[simp] theorem dForB_ap (i g b) (st : DSt) : dForB i g b st = obind (getL st i) (kForBs i g b st) := (rfl)
@[simp] theorem kForBs_ap (i g b) (st : DSt) (xs) : kForBs i g b st xs = forGoB i xs g b xs st := (rfl)
theorem forGoB_nil (i full g b) (st : DSt) (h : getL st i = some full) : forGoB i full g b [] st = some (.nx, st) := by
  unfold forGoB
  rw [if_pos h]
theorem forGoB_cons (i full g b x xs) (st : DSt) (h : getL st i = some full) : forGoB i full g b (x :: xs) st = obind (g x st) (kForBa i full g b xs) := by
  rw [forGoB, if_pos h]
  rfl
@[simp] theorem kForBa_ap (i full g b xs) (s : DSt) : kForBa i full g b xs s = obind (b s) (kForBb i full g b xs) := (rfl)
@[simp] theorem kForBb_ap (i full g b xs) (s : DSt) : kForBb i full g b xs (.nx, s) = forGoB i full g b xs s := (rfl)
def kParW2 (i j : Nat) (is : List Nat) (xs ys : List D) (w : List D × DSt) : Option (Fl × DSt) := (setS w.2 i (.own xs)).bind (kParQ3 j is ys w.1)
def kParW1 (i j : Nat) (is : List Nat) (xs ys : List D) (u : List Rv × DSt) : Option (Fl × DSt) := (toDs u.2 u.1).bind (kParW2 i j is xs ys)
def kParWb (i j : Nat) (is : List Nat) (h : DA) (r : Rv) (q : Rv × DSt) : Option (Fl × DSt) := match r, q.1 with
  | .tmp xs, .tmp ys => (h q.2).bind (kParW1 i j is xs ys)
  | _, _ => none
def kParW (i j : Nat) (is : List Nat) (g : DE) (h : DA) (p : Rv × DSt) : Option (Fl × DSt) := (g p.2).bind (kParWb i j is h p.1)
@[simp] theorem dParW_ap (i j is f g h) (st : DSt) : dParW i j is f g h st = obind (f st) (kParW i j is g h) := (rfl)
@[simp] theorem kParW_ap (i j is g h r) (s : DSt) : kParW i j is g h (r, s) = obind (g s) (kParWb i j is h r) := (rfl)
@[simp] theorem kParWb_ap (i j is h xs ys) (s : DSt) : kParWb i j is h (.tmp xs) (.tmp ys, s) = obind (h s) (kParW1 i j is xs ys) := (rfl)
@[simp] theorem kParW1_ap (i j is xs ys rs) (s : DSt) : kParW1 i j is xs ys (rs, s) = obind (toDs s rs) (kParW2 i j is xs ys) := (rfl)
@[simp] theorem kParW2_ap (i j is xs ys ds) (s : DSt) : kParW2 i j is xs ys (ds, s) = obind (setS s i (.own xs)) (kParQ3 j is ys ds) := (rfl)
/-! shifts; zips -/
@[simp] theorem opShl_ii (i j : Int) : opShl (.int i) (.int j) = if 0 ≤ j ∧ j ≤ 1000000 ∧ i.natAbs < 2 ^ 64 then some (.d (.int (i * 2 ^ j.toNat))) else none := (rfl)
@[simp] theorem opShr_ii (i j : Int) : opShr (.int i) (.int j) = if 0 ≤ j then some (.d (.int (i / 2 ^ j.toNat))) else none := (rfl)
@[simp] theorem iZipL_ll (xs ys) : iZipL [.list xs, .list ys] = some ((xs.zip ys).map fun p => .tuple [p.1, p.2]) := (rfl)
def kLz3 (s : DSt) (xs : List D) : Option (Rv × DSt) := some (.tmp xs, s)
def kLz2 (q : List D × DSt) : Option (Rv × DSt) := (iZipL q.1).bind (kLz3 q.2)
def kLz1 (p : List Rv × DSt) : Option (Rv × DSt) := (toDs p.2 p.1).bind kLz2
@[simp] theorem dListZip_ap (f) (st : DSt) : dListZip f st = obind (f st) kLz1 := (rfl)
@[simp] theorem kLz1_ap (rs) (s : DSt) : kLz1 (rs, s) = obind (toDs s rs) kLz2 := (rfl)
@[simp] theorem kLz2_ap (ds) (s : DSt) : kLz2 (ds, s) = obind (iZipL ds) (kLz3 s) := (rfl)
@[simp] theorem kLz3_ap (xs) (s : DSt) : kLz3 s xs = some (.tmp xs, s) := (rfl)
def kZipRetb (o : Option SV) (xs : List D) (s : DSt) (g : DG) (t : DT) (e : DE) (vs : List Nat) : Option (Fl × DSt) := match o with
  | none => dRet (dLc (fun s => some (xs, s)) g t e vs) s
  | _ => none
def kZipRet (i : Nat) (g : DG) (t : DT) (e : DE) (vs : List Nat) (p : List D × DSt) : Option (Fl × DSt) := if i < p.2.length then kZipRetb (p.2.getD i none) p.1 p.2 g t e vs else none
@[simp] theorem dZipRet_ap (i fr g t e vs) (st : DSt) : dZipRet i fr g t e vs st = obind (dIterA iZipL fr st) (kZipRet i g t e vs) := by
  show (dIterA iZipL fr st).bind _ = (dIterA iZipL fr st).bind _
  congr 1
@[simp] theorem kZipRet_ap (i g t e vs xs) (s : DSt) : kZipRet i g t e vs (xs, s) = if i < s.length then kZipRetb (s.getD i none) xs s g t e vs else none := (rfl)
@[simp] theorem kZipRetb_none (xs) (s : DSt) (g t e vs) : kZipRetb none xs s g t e vs = dRet (dLc (fun s => some (xs, s)) g t e vs) s := (rfl)
/-! lists of data -/
@[simp] theorem opInD_ap (x y) : opInD x y = obind (inD x y) fun b => some (.d (.bool b)) := (rfl)
@[simp] theorem opNotInD_ap (x y) : opNotInD x y = obind (inD x y) fun b => some (.d (.bool (!b))) := (rfl)
@[simp] theorem isLst_l (xs) : isLst (.list xs) = true := (rfl)
def kMeth3 (op : D → D → Option Rv) (r : Rv) (q : Rv × DSt) : Option (Rv × DSt) := (look q.2 r).bind (kOp2c op (look q.2 q.1) q.2)
def kMeth2 (op : D → D → Option Rv) (g : DE) (r : Rv) (s : DSt) (x0 : D) : Option (Rv × DSt) := if isLst x0 = true then (g s).bind (kMeth3 op r) else none
def kMeth (op : D → D → Option Rv) (g : DE) (p : Rv × DSt) : Option (Rv × DSt) := (look p.2 p.1).bind (kMeth2 op g p.1 p.2)
@[simp] theorem dMethL_ap (op f g) (st : DSt) : dMethL op f g st = obind (f st) (kMeth op g) := (rfl)
@[simp] theorem kMeth_ap (op g r) (s : DSt) : kMeth op g (r, s) = obind (look s r) (kMeth2 op g r s) := (rfl)
@[simp] theorem kMeth2_ap (op g r s x0) : kMeth2 op g r s x0 = if isLst x0 = true then obind (g s) (kMeth3 op r) else none := (rfl)
@[simp] theorem kMeth3_ap (op r r2) (s : DSt) : kMeth3 op r (r2, s) = obind (look s r) (kOp2c op (look s r2) s) := (rfl)
def kPop6 (x : D) (s : DSt) : Option (Rv × DSt) := some (.d x, s)
def kPop5 (i : Nat) (xs : List D) (n : Nat) (s : DSt) (x : D) : Option (Rv × DSt) := (putL s i (xs.eraseIdx n)).bind (kPop6 x)
def kPop4 (i : Nat) (xs : List D) (s : DSt) (n : Nat) : Option (Rv × DSt) := (xs[n]?).bind (kPop5 i xs n s)
def kPop3 (i : Nat) (j : Int) (s : DSt) (xs : List D) : Option (Rv × DSt) := (ixAt xs j).bind (kPop4 i xs s)
def kPop2 (i : Nat) (o : Option D) (s : DSt) : Option (Rv × DSt) := match o with
  | some (.int j) => if -(2 ^ 63) ≤ j ∧ j < 2 ^ 63 then (getL s i).bind (kPop3 i j s) else none
  | _ => none
def kPop1 (i : Nat) (r : Rv × DSt) : Option (Rv × DSt) := kPop2 i (look r.2 r.1) r.2
def kPop (i : Nat) (k : DE) (st : DSt) (_ : List D) : Option (Rv × DSt) := (k st).bind (kPop1 i)
@[simp] theorem dPop_ap (i k) (st : DSt) : dPop i k st = obind (getL st i) (kPop i k st) := (rfl)
@[simp] theorem kPop_ap (i k) (st : DSt) (xs) : kPop i k st xs = obind (k st) (kPop1 i) := (rfl)
@[simp] theorem kPop1_ap (i r) (s : DSt) : kPop1 i (r, s) = kPop2 i (look s r) s := (rfl)
@[simp] theorem kPop2_ap (i) (j : Int) (s : DSt) : kPop2 i (some (.int j)) s = if -(2 ^ 63) ≤ j ∧ j < 2 ^ 63 then obind (getL s i) (kPop3 i j s) else none := (rfl)
@[simp] theorem kPop3_ap (i j s xs) : kPop3 i j s xs = obind (ixAt xs j) (kPop4 i xs s) := (rfl)
@[simp] theorem kPop4_ap (i xs s n) : kPop4 i xs s n = obind (xs[n]?) (kPop5 i xs n s) := (rfl)
@[simp] theorem kPop5_ap (i xs n s x) : kPop5 i xs n s x = obind (putL s i (xs.eraseIdx n)) (kPop6 x) := (rfl)
@[simp] theorem kPop6_ap (x s) : kPop6 x s = some (.d x, s) := (rfl)
def kRmD4 (i : Nat) (xs : List D) (s : DSt) (j : Nat) : Option (Fl × DSt) := (putL s i (xs.eraseIdx j)).bind kNx
def kRmD3 (i : Nat) (x : D) (s : DSt) (xs : List D) : Option (Fl × DSt) := if flat x = true ∧ flat (.list xs) = true then (xs.findIdx? fun y => PyData.eqv y x).bind (kRmD4 i xs s) else none
def kRmD2 (i : Nat) (q : D × DSt) : Option (Fl × DSt) := (getL q.2 i).bind (kRmD3 i q.1 q.2)
def kRmD1 (i : Nat) (p : Rv × DSt) : Option (Fl × DSt) := (toD p.2 p.1).bind (kRmD2 i)
def kRmD (i : Nat) (f : DE) (st : DSt) (_ : List D) : Option (Fl × DSt) := (f st).bind (kRmD1 i)
@[simp] theorem dRemoveD_ap (i f) (st : DSt) : dRemoveD i f st = obind (getL st i) (kRmD i f st) := (rfl)
@[simp] theorem kRmD_ap (i f) (st : DSt) (xs) : kRmD i f st xs = obind (f st) (kRmD1 i) := (rfl)
@[simp] theorem kRmD1_ap (i r) (s : DSt) : kRmD1 i (r, s) = obind (toD s r) (kRmD2 i) := (rfl)
@[simp] theorem kRmD2_ap (i x) (s : DSt) : kRmD2 i (x, s) = obind (getL s i) (kRmD3 i x s) := (rfl)
@[simp] theorem kRmD3_ap (i x s xs) : kRmD3 i x s xs = if flat x = true ∧ flat (.list xs) = true then obind (xs.findIdx? fun y => PyData.eqv y x) (kRmD4 i xs s) else none := (rfl)
@[simp] theorem kRmD4_ap (i xs s j) : kRmD4 i xs s j = obind (putL s i (xs.eraseIdx j)) kNx := (rfl)
/-- a slot that is not lent -/
def nd : Option SV → Bool
  | some (.lent _) => false
  | _ => true
@[simp] theorem nd_none : nd none = true := rfl
@[simp] theorem nd_d (x) : nd (some (.d x)) = true := rfl
@[simp] theorem nd_own (x) : nd (some (.own x)) = true := rfl
theorem kSetS_nd {o : Option SV} (h : nd o = true) (st : DSt) (i : Nat) (v : SV) : kSetS o st i v = if i < st.length then some (st.set i (some v)) else none := by
  rcases o with _ | o
  · rfl
  · cases o with
    | d x => rfl
    | own x => rfl
    | lent x => cases h
end
end DL
end

section
set_option linter.all false
/-! DLwp: runs by what holds behind them; loops and comprehensions by invariants. -/
namespace DL
open PySem
/-- it goes on, and Q holds of what comes -/
def okP {α : Type} (o : Option α) (Q : α → Prop) : Prop := ∃ a, o = some a ∧ Q a
section
variable {α β : Type} {o : Option α} {Q R : α → Prop} {a : α} {k : α → Option β} {S : β → Prop}
theorem okP_some : okP (some a) Q ↔ Q a := by
  constructor
  · rintro ⟨_, h, q⟩
    cases h
    exact q
  · exact fun h => ⟨a, rfl, h⟩
theorem okP_obind : okP (obind o k) S ↔ okP o fun a => okP (k a) S := by
  cases o with
  | none =>
    constructor
    · rintro ⟨_, h, _⟩
      cases h
    · rintro ⟨_, h, _⟩
      cases h
  | some a => rw [okP_some]; exact Iff.rfl
theorem okP.mono (h : okP o Q) (hq : ∀ a, Q a → R a) : okP o R := let ⟨a, e, q⟩ := h; ⟨a, e, hq a q⟩
theorem okP.and (h : okP o Q) (h2 : okP o R) : okP o fun a => Q a ∧ R a := by
  obtain ⟨a, e, q⟩ := h
  obtain ⟨b, e2, r⟩ := h2
  rw [e] at e2
  cases e2
  exact ⟨a, e, q, r⟩
theorem okP_of (e : o = some a) (q : Q a) : okP o Q := ⟨a, e, q⟩
theorem okP.eq (h : okP o fun b => b = a) : o = some a := by
  obtain ⟨b, e, rfl⟩ := h
  exact e
end
section
variable {g : DG} {t : DT} {e : DE} {b : DS} {vs : List Nat}
/-- for x in xs: .. -/
theorem forGo_wp (I : Nat → DSt → Prop) {Q : Fl × DSt → Prop} : ∀ (xs : List D) (n : Nat) (st : DSt), I n st →
    (∀ i x s, xs[i]? = some x → I (n + i) s → okP (g x s) fun s1 => okP (b s1) fun p => (p.1 = .nx ∨ p.1 = .ct) ∧ I (n + i + 1) p.2) → (∀ s, I (n + xs.length) s → Q (.nx, s)) → okP (forGo g b xs st) Q
  | [], n, st, h0, _, hk => by
    rw [forGo_nil, okP_some]
    exact hk st h0
  | x :: xs, n, st, h0, hs, hk => by
    rw [forGo_cons, okP_obind]
    refine (hs 0 x st rfl h0).mono fun s1 h1 => ?_
    show okP (obind (b s1) (kForb g b xs)) Q
    rw [okP_obind]
    refine h1.mono fun p ⟨h2, h3⟩ => ?_
    have := forGo_wp I (Q := Q) xs (n + 1) p.2 h3 (fun i y s hy hi => by
      have := hs (i + 1) y s (by simpa using hy) (by rw [show n + (i + 1) = n + 1 + i by omega]; exact hi)
      rw [show n + (i + 1) + 1 = n + 1 + i + 1 by omega] at this
      exact this) (fun s h => hk s (by rw [List.length_cons, show n + (xs.length + 1) = n + 1 + xs.length by omega]; exact h))
    rcases p with ⟨p1, p2⟩
    rcases h2 with rfl | rfl
    · exact this
    · exact this
theorem for_wp (I : Nat → DSt → Prop) {Q : Fl × DSt → Prop} {xs : List D} {st : DSt} (h0 : I 0 st)
    (hs : ∀ i x s, xs[i]? = some x → I i s → okP (g x s) fun s1 => okP (b s1) fun p => (p.1 = .nx ∨ p.1 = .ct) ∧ I (i + 1) p.2) (hk : ∀ s, I xs.length s → Q (.nx, s)) : okP (forGo g b xs st) Q :=
  forGo_wp I xs 0 st h0 (fun i x s hx hi => by
    rw [Nat.zero_add] at hi ⊢
    exact hs i x s hx hi) (fun s h => hk s (by rw [Nat.zero_add] at h; exact h))
/-- [e for x in xs]: each turn gives one -/
theorem lcGo_wp (I : Nat → DSt → Prop) (P : Nat → D → Prop) : ∀ (xs : List D) (n : Nat) (st : DSt) {Q : List D × DSt → Prop}, I n st →
    (∀ i x s, xs[i]? = some x → I (n + i) s → okP (g x s) fun s1 => okP (t s1) fun p => p.1 = true ∧ okP (e p.2) fun q => okP (toD q.2 q.1) fun r => P (n + i) r.1 ∧ I (n + i + 1) (wipeD r.2 vs)) →
    (∀ ys s, ys.length = xs.length → (∀ i y, ys[i]? = some y → P (n + i) y) → I (n + xs.length) s → Q (ys, s)) → okP (lcGo g t e vs xs st) Q
  | [], n, st, Q, h0, _, hk => by
    rw [lcGo_nil, okP_some]
    exact hk [] st rfl (fun i y h => by simp at h) h0
  | x :: xs, n, st, Q, h0, hs, hk => by
    rw [lcGo_cons, okP_obind]
    refine (hs 0 x st rfl h0).mono fun s1 h1 => ?_
    show okP (obind (t s1) (kLcTurnT g t e vs xs)) Q
    rw [okP_obind]
    refine h1.mono fun p ⟨h2, h3⟩ => ?_
    rcases p with ⟨p1, p2⟩
    subst h2
    show okP (obind (e p2) (kLcTurnD g t e vs xs)) Q
    rw [okP_obind]
    refine h3.mono fun q h4 => ?_
    rcases q with ⟨q1, q2⟩
    show okP (obind (toD q2 q1) (kLcTurnE g t e vs xs)) Q
    rw [okP_obind]
    refine h4.mono fun r ⟨h5, h6⟩ => ?_
    rcases r with ⟨r1, r2⟩
    show okP (obind (lcGo g t e vs xs (wipeD r2 vs)) (kPush r1)) Q
    rw [okP_obind]
    refine lcGo_wp I P xs (n + 1) (wipeD r2 vs) h6 (fun i y s hy hi => ?_) fun ys s l hp hi => ?_
    · have := hs (i + 1) y s (by simpa using hy) (by rw [show n + (i + 1) = n + 1 + i by omega]; exact hi)
      rw [show n + (i + 1) + 1 = n + 1 + i + 1 by omega, show n + (i + 1) = n + 1 + i by omega] at this
      exact this
    · show okP (some (r1 :: ys, s)) Q
      rw [okP_some]
      refine hk _ _ (by simp [l]) (fun i y hy => ?_) (by rw [List.length_cons, show n + (xs.length + 1) = n + 1 + xs.length by omega]; exact hi)
      cases i with
      | zero =>
        simp at hy
        subst hy
        exact h5
      | succ i =>
        rw [show n + (i + 1) = n + 1 + i by omega]
        exact hp i y (by simpa using hy)
theorem lc_wp (I : Nat → DSt → Prop) (P : Nat → D → Prop) {xs : List D} {st : DSt} {Q : List D × DSt → Prop} (h0 : I 0 st)
    (hs : ∀ i x s, xs[i]? = some x → I i s → okP (g x s) fun s1 => okP (t s1) fun p => p.1 = true ∧ okP (e p.2) fun q => okP (toD q.2 q.1) fun r => P i r.1 ∧ I (i + 1) (wipeD r.2 vs))
    (hk : ∀ ys s, ys.length = xs.length → (∀ i y, ys[i]? = some y → P i y) → I xs.length s → Q (ys, s)) : okP (lcGo g t e vs xs st) Q :=
  lcGo_wp I P xs 0 st h0 (fun i x s hx hi => by
    rw [Nat.zero_add] at hi ⊢
    exact hs i x s hx hi) (fun ys s l hp h => hk ys s l (fun i y hy => by
      have := hp i y hy
      rw [Nat.zero_add] at this
      exact this) (by rw [Nat.zero_add] at h; exact h))
/-- [e for x in xs if t]: nothing but the block's own slots is touched -/
theorem lc_map (f : D → Option D) : ∀ {xs : List D} {st : DSt}, (∀ x ∈ xs, okP (g x st) fun s1 => okP (t s1) fun p => (p.1 = false ∧ f x = none ∧ wipeD p.2 vs = st) ∨ (p.1 = true ∧ okP (e p.2) fun q => okP (toD q.2 q.1) fun r => f x = some r.1 ∧ wipeD r.2 vs = st)) →
    lcGo g t e vs xs st = some (xs.filterMap f, st)
  | [], st, _ => by rw [lcGo_nil, List.filterMap_nil]
  | x :: xs, st, h => by
    have ih := lc_map f (xs := xs) (st := st) fun y hy => h y (List.mem_cons_of_mem _ hy)
    obtain ⟨s1, e1, ⟨p1, p2⟩, e2, h2⟩ := h x List.mem_cons_self
    rw [lcGo_cons, e1, List.filterMap_cons]
    show obind (t s1) (kLcTurnT g t e vs xs) = _
    rw [e2]
    rcases h2 with ⟨h3, h4, h5⟩ | ⟨h3, ⟨q1, q2⟩, e3, ⟨r1, r2⟩, e4, h4, h5⟩
    · subst h3
      have h5 : wipeD p2 vs = st := h5
      show lcGo g t e vs xs (wipeD p2 vs) = _
      rw [h5, ih, h4]
    · subst h3
      show obind (e p2) (kLcTurnD g t e vs xs) = _
      have e3 : e p2 = some (q1, q2) := e3
      rw [e3]
      show obind (toD q2 q1) (kLcTurnE g t e vs xs) = _
      have e4 : toD q2 q1 = some (r1, r2) := e4
      rw [e4]
      show obind (lcGo g t e vs xs (wipeD r2 vs)) (kPush r1) = _
      have h5 : wipeD r2 vs = st := h5
      rw [h5, ih, h4]
      rfl
end
/-- range(n) of a small n -/
theorem range_ok {t : Nat} (ht : t < 1000000) : iRange1 [.int (t : Nat)] = some ((List.range t).map fun i => .int (i : Nat)) := by
  have ht' : (t : Int) < 4611686018427387904 := by omega
  have ht2 : (-4611686018427387904 : Int) ≤ t := by omega
  simp [ht', ht2]
theorem opNe_same (z : Str) : opNe (.str z) (.str z) = some (.d (.bool false)) := by simp [opNe, flat, PyData.plain, PyData.depth, PyData.eqv]
end DL
end

section
set_option linter.all false
/-! DLtame: data that is not great: what repr asks; depth and bulk of data that is put together. -/
namespace DL
open PySem
abbrev N (n : Nat) : D := .int (n : Int)
def Sm (k a : Nat) : Prop := a < 2 ^ k
theorem sm_of {a : Nat} (k : Nat) (h : a < 2 ^ k) : Sm k a := h
theorem Sm.mono {j k a : Nat} (h : Sm j a) (hjk : j ≤ k) : Sm k a := Nat.lt_of_lt_of_le h (Nat.pow_le_pow_right (by decide) hjk)
theorem Sm.le {k a b : Nat} (h : Sm k b) (hab : a ≤ b) : Sm k a := Nat.lt_of_le_of_lt hab h
theorem Sm.mul {j k a b : Nat} (h : Sm j a) (h' : Sm k b) : Sm (j + k) (a * b) := by
  unfold Sm at *
  rw [Nat.pow_add]
  exact Nat.mul_lt_mul_of_lt_of_le h (Nat.le_of_lt h') (Nat.two_pow_pos k)
theorem Sm.add {k a b : Nat} (h : Sm k a) (h' : Sm k b) : Sm (k + 1) (a + b) := by
  unfold Sm at *
  rw [Nat.pow_succ]
  omega
theorem Sm.log {k a : Nat} (h : Sm k a) : a.log2 ≤ k := by
  by_cases h0 : a = 0
  · subst h0; simp
  · exact Nat.le_of_lt ((Nat.log2_lt h0).2 h)
mutual
def tame : D → Bool
  | .none => true
  | .bool _ => true
  | .int i => decide (i.natAbs ≤ 10000000000000000000000000000000000000000)
  | .str z => z.cps.toList.all fun c => decide (c < 16 ^ 8)
  | .list xs => tameAll xs
  | .tuple xs => tameAll xs
  | .dict _ => false
def tameAll : List D → Bool
  | [] => true
  | x :: r => tame x && tameAll r
end
theorem short_int {i : Int} (h : i.natAbs ≤ 10000000000000000000000000000000000000000) : i.natAbs.log2 < 190 ∧ (PyData.shown (.int i)).length ≤ 200 := by
  have h1 : i.natAbs.log2 ≤ 140 := (sm_of 140 (Nat.lt_of_le_of_lt h (by decide))).log
  have h2 : i.natAbs.log2 < 190 := by omega
  refine ⟨h2, ?_⟩
  show (Str.ofString (toString i)).length ≤ 200
  have e := int_text_length_le (a := i) (k := 190) (by decide) h2
  rw [ofString_length]
  omega
mutual
theorem tame_ok : ∀ x : D, tame x = true → x.hasDict = false ∧ x.showable = true ∧ x.leavesShort 200 = true
  | .none, _ => by simp [PyData.hasDict, PyData.showable, PyData.leavesShort]
  | .bool _, _ => by simp [PyData.hasDict, PyData.showable, PyData.leavesShort]
  | .int i, h => by
    obtain ⟨h1, h2⟩ := short_int (i := i) (by simpa [tame] using h)
    have h3 : i.natAbs.log2 < 1920 := by omega
    simp [PyData.hasDict, PyData.showable, PyData.leavesShort, h2, h3]
  | .str z, h => by
    simp only [tame] at h
    simp only [PyData.hasDict, PyData.showable, PyData.leavesShort]
    exact ⟨trivial, trivial, h⟩
  | .list xs, h => by
    obtain ⟨a, b, c⟩ := tame_okAll xs (by simpa [tame] using h)
    simp [PyData.hasDict, PyData.showable, PyData.leavesShort, a, b, c]
  | .tuple xs, h => by
    obtain ⟨a, b, c⟩ := tame_okAll xs (by simpa [tame] using h)
    simp [PyData.hasDict, PyData.showable, PyData.leavesShort, a, b, c]
  | .dict k, h => by simp [tame] at h
theorem tame_okAll : ∀ xs : List D, tameAll xs = true → PyData.hasDictAll xs = false ∧ PyData.showableAll xs = true ∧ PyData.leavesShortAll 200 xs = true
  | [], _ => by simp [PyData.hasDictAll, PyData.showableAll, PyData.leavesShortAll]
  | x :: r, h => by
    simp only [tameAll, Bool.and_eq_true] at h
    obtain ⟨a, b, c⟩ := tame_ok x h.1
    obtain ⟨d, e, f⟩ := tame_okAll r h.2
    simp [PyData.hasDictAll, PyData.showableAll, PyData.leavesShortAll, a, b, c, d, e, f]
end
theorem bulk_len : ∀ xs : List D, xs.length ≤ PyData.bulkAll xs
  | [] => Nat.zero_le _
  | x :: r => by
    have := bulk_len r
    simp only [PyData.bulkAll, List.length_cons]
    omega
theorem mem_of : ∀ (xs : List D) (y : D), y ∈ xs → tameAll xs = true → tame y = true ∧ y.depth ≤ PyData.depthAll xs ∧ y.bulk ≤ PyData.bulkAll xs
  | x :: r, y, hy, h => by
    simp only [tameAll, Bool.and_eq_true] at h
    simp only [PyData.depthAll, PyData.bulkAll]
    rcases List.mem_cons.mp hy with rfl | hy
    · exact ⟨h.1, by omega, by omega⟩
    · obtain ⟨a, b, c⟩ := mem_of r y hy h.2
      exact ⟨a, by omega, by omega⟩
theorem repr_of (x : D) (h : tame x = true) (hd : x.depth ≤ 40) (hb : x.bulk ≤ 1000) : bRepr [x] = some (.d (.str x.shown)) := by
  obtain ⟨a, b, c⟩ := tame_ok x h
  have e := PyData.shown_le_bulk 200 (by decide) x c
  show (if _ then _ else _) = _
  rw [if_pos]
  refine ⟨a, b, hd, ?_⟩
  rw [DL.sizeLine_eq]
  have : (200 + 2) * x.bulk ≤ 202 * 1000 := Nat.mul_le_mul (by decide) hb
  omega
structure Vv (n k : Nat) (y : D) : Prop where
  t : tame y = true
  d : y.depth ≤ n
  b : y.bulk ≤ k
theorem Vv.mono {n k n' k' : Nat} {y : D} (h : Vv n k y) (hn : n ≤ n') (hk : k ≤ k') : Vv n' k' y := ⟨h.t, Nat.le_trans h.d hn, Nat.le_trans h.b hk⟩
theorem vv_all {n k : Nat} : ∀ xs : List D, (∀ y ∈ xs, Vv n k y) → tameAll xs = true ∧ PyData.depthAll xs ≤ n ∧ PyData.bulkAll xs ≤ xs.length * (k + 1)
  | [], _ => by simp [tameAll, PyData.depthAll, PyData.bulkAll]
  | x :: r, h => by
    obtain ⟨a, b, c⟩ := vv_all r fun y hy => h y (by simp [hy])
    have hx := h x (by simp)
    refine ⟨by simp [tameAll, a, hx.t], ?_, ?_⟩
    · have := hx.d
      simp only [PyData.depthAll]
      omega
    · have := hx.b
      simp only [PyData.bulkAll, List.length_cons, Nat.add_mul, Nat.one_mul]
      omega
theorem vv_list {n k w : Nat} {xs : List D} (h : ∀ y ∈ xs, Vv n k y) (hw : xs.length ≤ w) : Vv (n + 1) (w * (k + 1)) (.list xs) := by
  obtain ⟨a, b, c⟩ := vv_all xs h
  exact ⟨by simpa [tame] using a, by simp [PyData.depth]; omega, Nat.le_trans (by simpa [PyData.bulk] using c) (Nat.mul_le_mul_right _ hw)⟩
theorem vv_tuple {n k w : Nat} {xs : List D} (h : ∀ y ∈ xs, Vv n k y) (hw : xs.length ≤ w) : Vv (n + 1) (w * (k + 1)) (.tuple xs) := by
  obtain ⟨a, b, c⟩ := vv_all xs h
  exact ⟨by simpa [tame] using a, by simp [PyData.depth]; omega, Nat.le_trans (by simpa [PyData.bulk] using c) (Nat.mul_le_mul_right _ hw)⟩
theorem vv_none : Vv 0 0 .none := ⟨rfl, by simp [PyData.depth], by simp [PyData.bulk]⟩
theorem vv_bool (b) : Vv 0 0 (.bool b) := ⟨rfl, by simp [PyData.depth], by simp [PyData.bulk]⟩
theorem vv_int {i : Int} (h : i.natAbs ≤ 1000) : Vv 0 0 (.int i) := ⟨by simp [tame]; omega, by simp [PyData.depth], by simp [PyData.bulk]⟩
theorem mem_cut {xs : List D} {lo hi : Option Int} {y : D} (h : y ∈ cutD xs lo hi) : y ∈ xs := List.mem_of_mem_drop (List.mem_of_mem_take h)
theorem len_cut (xs : List D) (lo hi : Option Int) : (cutD xs lo hi).length ≤ xs.length := by
  unfold cutD
  rw [List.length_take, List.length_drop]
  omega
/-- small things, one or none deep -/
def At (y : D) : Prop := Vv 0 1 y
theorem at_list {xs : List D} (h : ∀ y ∈ xs, At y) (hl : xs.length ≤ 20) : Vv 1 40 (.list xs) := vv_list (n := 0) (k := 1) (w := 20) h hl
theorem at_tuple {xs : List D} (h : ∀ y ∈ xs, At y) (hl : xs.length ≤ 20) : Vv 1 40 (.tuple xs) := vv_tuple (n := 0) (k := 1) (w := 20) h hl
theorem at_N {k : Nat} (h : k ≤ 1000) : At (N k) := (vv_int (by omega)).mono (by decide) (by decide)
theorem at_int {i : Int} (h : i.natAbs ≤ 1000) : At (.int i) := (vv_int h).mono (by decide) (by decide)
theorem at_none : At .none := vv_none.mono (by decide) (by decide)
theorem at_bool (b) : At (.bool b) := (vv_bool b).mono (by decide) (by decide)
theorem at_one : At (.str (Str.ofString "1")) := ⟨by decide +kernel, by simp [PyData.depth], by show (Str.ofString "1").cps.size ≤ 1; decide +kernel⟩
theorem at_nought : At (.str (Str.ofString "0")) := ⟨by decide +kernel, by simp [PyData.depth], by show (Str.ofString "0").cps.size ≤ 1; decide +kernel⟩
theorem tame_app : ∀ xs ys : List D, tameAll (xs ++ ys) = (tameAll xs && tameAll ys)
  | [], ys => by simp [tameAll]
  | x :: r, ys => by simp [tameAll, tame_app r ys, Bool.and_assoc]
theorem depth_app : ∀ xs ys : List D, PyData.depthAll (xs ++ ys) = max (PyData.depthAll xs) (PyData.depthAll ys)
  | [], ys => by simp [PyData.depthAll]
  | x :: r, ys => by simp [PyData.depthAll, depth_app r ys, Nat.max_assoc]
theorem bulk_app : ∀ xs ys : List D, PyData.bulkAll (xs ++ ys) = PyData.bulkAll xs + PyData.bulkAll ys
  | [], ys => by simp [PyData.bulkAll]
  | x :: r, ys => by simp [PyData.bulkAll, bulk_app r ys]; omega
structure VL (n k : Nat) (xs : List D) : Prop where
  t : tameAll xs = true
  d : PyData.depthAll xs ≤ n
  b : PyData.bulkAll xs ≤ k
theorem VL.mono {n k n' k' : Nat} {y : List D} (h : VL n k y) (hn : n ≤ n') (hk : k ≤ k') : VL n' k' y := ⟨h.t, Nat.le_trans h.d hn, Nat.le_trans h.b hk⟩
theorem vl_take {n k : Nat} {xs : List D} (i : Nat) (h : VL n k xs) : VL n k (xs.take i) := by
  have e := List.take_append_drop i xs
  obtain ⟨a, b, c⟩ := h
  rw [← e, tame_app, Bool.and_eq_true] at a
  rw [← e, depth_app] at b
  rw [← e, bulk_app] at c
  exact ⟨a.1, by omega, by omega⟩
theorem vl_drop {n k : Nat} {xs : List D} (i : Nat) (h : VL n k xs) : VL n k (xs.drop i) := by
  have e := List.take_append_drop i xs
  obtain ⟨a, b, c⟩ := h
  rw [← e, tame_app, Bool.and_eq_true] at a
  rw [← e, depth_app] at b
  rw [← e, bulk_app] at c
  exact ⟨a.2, by omega, by omega⟩
theorem vl_cut {n k : Nat} {xs : List D} (lo hi : Option Int) (h : VL n k xs) : VL n k (cutD xs lo hi) := vl_take _ (vl_drop _ h)
theorem vl_of {n k w : Nat} {xs : List D} (h : ∀ y ∈ xs, Vv n k y) (hl : xs.length ≤ w) : VL n (w * (k + 1)) xs := by
  obtain ⟨a, b, c⟩ := vv_all xs h
  exact ⟨a, b, Nat.le_trans c (Nat.mul_le_mul_right _ hl)⟩
theorem vv_mk {n k : Nat} {x : D} (t : tame x = true) (d : x.depth ≤ n) (b : x.bulk ≤ k) : Vv n k x := ⟨t, d, b⟩
theorem tame_tup (xs : List D) : tame (.tuple xs) = tameAll xs := by rw [tame]
theorem tame_lst (xs : List D) : tame (.list xs) = tameAll xs := by rw [tame]
theorem tame_non : tame .none = true := by rw [tame]
theorem tame_bl (b) : tame (.bool b) = true := by rw [tame]
theorem tame_i {i : Int} (h : i.natAbs ≤ 1000) : tame (.int i) = true := (vv_int h).t
theorem tame_nil : tameAll [] = true := by rw [tameAll]
theorem tame_cons (x : D) (r : List D) : tameAll (x :: r) = (tame x && tameAll r) := by rw [tameAll]
theorem tame_N {k : Nat} (h : k ≤ 1000) : tame (.int (k : Nat)) = true := (vv_int (by omega)).t
theorem drop1 (t : List D) : cutD t (some 1) none = t.drop 1 := by
  cases t with
  | nil => rfl
  | cons x r =>
    have e : cutAt (x :: r).length 0 (some 1) = 1 := by
      show (if (1 : Int) < 0 then ((1 : Int) + ((x :: r).length : Int)).toNat else min (1 : Int).toNat (x :: r).length) = 1
      rw [if_neg (by decide), List.length_cons]
      show min 1 (r.length + 1) = 1
      omega
    show ((x :: r).drop (cutAt (x :: r).length 0 (some 1))).take ((x :: r).length - cutAt (x :: r).length 0 (some 1)) = _
    rw [e]
    simp
end DL
end

section
set_option linter.all false
namespace P
open PySem DL
noncomputable def g_is_count : DS := dRet (dAndV (dOp1 (bIsi "int") (dVar 0)) (dAndV (dNotV (dOp1 (bIsi "bool") (dVar 0))) (dOp2 opGe (dVar 0) (dVar 1))))
noncomputable def m_is_count : Fn := run 2 g_is_count
noncomputable def g_divisor : DS := dSeq (dWhile (dTest (dOp2 opNe (dVar 1) (dC (.int 0)))) (dPar [0, 1] (dCons (dVar 1) (dCons (dOp2 opMod (dVar 0) (dVar 1)) (dNil))))) (dRet (dVar 0))
noncomputable def m_divisor : Fn := run 2 g_divisor
noncomputable def g_by_lowest : DS := dSeq (dSet 2 (dCall m_divisor [false, false] [] (dCons (dVar 0) (dCons (dVar 1) (dNil))))) (dRet (dTup (dCons (dOp2 opDiv (dVar 0) (dVar 2)) (dCons (dOp2 opDiv (dVar 1) (dVar 2)) (dNil)))))
noncomputable def m_by_lowest : Fn := run 3 g_by_lowest
noncomputable def g_put_together : DS := dRet (dCall m_by_lowest [false, false] [] (dCons (dOp2 opAdd (dOp2 opMul (dOp2 opIx (dVar 0) (dC (.int 0))) (dOp2 opIx (dVar 1) (dC (.int 1)))) (dOp2 opMul (dOp2 opIx (dVar 1) (dC (.int 0))) (dOp2 opIx (dVar 0) (dC (.int 1))))) (dCons (dOp2 opMul (dOp2 opIx (dVar 0) (dC (.int 1))) (dOp2 opIx (dVar 1) (dC (.int 1)))) (dNil))))
noncomputable def m_put_together : Fn := run 2 g_put_together
noncomputable def g_is_below : DS := dRet (dOp2 opLt (dOp2 opMul (dOp2 opIx (dVar 0) (dC (.int 0))) (dOp2 opIx (dVar 1) (dC (.int 1)))) (dOp2 opMul (dOp2 opIx (dVar 1) (dC (.int 0))) (dOp2 opIx (dVar 0) (dC (.int 1)))))
noncomputable def m_is_below : Fn := run 2 g_is_below
noncomputable def g_times : DS := dRet (dCall m_by_lowest [false, false] [] (dCons (dOp2 opMul (dOp2 opIx (dVar 0) (dC (.int 0))) (dOp2 opIx (dVar 1) (dC (.int 0)))) (dCons (dOp2 opMul (dOp2 opIx (dVar 0) (dC (.int 1))) (dOp2 opIx (dVar 1) (dC (.int 1)))) (dNil))))
noncomputable def m_times : Fn := run 2 g_times
noncomputable def g_total : DS := dSeq (dSet 1 (dTup (dCons (dC (.int 0)) (dCons (dC (.int 1)) (dNil))))) (dSeq (dFor (dIter DL.iSeq (dVar 0)) (DL.gName 2) (dSet 1 (dCall m_put_together [false, false] [] (dCons (dVar 1) (dCons (dVar 2) (dNil)))))) (dRet (dVar 1)))
noncomputable def m_total : Fn := run 3 g_total
noncomputable def g_taken_off : DS := dRet (dCall m_by_lowest [false, false] [] (dCons (dOp2 opSub (dOp2 opMul (dOp2 opIx (dVar 0) (dC (.int 0))) (dOp2 opIx (dVar 1) (dC (.int 1)))) (dOp2 opMul (dOp2 opIx (dVar 1) (dC (.int 0))) (dOp2 opIx (dVar 0) (dC (.int 1))))) (dCons (dOp2 opMul (dOp2 opIx (dVar 0) (dC (.int 1))) (dOp2 opIx (dVar 1) (dC (.int 1)))) (dNil))))
noncomputable def m_taken_off : Fn := run 2 g_taken_off
noncomputable def g_are_counts : DS := dRet (dAndV (dOp1 (bIsi "list") (dVar 0)) (dCallB bAll (dCons (dLc (dIter DL.iSeq (dVar 0)) (DL.gName 1) (dTests) (dCall m_is_count [false] [PyData.int 0] (dCons (dVar 1) (dNil))) [1]) (dNil))))
noncomputable def m_are_counts : Fn := run 2 g_are_counts
noncomputable def g_is_table : DS := dRet (dAndV (dCall m_are_counts [false] [] (dCons (dVar 0) (dNil))) (dOp2 opGt (dCallB bSum (dCons (dVar 0) (dNil))) (dC (.int 0))))
noncomputable def m_is_table : Fn := run 1 g_is_table
noncomputable def g_look_at_table : DS := dIfS (dNot (dTest (dCall m_is_table [false] [] (dCons (dVar 0) (dNil))))) (dNever) (dNext)
noncomputable def m_look_at_table : Fn := run 1 g_look_at_table
noncomputable def g_look_at_two : DS := dSeq (dDrop (dCall m_look_at_table [false] [] (dCons (dVar 0) (dNil)))) (dIfS (dOr (dNot (dTest (dCall m_is_table [false] [] (dCons (dVar 1) (dNil))))) (dTest (dOp2 opNe (dCallB bLen (dCons (dVar 1) (dNil))) (dCallB bLen (dCons (dVar 0) (dNil)))))) (dNever) (dNext))
noncomputable def m_look_at_two : Fn := run 2 g_look_at_two
noncomputable def g_odds_in : DS := dRet (dLc (dIter DL.iSeq (dVar 0)) (DL.gName 1) (dTests) (dCall m_by_lowest [false, false] [] (dCons (dVar 1) (dCons (dCallB bSum (dCons (dVar 0) (dNil))) (dNil)))) [1])
noncomputable def m_odds_in : Fn := run 2 g_odds_in
noncomputable def g_lowered : DS := dSeq (dSet 1 (dC (.int 0))) (dSeq (dFor (dIter DL.iSeq (dVar 0)) (DL.gName 2) (dSet 1 (dCall m_divisor [false, false] [] (dCons (dVar 1) (dCons (dVar 2) (dNil)))))) (dRet (dLc (dIter DL.iSeq (dVar 0)) (DL.gName 2) (dTests) (dOp2 opDiv (dVar 2) (dVar 1)) [2])))
noncomputable def m_lowered : Fn := run 3 g_lowered
noncomputable def g_lowest : DS := dSeq (dDrop (dCall m_look_at_table [false] [] (dCons (dVar 0) (dNil)))) (dRet (dCall m_lowered [false] [] (dCons (dVar 0) (dNil))))
noncomputable def m_lowest : Fn := run 1 g_lowest
noncomputable def g_like : DS := dSeq (dDrop (dCall m_look_at_table [false] [] (dCons (dVar 0) (dNil)))) (dSeq (dDrop (dCall m_look_at_table [false] [] (dCons (dVar 1) (dNil)))) (dRet (dOp2 opEq (dCall m_lowered [false] [] (dCons (dVar 0) (dNil))) (dCall m_lowered [false] [] (dCons (dVar 1) (dNil))))))
noncomputable def m_like : Fn := run 2 g_like
noncomputable def g__law_divisor : DS := dSeq (dWhile (dTest (dOp2 opNe (dVar 1) (dC (.int 0)))) (dPar [0, 1] (dCons (dVar 1) (dCons (dOp2 opMod (dVar 0) (dVar 1)) (dNil))))) (dRet (dVar 0))
noncomputable def m__law_divisor : Fn := run 2 g__law_divisor
noncomputable def g__law_draw : DS := dSeq (dIfS (dAnd (dTest (dOp2 opLt (dOp2 opIx (dVar 0) (dC (.int 2))) (dVar 1))) (dTest (dOp2 opLt (dOp2 opIx (dVar 0) (dC (.int 1))) (dCallB bLen (dCons (dOp2 opIx (dVar 0) (dC (.int 0))) (dNil)))))) (dSeq (dSetIx 0 (dC (.int 2)) (dOp2 opIx (dOp2 opIx (dVar 0) (dC (.int 0))) (dOp2 opIx (dVar 0) (dC (.int 1))))) (dAugIx opAddI 0 (dC (.int 1)) (dC (.int 1)))) (dNext)) (dSeq (dIfS (dTest (dOp2 opGe (dOp2 opIx (dVar 0) (dC (.int 2))) (dVar 1))) (dSeq (dSet 2 (dOp2 opMod (dCallB bInt (dCons (dOp2 opIx (dVar 0) (dC (.int 2))) (dNil))) (dVar 1))) (dSeq (dSetIx 0 (dC (.int 2)) (dOp2 opDiv (dOp2 opIx (dVar 0) (dC (.int 2))) (dVar 1))) (dRet (dVar 2)))) (dNext)) (dSeq (dAugIx opAddI 0 (dC (.int 3)) (dC (.int 1))) (dSeq (dSet 3 (dOp2 opMod (dCallB bInt (dCons (dOp2 opMul (dOp2 opAdd (dOp2 opMul (dOp2 opIx (dVar 0) (dC (.int 3))) (dOp2 opIx (dVar 0) (dC (.int 3)))) (dOp2 opIx (dVar 0) (dC (.int 4)))) (dC (.int 48271))) (dNil))) (dC (.int 2147483629)))) (dRet (dOp2 opMod (dCallB bInt (dCons (dOp2 opMod (dCallB bInt (dCons (dOp2 opMul (dVar 3) (dVar 3)) (dNil))) (dC (.int 2147483587))) (dNil))) (dVar 1))))))
noncomputable def m__law_draw : Fn := run 4 g__law_draw
noncomputable def g__law_by : DS := dSeq (dSet 2 (dCall m__law_divisor [false, false] [] (dCons (dVar 0) (dCons (dVar 1) (dNil))))) (dRet (dTup (dCons (dOp2 opDiv (dVar 0) (dVar 2)) (dCons (dOp2 opDiv (dVar 1) (dVar 2)) (dNil)))))
noncomputable def m__law_by : Fn := run 3 g__law_by
noncomputable def g__law_odds_in : DS := dRet (dLc (dIter DL.iSeq (dVar 0)) (DL.gName 1) (dTests) (dCall m__law_by [false, false] [] (dCons (dVar 1) (dCons (dCallB bSum (dCons (dVar 0) (dNil))) (dNil)))) [1])
noncomputable def m__law_odds_in : Fn := run 2 g__law_odds_in
noncomputable def g__law_same (self : Fn) : DS := dSeq (dIfS (dTest (dOp2 opIs (dVar 1) (dC .none))) (dRet (dOp2 opIs (dVar 0) (dC .none))) (dNext)) (dSeq (dIfS (dTest (dOp2 opIs (dVar 1) (dC (.bool true)))) (dRet (dOp2 opIs (dVar 0) (dC (.bool true)))) (dNext)) (dSeq (dIfS (dTest (dOp2 opIs (dVar 1) (dC (.bool false)))) (dRet (dOp2 opIs (dVar 0) (dC (.bool false)))) (dNext)) (dSeq (dIfS (dTest (dOp1 (bIsi2 "list" "tuple") (dVar 1))) (dSeq (dSet 2 (dIf (dTest (dOp1 (bIsi "list") (dVar 1))) (dOp1 (bIsi "list") (dVar 0)) (dOp1 (bIsi "tuple") (dVar 0)))) (dRet (dAndV (dVar 2) (dAndV (dOp2 opEq (dCallB bLen (dCons (dVar 0) (dNil))) (dCallB bLen (dCons (dVar 1) (dNil)))) (dCallB bAll (dCons (dLc (dIterA DL.iZip (dCons (dVar 0) (dCons (dVar 1) (dNil)))) (DL.gTup 2 (DL.gCons (DL.gName 3) (DL.gCons (DL.gName 4) (DL.gNil)))) (dTests) (dCall self [false, false] [] (dCons (dVar 3) (dCons (dVar 4) (dNil)))) [3, 4]) (dNil))))))) (dNext)) (dSeq (dIfS (dTest (dOp1 (bIsi "int") (dVar 1))) (dRet (dAndV (dOp1 (bIsi "int") (dVar 0)) (dAndV (dNotV (dOp1 (bIsi "bool") (dVar 0))) (dOp2 opEq (dVar 0) (dVar 1))))) (dNext)) (dRet (dAndV (dOp1 (bIsi "str") (dVar 0)) (dOp2 opEq (dVar 0) (dVar 1))))))))
noncomputable def m__law_same : Nat → Fn
  | 0 => fun _ => none
  | n + 1 => run 5 (g__law_same (m__law_same n))
noncomputable def g__law_plus : DS := dRet (dCall m__law_by [false, false] [] (dCons (dOp2 opAdd (dOp2 opMul (dOp2 opIx (dVar 0) (dC (.int 0))) (dOp2 opIx (dVar 1) (dC (.int 1)))) (dOp2 opMul (dOp2 opIx (dVar 1) (dC (.int 0))) (dOp2 opIx (dVar 0) (dC (.int 1))))) (dCons (dOp2 opMul (dOp2 opIx (dVar 0) (dC (.int 1))) (dOp2 opIx (dVar 1) (dC (.int 1)))) (dNil))))
noncomputable def m__law_plus : Fn := run 2 g__law_plus
noncomputable def g__law_sum : DS := dSeq (dSet 1 (dTup (dCons (dC (.int 0)) (dCons (dC (.int 1)) (dNil))))) (dSeq (dFor (dIter DL.iSeq (dVar 0)) (DL.gName 2) (dSet 1 (dCall m__law_plus [false, false] [] (dCons (dVar 1) (dCons (dVar 2) (dNil)))))) (dRet (dVar 1)))
noncomputable def m__law_sum : Fn := run 3 g__law_sum
noncomputable def g__law_less : DS := dRet (dOp2 opLt (dOp2 opMul (dOp2 opIx (dVar 0) (dC (.int 0))) (dOp2 opIx (dVar 1) (dC (.int 1)))) (dOp2 opMul (dOp2 opIx (dVar 1) (dC (.int 0))) (dOp2 opIx (dVar 0) (dC (.int 1)))))
noncomputable def m__law_less : Fn := run 2 g__law_less
noncomputable def g__law_pick : DS := dRet (dOp2 opIx (dVar 1) (dCall m__law_draw [true, false] [] (dCons (dVar 0) (dCons (dCallB bLen (dCons (dVar 1) (dNil))) (dNil)))))
noncomputable def m__law_pick : Fn := run 2 g__law_pick
noncomputable def g__law_times : DS := dRet (dCall m__law_by [false, false] [] (dCons (dOp2 opMul (dOp2 opIx (dVar 0) (dC (.int 0))) (dOp2 opIx (dVar 1) (dC (.int 0)))) (dCons (dOp2 opMul (dOp2 opIx (dVar 0) (dC (.int 1))) (dOp2 opIx (dVar 1) (dC (.int 1)))) (dNil))))
noncomputable def m__law_times : Fn := run 2 g__law_times
noncomputable def g__law_purse : DS := dSeq (dSet 1 (dC (.int 7))) (dSeq (dFor (dIter DL.iSeq (dSlice opSlice (dVar 0) (dNoPart) (dPart (dC (.int 63))))) (DL.gName 2) (dSet 1 (dOp2 opMod (dCallB bInt (dCons (dOp2 opAdd (dOp2 opMul (dVar 1) (dC (.int 31))) (dVar 2)) (dNil))) (dC (.int 2147483647))))) (dRet (dList (dCons (dLc (dIter DL.iSeq (dSlice opSlice (dVar 0) (dNoPart) (dPart (dC (.int 63))))) (DL.gName 2) (dTest (dOp2 opGe (dVar 2) (dOp2 opPow (dC (.int 10)) (dC (.int 18))))) (dVar 2) [2]) (dCons (dC (.int 0)) (dCons (dC (.int 0)) (dCons (dC (.int 0)) (dCons (dVar 1) (dNil)))))))))
noncomputable def m__law_purse : Fn := run 3 g__law_purse
end P
end

section
set_option linter.all false
namespace P
open PySem DL
/-! ## whole numbers -/
theorem divisor_while : ∀ (b a : Nat), ∃ n, whileN (dTest (dOp2 opNe (dVar 1) (dC (.int 0)))) (dPar [0, 1] (dCons (dVar 1) (dCons (dOp2 opMod (dVar 0) (dVar 1)) (dNil)))) n [some (.d (N a)), some (.d (N b))] = some (.nx, [some (.d (N (Nat.gcd a b))), some (.d (N 0))]) := by
  intro b
  induction b using Nat.strongRecOn with
  | ind b ih =>
    intro a
    cases b with
    | zero =>
      refine ⟨1, ?_⟩
      rw [whileN_end (by simp)]
      simp
    | succ b =>
      obtain ⟨n, hn⟩ := ih (a % (b + 1)) (Nat.mod_lt _ (Nat.succ_pos b)) (b + 1)
      refine ⟨n + 1, ?_⟩
      rw [whileN_more (st' := [some (.d (N (b + 1))), some (.d (N (a % (b + 1))))]) (by simp; omega) (by
        have h : (0 : Int) < (b : Int) + 1 := by omega
        simp [h]) hn]
      rw [Nat.gcd_comm a (b + 1), Nat.gcd_rec (b + 1) a, Nat.gcd_comm]
theorem divisor_ok (a b : Nat) : m_divisor [.d (N a), .d (N b)] = some (.d (N (Nat.gcd a b)), []) := by
  obtain ⟨n, hn⟩ := divisor_while b a
  have h := dWhile_of hn
  simp [m_divisor, g_divisor, run_ap, startD, h]
theorem same_divisor : m__law_divisor = m_divisor := rfl
theorem same_by : m__law_by = m_by_lowest := rfl
theorem same_plus : m__law_plus = m_put_together := rfl
theorem same_times : m__law_times = m_times := rfl
theorem same_less : m__law_less = m_is_below := rfl
theorem same_odds_in : m__law_odds_in = m_odds_in := rfl
theorem same_sum : m__law_sum = m_total := rfl
/-! ## fractions -/
def Q (r : Rat) : D := .tuple [.int r.num, .int (r.den : Nat)]
theorem mk_num (a b : Nat) (hb : 0 < b) : (mkRat (a : Int) b).num = ((a / Nat.gcd a b : Nat) : Int) ∧ (mkRat (a : Int) b).den = b / Nat.gcd a b := by
  have h : mkRat (a : Int) b = Rat.normalize a b (by omega) := by rw [Rat.mkRat_def]; simp [show b ≠ 0 by omega]
  rw [h, Rat.normalize_eq]
  constructor
  · simp
  · simp
theorem by_ok (a b : Nat) (hb : 0 < b) (hl : Sm 8000 b) : m_by_lowest [.d (N a), .d (N b)] = some (.d (Q (mkRat a b)), []) := by
  have hg : 0 < Nat.gcd a b := Nat.gcd_pos_of_pos_right a hb
  have hg' : (0 : Int) < (Nat.gcd a b : Int) := by omega
  have hl' : (Nat.gcd a b).log2 < 9000 := Nat.lt_of_le_of_lt (hl.le (Nat.gcd_le_right a hb)).log (by omega)
  obtain ⟨e1, e2⟩ := mk_num a b hb
  simp [m_by_lowest, g_by_lowest, run_ap, startD, divisor_ok, hg, hl', DL.sizeLine_eq, Q, e1, e2]
structure Bd (k : Nat) (r : Rat) : Prop where
  nn : 0 ≤ r
  n : Sm k r.num.natAbs
  d : Sm k r.den
theorem Bd.mono {j k : Nat} {r : Rat} (h : Bd j r) (hk : j ≤ k) : Bd k r := ⟨h.nn, h.n.mono hk, h.d.mono hk⟩
theorem Bd.nat {k : Nat} {r : Rat} (h : Bd k r) : ∃ a : Nat, r.num = (a : Int) ∧ Sm k a ∧ 0 < r.den := by
  obtain ⟨a, e⟩ := Int.eq_ofNat_of_zero_le (Rat.num_nonneg.mpr h.nn)
  have := h.n
  rw [e] at this
  exact ⟨a, e, by simpa using this, r.den_pos⟩
theorem rat_mk (r : Rat) : mkRat r.num r.den = r := Rat.mkRat_self r
theorem bd_mk {k a b : Nat} (hb : 0 < b) (h1 : Sm k a) (h2 : Sm k b) : Bd k (mkRat a b) := by
  obtain ⟨e1, e2⟩ := mk_num a b hb
  refine ⟨Rat.num_nonneg.mp (by rw [e1]; exact Int.natCast_nonneg _), ?_, ?_⟩
  · rw [e1]
    exact h1.le (Nat.div_le_self _ _)
  · rw [e2]
    exact h2.le (Nat.div_le_self _ _)
theorem mul_small {a b : Nat} (ha : Sm 8000 a) (hb : Sm 8000 b) : a.log2 + b.log2 < 1000000 := by
  have h1 := ha.log
  have h2 := hb.log
  omega
theorem add_mk {r s : Rat} {a c : Nat} (h1 : r.num = a) (h2 : s.num = c) : mkRat ((a * s.den + c * r.den : Nat) : Int) (r.den * s.den) = r + s := by
  rw [Rat.add_def, Rat.mkRat_def, h1, h2]
  have := r.den_pos
  have := s.den_pos
  have hne : r.den * s.den ≠ 0 := Nat.ne_of_gt (Nat.mul_pos r.den_pos s.den_pos)
  simp [hne]
theorem mul_mk {r s : Rat} {a c : Nat} (h1 : r.num = a) (h2 : s.num = c) : mkRat ((a * c : Nat) : Int) (r.den * s.den) = r * s := by
  rw [Rat.mul_def, Rat.mkRat_def, h1, h2]
  have hne : r.den * s.den ≠ 0 := Nat.ne_of_gt (Nat.mul_pos r.den_pos s.den_pos)
  simp [hne]
theorem plus_ok {j k : Nat} {r s : Rat} (hr : Bd j r) (hs : Bd k s) (hk : j + k + 1 ≤ 8000) : m_put_together [.d (Q r), .d (Q s)] = some (.d (Q (r + s)), []) ∧ Bd (j + k + 1) (r + s) := by
  obtain ⟨a, e1, s1, p1⟩ := hr.nat
  obtain ⟨c, e2, s2, p2⟩ := hs.nat
  have m1 := mul_small (s1.mono (by omega)) (hs.d.mono (by omega))
  have m2 := mul_small (s2.mono (by omega)) (hr.d.mono (by omega))
  have m3 := mul_small (hr.d.mono (by omega)) (hs.d.mono (by omega))
  have h := by_ok (a * s.den + c * r.den) (r.den * s.den) (Nat.mul_pos p1 p2) ((hr.d.mul hs.d).mono (by omega))
  have hb := bd_mk (k := j + k + 1) (Nat.mul_pos p1 p2) ((s1.mul hs.d).add ((s2.mul hr.d).mono (by omega))) ((hr.d.mul hs.d).mono (by omega))
  rw [add_mk e1 e2] at h hb
  refine ⟨?_, hb⟩
  simp only [N, Int.natCast_add, Int.natCast_mul] at h
  simp only [Q] at h ⊢
  simp [m_put_together, g_put_together, run_ap, startD, e1, e2, m1, m2, m3, h]
theorem times_ok {j k : Nat} {r s : Rat} (hr : Bd j r) (hs : Bd k s) (hk : j + k ≤ 8000) : m_times [.d (Q r), .d (Q s)] = some (.d (Q (r * s)), []) ∧ Bd (j + k) (r * s) := by
  obtain ⟨a, e1, s1, p1⟩ := hr.nat
  obtain ⟨c, e2, s2, p2⟩ := hs.nat
  have m1 := mul_small (s1.mono (by omega)) (s2.mono (by omega))
  have m3 := mul_small (hr.d.mono (by omega)) (hs.d.mono (by omega))
  have h := by_ok (a * c) (r.den * s.den) (Nat.mul_pos p1 p2) ((hr.d.mul hs.d).mono (by omega))
  have hb := bd_mk (k := j + k) (Nat.mul_pos p1 p2) (s1.mul s2) (hr.d.mul hs.d)
  rw [mul_mk e1 e2] at h hb
  refine ⟨?_, hb⟩
  simp only [N, Int.natCast_add, Int.natCast_mul] at h
  simp only [Q] at h ⊢
  simp [m_times, g_times, run_ap, startD, e1, e2, m1, m3, h]
theorem below_ok {j k : Nat} {r s : Rat} (hr : Bd j r) (hs : Bd k s) (hk : j + k ≤ 8000) : m_is_below [.d (Q r), .d (Q s)] = some (.d (.bool (decide (r < s))), []) := by
  obtain ⟨a, e1, s1, p1⟩ := hr.nat
  obtain ⟨c, e2, s2, p2⟩ := hs.nat
  have m1 := mul_small (s1.mono (by omega)) (hs.d.mono (by omega))
  have m2 := mul_small (s2.mono (by omega)) (hr.d.mono (by omega))
  have e : decide (r < s) = decide ((a : Int) * s.den < c * r.den) := by
    congr 1
    rw [Rat.lt_iff, e1, e2]
  simp [m_is_below, g_is_below, run_ap, startD, Q, e1, e2, m1, m2, e]
theorem sub_mk {r s : Rat} {a c : Nat} (h1 : r.num = a) (h2 : s.num = c) (hle : c * r.den ≤ a * s.den) : mkRat ((a * s.den - c * r.den : Nat) : Int) (r.den * s.den) = r - s := by
  rw [Rat.sub_def, Rat.mkRat_def, h1, h2]
  have hne : r.den * s.den ≠ 0 := Nat.ne_of_gt (Nat.mul_pos r.den_pos s.den_pos)
  simp [hne, Int.natCast_sub hle]
theorem taken_ok {j k : Nat} {r s : Rat} (hr : Bd j r) (hs : Bd k s) (hk : j + k ≤ 8000) (hle : s ≤ r) : m_taken_off [.d (Q r), .d (Q s)] = some (.d (Q (r - s)), []) ∧ Bd (j + k) (r - s) := by
  obtain ⟨a, e1, s1, p1⟩ := hr.nat
  obtain ⟨c, e2, s2, p2⟩ := hs.nat
  have hle' : c * r.den ≤ a * s.den := by
    rw [Rat.le_iff, e1, e2] at hle
    have : ((c * r.den : Nat) : Int) ≤ ((a * s.den : Nat) : Int) := by simpa using hle
    omega
  have m1 := mul_small (s1.mono (by omega)) (hs.d.mono (by omega))
  have m2 := mul_small (s2.mono (by omega)) (hr.d.mono (by omega))
  have m3 := mul_small (hr.d.mono (by omega)) (hs.d.mono (by omega))
  have h := by_ok (a * s.den - c * r.den) (r.den * s.den) (Nat.mul_pos p1 p2) ((hr.d.mul hs.d).mono (by omega))
  have hb := bd_mk (k := j + k) (Nat.mul_pos p1 p2) ((s1.mul hs.d).le (Nat.sub_le _ (c * r.den))) (hr.d.mul hs.d)
  rw [sub_mk e1 e2 hle'] at h hb
  refine ⟨?_, hb⟩
  simp only [N, Int.natCast_sub hle', Int.natCast_mul] at h
  simp only [Q] at h ⊢
  simp [m_taken_off, g_taken_off, run_ap, startD, e1, e2, m1, m2, m3, h]
theorem bd_zero : Bd 2 0 := ⟨by decide, sm_of 2 (by decide), sm_of 2 (by decide)⟩
theorem bd_one : Bd 2 1 := ⟨by decide, sm_of 2 (by decide), sm_of 2 (by decide)⟩
theorem Q_zero : Q 0 = .tuple [.int 0, .int 1] := rfl
theorem Q_one : Q 1 = .tuple [.int 1, .int 1] := rfl
theorem Q_inj {r s : Rat} (h : Q r = Q s) : r = s := by
  simp only [Q, PyData.tuple.injEq, List.cons.injEq, PyData.int.injEq, and_true] at h
  exact Rat.ext h.1 (by omega)
end P
end

section
set_option linter.all false
namespace P
open PySem DL
/-! ## tables -/
def Ns (ts : List Nat) : List D := ts.map fun k => N k
abbrev tab (ts : List Nat) : D := .list (Ns ts)
theorem len_Ns (ts) : (Ns ts).length = ts.length := by simp [Ns]
theorem ints_Ns : ∀ ts : List Nat, intsOf (Ns ts) = some (ts.map fun (k : Nat) => (k : Int))
  | [] => rfl
  | t :: r => by
    show (intsOf (Ns r)).bind _ = _
    rw [ints_Ns r]
    rfl
theorem sum_cast : ∀ ts : List Nat, (ts.map fun (k : Nat) => (k : Int)).sum = ((ts.sum : Nat) : Int)
  | [] => rfl
  | t :: r => by simp [sum_cast r]
theorem sum_ok (ts : List Nat) : bSum [tab ts] = some (.d (N ts.sum)) := by
  show (intsOf (Ns ts)).bind _ = _
  rw [ints_Ns]
  show some (Rv.d (.int (ts.map fun (k : Nat) => (k : Int)).sum)) = _
  rw [sum_cast]
theorem ix_ok (ts : List Nat) {p : Nat} (h : p < ts.length) : opIx (tab ts) (N p) = some (.d (N (ts[p]))) := by
  have h' : (p : Int) < (Ns ts).length := by rw [len_Ns]; omega
  have e : (Ns ts)[p]? = some (N ts[p]) := by
    unfold Ns
    rw [List.getElem?_map, List.getElem?_eq_getElem h]
    rfl
  show (ixAt (Ns ts) (p : Int)).bind _ = _
  have e2 : ixAt (Ns ts) (p : Int) = some p := by
    unfold ixAt
    rw [if_pos (by omega), if_pos h']
    simp
  rw [e2]
  show ((Ns ts)[p]?).bind _ = _
  rw [e]
  rfl
theorem cut_to {α : Type} (xs : List α) {p : Nat} (h : p ≤ xs.length) : cutD xs none (some (p : Int)) = xs.take p := by
  have e : cutAt xs.length xs.length (some (p : Int)) = p := by
    show (if (p : Int) < 0 then ((p : Int) + (xs.length : Int)).toNat else min (p : Int).toNat xs.length) = p
    rw [if_neg (by omega)]
    simp
    omega
  show (xs.drop 0).take (cutAt xs.length xs.length (some (p : Int)) - 0) = _
  rw [e]
  simp
theorem slice_ok (ts : List Nat) {p : Nat} (h : p ≤ ts.length) : opSlice (tab ts) none (some (p : Int)) = some (.tmp (Ns (ts.take p))) := by
  show some (Rv.tmp (cutD (Ns ts) none (some (p : Int)))) = _
  rw [cut_to _ (by rw [len_Ns]; exact h)]
  unfold Ns
  rw [List.map_take]
theorem bools_rep : ∀ n : Nat, boolsOf (List.replicate n (.bool true)) = some (List.replicate n true)
  | 0 => rfl
  | n + 1 => by
    rw [List.replicate_succ, List.replicate_succ, boolsOf, bools_rep n]
    rfl
theorem fm_const (b : D) : ∀ xs : List D, xs.filterMap (fun _ => some b) = List.replicate xs.length b
  | [] => rfl
  | x :: r => by rw [List.filterMap_cons, fm_const b r]; rfl

theorem ixAt_n {α : Type} (xs : List α) {p : Nat} (h : p < xs.length) : ixAt xs (p : Int) = some p := by
  unfold ixAt
  rw [if_pos (by omega), if_pos (by omega)]
  simp
theorem ix_l (xs : List D) {p : Nat} (h : p < xs.length) : opIx (.list xs) (N p) = some (.d xs[p]) := by
  show (ixAt xs (p : Int)).bind _ = _
  rw [ixAt_n xs h]
  show (xs[p]?).bind _ = _
  rw [List.getElem?_eq_getElem h]
  rfl
theorem ix_t (xs : List D) {p : Nat} (h : p < xs.length) : opIx (.tuple xs) (N p) = some (.d xs[p]) := by
  show (ixAt xs (p : Int)).bind _ = _
  rw [ixAt_n xs h]
  show (xs[p]?).bind _ = _
  rw [List.getElem?_eq_getElem h]
  rfl

theorem nd_free {o : Option SV} (h : o = none ∨ ∃ y, o = some (.d y)) : nd o = true := by
  rcases h with rfl | ⟨y, rfl⟩ <;> rfl

def cnt : D → Bool
  | .int i => decide (0 ≤ i)
  | _ => false
theorem count_ok (x : D) (hx : ∀ k, x ≠ .dict k) (k : Int) : m_is_count [.d x, .d (.int k)] = some (.d (.bool (match x with | .int i => decide (k ≤ i) | _ => false)), []) := by
  cases x with
  | dict k => exact absurd rfl (hx k)
  | _ => simp [m_is_count, g_is_count, run_ap, startD]
theorem count0_ok (x : D) (hx : ∀ k, x ≠ .dict k) : m_is_count [.d x, .d (.int 0)] = some (.d (.bool (cnt x)), []) := by
  rw [count_ok x hx]
  cases x <;> rfl
/-- no dict, ints below 10 ^ 40, lists not too long, at most n deep -/
def Fit : Nat → D → Prop
  | n, .list xs => xs.length ≤ 1000 ∧ match n with
    | 0 => False
    | n + 1 => ∀ y ∈ xs, Fit n y
  | n, .tuple xs => xs.length ≤ 1000 ∧ match n with
    | 0 => False
    | n + 1 => ∀ y ∈ xs, Fit n y
  | _, .dict _ => False
  | _, .int i => i ≤ 10000000000000000000000000000000000000000
  | _, _ => True
theorem Fit.nd {n : Nat} {x : D} (h : Fit n x) : ∀ k, x ≠ .dict k := by
  rintro k rfl
  cases n <;> exact h
theorem counts_go {L : D} {n : Nat} : ∀ xs : List D, (∀ y ∈ xs, Fit n y) → lcGo (DL.gName 1) (dTests) (dCall m_is_count [false] [PyData.int 0] (dCons (dVar 1) (dNil))) [1] xs [some (.d L), none] = some (xs.map fun y => .bool (cnt y), [some (.d L), none])
  | [], _ => by simp [lcGo_nil]
  | x :: r, h => by
    have ih := counts_go (L := L) r fun y hy => h y (by simp [hy])
    rw [lcGo_cons]
    simp [count0_ok x (h x (by simp)).nd, ih]
theorem bools_map {α : Type} (f : α → Bool) : ∀ xs : List α, boolsOf (xs.map fun y => .bool (f y)) = some (xs.map f)
  | [] => rfl
  | x :: r => by simp [bools_map f r]
def areC : D → Bool
  | .list xs => xs.all cnt
  | _ => false
theorem le_size {n : Nat} (h : n ≤ 1000) : n ≤ sizeLine := by rw [DL.sizeLine_eq]; omega
theorem Fit.list {n : Nat} {xs : List D} (h : Fit n (.list xs)) : xs.length ≤ 1000 ∧ ∀ y ∈ xs, Fit (n - 1) y := by
  cases n with
  | zero => exact h.2.elim
  | succ n => exact h
theorem Fit.tup {n : Nat} {xs : List D} (h : Fit n (.tuple xs)) : xs.length ≤ 1000 ∧ ∀ y ∈ xs, Fit (n - 1) y := by
  cases n with
  | zero => exact h.2.elim
  | succ n => exact h
theorem countsF_ok {n : Nat} {x : D} (h : Fit n x) : m_are_counts [.d x] = some (.d (.bool (areC x)), []) := by
  cases x with
  | dict k => exact absurd rfl (h.nd k)
  | list xs =>
    have g := counts_go (L := .list xs) xs h.list.2
    simp [m_are_counts, g_are_counts, run_ap, startD, le_size h.list.1, g, bools_map, areC, List.all_map]
  | _ => simp [m_are_counts, g_are_counts, run_ap, startD, areC]
def isum : List D → Int
  | [] => 0
  | .int i :: r => i + isum r
  | _ :: r => isum r
theorem ints_ok : ∀ xs : List D, xs.all cnt = true → ∃ is, intsOf xs = some is ∧ is.sum = isum xs
  | [], _ => ⟨[], rfl, rfl⟩
  | .int i :: r, h => by
    obtain ⟨is, h1, h2⟩ := ints_ok r (by simp at h; simpa using h.2)
    exact ⟨i :: is, by rw [intsOf, h1]; rfl, by simp [isum, h2]⟩
  | .none :: r, h => by simp [cnt] at h
  | .bool _ :: r, h => by simp [cnt] at h
  | .str _ :: r, h => by simp [cnt] at h
  | .list _ :: r, h => by simp [cnt] at h
  | .tuple _ :: r, h => by simp [cnt] at h
  | .dict _ :: r, h => by simp [cnt] at h
def isT : D → Bool
  | .list xs => xs.all cnt && decide (0 < isum xs)
  | _ => false
theorem tableF_ok {n : Nat} {x : D} (h : Fit n x) : m_is_table [.d x] = some (.d (.bool (isT x)), []) := by
  have hc := countsF_ok h
  cases x with
  | dict k => exact absurd rfl (h.nd k)
  | list xs =>
    by_cases c : xs.all cnt = true
    · obtain ⟨is, h1, h2⟩ := ints_ok xs c
      simp only [areC, c] at hc
      simp [m_is_table, g_is_table, run_ap, startD, hc, h1, h2, isT, c]
    · have c' : xs.all cnt = false := by simpa using c
      simp only [areC, c'] at hc
      simp [m_is_table, g_is_table, run_ap, startD, hc, isT, c']
  | _ =>
    simp only [areC] at hc
    simp [m_is_table, g_is_table, run_ap, startD, hc, isT]

mutual
theorem fit_plain : ∀ (n : Nat) (x : D), Fit n x → x.plain = true ∧ x.depth ≤ n
  | n, .none, _ => by simp [PyData.plain, PyData.depth]
  | n, .bool _, _ => by simp [PyData.plain, PyData.depth]
  | n, .int _, _ => by simp [PyData.plain, PyData.depth]
  | n, .str _, _ => by simp [PyData.plain, PyData.depth]
  | 0, .list xs, h => h.2.elim
  | n + 1, .list xs, h => by
    obtain ⟨a, b⟩ := fit_plainAll n xs h.2
    simp [PyData.plain, PyData.depth, a, b]
  | 0, .tuple xs, h => h.2.elim
  | n + 1, .tuple xs, h => by
    obtain ⟨a, b⟩ := fit_plainAll n xs h.2
    simp [PyData.plain, PyData.depth, a, b]
  | n, .dict k, h => absurd rfl (h.nd k)
theorem fit_plainAll : ∀ (n : Nat) (xs : List D), (∀ y ∈ xs, Fit n y) → PyData.plainAll xs = true ∧ PyData.depthAll xs ≤ n
  | n, [], _ => by simp [PyData.plainAll, PyData.depthAll]
  | n, x :: r, h => by
    obtain ⟨a, b⟩ := fit_plain n x (h x (by simp))
    obtain ⟨c, d⟩ := fit_plainAll n r fun y hy => h y (by simp [hy])
    simp [PyData.plainAll, PyData.depthAll, a, c]
    omega
end
theorem Fit.flat {n : Nat} {x : D} (h : Fit n x) (hn : n ≤ 60) : flat x = true := by
  obtain ⟨a, b⟩ := fit_plain n x h
  simp [DL.flat, a]
  omega
theorem flat_list {n : Nat} {xs : List D} (h : ∀ y ∈ xs, Fit n y) (hn : n ≤ 60) : DL.flat (.list xs) = true := by
  obtain ⟨a, b⟩ := fit_plainAll n xs h
  simp [DL.flat, PyData.plain, PyData.depth, a]
  omega
theorem ne_list {xs : List D} (h : DL.flat (.list xs) = true) : opNe (.list xs) (.list []) = some (.d (.bool (!xs.isEmpty))) := by
  have h0 : DL.flat (.list []) = true := rfl
  cases xs <;> simp [opNe, h, h0, PyData.eqv, PyData.eqvAll]
theorem eq_list {xs : List D} (h : DL.flat (.list xs) = true) : opEq (.list xs) (.list []) = some (.d (.bool xs.isEmpty)) := by
  have h0 : DL.flat (.list []) = true := rfl
  cases xs <;> simp [opEq, h, h0, PyData.eqv, PyData.eqvAll]

def gall : List Nat → Nat → Nat
  | [], g => g
  | t :: r, g => gall r (Nat.gcd g t)
theorem gall_dvd : ∀ (ts : List Nat) (g : Nat), gall ts g ∣ g ∧ ∀ t ∈ ts, gall ts g ∣ t
  | [], g => ⟨Nat.dvd_refl g, fun t ht => by simp at ht⟩
  | t :: r, g => by
    obtain ⟨h1, h2⟩ := gall_dvd r (Nat.gcd g t)
    refine ⟨Nat.dvd_trans h1 (Nat.gcd_dvd_left g t), fun x hx => ?_⟩
    rcases List.mem_cons.mp hx with rfl | hx
    · exact Nat.dvd_trans h1 (Nat.gcd_dvd_right g _)
    · exact h2 x hx
def gg (ts : List Nat) : Nat := gall ts 0
theorem sum_pos_mem : ∀ {ts : List Nat}, 0 < ts.sum → ∃ t ∈ ts, 0 < t
  | [], h => by simp at h
  | t :: r, h => by
    by_cases ht : 0 < t
    · exact ⟨t, by simp, ht⟩
    · obtain ⟨x, hx, h'⟩ := sum_pos_mem (ts := r) (by simp at h; omega)
      exact ⟨x, by simp [hx], h'⟩
theorem gg_pos {ts : List Nat} (h : 0 < ts.sum) : 0 < gg ts := by
  obtain ⟨t, ht, h0⟩ := sum_pos_mem h
  exact Nat.pos_of_dvd_of_pos ((gall_dvd ts 0).2 t ht) h0
theorem mem_le_sum : ∀ {ts : List Nat} {t : Nat}, t ∈ ts → t ≤ ts.sum
  | t :: r, x, h => by
    rcases List.mem_cons.mp h with rfl | h
    · simp
    · have := mem_le_sum h
      simp
      omega
theorem gg_le {ts : List Nat} (h : 0 < ts.sum) : gg ts ≤ ts.sum := by
  obtain ⟨t, ht, h0⟩ := sum_pos_mem h
  exact Nat.le_trans (Nat.le_of_dvd h0 ((gall_dvd ts 0).2 t ht)) (mem_le_sum ht)
def lw (ts : List Nat) : List Nat := ts.map fun t => t / gg ts

theorem gall_go1 {tb : D} : ∀ (ts : List Nat) (g : Nat) (o : Option SV), (o = none ∨ ∃ y, o = some (.d y)) → ∃ o', (o' = none ∨ ∃ y, o' = some (.d y)) ∧ forGo (DL.gName 2) (dSet 1 (dCall m_divisor [false, false] [] (dCons (dVar 1) (dCons (dVar 2) (dNil))))) (Ns ts) [some (.d tb), some (.d (N g)), o] = some (.nx, [some (.d tb), some (.d (N (gall ts g))), o'])
  | [], g, o, ho => ⟨o, ho, by rw [Ns, List.map_nil, forGo_nil, gall]⟩
  | t :: r, g, o, ho => by
    obtain ⟨o', h', e⟩ := gall_go1 (tb := tb) r (Nat.gcd g t) (some (.d (N t))) (.inr ⟨_, rfl⟩)
    have d := divisor_ok g t
    refine ⟨o', h', ?_⟩
    rw [show Ns (t :: r) = N t :: Ns r from rfl, forGo_cons]
    simp only [N] at d e
    rcases ho with rfl | ⟨y, rfl⟩ <;> simp [d, e, gall]

theorem fm_map {α : Type} {g : α → D} {f : D → Option D} {h : α → D} (e : ∀ i, f (g i) = some (h i)) : ∀ l : List α, (l.map g).filterMap f = l.map h
  | [] => rfl
  | x :: r => by rw [List.map_cons, List.filterMap_cons, e, List.map_cons, fm_map e r]

def divF (g : Nat) (x : D) : Option D := match x with
  | .int i => some (.int (i / (g : Int)))
  | _ => none
theorem div_map (ts : List Nat) : (Ns ts).filterMap (divF (gg ts)) = Ns (lw ts) := by
  unfold lw Ns
  rw [List.map_map]
  exact fm_map (g := fun k : Nat => N k) (f := divF (gg ts)) (h := (fun k => N k) ∘ fun t => t / gg ts) (fun i => rfl) ts

theorem isum_Ns : ∀ ts : List Nat, isum (Ns ts) = (ts.sum : Nat)
  | [] => rfl
  | t :: r => by
    show (t : Int) + isum (Ns r) = _
    rw [isum_Ns r]
    simp
theorem all_Ns (ts : List Nat) : (Ns ts).all cnt = true := by
  rw [List.all_eq_true]
  intro x hx
  obtain ⟨k, _, rfl⟩ := List.mem_map.mp hx
  simp [cnt]
theorem isT_tab (ts : List Nat) : isT (tab ts) = decide (0 < ts.sum) := by
  show ((Ns ts).all cnt && decide (0 < isum (Ns ts))) = _
  rw [all_Ns, isum_Ns]
  simp
theorem countN_ok (k : Nat) : m_is_count [.d (.int (k : Nat)), .d (.int 0)] = some (.d (.bool true), []) := by
  rw [count0_ok _ (by simp)]
  simp [cnt]
theorem counts_ok (ts : List Nat) (hl : ts.length ≤ 1000000) : m_are_counts [.d (tab ts)] = some (.d (.bool true), []) := by
  refine okP.eq ?_
  have hl2 := len_Ns ts
  have hl3 : ts.length ≤ 16777216 := by omega
  simp [m_are_counts, g_are_counts, run_ap, startD, hl2, hl3, DL.sizeLine_eq]
  simp only [okP_obind]
  refine okP_of (lc_map (fun _ => some (.bool true)) fun x hx => ?_) ?_
  · obtain ⟨k, _, rfl⟩ := List.mem_map.mp hx
    simp [okP_some, countN_ok]
  · rw [fm_const]
    simp [okP_some, bools_rep]
theorem table_ok (ts : List Nat) (hl : ts.length ≤ 1000000) : m_is_table [.d (tab ts)] = some (.d (.bool (decide (0 < ts.sum))), []) := by
  have h2 := sum_ok ts
  simp only [N] at h2
  simp [m_is_table, g_is_table, run_ap, startD, counts_ok ts hl, h2, -bSum_l]
theorem look_table_ok (ts : List Nat) (hl : ts.length ≤ 1000000) (hs : 0 < ts.sum) : m_look_at_table [.d (tab ts)] = some (.d .none, []) := by
  simp [m_look_at_table, g_look_at_table, run_ap, startD, table_ok ts hl, hs]
theorem look_two_ok {ts us : List Nat} (hl : ts.length ≤ 1000000) (he : us.length = ts.length) (hs : 0 < ts.sum) (hu : 0 < us.sum) : m_look_at_two [.d (tab ts), .d (tab us)] = some (.d .none, []) := by
  have h1 := len_Ns ts
  have h2 := len_Ns us
  simp [m_look_at_two, g_look_at_two, run_ap, startD, look_table_ok ts hl hs, table_ok us (by omega), hu, h1, h2, he]
/-- the odds at a count -/
def sh (ts : List Nat) (t : Nat) : Rat := mkRat t ts.sum
def shF (ts : List Nat) (x : D) : Option D := match x with
  | .int i => some (Q (sh ts i.toNat))
  | _ => none
theorem sh_map (ts us : List Nat) : (Ns us).filterMap (shF ts) = us.map fun t => Q (sh ts t) := by
  unfold Ns
  exact fm_map (g := fun k : Nat => N k) (f := shF ts) (h := fun t => Q (sh ts t)) (fun i => rfl) us
theorem odds_in_ok {ts : List Nat} (hl : ts.length ≤ 1000000) (h0 : 0 < ts.sum) (hT : Sm 8000 ts.sum) : m_odds_in [.d (tab ts)] = some (.own (ts.map fun t => Q (sh ts t)), []) := by
  refine okP.eq ?_
  have hl2 := len_Ns ts
  have hl3 : ts.length ≤ 16777216 := by omega
  have h2 := sum_ok ts
  simp only [N] at h2
  simp [m_odds_in, g_odds_in, run_ap, startD, hl2, hl3, DL.sizeLine_eq]
  simp only [okP_obind]
  refine okP_of (lc_map (shF ts) fun x hx => ?_) ?_
  · obtain ⟨k, _, rfl⟩ := List.mem_map.mp hx
    have b := by_ok k ts.sum h0 hT
    simp only [N] at b
    simp [okP_some, h2, b, shF, sh, -bSum_l]
  · rw [sh_map]
    simp [okP_some]
theorem bd_sh {ts : List Nat} {k t : Nat} (h0 : 0 < ts.sum) (hT : Sm k ts.sum) (ht : t ≤ ts.sum) : Bd k (sh ts t) := bd_mk h0 (hT.le ht) hT
theorem total_go {L : D} {k : Nat} : ∀ (rs : List Rat) (j : Nat) (p : Rat) (v : Option SV), nd v = true → (∀ r ∈ rs, Bd k r) → Bd j p → j + rs.length * (k + 1) ≤ 8000 →
    (∃ v', nd v' = true ∧ forGo (DL.gName 2) (dSet 1 (dCall m_put_together [false, false] [] (dCons (dVar 1) (dCons (dVar 2) (dNil))))) (rs.map Q) [some (.d L), some (.d (Q p)), v] = some (.nx, [some (.d L), some (.d (Q (p + rs.sum))), v'])) ∧ Bd (j + rs.length * (k + 1)) (p + rs.sum)
  | [], j, p, v, hv, hf, hp, hk => ⟨⟨v, hv, by simp [forGo_nil, Rat.add_zero]⟩, by simpa [Rat.add_zero] using hp⟩
  | y :: r, j, p, v, hv, hf, hp, hk => by
    simp only [List.length_cons, Nat.succ_mul] at hk
    obtain ⟨e, m⟩ := plus_ok hp (hf y (by simp)) (by omega)
    obtain ⟨⟨v', hv', h⟩, b⟩ := total_go (L := L) (k := k) r (j + (k + 1)) (p + y) (some (.d (Q y))) rfl (fun z hz => hf z (by simp [hz])) m (by omega)
    rw [Rat.add_assoc, ← List.sum_cons] at h b
    refine ⟨⟨v', hv', ?_⟩, ?_⟩
    · rw [List.map_cons, forGo_cons]
      simp [kSetS_nd hv, e, h]
    · rw [List.length_cons, Nat.succ_mul]
      exact b.mono (by omega)
theorem total_ok {rs : List Rat} {k : Nat} (hf : ∀ r ∈ rs, Bd k r) (hk : 2 + rs.length * (k + 1) ≤ 8000) : m_total [.d (.list (rs.map Q))] = some (.d (Q rs.sum), []) ∧ Bd (2 + rs.length * (k + 1)) rs.sum := by
  obtain ⟨⟨v', hv', h⟩, b⟩ := total_go (L := .list (rs.map Q)) rs 2 0 none rfl hf bd_zero hk
  rw [Q_zero, Rat.zero_add] at h
  rw [Rat.zero_add] at b
  exact ⟨by simp [m_total, g_total, run_ap, startD, h, DL.sizeLine_eq], b⟩
theorem lowered_ok {ts : List Nat} (hl : ts.length ≤ 1000000) (h0 : 0 < ts.sum) (hT : Sm 8000 ts.sum) : m_lowered [.d (tab ts)] = some (.own (Ns (lw ts)), []) := by
  have hg := gg_pos h0
  have hg' : (0 : Int) < (gg ts : Nat) := by omega
  have lg : (gg ts).log2 < 9000 := Nat.lt_of_le_of_lt (hT.le (gg_le h0)).log (by decide)
  have l1 := len_Ns ts
  have l2 : ts.length ≤ 16777216 := by omega
  have hgg : gall ts 0 = gg ts := rfl
  obtain ⟨o', ho, e⟩ := gall_go1 (tb := tab ts) ts 0 none (.inl rfl)
  rw [hgg] at e
  simp only [N] at e
  rw [show ((0 : Nat) : Int) = 0 from rfl] at e
  refine okP.eq ?_
  rcases ho with rfl | ⟨y, rfl⟩ <;>
  · simp [m_lowered, g_lowered, run_ap, startD, e, l1, l2, DL.sizeLine_eq]
    simp only [okP_obind]
    refine okP_of (lc_map (divF (gg ts)) fun x hx => ?_) ?_
    · obtain ⟨i, _, rfl⟩ := List.mem_map.mp hx
      simp [okP_some, divF, hg, hg', lg]
    · rw [div_map]
      simp [okP_some]
theorem lowest_ok {ts : List Nat} (hl : ts.length ≤ 1000000) (h0 : 0 < ts.sum) (hT : Sm 8000 ts.sum) : m_lowest [.d (tab ts)] = some (.own (Ns (lw ts)), []) := by
  simp [m_lowest, g_lowest, run_ap, startD, lowered_ok hl h0 hT, look_table_ok ts hl h0]
end P
end

section
set_option linter.all false
namespace P
open PySem DL
/-! ## the same; the purse -/
def okS : Nat → D → Prop
  | 0, _ => False
  | n + 1, x => match x with
    | .list xs => xs.length ≤ sizeLine ∧ ∀ y ∈ xs, okS n y
    | .tuple xs => xs.length ≤ sizeLine ∧ ∀ y ∈ xs, okS n y
    | .dict _ => False
    | _ => True
theorem same_go {n : Nat} {x y z : D} : ∀ xs : List D, (∀ y ∈ xs, m__law_same n [.d y, .d y] = some (.d (.bool true), [])) →
    lcGo (DL.gTup 2 (DL.gCons (DL.gName 3) (DL.gCons (DL.gName 4) (DL.gNil)))) (dTests) (dCall (m__law_same n) [false, false] [] (dCons (dVar 3) (dCons (dVar 4) (dNil)))) [3, 4] ((xs.zip xs).map fun p => .tuple [p.1, p.2]) [some (.d x), some (.d y), some (.d z), none, none] =
      some (List.replicate xs.length (.bool true), [some (.d x), some (.d y), some (.d z), none, none])
  | [], _ => by simp [lcGo_nil]
  | u :: r, h => by
    have ih := same_go (x := x) (y := y) (z := z) r fun y hy => h y (by simp [hy])
    simp only [List.zip_cons_cons, List.map_cons, lcGo_cons]
    simp [h u (by simp), ih, List.replicate_succ]
theorem bools_rep' (n : Nat) : boolsOf (List.replicate n (.bool true)) = some (List.replicate n true) := by
  induction n with
  | zero => rfl
  | succ n ih => simp [List.replicate_succ, ih]
theorem beq_self_str (z : Str) : PyData.eqv (.str z) (.str z) = true := by simp [PyData.eqv]
theorem same_ok : ∀ (n : Nat) (x : D), okS n x → m__law_same n [.d x, .d x] = some (.d (.bool true), [])
  | 0, _, h => h.elim
  | n + 1, x, h => by
    match x, h with
    | .none, _ => simp [m__law_same, g__law_same, run_ap, startD]
    | .bool b, _ => cases b <;> simp [m__law_same, g__law_same, run_ap, startD]
    | .int i, _ => simp [m__law_same, g__law_same, run_ap, startD]
    | .str z, _ =>
      have e : opEq (.str z) (.str z) = some (.d (.bool true)) := by simp [opEq, flat, PyData.plain, PyData.depth, beq_self_str]
      simp [m__law_same, g__law_same, run_ap, startD, e]
    | .list xs, h =>
      have g := same_go (n := n) (x := .list xs) (y := .list xs) (z := .bool true) xs fun y hy => same_ok n y (h.2 y hy)
      simp [m__law_same, g__law_same, run_ap, startD, g, h.1, bools_rep]
    | .tuple xs, h =>
      have g := same_go (n := n) (x := .tuple xs) (y := .tuple xs) (z := .bool true) xs fun y hy => same_ok n y (h.2 y hy)
      simp [m__law_same, g__law_same, run_ap, startD, g, h.1, bools_rep]

def purse (cells : List Nat) (ix cur cnt seed : Nat) : List D := [.list (cells.map N), N ix, N cur, N cnt, N seed]
def Purse (n : Nat) (P : List D) : Prop := ∃ cells ix cur cnt seed, P = purse cells ix cur cnt seed ∧ ix ≤ cells.length ∧ cnt ≤ n ∧ seed < 2147483647
def stir (cnt seed : Nat) : Nat := (((cnt + 1) * (cnt + 1) + seed) * 48271) % 2147483629
def toss (cnt seed many : Nat) : Nat := (stir cnt seed * stir cnt seed) % 2147483587 % many
theorem cast_stir (cnt seed : Nat) : (((cnt : Int) + 1) * ((cnt : Int) + 1) + seed) * 48271 % 2147483629 = (stir cnt seed : Nat) := by
  simp [stir]
theorem cast_toss (cnt seed many : Nat) : ((stir cnt seed : Nat) : Int) * (stir cnt seed : Nat) % 2147483587 % (many : Nat) = (toss cnt seed many : Nat) := by
  simp [toss]
theorem toss_side {cnt seed : Nat} (hc : cnt ≤ 100000) (hs : seed < 2147483647) :
    (cnt + 1).log2 + (cnt + 1).log2 < 1000000 ∧ ((cnt + 1) * (cnt + 1) + seed).log2 + Nat.log2 48271 < 1000000 ∧ (stir cnt seed).log2 + (stir cnt seed).log2 < 1000000 := by
  have h1 : Sm 17 (cnt + 1) := sm_of 17 (by omega)
  have h2 : Sm 34 ((cnt + 1) * (cnt + 1)) := h1.mul h1
  have h3 : Sm 35 ((cnt + 1) * (cnt + 1) + seed) := h2.add ((sm_of 34 (by omega)))
  have h4 : Sm 31 (stir cnt seed) := sm_of 31 (Nat.lt_of_lt_of_le (Nat.mod_lt _ (by decide)) (by decide))
  have h5 : Sm 16 48271 := sm_of 16 (by decide)
  have g1 := h1.log
  have g3 := h3.log
  have g4 := h4.log
  have g5 := h5.log
  omega
theorem draw_ok {n : Nat} {P : List D} (hn : n ≤ 100000) (hP : Purse n P) (many : Nat) (h0 : 0 < many) (h1 : Sm 100 many) :
    ∃ r P', r < many ∧ Purse (n + 1) P' ∧ m__law_draw [.m P, .d (N many)] = some (.d (N r), [P']) := by
  obtain ⟨cells, ix, cur, cnt, seed, rfl, hi, hc, hs⟩ := hP
  have h0' : (0 : Int) < (many : Int) := by omega
  have hl : many.log2 < 9000 := Nat.lt_of_le_of_lt h1.log (by omega)
  by_cases hcur : many ≤ cur
  · refine ⟨cur % many, purse cells ix (cur / many) cnt seed, Nat.mod_lt _ h0, ⟨cells, ix, _, cnt, seed, rfl, hi, by omega, hs⟩, ?_⟩
    have e1 : ¬ ((cur : Int) < many) := by omega
    have e2 : (many : Int) ≤ cur := by omega
    simp [m__law_draw, g__law_draw, run_ap, startD, purse, e1, e2, h0, h0', hl]
  have e1 : ((cur : Int) < many) := by omega
  have e2 : ¬ (many : Int) ≤ cur := by omega
  obtain ⟨s1, s2, s3⟩ := toss_side (cnt := cnt) (seed := seed) (by omega) hs
  have a1 : ((cnt : Int) + 1).natAbs = cnt + 1 := by omega
  have a2 : (((cnt : Int) + 1) * ((cnt : Int) + 1) + seed).natAbs = (cnt + 1) * (cnt + 1) + seed := by
    rw [show (((cnt : Int) + 1) * ((cnt : Int) + 1) + seed) = (((cnt + 1) * (cnt + 1) + seed : Nat) : Int) by simp]
    rfl
  have ht : toss cnt seed many < many := Nat.mod_lt _ h0
  by_cases hix : ix < cells.length
  · have hix' : ((ix : Int) < cells.length) := by omega
    by_cases hc1 : many ≤ cells[ix]
    · have e3 : (many : Int) ≤ (cells[ix] : Nat) := by omega
      refine ⟨cells[ix] % many, purse cells (ix + 1) (cells[ix] / many) cnt seed, Nat.mod_lt _ h0, ⟨cells, _, _, cnt, seed, rfl, hix, by omega, hs⟩, ?_⟩
      simp [m__law_draw, g__law_draw, run_ap, startD, purse, e1, e3, h0, h0', hl, hix, hix', hc1]
    · have e3 : ¬ (many : Int) ≤ (cells[ix] : Nat) := by omega
      refine ⟨toss cnt seed many, purse cells (ix + 1) cells[ix] (cnt + 1) seed, ht, ⟨cells, _, _, _, seed, rfl, hix, by omega, hs⟩, ?_⟩
      simp [m__law_draw, g__law_draw, run_ap, startD, purse, e1, e3, h0, h0', hl, hix, hix', hc1, a1, a2, s1, s2, s3, cast_stir, cast_toss]
  · have hix' : ¬ ((ix : Int) < cells.length) := by omega
    refine ⟨toss cnt seed many, purse cells ix cur (cnt + 1) seed, ht, ⟨cells, _, _, _, seed, rfl, hi, by omega, hs⟩, ?_⟩
    simp [m__law_draw, g__law_draw, run_ap, startD, purse, e1, e2, h0, h0', hl, hix, hix', a1, a2, s1, s2, s3, cast_stir, cast_toss]
theorem pick_ok {n : Nat} {P : List D} (hn : n ≤ 100000) (hP : Purse n P) (xs : List D) (h0 : 0 < xs.length) (h1 : xs.length ≤ 1000) :
    ∃ x P', x ∈ xs ∧ Purse (n + 1) P' ∧ m__law_pick [.m P, .d (.list xs)] = some (.d x, [P']) := by
  obtain ⟨r, P', hr, hP', h⟩ := draw_ok hn hP xs.length h0 (sm_of 10 (by omega) |>.mono (by decide))
  refine ⟨xs[r], P', List.getElem_mem hr, hP', ?_⟩
  have hr' : (r : Int) < (xs.length : Int) := by omega
  simp [m__law_pick, g__law_pick, run_ap, startD, h, hr, hr']

theorem draw_int {n : Nat} {P : List D} (hn : n ≤ 100000) (hP : Purse n P) (m : Int) (h0 : 0 < m) (h1 : m < 2000000000000000000) :
    ∃ (r : Nat) (P' : List D), (r : Int) < m ∧ Purse (n + 1) P' ∧ m__law_draw [.m P, .d (.int m)] = some (.d (N r), [P']) := by
  obtain ⟨many, rfl⟩ := Int.eq_ofNat_of_zero_le (Int.le_of_lt h0)
  obtain ⟨r, P', hr, hP', h⟩ := draw_ok hn hP many (by omega) ((sm_of 61 (by omega)).mono (by decide))
  exact ⟨r, P', by omega, hP', h⟩
theorem pow_ten : opPow (.int 10) (.int 18) = some (.d (.int 1000000000000000000)) := by simp
theorem range_ok {t : Nat} (ht : t < 1000) : iRange1 [.int (t : Nat)] = some ((List.range t).map fun i => .int (0 + (i : Nat))) := by
  have ht' : (t : Int) < 4611686018427387904 := by omega
  have ht2 : (-4611686018427387904 : Int) ≤ t := by omega
  simp [ht', ht2]

theorem cut63 (ns : List D) (h : ns.length ≤ 63) : cutD ns none (some 63) = ns := by
  have e : cutAt ns.length ns.length (some 63) = ns.length := by
    show (if (63 : Int) < 0 then ((63 : Int) + (ns.length : Int)).toNat else min (63 : Int).toNat ns.length) = ns.length
    rw [if_neg (by decide)]
    show min 63 ns.length = ns.length
    omega
  show (ns.drop 0).take (cutAt ns.length ns.length (some 63) - 0) = ns
  rw [e]
  simp
theorem seed_go {S : D} : ∀ (ns : List Int) (s : Nat) (v : Option SV), (v = none ∨ ∃ y, v = some (.d y)) → s < 2147483647 →
    ∃ (s' : Nat) (y : D), s' < 2147483647 ∧ ∃ v', (v' = none ∨ v' = some (.d y)) ∧ forGo (DL.gName 2) (dSet 1 (dOp2 opMod (dCallB bInt (dCons (dOp2 opAdd (dOp2 opMul (dVar 1) (dC (.int 31))) (dVar 2)) (dNil))) (dC (.int 2147483647)))) (ns.map .int) [some (.d S), some (.d (N s)), v] =
      some (.nx, [some (.d S), some (.d (N s')), v'])
  | [], s, v, hv, hs => by
    rcases hv with rfl | ⟨y, rfl⟩
    · exact ⟨s, .none, hs, none, .inl rfl, by simp [forGo_nil]⟩
    · exact ⟨s, y, hs, _, .inr rfl, by simp [forGo_nil]⟩
  | n :: r, s, v, hv, hs => by
    have h0 : 0 ≤ ((s : Int) * 31 + n) % 2147483647 := Int.emod_nonneg _ (by decide)
    have h1 : ((s : Int) * 31 + n) % 2147483647 < 2147483647 := Int.emod_lt_of_pos _ (by decide)
    obtain ⟨s2, e⟩ := Int.eq_ofNat_of_zero_le h0
    obtain ⟨s', y, hs', v', hv', h⟩ := seed_go (S := S) r s2 (some (.d (.int n))) (.inr ⟨_, rfl⟩) (by omega)
    have hl : s.log2 + Nat.log2 31 < 1000000 := by
      have h1 := (sm_of (a := s) 31 (by omega)).log
      have h2 := (sm_of (a := 31) 5 (by decide)).log
      omega
    refine ⟨s', y, hs', v', hv', ?_⟩
    rw [List.map_cons, forGo_cons]
    rcases hv with rfl | ⟨z, rfl⟩ <;> simp [hl, e, h]
theorem cells_go {S s : D} : ∀ (ns : List Int), ∃ cells : List Nat, lcGo (DL.gName 2) (dTest (dOp2 opGe (dVar 2) (dOp2 opPow (dC (.int 10)) (dC (.int 18))))) (dVar 2) [2] (ns.map .int) [some (.d S), some (.d s), none] = some (cells.map N, [some (.d S), some (.d s), none])
  | [] => ⟨[], by simp [lcGo_nil]⟩
  | n :: r => by
    obtain ⟨cells, h⟩ := cells_go (S := S) (s := s) r
    by_cases c : (1000000000000000000 : Int) ≤ n
    · obtain ⟨m, rfl⟩ := Int.eq_ofNat_of_zero_le (Int.le_trans (by decide) c)
      refine ⟨m :: cells, ?_⟩
      rw [List.map_cons, lcGo_cons]
      simp [pow_ten, -opPow_ii, c, h]
    · refine ⟨cells, ?_⟩
      rw [List.map_cons, lcGo_cons]
      simp [pow_ten, -opPow_ii, c, h]
theorem purse_ok (ns : List Int) (hn : ns.length ≤ 63) : ∃ P, Purse 0 P ∧ m__law_purse [.d (.list (ns.map .int))] = some (.own P, []) := by
  obtain ⟨s, y, hs, v, hv, h⟩ := seed_go (S := .list (ns.map .int)) ns 7 none (.inl rfl) (by decide)
  obtain ⟨cells, h2⟩ := cells_go (S := .list (ns.map .int)) (s := N s) ns
  have h3 := cut63 (ns.map .int) (by simpa using hn)
  have hl : ns.length ≤ 16777216 := by omega
  refine ⟨purse cells 0 0 0 s, ⟨cells, 0, 0, 0, s, rfl, Nat.zero_le _, Nat.le_refl _, hs⟩, ?_⟩
  simp [N] at h
  rcases hv with rfl | rfl <;> simp [m__law_purse, g__law_purse, run_ap, startD, DL.sizeLine_eq, h3, h, h2, hl, purse]

end P
end

section
set_option linter.all false
namespace DL
open PySem
section
variable {α : Type} {g : DG} {t : DT} {e : DE} {b : DS} {vs : List Nat}
/-- a comprehension over mapped things that touches nothing but its own slots -/
theorem lc_mapA (h : α → D) (F : α → Option D) : ∀ {l : List α} {st : DSt}, (∀ a ∈ l, okP (g (h a) st) fun s1 => okP (t s1) fun p => (p.1 = false ∧ F a = none ∧ wipeD p.2 vs = st) ∨ (p.1 = true ∧ okP (e p.2) fun q => okP (toD q.2 q.1) fun r => F a = some r.1 ∧ wipeD r.2 vs = st)) →
    lcGo g t e vs (l.map h) st = some (l.filterMap F, st)
  | [], st, _ => by rw [List.map_nil, lcGo_nil, List.filterMap_nil]
  | x :: xs, st, H => by
    have ih := lc_mapA h F (l := xs) (st := st) fun y hy => H y (List.mem_cons_of_mem _ hy)
    obtain ⟨s1, e1, ⟨p1, p2⟩, e2, h2⟩ := H x List.mem_cons_self
    rw [List.map_cons, lcGo_cons, e1, List.filterMap_cons]
    show obind (t s1) (kLcTurnT g t e vs (xs.map h)) = _
    rw [e2]
    rcases h2 with ⟨h3, h4, h5⟩ | ⟨h3, ⟨q1, q2⟩, e3, ⟨r1, r2⟩, e4, h4, h5⟩
    · subst h3
      have h5 : wipeD p2 vs = st := h5
      show lcGo g t e vs (xs.map h) (wipeD p2 vs) = _
      rw [h5, ih, h4]
    · subst h3
      show obind (e p2) (kLcTurnD g t e vs (xs.map h)) = _
      have e3 : e p2 = some (q1, q2) := e3
      rw [e3]
      show obind (toD q2 q1) (kLcTurnE g t e vs (xs.map h)) = _
      have e4 : toD q2 q1 = some (r1, r2) := e4
      rw [e4]
      show obind (lcGo g t e vs (xs.map h) (wipeD r2 vs)) (kPush r1) = _
      have h5 : wipeD r2 vs = st := h5
      rw [h5, ih, h4]
      rfl
/-- the same, without tests: each gives one -/
theorem lc_mapE (h : α → D) (F : α → D) {l : List α} {st : DSt} (H : ∀ a ∈ l, okP (g (h a) st) fun s1 => okP (t s1) fun p => p.1 = true ∧ okP (e p.2) fun q => okP (toD q.2 q.1) fun r => F a = r.1 ∧ wipeD r.2 vs = st) :
    lcGo g t e vs (l.map h) st = some (l.map F, st) := by
  rw [lc_mapA h (fun a => some (F a)) fun a ha => ?_]
  · show some (l.filterMap (some ∘ F), st) = _
    rw [List.filterMap_eq_map]
  · refine (H a ha).mono fun s1 h1 => h1.mono fun p ⟨h2, h3⟩ => .inr ⟨h2, h3.mono fun q h4 => h4.mono fun r ⟨h5, h6⟩ => ⟨by rw [h5], h6⟩⟩
/-- a test picks -/
theorem lc_filter (h : α → D) (p : α → Bool) {l : List α} {st : DSt} (H : ∀ a ∈ l, okP (g (h a) st) fun s1 => okP (t s1) fun q => (q.1 = false ∧ p a = false ∧ wipeD q.2 vs = st) ∨ (q.1 = true ∧ p a = true ∧ okP (e q.2) fun q => okP (toD q.2 q.1) fun r => r.1 = h a ∧ wipeD r.2 vs = st)) :
    lcGo g t e vs (l.map h) st = some ((l.filter p).map h, st) := by
  rw [lc_mapA h (fun a => if p a = true then some (h a) else none) fun a ha => ?_]
  · congr 2
    clear H
    induction l with
    | nil => rfl
    | cons x r ih => by_cases c : p x = true <;> simp [c, ih]
  · refine (H a ha).mono fun s1 h1 => h1.mono fun q h2 => ?_
    rcases h2 with ⟨h3, h4, h5⟩ | ⟨h3, h4, h5⟩
    · exact .inl ⟨h3, by simp [h4], h5⟩
    · exact .inr ⟨h3, h5.mono fun q h6 => h6.mono fun r ⟨h7, h8⟩ => ⟨by simp [h4, h7], h8⟩⟩
/-- a loop over mapped things -/
theorem for_list (h : α → D) (I : List α → DSt → Prop) {Q : Fl × DSt → Prop} : ∀ {l : List α} {st : DSt}, I l st →
    (∀ a r s, I (a :: r) s → okP (g (h a) s) fun s1 => okP (b s1) fun p => (p.1 = .nx ∨ p.1 = .ct) ∧ I r p.2) → (∀ s, I [] s → Q (.nx, s)) → okP (forGo g b (l.map h) st) Q
  | [], st, h0, _, hk => by
    rw [List.map_nil, forGo_nil, okP_some]
    exact hk st h0
  | x :: xs, st, h0, hs, hk => by
    rw [List.map_cons, forGo_cons, okP_obind]
    refine (hs x xs st h0).mono fun s1 h1 => ?_
    show okP (obind (b s1) (kForb g b (xs.map h))) Q
    rw [okP_obind]
    refine h1.mono fun p ⟨h2, h3⟩ => ?_
    have := for_list h I (Q := Q) h3 hs hk
    rcases p with ⟨p1, p2⟩
    rcases h2 with rfl | rfl
    · exact this
    · exact this
/-- a loop that may hand back -/
theorem for_ret (h : α → D) (I : List α → DSt → Prop) {Q : Fl × DSt → Prop} : ∀ {l : List α} {st : DSt}, I l st →
    (∀ a r s, I (a :: r) s → okP (g (h a) s) fun s1 => okP (b s1) fun p => ((p.1 = .nx ∨ p.1 = .ct) ∧ I r p.2) ∨ ((∃ x, p.1 = .rt x) ∧ Q p)) → (∀ s, I [] s → Q (.nx, s)) → okP (forGo g b (l.map h) st) Q
  | [], st, h0, _, hk => by
    rw [List.map_nil, forGo_nil, okP_some]
    exact hk st h0
  | x :: xs, st, h0, hs, hk => by
    rw [List.map_cons, forGo_cons, okP_obind]
    refine (hs x xs st h0).mono fun s1 h1 => ?_
    show okP (obind (b s1) (kForb g b (xs.map h))) Q
    rw [okP_obind]
    refine h1.mono fun p h2 => ?_
    rcases p with ⟨p1, p2⟩
    rcases h2 with ⟨h2, h3⟩ | ⟨⟨x, h2⟩, h3⟩
    · have := for_ret h I (Q := Q) h3 hs hk
      rcases h2 with rfl | rfl
      · exact this
      · exact this
    · have h2 : p1 = .rt x := h2
      subst h2
      exact ⟨_, rfl, h3⟩
/-- a comprehension whose turns change the rest: each gives one -/
theorem lc_list (h : α → D) (I : List α → DSt → Prop) (P : α → D → Prop) : ∀ {l : List α} {st : DSt} {Q : List D × DSt → Prop}, I l st →
    (∀ a r s, I (a :: r) s → okP (g (h a) s) fun s1 => okP (t s1) fun p => p.1 = true ∧ okP (e p.2) fun q => okP (toD q.2 q.1) fun r2 => P a r2.1 ∧ I r (wipeD r2.2 vs)) →
    (∀ ys s, ys.length = l.length → (∀ (i : Nat) (a : α) (y : D), l[i]? = some a → ys[i]? = some y → P a y) → I [] s → Q (ys, s)) → okP (lcGo g t e vs (l.map h) st) Q
  | [], st, Q, h0, _, hk => by
    rw [List.map_nil, lcGo_nil, okP_some]
    exact hk [] st rfl (fun i a y e _ => by simp at e) h0
  | x :: xs, st, Q, h0, hs, hk => by
    rw [List.map_cons, lcGo_cons, okP_obind]
    refine (hs x xs st h0).mono fun s1 h1 => ?_
    show okP (obind (t s1) (kLcTurnT g t e vs (xs.map h))) Q
    rw [okP_obind]
    refine h1.mono fun p ⟨h2, h3⟩ => ?_
    rcases p with ⟨p1, p2⟩
    subst h2
    show okP (obind (e p2) (kLcTurnD g t e vs (xs.map h))) Q
    rw [okP_obind]
    refine h3.mono fun q h4 => ?_
    rcases q with ⟨q1, q2⟩
    show okP (obind (toD q2 q1) (kLcTurnE g t e vs (xs.map h))) Q
    rw [okP_obind]
    refine h4.mono fun r ⟨h5, h6⟩ => ?_
    rcases r with ⟨r1, r2⟩
    show okP (obind (lcGo g t e vs (xs.map h) (wipeD r2 vs)) (kPush r1)) Q
    rw [okP_obind]
    refine lc_list h I P h6 hs fun ys s l hp hi => ?_
    show okP (some (r1 :: ys, s)) Q
    rw [okP_some]
    refine hk _ _ (by simp [l]) (fun i a y e1 e2 => ?_) hi
    cases i with
    | zero =>
      simp at e1 e2
      subst e1
      subst e2
      exact h5
    | succ i => exact hp i a y (by simpa using e1) (by simpa using e2)
/-- a loop over things of a kind -/
theorem for_items {Pr : D → Prop} (I : List D → DSt → Prop) {Q : Fl × DSt → Prop} : ∀ {l : List D} {st : DSt}, (∀ a ∈ l, Pr a) → I l st →
    (∀ a r s, Pr a → I (a :: r) s → okP (g a s) fun s1 => okP (b s1) fun p => (p.1 = .nx ∨ p.1 = .ct) ∧ I r p.2) → (∀ s, I [] s → Q (.nx, s)) → okP (forGo g b l st) Q
  | [], st, _, h0, _, hk => by
    rw [forGo_nil, okP_some]
    exact hk st h0
  | x :: xs, st, hp, h0, hs, hk => by
    rw [forGo_cons, okP_obind]
    refine (hs x xs st (hp x (by simp)) h0).mono fun s1 h1 => ?_
    show okP (obind (b s1) (kForb g b xs)) Q
    rw [okP_obind]
    refine h1.mono fun p ⟨h2, h3⟩ => ?_
    have := for_items I (Q := Q) (fun a ha => hp a (by simp [ha])) h3 hs hk
    rcases p with ⟨p1, p2⟩
    rcases h2 with rfl | rfl
    · exact this
    · exact this
end
end DL
namespace P
open PySem DL
theorem map_range {α β : Type} (d : α) (f : α → β) (ts : List α) : ts.map f = (List.range ts.length).map fun i => f (ts.getD i d) := by
  apply List.ext_getElem
  · simp
  · intro i h1 h2
    have : i < ts.length := by simpa using h1
    simp [List.getD_eq_getElem?_getD, List.getElem?_eq_getElem this]
theorem zip_range {α β γ : Type} (f : α → β) (g : α → γ) (l : List α) : (l.map f).zip (l.map g) = l.map fun a => (f a, g a) := by
  induction l with
  | nil => rfl
  | cons x r ih => simp [ih]
theorem enum_range {α : Type} (f : α → D) (l : List α) : ((l.map f).zipIdx).map (fun p => PyData.tuple [.int (p.2 : Nat), p.1]) = l.zipIdx.map fun p => PyData.tuple [.int (p.2 : Nat), f p.1] := by
  rw [List.zipIdx_map, List.map_map]
  rfl
theorem zipIdx_range (n : Nat) : (List.range n).zipIdx = (List.range n).map fun i => (i, i) := by
  apply List.ext_getElem
  · simp
  · intro i h1 h2
    simp
end P
end

section
set_option linter.all false
namespace P
open PySem DL
/-! ## equal data without bools -/
mutual
def intd : D → Bool
  | .none => true
  | .int _ => true
  | .str _ => true
  | .list xs => intdAll xs
  | .tuple xs => intdAll xs
  | _ => false
def intdAll : List D → Bool
  | [] => true
  | x :: r => intd x && intdAll r
end
mutual
theorem eqv_iff : ∀ x y : D, intd x = true → intd y = true → (PyData.eqv x y = true ↔ x = y)
  | .none, y, _, h => by cases y <;> simp [PyData.eqv] <;> simp [intd] at h
  | .int i, y, _, h => by cases y <;> simp [PyData.eqv] <;> simp [intd] at h
  | .str i, y, _, h => by cases y <;> simp [PyData.eqv] <;> simp [intd] at h
  | .list xs, y, h1, h => by
    cases y <;> simp [PyData.eqv] <;> simp [intd] at h
    exact eqvAll_iff xs _ (by simpa [intd] using h1) h
  | .tuple xs, y, h1, h => by
    cases y <;> simp [PyData.eqv] <;> simp [intd] at h
    exact eqvAll_iff xs _ (by simpa [intd] using h1) h
  | .bool _, _, h, _ => by simp [intd] at h
  | .dict _, _, h, _ => by simp [intd] at h
theorem eqvAll_iff : ∀ xs ys : List D, intdAll xs = true → intdAll ys = true → (PyData.eqvAll xs ys = true ↔ xs = ys)
  | [], ys, _, _ => by cases ys <;> simp [PyData.eqvAll]
  | x :: r, [], _, _ => by simp [PyData.eqvAll]
  | x :: r, y :: s, h1, h2 => by
    simp only [intdAll, Bool.and_eq_true] at h1 h2
    simp [PyData.eqvAll, eqv_iff x y h1.1 h2.1, eqvAll_iff r s h1.2 h2.2]
end
mutual
theorem intd_plain : ∀ x : D, intd x = true → x.plain = true
  | .none, _ => by simp [PyData.plain]
  | .int _, _ => by simp [PyData.plain]
  | .str _, _ => by simp [PyData.plain]
  | .list xs, h => by simpa [PyData.plain] using intd_plainAll xs (by simpa [intd] using h)
  | .tuple xs, h => by simpa [PyData.plain] using intd_plainAll xs (by simpa [intd] using h)
  | .bool _, h => by simp [intd] at h
  | .dict _, h => by simp [intd] at h
theorem intd_plainAll : ∀ xs : List D, intdAll xs = true → PyData.plainAll xs = true
  | [], _ => by simp [PyData.plainAll]
  | x :: r, h => by
    simp only [intdAll, Bool.and_eq_true] at h
    simp [PyData.plainAll, intd_plain x h.1, intd_plainAll r h.2]
end
theorem intd_map {α : Type} {f : α → D} : ∀ {l : List α}, (∀ a ∈ l, intd (f a) = true) → intdAll (l.map f) = true
  | [], _ => rfl
  | x :: r, h => by
    simp only [List.map_cons, intdAll, Bool.and_eq_true]
    exact ⟨h x (by simp), intd_map fun a ha => h a (by simp [ha])⟩
theorem depth_map {α : Type} {f : α → D} {n : Nat} : ∀ {l : List α}, (∀ a ∈ l, (f a).depth ≤ n) → PyData.depthAll (l.map f) ≤ n
  | [], _ => by simp [PyData.depthAll]
  | x :: r, h => by
    have := depth_map (n := n) (l := r) fun a ha => h a (by simp [ha])
    have := h x (by simp)
    simp only [List.map_cons, PyData.depthAll]
    omega
theorem intd_eq {x y : D} (h1 : intd x = true) (h2 : intd y = true) (d1 : x.depth ≤ 64) (d2 : y.depth ≤ 64) {b : Bool} (hb : b = true ↔ x = y) : opEq x y = some (.d (.bool b)) ∧ opNe x y = some (.d (.bool (!b))) := by
  have f1 : flat x = true := by simp [flat, intd_plain x h1, d1]
  have f2 : flat y = true := by simp [flat, intd_plain y h2, d2]
  have e : PyData.eqv x y = b := by
    rw [Bool.eq_iff_iff, eqv_iff x y h1 h2, hb]
  simp [opEq, opNe, f1, f2, e]
theorem Q_intd (r : Rat) : intd (Q r) = true ∧ (Q r).depth = 1 := by simp [Q, intd, intdAll, PyData.depth, PyData.depthAll]
theorem N_intd (k : Nat) : intd (N k) = true ∧ (N k).depth = 0 := by simp [intd, PyData.depth]
theorem Q_eq (r s : Rat) : opEq (Q r) (Q s) = some (.d (.bool (decide (r = s)))) ∧ opNe (Q r) (Q s) = some (.d (.bool (!decide (r = s)))) :=
  intd_eq (Q_intd r).1 (Q_intd s).1 (by rw [(Q_intd r).2]; decide) (by rw [(Q_intd s).2]; decide) (by simp only [decide_eq_true_eq]; exact ⟨fun h => by rw [h], Q_inj⟩)
theorem tab_inj {ts us : List Nat} (h : tab ts = tab us) : ts = us := by
  have : Ns ts = Ns us := by simpa using h
  unfold Ns at this
  exact List.map_inj_right (fun a b e => by simp only [PyData.int.injEq] at e; omega) |>.mp this
theorem tab_intd (ts : List Nat) : intd (tab ts) = true ∧ (tab ts).depth ≤ 1 := by
  constructor
  · show intdAll (Ns ts) = true
    exact intd_map fun a _ => (N_intd a).1
  · have : PyData.depthAll (Ns ts) ≤ 0 := depth_map fun a _ => by rw [(N_intd a).2]; decide
    simp [PyData.depth]
    omega
theorem tab_eq (ts us : List Nat) : opEq (tab ts) (tab us) = some (.d (.bool (decide (ts = us)))) ∧ opNe (tab ts) (tab us) = some (.d (.bool (!decide (ts = us)))) :=
  intd_eq (tab_intd ts).1 (tab_intd us).1 (Nat.le_trans (tab_intd ts).2 (by decide)) (Nat.le_trans (tab_intd us).2 (by decide)) (by simp only [decide_eq_true_eq]; exact ⟨fun h => by rw [h], tab_inj⟩)
def Qs (rs : List Rat) : D := .list (rs.map Q)
theorem Qs_inj {rs ss : List Rat} (h : Qs rs = Qs ss) : rs = ss := by
  have : rs.map Q = ss.map Q := by simpa [Qs] using h
  exact List.map_inj_right (fun a b e => Q_inj e) |>.mp this
theorem Qs_eq (rs ss : List Rat) : opEq (Qs rs) (Qs ss) = some (.d (.bool (decide (rs = ss)))) ∧ opNe (Qs rs) (Qs ss) = some (.d (.bool (!decide (rs = ss)))) := by
  have i : ∀ l : List Rat, intd (Qs l) = true ∧ (Qs l).depth ≤ 2 := fun l => by
    constructor
    · show intdAll (l.map Q) = true
      exact intd_map fun a _ => (Q_intd a).1
    · have : PyData.depthAll (l.map Q) ≤ 1 := depth_map fun a _ => by rw [(Q_intd a).2]; decide
      simp [Qs, PyData.depth]
      omega
  exact intd_eq (i rs).1 (i ss).1 (Nat.le_trans (i rs).2 (by decide)) (Nat.le_trans (i ss).2 (by decide)) (by simp only [decide_eq_true_eq]; exact ⟨fun h => by rw [h], Qs_inj⟩)
/-! ## odds of a table -/
theorem sh_div (ts : List Nat) (t : Nat) : sh ts t = (t : Rat) / (ts.sum : Rat) := by
  unfold sh
  rw [Rat.mkRat_eq_div]
  rfl
theorem sh_sum (ts : List Nat) : ∀ us : List Nat, (us.map (sh ts)).sum = sh ts us.sum
  | [] => by
    rw [sh_div]
    show (0 : Rat) = ((0 : Nat) : Rat) / _
    have : ((0 : Nat) : Rat) = 0 := rfl
    rw [this]
    grind
  | u :: r => by
    rw [List.map_cons, List.sum_cons, sh_sum ts r, List.sum_cons, sh_div, sh_div, sh_div]
    have : ((u + r.sum : Nat) : Rat) = (u : Rat) + (r.sum : Rat) := by simp [Rat.natCast_add]
    rw [this]
    grind
theorem sh_one {ts : List Nat} (h : 0 < ts.sum) : (ts.map (sh ts)).sum = 1 := by
  rw [sh_sum, sh_div]
  have : (ts.sum : Rat) ≠ 0 := by
    intro z
    have : ts.sum = 0 := by exact_mod_cast z
    omega
  grind
theorem sh_inj {ts us : List Nat} (h : 0 < ts.sum) (h' : 0 < us.sum) (a b : Nat) : sh ts a = sh us b ↔ a * us.sum = b * ts.sum := by
  unfold sh
  rw [Rat.mkRat_eq_iff (by omega) (by omega)]
  constructor
  · intro z; exact_mod_cast z
  · intro z; exact_mod_cast z
theorem gall_mul (k : Nat) : ∀ (ts : List Nat) (g : Nat), gall (ts.map (· * k)) (g * k) = gall ts g * k
  | [], g => rfl
  | t :: r, g => by
    rw [List.map_cons, gall, Nat.gcd_mul_right, gall_mul k r, gall]
theorem gg_mul (k : Nat) (ts : List Nat) : gg (ts.map (· * k)) = gg ts * k := by
  have := gall_mul k ts 0
  rw [Nat.zero_mul] at this
  exact this
theorem lw_mul {ts : List Nat} {k : Nat} (hk : 0 < k) : lw (ts.map (· * k)) = lw ts := by
  unfold lw
  rw [gg_mul, List.map_map]
  congr 1
  funext t
  exact Nat.mul_div_mul_right _ _ hk
theorem lw_back {ts : List Nat} (h : 0 < ts.sum) : ts = (lw ts).map (· * gg ts) := by
  unfold lw
  rw [List.map_map]
  conv => lhs; rw [← List.map_id ts]
  apply List.map_congr_left
  intro t ht
  exact (Nat.div_mul_cancel ((gall_dvd ts 0).2 t ht)).symm
theorem sum_mul (k : Nat) : ∀ ts : List Nat, (ts.map (· * k)).sum = ts.sum * k
  | [] => by simp
  | t :: r => by
    rw [List.map_cons, List.sum_cons, sum_mul k r, List.sum_cons, Nat.add_mul]
theorem map_mul_len (k : Nat) (ts : List Nat) : (ts.map (· * k)).length = ts.length := by simp
/-- like tables have the same odds -/
theorem like_iff {ts us : List Nat} (h : 0 < ts.sum) (h' : 0 < us.sum) : lw ts = lw us ↔ ts.map (sh ts) = us.map (sh us) := by
  constructor
  · intro e
    have e1 := lw_back h
    have e2 := lw_back h'
    have g1 := gg_pos h
    have g2 := gg_pos h'
    have key : ∀ {vs : List Nat} (hv : 0 < vs.sum), vs.map (sh vs) = (lw vs).map (sh (lw vs)) := fun {vs} hv => by
      have ev := lw_back hv
      have es : vs.sum = (lw vs).sum * gg vs := by
        conv => lhs; rw [ev]
        exact sum_mul _ _
      have hl : 0 < (lw vs).sum := by
        apply Classical.byContradiction
        intro z
        rw [Nat.eq_zero_of_not_pos z, Nat.zero_mul] at es
        omega
      conv => lhs; rw [show vs.map (sh vs) = ((lw vs).map (· * gg vs)).map (sh vs) by rw [← ev]]
      rw [List.map_map]
      apply List.map_congr_left
      intro t _
      show sh vs (t * gg vs) = sh (lw vs) t
      rw [sh_inj hv hl, es, Nat.mul_assoc, Nat.mul_comm (gg vs)]
    rw [key h, key h', e]
  · intro e
    have hl : ts.length = us.length := by
      have := congrArg List.length e
      simpa using this
    have e2 : ts.map (· * us.sum) = us.map (· * ts.sum) := by
      apply List.ext_getElem
      · simp [hl]
      · intro i h1 h2
        have i1 : i < ts.length := by simpa using h1
        have i2 : i < us.length := by simpa using h2
        have := congrArg (fun l => l[i]?) e
        simp only [List.getElem?_map, List.getElem?_eq_getElem i1, List.getElem?_eq_getElem i2, Option.map_some, Option.some.injEq] at this
        simp only [List.getElem_map]
        exact (sh_inj h h' _ _).mp this
    rw [← lw_mul (ts := ts) h', ← lw_mul (ts := us) h, e2]
theorem like_ok {ts us : List Nat} (hl : ts.length ≤ 1000000) (h0 : 0 < ts.sum) (hT : Sm 8000 ts.sum) (hl' : us.length ≤ 1000000) (h0' : 0 < us.sum) (hT' : Sm 8000 us.sum) :
    m_like [.d (tab ts), .d (tab us)] = some (.d (.bool (decide (lw ts = lw us))), []) := by
  simp [m_like, g_like, run_ap, startD, look_table_ok ts hl h0, look_table_ok us hl' h0', lowered_ok hl h0 hT, lowered_ok hl' h0' hT', (tab_eq (lw ts) (lw us)).1]
/-! ## lists of numbers that were drawn -/
theorem Purse.up {n m : Nat} {P : List D} (h : Purse n P) (hm : n ≤ m) : Purse m P := by
  obtain ⟨cells, ix, cur, cnt, seed, rfl, hi, hc, hs⟩ := h
  exact ⟨cells, ix, cur, cnt, seed, rfl, hi, by omega, hs⟩
theorem of_N (M : Nat) : ∀ (ys : List D), (∀ y ∈ ys, ∃ k : Nat, y = N k ∧ k ≤ M) → ∃ ts : List Nat, ys = Ns ts ∧ ts.length = ys.length ∧ ∀ t ∈ ts, t ≤ M
  | [], _ => ⟨[], rfl, rfl, fun t ht => by simp at ht⟩
  | y :: r, h => by
    obtain ⟨k, rfl, hk⟩ := h y (by simp)
    obtain ⟨ts, e, l, b⟩ := of_N M r fun z hz => h z (by simp [hz])
    refine ⟨k :: ts, by rw [e]; rfl, by simp [l], fun t ht => ?_⟩
    rcases List.mem_cons.mp ht with rfl | ht
    · exact hk
    · exact b t ht
theorem set_Ns (ts : List Nat) (i k : Nat) : (Ns ts).set i (N k) = Ns (ts.set i k) := by simp [Ns, List.map_set]
theorem sum_set : ∀ (ts : List Nat) (i k : Nat), i < ts.length → 0 < k → 0 < (ts.set i k).sum
  | [], i, k, h, _ => by simp at h
  | x :: r, 0, k, h, hk => by simp; omega
  | x :: r, i + 1, k, h, hk => by
    have := sum_set r i k (by simpa using h) hk
    simp
    omega
theorem of_items {l : List α} {ys : List D} {Pr : D → Prop} (hl : ys.length = l.length) (h : ∀ (i : Nat) (a : α) (y : D), l[i]? = some a → ys[i]? = some y → Pr y) : ∀ y ∈ ys, Pr y := fun y hy => by
  obtain ⟨i, hi⟩ := List.mem_iff_getElem?.mp hy
  have h1 := (List.getElem?_eq_some_iff.mp hi).1
  exact h i (l[i]'(by omega)) y (List.getElem?_eq_getElem (by omega)) hi
end P
end

section
set_option linter.all false
namespace P
open PySem DL
noncomputable def g_is_state : DS := dSeq (dIfS (dOr (dNot (dTest (dOp1 (bIsi "tuple") (dVar 0)))) (dTest (dOp2 opNe (dCallB bLen (dCons (dVar 0) (dNil))) (dC (.int 2))))) (dRet (dC (.bool false))) (dNext)) (dSeq (dAsg (DL.gTup 2 (DL.gCons (DL.gName 3) (DL.gCons (DL.gName 4) (DL.gNil)))) (dVar 0)) (dSeq (dIfS (dOr (dNot (dTest (dCall m_is_table [false] [] (dCons (dVar 3) (dNil))))) (dOr (dTest (dOp2 opNe (dCallB bLen (dCons (dVar 3) (dNil))) (dOp2 opAdd (dVar 1) (dC (.int 1))))) (dOr (dNot (dTest (dOp1 (bIsi "list") (dVar 4)))) (dTest (dOp2 opNe (dCallB bLen (dCons (dVar 4) (dNil))) (dVar 1)))))) (dRet (dC (.bool false))) (dNext)) (dSeq (dFor (dIterA DL.iZip (dCons (dVar 3) (dCons (dVar 4) (dNil)))) (DL.gTup 2 (DL.gCons (DL.gName 5) (DL.gCons (DL.gName 6) (DL.gNil)))) (dSeq (dIfS (dOr (dAnd (dTest (dOp2 opIs (dVar 6) (dC .none))) (dTest (dOp2 opGt (dVar 5) (dC (.int 0))))) (dAnd (dTest (dOp2 opIsNot (dVar 6) (dC .none))) (dTest (dOp2 opEq (dVar 5) (dC (.int 0)))))) (dRet (dC (.bool false))) (dNext)) (dIfS (dAnd (dTest (dOp2 opIsNot (dVar 6) (dC .none))) (dNot (dAnd (dTest (dCall m_is_count [false] [PyData.int 0] (dCons (dVar 6) (dNil)))) (dTest (dOp2 opLt (dVar 6) (dVar 2)))))) (dRet (dC (.bool false))) (dNext)))) (dRet (dC (.bool true))))))
noncomputable def m_is_state : Fn := run 7 g_is_state
noncomputable def g_is_model : DS := dSeq (dIfS (dOr (dNot (dTest (dOp1 (bIsi "tuple") (dVar 0)))) (dOr (dTest (dOp2 opNe (dCallB bLen (dCons (dVar 0) (dNil))) (dC (.int 3)))) (dOr (dNot (dTest (dOp1 (bIsi "str") (dOp2 opIx (dVar 0) (dC (.int 0)))))) (dTest (dOp2 opNe (dOp2 opIx (dVar 0) (dC (.int 0))) (dC (.str (Str.ofString "model")))))))) (dRet (dC (.bool false))) (dNext)) (dSeq (dIfS (dOr (dNot (dTest (dCall m_is_count [false, false] [] (dCons (dOp2 opIx (dVar 0) (dC (.int 1))) (dCons (dC (.int 1)) (dNil)))))) (dOr (dTest (dOp2 opGt (dOp2 opIx (dVar 0) (dC (.int 1))) (dC (.int 40)))) (dOr (dNot (dTest (dOp1 (bIsi "list") (dOp2 opIx (dVar 0) (dC (.int 2)))))) (dTest (dOp2 opEq (dOp2 opIx (dVar 0) (dC (.int 2))) (dList (dNil))))))) (dRet (dC (.bool false))) (dNext)) (dRet (dCallB bAll (dCons (dLc (dIter DL.iSeq (dOp2 opIx (dVar 0) (dC (.int 2)))) (DL.gName 1) (dTests) (dCall m_is_state [false, false, false] [] (dCons (dVar 1) (dCons (dOp2 opIx (dVar 0) (dC (.int 1))) (dCons (dCallB bLen (dCons (dOp2 opIx (dVar 0) (dC (.int 2))) (dNil))) (dNil))))) [1]) (dNil)))))
noncomputable def m_is_model : Fn := run 2 g_is_model
noncomputable def g_look_at_model : DS := dIfS (dNot (dTest (dCall m_is_model [false] [] (dCons (dVar 0) (dNil))))) (dNever) (dNext)
noncomputable def m_look_at_model : Fn := run 1 g_look_at_model
noncomputable def g_is_row : DS := dRet (dAndV (dOp1 (bIsi "list") (dVar 0)) (dCallB bAll (dCons (dLc (dIter DL.iSeq (dVar 0)) (DL.gName 2) (dTests) (dAndV (dCall m_is_count [false] [PyData.int 0] (dCons (dVar 2) (dNil))) (dOp2 opLt (dVar 2) (dVar 1))) [2]) (dNil))))
noncomputable def m_is_row : Fn := run 3 g_is_row
noncomputable def g_is_beginning : DS := dSeq (dIfS (dOr (dNot (dTest (dOp1 (bIsi "list") (dVar 0)))) (dNot (dTest (dCall m_is_row [false, false] [] (dCons (dSlice opSlice (dVar 0) (dNoPart) (dPart (dOp1 opNeg (dC (.int 1))))) (dCons (dVar 1) (dNil))))))) (dRet (dC (.bool false))) (dNext)) (dRet (dOrV (dOp2 opEq (dVar 0) (dList (dNil))) (dAndV (dCall m_is_count [false] [PyData.int 0] (dCons (dOp2 opIx (dVar 0) (dOp1 opNeg (dC (.int 1)))) (dNil))) (dOp2 opLe (dOp2 opIx (dVar 0) (dOp1 opNeg (dC (.int 1)))) (dVar 1)))))
noncomputable def m_is_beginning : Fn := run 2 g_is_beginning
noncomputable def g_look_at_row : DS := dIfS (dNot (dTest (dCall m_is_row [false, false] [] (dCons (dVar 0) (dCons (dVar 1) (dNil)))))) (dNever) (dNext)
noncomputable def m_look_at_row : Fn := run 2 g_look_at_row
noncomputable def g_led : DS := dSeq (dSet 2 (dC (.int 0))) (dSeq (dFor (dIter DL.iSeq (dVar 1)) (DL.gName 3) (dSet 2 (dIf (dTest (dOp2 opIs (dVar 2) (dC .none))) (dC .none) (dOp2 opIx (dOp2 opIx (dOp2 opIx (dOp2 opIx (dVar 0) (dC (.int 2))) (dVar 2)) (dC (.int 1))) (dVar 3))))) (dRet (dVar 2)))
noncomputable def m_led : Fn := run 4 g_led
noncomputable def g_state_behind : DS := dSeq (dDrop (dCall m_look_at_model [false] [] (dCons (dVar 0) (dNil)))) (dSeq (dDrop (dCall m_look_at_row [false, false] [] (dCons (dVar 1) (dCons (dOp2 opIx (dVar 0) (dC (.int 1))) (dNil))))) (dRet (dCall m_led [false, false] [] (dCons (dVar 0) (dCons (dVar 1) (dNil))))))
noncomputable def m_state_behind : Fn := run 2 g_state_behind
noncomputable def g_table_behind : DS := dSeq (dSet 2 (dCall m_state_behind [false, false] [] (dCons (dVar 0) (dCons (dVar 1) (dNil))))) (dRet (dIf (dTest (dOp2 opIs (dVar 2) (dC .none))) (dC .none) (dCallB bList (dCons (dOp2 opIx (dOp2 opIx (dOp2 opIx (dVar 0) (dC (.int 2))) (dVar 2)) (dC (.int 0))) (dNil)))))
noncomputable def m_table_behind : Fn := run 3 g_table_behind
noncomputable def g_odds_along : DS := dSeq (dAsg (DL.gTup 2 (DL.gCons (DL.gName 2) (DL.gCons (DL.gName 3) (DL.gNil)))) (dTup (dCons (dTup (dCons (dC (.int 1)) (dCons (dC (.int 1)) (dNil)))) (dCons (dC (.int 0)) (dNil))))) (dSeq (dFor (dIter DL.iSeq (dVar 1)) (DL.gName 4) (dSeq (dIfS (dTest (dOp2 opIs (dVar 3) (dC .none))) (dRet (dTup (dCons (dC (.int 0)) (dCons (dC (.int 1)) (dNil))))) (dNext)) (dSeq (dAsg (DL.gTup 2 (DL.gCons (DL.gName 5) (DL.gCons (DL.gName 6) (DL.gNil)))) (dOp2 opIx (dOp2 opIx (dVar 0) (dC (.int 2))) (dVar 3))) (dSeq (dSet 2 (dCall m_times [false, false] [] (dCons (dVar 2) (dCons (dCall m_by_lowest [false, false] [] (dCons (dOp2 opIx (dVar 5) (dVar 4)) (dCons (dCallB bSum (dCons (dVar 5) (dNil))) (dNil)))) (dNil))))) (dSet 3 (dIf (dTest (dOp2 opEq (dVar 4) (dOp2 opIx (dVar 0) (dC (.int 1))))) (dC .none) (dOp2 opIx (dVar 6) (dVar 4)))))))) (dRet (dVar 2)))
noncomputable def m_odds_along : Fn := run 7 g_odds_along
noncomputable def g_odds_of_begin : DS := dSeq (dDrop (dCall m_look_at_model [false] [] (dCons (dVar 0) (dNil)))) (dSeq (dIfS (dNot (dTest (dCall m_is_beginning [false, false] [] (dCons (dVar 1) (dCons (dOp2 opIx (dVar 0) (dC (.int 1))) (dNil)))))) (dNever) (dNext)) (dRet (dCall m_odds_along [false, false] [] (dCons (dVar 0) (dCons (dVar 1) (dNil))))))
noncomputable def m_odds_of_begin : Fn := run 2 g_odds_of_begin
noncomputable def g__law_row : DS := dSeq (dParS 2 [3] (dList (dNil)) (dCons (dC (.int 0)) (dNil))) (dSeq (dFor (dIterA iRange1 (dCons (dCall m__law_draw [true, false] [] (dCons (dVar 0) (dCons (dC (.int 9)) (dNil)))) (dNil))) (DL.gName 4) (dSeq (dSet 5 (dLc (dIterA DL.iEnum (dCons (dOp2 opIx (dOp2 opIx (dOp2 opIx (dVar 1) (dC (.int 2))) (dVar 3)) (dC (.int 1))) (dNil))) (DL.gTup 2 (DL.gCons (DL.gName 6) (DL.gCons (DL.gName 7) (DL.gNil)))) (dTest (dOp2 opIsNot (dVar 7) (dC .none))) (dVar 6) [6, 7])) (dSeq (dIfS (dTest (dOp2 opEq (dVar 5) (dList (dNil)))) (dRet (dVar 2)) (dNext)) (dSeq (dAppend 2 (dCall m__law_pick [true, false] [] (dCons (dVar 0) (dCons (dVar 5) (dNil))))) (dSet 3 (dOp2 opIx (dOp2 opIx (dOp2 opIx (dOp2 opIx (dVar 1) (dC (.int 2))) (dVar 3)) (dC (.int 1))) (dOp2 opIx (dVar 2) (dOp1 opNeg (dC (.int 1)))))))))) (dRet (dVar 2)))
noncomputable def m__law_row : Fn := run 8 g__law_row
noncomputable def g__law_led : DS := dSeq (dSet 2 (dC (.int 0))) (dSeq (dFor (dIter DL.iSeq (dVar 1)) (DL.gName 3) (dSet 2 (dIf (dTest (dOp2 opIs (dVar 2) (dC .none))) (dC .none) (dOp2 opIx (dOp2 opIx (dOp2 opIx (dOp2 opIx (dVar 0) (dC (.int 2))) (dVar 2)) (dC (.int 1))) (dVar 3))))) (dRet (dVar 2)))
noncomputable def m__law_led : Fn := run 4 g__law_led
noncomputable def g__law_odds : DS := dSeq (dAsg (DL.gTup 2 (DL.gCons (DL.gName 2) (DL.gCons (DL.gName 3) (DL.gNil)))) (dTup (dCons (dTup (dCons (dC (.int 1)) (dCons (dC (.int 1)) (dNil)))) (dCons (dC (.int 0)) (dNil))))) (dSeq (dFor (dIter DL.iSeq (dVar 1)) (DL.gName 4) (dSeq (dIfS (dTest (dOp2 opIs (dVar 3) (dC .none))) (dRet (dTup (dCons (dC (.int 0)) (dCons (dC (.int 1)) (dNil))))) (dNext)) (dSeq (dAsg (DL.gTup 2 (DL.gCons (DL.gName 5) (DL.gCons (DL.gName 6) (DL.gNil)))) (dOp2 opIx (dOp2 opIx (dVar 0) (dC (.int 2))) (dVar 3))) (dSeq (dSet 2 (dCall m__law_times [false, false] [] (dCons (dVar 2) (dCons (dCall m__law_by [false, false] [] (dCons (dOp2 opIx (dVar 5) (dVar 4)) (dCons (dCallB bSum (dCons (dVar 5) (dNil))) (dNil)))) (dNil))))) (dSet 3 (dIf (dTest (dOp2 opEq (dVar 4) (dOp2 opIx (dVar 0) (dC (.int 1))))) (dC .none) (dOp2 opIx (dVar 6) (dVar 4)))))))) (dRet (dVar 2)))
noncomputable def m__law_odds : Fn := run 7 g__law_odds
noncomputable def g__law_model : DS := dSeq (dSet 3 (dOp2 opAdd (dC (.int 1)) (dCall m__law_draw [true, false] [] (dCons (dVar 0) (dCons (dVar 2) (dNil)))))) (dSeq (dAsgO3 4 5 6 (dCall m__law_pick [true, false] [] (dCons (dVar 0) (dCons (dList (dCons (dC (.int 2)) (dCons (dC (.int 3)) (dCons (dC (.int 4)) (dCons (dC (.int 9)) (dCons (dC (.int 1000)) (dCons (dOp2 opPow (dC (.int 10)) (dC (.int 9))) (dNil)))))))) (dNil)))) (dCall m__law_draw [true, false] [] (dCons (dVar 0) (dCons (dC (.int 4)) (dNil)))) (dList (dNil))) (dSeq (dFor (dIterA iRange1 (dCons (dVar 3) (dNil))) (DL.gName 7) (dSeq (dSet 8 (dLc (dIterA iRange1 (dCons (dVar 1) (dNil))) (DL.gName 9) (dTests) (dOp2 opMul (dCall m__law_draw [true, false] [] (dCons (dVar 0) (dCons (dVar 4) (dNil)))) (dCallB bInt (dCons (dOp2 opGt (dCall m__law_draw [true, false] [] (dCons (dVar 0) (dCons (dC (.int 3)) (dNil)))) (dC (.int 0))) (dNil)))) [9])) (dSeq (dAppend 8 (dOp2 opMul (dCall m__law_draw [true, false] [] (dCons (dVar 0) (dCons (dVar 4) (dNil)))) (dCallB bInt (dCons (dAndV (dOp2 opGt (dVar 5) (dC (.int 0))) (dOp2 opEq (dCall m__law_draw [true, false] [] (dCons (dVar 0) (dCons (dVar 5) (dNil)))) (dC (.int 0)))) (dNil))))) (dSeq (dIfS (dTest (dOp2 opEq (dCallB bSum (dCons (dVar 8) (dNil))) (dC (.int 0)))) (dSetIx 8 (dCall m__law_draw [true, false] [] (dCons (dVar 0) (dCons (dOp2 opAdd (dVar 1) (dC (.int 1))) (dNil)))) (dOp2 opAdd (dC (.int 1)) (dCall m__law_draw [true, false] [] (dCons (dVar 0) (dCons (dC (.int 3)) (dNil)))))) (dNext)) (dAppend 6 (dTup (dCons (dVar 8) (dCons (dLc (dIter DL.iSeq (dSlice opSlice (dVar 8) (dNoPart) (dPart (dOp1 opNeg (dC (.int 1)))))) (DL.gName 10) (dTests) (dIf (dTest (dOp2 opGt (dVar 10) (dC (.int 0)))) (dCall m__law_draw [true, false] [] (dCons (dVar 0) (dCons (dVar 3) (dNil)))) (dC .none)) [10]) (dNil))))))))) (dRet (dTup (dCons (dC (.str (Str.ofString "model"))) (dCons (dVar 1) (dCons (dVar 6) (dNil))))))))
noncomputable def m__law_model : Fn := run 11 g__law_model
end P
end

section
set_option linter.all false
namespace P
open PySem DL
/-! ## judges of models, of any data -/
def pairJ (states : Nat) : D → D → Bool
  | .int i, .none => decide (i ≤ 0)
  | .int i, .int j => !(i == 0) && (decide (0 ≤ j) && decide (j < states))
  | _, _ => false
def pairsJ (states : Nat) : List D → List D → Bool
  | x :: xs, y :: ys => pairJ states x y && pairsJ states xs ys
  | _, _ => true
def stateJ (many states : Nat) : D → Bool
  | .tuple [.list t, .list n] => t.all cnt && (decide (0 < isum t) && ((t.length == many + 1) && ((n.length == many) && pairsJ states t n)))
  | _ => false
theorem pairs_go {v t nx : D} {many states : Nat} : ∀ (xs ys : List D) (a b : Option SV), (a = none ∨ ∃ z, a = some (.d z)) → (b = none ∨ ∃ z, b = some (.d z)) → xs.all cnt = true → (∀ y ∈ ys, ∀ k, y ≠ .dict k) → ∃ st',
    forGo (DL.gTup 2 (DL.gCons (DL.gName 5) (DL.gCons (DL.gName 6) (DL.gNil)))) (dSeq (dIfS (dOr (dAnd (dTest (dOp2 opIs (dVar 6) (dC .none))) (dTest (dOp2 opGt (dVar 5) (dC (.int 0))))) (dAnd (dTest (dOp2 opIsNot (dVar 6) (dC .none))) (dTest (dOp2 opEq (dVar 5) (dC (.int 0)))))) (dRet (dC (.bool false))) (dNext)) (dIfS (dAnd (dTest (dOp2 opIsNot (dVar 6) (dC .none))) (dNot (dAnd (dTest (dCall m_is_count [false] [PyData.int 0] (dCons (dVar 6) (dNil)))) (dTest (dOp2 opLt (dVar 6) (dVar 2)))))) (dRet (dC (.bool false))) (dNext)))
      ((xs.zip ys).map fun p => .tuple [p.1, p.2]) [some (.d v), some (.d (.int (many : Nat))), some (.d (.int (states : Nat))), some (.d t), some (.d nx), a, b] = some (if pairsJ states xs ys = true then Fl.nx else Fl.rt (.d (.bool false)), st')
  | [], ys, a, b, ha, hb, hc, hd => ⟨_, by simp [forGo_nil, pairsJ]; rfl⟩
  | x :: xs, [], a, b, ha, hb, hc, hd => ⟨_, by simp [forGo_nil, pairsJ]; rfl⟩
  | x :: xs, y :: ys, a, b, ha, hb, hc, hd => by
    simp only [List.all_cons, Bool.and_eq_true] at hc
    obtain ⟨i, rfl, hi⟩ : ∃ i, x = .int i ∧ 0 ≤ i := by
      have := hc.1
      cases x <;> simp [cnt] at this
      exact ⟨_, rfl, this⟩
    obtain ⟨st', ih⟩ := pairs_go (v := v) (t := t) (nx := nx) (many := many) (states := states) xs ys (some (.d (.int i))) (some (.d y)) (.inr ⟨_, rfl⟩) (.inr ⟨_, rfl⟩) hc.2 fun z hz => hd z (by simp [hz])
    have hy := hd y (by simp)
    simp only [List.zip_cons_cons, List.map_cons, forGo_cons]
    have fin : ∀ (y' : D) (o : Option (Fl × DSt)) (w : DSt), o = some (if pairsJ states (.int i :: xs) (y' :: ys) = true then Fl.nx else Fl.rt (.d (.bool false)), w) → ∃ st' : DSt, o = some (if pairsJ states (.int i :: xs) (y' :: ys) = true then Fl.nx else Fl.rt (.d (.bool false)), st') := fun y' o w h => ⟨w, h⟩
    cases y with
    | dict k => exact absurd rfl (hy k)
    | none =>
      by_cases c : 0 < i
      · refine fin _ _ [some (.d v), some (.d (.int (many : Nat))), some (.d (.int (states : Nat))), some (.d t), some (.d nx), some (.d (.int i)), some (.d (.none))] ?_
        have c' : ¬ i ≤ 0 := by omega
        rcases ha with rfl | ⟨z, rfl⟩ <;> rcases hb with rfl | ⟨w, rfl⟩ <;> simp [pairsJ, pairJ, c, c']
      · refine fin _ _ st' ?_
        have c' : i ≤ 0 := by omega
        rcases ha with rfl | ⟨z, rfl⟩ <;> rcases hb with rfl | ⟨w, rfl⟩ <;> simp [pairsJ, pairJ, c, c', ih]
    | int j =>
      by_cases c : i = 0
      · refine fin _ _ [some (.d v), some (.d (.int (many : Nat))), some (.d (.int (states : Nat))), some (.d t), some (.d nx), some (.d (.int i)), some (.d (.int j))] ?_
        rcases ha with rfl | ⟨z, rfl⟩ <;> rcases hb with rfl | ⟨w, rfl⟩ <;> simp [pairsJ, pairJ, c]
      · have hk := count0_ok (.int j) (by simp)
        by_cases c1 : 0 ≤ j
        · by_cases c2 : j < states
          · refine fin _ _ st' ?_
            rcases ha with rfl | ⟨z, rfl⟩ <;> rcases hb with rfl | ⟨w, rfl⟩ <;> simp [pairsJ, pairJ, c, c1, c2, hk, cnt, ih]
          · refine fin _ _ [some (.d v), some (.d (.int (many : Nat))), some (.d (.int (states : Nat))), some (.d t), some (.d nx), some (.d (.int i)), some (.d (.int j))] ?_
            rcases ha with rfl | ⟨z, rfl⟩ <;> rcases hb with rfl | ⟨w, rfl⟩ <;> simp [pairsJ, pairJ, c, c1, c2, hk, cnt]
        · refine fin _ _ [some (.d v), some (.d (.int (many : Nat))), some (.d (.int (states : Nat))), some (.d t), some (.d nx), some (.d (.int i)), some (.d (.int j))] ?_
          rcases ha with rfl | ⟨z, rfl⟩ <;> rcases hb with rfl | ⟨w, rfl⟩ <;> simp [pairsJ, pairJ, c, c1, hk, cnt]
    | bool j =>
      have hk := count0_ok (.bool j) (by simp)
      refine fin _ _ [some (.d v), some (.d (.int (many : Nat))), some (.d (.int (states : Nat))), some (.d t), some (.d nx), some (.d (.int i)), some (.d (.bool j))] ?_
      by_cases c : i = 0 <;> rcases ha with rfl | ⟨z, rfl⟩ <;> rcases hb with rfl | ⟨w, rfl⟩ <;> simp [pairsJ, pairJ, c, hk, cnt]
    | str j =>
      have hk := count0_ok (.str j) (by simp)
      refine fin _ _ [some (.d v), some (.d (.int (many : Nat))), some (.d (.int (states : Nat))), some (.d t), some (.d nx), some (.d (.int i)), some (.d (.str j))] ?_
      by_cases c : i = 0 <;> rcases ha with rfl | ⟨z, rfl⟩ <;> rcases hb with rfl | ⟨w, rfl⟩ <;> simp [pairsJ, pairJ, c, hk, cnt]
    | list j =>
      have hk := count0_ok (.list j) (by simp)
      refine fin _ _ [some (.d v), some (.d (.int (many : Nat))), some (.d (.int (states : Nat))), some (.d t), some (.d nx), some (.d (.int i)), some (.d (.list j))] ?_
      by_cases c : i = 0 <;> rcases ha with rfl | ⟨z, rfl⟩ <;> rcases hb with rfl | ⟨w, rfl⟩ <;> simp [pairsJ, pairJ, c, hk, cnt]
    | tuple j =>
      have hk := count0_ok (.tuple j) (by simp)
      refine fin _ _ [some (.d v), some (.d (.int (many : Nat))), some (.d (.int (states : Nat))), some (.d t), some (.d nx), some (.d (.int i)), some (.d (.tuple j))] ?_
      by_cases c : i = 0 <;> rcases ha with rfl | ⟨z, rfl⟩ <;> rcases hb with rfl | ⟨w, rfl⟩ <;> simp [pairsJ, pairJ, c, hk, cnt]
theorem isT_list {x : D} (h : isT x = true) : ∃ t, x = .list t ∧ t.all cnt = true ∧ 0 < isum t := by
  cases x with
  | list t =>
    simp only [isT, Bool.and_eq_true, decide_eq_true_eq] at h
    exact ⟨t, rfl, h.1, h.2⟩
  | _ => simp [isT] at h
theorem state_ok {n : Nat} {x : D} (h : Fit n x) (many states : Nat) : m_is_state [.d x, .d (.int (many : Nat)), .d (.int (states : Nat))] = some (.d (.bool (stateJ many states x)), []) := by
  cases x with
  | dict k => exact absurd rfl (h.nd k)
  | tuple xs =>
    match xs, h with
    | [], h => simp [m_is_state, g_is_state, run_ap, startD, stateJ]
    | [a], h => simp [m_is_state, g_is_state, run_ap, startD, stateJ]
    | a :: b :: c :: r, h =>
      have e : ¬ ((r.length : Int) + 1 + 1 + 1 = 2) := by omega
      simp [m_is_state, g_is_state, run_ap, startD, stateJ, e]
    | [a, b], h =>
      have ha := h.tup.2 a (by simp)
      have hb := h.tup.2 b (by simp)
      have ht := tableF_ok ha
      by_cases hT : isT a = true
      · rw [hT] at ht
        obtain ⟨t, rfl, h1, h2⟩ := isT_list hT
        by_cases hl : t.length = many + 1
        · have hl' : (t.length : Int) = many + 1 := by omega
          cases b with
          | dict k => exact absurd rfl (hb.nd k)
          | list ns =>
            by_cases hn : ns.length = many
            · have hn' : (ns.length : Int) = many := by omega
              obtain ⟨st', e⟩ := pairs_go (v := .tuple [.list t, .list ns]) (t := .list t) (nx := .list ns) (many := many) (states := states) t ns none none (.inl rfl) (.inl rfl) h1 fun y hy => (hb.list.2 y hy).nd
              by_cases hp : pairsJ states t ns = true
              · simp [m_is_state, g_is_state, run_ap, startD, ht, hl', hn', e, hp, stateJ, h1, h2, hl, hn]
              · simp [m_is_state, g_is_state, run_ap, startD, ht, hl', hn', e, hp, stateJ, h1, h2, hl, hn]
            · have hn' : ¬ ((ns.length : Int) = many) := by omega
              simp [m_is_state, g_is_state, run_ap, startD, ht, hl', hn', stateJ, h1, h2, hl, hn]
          | _ => simp [m_is_state, g_is_state, run_ap, startD, ht, hl', stateJ, h1, h2, hl]
        · have hl' : ¬ ((t.length : Int) = many + 1) := by omega
          cases b <;> simp [m_is_state, g_is_state, run_ap, startD, ht, hl', stateJ, h1, h2, hl]
      · have hT' : isT a = false := by simpa using hT
        rw [hT'] at ht
        have hs : stateJ many states (.tuple [a, b]) = false := by
          cases a <;> cases b <;> simp [stateJ, isT] at hT' ⊢
          intro z1 z2
          have := hT' (by simpa using z1)
          omega
        rw [hs]
        simp [m_is_state, g_is_state, run_ap, startD, ht]
  | _ => simp [m_is_state, g_is_state, run_ap, startD, stateJ]
theorem ne_str (a b : Str) : opNe (.str a) (.str b) = some (.d (.bool (!(a == b)))) := by
  simp [opNe, DL.flat, PyData.plain, PyData.depth, PyData.eqv]
def modelJ : D → Bool
  | .tuple [.str z, .int m, .list ss] => (z == Str.ofString "model") && (decide (1 ≤ m) && (decide (m ≤ 40) && (!ss.isEmpty && ss.all (stateJ m.toNat ss.length))))
  | _ => false
theorem states_go {z : Str} {m : Nat} {ss : List D} {n : Nat} : ∀ xs : List D, (∀ y ∈ xs, Fit n y) →
    lcGo (DL.gName 1) (dTests) (dCall m_is_state [false, false, false] [] (dCons (dVar 1) (dCons (dOp2 opIx (dVar 0) (dC (.int 1))) (dCons (dCallB bLen (dCons (dOp2 opIx (dVar 0) (dC (.int 2))) (dNil))) (dNil))))) [1] xs [some (.d (.tuple [.str z, .int (m : Nat), .list ss])), none] =
      some (xs.map fun y => .bool (stateJ m ss.length y), [some (.d (.tuple [.str z, .int (m : Nat), .list ss])), none])
  | [], _ => by simp [lcGo_nil]
  | x :: r, h => by
    have ih := states_go (z := z) (m := m) (ss := ss) r fun y hy => h y (by simp [hy])
    have e := state_ok (h x (by simp)) m ss.length
    rw [lcGo_cons]
    simp [e, ih]
theorem model_ok {n : Nat} {x : D} (h : Fit n x) (hn : n ≤ 60) : m_is_model [.d x] = some (.d (.bool (modelJ x)), []) := by
  cases x with
  | dict k => exact absurd rfl (h.nd k)
  | tuple xs =>
    match xs, h with
    | [], h => simp [m_is_model, g_is_model, run_ap, startD, modelJ]
    | [a], h => simp [m_is_model, g_is_model, run_ap, startD, modelJ]
    | [a, b], h => simp [m_is_model, g_is_model, run_ap, startD, modelJ]
    | a :: b :: c :: d :: r, h =>
      have e : ¬ ((r.length : Int) + 1 + 1 + 1 + 1 = 3) := by omega
      simp [m_is_model, g_is_model, run_ap, startD, modelJ, e]
    | [a, b, c], h =>
      have hb := h.tup.2 b (by simp)
      have hc := h.tup.2 c (by simp)
      cases a with
      | dict k => exact absurd rfl ((h.tup.2 (.dict k) (by simp)).nd k)
      | str z =>
        by_cases hz : z = Str.ofString "model"
        · have q1 := count_ok b hb.nd 1
          cases b with
          | dict k => exact absurd rfl (hb.nd k)
          | int m =>
            by_cases m1 : 1 ≤ m
            · by_cases m2 : m ≤ 40
              · have m3 : ¬ 40 < m := by omega
                obtain ⟨k, rfl⟩ := Int.eq_ofNat_of_zero_le (show 0 ≤ m by omega)
                cases c with
                | dict k => exact absurd rfl (hc.nd k)
                | list ss =>
                  have ee := eq_list (flat_list hc.list.2 (by omega))
                  by_cases hs : ss = []
                  · subst hs
                    simp [m_is_model, g_is_model, run_ap, startD, modelJ, ne_str, hz, q1, m1, m2, m3, ee, DL.sizeLine_eq]
                  · have hs' : ss.isEmpty = false := by simp [hs]
                    rw [hs'] at ee
                    have g1 := states_go (z := z) (m := k) (ss := ss) ss hc.list.2
                    have hsz : ss.length ≤ 16777216 := by
                      have := hc.list.1
                      omega
                    subst hz
                    simp [m_is_model, g_is_model, run_ap, startD, modelJ, ne_str, q1, m1, m2, m3, ee, DL.sizeLine_eq, g1, hsz, bools_map, hs]
                | _ => simp [m_is_model, g_is_model, run_ap, startD, modelJ, ne_str, hz, q1, m1, m2, m3]
              · have m3 : 40 < m := by omega
                cases c <;> simp [m_is_model, g_is_model, run_ap, startD, modelJ, ne_str, hz, q1, m1, m2, m3]
            · cases c <;> simp [m_is_model, g_is_model, run_ap, startD, modelJ, ne_str, hz, q1, m1]
          | _ => cases c <;> simp [m_is_model, g_is_model, run_ap, startD, modelJ, ne_str, hz, q1]
        · have hz' : (z == Str.ofString "model") = false := by simpa using hz
          cases b <;> cases c <;> simp [m_is_model, g_is_model, run_ap, startD, modelJ, ne_str, hz, hz']
      | _ => simp [m_is_model, g_is_model, run_ap, startD, modelJ]
  | _ => simp [m_is_model, g_is_model, run_ap, startD, modelJ]
end P
end

section
set_option linter.all false
namespace P
open PySem DL
/-! ## models -/
def nxD : Option Nat → D
  | none => .none
  | some k => N k
abbrev Stt := List Nat × List (Option Nat)
def sttD (s : Stt) : D := .tuple [tab s.1, .list (s.2.map nxD)]
def mdD (m : Nat) (ss : List Stt) : D := .tuple [.str (Str.ofString "model"), N m, .list (ss.map sttD)]
structure Wf (m n : Nat) (s : Stt) : Prop where
  lt : s.1.length = m + 1
  ln : s.2.length = m
  pos : 0 < s.1.sum
  ok : ∀ i, i < m → (s.2[i]? = some none ∧ s.1[i]? = some 0) ∨ ∃ k c, s.2[i]? = some (some k) ∧ k < n ∧ s.1[i]? = some c ∧ 0 < c
structure Wm (B m : Nat) (ss : List Stt) : Prop where
  st : ∀ s ∈ ss, Wf m ss.length s
  ne : 0 < ss.length
  len : ss.length ≤ 100
  m1 : 1 ≤ m
  m2 : m ≤ 40
  bd : ∀ s ∈ ss, ∀ c ∈ s.1, c ≤ B
theorem fit_nx (n : Nat) {k : Nat} {o : Option Nat} (h : ∀ j, o = some j → j < k) (hk : k ≤ 1000) : Fit n (nxD o) := by
  cases o with
  | none => cases n <;> trivial
  | some j =>
    have := h j rfl
    have e : (j : Int) ≤ 10000000000000000000000000000000000000000 := by omega
    cases n <;> exact e
theorem fit_N (n : Nat) {k : Nat} (h : k ≤ 10000000000000000000000000000000000000000) : Fit n (N k) := by
  have e : (k : Int) ≤ 10000000000000000000000000000000000000000 := by omega
  cases n <;> exact e
theorem Wf.nx {m n : Nat} {s : Stt} (w : Wf m n s) {o : Option Nat} (h : o ∈ s.2) : ∀ j, o = some j → j < n := by
  rintro j rfl
  obtain ⟨i, hi, e⟩ := List.mem_iff_getElem.mp h
  rw [w.ln] at hi
  rcases w.ok i hi with ⟨h1, _⟩ | ⟨k, c, h1, h2, _⟩
  · rw [List.getElem?_eq_getElem (by rw [w.ln]; exact hi), e] at h1
    cases h1
  · rw [List.getElem?_eq_getElem (by rw [w.ln]; exact hi), e] at h1
    cases h1
    exact h2
theorem fit_tab (n : Nat) {ts : List Nat} (hl : ts.length ≤ 1000) (hb : ∀ c ∈ ts, c ≤ 10000000000000000000000000000000000000000) : Fit (n + 1) (tab ts) := by
  refine ⟨by rw [len_Ns]; exact hl, fun y hy => ?_⟩
  obtain ⟨c, hc, rfl⟩ := List.mem_map.mp hy
  exact fit_N n (hb c hc)
section
variable {B m : Nat} {ss : List Stt}
theorem fit_stt (n : Nat) {k : Nat} {s : Stt} (w : Wf m k s) (hk : k ≤ 1000) (hm : m ≤ 900) (hb : ∀ c ∈ s.1, c ≤ 10000000000000000000000000000000000000000) : Fit (n + 2) (sttD s) := by
  refine ⟨by simp, fun y hy => ?_⟩
  simp only [List.mem_cons, List.not_mem_nil, or_false] at hy
  rcases hy with rfl | rfl
  · exact fit_tab n (by rw [w.lt]; omega) hb
  · refine ⟨by simp [w.ln]; omega, fun z hz => ?_⟩
    obtain ⟨o, ho, rfl⟩ := List.mem_map.mp hz
    exact fit_nx n (w.nx ho) hk
theorem Wm.fit (w : Wm B m ss) (n : Nat) (hB : B ≤ 10000000000000000000000000000000000000000) : Fit (n + 4) (mdD m ss) := by
  have := w.m2
  have := w.len
  refine ⟨by simp, fun y hy => ?_⟩
  simp only [List.mem_cons, List.not_mem_nil, or_false] at hy
  rcases hy with rfl | rfl | rfl
  · trivial
  · exact fit_N _ (by omega)
  · refine ⟨by simp; omega, fun z hz => ?_⟩
    obtain ⟨s, hs, rfl⟩ := List.mem_map.mp hz
    exact fit_stt n (w.st s hs) (by omega) (by omega) fun c hc => Nat.le_trans (w.bd s hs c hc) hB
theorem pairsJ_ok {n : Nat} : ∀ (ts : List Nat) (ns : List (Option Nat)), (∀ i, i < ns.length → (ns[i]? = some none ∧ ts[i]? = some 0) ∨ ∃ k c, ns[i]? = some (some k) ∧ k < n ∧ ts[i]? = some c ∧ 0 < c) → pairsJ n (Ns ts) (ns.map nxD) = true
  | [], ns, _ => by simp [Ns, pairsJ]
  | t :: ts, [], _ => by simp [Ns, pairsJ]
  | t :: ts, o :: ns, h => by
    have ih := pairsJ_ok ts ns fun i hi => by
      have := h (i + 1) (by simp; omega)
      simpa using this
    have h0 := h 0 (by simp)
    show (pairJ n (N t) (nxD o) && pairsJ n (Ns ts) (ns.map nxD)) = true
    rw [ih]
    simp at h0
    rcases h0 with ⟨rfl, rfl⟩ | ⟨k, rfl, hk, hc⟩
    · rfl
    · have : ¬ (t : Int) = 0 := by omega
      simp [pairJ, nxD, this, hk]
      omega
theorem stateJ_ok {n : Nat} {s : Stt} (w : Wf m n s) : stateJ m n (sttD s) = true := by
  have h1 := all_Ns s.1
  have h2 := isum_Ns s.1
  have h3 := pairsJ_ok (n := n) s.1 s.2 (by rw [w.ln]; exact w.ok)
  have p := w.pos
  have h4 := len_Ns s.1
  rw [w.lt] at h4
  simp [stateJ, sttD, h1, h2, h3, h4, w.ln]
  omega
theorem Wm.modelJ (w : Wm B m ss) : modelJ (mdD m ss) = true := by
  have h : (ss.map sttD).all (stateJ m ss.length) = true := by
    rw [List.all_map, List.all_eq_true]
    intro s hs
    exact stateJ_ok (w.st s hs)
  have := w.m1
  have := w.m2
  have := w.ne
  have ne : (ss.map sttD).isEmpty = false := by
    cases ss with
    | nil => simp at *
    | cons _ _ => rfl
  simp only [P.modelJ, mdD, List.length_map, Int.toNat_natCast, h, ne]
  simp
  omega
theorem Wm.is (w : Wm B m ss) (hB : B ≤ 10000000000000000000000000000000000000000) : m_is_model [.d (mdD m ss)] = some (.d (.bool true), []) := by
  rw [model_ok (w.fit 0 hB) (by decide), w.modelJ]
theorem Wm.look (w : Wm B m ss) (hB : B ≤ 10000000000000000000000000000000000000000) : m_look_at_model [.d (mdD m ss)] = some (.d .none, []) := by
  have := w.is hB
  simp [m_look_at_model, g_look_at_model, run_ap, startD, this]
theorem is_row_ok (m : Nat) (row : List Nat) (hl : row.length ≤ 1000) (h : ∀ p ∈ row, p < m) : m_is_row [.d (tab row), .d (N m)] = some (.d (.bool true), []) := by
  refine okP.eq ?_
  have lz : row.length ≤ 16777216 := by omega
  simp [m_is_row, g_is_row, run_ap, startD, DL.sizeLine_eq, len_Ns, lz]
  simp only [okP_obind]
  refine okP_of (lc_mapE (fun k : Nat => N k) (fun _ => .bool true) (l := row) fun k hk => ?_) ?_
  · have := h k hk
    have c := countN_ok k
    have e : (k : Int) < m := by omega
    simp [okP_some, c, e]
  · have : (row.map fun _ => PyData.bool true) = List.replicate row.length (.bool true) := List.map_const' ..
    rw [this]
    simp [okP_some, bools_rep]
theorem Wm.at (w : Wm B m ss) {s : Nat} (hs : s < ss.length) : opIx (.list (ss.map sttD)) (N s) = some (.d (sttD ss[s])) := by
  have := ix_l (ss.map sttD) (p := s) (by simpa using hs)
  simpa using this
def stAt (ss : List Stt) (s : Nat) : Stt := ss.getD s ([], [])
def nxAt (s : Stt) (p : Nat) : Option Nat := s.2.getD p none
def ctAt (s : Stt) (i : Nat) : Nat := s.1.getD i 0
theorem stAt_at {ss : List Stt} {s : Nat} (h : s < ss.length) : stAt ss s = ss[s] := by simp [stAt, List.getD_eq_getElem?_getD, List.getElem?_eq_getElem h]
theorem ctAt_at {s : Stt} {i : Nat} (h : i < s.1.length) : ctAt s i = s.1[i] := by simp [ctAt, List.getD_eq_getElem?_getD, List.getElem?_eq_getElem h]
/-- where a row leads -/
def stepF (ss : List Stt) (o : Option Nat) (p : Nat) : Option Nat := match o with
  | none => none
  | some s => nxAt (stAt ss s) p
def ledF (ss : List Stt) (row : List Nat) : Option Nat := row.foldl (stepF ss) (some 0)
theorem Wm.step (w : Wm B m ss) {o : Option Nat} {p : Nat} (ho : ∀ s, o = some s → s < ss.length) (hp : p < m) : ∀ s, stepF ss o p = some s → s < ss.length := by
  cases o with
  | none => intro s h; cases h
  | some s0 =>
    intro s h
    have h0 := ho s0 rfl
    have wf := w.st ss[s0] (List.getElem_mem h0)
    have h : nxAt (stAt ss s0) p = some s := h
    rw [stAt_at h0] at h
    have h : ss[s0].2.getD p none = some s := h
    have hp2 : p < ss[s0].2.length := by rw [wf.ln]; exact hp
    have e2 : ss[s0].2.getD p none = ss[s0].2[p] := by simp [List.getD_eq_getElem?_getD, List.getElem?_eq_getElem hp2]
    rw [e2] at h
    exact wf.nx (List.getElem_mem hp2) s h
def LedI (m : Nat) (M : D) (R : D) (ss : List Stt) (row : List Nat) (r : List Nat) (s : DSt) : Prop := ∃ o v, (∀ p ∈ r, p < m) ∧ (∀ k, o = some k → k < ss.length) ∧ (r.foldl (stepF ss) o = ledF ss row) ∧ nd v = true ∧ s = [some (.d M), some (.d R), some (.d (nxD o)), v]
theorem Wm.next (w : Wm B m ss) {s p : Nat} (hs : s < ss.length) (hp : p < m) : opIx (.list (ss[s].2.map nxD)) (N p) = some (.d (nxD (stepF ss (some s) p))) := by
  have wf := w.st ss[s] (List.getElem_mem hs)
  have hp2 : p < ss[s].2.length := by rw [wf.ln]; exact hp
  have := ix_l (ss[s].2.map nxD) (p := p) (by simpa using hp2)
  rw [this]
  simp [stepF, stAt_at hs, nxAt, List.getD_eq_getElem?_getD, List.getElem?_eq_getElem hp2]
theorem led_ok (w : Wm B m ss) (row : List Nat) (hl : row.length ≤ 1000) (h : ∀ p ∈ row, p < m) : m_led [.d (mdD m ss), .d (tab row)] = some (.d (nxD (ledF ss row)), []) := by
  refine okP.eq ?_
  simp [m_led, g_led, run_ap, startD, DL.sizeLine_eq]
  simp only [okP_obind]
  refine for_list (fun k : Nat => N k) (LedI m (mdD m ss) (tab row) ss row) (l := row) ⟨some 0, none, h, fun k e => by cases e; exact w.ne, rfl, rfl, rfl⟩ ?_ ?_
  · rintro p r s ⟨o, v, hr, ho, hf, hv, rfl⟩
    have hp := hr p (by simp)
    have hst := w.step ho hp
    have fin : ∀ z : DSt, z = [some (.d (mdD m ss)), some (.d (tab row)), some (.d (nxD (stepF ss o p))), some (.d (N p))] → LedI m (mdD m ss) (tab row) ss row r z := fun z hz => ⟨_, _, fun q hq => hr q (by simp [hq]), hst, hf, rfl, hz⟩
    cases o with
    | none =>
      simp [okP_some, kSetS_nd hv, nxD]
      exact fin _ rfl
    | some s0 =>
      have h0 := ho s0 rfl
      have a1 := w.at h0
      have a2 := w.next h0 hp
      have en : nxD (some s0) = N s0 := rfl
      simp only [sttD] at a1
      rw [en]
      simp only [mdD]
      simp [okP_some, kSetS_nd hv, a1, a2, -opIx_li]
      exact fin _ rfl
  · rintro s ⟨o, v, _, _, hf, _, rfl⟩
    have hf : o = ledF ss row := hf
    simp [okP_some, hf]
end
end P
end

section
set_option linter.all false
namespace P
open PySem DL
section
variable {B m : Nat} {ss : List Stt}
theorem Wm.sum (w : Wm B m ss) {s : Nat} (hs : s < ss.length) : ss[s].1.sum ≤ (m + 1) * B := by
  have wf := w.st ss[s] (List.getElem_mem hs)
  have : ∀ ts : List Nat, (∀ c ∈ ts, c ≤ B) → ts.sum ≤ ts.length * B := by
    intro ts
    induction ts with
    | nil => simp
    | cons t r ih =>
      intro h
      have h1 := ih fun c hc => h c (by simp [hc])
      have h2 := h t (by simp)
      simp only [List.sum_cons, List.length_cons, Nat.add_mul]
      omega
  have := this _ (w.bd ss[s] (List.getElem_mem hs))
  rw [wf.lt] at this
  exact this
theorem ledF_ok (w : Wm B m ss) {row : List Nat} (h : ∀ p ∈ row, p < m) : ∀ k, ledF ss row = some k → k < ss.length := by
  have go : ∀ (r : List Nat) (o : Option Nat), (∀ p ∈ r, p < m) → (∀ k, o = some k → k < ss.length) → ∀ k, r.foldl (stepF ss) o = some k → k < ss.length := by
    intro r
    induction r with
    | nil => exact fun o _ ho => ho
    | cons p r ih => exact fun o hr ho => ih _ (fun q hq => hr q (by simp [hq])) (w.step ho (hr p (by simp)))
  exact go row (some 0) h fun k e => by cases e; exact w.ne
theorem ix1_md : opIx (mdD m ss) (.int 1) = some (.d (N m)) := rfl
theorem ix2_md : opIx (mdD m ss) (.int 2) = some (.d (.list (ss.map sttD))) := rfl
theorem look_row_ok (m : Nat) (row : List Nat) (hl : row.length ≤ 1000) (h : ∀ p ∈ row, p < m) : m_look_at_row [.d (tab row), .d (N m)] = some (.d .none, []) := by
  have := is_row_ok m row hl h
  simp [m_look_at_row, g_look_at_row, run_ap, startD, this]
theorem state_behind_ok (w : Wm B m ss) (hB : B ≤ 10000000000000000000000000000000000000000) (row : List Nat) (hl : row.length ≤ 1000) (h : ∀ p ∈ row, p < m) : m_state_behind [.d (mdD m ss), .d (tab row)] = some (.d (nxD (ledF ss row)), []) := by
  have l1 := w.look hB
  have l2 := look_row_ok m row hl h
  have l3 := led_ok w row hl h
  simp [m_state_behind, g_state_behind, run_ap, startD, l1, ix1_md, l2, l3]
def tbR (ss : List Stt) : Option Nat → Rt
  | none => .d .none
  | some s => .own (Ns (stAt ss s).1)
theorem table_behind_ok (w : Wm B m ss) (hB : B ≤ 10000000000000000000000000000000000000000) (row : List Nat) (hl : row.length ≤ 1000) (h : ∀ p ∈ row, p < m) : m_table_behind [.d (mdD m ss), .d (tab row)] = some (tbR ss (ledF ss row), []) := by
  have l1 := state_behind_ok w hB row hl h
  have lk := ledF_ok w h
  cases e : ledF ss row with
  | none =>
    rw [e] at l1
    have en : nxD none = .none := rfl
    rw [en] at l1
    simp [m_table_behind, g_table_behind, run_ap, startD, l1, tbR]
  | some s =>
    rw [e] at l1
    have en : nxD (some s) = N s := rfl
    rw [en] at l1
    have hs := lk s e
    have a := w.at hs
    have g := stAt_at hs
    simp only [sttD] at a
    simp [m_table_behind, g_table_behind, run_ap, startD, l1, tbR, ix2_md, a, -opIx_li, g]
/-- the odds of items from a state on -/
def od (m : Nat) (ss : List Stt) : Option Nat → List Nat → Rat
  | _, [] => 1
  | none, _ :: _ => 0
  | some s, i :: r => sh (stAt ss s).1 (ctAt (stAt ss s) i) * od m ss (if i = m then none else stepF ss (some s) i) r
theorem two_pow_le {a b : Nat} (h : a ≤ b) : (2 : Nat) ^ a ≤ 2 ^ b := Nat.pow_le_pow_right (by decide) h
def OdI (m : Nat) (ss : List Stt) (k : Nat) (M R : D) (tot : Rat) (r : List Nat) (s : DSt) : Prop := ∃ (f : Rat) (j : Nat) (o : Option Nat) (v4 v5 v6 : Option SV), Bd j f ∧ j + r.length * k ≤ 7000 ∧ (∀ i ∈ r, i ≤ m) ∧ (∀ a, o = some a → a < ss.length) ∧ f * od m ss o r = tot ∧ nd v4 = true ∧ nd v5 = true ∧ nd v6 = true ∧
  s = [some (.d M), some (.d R), some (.d (Q f)), some (.d (nxD o)), v4, v5, v6]
def OdQ (tot : Rat) (p : Fl × DSt) : Prop := p.1 = .rt (.d (Q tot)) ∨ (p.1 = .nx ∧ ∃ a b c d e f, p.2 = [a, b, some (.d (Q tot)), c, d, e, f])
theorem odds_along_ok (w : Wm B m ss) {k : Nat} (hk : Sm k ((m + 1) * B)) (row : List Nat) (h : ∀ i ∈ row, i ≤ m) (hl : 2 + row.length * k ≤ 7000) (hr : row.length ≤ 1000) : m_odds_along [.d (mdD m ss), .d (tab row)] = some (.d (Q (od m ss (some 0) row)), []) := by
  refine okP.eq ?_
  simp [m_odds_along, g_odds_along, run_ap, startD, DL.sizeLine_eq]
  simp only [okP_obind]
  refine okP.mono (for_ret (fun k : Nat => N k) (OdI m ss k (mdD m ss) (tab row) (od m ss (some 0) row)) (Q := OdQ (od m ss (some 0) row)) (l := row) ⟨1, 2, some 0, none, none, none, bd_one, hl, h, fun a e => by cases e; exact w.ne, by grind, rfl, rfl, rfl, rfl⟩ ?_ ?_) ?_
  · rintro i r s ⟨f, j, o, v4, v5, v6, hf, hj, hr', ho, hq, n4, n5, n6, rfl⟩
    have hi := hr' i (by simp)
    cases o with
    | none =>
      have e0 : od m ss (some 0) row = 0 := by
        rw [← hq]
        simp only [od]
        grind
      rw [e0]
      have en : nxD none = .none := rfl
      rw [en]
      simp [okP_some, kSetS_nd n4, DL.sizeLine_eq]
      exact .inl rfl
    | some s0 =>
      have h0 := ho s0 rfl
      have wf := w.st ss[s0] (List.getElem_mem h0)
      have a1 := w.at h0
      simp only [sttD] at a1
      have hi2 : i < ss[s0].1.length := by rw [wf.lt]; omega
      have a2 := ix_ok ss[s0].1 hi2
      have su := sum_ok ss[s0].1
      have sm : Sm k ss[s0].1.sum := hk.le (w.sum h0)
      have hj2 : (i :: r).length * k = r.length * k + k := by simp [Nat.succ_mul]
      rw [hj2] at hj
      have by1 := by_ok ss[s0].1[i] ss[s0].1.sum wf.pos (sm.mono (by omega))
      have bs : Bd k (sh ss[s0].1 ss[s0].1[i]) := bd_sh wf.pos sm (mem_le_sum (List.getElem_mem hi2))
      obtain ⟨t1, t2⟩ := times_ok hf bs (by omega)
      have e1 : mkRat ((ss[s0].1[i] : Nat) : Int) ss[s0].1.sum = sh ss[s0].1 ss[s0].1[i] := rfl
      rw [e1] at by1
      have en : nxD (some s0) = N s0 := rfl
      rw [en]
      have ct : ctAt ss[s0] i = ss[s0].1[i] := ctAt_at hi2
      have go : ∀ o', (o' = if i = m then none else stepF ss (some s0) i) → f * sh ss[s0].1 ss[s0].1[i] * od m ss o' r = od m ss (some 0) row := fun o' ho' => by
        rw [← hq, ho']
        simp only [od, stAt_at h0, ct]
        exact Rat.mul_assoc ..
      by_cases c : i = m
      · subst c
        have g := go none (by rw [if_pos rfl])
        simp [okP_some, kSetS_nd n4, kSetS_nd n5, kSetS_nd n6, ix2_md, ix1_md, a1, a2, su, by1, t1, -opIx_li, -bSum_l]
        exact ⟨_, _, none, _, _, _, t2, by omega, fun q hq => hr' q (by simp [hq]), fun a e => (nomatch e), g, rfl, rfl, rfl, rfl⟩
      · have hi3 : i < m := by omega
        have g := go (stepF ss (some s0) i) (by rw [if_neg c])
        have a3 := w.next h0 hi3
        have c' : ¬ (i : Int) = m := by omega
        simp [okP_some, kSetS_nd n4, kSetS_nd n5, kSetS_nd n6, ix2_md, ix1_md, a1, a2, a3, su, by1, t1, c', -opIx_li, -bSum_l]
        exact ⟨_, _, _, _, _, _, t2, by omega, fun q hq => hr' q (by simp [hq]), w.step ho hi3, g, rfl, rfl, rfl, rfl⟩
  · rintro s ⟨f, j, o, v4, v5, v6, hf, hj, hr', ho, hq, n4, n5, n6, rfl⟩
    have hq : f * 1 = od m ss (some 0) row := by
      cases o <;> exact hq
    refine .inr ⟨rfl, ?_⟩
    rw [Rat.mul_one] at hq
    rw [hq]
    exact ⟨_, _, _, _, _, _, rfl⟩
  · rintro ⟨p1, p2⟩ (rfl | ⟨rfl, a, b, c, d, e, f, rfl⟩)
    · simp [okP_some]
    · simp [okP_some]
end
end P
end

section
set_option linter.all false
namespace P
open PySem DL
section
variable {B m : Nat} {ss : List Stt}
def lastF (ss : List Stt) (o : Option Nat) (i : Nat) : Rat := match o with
  | none => 0
  | some s => sh (stAt ss s).1 (ctAt (stAt ss s) i)
theorem od_app (i : Nat) : ∀ (r : List Nat) (o : Option Nat), (∀ p ∈ r, p < m) → od m ss o (r ++ [i]) = od m ss o r * lastF ss (r.foldl (stepF ss) o) i
  | [], none, _ => by simp [od, lastF, Rat.mul_zero]
  | [], some s, _ => by simp [od, lastF, Rat.mul_one, Rat.one_mul]
  | p :: r, none, h => by simp [od, Rat.zero_mul]
  | p :: r, some s, h => by
    have hp := h p (by simp)
    have ih := od_app i r (stepF ss (some s) p) fun q hq => h q (by simp [hq])
    have c : ¬ p = m := by omega
    simp only [List.cons_append, od, if_neg c, ih, List.foldl_cons]
    exact (Rat.mul_assoc ..).symm
theorem sh_zero (ts : List Nat) : sh ts 0 = 0 := by
  unfold sh
  rw [show ((0 : Nat) : Int) = 0 from rfl, Rat.zero_mkRat]
theorem od_none (w : Wm B m ss) : ∀ (r : List Nat) (s : Nat), (∀ p ∈ r, p < m) → s < ss.length → r.foldl (stepF ss) (some s) = none → od m ss (some s) r = 0
  | [], s, _, _, e => by cases e
  | p :: r, s, h, hs, e => by
    have hp := h p (by simp)
    have c : ¬ p = m := by omega
    simp only [od, if_neg c]
    rw [List.foldl_cons] at e
    cases es : stepF ss (some s) p with
    | some q =>
      rw [es] at e
      have := w.step (o := some s) (p := p) (fun a z => by cases z; exact hs) hp q es
      rw [od_none w r q (fun q hq => h q (by simp [hq])) this e, Rat.mul_zero]
    | none =>
      have wf := w.st ss[s] (List.getElem_mem hs)
      have es : nxAt (stAt ss s) p = none := es
      rw [stAt_at hs] at es
      have hc : ctAt ss[s] p = 0 := by
        rcases wf.ok p hp with ⟨_, h2⟩ | ⟨k, c, h1, _⟩
        · simp [ctAt, List.getD_eq_getElem?_getD, h2]
        · simp [nxAt, List.getD_eq_getElem?_getD, h1] at es
      rw [stAt_at hs, hc, sh_zero, Rat.zero_mul]
theorem last_sum (w : Wm B m ss) {o : Option Nat} (ho : ∀ s, o = some s → s < ss.length) : ((List.range (m + 1)).map (lastF ss o)).sum = if o = none then 0 else 1 := by
  cases o with
  | none =>
    have : ∀ l : List Nat, (l.map (lastF ss none)).sum = 0 := by
      intro l
      induction l with
      | nil => rfl
      | cons x r ih =>
        rw [List.map_cons, List.sum_cons, ih]
        exact Rat.add_zero 0
    rw [this, if_pos rfl]
  | some s =>
    have hs := ho s rfl
    have wf := w.st ss[s] (List.getElem_mem hs)
    have := sh_one wf.pos
    rw [map_range 0, wf.lt] at this
    rw [if_neg (by simp), ← this]
    congr 1
    apply List.map_congr_left
    intro i _
    simp only [lastF, stAt_at hs]
    rfl
theorem mul_sum (c : Rat) (f : Nat → Rat) : ∀ l : List Nat, (l.map fun i => c * f i).sum = c * (l.map f).sum
  | [] => by simp [Rat.mul_zero]
  | x :: r => by
    simp only [List.map_cons, List.sum_cons, mul_sum c f r]
    grind
theorem od_sum (w : Wm B m ss) {row : List Nat} (h : ∀ p ∈ row, p < m) : ((List.range (m + 1)).map fun i => od m ss (some 0) (row ++ [i])).sum = od m ss (some 0) row := by
  have e : ((List.range (m + 1)).map fun i => od m ss (some 0) (row ++ [i])) = (List.range (m + 1)).map fun i => od m ss (some 0) row * lastF ss (ledF ss row) i := by
    apply List.map_congr_left
    intro i _
    exact od_app i row (some 0) h
  rw [e, mul_sum, last_sum w (ledF_ok w h)]
  by_cases c : ledF ss row = none
  · rw [if_pos c, od_none w row 0 h w.ne c, Rat.mul_zero]
  · rw [if_neg c, Rat.mul_one]
theorem bd_od (w : Wm B m ss) {k : Nat} (hk : Sm k ((m + 1) * B)) : ∀ (r : List Nat) (o : Option Nat), (∀ i ∈ r, i ≤ m) → (∀ s, o = some s → s < ss.length) → 2 + r.length * k ≤ 8000 → Bd (2 + r.length * k) (od m ss o r)
  | [], o, _, _, _ => by
    have : od m ss o [] = 1 := by cases o <;> rfl
    rw [this]
    simpa using bd_one
  | i :: r, none, _, _, _ => by
    show Bd _ 0
    exact bd_zero.mono (by omega)
  | i :: r, some s, h, ho, hl => by
    have hs := ho s rfl
    have hi := h i (by simp)
    have wf := w.st ss[s] (List.getElem_mem hs)
    have hi2 : i < ss[s].1.length := by rw [wf.lt]; omega
    have e : (i :: r).length * k = r.length * k + k := by simp [Nat.succ_mul]
    have bs : Bd k (sh ss[s].1 ss[s].1[i]) := bd_sh wf.pos (hk.le (w.sum hs)) (mem_le_sum (List.getElem_mem hi2))
    have ih := bd_od w hk r (if i = m then none else stepF ss (some s) i) (fun q hq => h q (by simp [hq])) (fun a z => by
      by_cases c : i = m
      · rw [if_pos c] at z
        cases z
      · rw [if_neg c] at z
        exact w.step ho (by omega) a z) (by omega)
    have := (times_ok bs ih (by omega)).2
    simp only [od, stAt_at hs]
    rw [show ctAt ss[s] i = ss[s].1[i] from ctAt_at hi2]
    exact this.mono (by omega)
theorem cut_last {α : Type} (xs : List α) : cutD xs none (some (-1)) = xs.dropLast := by
  have e1 : cutAt xs.length xs.length (some (-1)) = xs.length - 1 := by
    show (if (-1 : Int) < 0 then ((-1 : Int) + (xs.length : Int)).toNat else min (-1 : Int).toNat xs.length) = _
    rw [if_pos (by decide)]
    omega
  show (xs.drop 0).take (cutAt xs.length xs.length (some (-1)) - 0) = _
  rw [e1, List.drop_zero, Nat.sub_zero, List.dropLast_eq_take]
theorem ix_last (xs : List D) (y : D) : opIx (.list (xs ++ [y])) (.int (-1)) = some (.d y) := by
  have e : ixAt (xs ++ [y]) (-1) = some xs.length := by
    unfold ixAt
    rw [if_neg (by decide), if_pos (by simp; omega)]
    congr 1
    simp
    omega
  show (ixAt (xs ++ [y]) (-1)).bind _ = _
  rw [e]
  show ((xs ++ [y])[xs.length]?).bind _ = _
  simp
theorem Ns_app (xs : List Nat) (i : Nat) : Ns (xs ++ [i]) = Ns xs ++ [N i] := by simp [Ns]
theorem begin_ok (m : Nat) (b : List Nat) (hl : b.length ≤ 1000) (h : ∀ p ∈ b.dropLast, p < m) (h2 : ∀ p ∈ b, p ≤ m) : m_is_beginning [.d (tab b), .d (N m)] = some (.d (.bool true), []) := by
  rcases List.eq_nil_or_concat b with rfl | ⟨r, i, rfl⟩
  · have l1 := is_row_ok m [] (by simp) (by simp)
    have e : cutD (Ns []) none (some (-1)) = Ns [] := rfl
    have q : opEq (.list []) (.list []) = some (.d (.bool true)) := rfl
    have e0 : Ns [] = [] := rfl
    have l1 : m_is_row [.d (.list []), .d (N m)] = some (.d (.bool true), []) := l1
    rw [e0] at e
    show m_is_beginning [.d (.list []), .d (N m)] = _
    simp [m_is_beginning, g_is_beginning, run_ap, startD, e0, e, l1, q, DL.sizeLine_eq]
  · rw [List.concat_eq_append] at *
    have hr : ∀ p ∈ r, p < m := fun p hp => h p (by simpa using hp)
    have hi : i ≤ m := h2 i (by simp)
    have l1 := is_row_ok m r (by simp at hl; omega) hr
    have e : cutD (Ns r ++ [N i]) none (some (-1)) = Ns r := by
      rw [cut_last]
      simp
    have c := countN_ok i
    have x := ix_last (Ns r) (N i)
    have fl : flat (.list (Ns r ++ [N i])) = true := by
      have := fit_tab 0 (ts := r ++ [i]) (by simpa using hl)
      rw [← Ns_app]
      have ii : ∀ ts : List Nat, PyData.plainAll (Ns ts) = true ∧ PyData.depthAll (Ns ts) = 0 := by
        intro ts
        induction ts with
        | nil => exact ⟨rfl, rfl⟩
        | cons t r ih => exact ⟨by show (PyData.plain (N t) && PyData.plainAll (Ns r)) = true; rw [ih.1]; rfl, by show max (PyData.depth (N t)) (PyData.depthAll (Ns r)) = 0; rw [ih.2]; rfl⟩
      unfold DL.flat
      simp only [PyData.plain, PyData.depth, (ii _).1, (ii _).2]
      rfl
    have q := eq_list fl
    have q2 : (Ns r ++ [N i]).isEmpty = false := by simp
    rw [q2] at q
    have le : (i : Int) ≤ m := by omega
    show m_is_beginning [.d (.list (Ns (r ++ [i]))), .d (N m)] = _
    rw [Ns_app]
    simp [m_is_beginning, g_is_beginning, run_ap, startD, e, l1, q, x, c, le, DL.sizeLine_eq, -opIx_li]
theorem odds_of_begin_ok (w : Wm B m ss) (hB : B ≤ 10000000000000000000000000000000000000000) {k : Nat} (hk : Sm k ((m + 1) * B)) (b : List Nat) (hl : b.length ≤ 1000) (h : ∀ p ∈ b.dropLast, p < m) (h2 : ∀ p ∈ b, p ≤ m) (hl2 : 2 + b.length * k ≤ 7000) : m_odds_of_begin [.d (mdD m ss), .d (tab b)] = some (.d (Q (od m ss (some 0) b)), []) := by
  have l1 := w.look hB
  have l2 := begin_ok m b hl h h2
  have l3 := odds_along_ok w hk b h2 hl2 hl
  simp [m_odds_of_begin, g_odds_of_begin, run_ap, startD, l1, ix1_md, l2, l3]
end
end P
end

section
set_option linter.all false
namespace P
open PySem DL
def TOP : Nat := 1000000000
/-- items that are numbers -/
def IsN (M : Nat) (y : D) : Prop := ∃ k : Nat, y = N k ∧ k ≤ M
def NxP (count a : Nat) (y : D) : Prop := ∃ o, y = nxD o ∧ ((a = 0 ∧ o = none) ∨ (0 < a ∧ ∃ k, o = some k ∧ k < count))
theorem of_nx {count : Nat} : ∀ (l : List Nat) (ys : List D), ys.length = l.length → (∀ (i : Nat) (a : Nat) (y : D), l[i]? = some a → ys[i]? = some y → NxP count a y) →
    ∃ ns : List (Option Nat), ys = ns.map nxD ∧ ns.length = l.length ∧ ∀ (i a : Nat), l[i]? = some a → (ns[i]? = some none ∧ a = 0) ∨ ∃ k, ns[i]? = some (some k) ∧ k < count ∧ 0 < a
  | [], [], _, _ => ⟨[], rfl, rfl, fun i a h => by simp at h⟩
  | [], y :: ys, h, _ => by simp at h
  | a :: l, [], h, _ => by simp at h
  | a :: l, y :: ys, h, hp => by
    obtain ⟨ns, rfl, h2, h3⟩ := of_nx l ys (by simpa using h) fun i b z e1 e2 => hp (i + 1) b z (by simpa using e1) (by simpa using e2)
    obtain ⟨o, rfl, ho⟩ := hp 0 a y rfl rfl
    refine ⟨o :: ns, rfl, by simp [h2], fun i b e => ?_⟩
    cases i with
    | zero =>
      have e : a = b := by simpa using e
      subst e
      rcases ho with ⟨h4, rfl⟩ | ⟨h4, k, rfl, hk⟩
      · exact .inl ⟨rfl, h4⟩
      · exact .inr ⟨k, rfl, hk, h4⟩
    | succ i => simpa using h3 i b (by simpa using e)
def MdI (n many most count tops ends : Nat) (r : List Nat) (s : DSt) : Prop := ∃ (W : List D) (ss : List Stt) (v7 v8 : Option SV), Purse (n + 130 * ss.length) W ∧ ss.length + r.length = count ∧ (∀ x ∈ ss, Wf many count x) ∧ (∀ x ∈ ss, ∀ c ∈ x.1, c ≤ TOP) ∧ nd v7 = true ∧ nd v8 = true ∧
  s = [some (.lent W), some (.d (N many)), some (.d (N most)), some (.d (N count)), some (.d (N tops)), some (.d (N ends)), some (.own (ss.map sttD)), v7, v8, none, none]
def MdR (n many most : Nat) (r : Rt × List (List D)) : Prop := ∃ W' ss, Purse (n + 3 + 130 * most) W' ∧ Wm TOP many ss ∧ ss.length ≤ most ∧ r = (.d (mdD many ss), [W'])
def MdQ (n many most : Nat) (r : Rt × List (List D)) : Prop := ∃ W' ss, Purse (n + 6000) W' ∧ Wm TOP many ss ∧ ss.length ≤ most ∧ r = (.d (mdD many ss), [W'])
theorem law_model_r {n : Nat} {W : List D} (hn : n ≤ 90000) (hP : Purse n W) {many most : Nat} (m1 : 1 ≤ many) (m2 : many ≤ 40) (o1 : 1 ≤ most) (o2 : most ≤ 40) : okP (m__law_model [.m W, .d (N many), .d (N most)]) (MdR n many most) := by
  obtain ⟨c0, W1, hc, hW1, h1⟩ := draw_ok (by omega) hP most (by omega) (sm_of 100 (by omega))
  obtain ⟨y, W2, hy, hW2, h2⟩ := pick_ok (by omega) hW1 [.int 2, .int 3, .int 4, .int 9, .int 1000, .int 1000000000] (by simp) (by simp)
  obtain ⟨tops, rfl, t1, t2⟩ : ∃ k : Nat, y = N k ∧ 2 ≤ k ∧ k ≤ TOP := by
    simp only [List.mem_cons, List.not_mem_nil, or_false] at hy
    rcases hy with rfl | rfl | rfl | rfl | rfl | rfl
    · exact ⟨2, rfl, by decide, by decide⟩
    · exact ⟨3, rfl, by decide, by decide⟩
    · exact ⟨4, rfl, by decide, by decide⟩
    · exact ⟨9, rfl, by decide, by decide⟩
    · exact ⟨1000, rfl, by decide, by decide⟩
    · exact ⟨1000000000, rfl, by decide, by decide⟩
  obtain ⟨ends, W3, he, hW3, h3⟩ := draw_int (by omega) hW2 4 (by decide) (by decide)
  obtain ⟨count, ec⟩ : ∃ c, c = 1 + c0 := ⟨_, rfl⟩
  have ec' : (1 : Int) + (c0 : Int) = (count : Nat) := by omega
  have rc := range_ok (t := count) (by omega)
  have rm := range_ok (t := many) (by omega)
  have lzc : count ≤ 16777216 := by omega
  have lzm : many ≤ 16777216 := by omega
  simp only [N] at h1 h3
  simp [m__law_model, g__law_model, run_ap, startD, h1, ec', h2, h3, rc, DL.sizeLine_eq, -iRange1_i]
  simp only [okP_obind]
  refine for_list (fun i : Nat => PyData.int (i : Nat)) (MdI (n + 3) many most count tops ends) (l := List.range count) ⟨W3, [], none, none, hW3, by simp, by simp, by simp, rfl, rfl, rfl⟩ ?_ ?_
  · rintro i r s ⟨W4, ss, v7, v8, hW4, hl, hw, hb, n7, n8, rfl⟩
    simp at hl
    simp [okP_some, kSetS_nd n7, rm, -iRange1_i, DL.sizeLine_eq, lzm]
    simp only [okP_obind]
    refine lc_wp (fun j s => ∃ Wj, s = [some (.lent Wj), some (.d (N many)), some (.d (N most)), some (.d (N count)), some (.d (N tops)), some (.d (N ends)), some (.own (ss.map sttD)), some (.d (N i)), v8, none, none] ∧ Purse (n + 3 + 130 * ss.length + 2 * j) Wj) (fun _ y => IsN TOP y) ⟨W4, rfl, hW4⟩ ?_ ?_
    · rintro j x s hx ⟨Wj, rfl, hWj⟩
      have hj : j < many := by
        have := (List.getElem?_eq_some_iff.mp hx).1
        simpa using this
      obtain ⟨a, Wa, ha, hWa, ea⟩ := draw_ok (by omega) hWj tops (by omega) (sm_of 100 (by unfold TOP at t2; omega))
      obtain ⟨b, Wb, hb', hWb, eb⟩ := draw_int (by omega) hWa 3 (by decide) (by decide)
      simp only [N] at ea eb
      have la : a.log2 ≤ 100 := (sm_of 100 (by unfold TOP at t2; omega) : Sm 100 a).log
      have l1 : Nat.log2 1 = 0 := by decide
      have hp : Purse (n + 3 + 130 * ss.length + 2 * (j + 1)) Wb := hWb.up (by omega)
      by_cases cb : 0 < b
      · have l2 : a.log2 + Nat.log2 1 < 1000000 := by omega
        simp [okP_some, ea, eb, cb, l2]
        exact ⟨⟨a, rfl, by omega⟩, hp⟩
      · have l2 : a.log2 < 1000000 := by omega
        simp [okP_some, ea, eb, cb, l2]
        exact ⟨⟨0, rfl, by omega⟩, hp⟩
    · rintro ys s hly hy ⟨Wj, rfl, hWj⟩
      simp at hly
      obtain ⟨ts, rfl, l, b⟩ := of_N _ ys fun y hy' => by
        obtain ⟨q, hq⟩ := List.mem_iff_getElem?.mp hy'
        exact hy q y hq
      simp [okP_some, kSetS_nd n8]
      rw [okP_obind]
      refine okP.mono (Q := fun r => ∃ v W6, v ≤ TOP ∧ Purse (n + 3 + 130 * ss.length + 82) W6 ∧ r = (.nx, [some (.lent W6), some (.d (N many)), some (.d (N most)), some (.d (N count)), some (.d (N tops)), some (.d (N ends)), some (.own (ss.map sttD)), some (.d (N i)), some (.own (Ns (ts ++ [v]))), none, none])) ?_ ?_
      · obtain ⟨a, Wa, ha, hWa, ea⟩ := draw_ok (by omega) (hWj.up (m := n + 3 + 130 * ss.length + 80) (by simp; omega)) tops (by omega) (sm_of 100 (by unfold TOP at t2; omega))
        simp only [N] at ea
        have la : a.log2 ≤ 100 := (sm_of 100 (by unfold TOP at t2; omega) : Sm 100 a).log
        have l1 : Nat.log2 1 = 0 := by decide
        have l2 : a.log2 + Nat.log2 1 < 1000000 := by omega
        have l3 : a.log2 < 1000000 := by omega
        have lt : ts.length < 16777216 := by omega
        have lt' : (Ns ts).length < 16777216 := by rw [len_Ns]; exact lt
        by_cases ce : 0 < ends
        · obtain ⟨b, Wb, hb', hWb, eb⟩ := draw_ok (by omega) hWa ends ce (sm_of 100 (by omega))
          simp only [N] at eb
          by_cases cb : b = 0
          · subst cb
            simp [okP_some, ea, eb, ce, l2, lt', DL.sizeLine_eq]
            exact ⟨a, by omega, Wb, hWb.up (by omega), rfl, by rw [Ns_app]⟩
          · simp [okP_some, ea, eb, ce, cb, l3, lt', DL.sizeLine_eq]
            exact ⟨0, by omega, Wb, hWb.up (by omega), rfl, by rw [Ns_app]; rfl⟩
        · simp [okP_some, ea, ce, l3, lt', DL.sizeLine_eq]
          exact ⟨0, by omega, Wa, hWa.up (by omega), rfl, by rw [Ns_app]; rfl⟩
      · rintro _ ⟨v, W6, hv, hW6, rfl⟩
        obtain ⟨us, eu⟩ : ∃ us, us = ts ++ [v] := ⟨_, rfl⟩
        have lu : us.length = many + 1 := by rw [eu]; simp; omega
        have bu : ∀ c ∈ us, c ≤ TOP := fun c hc => by
          rw [eu] at hc
          rcases List.mem_append.mp hc with h | h
          · exact b c h
          · have : c = v := by simpa using h
            omega
        rw [← eu]
        have su := sum_ok us
        simp only [N] at su
        simp [okP_some, su, -bSum_l]
        rw [okP_obind]
        refine okP.mono (Q := fun r => ∃ vs W7, vs.length = many + 1 ∧ 0 < vs.sum ∧ (∀ c ∈ vs, c ≤ TOP) ∧ Purse (n + 3 + 130 * ss.length + 84) W7 ∧ r = (.nx, [some (.lent W7), some (.d (N many)), some (.d (N most)), some (.d (N count)), some (.d (N tops)), some (.d (N ends)), some (.own (ss.map sttD)), some (.d (N i)), some (.own (Ns vs)), none, none])) ?_ ?_
        · by_cases cz : us.sum = 0
          · obtain ⟨a, Wa, ha, hWa, ea⟩ := draw_int (by omega) hW6 3 (by decide) (by decide)
            obtain ⟨q, Wq, hq, hWq, eq⟩ := draw_ok (by omega) hWa (many + 1) (by omega) (sm_of 100 (by omega))
            simp only [N, Int.natCast_add] at ea eq
            have eq : m__law_draw [.m Wa, .d (.int ((many : Int) + 1))] = some (.d (.int (q : Nat)), [Wq]) := eq
            have hq2 : q < (Ns us).length := by rw [len_Ns]; omega
            have st := set_Ns us q (1 + a)
            simp only [N, Int.natCast_add] at st
            have st : (Ns us).set q (.int (1 + (a : Int))) = Ns (us.set q (1 + a)) := st
            simp [okP_some, cz, ea, eq, hq2, st]
            refine ⟨us.set q (1 + a), by simp [lu], sum_set us q (1 + a) (by omega) (by omega), fun c hc => ?_, Wq, hWq.up (by omega), rfl, rfl⟩
            rcases List.mem_or_eq_of_mem_set hc with h | h
            · exact bu c h
            · unfold TOP
              omega
          · have cz' : ¬ (us.sum : Int) = 0 := by omega
            simp [okP_some, cz]
            exact ⟨us, lu, by omega, bu, W6, hW6.up (by omega), rfl, rfl⟩
        · rintro _ ⟨vs, W7, lv, pv, bv, hW7, rfl⟩
          have ec : cutD (Ns vs) none (some (-1)) = Ns vs.dropLast := by
            rw [cut_last]
            simp [Ns, List.map_dropLast]
          have ld : vs.dropLast.length = many := by simp [lv]
          have lz : (Ns vs.dropLast).length ≤ 16777216 := by rw [len_Ns]; omega
          simp [okP_some, ec, DL.sizeLine_eq, lz]
          simp only [okP_obind]
          refine lc_list (fun k : Nat => N k) (fun r s => ∃ Wj, Purse (n + 3 + 130 * ss.length + 84 + (many - r.length)) Wj ∧ r.length ≤ many ∧ s = [some (.lent Wj), some (.d (N many)), some (.d (N most)), some (.d (N count)), some (.d (N tops)), some (.d (N ends)), some (.own (ss.map sttD)), some (.d (N i)), some (.own (Ns vs)), none, none]) (NxP count) (l := vs.dropLast) ⟨W7, hW7.up (by omega), by omega, rfl⟩ ?_ ?_
          · rintro a r' s ⟨Wj, hWj, hr', rfl⟩
            simp only [List.length_cons] at hr' hWj
            by_cases ca : 0 < a
            · obtain ⟨k, Wk, hk, hWk, ek⟩ := draw_ok (by omega) hWj count (by omega) (sm_of 100 (by omega))
              simp [okP_some, ca, ek]
              exact ⟨⟨some k, rfl, .inr ⟨ca, k, rfl, hk⟩⟩, hWk.up (by omega), by omega⟩
            · simp [okP_some, ca]
              exact ⟨⟨none, rfl, .inl ⟨by omega, rfl⟩⟩, hWj.up (by omega), by omega⟩
          · rintro ys s ly hy ⟨Wj, hWj, hr', rfl⟩
            obtain ⟨ns, rfl, ln, hns⟩ := of_nx vs.dropLast ys ly hy
            have ls : ss.length < 16777216 := by omega
            have wf : Wf many count (vs, ns) := ⟨lv, by rw [ln, ld], pv, fun q hq => by
              have hq2 : q < vs.dropLast.length := by rw [ld]; exact hq
              have e1 : vs.dropLast[q]? = some vs.dropLast[q] := List.getElem?_eq_getElem hq2
              have e2 : vs[q]? = some vs.dropLast[q] := by
                rw [List.getElem?_eq_getElem (by omega)]
                simp
              rcases hns q _ e1 with ⟨h1, h2⟩ | ⟨k, h1, h2, h3⟩
              · exact .inl ⟨h1, by rw [e2, h2]⟩
              · exact .inr ⟨k, _, h1, h2, e2, h3⟩⟩
            simp [okP_some, DL.sizeLine_eq, ls]
            refine ⟨Wj, ss ++ [(vs, ns)], some (.d (N i)), some (.d (.list (Ns vs))), hWj.up (by simp; omega), by simp; omega, fun x hx => ?_, fun x hx => ?_, rfl, rfl, by simp [sttD]⟩
            · rcases List.mem_append.mp hx with h | h
              · exact hw x h
              · have : x = (vs, ns) := by simpa using h
                rw [this]
                exact wf
            · rcases List.mem_append.mp hx with h | h
              · exact hb x h
              · have : x = (vs, ns) := by simpa using h
                rw [this]
                exact bv
  · rintro s ⟨W4, ss, v7, v8, hW4, hl, hw, hb, n7, n8, rfl⟩
    simp at hl
    simp [okP_some, DL.sizeLine_eq]
    exact ⟨W4, ss, hW4.up (by omega), ⟨by rw [hl]; exact hw, by omega, by omega, m1, m2, hb⟩, by omega, rfl⟩
theorem law_model_ok {n : Nat} {W : List D} (hn : n ≤ 90000) (hP : Purse n W) {many most : Nat} (m1 : 1 ≤ many) (m2 : many ≤ 40) (o1 : 1 ≤ most) (o2 : most ≤ 40) : okP (m__law_model [.m W, .d (N many), .d (N most)]) (MdQ n many most) := by
  refine (law_model_r hn hP m1 m2 o1 o2).mono fun q hq => ?_
  obtain ⟨W', ss, h1, h2, h3, h4⟩ := hq
  exact ⟨W', ss, h1.up (by omega), h2, h3, h4⟩
end P
end

section
set_option linter.all false
namespace P
open PySem DL
theorem flat_Ns (ts : List Nat) : flat (.list (Ns ts)) = true := by
  have ii : ∀ ts : List Nat, PyData.plainAll (Ns ts) = true ∧ PyData.depthAll (Ns ts) = 0 := by
    intro ts
    induction ts with
    | nil => exact ⟨rfl, rfl⟩
    | cons t r ih => exact ⟨by show (PyData.plain (N t) && PyData.plainAll (Ns r)) = true; rw [ih.1]; rfl, by show max (PyData.depth (N t)) (PyData.depthAll (Ns r)) = 0; rw [ih.2]; rfl⟩
  unfold DL.flat
  simp only [PyData.plain, PyData.depth, (ii _).1, (ii _).2]
  rfl
/-- the places where something stands -/
def openF (ns : List (Option Nat)) : List Nat := ns.zipIdx.filterMap fun p => if p.1 = none then none else some p.2
theorem openF_mem {ns : List (Option Nat)} {p : Nat} (h : p ∈ openF ns) : ∃ k, ns[p]? = some (some k) := by
  obtain ⟨⟨o, q⟩, h1, h2⟩ := List.mem_filterMap.mp h
  have e := List.mem_zipIdx_iff_getElem?.mp h1
  simp only at e h2
  cases o with
  | none => simp at h2
  | some k =>
    have h2 : q = p := by simpa using h2
    rw [h2] at e
    exact ⟨k, e⟩
section
variable {B m : Nat} {ss : List Stt}
def RowI (n m : Nat) (ss : List Stt) (t : Nat) (M : D) (r : List Nat) (s : DSt) : Prop := ∃ (W : List D) (row : List Nat) (s0 : Nat) (v4 v5 : Option SV), Purse (n + (t - r.length)) W ∧ r.length ≤ t ∧ row.length + r.length ≤ 8 ∧ (∀ p ∈ row, p < m) ∧ s0 < ss.length ∧ nd v4 = true ∧ nd v5 = true ∧
  s = [some (.lent W), some (.d M), some (.own (Ns row)), some (.d (N s0)), v4, v5, none, none]
def RowQ (n m : Nat) (r : Rt × List (List D)) : Prop := ∃ W' row, Purse (n + 10) W' ∧ row.length ≤ 8 ∧ (∀ p ∈ row, p < m) ∧ r = (.own (Ns row), [W'])
def RowP (n m : Nat) (p : Fl × DSt) : Prop := ∃ W' row, Purse (n + 10) W' ∧ row.length ≤ 8 ∧ (∀ p ∈ row, p < m) ∧ ((p.1 = .rt (.own (Ns row)) ∧ ∃ a b c d e f g, p.2 = [some (.lent W'), a, b, c, d, e, f, g]) ∨ (p.1 = .nx ∧ ∃ a c d e f g, p.2 = [some (.lent W'), a, some (.own (Ns row)), c, d, e, f, g]))
theorem law_row_ok {n : Nat} {W : List D} (hn : n ≤ 90000) (hP : Purse n W) (w : Wm B m ss) : okP (m__law_row [.m W, .d (mdD m ss)]) (RowQ n m) := by
  obtain ⟨t, W1, ht, hW1, h1⟩ := draw_int (by omega) hP 9 (by decide) (by decide)
  have rt := range_ok (t := t) (by omega)
  simp only [N] at h1
  simp [m__law_row, g__law_row, run_ap, startD, h1, rt, DL.sizeLine_eq, -iRange1_i]
  simp only [okP_obind]
  refine okP.mono (for_ret (fun i : Nat => PyData.int (i : Nat)) (RowI (n + 1) m ss t (mdD m ss)) (Q := RowP n m) (l := List.range t) ⟨W1, [], 0, none, none, by simpa using hW1, by simp, by simp; omega, by simp, w.ne, rfl, rfl, rfl⟩ ?_ ?_) ?_
  · rintro i r s ⟨W2, row, s0, v4, v5, hW2, hr, hrl, hrow, hs0, n4, n5, rfl⟩
    simp only [List.length_cons] at hr hrl hW2
    have a1 := w.at hs0
    simp only [sttD] at a1
    have wf := w.st ss[s0] (List.getElem_mem hs0)
    have en : iEnum [.list (ss[s0].2.map nxD)] = some (ss[s0].2.zipIdx.map fun p => .tuple [.int (p.2 : Nat), nxD p.1]) := by
      show some _ = _
      rw [enum_range]
    have lz : ss[s0].2.length ≤ 16777216 := by
      have := w.m2
      rw [wf.ln]
      omega
    simp [okP_some, kSetS_nd n4, ix2_md, a1, en, -opIx_li, DL.sizeLine_eq, lz]
    simp only [okP_obind]
    refine okP_of (lc_mapA (fun p : Option Nat × Nat => .tuple [.int (p.2 : Nat), nxD p.1]) (fun p => if p.1 = none then none else some (N p.2)) (l := ss[s0].2.zipIdx) fun p hp => ?_) ?_
    · obtain ⟨o, q⟩ := p
      cases o <;> simp [okP_some, nxD]
    · have ef : ss[s0].2.zipIdx.filterMap (fun p => if p.1 = none then none else some (N p.2)) = Ns (openF ss[s0].2) := by
        unfold openF
        generalize ss[s0].2.zipIdx = l
        induction l with
        | nil => rfl
        | cons x r ih => by_cases c : x.1 = none <;> simp [c, ih, Ns]
      rw [ef]
      have eq := eq_list (flat_Ns (openF ss[s0].2))
      simp [okP_some, kSetS_nd n5]
      by_cases ce : openF ss[s0].2 = []
      · rw [ce] at eq
        rw [ce]
        have e0 : Ns [] = [] := rfl
        rw [e0] at eq ⊢
        simp [okP_some, eq, DL.sizeLine_eq]
        exact ⟨W2, row, hW2.up (by omega), by omega, hrow, .inl ⟨rfl, _, _, _, _, _, _, _, rfl⟩⟩
      · have ei : (Ns (openF ss[s0].2)).isEmpty = false := by
          cases h : openF ss[s0].2 with
          | nil => exact absurd h ce
          | cons _ _ => rfl
        rw [ei] at eq
        have lo : (openF ss[s0].2).length ≤ ss[s0].2.length := by
          unfold openF
          refine Nat.le_trans (List.length_filterMap_le _ _) ?_
          simp
        obtain ⟨x, W3, hx, hW3, e3⟩ := pick_ok (by omega) hW2 (Ns (openF ss[s0].2)) (by
          rw [len_Ns]
          exact List.length_pos_iff.mpr ce) (by
          rw [len_Ns]
          have := w.m2
          have := wf.ln
          omega)
        obtain ⟨p, hp, rfl⟩ := List.mem_map.mp hx
        obtain ⟨k, hk⟩ := openF_mem hp
        have hp2 : p < m := by
          rw [← wf.ln]
          exact (List.getElem?_eq_some_iff.mp hk).1
        have a2 := w.next hs0 hp2
        have es : stepF ss (some s0) p = some k := by
          show nxAt (stAt ss s0) p = some k
          rw [stAt_at hs0]
          simp [nxAt, List.getD_eq_getElem?_getD, hk]
        rw [es] at a2
        have ek : nxD (some k) = N k := rfl
        rw [ek] at a2
        have hks := w.step (o := some s0) (p := p) (fun a z => by cases z; exact hs0) hp2 k es
        have xl := ix_last (Ns row) (N p)
        have lr : row.length < 16777216 := by omega
        simp [okP_some, eq, e3, DL.sizeLine_eq, lr, len_Ns, xl, ix2_md, a1, a2, -opIx_li]
        exact ⟨W3, row ++ [p], k, _, _, hW3.up (by omega), by omega, by simp; omega, fun q hq => by
          rcases List.mem_append.mp hq with h | h
          · exact hrow q h
          · have : q = p := by simpa using h
            omega, hks, rfl, rfl, by rw [Ns_app]⟩
  · rintro s ⟨W2, row, s0, v4, v5, hW2, hr, hrl, hrow, hs0, n4, n5, rfl⟩
    exact ⟨W2, row, hW2.up (by omega), by omega, hrow, .inr ⟨rfl, _, _, _, _, _, _, rfl⟩⟩
  · rintro ⟨p1, p2⟩ ⟨W', row, hW', hl, hrow, h | h⟩
    · obtain ⟨rfl, a, b, c, d, e, f, g, rfl⟩ := h
      simp [okP_some]
      exact ⟨W', row, hW', hl, hrow, rfl⟩
    · obtain ⟨rfl, a, c, d, e, f, g, rfl⟩ := h
      simp [okP_some]
      exact ⟨W', row, hW', hl, hrow, rfl⟩
end
end P
end

section
set_option linter.all false
/-! Pgv: values that fit and are tame; models among them. -/
namespace P
open PySem DL
theorem fit_up : ∀ (n : Nat) (x : D), Fit n x → Fit (n + 1) x
  | 0, .list xs, h => h.2.elim
  | n + 1, .list xs, h => ⟨h.1, fun y hy => fit_up n y (h.2 y hy)⟩
  | 0, .tuple xs, h => h.2.elim
  | n + 1, .tuple xs, h => ⟨h.1, fun y hy => fit_up n y (h.2 y hy)⟩
  | n, .dict _, h => absurd rfl (h.nd _)
  | n, .int i, h => by
    have : i ≤ 10000000000000000000000000000000000000000 := by cases n <;> exact h
    exact this
  | n, .none, _ => trivial
  | n, .bool _, _ => trivial
  | n, .str _, _ => trivial
structure GV (n k : Nat) (y : D) : Prop where
  f : Fit n y
  v : Vv n k y
theorem GV.mono {n k n' k' : Nat} {y : D} (h : GV n k y) (hn : n ≤ n') (hk : k ≤ k') : GV n' k' y := by
  refine ⟨?_, h.v.mono hn hk⟩
  obtain ⟨d, rfl⟩ := Nat.le.dest hn
  have f := h.f
  clear h hk hn
  induction d with
  | zero => exact f
  | succ d ih => exact fit_up _ _ ih
theorem gv_list {n k w : Nat} {xs : List D} (h : ∀ y ∈ xs, GV n k y) (hw : xs.length ≤ w) (w1 : w ≤ 1000) : GV (n + 1) (w * (k + 1)) (.list xs) := ⟨⟨by omega, fun y hy => (h y hy).f⟩, vv_list (fun y hy => (h y hy).v) hw⟩
theorem gv_tup {n k w : Nat} {xs : List D} (h : ∀ y ∈ xs, GV n k y) (hw : xs.length ≤ w) (w1 : w ≤ 1000) : GV (n + 1) (w * (k + 1)) (.tuple xs) := ⟨⟨by omega, fun y hy => (h y hy).f⟩, vv_tuple (fun y hy => (h y hy).v) hw⟩
theorem gv_int {i : Int} (h : i.natAbs ≤ 1000000000) : GV 0 0 (.int i) := ⟨show i ≤ _ by omega, ⟨by simp [tame]; omega, by simp [PyData.depth], by simp [PyData.bulk]⟩⟩
theorem gv_N {k : Nat} (h : k ≤ 1000000000) : GV 0 0 (N k) := gv_int (by omega)
theorem gv_none : GV 0 0 .none := ⟨trivial, vv_none⟩
theorem gv_bool (b) : GV 0 0 (.bool b) := ⟨trivial, vv_bool b⟩
theorem repr_gv {n k : Nat} {y : D} (h : GV n k y) (hn : n ≤ 40) (hk : k ≤ 80000) : bRepr [y] = some (.d (.str y.shown)) := by
  obtain ⟨a, b, c⟩ := tame_ok y h.v.t
  have e := PyData.shown_le_bulk 200 (by decide) y c
  show (if _ then _ else _) = _
  rw [if_pos]
  refine ⟨a, b, Nat.le_trans h.v.d hn, ?_⟩
  rw [DL.sizeLine_eq]
  have : (200 + 2) * y.bulk ≤ 202 * 80000 := Nat.mul_le_mul (by decide) (Nat.le_trans h.v.b hk)
  omega
section
variable {m : Nat} {ss : List Stt}
theorem gv_tab {ts : List Nat} (hl : ts.length ≤ 10) (hb : ∀ c ∈ ts, c ≤ TOP) : GV 1 10 (tab ts) := gv_list (n := 0) (k := 0) (w := 10) (fun y hy => by
  obtain ⟨c, hc, rfl⟩ := List.mem_map.mp hy
  exact gv_N (hb c hc)) (by rw [len_Ns]; exact hl) (by decide)
theorem gv_nx {n : Nat} {o : Option Nat} (h : ∀ j, o = some j → j < n) (hn : n ≤ 100) : GV 0 0 (nxD o) := by
  cases o with
  | none => exact gv_none
  | some j =>
    have := h j rfl
    exact gv_N (by omega)
theorem gv_nxs {ns : List (Option Nat)} {n : Nat} (hl : ns.length ≤ 10) (h : ∀ o ∈ ns, ∀ j, o = some j → j < n) (hn : n ≤ 100) : GV 1 10 (.list (ns.map nxD)) := gv_list (n := 0) (k := 0) (w := 10) (fun y hy => by
  obtain ⟨o, ho, rfl⟩ := List.mem_map.mp hy
  exact gv_nx (h o ho) hn) (by simpa using hl) (by decide)
theorem gv_stt {n : Nat} {s : Stt} (w : Wf m n s) (hm : m ≤ 8) (hn : n ≤ 100) (hb : ∀ c ∈ s.1, c ≤ TOP) : GV 2 22 (sttD s) := gv_tup (n := 1) (k := 10) (w := 2) (fun y hy => by
  simp only [List.mem_cons, List.not_mem_nil, or_false] at hy
  rcases hy with rfl | rfl
  · exact gv_tab (by rw [w.lt]; omega) hb
  · exact gv_nxs (by rw [w.ln]; omega) (fun o ho => w.nx ho) hn) (by simp) (by decide)
theorem gv_word : GV 0 20 (.str (Str.ofString "model")) := ⟨trivial, ⟨by decide +kernel, by simp [PyData.depth], by show (Str.ofString "model").cps.size ≤ 20; decide +kernel⟩⟩
theorem gv_Word : GV 0 20 (.str (Str.ofString "Model")) := ⟨trivial, ⟨by decide +kernel, by simp [PyData.depth], by show (Str.ofString "Model").cps.size ≤ 20; decide +kernel⟩⟩
end
theorem lc_items {g : DG} {t : DT} {e : DE} {vs : List Nat} (F : D → D) {xs : List D} {st : DSt} (H : ∀ a ∈ xs, okP (g a st) fun s1 => okP (t s1) fun p => p.1 = true ∧ okP (e p.2) fun q => okP (toD q.2 q.1) fun r => F a = r.1 ∧ wipeD r.2 vs = st) :
    lcGo g t e vs xs st = some (xs.map F, st) := by
  have := lc_mapE (g := g) (t := t) (e := e) (vs := vs) (fun x : D => x) F (l := xs) (st := st) H
  simpa using this
theorem fl {xs : List D} (h : ∀ y ∈ xs, GV 0 0 y) (hl : xs.length ≤ 12) : GV 1 20 (.list xs) := (gv_list h hl (by decide)).mono (by decide) (by decide)
theorem fls {xs : List D} (h : ∀ y ∈ xs, GV 0 0 y) (hl : xs.length ≤ 12) : GV 1 20 (.tuple xs) := (gv_tup h hl (by decide)).mono (by decide) (by decide)
theorem gv_md {m : Nat} {ss : List Stt} (w : Wm TOP m ss) (hm : m ≤ 8) (hs : ss.length ≤ 12) : GV 9 2000 (mdD m ss) := (gv_tup (n := 3) (k := 300) (w := 3) (fun y hy => by
  simp only [List.mem_cons, List.not_mem_nil, or_false] at hy
  rcases hy with rfl | rfl | rfl
  · exact gv_word.mono (by decide) (by decide)
  · exact (gv_N (by omega)).mono (by decide) (by decide)
  · exact (gv_list (n := 2) (k := 22) (w := 13) (fun y hy => by
      obtain ⟨q, hq, rfl⟩ := List.mem_map.mp hy
      exact gv_stt (w.st q hq) hm (by omega) (w.bd q hq)) (by simp; omega) (by decide)).mono (by decide) (by decide)) (by simp) (by decide)).mono (by decide) (by decide)
theorem noList_Ns : ∀ ts : List Nat, noListAll (Ns ts) = true
  | [] => rfl
  | t :: r => by
    show (noList (N t) && noListAll (Ns r)) = true
    rw [noList_Ns r]
    rfl
theorem end_Ns (ts : List Nat) : endStr (Ns ts).getLast? = false := by
  cases h : (Ns ts).getLast? with
  | none => rfl
  | some y =>
    have : y ∈ Ns ts := List.mem_of_getLast? h
    obtain ⟨k, _, rfl⟩ := List.mem_map.mp this
    rfl
theorem depth_Ns : ∀ ts : List Nat, PyData.depthAll (Ns ts) = 0
  | [] => rfl
  | t :: r => by
    show max (PyData.depth (N t)) (PyData.depthAll (Ns r)) = 0
    rw [depth_Ns r]
    rfl
theorem ok_Q (n : Nat) (r : Rat) : okS (n + 2) (Q r) := by
  refine ⟨by simp [DL.sizeLine_eq], fun y hy => ?_⟩
  simp only [List.mem_cons, List.not_mem_nil, or_false] at hy
  rcases hy with rfl | rfl <;> trivial
end P
end

section
set_option linter.all false
namespace K11
open PySem DL
noncomputable def g_is_count : DS := dRet (dAndV (dOp1 (bIsi "int") (dVar 0)) (dAndV (dNotV (dOp1 (bIsi "bool") (dVar 0))) (dOp2 opGe (dVar 0) (dVar 1))))
noncomputable def m_is_count : Fn := run 2 g_is_count
noncomputable def g_divisor : DS := dSeq (dWhile (dTest (dOp2 opNe (dVar 1) (dC (.int 0)))) (dPar [0, 1] (dCons (dVar 1) (dCons (dOp2 opMod (dVar 0) (dVar 1)) (dNil))))) (dRet (dVar 0))
noncomputable def m_divisor : Fn := run 2 g_divisor
noncomputable def g_by_lowest : DS := dSeq (dSet 2 (dCall m_divisor [false, false] [] (dCons (dVar 0) (dCons (dVar 1) (dNil))))) (dRet (dTup (dCons (dOp2 opDiv (dVar 0) (dVar 2)) (dCons (dOp2 opDiv (dVar 1) (dVar 2)) (dNil)))))
noncomputable def m_by_lowest : Fn := run 3 g_by_lowest
noncomputable def g_put_together : DS := dRet (dCall m_by_lowest [false, false] [] (dCons (dOp2 opAdd (dOp2 opMul (dOp2 opIx (dVar 0) (dC (.int 0))) (dOp2 opIx (dVar 1) (dC (.int 1)))) (dOp2 opMul (dOp2 opIx (dVar 1) (dC (.int 0))) (dOp2 opIx (dVar 0) (dC (.int 1))))) (dCons (dOp2 opMul (dOp2 opIx (dVar 0) (dC (.int 1))) (dOp2 opIx (dVar 1) (dC (.int 1)))) (dNil))))
noncomputable def m_put_together : Fn := run 2 g_put_together
noncomputable def g_times : DS := dRet (dCall m_by_lowest [false, false] [] (dCons (dOp2 opMul (dOp2 opIx (dVar 0) (dC (.int 0))) (dOp2 opIx (dVar 1) (dC (.int 0)))) (dCons (dOp2 opMul (dOp2 opIx (dVar 0) (dC (.int 1))) (dOp2 opIx (dVar 1) (dC (.int 1)))) (dNil))))
noncomputable def m_times : Fn := run 2 g_times
noncomputable def g_total : DS := dSeq (dSet 1 (dTup (dCons (dC (.int 0)) (dCons (dC (.int 1)) (dNil))))) (dSeq (dFor (dIter DL.iSeq (dVar 0)) (DL.gName 2) (dSet 1 (dCall m_put_together [false, false] [] (dCons (dVar 1) (dCons (dVar 2) (dNil)))))) (dRet (dVar 1)))
noncomputable def m_total : Fn := run 3 g_total
noncomputable def g_shared : DS := dRet (dCall m_by_lowest [false, false] [] (dCons (dOp2 opMul (dOp2 opIx (dVar 0) (dC (.int 0))) (dOp2 opIx (dVar 1) (dC (.int 1)))) (dCons (dOp2 opMul (dOp2 opIx (dVar 0) (dC (.int 1))) (dOp2 opIx (dVar 1) (dC (.int 0)))) (dNil))))
noncomputable def m_shared : Fn := run 2 g_shared
noncomputable def g_are_counts : DS := dRet (dAndV (dOp1 (bIsi "list") (dVar 0)) (dCallB bAll (dCons (dLc (dIter DL.iSeq (dVar 0)) (DL.gName 1) (dTests) (dCall m_is_count [false] [PyData.int 0] (dCons (dVar 1) (dNil))) [1]) (dNil))))
noncomputable def m_are_counts : Fn := run 2 g_are_counts
noncomputable def g_is_table : DS := dRet (dAndV (dCall m_are_counts [false] [] (dCons (dVar 0) (dNil))) (dOp2 opGt (dCallB bSum (dCons (dVar 0) (dNil))) (dC (.int 0))))
noncomputable def m_is_table : Fn := run 1 g_is_table
noncomputable def g_is_state : DS := dSeq (dIfS (dOr (dNot (dTest (dOp1 (bIsi "tuple") (dVar 0)))) (dTest (dOp2 opNe (dCallB bLen (dCons (dVar 0) (dNil))) (dC (.int 2))))) (dRet (dC (.bool false))) (dNext)) (dSeq (dAsg (DL.gTup 2 (DL.gCons (DL.gName 3) (DL.gCons (DL.gName 4) (DL.gNil)))) (dVar 0)) (dSeq (dIfS (dOr (dNot (dTest (dCall m_is_table [false] [] (dCons (dVar 3) (dNil))))) (dOr (dTest (dOp2 opNe (dCallB bLen (dCons (dVar 3) (dNil))) (dOp2 opAdd (dVar 1) (dC (.int 1))))) (dOr (dNot (dTest (dOp1 (bIsi "list") (dVar 4)))) (dTest (dOp2 opNe (dCallB bLen (dCons (dVar 4) (dNil))) (dVar 1)))))) (dRet (dC (.bool false))) (dNext)) (dSeq (dFor (dIterA DL.iZip (dCons (dVar 3) (dCons (dVar 4) (dNil)))) (DL.gTup 2 (DL.gCons (DL.gName 5) (DL.gCons (DL.gName 6) (DL.gNil)))) (dSeq (dIfS (dOr (dAnd (dTest (dOp2 opIs (dVar 6) (dC .none))) (dTest (dOp2 opGt (dVar 5) (dC (.int 0))))) (dAnd (dTest (dOp2 opIsNot (dVar 6) (dC .none))) (dTest (dOp2 opEq (dVar 5) (dC (.int 0)))))) (dRet (dC (.bool false))) (dNext)) (dIfS (dAnd (dTest (dOp2 opIsNot (dVar 6) (dC .none))) (dNot (dAnd (dTest (dCall m_is_count [false] [PyData.int 0] (dCons (dVar 6) (dNil)))) (dTest (dOp2 opLt (dVar 6) (dVar 2)))))) (dRet (dC (.bool false))) (dNext)))) (dRet (dC (.bool true))))))
noncomputable def m_is_state : Fn := run 7 g_is_state
noncomputable def g_is_model : DS := dSeq (dIfS (dOr (dNot (dTest (dOp1 (bIsi "tuple") (dVar 0)))) (dOr (dTest (dOp2 opNe (dCallB bLen (dCons (dVar 0) (dNil))) (dC (.int 3)))) (dOr (dNot (dTest (dOp1 (bIsi "str") (dOp2 opIx (dVar 0) (dC (.int 0)))))) (dTest (dOp2 opNe (dOp2 opIx (dVar 0) (dC (.int 0))) (dC (.str (Str.ofString "model")))))))) (dRet (dC (.bool false))) (dNext)) (dSeq (dIfS (dOr (dNot (dTest (dCall m_is_count [false, false] [] (dCons (dOp2 opIx (dVar 0) (dC (.int 1))) (dCons (dC (.int 1)) (dNil)))))) (dOr (dTest (dOp2 opGt (dOp2 opIx (dVar 0) (dC (.int 1))) (dC (.int 40)))) (dOr (dNot (dTest (dOp1 (bIsi "list") (dOp2 opIx (dVar 0) (dC (.int 2)))))) (dTest (dOp2 opEq (dOp2 opIx (dVar 0) (dC (.int 2))) (dList (dNil))))))) (dRet (dC (.bool false))) (dNext)) (dRet (dCallB bAll (dCons (dLc (dIter DL.iSeq (dOp2 opIx (dVar 0) (dC (.int 2)))) (DL.gName 1) (dTests) (dCall m_is_state [false, false, false] [] (dCons (dVar 1) (dCons (dOp2 opIx (dVar 0) (dC (.int 1))) (dCons (dCallB bLen (dCons (dOp2 opIx (dVar 0) (dC (.int 2))) (dNil))) (dNil))))) [1]) (dNil)))))
noncomputable def m_is_model : Fn := run 2 g_is_model
noncomputable def g_is_row : DS := dRet (dAndV (dOp1 (bIsi "list") (dVar 0)) (dCallB bAll (dCons (dLc (dIter DL.iSeq (dVar 0)) (DL.gName 2) (dTests) (dAndV (dCall m_is_count [false] [PyData.int 0] (dCons (dVar 2) (dNil))) (dOp2 opLt (dVar 2) (dVar 1))) [2]) (dNil))))
noncomputable def m_is_row : Fn := run 3 g_is_row
noncomputable def g_is_beginning : DS := dSeq (dIfS (dOr (dNot (dTest (dOp1 (bIsi "list") (dVar 0)))) (dNot (dTest (dCall m_is_row [false, false] [] (dCons (dSlice opSlice (dVar 0) (dNoPart) (dPart (dOp1 opNeg (dC (.int 1))))) (dCons (dVar 1) (dNil))))))) (dRet (dC (.bool false))) (dNext)) (dRet (dOrV (dOp2 opEq (dVar 0) (dList (dNil))) (dAndV (dCall m_is_count [false] [PyData.int 0] (dCons (dOp2 opIx (dVar 0) (dOp1 opNeg (dC (.int 1)))) (dNil))) (dOp2 opLe (dOp2 opIx (dVar 0) (dOp1 opNeg (dC (.int 1)))) (dVar 1)))))
noncomputable def m_is_beginning : Fn := run 2 g_is_beginning
noncomputable def g_look_at_row : DS := dIfS (dNot (dTest (dCall m_is_row [false, false] [] (dCons (dVar 0) (dCons (dVar 1) (dNil)))))) (dNever) (dNext)
noncomputable def m_look_at_row : Fn := run 2 g_look_at_row
noncomputable def g_led : DS := dSeq (dSet 2 (dC (.int 0))) (dSeq (dFor (dIter DL.iSeq (dVar 1)) (DL.gName 3) (dSet 2 (dIf (dTest (dOp2 opIs (dVar 2) (dC .none))) (dC .none) (dOp2 opIx (dOp2 opIx (dOp2 opIx (dOp2 opIx (dVar 0) (dC (.int 2))) (dVar 2)) (dC (.int 1))) (dVar 3))))) (dRet (dVar 2)))
noncomputable def m_led : Fn := run 4 g_led
noncomputable def g_odds_along : DS := dSeq (dAsg (DL.gTup 2 (DL.gCons (DL.gName 2) (DL.gCons (DL.gName 3) (DL.gNil)))) (dTup (dCons (dTup (dCons (dC (.int 1)) (dCons (dC (.int 1)) (dNil)))) (dCons (dC (.int 0)) (dNil))))) (dSeq (dFor (dIter DL.iSeq (dVar 1)) (DL.gName 4) (dSeq (dIfS (dTest (dOp2 opIs (dVar 3) (dC .none))) (dRet (dTup (dCons (dC (.int 0)) (dCons (dC (.int 1)) (dNil))))) (dNext)) (dSeq (dAsg (DL.gTup 2 (DL.gCons (DL.gName 5) (DL.gCons (DL.gName 6) (DL.gNil)))) (dOp2 opIx (dOp2 opIx (dVar 0) (dC (.int 2))) (dVar 3))) (dSeq (dSet 2 (dCall m_times [false, false] [] (dCons (dVar 2) (dCons (dCall m_by_lowest [false, false] [] (dCons (dOp2 opIx (dVar 5) (dVar 4)) (dCons (dCallB bSum (dCons (dVar 5) (dNil))) (dNil)))) (dNil))))) (dSet 3 (dIf (dTest (dOp2 opEq (dVar 4) (dOp2 opIx (dVar 0) (dC (.int 1))))) (dC .none) (dOp2 opIx (dVar 6) (dVar 4)))))))) (dRet (dVar 2)))
noncomputable def m_odds_along : Fn := run 7 g_odds_along
noncomputable def g_is_choice : DS := dRet (dAndV (dOp1 (bIsi "tuple") (dVar 0)) (dAndV (dOp2 opEq (dCallB bLen (dCons (dVar 0) (dNil))) (dC (.int 2))) (dAndV (dCall m_is_count [false, false] [] (dCons (dOp2 opIx (dVar 0) (dC (.int 0))) (dCons (dC (.int 1)) (dNil)))) (dCall m_is_model [false] [] (dCons (dOp2 opIx (dVar 0) (dC (.int 1))) (dNil))))))
noncomputable def m_is_choice : Fn := run 1 g_is_choice
noncomputable def g_is_hidden : DS := dSeq (dIfS (dOr (dNot (dTest (dOp1 (bIsi "list") (dVar 0)))) (dOr (dTest (dOp2 opEq (dVar 0) (dList (dNil)))) (dNot (dTest (dCallB bAll (dCons (dLc (dIter DL.iSeq (dVar 0)) (DL.gName 3) (dTests) (dCall m_is_choice [false] [] (dCons (dVar 3) (dNil))) [3]) (dNil))))))) (dRet (dC (.bool false))) (dNext)) (dRet (dCallB bAll (dCons (dLc (dIter DL.iSeq (dVar 0)) (DL.gTup 2 (DL.gCons (DL.gName 1) (DL.gCons (DL.gName 2) (DL.gNil)))) (dTests) (dOp2 opEq (dOp2 opIx (dVar 2) (dC (.int 1))) (dOp2 opIx (dOp2 opIx (dOp2 opIx (dVar 0) (dC (.int 0))) (dC (.int 1))) (dC (.int 1)))) [1, 2]) (dNil))))
noncomputable def m_is_hidden : Fn := run 4 g_is_hidden
noncomputable def g_look_at_hidden : DS := dIfS (dNot (dTest (dCall m_is_hidden [false] [] (dCons (dVar 0) (dNil))))) (dNever) (dNext)
noncomputable def m_look_at_hidden : Fn := run 1 g_look_at_hidden
noncomputable def g_parts : DS := dSeq (dSet 2 (dCallB bSum (dCons (dLc (dIter DL.iSeq (dVar 0)) (DL.gTup 2 (DL.gCons (DL.gName 3) (DL.gCons (DL.gName 4) (DL.gNil)))) (dTests) (dVar 3) [3, 4]) (dNil)))) (dRet (dLc (dIter DL.iSeq (dVar 0)) (DL.gTup 2 (DL.gCons (DL.gName 3) (DL.gCons (DL.gName 4) (DL.gNil)))) (dTests) (dCall m_times [false, false] [] (dCons (dCall m_by_lowest [false, false] [] (dCons (dVar 3) (dCons (dVar 2) (dNil)))) (dCons (dCall m_odds_along [false, false] [] (dCons (dVar 4) (dCons (dVar 1) (dNil)))) (dNil)))) [3, 4]))
noncomputable def m_parts : Fn := run 5 g_parts
noncomputable def g_hidden_odds : DS := dSeq (dDrop (dCall m_look_at_hidden [false] [] (dCons (dVar 0) (dNil)))) (dSeq (dIfS (dNot (dTest (dCall m_is_beginning [false, false] [] (dCons (dVar 1) (dCons (dOp2 opIx (dOp2 opIx (dOp2 opIx (dVar 0) (dC (.int 0))) (dC (.int 1))) (dC (.int 1))) (dNil)))))) (dNever) (dNext)) (dRet (dCall m_total [false] [] (dCons (dCall m_parts [false, false] [] (dCons (dVar 0) (dCons (dVar 1) (dNil)))) (dNil)))))
noncomputable def m_hidden_odds : Fn := run 2 g_hidden_odds
noncomputable def g_believed : DS := dSeq (dDrop (dCall m_look_at_row [false, false] [] (dCons (dVar 1) (dCons (dOp2 opIx (dOp2 opIx (dOp2 opIx (dVar 0) (dC (.int 0))) (dC (.int 1))) (dC (.int 1))) (dNil))))) (dSeq (dSet 2 (dCall m_parts [false, false] [] (dCons (dVar 0) (dCons (dVar 1) (dNil))))) (dSeq (dIfS (dTest (dOp2 opEq (dCall m_total [false] [] (dCons (dVar 2) (dNil))) (dTup (dCons (dC (.int 0)) (dCons (dC (.int 1)) (dNil)))))) (dNever) (dNext)) (dRet (dLc (dIter DL.iSeq (dVar 2)) (DL.gName 3) (dTests) (dCall m_shared [false, false] [] (dCons (dVar 3) (dCons (dCall m_total [false] [] (dCons (dVar 2) (dNil))) (dNil)))) [3]))))
noncomputable def m_believed : Fn := run 4 g_believed
noncomputable def g_belief : DS := dSeq (dDrop (dCall m_look_at_hidden [false] [] (dCons (dVar 0) (dNil)))) (dRet (dCall m_believed [false, false] [] (dCons (dVar 0) (dCons (dVar 1) (dNil)))))
noncomputable def m_belief : Fn := run 2 g_belief
noncomputable def g_next_odds : DS := dSeq (dDrop (dCall m_look_at_hidden [false] [] (dCons (dVar 0) (dNil)))) (dSeq (dSet 2 (dLc (dIterA DL.iZip (dCons (dCall m_believed [false, false] [] (dCons (dVar 0) (dCons (dVar 1) (dNil)))) (dCons (dVar 0) (dNil)))) (DL.gTup 2 (DL.gCons (DL.gName 5) (DL.gCons (DL.gTup 2 (DL.gCons (DL.gName 6) (DL.gCons (DL.gName 7) (DL.gNil)))) (DL.gNil)))) (dTests) (dTup (dCons (dVar 5) (dCons (dVar 7) (dCons (dCall m_led [false, false] [] (dCons (dVar 7) (dCons (dVar 1) (dNil)))) (dNil))))) [5, 6, 7])) (dSeq (dSet 2 (dLc (dIter DL.iSeq (dVar 2)) (DL.gTup 3 (DL.gCons (DL.gName 5) (DL.gCons (DL.gName 7) (DL.gCons (DL.gName 8) (DL.gNil))))) (dTest (dOp2 opIsNot (dVar 8) (dC .none))) (dTup (dCons (dVar 5) (dCons (dOp2 opIx (dOp2 opIx (dOp2 opIx (dVar 7) (dC (.int 2))) (dVar 8)) (dC (.int 0))) (dNil)))) [5, 7, 8])) (dSeq (dSet 3 (dList (dNil))) (dSeq (dFor (dIterA iRange1 (dCons (dOp2 opAdd (dOp2 opIx (dOp2 opIx (dOp2 opIx (dVar 0) (dC (.int 0))) (dC (.int 1))) (dC (.int 1))) (dC (.int 1))) (dNil))) (DL.gName 4) (dAppend 3 (dCall m_total [false] [] (dCons (dLc (dIter DL.iSeq (dVar 2)) (DL.gTup 2 (DL.gCons (DL.gName 5) (DL.gCons (DL.gName 9) (DL.gNil)))) (dTests) (dCall m_times [false, false] [] (dCons (dVar 5) (dCons (dCall m_by_lowest [false, false] [] (dCons (dOp2 opIx (dVar 9) (dVar 4)) (dCons (dCallB bSum (dCons (dVar 9) (dNil))) (dNil)))) (dNil)))) [5, 9]) (dNil))))) (dRet (dVar 3))))))
noncomputable def m_next_odds : Fn := run 10 g_next_odds
noncomputable def g__law_draw : DS := dSeq (dIfS (dAnd (dTest (dOp2 opLt (dOp2 opIx (dVar 0) (dC (.int 2))) (dVar 1))) (dTest (dOp2 opLt (dOp2 opIx (dVar 0) (dC (.int 1))) (dCallB bLen (dCons (dOp2 opIx (dVar 0) (dC (.int 0))) (dNil)))))) (dSeq (dSetIx 0 (dC (.int 2)) (dOp2 opIx (dOp2 opIx (dVar 0) (dC (.int 0))) (dOp2 opIx (dVar 0) (dC (.int 1))))) (dAugIx opAddI 0 (dC (.int 1)) (dC (.int 1)))) (dNext)) (dSeq (dIfS (dTest (dOp2 opGe (dOp2 opIx (dVar 0) (dC (.int 2))) (dVar 1))) (dSeq (dSet 2 (dOp2 opMod (dCallB bInt (dCons (dOp2 opIx (dVar 0) (dC (.int 2))) (dNil))) (dVar 1))) (dSeq (dSetIx 0 (dC (.int 2)) (dOp2 opDiv (dOp2 opIx (dVar 0) (dC (.int 2))) (dVar 1))) (dRet (dVar 2)))) (dNext)) (dSeq (dAugIx opAddI 0 (dC (.int 3)) (dC (.int 1))) (dSeq (dSet 3 (dOp2 opMod (dCallB bInt (dCons (dOp2 opMul (dOp2 opAdd (dOp2 opMul (dOp2 opIx (dVar 0) (dC (.int 3))) (dOp2 opIx (dVar 0) (dC (.int 3)))) (dOp2 opIx (dVar 0) (dC (.int 4)))) (dC (.int 48271))) (dNil))) (dC (.int 2147483629)))) (dRet (dOp2 opMod (dCallB bInt (dCons (dOp2 opMod (dCallB bInt (dCons (dOp2 opMul (dVar 3) (dVar 3)) (dNil))) (dC (.int 2147483587))) (dNil))) (dVar 1))))))
noncomputable def m__law_draw : Fn := run 4 g__law_draw
noncomputable def g__law_bents : DS := dSeq (dSet 2 (dCall m__law_draw [true, false] [] (dCons (dVar 0) (dCons (dCallB bLen (dCons (dVar 1) (dNil))) (dNil))))) (dSeq (dAsg (DL.gTup 2 (DL.gCons (DL.gName 3) (DL.gCons (DL.gName 4) (DL.gNil)))) (dOp2 opIx (dVar 1) (dVar 2))) (dSeq (dSet 5 (dTup (dCons (dC (.str (Str.ofString "model"))) (dCons (dOp2 opAdd (dOp2 opIx (dVar 4) (dC (.int 1))) (dC (.int 1))) (dCons (dList (dCons (dTup (dCons (dOp2 opMul (dList (dCons (dC (.int 1)) (dNil))) (dOp2 opAdd (dOp2 opIx (dVar 4) (dC (.int 1))) (dC (.int 2)))) (dCons (dOp2 opMul (dList (dCons (dC (.int 0)) (dNil))) (dOp2 opAdd (dOp2 opIx (dVar 4) (dC (.int 1))) (dC (.int 1)))) (dNil)))) (dNil))) (dNil)))))) (dSeq (dSet 6 (dList (dCons (dC .none) (dCons (dTup (dCons (dC (.int 0)) (dCons (dVar 4) (dNil)))) (dCons (dTup (dCons (dOp2 opSub (dC (.int 0)) (dC (.int 1))) (dCons (dVar 4) (dNil)))) (dCons (dTup (dCons (dC (.bool true)) (dCons (dVar 4) (dNil)))) (dCons (dTup (dCons (dC (.str (Str.ofString "1"))) (dCons (dVar 4) (dNil)))) (dCons (dTup (dCons (dVar 3) (dNil))) (dCons (dTup (dCons (dVar 3) (dCons (dVar 4) (dCons (dC (.int 0)) (dNil))))) (dCons (dList (dCons (dVar 3) (dCons (dVar 4) (dNil)))) (dCons (dTup (dCons (dVar 3) (dCons (dC .none) (dNil)))) (dCons (dTup (dCons (dVar 3) (dCons (dCallB bList (dCons (dVar 4) (dNil))) (dNil)))) (dCons (dTup (dCons (dVar 3) (dCons (dSlice opSliceT (dVar 4) (dNoPart) (dPart (dC (.int 2)))) (dNil)))) (dNil)))))))))))))) (dSeq (dSet 6 (dOp2 opAdd (dVar 6) (dList (dCons (dTup (dCons (dVar 3) (dCons (dTup (dCons (dOp2 opIx (dVar 4) (dC (.int 0))) (dCons (dOp2 opIx (dVar 4) (dC (.int 1))) (dCons (dList (dNil)) (dNil))))) (dNil)))) (dCons (dTup (dCons (dVar 3) (dCons (dTup (dCons (dOp2 opIx (dVar 4) (dC (.int 0))) (dCons (dOp2 opIx (dVar 4) (dC (.int 1))) (dCons (dList (dCons (dTup (dCons (dOp2 opIx (dOp2 opIx (dOp2 opIx (dVar 4) (dC (.int 2))) (dC (.int 0))) (dC (.int 0))) (dCons (dOp2 opMul (dList (dCons (dC .none) (dNil))) (dOp2 opIx (dVar 4) (dC (.int 1)))) (dNil)))) (dNil))) (dNil))))) (dNil)))) (dCons (dTup (dCons (dVar 3) (dCons (dTup (dCons (dOp2 opIx (dVar 4) (dC (.int 0))) (dCons (dOp2 opIx (dVar 4) (dC (.int 1))) (dCons (dOp2 opAdd (dOp2 opIx (dVar 4) (dC (.int 2))) (dList (dCons (dC .none) (dNil)))) (dNil))))) (dNil)))) (dNil))))))) (dSeq (dSet 6 (dOp2 opAdd (dVar 6) (dList (dCons (dTup (dCons (dVar 3) (dCons (dTup (dCons (dOp2 opIx (dVar 4) (dC (.int 0))) (dCons (dOp2 opIx (dVar 4) (dC (.int 1))) (dCons (dList (dCons (dTup (dCons (dOp2 opMul (dList (dCons (dC (.int 0)) (dNil))) (dOp2 opAdd (dOp2 opIx (dVar 4) (dC (.int 1))) (dC (.int 1)))) (dCons (dOp2 opMul (dList (dCons (dC .none) (dNil))) (dOp2 opIx (dVar 4) (dC (.int 1)))) (dNil)))) (dNil))) (dNil))))) (dNil)))) (dCons (dTup (dCons (dVar 3) (dCons (dTup (dCons (dOp2 opIx (dVar 4) (dC (.int 0))) (dCons (dOp2 opIx (dVar 4) (dC (.int 1))) (dCons (dOp2 opAdd (dOp2 opIx (dVar 4) (dC (.int 2))) (dList (dCons (dTup (dCons (dSlice opSlice (dOp2 opIx (dOp2 opIx (dOp2 opIx (dVar 4) (dC (.int 2))) (dC (.int 0))) (dC (.int 0))) (dPart (dC (.int 1))) (dNoPart)) (dCons (dOp2 opIx (dOp2 opIx (dOp2 opIx (dVar 4) (dC (.int 2))) (dC (.int 0))) (dC (.int 1))) (dNil)))) (dNil)))) (dNil))))) (dNil)))) (dNil)))))) (dSeq (dSet 7 (dList (dCons (dList (dNil)) (dCons (dC .none) (dCons (dOp2 opIx (dVar 1) (dC (.int 0))) (dCons (dCallB bTuple (dCons (dVar 1) (dNil))) (dCons (dOp2 opAdd (dVar 1) (dList (dCons (dTup (dCons (dC (.int 1)) (dCons (dVar 5) (dNil)))) (dNil)))) (dCons (dList (dCons (dTup (dCons (dC (.int 1)) (dCons (dVar 5) (dNil)))) (dNil))) (dCons (dSlice opSlice (dOp2 opAdd (dVar 1) (dVar 1)) (dNoPart) (dPart (dC (.int 3)))) (dCons (dOp1 opRev (dVar 1)) (dCons (dC (.str (Str.ofString "hidden"))) (dCons (dDict0) (dNil))))))))))))) (dRet (dOp2 opAdd (dVar 7) (dLc (dIter DL.iSeq (dVar 6)) (DL.gName 8) (dTests) (dOp2 opAdd (dOp2 opAdd (dSlice opSlice (dVar 1) (dNoPart) (dPart (dVar 2))) (dList (dCons (dVar 8) (dNil)))) (dSlice opSlice (dVar 1) (dPart (dOp2 opAdd (dVar 2) (dC (.int 1)))) (dNoPart))) [8])))))))))
noncomputable def m__law_bents : Fn := run 9 g__law_bents
noncomputable def g__law_is_whole : DS := dRet (dAndV (dOp1 (bIsi "int") (dVar 0)) (dAndV (dNotV (dOp1 (bIsi "bool") (dVar 0))) (dAndV (dOp2 opLe (dVar 1) (dVar 0)) (dOrV (dOp2 opIs (dVar 2) (dC .none)) (dOp2 opLe (dVar 0) (dVar 2))))))
noncomputable def m__law_is_whole : Fn := run 3 g__law_is_whole
noncomputable def g__law_is_model : DS := dSeq (dIfS (dOr (dNot (dTest (dOp1 (bIsi "tuple") (dVar 0)))) (dOr (dTest (dOp2 opNe (dCallB bLen (dCons (dVar 0) (dNil))) (dC (.int 3)))) (dOr (dNot (dTest (dOp1 (bIsi "str") (dOp2 opIx (dVar 0) (dC (.int 0)))))) (dOr (dTest (dOp2 opNe (dOp2 opIx (dVar 0) (dC (.int 0))) (dC (.str (Str.ofString "model"))))) (dNot (dTest (dCall m__law_is_whole [false, false, false] [] (dCons (dOp2 opIx (dVar 0) (dC (.int 1))) (dCons (dC (.int 1)) (dCons (dC (.int 40)) (dNil))))))))))) (dRet (dC (.bool false))) (dNext)) (dSeq (dIfS (dOr (dNot (dTest (dOp1 (bIsi "list") (dOp2 opIx (dVar 0) (dC (.int 2)))))) (dTest (dOp2 opEq (dOp2 opIx (dVar 0) (dC (.int 2))) (dList (dNil))))) (dRet (dC (.bool false))) (dNext)) (dSeq (dFor (dIter DL.iSeq (dOp2 opIx (dVar 0) (dC (.int 2)))) (DL.gName 1) (dSeq (dIfS (dOr (dNot (dTest (dOp1 (bIsi "tuple") (dVar 1)))) (dOr (dTest (dOp2 opNe (dCallB bLen (dCons (dVar 1) (dNil))) (dC (.int 2)))) (dOr (dNot (dTest (dOp1 (bIsi "list") (dOp2 opIx (dVar 1) (dC (.int 0)))))) (dNot (dTest (dOp1 (bIsi "list") (dOp2 opIx (dVar 1) (dC (.int 1))))))))) (dRet (dC (.bool false))) (dNext)) (dSeq (dAsg (DL.gTup 2 (DL.gCons (DL.gName 2) (DL.gCons (DL.gName 3) (DL.gNil)))) (dVar 1)) (dSeq (dIfS (dOr (dTest (dOp2 opNe (dCallB bLen (dCons (dVar 2) (dNil))) (dOp2 opAdd (dOp2 opIx (dVar 0) (dC (.int 1))) (dC (.int 1))))) (dOr (dTest (dOp2 opNe (dCallB bLen (dCons (dVar 3) (dNil))) (dOp2 opIx (dVar 0) (dC (.int 1))))) (dOr (dTest (dOp2 opNe (dLc (dIter DL.iSeq (dVar 2)) (DL.gName 5) (dNot (dTest (dCall m__law_is_whole [false, false, false] [] (dCons (dVar 5) (dCons (dC (.int 0)) (dCons (dC .none) (dNil))))))) (dVar 5) [5]) (dList (dNil)))) (dTest (dOp2 opEq (dCallB bMaxL (dCons (dVar 2) (dNil))) (dC (.int 0))))))) (dRet (dC (.bool false))) (dNext)) (dIfS (dTest (dOp2 opNe (dLc (dIterA DL.iZip (dCons (dVar 3) (dCons (dVar 2) (dNil)))) (DL.gTup 2 (DL.gCons (DL.gName 4) (DL.gCons (DL.gName 5) (DL.gNil)))) (dNot (dIfT (dTest (dOp2 opEq (dVar 5) (dC (.int 0)))) (dTest (dOp2 opIs (dVar 4) (dC .none))) (dTest (dCall m__law_is_whole [false, false, false] [] (dCons (dVar 4) (dCons (dC (.int 0)) (dCons (dOp2 opSub (dCallB bLen (dCons (dOp2 opIx (dVar 0) (dC (.int 2))) (dNil))) (dC (.int 1))) (dNil)))))))) (dVar 4) [4, 5]) (dList (dNil)))) (dRet (dC (.bool false))) (dNext)))))) (dRet (dC (.bool true)))))
noncomputable def m__law_is_model : Fn := run 6 g__law_is_model
noncomputable def g__law_is : DS := dSeq (dIfS (dOr (dNot (dTest (dOp1 (bIsi "list") (dVar 0)))) (dTest (dOp2 opEq (dVar 0) (dList (dNil))))) (dRet (dC (.bool false))) (dNext)) (dSeq (dFor (dIter DL.iSeq (dVar 0)) (DL.gName 2) (dSeq (dIfS (dOr (dNot (dTest (dOp1 (bIsi "tuple") (dVar 2)))) (dOr (dTest (dOp2 opNe (dCallB bLen (dCons (dVar 2) (dNil))) (dC (.int 2)))) (dOr (dNot (dTest (dOp1 (bIsi "int") (dOp2 opIx (dVar 2) (dC (.int 0)))))) (dOr (dTest (dOp1 (bIsi "bool") (dOp2 opIx (dVar 2) (dC (.int 0))))) (dTest (dOp2 opLt (dOp2 opIx (dVar 2) (dC (.int 0))) (dC (.int 1)))))))) (dRet (dC (.bool false))) (dNext)) (dIfS (dNot (dTest (dCall m__law_is_model [false] [] (dCons (dOp2 opIx (dVar 2) (dC (.int 1))) (dNil))))) (dRet (dC (.bool false))) (dNext)))) (dRet (dOp2 opEq (dOp1 bLenDict (dLc (dIter DL.iSeq (dVar 0)) (DL.gTup 2 (DL.gCons (DL.gName 3) (DL.gCons (DL.gName 4) (DL.gNil)))) (dTests) (dTup (dCons (dOp2 opIx (dVar 4) (dC (.int 1))) (dCons (dC (.bool true)) (dNil)))) [3, 4])) (dC (.int 1)))))
noncomputable def m__law_is : Fn := run 5 g__law_is
noncomputable def g__law_pick : DS := dRet (dOp2 opIx (dVar 1) (dCall m__law_draw [true, false] [] (dCons (dVar 0) (dCons (dCallB bLen (dCons (dVar 1) (dNil))) (dNil)))))
noncomputable def m__law_pick : Fn := run 2 g__law_pick
noncomputable def g__law_row : DS := dSeq (dParS 2 [3] (dList (dNil)) (dCons (dC (.int 0)) (dNil))) (dSeq (dFor (dIterA iRange1 (dCons (dCall m__law_draw [true, false] [] (dCons (dVar 0) (dCons (dC (.int 7)) (dNil)))) (dNil))) (DL.gName 4) (dSeq (dSet 5 (dLc (dIterA DL.iEnum (dCons (dOp2 opIx (dOp2 opIx (dOp2 opIx (dVar 1) (dC (.int 2))) (dVar 3)) (dC (.int 1))) (dNil))) (DL.gTup 2 (DL.gCons (DL.gName 6) (DL.gCons (DL.gName 7) (DL.gNil)))) (dTest (dOp2 opIsNot (dVar 7) (dC .none))) (dVar 6) [6, 7])) (dSeq (dIfS (dTest (dOp2 opEq (dVar 5) (dList (dNil)))) (dRet (dVar 2)) (dNext)) (dSeq (dAppend 2 (dCall m__law_pick [true, false] [] (dCons (dVar 0) (dCons (dVar 5) (dNil))))) (dSet 3 (dOp2 opIx (dOp2 opIx (dOp2 opIx (dOp2 opIx (dVar 1) (dC (.int 2))) (dVar 3)) (dC (.int 1))) (dOp2 opIx (dVar 2) (dOp1 opNeg (dC (.int 1)))))))))) (dRet (dVar 2)))
noncomputable def m__law_row : Fn := run 8 g__law_row
noncomputable def g__law_divisor : DS := dSeq (dWhile (dTest (dOp2 opNe (dVar 1) (dC (.int 0)))) (dPar [0, 1] (dCons (dVar 1) (dCons (dOp2 opMod (dVar 0) (dVar 1)) (dNil))))) (dRet (dVar 0))
noncomputable def m__law_divisor : Fn := run 2 g__law_divisor
noncomputable def g__law_by : DS := dSeq (dSet 2 (dCall m__law_divisor [false, false] [] (dCons (dVar 0) (dCons (dVar 1) (dNil))))) (dRet (dTup (dCons (dOp2 opDiv (dVar 0) (dVar 2)) (dCons (dOp2 opDiv (dVar 1) (dVar 2)) (dNil)))))
noncomputable def m__law_by : Fn := run 3 g__law_by
noncomputable def g__law_times : DS := dRet (dCall m__law_by [false, false] [] (dCons (dOp2 opMul (dOp2 opIx (dVar 0) (dC (.int 0))) (dOp2 opIx (dVar 1) (dC (.int 0)))) (dCons (dOp2 opMul (dOp2 opIx (dVar 0) (dC (.int 1))) (dOp2 opIx (dVar 1) (dC (.int 1)))) (dNil))))
noncomputable def m__law_times : Fn := run 2 g__law_times
noncomputable def g__law_odds : DS := dSeq (dAsg (DL.gTup 2 (DL.gCons (DL.gName 2) (DL.gCons (DL.gName 3) (DL.gNil)))) (dTup (dCons (dTup (dCons (dC (.int 1)) (dCons (dC (.int 1)) (dNil)))) (dCons (dC (.int 0)) (dNil))))) (dSeq (dFor (dIter DL.iSeq (dVar 1)) (DL.gName 4) (dSeq (dIfS (dTest (dOp2 opIs (dVar 3) (dC .none))) (dRet (dTup (dCons (dC (.int 0)) (dCons (dC (.int 1)) (dNil))))) (dNext)) (dSeq (dAsg (DL.gTup 2 (DL.gCons (DL.gName 5) (DL.gCons (DL.gName 6) (DL.gNil)))) (dOp2 opIx (dOp2 opIx (dVar 0) (dC (.int 2))) (dVar 3))) (dSeq (dSet 2 (dCall m__law_times [false, false] [] (dCons (dVar 2) (dCons (dCall m__law_by [false, false] [] (dCons (dOp2 opIx (dVar 5) (dVar 4)) (dCons (dCallB bSum (dCons (dVar 5) (dNil))) (dNil)))) (dNil))))) (dSet 3 (dIf (dTest (dOp2 opEq (dVar 4) (dOp2 opIx (dVar 0) (dC (.int 1))))) (dC .none) (dOp2 opIx (dVar 6) (dVar 4)))))))) (dRet (dVar 2)))
noncomputable def m__law_odds : Fn := run 7 g__law_odds
noncomputable def g__law_parts : DS := dSeq (dSet 2 (dCallB bSum (dCons (dLc (dIter DL.iSeq (dVar 0)) (DL.gTup 2 (DL.gCons (DL.gName 3) (DL.gCons (DL.gName 4) (DL.gNil)))) (dTests) (dVar 3) [3, 4]) (dNil)))) (dRet (dLc (dIter DL.iSeq (dVar 0)) (DL.gTup 2 (DL.gCons (DL.gName 3) (DL.gCons (DL.gName 4) (DL.gNil)))) (dTests) (dCall m__law_times [false, false] [] (dCons (dCall m__law_by [false, false] [] (dCons (dVar 3) (dCons (dVar 2) (dNil)))) (dCons (dCall m__law_odds [false, false] [] (dCons (dVar 4) (dCons (dVar 1) (dNil)))) (dNil)))) [3, 4]))
noncomputable def m__law_parts : Fn := run 5 g__law_parts
noncomputable def g__law_over : DS := dRet (dCall m__law_by [false, false] [] (dCons (dOp2 opMul (dOp2 opIx (dVar 0) (dC (.int 0))) (dOp2 opIx (dVar 1) (dC (.int 1)))) (dCons (dOp2 opMul (dOp2 opIx (dVar 0) (dC (.int 1))) (dOp2 opIx (dVar 1) (dC (.int 0)))) (dNil))))
noncomputable def m__law_over : Fn := run 2 g__law_over
noncomputable def g__law_plus : DS := dRet (dCall m__law_by [false, false] [] (dCons (dOp2 opAdd (dOp2 opMul (dOp2 opIx (dVar 0) (dC (.int 0))) (dOp2 opIx (dVar 1) (dC (.int 1)))) (dOp2 opMul (dOp2 opIx (dVar 1) (dC (.int 0))) (dOp2 opIx (dVar 0) (dC (.int 1))))) (dCons (dOp2 opMul (dOp2 opIx (dVar 0) (dC (.int 1))) (dOp2 opIx (dVar 1) (dC (.int 1)))) (dNil))))
noncomputable def m__law_plus : Fn := run 2 g__law_plus
noncomputable def g__law_sum : DS := dSeq (dSet 1 (dTup (dCons (dC (.int 0)) (dCons (dC (.int 1)) (dNil))))) (dSeq (dFor (dIter DL.iSeq (dVar 0)) (DL.gName 2) (dSet 1 (dCall m__law_plus [false, false] [] (dCons (dVar 1) (dCons (dVar 2) (dNil)))))) (dRet (dVar 1)))
noncomputable def m__law_sum : Fn := run 3 g__law_sum
noncomputable def g__law_same (self : Fn) : DS := dSeq (dIfS (dTest (dOp2 opIs (dVar 1) (dC .none))) (dRet (dOp2 opIs (dVar 0) (dC .none))) (dNext)) (dSeq (dIfS (dTest (dOp2 opIs (dVar 1) (dC (.bool true)))) (dRet (dOp2 opIs (dVar 0) (dC (.bool true)))) (dNext)) (dSeq (dIfS (dTest (dOp2 opIs (dVar 1) (dC (.bool false)))) (dRet (dOp2 opIs (dVar 0) (dC (.bool false)))) (dNext)) (dSeq (dIfS (dTest (dOp1 (bIsi2 "list" "tuple") (dVar 1))) (dSeq (dSet 2 (dIf (dTest (dOp1 (bIsi "list") (dVar 1))) (dOp1 (bIsi "list") (dVar 0)) (dOp1 (bIsi "tuple") (dVar 0)))) (dRet (dAndV (dVar 2) (dAndV (dOp2 opEq (dCallB bLen (dCons (dVar 0) (dNil))) (dCallB bLen (dCons (dVar 1) (dNil)))) (dCallB bAll (dCons (dLc (dIterA DL.iZip (dCons (dVar 0) (dCons (dVar 1) (dNil)))) (DL.gTup 2 (DL.gCons (DL.gName 3) (DL.gCons (DL.gName 4) (DL.gNil)))) (dTests) (dCall self [false, false] [] (dCons (dVar 3) (dCons (dVar 4) (dNil)))) [3, 4]) (dNil))))))) (dNext)) (dSeq (dIfS (dTest (dOp1 (bIsi "int") (dVar 1))) (dRet (dAndV (dOp1 (bIsi "int") (dVar 0)) (dAndV (dNotV (dOp1 (bIsi "bool") (dVar 0))) (dOp2 opEq (dVar 0) (dVar 1))))) (dNext)) (dRet (dAndV (dOp1 (bIsi "str") (dVar 0)) (dOp2 opEq (dVar 0) (dVar 1))))))))
noncomputable def m__law_same : Nat → Fn
  | 0 => fun _ => none
  | n + 1 => run 5 (g__law_same (m__law_same n))
noncomputable def g__law_rows_right : DS := dSeq (dAsg (DL.gTup 2 (DL.gCons (DL.gName 3) (DL.gCons (DL.gName 4) (DL.gNil)))) (dCall m__law_pick [true, false] [] (dCons (dVar 0) (dCons (dVar 1) (dNil))))) (dSeq (dSet 5 (dCall m__law_row [true, false] [] (dCons (dVar 0) (dCons (dVar 4) (dNil))))) (dSeq (dFor (dIter DL.iSeq (dList (dCons (dVar 5) (dCons (dOp2 opAdd (dVar 5) (dList (dCons (dVar 2) (dNil)))) (dCons (dOp2 opAdd (dVar 5) (dList (dCons (dCall m__law_draw [true, false] [] (dCons (dVar 0) (dCons (dVar 2) (dNil)))) (dNil)))) (dCons (dList (dNil)) (dCons (dList (dCons (dVar 2) (dNil))) (dNil)))))))) (DL.gName 6) (dSeq (dSet 7 (dCall m__law_sum [false] [] (dCons (dCall m__law_parts [false, false] [] (dCons (dVar 1) (dCons (dVar 6) (dNil)))) (dNil)))) (dIfS (dNot (dTest (dCall (m__law_same 8) [false, false] [] (dCons (dList (dCons (dCall m_hidden_odds [false, false] [] (dCons (dVar 1) (dCons (dVar 6) (dNil)))) (dCons (dCallK m_hidden_odds 0 2 [1, 0] [] dNil (dCons (dVar 6) (dCons (dVar 1) (dNil)))) (dNil)))) (dCons (dList (dCons (dVar 7) (dCons (dVar 7) (dNil)))) (dNil)))))) (dRet (dC (.bool false))) (dNext)))) (dSeq (dSet 8 (dCall m__law_parts [false, false] [] (dCons (dVar 1) (dCons (dVar 5) (dNil))))) (dSeq (dSet 9 (dLc (dIter DL.iSeq (dVar 8)) (DL.gName 12) (dTests) (dCall m__law_over [false, false] [] (dCons (dVar 12) (dCons (dCall m__law_sum [false] [] (dCons (dVar 8) (dNil))) (dNil)))) [12])) (dSeq (dSet 10 (dLc (dIterA iRange1 (dCons (dOp2 opAdd (dVar 2) (dC (.int 1))) (dNil))) (DL.gName 13) (dTests) (dCall m__law_over [false, false] [] (dCons (dCall m__law_sum [false] [] (dCons (dCall m__law_parts [false, false] [] (dCons (dVar 1) (dCons (dOp2 opAdd (dVar 5) (dList (dCons (dVar 13) (dNil)))) (dNil)))) (dNil))) (dCons (dCall m__law_sum [false] [] (dCons (dVar 8) (dNil))) (dNil)))) [13])) (dToldRet 11 4 (dCons (dCall m_belief [false, false] [] (dCons (dVar 1) (dCons (dVar 5) (dNil)))) (dCons (dCall m_next_odds [false, false] [] (dCons (dVar 1) (dCons (dVar 5) (dNil)))) (dCons (dCallK m_belief 0 2 [1, 0] [] dNil (dCons (dVar 5) (dCons (dVar 1) (dNil)))) (dCons (dCallK m_next_odds 0 2 [1, 0] [] dNil (dCons (dVar 5) (dCons (dVar 1) (dNil)))) (dNil))))) (dOr (dNot (dTest (dCall (m__law_same 8) [false, false] [] (dCons (dVar 11) (dCons (dOp2 opMul (dList (dCons (dVar 9) (dCons (dVar 10) (dNil)))) (dC (.int 2))) (dNil)))))) (dOr (dTest (dOp2 opNe (dCall m__law_sum [false] [] (dCons (dVar 9) (dNil))) (dTup (dCons (dC (.int 1)) (dCons (dC (.int 1)) (dNil)))))) (dTest (dOp2 opNe (dCall m__law_sum [false] [] (dCons (dVar 10) (dNil))) (dTup (dCons (dC (.int 1)) (dCons (dC (.int 1)) (dNil)))))))) (dCall (m__law_same 8) [false, false] [] (dCons (dList (dCons (dCall m_belief [false, false] [] (dCons (dVar 1) (dCons (dVar 5) (dNil)))) (dCons (dCall m_next_odds [false, false] [] (dCons (dVar 1) (dCons (dVar 5) (dNil)))) (dNil)))) (dCons (dList (dCons (dVar 9) (dCons (dVar 10) (dNil)))) (dNil))))))))))
noncomputable def m__law_rows_right : Fn := run 14 g__law_rows_right
noncomputable def g__law_model : DS := dSeq (dSet 3 (dOp2 opAdd (dC (.int 1)) (dCall m__law_draw [true, false] [] (dCons (dVar 0) (dCons (dVar 2) (dNil)))))) (dSeq (dAsgO3 4 5 6 (dCall m__law_pick [true, false] [] (dCons (dVar 0) (dCons (dList (dCons (dC (.int 2)) (dCons (dC (.int 3)) (dCons (dC (.int 4)) (dCons (dC (.int 9)) (dCons (dC (.int 1000)) (dCons (dOp2 opPow (dC (.int 10)) (dC (.int 9))) (dNil)))))))) (dNil)))) (dCall m__law_draw [true, false] [] (dCons (dVar 0) (dCons (dC (.int 4)) (dNil)))) (dList (dNil))) (dSeq (dFor (dIterA iRange1 (dCons (dVar 3) (dNil))) (DL.gName 7) (dSeq (dSet 8 (dLc (dIterA iRange1 (dCons (dVar 1) (dNil))) (DL.gName 9) (dTests) (dOp2 opMul (dCall m__law_draw [true, false] [] (dCons (dVar 0) (dCons (dVar 4) (dNil)))) (dCallB bInt (dCons (dOp2 opGt (dCall m__law_draw [true, false] [] (dCons (dVar 0) (dCons (dC (.int 3)) (dNil)))) (dC (.int 0))) (dNil)))) [9])) (dSeq (dAppend 8 (dOp2 opMul (dCall m__law_draw [true, false] [] (dCons (dVar 0) (dCons (dVar 4) (dNil)))) (dCallB bInt (dCons (dAndV (dOp2 opGt (dVar 5) (dC (.int 0))) (dOp2 opEq (dCall m__law_draw [true, false] [] (dCons (dVar 0) (dCons (dVar 5) (dNil)))) (dC (.int 0)))) (dNil))))) (dSeq (dIfS (dTest (dOp2 opEq (dCallB bSum (dCons (dVar 8) (dNil))) (dC (.int 0)))) (dSetIx 8 (dCall m__law_draw [true, false] [] (dCons (dVar 0) (dCons (dOp2 opAdd (dVar 1) (dC (.int 1))) (dNil)))) (dOp2 opAdd (dC (.int 1)) (dCall m__law_draw [true, false] [] (dCons (dVar 0) (dCons (dC (.int 3)) (dNil)))))) (dNext)) (dAppend 6 (dTup (dCons (dVar 8) (dCons (dLc (dIter DL.iSeq (dSlice opSlice (dVar 8) (dNoPart) (dPart (dOp1 opNeg (dC (.int 1)))))) (DL.gName 10) (dTests) (dIf (dTest (dOp2 opGt (dVar 10) (dC (.int 0)))) (dCall m__law_draw [true, false] [] (dCons (dVar 0) (dCons (dVar 3) (dNil)))) (dC .none)) [10]) (dNil))))))))) (dRet (dTup (dCons (dC (.str (Str.ofString "model"))) (dCons (dVar 1) (dCons (dVar 6) (dNil))))))))
noncomputable def m__law_model : Fn := run 11 g__law_model
noncomputable def g__law_hidden : DS := dRet (dLc (dIterA iRange1 (dCons (dVar 2) (dNil))) (DL.gName 4) (dTests) (dTup (dCons (dOp2 opAdd (dC (.int 1)) (dCall m__law_draw [true, false] [] (dCons (dVar 0) (dCons (dCall m__law_pick [true, false] [] (dCons (dVar 0) (dCons (dList (dCons (dC (.int 2)) (dCons (dC (.int 5)) (dCons (dOp2 opPow (dC (.int 10)) (dC (.int 6))) (dNil))))) (dNil)))) (dNil))))) (dCons (dCall m__law_model [true, false, false] [] (dCons (dVar 0) (dCons (dVar 1) (dCons (dVar 3) (dNil))))) (dNil)))) [4])
noncomputable def m__law_hidden : Fn := run 5 g__law_hidden
noncomputable def g__law_purse : DS := dSeq (dSet 1 (dC (.int 7))) (dSeq (dFor (dIter DL.iSeq (dSlice opSlice (dVar 0) (dNoPart) (dPart (dC (.int 63))))) (DL.gName 2) (dSet 1 (dOp2 opMod (dCallB bInt (dCons (dOp2 opAdd (dOp2 opMul (dVar 1) (dC (.int 31))) (dVar 2)) (dNil))) (dC (.int 2147483647))))) (dRet (dList (dCons (dLc (dIter DL.iSeq (dSlice opSlice (dVar 0) (dNoPart) (dPart (dC (.int 63))))) (DL.gName 2) (dTest (dOp2 opGe (dVar 2) (dOp2 opPow (dC (.int 10)) (dC (.int 18))))) (dVar 2) [2]) (dCons (dC (.int 0)) (dCons (dC (.int 0)) (dCons (dC (.int 0)) (dCons (dVar 1) (dNil)))))))))
noncomputable def m__law_purse : Fn := run 3 g__law_purse
noncomputable def g_law : DS := dSeq (dSet 1 (dCall m__law_purse [false] [] (dCons (dVar 0) (dNil)))) (dSeq (dFor (dIterA iRange1 (dCons (dC (.int 5)) (dNil))) (DL.gName 2) (dSeq (dSet 3 (dOp2 opAdd (dC (.int 1)) (dCall m__law_draw [true, false] [] (dCons (dVar 1) (dCons (dC (.int 4)) (dNil)))))) (dSeq (dSet 4 (dCall m__law_hidden [true, false, false, false] [] (dCons (dVar 1) (dCons (dVar 3) (dCons (dOp2 opAdd (dC (.int 1)) (dCall m__law_draw [true, false] [] (dCons (dVar 1) (dCons (dC (.int 4)) (dNil))))) (dCons (dC (.int 3)) (dNil))))))) (dSeq (dSet 4 (dIf (dTest (dOp2 opLt (dCallB bLen (dCons (dVar 4) (dNil))) (dC (.int 4)))) (dOp2 opAdd (dVar 4) (dSlice opSlice (dList (dCons (dCall m__law_pick [true, false] [] (dCons (dVar 1) (dCons (dVar 4) (dNil)))) (dNil))) (dNoPart) (dPart (dCall m__law_draw [true, false] [] (dCons (dVar 1) (dCons (dC (.int 2)) (dNil))))))) (dVar 4))) (dSeq (dSet 5 (dCallB bRepr (dCons (dVar 4) (dNil)))) (dSeq (dFor (dIter DL.iSeq (dOp2 opAdd (dList (dCons (dVar 4) (dNil))) (dCall m__law_bents [true, false] [] (dCons (dVar 1) (dCons (dVar 4) (dNil)))))) (DL.gName 6) (dSeq (dPar [7, 8] (dCons (dCallB bRepr (dCons (dVar 6) (dNil))) (dCons (dCall m__law_is [false, false] [] (dCons (dVar 6) (dCons (dVar 3) (dNil)))) (dNil)))) (dIfS (dOr (dNot (dTest (dCall (m__law_same 8) [false, false] [] (dCons (dList (dCons (dCall m_is_hidden [false] [] (dCons (dVar 6) (dNil))) (dCons (dCallK m_is_hidden 0 1 [0] [] dNil (dCons (dVar 6) (dNil))) (dNil)))) (dCons (dList (dCons (dVar 8) (dCons (dVar 8) (dNil)))) (dNil)))))) (dTest (dOp2 opNe (dCallB bRepr (dCons (dVar 6) (dNil))) (dVar 7)))) (dRet (dC (.bool false))) (dNext)))) (dSeq (dFor (dIterA iRange1 (dCons (dC (.int 4)) (dNil))) (DL.gName 9) (dIfS (dNot (dTest (dCall m__law_rows_right [true, false, false] [] (dCons (dVar 1) (dCons (dVar 4) (dCons (dVar 3) (dNil))))))) (dRet (dC (.bool false))) (dNext))) (dIfS (dTest (dOp2 opNe (dCallB bRepr (dCons (dVar 4) (dNil))) (dVar 5))) (dRet (dC (.bool false))) (dNext))))))))) (dRet (dC (.bool true))))
noncomputable def m_law : Fn := run 10 g_law
end K11
end

section
set_option linter.all false
namespace K11
open PySem DL
open P (Ns tab Q sh Bd Fit Stt mdD sttD nxD Wm Wf modelJ stateJ pairsJ pairJ cnt isum ledF od)
@[simp] theorem e_is_count : m_is_count = P.m_is_count := rfl
@[simp] theorem e_by : m_by_lowest = P.m_by_lowest := rfl
@[simp] theorem e_times : m_times = P.m_times := rfl
@[simp] theorem e_total : m_total = P.m_total := rfl
@[simp] theorem e_is_model : m_is_model = P.m_is_model := rfl
@[simp] theorem e_is_row : m_is_row = P.m_is_row := rfl
@[simp] theorem e_is_beg : m_is_beginning = P.m_is_beginning := rfl
@[simp] theorem e_look_row : m_look_at_row = P.m_look_at_row := rfl
@[simp] theorem e_led : m_led = P.m_led := rfl
@[simp] theorem e_along : m_odds_along = P.m_odds_along := rfl
@[simp] theorem e_odds : m__law_odds = P.m_odds_along := rfl
@[simp] theorem e_lby : m__law_by = P.m_by_lowest := rfl
@[simp] theorem e_ltimes : m__law_times = P.m_times := rfl
@[simp] theorem e_sum : m__law_sum = P.m_total := rfl
@[simp] theorem e_over : m__law_over = m_shared := rfl
@[simp] theorem e_lparts : m__law_parts = m_parts := rfl
@[simp] theorem e_draw : m__law_draw = P.m__law_draw := rfl
@[simp] theorem e_pick : m__law_pick = P.m__law_pick := rfl
@[simp] theorem e_model : m__law_model = P.m__law_model := rfl
@[simp] theorem e_purse : m__law_purse = P.m__law_purse := rfl
theorem same_eq : ∀ n, m__law_same n = P.m__law_same n
  | 0 => rfl
  | n + 1 => by
    show run _ (g__law_same (m__law_same n)) = run _ (P.g__law_same (P.m__law_same n))
    rw [same_eq n]
    rfl
@[simp] theorem e_same (n : Nat) : m__law_same n = P.m__law_same n := same_eq n
open P (Ns tab Q sh Bd Fit Stt mdD sttD nxD Wm Wf modelJ stateJ pairsJ pairJ cnt isum ledF od)
theorem mk_ne {a b : Nat} (ha : 0 < a) (hb : 0 < b) : mkRat a b ≠ 0 := by
  rw [Rat.mkRat_ne_zero (by omega)]
  omega
theorem mul_ne {a b : Rat} (ha : a ≠ 0) (hb : b ≠ 0) : a * b ≠ 0 := fun h => by
  rcases Rat.mul_eq_zero.mp h with h | h
  · exact ha h
  · exact hb h
section
variable {B m : Nat} {ss : List Stt}
def RowI (n m : Nat) (ss : List Stt) (t : Nat) (M : D) (r : List Nat) (s : DSt) : Prop := ∃ (W : List D) (row : List Nat) (s0 : Nat) (v4 v5 : Option SV), P.Purse (n + (t - r.length)) W ∧ r.length ≤ t ∧ row.length + r.length ≤ 6 ∧ (∀ p ∈ row, p < m) ∧ P.ledF ss row = some s0 ∧ P.od m ss (some 0) row ≠ 0 ∧ s0 < ss.length ∧ nd v4 = true ∧ nd v5 = true ∧
  s = [some (.lent W), some (.d M), some (.own (Ns row)), some (.d (N s0)), v4, v5, none, none]
def RowQ (n m : Nat) (ss : List Stt) (r : Rt × List (List D)) : Prop := ∃ W' row, P.Purse (n + 10) W' ∧ row.length ≤ 6 ∧ (∀ p ∈ row, p < m) ∧ P.od m ss (some 0) row ≠ 0 ∧ r = (.own (Ns row), [W'])
def RowP (n m : Nat) (ss : List Stt) (p : Fl × DSt) : Prop := ∃ W' row, P.Purse (n + 10) W' ∧ row.length ≤ 6 ∧ (∀ p ∈ row, p < m) ∧ P.od m ss (some 0) row ≠ 0 ∧ ((p.1 = .rt (.own (Ns row)) ∧ ∃ a b c d e f g, p.2 = [some (.lent W'), a, b, c, d, e, f, g]) ∨ (p.1 = .nx ∧ ∃ a c d e f g, p.2 = [some (.lent W'), a, some (.own (Ns row)), c, d, e, f, g]))
theorem law_row_ok {n : Nat} {W : List D} (hn : n ≤ 90000) (hP : P.Purse n W) (w : Wm B m ss) : okP (m__law_row [.m W, .d (mdD m ss)]) (RowQ n m ss) := by
  obtain ⟨t, W1, ht, hW1, h1⟩ := P.draw_int (by omega) hP 7 (by decide) (by decide)
  have rt := P.range_ok (t := t) (by omega)
  simp only [N] at h1
  simp [m__law_row, g__law_row, run_ap, startD, h1, rt, DL.sizeLine_eq, -iRange1_i]
  simp only [okP_obind]
  refine okP.mono (for_ret (fun i : Nat => PyData.int (i : Nat)) (RowI (n + 1) m ss t (mdD m ss)) (Q := RowP n m ss) (l := List.range t) ⟨W1, [], 0, none, none, by simpa using hW1, by simp, by simp; omega, by simp, rfl, by simp [P.od], w.ne, rfl, rfl, rfl⟩ ?_ ?_) ?_
  · rintro i r s ⟨W2, row, s0, v4, v5, hW2, hr, hrl, hrow, hled, hod, hs0, n4, n5, rfl⟩
    simp only [List.length_cons] at hr hrl hW2
    have a1 := w.at hs0
    simp only [sttD] at a1
    have wf := w.st ss[s0] (List.getElem_mem hs0)
    have en : iEnum [.list (ss[s0].2.map nxD)] = some (ss[s0].2.zipIdx.map fun p => .tuple [.int (p.2 : Nat), nxD p.1]) := by
      show some _ = _
      rw [P.enum_range]
    have lz : ss[s0].2.length ≤ 16777216 := by
      have := w.m2
      rw [wf.ln]
      omega
    simp [okP_some, kSetS_nd n4, P.ix2_md, a1, en, -opIx_li, DL.sizeLine_eq, lz]
    simp only [okP_obind]
    refine okP_of (lc_mapA (fun p : Option Nat × Nat => .tuple [.int (p.2 : Nat), nxD p.1]) (fun p => if p.1 = none then none else some (N p.2)) (l := ss[s0].2.zipIdx) fun p hp => ?_) ?_
    · obtain ⟨o, q⟩ := p
      cases o <;> simp [okP_some, nxD]
    · have ef : ss[s0].2.zipIdx.filterMap (fun p => if p.1 = none then none else some (N p.2)) = Ns (P.openF ss[s0].2) := by
        unfold P.openF
        generalize ss[s0].2.zipIdx = l
        induction l with
        | nil => rfl
        | cons x r ih => by_cases c : x.1 = none <;> simp [c, ih, Ns]
      rw [ef]
      have eq := P.eq_list (P.flat_Ns (P.openF ss[s0].2))
      simp [okP_some, kSetS_nd n5]
      by_cases ce : P.openF ss[s0].2 = []
      · rw [ce] at eq
        rw [ce]
        have e0 : Ns [] = [] := rfl
        rw [e0] at eq ⊢
        simp [okP_some, eq, DL.sizeLine_eq]
        exact ⟨W2, row, hW2.up (by omega), by omega, hrow, hod, .inl ⟨rfl, _, _, _, _, _, _, _, rfl⟩⟩
      · have ei : (Ns (P.openF ss[s0].2)).isEmpty = false := by
          cases h : P.openF ss[s0].2 with
          | nil => exact absurd h ce
          | cons _ _ => rfl
        rw [ei] at eq
        have lo : (P.openF ss[s0].2).length ≤ ss[s0].2.length := by
          unfold P.openF
          refine Nat.le_trans (List.length_filterMap_le _ _) ?_
          simp
        obtain ⟨x, W3, hx, hW3, e3⟩ := P.pick_ok (by omega) hW2 (Ns (P.openF ss[s0].2)) (by
          rw [P.len_Ns]
          exact List.length_pos_iff.mpr ce) (by
          rw [P.len_Ns]
          have := w.m2
          have := wf.ln
          omega)
        obtain ⟨p, hp, rfl⟩ := List.mem_map.mp hx
        obtain ⟨k, hk⟩ := P.openF_mem hp
        have hp2 : p < m := by
          rw [← wf.ln]
          exact (List.getElem?_eq_some_iff.mp hk).1
        have a2 := w.next hs0 hp2
        have es : P.stepF ss (some s0) p = some k := by
          show P.nxAt (P.stAt ss s0) p = some k
          rw [P.stAt_at hs0]
          simp [P.nxAt, List.getD_eq_getElem?_getD, hk]
        rw [es] at a2
        have ek : nxD (some k) = N k := rfl
        rw [ek] at a2
        have hks := w.step (o := some s0) (p := p) (fun a z => by cases z; exact hs0) hp2 k es
        have hled2 : P.ledF ss (row ++ [p]) = some k := by
          unfold P.ledF at hled ⊢
          rw [List.foldl_append, hled]
          exact es
        have hod2 : P.od m ss (some 0) (row ++ [p]) ≠ 0 := by
          rw [P.od_app p row (some 0) hrow]
          have : row.foldl (P.stepF ss) (some 0) = some s0 := hled
          rw [this]
          refine mul_ne hod ?_
          show sh (P.stAt ss s0).1 (P.ctAt (P.stAt ss s0) p) ≠ 0
          rw [P.stAt_at hs0]
          rcases wf.ok p hp2 with ⟨h, _⟩ | ⟨_, c, _, _, h, hc⟩
          · rw [hk] at h
            cases h
          · have : P.ctAt ss[s0] p = c := by simp [P.ctAt, List.getD_eq_getElem?_getD, h]
            rw [this]
            exact mk_ne hc wf.pos
        have xl := P.ix_last (Ns row) (N p)
        have lr : row.length < 16777216 := by omega
        simp [okP_some, eq, e3, DL.sizeLine_eq, lr, P.len_Ns, xl, P.ix2_md, a1, a2, -opIx_li]
        exact ⟨W3, row ++ [p], k, _, _, hW3.up (by omega), by omega, by simp; omega, fun q hq => by
          rcases List.mem_append.mp hq with h | h
          · exact hrow q h
          · have : q = p := by simpa using h
            omega, hled2, hod2, hks, rfl, rfl, by rw [P.Ns_app]⟩
  · rintro s ⟨W2, row, s0, v4, v5, hW2, hr, hrl, hrow, hled, hod, hs0, n4, n5, rfl⟩
    exact ⟨W2, row, hW2.up (by omega), by omega, hrow, hod, .inr ⟨rfl, _, _, _, _, _, _, rfl⟩⟩
  · rintro ⟨p1, p2⟩ ⟨W', row, hW', hl, hrow, hod, h | h⟩
    · obtain ⟨rfl, a, b, c, d, e, f, g, rfl⟩ := h
      simp [okP_some]
      exact ⟨W', row, hW', hl, hrow, hod, rfl⟩
    · obtain ⟨rfl, a, c, d, e, f, g, rfl⟩ := h
      simp [okP_some]
      exact ⟨W', row, hW', hl, hrow, hod, rfl⟩
end
open P (Ns tab Q sh Bd Fit Stt mdD sttD nxD Wm Wf modelJ stateJ pairsJ pairJ cnt isum ledF od)
def wh (a : Int) (b : Option Int) : D → Bool
  | .int i => decide (a ≤ i) && (match b with
    | none => true
    | some b => decide (i ≤ b))
  | _ => false
theorem whole_none {y : D} (hd : ∀ k, y ≠ .dict k) (a : Int) : m__law_is_whole [.d y, .d (.int a), .d .none] = some (.d (.bool (wh a none y)), []) := by
  cases y with
  | dict k => exact absurd rfl (hd k)
  | int i =>
    by_cases c : a ≤ i
    · simp [m__law_is_whole, g__law_is_whole, run_ap, startD, wh, c]
    · simp [m__law_is_whole, g__law_is_whole, run_ap, startD, wh, c]
  | _ => simp [m__law_is_whole, g__law_is_whole, run_ap, startD, wh]
theorem whole_int {y : D} (hd : ∀ k, y ≠ .dict k) (a b : Int) : m__law_is_whole [.d y, .d (.int a), .d (.int b)] = some (.d (.bool (wh a (some b) y)), []) := by
  cases y with
  | dict k => exact absurd rfl (hd k)
  | int i =>
    by_cases c : a ≤ i
    · by_cases c2 : i ≤ b
      · simp [m__law_is_whole, g__law_is_whole, run_ap, startD, wh, c, c2]
      · simp [m__law_is_whole, g__law_is_whole, run_ap, startD, wh, c, c2]
    · simp [m__law_is_whole, g__law_is_whole, run_ap, startD, wh, c]
  | _ => simp [m__law_is_whole, g__law_is_whole, run_ap, startD, wh]
open P (Ns tab Q sh Bd Fit Stt mdD sttD nxD Wm Wf modelJ stateJ pairsJ pairJ cnt isum ledF od)
theorem wh_cnt (y : D) : wh 0 none y = cnt y := by cases y <;> simp [wh, P.cnt]
theorem odd_go {s0 s1 s2 s3 s4 : Option SV} {n : Nat} : ∀ xs : List D, (∀ y ∈ xs, Fit n y) →
    lcGo (DL.gName 5) (dNot (dTest (dCall m__law_is_whole [false, false, false] [] (dCons (dVar 5) (dCons (dC (.int 0)) (dCons (dC .none) (dNil))))))) (dVar 5) [5] xs [s0, s1, s2, s3, s4, none] = some (xs.filter (fun y => !cnt y), [s0, s1, s2, s3, s4, none])
  | [], _ => by simp [lcGo_nil]
  | x :: r, h => by
    have ih := odd_go (s0 := s0) (s1 := s1) (s2 := s2) (s3 := s3) (s4 := s4) r fun y hy => h y (by simp [hy])
    have hx := (h x (by simp)).nd
    have e := whole_none hx 0
    rw [wh_cnt] at e
    rw [lcGo_cons]
    cases c : cnt x <;> simp [ih, e, c]
theorem late_go {s1 s2 s3 : Option SV} {z : Str} {m : Nat} {ss : List D} (h0 : 0 < ss.length) : ∀ (xs ys : List D), xs.all cnt = true → (∀ y ∈ ys, ∀ k, y ≠ .dict k) → ∃ L : List D,
    lcGo (DL.gTup 2 (DL.gCons (DL.gName 4) (DL.gCons (DL.gName 5) (DL.gNil)))) (dNot (dIfT (dTest (dOp2 opEq (dVar 5) (dC (.int 0)))) (dTest (dOp2 opIs (dVar 4) (dC .none))) (dTest (dCall m__law_is_whole [false, false, false] [] (dCons (dVar 4) (dCons (dC (.int 0)) (dCons (dOp2 opSub (dCallB bLen (dCons (dOp2 opIx (dVar 0) (dC (.int 2))) (dNil))) (dC (.int 1))) (dNil)))))))) (dVar 4) [4, 5]
      ((ys.zip xs).map fun p => .tuple [p.1, p.2]) [some (.d (.tuple [.str z, .int (m : Nat), .list ss])), s1, s2, s3, none, none] = some (L, [some (.d (.tuple [.str z, .int (m : Nat), .list ss])), s1, s2, s3, none, none]) ∧ L.isEmpty = pairsJ ss.length xs ys ∧ ∀ y ∈ L, y ∈ ys
  | [], ys, _, _ => ⟨[], by simp [lcGo_nil], by simp [P.pairsJ], by simp⟩
  | x :: xs, [], _, _ => ⟨[], by simp [lcGo_nil], by simp [P.pairsJ], by simp⟩
  | x :: xs, y :: ys, hc, hd => by
    simp only [List.all_cons, Bool.and_eq_true] at hc
    obtain ⟨i, rfl, hi⟩ : ∃ i, x = .int i ∧ 0 ≤ i := by
      have := hc.1
      cases x <;> simp [P.cnt] at this
      exact ⟨_, rfl, this⟩
    obtain ⟨L, ih, ie, im⟩ := late_go (s1 := s1) (s2 := s2) (s3 := s3) (z := z) (m := m) (ss := ss) h0 xs ys hc.2 fun z hz => hd z (by simp [hz])
    have hy := hd y (by simp)
    have e := whole_int hy 0 ((ss.length : Int) - 1)
    simp only [List.zip_cons_cons, List.map_cons, lcGo_cons]
    by_cases c : i = 0
    · subst c
      by_cases hn : y = .none
      · subst hn
        refine ⟨L, ?_, by simp [P.pairsJ, P.pairJ, ie], fun w hw => by simp [im w hw]⟩
        simp [ih]
      · refine ⟨y :: L, ?_, ?_, fun w hw => by
          rcases List.mem_cons.mp hw with rfl | hw
          · simp
          · simp [im w hw]⟩
        · cases y with
          | dict k => exact absurd rfl (hy k)
          | none => exact absurd rfl hn
          | _ => simp [ih]
        · cases y with
          | none => exact absurd rfl hn
          | _ => simp [P.pairsJ, P.pairJ]
    · have ci : ¬ i ≤ 0 := by omega
      by_cases hp : wh 0 (some ((ss.length : Int) - 1)) y = true
      · rw [hp] at e
        refine ⟨L, ?_, ?_, fun w hw => by simp [im w hw]⟩
        · simp [ih, e, c]
        · cases y <;> simp [wh] at hp
          have h1 := hp.1
          simp [P.pairsJ, P.pairJ, ie, c, h1]
          intro
          omega
      · have hp' : wh 0 (some ((ss.length : Int) - 1)) y = false := by simpa using hp
        rw [hp'] at e
        refine ⟨y :: L, ?_, ?_, fun w hw => by
          rcases List.mem_cons.mp hw with rfl | hw
          · simp
          · simp [im w hw]⟩
        · simp [ih, e, c]
        · cases y with
          | int j =>
            simp only [wh, Bool.and_eq_false_iff, decide_eq_false_iff_not] at hp'
            have : ¬ (0 ≤ j ∧ j < ss.length) := by omega
            simp [P.pairsJ, P.pairJ, c, ci]
            omega
          | none => simp [P.pairsJ, P.pairJ, ci]
          | _ => simp [P.pairsJ, P.pairJ]
open P (Ns tab Q sh Bd Fit Stt mdD sttD nxD Wm Wf modelJ stateJ pairsJ pairJ cnt isum ledF od)
theorem filter_empty {α : Type} (f : α → Bool) : ∀ xs : List α, (xs.filter fun y => !f y).isEmpty = xs.all f
  | [] => rfl
  | x :: r => by
    have ih := filter_empty f r
    rw [List.filter_cons, List.all_cons]
    cases f x <;> simp [ih]
theorem isum_nn : ∀ xs : List D, xs.all cnt = true → 0 ≤ isum xs
  | [], _ => by simp [P.isum]
  | x :: r, h => by
    simp only [List.all_cons, Bool.and_eq_true] at h
    have ih := isum_nn r h.2
    cases x with
    | int i =>
      simp only [P.cnt, decide_eq_true_eq] at h
      simp only [P.isum]
      omega
    | _ => simp [P.cnt] at h
theorem max_zero : ∀ is : List Int, (∀ i ∈ is, 0 ≤ i) → is ≠ [] → ∃ k, maxOf is = some k ∧ (0 ≤ k) ∧ (k = 0 ↔ is.sum = 0) ∧ 0 ≤ is.sum
  | [], _, h => absurd rfl h
  | [x], h, _ => by
    have := h x (by simp)
    exact ⟨x, rfl, this, by simp, by simpa using this⟩
  | x :: y :: r, h, _ => by
    have hx := h x (by simp)
    obtain ⟨k, e, h1, h2, h3⟩ := max_zero (y :: r) (fun i hi => h i (by simp [hi])) (by simp)
    refine ⟨if x > k then x else k, ?_, ?_, ?_, ?_⟩
    · rw [maxOf, e]
    · split <;> omega
    · rw [List.sum_cons]
      split <;> omega
    · rw [List.sum_cons]
      omega
theorem ints_nn : ∀ xs : List D, xs.all cnt = true → ∃ is, intsOf xs = some is ∧ is.sum = isum xs ∧ (∀ i ∈ is, 0 ≤ i) ∧ is.length = xs.length
  | [], _ => ⟨[], rfl, rfl, by simp, rfl⟩
  | x :: r, h => by
    simp only [List.all_cons, Bool.and_eq_true] at h
    obtain ⟨is, e1, e2, e3, e4⟩ := ints_nn r h.2
    cases x with
    | int i =>
      have hi : 0 ≤ i := by simpa [P.cnt] using h.1
      refine ⟨i :: is, by rw [intsOf, e1]; rfl, by simp [P.isum, e2], fun k hk => ?_, by simp [e4]⟩
      rcases List.mem_cons.mp hk with rfl | hk
      · exact hi
      · exact e3 k hk
    | _ => simp [P.cnt] at h
theorem turns_go {zz : Str} {n many : Nat} {ss : List D} (hn : n ≤ 60) (h0 : 0 < ss.length) : ∀ (ys : List D) (a b c : Option SV), nd a = true → nd b = true → nd c = true → (∀ y ∈ ys, Fit n y) → ∃ st' : DSt,
    forGo (DL.gName 1) (dSeq (dIfS (dOr (dNot (dTest (dOp1 (bIsi "tuple") (dVar 1)))) (dOr (dTest (dOp2 opNe (dCallB bLen (dCons (dVar 1) (dNil))) (dC (.int 2)))) (dOr (dNot (dTest (dOp1 (bIsi "list") (dOp2 opIx (dVar 1) (dC (.int 0)))))) (dNot (dTest (dOp1 (bIsi "list") (dOp2 opIx (dVar 1) (dC (.int 1))))))))) (dRet (dC (.bool false))) (dNext)) (dSeq (dAsg (DL.gTup 2 (DL.gCons (DL.gName 2) (DL.gCons (DL.gName 3) (DL.gNil)))) (dVar 1)) (dSeq (dIfS (dOr (dTest (dOp2 opNe (dCallB bLen (dCons (dVar 2) (dNil))) (dOp2 opAdd (dOp2 opIx (dVar 0) (dC (.int 1))) (dC (.int 1))))) (dOr (dTest (dOp2 opNe (dCallB bLen (dCons (dVar 3) (dNil))) (dOp2 opIx (dVar 0) (dC (.int 1))))) (dOr (dTest (dOp2 opNe (dLc (dIter DL.iSeq (dVar 2)) (DL.gName 5) (dNot (dTest (dCall m__law_is_whole [false, false, false] [] (dCons (dVar 5) (dCons (dC (.int 0)) (dCons (dC .none) (dNil))))))) (dVar 5) [5]) (dList (dNil)))) (dTest (dOp2 opEq (dCallB bMaxL (dCons (dVar 2) (dNil))) (dC (.int 0))))))) (dRet (dC (.bool false))) (dNext)) (dIfS (dTest (dOp2 opNe (dLc (dIterA DL.iZip (dCons (dVar 3) (dCons (dVar 2) (dNil)))) (DL.gTup 2 (DL.gCons (DL.gName 4) (DL.gCons (DL.gName 5) (DL.gNil)))) (dNot (dIfT (dTest (dOp2 opEq (dVar 5) (dC (.int 0)))) (dTest (dOp2 opIs (dVar 4) (dC .none))) (dTest (dCall m__law_is_whole [false, false, false] [] (dCons (dVar 4) (dCons (dC (.int 0)) (dCons (dOp2 opSub (dCallB bLen (dCons (dOp2 opIx (dVar 0) (dC (.int 2))) (dNil))) (dC (.int 1))) (dNil)))))))) (dVar 4) [4, 5]) (dList (dNil)))) (dRet (dC (.bool false))) (dNext))))) ys [some (.d (.tuple [.str zz, .int (many : Nat), .list ss])), a, b, c, none, none] = some (if ys.all (stateJ many ss.length) = true then Fl.nx else Fl.rt (.d (.bool false)), st')
  | [], a, b, c, _, _, _, _ => ⟨_, by simp [forGo_nil]; rfl⟩
  | y :: ys, a, b, c, ha, hb, hc, hf => by
    have hy := hf y (by simp)
    have fin : ∀ (o : Option (Fl × DSt)) (v : DSt), stateJ many ss.length y = false → o = some (Fl.rt (.d (.bool false)), v) → ∃ st' : DSt, o = some (if (y :: ys).all (stateJ many ss.length) = true then Fl.nx else Fl.rt (.d (.bool false)), st') := fun o v h e => ⟨v, by rw [e, List.all_cons, h]; rfl⟩
    rw [forGo_cons]
    cases y with
    | dict k => exact absurd rfl (hy.nd k)
    | tuple xs =>
      match xs, hy with
      | [], hy => exact fin _ _ rfl (by simp [kSetS_nd ha]; rfl)
      | [x], hy => exact fin _ _ (by simp [P.stateJ]) (by simp [kSetS_nd ha]; rfl)
      | x :: z :: w :: r, hy =>
        have e : ¬ ((r.length : Int) + 1 + 1 + 1 = 2) := by omega
        exact fin _ _ (by simp [P.stateJ]) (by simp [kSetS_nd ha, e]; rfl)
      | [x, z], hy =>
        have hx := hy.tup.2 x (by simp)
        have hz := hy.tup.2 z (by simp)
        cases x with
        | dict k => exact absurd rfl (hx.nd k)
        | list t =>
          cases z with
          | dict k => exact absurd rfl (hz.nd k)
          | list ns =>
            by_cases l1 : t.length = many + 1
            · have l1' : (t.length : Int) = many + 1 := by omega
              by_cases l2 : ns.length = many
              · have l2' : (ns.length : Int) = many := by omega
                have od := odd_go (s0 := some (.d (.tuple [.str zz, .int (many : Nat), .list ss]))) (s1 := some (.d (.tuple [.list t, .list ns]))) (s2 := some (.d (.list t))) (s3 := some (.d (.list ns))) (s4 := none) t hx.list.2
                have ff := P.ne_list (xs := t.filter fun y => !cnt y) (P.flat_list (n := n - 1 - 1) (fun y hy => hx.list.2 y (List.mem_filter.mp hy).1) (by omega))
                rw [filter_empty] at ff
                have lz : t.length ≤ 16777216 := by
                  have := hx.list.1
                  omega
                have lz2 : (t.filter fun y => !cnt y).length ≤ 16777216 := Nat.le_trans (List.length_filter_le _ _) lz
                have lz3 : min ns.length t.length ≤ 16777216 := by omega
                by_cases hc1 : t.all cnt = true
                · rw [hc1] at ff
                  obtain ⟨is, e1, e2, e3, e4⟩ := ints_nn t hc1
                  obtain ⟨k, k1, k2, k3, k4⟩ := max_zero is e3 (by intro h; rw [h] at e4; simp at e4; omega)
                  by_cases hs : isum t = 0
                  · have k0 : k = 0 := k3.mpr (by rw [e2]; exact hs)
                    exact fin _ _ (by simp [P.stateJ, hs]) (by simp [kSetS_nd ha, kSetS_nd hb, kSetS_nd hc, l1', l2', od, ff, e1, k1, k0, DL.sizeLine_eq, lz, lz2]; rfl)
                  · have k0 : ¬ k = 0 := fun h => hs (by rw [← e2]; exact k3.mp h)
                    have pos : 0 < isum t := by omega
                    obtain ⟨L, q1, q2, q3⟩ := late_go (s1 := some (.d (.tuple [.list t, .list ns]))) (s2 := some (.d (.list t))) (s3 := some (.d (.list ns))) (z := zz) (m := many) (ss := ss) h0 t ns hc1 fun y hy => (hz.list.2 y hy).nd
                    have ff2 := P.ne_list (xs := L) (P.flat_list (n := n - 1 - 1) (fun y hy => hz.list.2 y (q3 y hy)) (by omega))
                    rw [q2] at ff2
                    by_cases hp : pairsJ ss.length t ns = true
                    · rw [hp] at ff2
                      obtain ⟨st', ih⟩ := turns_go (zz := zz) (many := many) (ss := ss) hn h0 ys (some (.d (.tuple [.list t, .list ns]))) (some (.d (.list t))) (some (.d (.list ns))) rfl rfl rfl fun y hy => hf y (by simp [hy])
                      refine ⟨st', ?_⟩
                      have sj : stateJ many ss.length (.tuple [.list t, .list ns]) = true := by
                        simp only [P.stateJ, hc1, hp, l1, l2]
                        simp [pos]
                      rw [List.all_cons, sj, Bool.true_and]
                      simp [kSetS_nd ha, kSetS_nd hb, kSetS_nd hc, l1', l2', od, ff, ff2, e1, k1, k0, q1, DL.sizeLine_eq, lz, lz2, lz3, ih]
                    · have hp' : pairsJ ss.length t ns = false := by simpa using hp
                      rw [hp'] at ff2
                      exact fin _ _ (by simp [P.stateJ, hp']) (by simp [kSetS_nd ha, kSetS_nd hb, kSetS_nd hc, l1', l2', od, ff, ff2, e1, k1, k0, q1, DL.sizeLine_eq, lz, lz2, lz3]; rfl)
                · have hc2 : t.all cnt = false := by simpa using hc1
                  rw [hc2] at ff
                  exact fin _ _ (by simp only [P.stateJ, hc2, Bool.false_and]) (by simp [kSetS_nd ha, kSetS_nd hb, kSetS_nd hc, l1', l2', od, ff, DL.sizeLine_eq, lz, lz2]; rfl)
              · have l2' : ¬ (ns.length : Int) = many := by omega
                exact fin _ _ (by simp [P.stateJ, l2]) (by simp [kSetS_nd ha, kSetS_nd hb, kSetS_nd hc, l1', l2']; rfl)
            · have l1' : ¬ (t.length : Int) = many + 1 := by omega
              exact fin _ _ (by simp [P.stateJ, l1]) (by simp [kSetS_nd ha, kSetS_nd hb, kSetS_nd hc, l1']; rfl)
          | _ => exact fin _ _ (by simp [P.stateJ]) (by simp [kSetS_nd ha, kSetS_nd hb, kSetS_nd hc]; rfl)
        | _ => exact fin _ _ (by cases z <;> simp [P.stateJ]) (by simp [kSetS_nd ha, kSetS_nd hb, kSetS_nd hc]; rfl)
    | _ => exact fin _ _ (by simp [P.stateJ]) (by simp [kSetS_nd ha]; rfl)
open P (Ns tab Q sh Bd Fit Stt mdD sttD nxD Wm Wf modelJ stateJ pairsJ pairJ cnt isum ledF od)
theorem law_is_model_ok {n : Nat} {x : D} (h : Fit n x) (hn : n ≤ 60) : m__law_is_model [.d x] = some (.d (.bool (modelJ x)), []) := by
  cases x with
  | dict k => exact absurd rfl (h.nd k)
  | tuple xs =>
    match xs, h with
    | [], h => simp [m__law_is_model, g__law_is_model, run_ap, startD, P.modelJ]
    | [a], h => simp [m__law_is_model, g__law_is_model, run_ap, startD, P.modelJ]
    | [a, b], h => simp [m__law_is_model, g__law_is_model, run_ap, startD, P.modelJ]
    | a :: b :: c :: d :: r, h =>
      have e : ¬ ((r.length : Int) + 1 + 1 + 1 + 1 = 3) := by omega
      simp [m__law_is_model, g__law_is_model, run_ap, startD, P.modelJ, e]
    | [a, b, c], h =>
      have hb := h.tup.2 b (by simp)
      have hc := h.tup.2 c (by simp)
      have wb := whole_int hb.nd 1 40
      cases a with
      | dict k => exact absurd rfl ((h.tup.2 (.dict k) (by simp)).nd k)
      | str z =>
        by_cases hz : z = Str.ofString "model"
        · by_cases hw : wh 1 (some 40) b = true
          · rw [hw] at wb
            cases b with
            | int m =>
              simp only [wh, Bool.and_eq_true, decide_eq_true_eq] at hw
              obtain ⟨m1, m2⟩ := hw
              obtain ⟨k, rfl⟩ := Int.eq_ofNat_of_zero_le (show 0 ≤ m by omega)
              cases c with
              | dict k => exact absurd rfl (hc.nd k)
              | list ss =>
                have ee := P.eq_list (P.flat_list hc.list.2 (by omega))
                by_cases hs : ss = []
                · subst hs
                  simp [m__law_is_model, g__law_is_model, run_ap, startD, P.modelJ, P.ne_str, hz, wb, ee, DL.sizeLine_eq]
                · have hs' : ss.isEmpty = false := by simp [hs]
                  rw [hs'] at ee
                  obtain ⟨st', e⟩ := turns_go (zz := z) (n := n - 1 - 1) (many := k) (ss := ss) (by omega) (List.length_pos_iff.mpr hs) ss none none none rfl rfl rfl hc.list.2
                  subst hz
                  have mj : modelJ (.tuple [.str (Str.ofString "model"), .int (k : Nat), .list ss]) = ss.all (stateJ k ss.length) := by
                    simp [P.modelJ, m1, m2, hs]
                  rw [mj]
                  by_cases hp : ss.all (stateJ k ss.length) = true
                  · rw [hp] at e ⊢
                    rw [if_pos rfl] at e
                    simp [m__law_is_model, g__law_is_model, run_ap, startD, P.ne_str, wb, ee, DL.sizeLine_eq, e]
                  · have hp' : ss.all (stateJ k ss.length) = false := by simpa using hp
                    rw [hp'] at e ⊢
                    rw [if_neg (by decide)] at e
                    simp [m__law_is_model, g__law_is_model, run_ap, startD, P.ne_str, wb, ee, DL.sizeLine_eq, e]
              | _ => simp [m__law_is_model, g__law_is_model, run_ap, startD, P.modelJ, P.ne_str, hz, wb]
            | _ => cases hw
          · have hw' : wh 1 (some 40) b = false := by simpa using hw
            rw [hw'] at wb
            have mj : modelJ (.tuple [.str z, b, c]) = false := by
              cases b with
              | int m =>
                simp only [wh, Bool.and_eq_false_iff, decide_eq_false_iff_not] at hw'
                cases c <;> simp [P.modelJ]
                intros
                omega
              | _ => cases c <;> rfl
            rw [mj]
            simp [m__law_is_model, g__law_is_model, run_ap, startD, P.ne_str, hz, wb]
        · have hz' : (z == Str.ofString "model") = false := by simpa using hz
          cases b <;> cases c <;> simp [m__law_is_model, g__law_is_model, run_ap, startD, P.modelJ, P.ne_str, hz, hz']
      | _ => simp [m__law_is_model, g__law_is_model, run_ap, startD, P.modelJ]
  | _ => simp [m__law_is_model, g__law_is_model, run_ap, startD, P.modelJ]
open P (Ns tab Q sh Bd Fit Stt mdD sttD nxD Wm Wf modelJ stateJ pairsJ pairJ cnt isum ledF od)
def choiceJ : D → Bool
  | .tuple [.int w, y] => decide (1 ≤ w) && modelJ y
  | _ => false
/-- how many pieces a choice's model has -/
def pcs : D → Int
  | .tuple [_, .tuple [_, .int m, _]] => m
  | _ => 0
def hiddenJ : D → Bool
  | .list [] => false
  | .list (x :: xs) => (x :: xs).all choiceJ && (x :: xs).all fun y => pcs y == pcs x
  | _ => false
theorem choice_shape {x : D} (h : choiceJ x = true) : ∃ w z m ss, x = .tuple [.int w, .tuple [.str z, .int m, .list ss]] ∧ 1 ≤ w ∧ modelJ (.tuple [.str z, .int m, .list ss]) = true := by
  match x, h with
  | .tuple [.int w, y], h =>
    simp only [choiceJ, Bool.and_eq_true, decide_eq_true_eq] at h
    obtain ⟨h1, h2⟩ := h
    match y, h2 with
    | .tuple [.str z, .int m, .list ss], h2 => exact ⟨w, z, m, ss, rfl, h1, h2⟩
theorem choice_ok {n : Nat} {x : D} (h : Fit n x) (hn : n ≤ 60) : m_is_choice [.d x] = some (.d (.bool (choiceJ x)), []) := by
  cases x with
  | dict k => exact absurd rfl (h.nd k)
  | tuple xs =>
    match xs, h with
    | [], h => simp [m_is_choice, g_is_choice, run_ap, startD, choiceJ]
    | [a], h => simp [m_is_choice, g_is_choice, run_ap, startD, choiceJ]
    | a :: b :: c :: r, h =>
      have e : ¬ ((r.length : Int) + 1 + 1 + 1 = 2) := by omega
      simp [m_is_choice, g_is_choice, run_ap, startD, choiceJ, e]
    | [a, b], h =>
      have ha := h.tup.2 a (by simp)
      have hb := h.tup.2 b (by simp)
      have ca := P.count_ok a ha.nd 1
      have mb := P.model_ok hb (by omega)
      cases a with
      | int i =>
        by_cases c : 1 ≤ i
        · simp [m_is_choice, g_is_choice, run_ap, startD, choiceJ, ca, mb, c]
        · simp [m_is_choice, g_is_choice, run_ap, startD, choiceJ, ca, mb, c]
      | dict k => exact absurd rfl (ha.nd k)
      | _ => simp [m_is_choice, g_is_choice, run_ap, startD, choiceJ, ca]
  | _ => simp [m_is_choice, g_is_choice, run_ap, startD, choiceJ]
theorem bools_map {α : Type} (f : α → Bool) (xs : List α) : boolsOf (xs.map fun y => .bool (f y)) = some (xs.map f) := by
  induction xs with
  | nil => rfl
  | cons x r ih => simp [boolsOf, ih]
theorem choices_go {s0 s1 s2 : Option SV} {n : Nat} (hn : n ≤ 60) : ∀ xs : List D, (∀ y ∈ xs, Fit n y) → lcGo (DL.gName 3) (dTests) (dCall m_is_choice [false] [] (dCons (dVar 3) (dNil))) [3] xs [s0, s1, s2, none] = some (xs.map fun y => .bool (choiceJ y), [s0, s1, s2, none])
  | [], _ => by simp [lcGo_nil]
  | x :: r, h => by
    have ih := choices_go (s0 := s0) (s1 := s1) (s2 := s2) hn r fun y hy => h y (by simp [hy])
    have e := choice_ok (h x (by simp)) hn
    rw [lcGo_cons]
    simp [ih, e]
theorem pcs_go {x0 : D} {r0 : List D} (h0 : choiceJ x0 = true) : ∀ xs : List D, xs.all choiceJ = true → lcGo (DL.gTup 2 (DL.gCons (DL.gName 1) (DL.gCons (DL.gName 2) (DL.gNil)))) (dTests) (dOp2 opEq (dOp2 opIx (dVar 2) (dC (.int 1))) (dOp2 opIx (dOp2 opIx (dOp2 opIx (dVar 0) (dC (.int 0))) (dC (.int 1))) (dC (.int 1)))) [1, 2] xs [some (.d (.list (x0 :: r0))), none, none, none] = some (xs.map fun y => .bool (pcs y == pcs x0), [some (.d (.list (x0 :: r0))), none, none, none])
  | [], _ => by simp [lcGo_nil]
  | x :: r, h => by
    simp only [List.all_cons, Bool.and_eq_true] at h
    have ih := pcs_go (r0 := r0) h0 r h.2
    obtain ⟨w, z, m, ss, rfl, _, _⟩ := choice_shape h0
    obtain ⟨w', z', m', ss', rfl, _, _⟩ := choice_shape h.1
    rw [lcGo_cons]
    by_cases c : m' = m
    · simp [ih, pcs, c]
    · simp [ih, pcs, c]
theorem hidden_ok {n : Nat} {x : D} (h : Fit n x) (hn : n ≤ 60) : m_is_hidden [.d x] = some (.d (.bool (hiddenJ x)), []) := by
  cases x with
  | dict k => exact absurd rfl (h.nd k)
  | list xs =>
    have ee := P.eq_list (P.flat_list h.list.2 (by omega))
    have lz : xs.length ≤ 16777216 := by have := h.list.1; omega
    cases xs with
    | nil => simp [m_is_hidden, g_is_hidden, run_ap, startD, hiddenJ, ee, DL.sizeLine_eq]
    | cons x xs =>
      simp only [List.isEmpty_cons] at ee
      have lz2 : xs.length ≤ 16777215 := by simpa using lz
      have c1 := choices_go (s0 := some (.d (.list (x :: xs)))) (s1 := none) (s2 := none) (n := n - 1) (by omega) (x :: xs) h.list.2
      have b1 := bools_map choiceJ (x :: xs)
      by_cases hc : (x :: xs).all choiceJ = true
      · have hx : choiceJ x = true := by
          simp only [List.all_cons, Bool.and_eq_true] at hc
          exact hc.1
        have c2 := pcs_go (r0 := xs) hx (x :: xs) hc
        have b2 := bools_map (fun y => pcs y == pcs x) (x :: xs)
        have hj : hiddenJ (.list (x :: xs)) = (x :: xs).all fun y => pcs y == pcs x := by
          show ((x :: xs).all choiceJ && _) = _
          rw [hc, Bool.true_and]
        rw [hj]
        have a1 : ((x :: xs).map choiceJ).all id = true := by simpa using hc
        clear hj hc h lz2
        generalize x :: xs = L at *
        simp [m_is_hidden, g_is_hidden, run_ap, startD, ee, DL.sizeLine_eq, lz, c1, b1, c2, b2, a1, -List.all_map]
        simp [List.all_map, Function.comp_def]
      · have hc' : (x :: xs).all choiceJ = false := by simpa using hc
        have hj : hiddenJ (.list (x :: xs)) = false := by
          show ((x :: xs).all choiceJ && _) = _
          rw [hc', Bool.false_and]
        rw [hj]
        have a1 : ((x :: xs).map choiceJ).all id = false := by simpa using hc'
        clear hj hc hc' h lz2
        generalize x :: xs = L at *
        simp [m_is_hidden, g_is_hidden, run_ap, startD, ee, DL.sizeLine_eq, lz, c1, b1, a1, -List.all_map]
  | _ => simp [m_is_hidden, g_is_hidden, run_ap, startD, hiddenJ]
open P (Ns tab Q sh Bd Fit Stt mdD sttD nxD Wm Wf modelJ stateJ pairsJ pairJ cnt isum ledF od)
open Classical in
theorem distinct_len (zs : List (Int ⊕ Str)) : ∀ za : List (Int ⊕ Str), za.length ≤ (distinctF za zs).length := by
  induction zs with
  | nil => exact fun za => Nat.le_refl _
  | cons z r ih =>
    intro za
    show _ ≤ (distinctF (if z ∈ za then za else za ++ [z]) r).length
    split
    · exact ih za
    · refine Nat.le_trans ?_ (ih _)
      simp
open Classical in
theorem distinct_one (z : Int ⊕ Str) (zs : List (Int ⊕ Str)) : (distinctF [z] zs).length = 1 ↔ ∀ y ∈ zs, y = z := by
  induction zs with
  | nil => simp [distinctF]
  | cons y r ih =>
    show (distinctF (if y ∈ [z] then [z] else [z] ++ [y]) r).length = 1 ↔ _
    by_cases c : y = z
    · rw [if_pos (by simp [c]), ih]
      simp [c]
    · rw [if_neg (by simpa using c)]
      have l1 := distinct_len r ([z] ++ [y])
      have l2 : ([z] ++ [y]).length = 2 := rfl
      rw [l2] at l1
      constructor
      · intro h
        omega
      · intro h
        exact absurd (h y (by simp)) c
theorem keys_go : ∀ xs : List D, keysOf (xs.map fun y => .tuple [.int (pcs y), .bool true]) = some (xs.map fun y => .inl (pcs y))
  | [] => rfl
  | x :: r => by
    show (keysOf (r.map _)).bind _ = _
    rw [keys_go r]
    rfl
open Classical in
theorem len_dict (x : D) (xs : List D) : ∃ k : Nat, bLenDict (.list ((x :: xs).map fun y => .tuple [.int (pcs y), .bool true])) = some (.d (.int (k : Nat))) ∧ (decide (k = 1)) = (x :: xs).all fun y => pcs y == pcs x := by
  refine ⟨_, by show (keysOf _).bind _ = _; rw [keys_go]; rfl, ?_⟩
  have : distinct ((x :: xs).map fun y => Sum.inl (pcs y)) = distinctF [Sum.inl (pcs x)] (xs.map fun y => Sum.inl (pcs y)) := by
    show distinctF (if _ ∈ [] then [] else [] ++ [_]) _ = _
    rw [if_neg (by simp)]
    rfl
  rw [this, Bool.eq_iff_iff, decide_eq_true_iff, distinct_one]
  simp
open P (Ns tab Q sh Bd Fit Stt mdD sttD nxD Wm Wf modelJ stateJ pairsJ pairJ cnt isum ledF od)
theorem ones_go {s0 s1 : Option SV} {n : Nat} (hn : n ≤ 60) : ∀ (ys : List D) (a : Option SV), nd a = true → (∀ y ∈ ys, Fit n y) → ∃ st' : DSt,
    forGo (DL.gName 2) (dSeq (dIfS (dOr (dNot (dTest (dOp1 (bIsi "tuple") (dVar 2)))) (dOr (dTest (dOp2 opNe (dCallB bLen (dCons (dVar 2) (dNil))) (dC (.int 2)))) (dOr (dNot (dTest (dOp1 (bIsi "int") (dOp2 opIx (dVar 2) (dC (.int 0)))))) (dOr (dTest (dOp1 (bIsi "bool") (dOp2 opIx (dVar 2) (dC (.int 0))))) (dTest (dOp2 opLt (dOp2 opIx (dVar 2) (dC (.int 0))) (dC (.int 1)))))))) (dRet (dC (.bool false))) (dNext)) (dIfS (dNot (dTest (dCall m__law_is_model [false] [] (dCons (dOp2 opIx (dVar 2) (dC (.int 1))) (dNil))))) (dRet (dC (.bool false))) (dNext))) ys [s0, s1, a, none, none] = some (if ys.all choiceJ = true then Fl.nx else Fl.rt (.d (.bool false)), st') ∧ (ys.all choiceJ = true → ∃ a', nd a' = true ∧ st' = [s0, s1, a', none, none])
  | [], a, ha, _ => ⟨[s0, s1, a, none, none], by simp [forGo_nil], fun _ => ⟨a, ha, rfl⟩⟩
  | y :: ys, a, ha, hf => by
    have hy := hf y (by simp)
    have fin : ∀ (o : Option (Fl × DSt)) (v : DSt), choiceJ y = false → o = some (Fl.rt (.d (.bool false)), v) → ∃ st' : DSt, o = some (if (y :: ys).all choiceJ = true then Fl.nx else Fl.rt (.d (.bool false)), st') ∧ ((y :: ys).all choiceJ = true → ∃ a', nd a' = true ∧ st' = [s0, s1, a', none, none]) := fun o v h e => ⟨v, by rw [e, List.all_cons, h]; rfl, by rw [List.all_cons, h]; intro z; cases z⟩
    rw [forGo_cons]
    cases y with
    | dict k => exact absurd rfl (hy.nd k)
    | tuple xs =>
      match xs, hy with
      | [], hy => exact fin _ _ rfl (by simp [kSetS_nd ha]; rfl)
      | [x], hy => exact fin _ _ (by simp [choiceJ]) (by simp [kSetS_nd ha]; rfl)
      | x :: z :: w :: r, hy =>
        have e : ¬ ((r.length : Int) + 1 + 1 + 1 = 2) := by omega
        exact fin _ _ (by simp [choiceJ]) (by simp [kSetS_nd ha, e]; rfl)
      | [x, z], hy =>
        have hx := hy.tup.2 x (by simp)
        have hz := hy.tup.2 z (by simp)
        have mo := law_is_model_ok hz (by omega)
        cases x with
        | dict k => exact absurd rfl (hx.nd k)
        | int i =>
          by_cases c : 1 ≤ i
          · have c2 : ¬ i < 1 := by omega
            have c3 : ¬ i ≤ 0 := by omega
            by_cases hm : modelJ z = true
            · rw [hm] at mo
              obtain ⟨st', ih, ih2⟩ := ones_go (s0 := s0) (s1 := s1) hn ys (some (.d (.tuple [.int i, z]))) rfl fun y hy => hf y (by simp [hy])
              have cj : choiceJ (.tuple [.int i, z]) = true := by simp [choiceJ, c, hm]
              refine ⟨st', ?_, fun h => ih2 (by rw [List.all_cons, cj, Bool.true_and] at h; exact h)⟩
              rw [List.all_cons, cj, Bool.true_and]
              simp [kSetS_nd ha, c, c2, c3, mo, ih]
            · have hm' : modelJ z = false := by simpa using hm
              rw [hm'] at mo
              exact fin _ _ (by simp [choiceJ, hm']) (by simp [kSetS_nd ha, c, c2, c3, mo]; rfl)
          · have c2 : i < 1 := by omega
            have c3 : i ≤ 0 := by omega
            exact fin _ _ (by simp [choiceJ, c]) (by simp [kSetS_nd ha, c, c2, c3]; rfl)
        | _ => exact fin _ _ (by simp [choiceJ]) (by simp [kSetS_nd ha]; rfl)
    | _ => exact fin _ _ (by simp [choiceJ]) (by simp [kSetS_nd ha]; rfl)
theorem keys_lc {s0 s1 s2 : Option SV} : ∀ xs : List D, xs.all choiceJ = true → lcGo (DL.gTup 2 (DL.gCons (DL.gName 3) (DL.gCons (DL.gName 4) (DL.gNil)))) (dTests) (dTup (dCons (dOp2 opIx (dVar 4) (dC (.int 1))) (dCons (dC (.bool true)) (dNil)))) [3, 4] xs [s0, s1, s2, none, none] = some (xs.map fun y => .tuple [.int (pcs y), .bool true], [s0, s1, s2, none, none])
  | [], _ => by simp [lcGo_nil]
  | x :: r, h => by
    simp only [List.all_cons, Bool.and_eq_true] at h
    have ih := keys_lc (s0 := s0) (s1 := s1) (s2 := s2) r h.2
    obtain ⟨w', z', m', ss', rfl, _, _⟩ := choice_shape h.1
    rw [lcGo_cons]
    have e : pcs (.tuple [.int w', .tuple [.str z', .int m', .list ss']]) = m' := rfl
    simp [ih, e, DL.sizeLine_eq]
theorem law_is_ok {n many : Nat} {x : D} (h : Fit n x) (hn : n ≤ 60) : m__law_is [.d x, .d (N many)] = some (.d (.bool (hiddenJ x)), []) := by
  cases x with
  | dict k => exact absurd rfl (h.nd k)
  | list xs =>
    have ee := P.eq_list (P.flat_list h.list.2 (by omega))
    have lz : xs.length ≤ 16777216 := by have := h.list.1; omega
    cases xs with
    | nil => simp [m__law_is, g__law_is, run_ap, startD, hiddenJ, ee, DL.sizeLine_eq]
    | cons x xs =>
      simp only [List.isEmpty_cons] at ee
      obtain ⟨st', q1, q2⟩ := ones_go (s0 := some (.d (.list (x :: xs)))) (s1 := some (.d (N many))) (n := n - 1) (by omega) (x :: xs) none rfl h.list.2
      by_cases hc : (x :: xs).all choiceJ = true
      · obtain ⟨a', na, rfl⟩ := q2 hc
        rw [if_pos hc] at q1
        obtain ⟨k, k1, k2⟩ := len_dict x xs
        have kl := keys_lc (s0 := some (.d (.list (x :: xs)))) (s1 := some (.d (N many))) (s2 := a') (x :: xs) hc
        have hj : hiddenJ (.list (x :: xs)) = (x :: xs).all fun y => pcs y == pcs x := by
          show ((x :: xs).all choiceJ && _) = _
          rw [hc, Bool.true_and]
        rw [hj, ← k2]
        clear hj hc h q2 k2
        generalize x :: xs = L at *
        by_cases k0 : k = 1
        · subst k0
          simp [m__law_is, g__law_is, run_ap, startD, ee, DL.sizeLine_eq, lz, q1, kl, k1]
        · have k3 : ¬ (k : Int) = 1 := by omega
          simp [m__law_is, g__law_is, run_ap, startD, ee, DL.sizeLine_eq, lz, q1, kl, k1, k0, k3]
      · have hc' : (x :: xs).all choiceJ = false := by simpa using hc
        rw [if_neg hc] at q1
        have hj : hiddenJ (.list (x :: xs)) = false := by
          show ((x :: xs).all choiceJ && _) = _
          rw [hc', Bool.false_and]
        rw [hj]
        clear hj hc hc' h q2
        generalize x :: xs = L at *
        simp [m__law_is, g__law_is, run_ap, startD, ee, DL.sizeLine_eq, lz, q1]
  | _ => simp [m__law_is, g__law_is, run_ap, startD, hiddenJ]
open P (Ns tab Q sh Bd Fit Stt mdD sttD nxD Wm Wf modelJ stateJ pairsJ pairJ cnt isum ledF od)
abbrev Hid := List (Nat × List Stt)
def hD (m : Nat) (p : Nat × List Stt) : D := .tuple [N p.1, mdD m p.2]
def every (hs : Hid) : Nat := (hs.map (·.1)).sum
/-- a hidden model: few choices, each with its model of m pieces -/
structure Wh (m : Nat) (hs : Hid) : Prop where
  ne : 0 < hs.length
  len : hs.length ≤ 5
  wm : ∀ p ∈ hs, Wm P.TOP m p.2
  st : ∀ p ∈ hs, p.2.length ≤ 3
  w1 : ∀ p ∈ hs, 1 ≤ p.1
  w2 : ∀ p ∈ hs, p.1 ≤ 1000001
  m8 : m ≤ 8
def ptF (m : Nat) (W : Nat) (row : List Nat) (p : Nat × List Stt) : Rat := mkRat p.1 W * od m p.2 (some 0) row
theorem every_go : ∀ hs : Hid, (∀ p ∈ hs, 1 ≤ p.1) → (∀ p ∈ hs, p.1 ≤ 1000001) → hs.length ≤ every hs ∧ every hs ≤ hs.length * 1000001
  | [], _, _ => by simp [every]
  | p :: r, h1, h2 => by
    have ih := every_go r (fun q hq => h1 q (by simp [hq])) fun q hq => h2 q (by simp [hq])
    have a := h1 p (by simp)
    have b := h2 p (by simp)
    have e : every (p :: r) = p.1 + every r := by simp [every]
    rw [e, List.length_cons]
    omega
theorem weights_go {s0 s1 s2 : Option SV} {m : Nat} : ∀ hs : Hid, lcGo (DL.gTup 2 (DL.gCons (DL.gName 3) (DL.gCons (DL.gName 4) (DL.gNil)))) (dTests) (dVar 3) [3, 4] (hs.map (hD m)) [s0, s1, s2, none, none] = some (Ns (hs.map (·.1)), [s0, s1, s2, none, none])
  | [] => by simp [lcGo_nil, Ns]
  | p :: r => by
    have ih := weights_go (s0 := s0) (s1 := s1) (s2 := s2) (m := m) r
    rw [List.map_cons, lcGo_cons]
    simp [ih, hD, Ns]
theorem parts_ok {m : Nat} {hs : Hid} (w : Wh m hs) (row : List Nat) (h : ∀ i ∈ row, i ≤ m) (hr : row.length ≤ 12) : m_parts [.d (.list (hs.map (hD m))), .d (tab row)] = some (.own (hs.map fun p => Q (ptF m (every hs) row p)), []) ∧ ∀ p ∈ hs, Bd 500 (ptF m (every hs) row p) := by
  have ev := every_go hs w.w1 w.w2
  have ne := w.ne
  have len := w.len
  have m8 := w.m8
  have hk : Sm 34 ((m + 1) * P.TOP) := sm_of 34 (by unfold P.TOP; omega)
  have one : ∀ p ∈ hs, P.m_by_lowest [.d (N p.1), .d (N (every hs))] = some (.d (Q (mkRat p.1 (every hs))), []) ∧ Bd 30 (mkRat p.1 (every hs)) := fun p hp => by
    have := w.w2 p hp
    exact ⟨P.by_ok _ _ (by omega) ((sm_of 30 (by omega)).mono (by decide)), P.bd_mk (by omega) (sm_of 30 (by omega)) (sm_of 30 (by omega))⟩
  have two : ∀ p ∈ hs, P.m_odds_along [.d (mdD m p.2), .d (tab row)] = some (.d (Q (od m p.2 (some 0) row)), []) ∧ Bd 410 (od m p.2 (some 0) row) := fun p hp => by
    have wm := w.wm p hp
    exact ⟨P.odds_along_ok wm hk row h (by omega) (by omega), (P.bd_od wm hk row (some 0) h (fun s e => by cases e; exact wm.ne) (by omega)).mono (by omega)⟩
  have thr : ∀ p ∈ hs, P.m_times [.d (Q (mkRat p.1 (every hs))), .d (Q (od m p.2 (some 0) row))] = some (.d (Q (ptF m (every hs) row p)), []) ∧ Bd 440 (ptF m (every hs) row p) := fun p hp => P.times_ok (one p hp).2 (two p hp).2 (by decide)
  refine ⟨?_, fun p hp => (thr p hp).2.mono (by decide)⟩
  have lz : hs.length ≤ 16777216 := by omega
  have sw := P.sum_ok (hs.map (·.1))
  refine okP.eq ?_
  simp [m_parts, g_parts, run_ap, startD, DL.sizeLine_eq, lz, weights_go, sw]
  simp only [okP_obind]
  refine okP_of (lc_mapE (hD m) (fun p => Q (ptF m (every hs) row p)) (l := hs) fun p hp => ?_) ?_
  · have a := (one p hp).1
    have b := (two p hp).1
    have c := (thr p hp).1
    unfold every at a c
    simp [okP_some, hD, a, b, c, every]
  · simp [okP_some]
open P (Ns tab Q sh Bd Fit Stt mdD sttD nxD Wm Wf modelJ stateJ pairsJ pairJ cnt isum ledF od)
theorem ptF_nonneg {m : Nat} {hs : Hid} (w : Wh m hs) (row : List Nat) (h : ∀ i ∈ row, i ≤ m) (hr : row.length ≤ 12) : ∀ p ∈ hs, 0 ≤ ptF m (every hs) row p := fun p hp => ((parts_ok w row h hr).2 p hp).1
/-- the odds of a beginning -/
def hod (m : Nat) (hs : Hid) (row : List Nat) : Rat := (hs.map (ptF m (every hs) row)).sum
theorem total_parts {m : Nat} {hs : Hid} (w : Wh m hs) (row : List Nat) (h : ∀ i ∈ row, i ≤ m) (hr : row.length ≤ 12) : P.m_total [.d (.list (hs.map fun p => Q (ptF m (every hs) row p)))] = some (.d (Q (hod m hs row)), []) ∧ Bd 3000 (hod m hs row) := by
  have len := w.len
  have t := P.total_ok (rs := hs.map (ptF m (every hs) row)) (k := 500) (fun r hr' => by
    obtain ⟨p, hp, rfl⟩ := List.mem_map.mp hr'
    exact (parts_ok w row h hr).2 p hp) (by simp; omega)
  rw [List.map_map] at t
  exact ⟨t.1, t.2.mono (by simp; omega)⟩
open P (Ns tab Q sh Bd Fit Stt mdD sttD nxD Wm Wf modelJ stateJ pairsJ pairJ cnt isum ledF od)
theorem fit_hD {m : Nat} {hs : Hid} (w : Wh m hs) : ∀ p ∈ hs, Fit 5 (hD m p) := fun p hp => by
  refine ⟨by simp, fun y hy => ?_⟩
  simp only [List.mem_cons, List.not_mem_nil, or_false] at hy
  have := w.w2 p hp
  rcases hy with rfl | rfl
  · show ((p.1 : Nat) : Int) ≤ _
    omega
  · exact (w.wm p hp).fit 0 (by unfold P.TOP; decide)
theorem fit_hid {m : Nat} {hs : Hid} (w : Wh m hs) : Fit 6 (.list (hs.map (hD m))) := by
  have := w.len
  refine ⟨by simp; omega, fun y hy => ?_⟩
  obtain ⟨p, hp, rfl⟩ := List.mem_map.mp hy
  exact fit_hD w p hp
theorem choice_hD {m : Nat} {hs : Hid} (w : Wh m hs) : ∀ p ∈ hs, choiceJ (hD m p) = true := fun p hp => by
  have := w.w1 p hp
  show (decide ((1 : Int) ≤ (p.1 : Nat)) && modelJ (mdD m p.2)) = true
  rw [(w.wm p hp).modelJ]
  simp
  omega
theorem hid_j {m : Nat} {hs : Hid} (w : Wh m hs) : hiddenJ (.list (hs.map (hD m))) = true := by
  have ne := w.ne
  have c := choice_hD w
  cases hs with
  | nil => simp at ne
  | cons p r =>
    show (((p :: r).map (hD m)).all choiceJ && ((p :: r).map (hD m)).all fun y => pcs y == pcs (hD m p)) = true
    rw [Bool.and_eq_true, List.all_map, List.all_map, List.all_eq_true, List.all_eq_true]
    exact ⟨c, fun q _ => by simp [hD, pcs, mdD]⟩
theorem look_hid {m : Nat} {hs : Hid} (w : Wh m hs) : m_look_at_hidden [.d (.list (hs.map (hD m)))] = some (.d .none, []) := by
  have h := hidden_ok (fit_hid w) (by decide)
  rw [hid_j w] at h
  simp [m_look_at_hidden, g_look_at_hidden, run_ap, startD, h]
open P (Ns tab Q sh Bd Fit Stt mdD sttD nxD Wm Wf modelJ stateJ pairsJ pairJ cnt isum ledF od)
theorem ix_first {m : Nat} {hs : Hid} (w : Wh m hs) : ∃ p, opIx (.list (hs.map (hD m))) (.int 0) = some (.d (hD m p)) := by
  have ne := w.ne
  cases hs with
  | nil => simp at ne
  | cons p r => exact ⟨p, by simp [hD]⟩
theorem hidden_odds_ok {m : Nat} {hs : Hid} (w : Wh m hs) (b : List Nat) (hl : b.length ≤ 12) (h : ∀ p ∈ b.dropLast, p < m) (h2 : ∀ p ∈ b, p ≤ m) : m_hidden_odds [.d (.list (hs.map (hD m))), .d (tab b)] = some (.d (Q (hod m hs b)), []) := by
  obtain ⟨p, e0⟩ := ix_first w
  have e1 : opIx (hD m p) (.int 1) = some (.d (mdD m p.2)) := rfl
  have bg := P.begin_ok m b (by omega) h h2
  have lk := look_hid w
  have pt := (parts_ok w b h2 hl).1
  have tt := (total_parts w b h2 hl).1
  simp [m_hidden_odds, g_hidden_odds, run_ap, startD, lk, e0, e1, P.ix1_md, bg, pt, tt, -opIx_li]
open P (Ns tab Q sh Bd Fit Stt mdD sttD nxD Wm Wf modelJ stateJ pairsJ pairJ cnt isum ledF od)
theorem div_mk {r s : Rat} {a c : Nat} (h1 : r.num = a) (h2 : s.num = c) (hc : 0 < c) : mkRat ((a * s.den : Nat) : Int) (r.den * c) = r / s := by
  have e1 : (mkRat (a : Int) r.den) = r := by rw [← h1]; exact Rat.mkRat_self r
  have e2 : (mkRat (c : Int) s.den) = s := by rw [← h2]; exact Rat.mkRat_self s
  have p1 := r.den_pos
  have p2 := s.den_pos
  have hs : s ≠ 0 := by
    intro h
    rw [h] at h2
    simp at h2
    omega
  have key : mkRat ((a * s.den : Nat) : Int) (r.den * c) * s = r := by
    conv => lhs; rw [← e2]
    rw [Rat.mkRat_mul_mkRat]
    conv => rhs; rw [← e1]
    rw [Rat.mkRat_eq_iff (by have := Nat.mul_pos (Nat.mul_pos p1 hc) p2; omega) (by omega)]
    push_cast
    grind
  grind
theorem shared_ok {j k : Nat} {r s : Rat} (hr : Bd j r) (hs : Bd k s) (h0 : s ≠ 0) (hk : j + k ≤ 8000) : m_shared [.d (Q r), .d (Q s)] = some (.d (Q (r / s)), []) ∧ Bd (j + k) (r / s) := by
  obtain ⟨a, e1, s1, p1⟩ := hr.nat
  obtain ⟨c, e2, s2, p2⟩ := hs.nat
  have hc : 0 < c := by
    rcases Nat.eq_zero_or_pos c with h | h
    · rw [h] at e2
      exact absurd (Rat.num_eq_zero.mp e2) h0
    · exact h
  have m1 := P.mul_small (s1.mono (by omega)) (hs.d.mono (by omega))
  have m2 := P.mul_small (hr.d.mono (by omega)) (s2.mono (by omega))
  have h := P.by_ok (a * s.den) (r.den * c) (Nat.mul_pos p1 hc) ((hr.d.mul s2).mono (by omega))
  have hb := P.bd_mk (k := j + k) (Nat.mul_pos p1 hc) ((s1.mul hs.d).mono (by omega)) ((hr.d.mul s2).mono (by omega))
  rw [div_mk e1 e2 hc] at h hb
  refine ⟨?_, hb⟩
  simp only [N, Int.natCast_mul] at h
  simp only [Q] at h ⊢
  simp [m_shared, g_shared, run_ap, startD, e1, e2, m1, m2, h]
open P (Ns tab Q sh Bd Fit Stt mdD sttD nxD Wm Wf modelJ stateJ pairsJ pairJ cnt isum ledF od)
theorem Q_ne {r : Rat} (h : r ≠ 0) : opEq (Q r) (.tuple [.int 0, .int 1]) = some (.d (.bool false)) := by
  have hn : r.num ≠ 0 := fun h' => h (Rat.num_eq_zero.mp h')
  simp [Q, opEq, flat, PyData.plain, PyData.plainAll, PyData.depth, PyData.depthAll, PyData.eqv, PyData.eqvAll, hn]
theorem believed_ok {m : Nat} {hs : Hid} (w : Wh m hs) (row : List Nat) (hl : row.length ≤ 11) (h : ∀ p ∈ row, p < m) (h0 : hod m hs row ≠ 0) : m_believed [.d (.list (hs.map (hD m))), .d (tab row)] = some (.own (hs.map fun p => Q (ptF m (every hs) row p / hod m hs row)), []) := by
  obtain ⟨p, e0⟩ := ix_first w
  have e1 : opIx (hD m p) (.int 1) = some (.d (mdD m p.2)) := rfl
  have h2 : ∀ p ∈ row, p ≤ m := fun p hp => Nat.le_of_lt (h p hp)
  have lr := P.look_row_ok m row (by omega) h
  have pt := (parts_ok w row h2 (by omega)).1
  have tt := (total_parts w row h2 (by omega))
  have len := w.len
  have lz : hs.length ≤ 16777216 := by omega
  refine okP.eq ?_
  simp [m_believed, g_believed, run_ap, startD, lr, e0, e1, P.ix1_md, pt, tt.1, Q_ne h0, DL.sizeLine_eq, lz, -opIx_li]
  simp only [okP_obind]
  refine okP_of (lc_mapE (fun p => Q (ptF m (every hs) row p)) (fun p => Q (ptF m (every hs) row p / hod m hs row)) (l := hs) fun p hp => ?_) ?_
  · have s := (shared_ok ((parts_ok w row h2 (by omega)).2 p hp) tt.2 h0 (by decide)).1
    simp [okP_some, tt.1, s]
  · simp [okP_some]
open P (Ns tab Q sh Bd Fit Stt mdD sttD nxD Wm Wf modelJ stateJ pairsJ pairJ cnt isum ledF od)
theorem belief_ok {m : Nat} {hs : Hid} (w : Wh m hs) (row : List Nat) (hl : row.length ≤ 11) (h : ∀ p ∈ row, p < m) (h0 : hod m hs row ≠ 0) : m_belief [.d (.list (hs.map (hD m))), .d (tab row)] = some (.own (hs.map fun p => Q (ptF m (every hs) row p / hod m hs row)), []) := by
  have lk := look_hid w
  have b := believed_ok w row hl h h0
  simp [m_belief, g_belief, run_ap, startD, lk, b]
/-- the choices that a row leads somewhere in: their beliefs and tables there -/
def ldF (m : Nat) (hs : Hid) (row : List Nat) : List (Rat × List Nat) := hs.filterMap fun p => match ledF p.2 row with
  | none => none
  | some s => some (ptF m (every hs) row p / hod m hs row, (P.stAt p.2 s).1)
theorem sum_div (xs : List Rat) (d : Rat) : (xs.map fun x => x / d).sum = xs.sum / d := by
  induction xs with
  | nil => simp [Rat.div_def]
  | cons x r ih =>
    rw [List.map_cons, List.sum_cons, List.sum_cons, ih]
    simp only [Rat.div_def, Rat.add_mul]
theorem beliefs_one {m : Nat} {hs : Hid} {row : List Nat} (h0 : hod m hs row ≠ 0) : (hs.map fun p => ptF m (every hs) row p / hod m hs row).sum = 1 := by
  have := sum_div (hs.map (ptF m (every hs) row)) (hod m hs row)
  rw [List.map_map] at this
  have e : (hs.map fun p => ptF m (every hs) row p / hod m hs row).sum = hod m hs row / hod m hs row := this
  rw [e, Rat.div_def, Rat.mul_inv_cancel _ h0]
open P (Ns tab Q sh Bd Fit Stt mdD sttD nxD Wm Wf modelJ stateJ pairsJ pairJ cnt isum ledF od)
theorem ptF_app {m W : Nat} {row : List Nat} (i : Nat) (p : Nat × List Stt) (h : ∀ q ∈ row, q < m) : ptF m W (row ++ [i]) p = ptF m W row p * P.lastF p.2 (ledF p.2 row) i := by
  unfold ptF
  rw [P.od_app i row (some 0) h, ← Rat.mul_assoc]
  rfl
theorem add_sum (f g : Nat → Rat) : ∀ l : List Nat, (l.map fun i => f i + g i).sum = (l.map f).sum + (l.map g).sum
  | [] => by simp [Rat.zero_add]
  | x :: r => by
    rw [List.map_cons, List.map_cons, List.map_cons, List.sum_cons, List.sum_cons, List.sum_cons, add_sum f g r]
    grind
theorem nexts_one {m : Nat} {hs : Hid} (w : Wh m hs) {row : List Nat} (h : ∀ q ∈ row, q < m) (h0 : hod m hs row ≠ 0) : ((List.range (m + 1)).map fun i => hod m hs (row ++ [i]) / hod m hs row).sum = 1 := by
  have := sum_div ((List.range (m + 1)).map fun i => hod m hs (row ++ [i])) (hod m hs row)
  rw [List.map_map] at this
  have e : ((List.range (m + 1)).map fun i => hod m hs (row ++ [i]) / hod m hs row).sum = ((List.range (m + 1)).map fun i => hod m hs (row ++ [i])).sum / hod m hs row := this
  have s : ((List.range (m + 1)).map fun i => hod m hs (row ++ [i])).sum = hod m hs row := by
    have go : ∀ r : Hid, (∀ p ∈ r, Wm P.TOP m p.2) → ((List.range (m + 1)).map fun i => (r.map (ptF m (every hs) (row ++ [i]))).sum).sum = (r.map (ptF m (every hs) row)).sum := by
      intro r
      induction r with
      | nil =>
        intro _
        simp only [List.map_nil, List.sum_nil]
        generalize List.range (m + 1) = l
        induction l with
        | nil => rfl
        | cons x l ih => rw [List.map_cons, List.sum_cons, ih, Rat.zero_add]
      | cons p r ih =>
        intro hw
        have ih := ih fun q hq => hw q (by simp [hq])
        have hp := P.od_sum (hw p (by simp)) h
        have one : ((List.range (m + 1)).map fun i => ptF m (every hs) (row ++ [i]) p).sum = ptF m (every hs) row p := by
          have := P.mul_sum (mkRat p.1 (every hs)) (fun i => od m p.2 (some 0) (row ++ [i])) (List.range (m + 1))
          rw [hp] at this
          exact this
        rw [List.map_cons, List.sum_cons, ← one, ← ih, ← add_sum]
        rfl
    exact go hs w.wm
  rw [e, s, Rat.div_def, Rat.mul_inv_cancel _ h0]
open P (Ns tab Q sh Bd Fit Stt mdD sttD nxD Wm Wf modelJ stateJ pairsJ pairJ cnt isum ledF od)
/-! tighter bounds for rows of at most seven items -/
theorem pt_bd {m : Nat} {hs : Hid} (w : Wh m hs) (row : List Nat) (h : ∀ i ∈ row, i ≤ m) (hr : row.length ≤ 7) : ∀ p ∈ hs, Bd (32 + 34 * row.length) (ptF m (every hs) row p) := fun p hp => by
  have ev := every_go hs w.w1 w.w2
  have ne := w.ne
  have len := w.len
  have m8 := w.m8
  have hk : Sm 34 ((m + 1) * P.TOP) := sm_of 34 (by unfold P.TOP; omega)
  have wm := w.wm p hp
  have := w.w2 p hp
  have a : Bd 30 (mkRat p.1 (every hs)) := P.bd_mk (by omega) (sm_of 30 (by omega)) (sm_of 30 (by omega))
  have b := P.bd_od wm hk row (some 0) h (fun s e => by cases e; exact wm.ne) (by omega)
  exact (P.times_ok a b (by omega)).2.mono (by omega)
theorem bd_sum {rs : List Rat} {k : Nat} (hf : ∀ r ∈ rs, Bd k r) (hk : 2 + rs.length * (k + 1) ≤ 8000) : Bd (2 + rs.length * (k + 1)) rs.sum := (P.total_ok hf hk).2
theorem bd_sum5 {rs : List Rat} {k : Nat} (hf : ∀ r ∈ rs, Bd k r) (hl : rs.length ≤ 5) (hk : 2 + 5 * (k + 1) ≤ 8000) : Bd (2 + 5 * (k + 1)) rs.sum := by
  have := Nat.mul_le_mul_right (k + 1) hl
  exact (bd_sum hf (by omega)).mono (by omega)
theorem hod_bd {m : Nat} {hs : Hid} (w : Wh m hs) (row : List Nat) (h : ∀ i ∈ row, i ≤ m) (hr : row.length ≤ 7) : Bd (2 + 5 * (33 + 34 * row.length)) (hod m hs row) := by
  have := w.len
  exact (bd_sum5 (k := 32 + 34 * row.length) (rs := hs.map (ptF m (every hs) row)) (fun r hr' => by
    obtain ⟨p, hp, rfl⟩ := List.mem_map.mp hr'
    exact pt_bd w row h hr p hp) (by simpa using this) (by omega)).mono (by omega)
theorem div_bd {j k : Nat} {r s : Rat} (hr : Bd j r) (hs : Bd k s) (h0 : s ≠ 0) (hk : j + k ≤ 8000) : Bd (j + k) (r / s) := (shared_ok hr hs h0 hk).2
theorem take_sum : ∀ (ts : List Nat) (k : Nat), (ts.take k).sum ≤ ts.sum
  | [], k => by simp
  | t :: r, 0 => by simp
  | t :: r, k + 1 => by
    have := take_sum r k
    simp only [List.take_succ_cons, List.sum_cons]
    omega
theorem range_at (ts : List Nat) (k : Nat) (hk : k ≤ ts.length) : (List.range k).map (fun i => P.ctAt (ts, []) i) = ts.take k := by
  apply List.ext_getElem
  · simp
    omega
  · intro i h1 h2
    have hi : i < ts.length := by simp at h1; omega
    simp [P.ctAt, List.getD_eq_getElem?_getD, List.getElem?_eq_getElem hi]
theorem last_pre {m : Nat} {ss : List Stt} (wm : Wm P.TOP m ss) (m8 : m ≤ 8) {o : Option Nat} (ho : ∀ s, o = some s → s < ss.length) {k : Nat} (hk : k ≤ m + 1) : Bd 34 ((List.range k).map (P.lastF ss o)).sum := by
  cases o with
  | none =>
    have : ∀ l : List Nat, (l.map (P.lastF ss none)).sum = 0 := by
      intro l
      induction l with
      | nil => rfl
      | cons x r ih =>
        rw [List.map_cons, List.sum_cons, ih]
        exact Rat.add_zero 0
    rw [this]
    exact P.bd_zero.mono (by decide)
  | some s =>
    have hs := ho s rfl
    have wf := wm.st ss[s] (List.getElem_mem hs)
    have hb := wm.bd ss[s] (List.getElem_mem hs)
    have sm := wm.sum hs
    have e : (List.range k).map (P.lastF ss (some s)) = (ss[s].1.take k).map (sh ss[s].1) := by
      rw [← range_at ss[s].1 k (by rw [wf.lt]; exact hk), List.map_map]
      apply List.map_congr_left
      intro i _
      simp only [P.lastF, P.stAt_at hs, Function.comp_apply]
      rfl
    rw [e, P.sh_sum]
    exact P.bd_sh wf.pos (sm_of 34 (by unfold P.TOP at sm; omega)) (take_sum _ _)
theorem pre_eq {m : Nat} {row : List Nat} (W : Nat) (h : ∀ q ∈ row, q < m) (l : List Nat) : ∀ hs : Hid, (l.map fun i => (hs.map (ptF m W (row ++ [i]))).sum).sum = (hs.map fun p => ptF m W row p * (l.map (P.lastF p.2 (ledF p.2 row))).sum).sum
  | [] => by
    simp only [List.map_nil, List.sum_nil]
    induction l with
    | nil => rfl
    | cons x l ih => rw [List.map_cons, List.sum_cons, ih, Rat.zero_add]
  | p :: r => by
    have ih := pre_eq W h l r
    have one : (l.map fun i => ptF m W (row ++ [i]) p).sum = ptF m W row p * (l.map (P.lastF p.2 (ledF p.2 row))).sum := by
      rw [← P.mul_sum]
      congr 1
      apply List.map_congr_left
      intro i _
      exact ptF_app i p h
    rw [List.map_cons, List.sum_cons, ← one, ← ih, ← add_sum]
    rfl
/-- what stands before: the odds of the first k items behind a row -/
theorem pre_bd {m : Nat} {hs : Hid} (w : Wh m hs) {row : List Nat} (hr : row.length ≤ 6) (h : ∀ q ∈ row, q < m) (h0 : hod m hs row ≠ 0) {k : Nat} (hk : k ≤ m + 1) : Bd 2600 (((List.range k).map fun i => hod m hs (row ++ [i]) / hod m hs row).sum) := by
  have h2 : ∀ p ∈ row, p ≤ m := fun p hp => Nat.le_of_lt (h p hp)
  have e1 := sum_div ((List.range k).map fun i => hod m hs (row ++ [i])) (hod m hs row)
  rw [List.map_map] at e1
  have e : ((List.range k).map fun i => hod m hs (row ++ [i]) / hod m hs row).sum = ((List.range k).map fun i => hod m hs (row ++ [i])).sum / hod m hs row := e1
  have p := pre_eq (every hs) h (List.range k) hs
  have b : Bd (2 + 5 * 271) ((List.range k).map fun i => hod m hs (row ++ [i])).sum := by
    unfold hod
    rw [p]
    refine bd_sum5 (k := 270) (fun r hr' => ?_) (by simpa using w.len) (by decide)
    obtain ⟨q, hq, rfl⟩ := List.mem_map.mp hr'
    have a := pt_bd w row h2 (by omega) q hq
    have c := last_pre (w.wm q hq) w.m8 (P.ledF_ok (w.wm q hq) h) hk
    exact (P.times_ok a c (by omega)).2.mono (by omega)
  rw [e]
  exact (div_bd b (hod_bd w row h2 (by omega)) h0 (by omega)).mono (by omega)
theorem next_bd {m : Nat} {hs : Hid} (w : Wh m hs) {row : List Nat} (hr : row.length ≤ 6) (h : ∀ q ∈ row, q < m) (h0 : hod m hs row ≠ 0) {i : Nat} (hi : i ≤ m) : Bd 2600 (hod m hs (row ++ [i]) / hod m hs row) := by
  have h2 : ∀ p ∈ row, p ≤ m := fun p hp => Nat.le_of_lt (h p hp)
  have h3 : ∀ p ∈ row ++ [i], p ≤ m := fun p hp => by
    rcases List.mem_append.mp hp with h | h
    · exact h2 p h
    · simp at h
      omega
  exact (div_bd (hod_bd w (row ++ [i]) h3 (by simp; omega)) (hod_bd w row h2 (by omega)) h0 (by simp; omega)).mono (by simp; omega)
theorem belief_bd {m : Nat} {hs : Hid} (w : Wh m hs) {row : List Nat} (hr : row.length ≤ 6) (h : ∀ q ∈ row, q < m) (h0 : hod m hs row ≠ 0) : ∀ p ∈ hs, Bd 1423 (ptF m (every hs) row p / hod m hs row) := fun p hp => by
  have h2 : ∀ p ∈ row, p ≤ m := fun p hp => Nat.le_of_lt (h p hp)
  exact (div_bd (pt_bd w row h2 (by omega) p hp) (hod_bd w row h2 (by omega)) h0 (by omega)).mono (by omega)
theorem total_pre_go {L : D} {K k : Nat} (hK : K + k + 1 ≤ 8000) : ∀ (rs : List Rat) (p : Rat) (v : Option SV), nd v = true → (∀ r ∈ rs, Bd k r) → (∀ n, n ≤ rs.length → Bd K (p + (rs.take n).sum)) →
    (∃ v', nd v' = true ∧ forGo (DL.gName 2) (dSet 1 (dCall P.m_put_together [false, false] [] (dCons (dVar 1) (dCons (dVar 2) (dNil))))) (rs.map Q) [some (.d L), some (.d (Q p)), v] = some (.nx, [some (.d L), some (.d (Q (p + rs.sum))), v']))
  | [], p, v, hv, hf, hp => ⟨v, hv, by simp [forGo_nil, Rat.add_zero]⟩
  | y :: r, p, v, hv, hf, hp => by
    have b0 := hp 0 (by simp)
    simp only [List.take_zero, List.sum_nil, Rat.add_zero] at b0
    obtain ⟨e, _⟩ := P.plus_ok b0 (hf y (by simp)) hK
    obtain ⟨v', hv', h⟩ := total_pre_go (L := L) hK r (p + y) (some (.d (Q y))) rfl (fun z hz => hf z (by simp [hz])) fun n hn => by
      have := hp (n + 1) (by simpa using hn)
      rw [List.take_succ_cons, List.sum_cons, ← Rat.add_assoc] at this
      exact this
    rw [Rat.add_assoc, ← List.sum_cons] at h
    refine ⟨v', hv', ?_⟩
    rw [List.map_cons, forGo_cons]
    simp [kSetS_nd hv, e, h]
theorem total_pre {rs : List Rat} {K k : Nat} (hK : K + k + 1 ≤ 8000) (hf : ∀ r ∈ rs, Bd k r) (hp : ∀ n, n ≤ rs.length → Bd K ((rs.take n).sum)) : P.m_total [.d (.list (rs.map Q))] = some (.d (Q rs.sum), []) := by
  obtain ⟨v', hv', h⟩ := total_pre_go (L := .list (rs.map Q)) hK rs 0 none rfl hf fun n hn => by rw [Rat.zero_add]; exact hp n hn
  rw [P.Q_zero, Rat.zero_add] at h
  simp [P.m_total, P.g_total, run_ap, startD, h, DL.sizeLine_eq]
theorem total_nexts {m : Nat} {hs : Hid} (w : Wh m hs) {row : List Nat} (hr : row.length ≤ 6) (h : ∀ q ∈ row, q < m) (h0 : hod m hs row ≠ 0) : P.m_total [.d (.list ((List.range (m + 1)).map fun i => Q (hod m hs (row ++ [i]) / hod m hs row)))] = some (.d (Q 1), []) := by
  have t := total_pre (K := 2600) (k := 2600) (rs := (List.range (m + 1)).map fun i => hod m hs (row ++ [i]) / hod m hs row) (by decide) (fun r hr' => by
    obtain ⟨i, hi, rfl⟩ := List.mem_map.mp hr'
    exact next_bd w hr h h0 (by have := List.mem_range.mp hi; omega)) fun n hn => by
      rw [← List.map_take, List.take_range]
      exact pre_bd w hr h h0 (by omega)
  rw [nexts_one w h h0, List.map_map] at t
  exact t
theorem total_beliefs {m : Nat} {hs : Hid} (w : Wh m hs) {row : List Nat} (hr : row.length ≤ 6) (h : ∀ q ∈ row, q < m) (h0 : hod m hs row ≠ 0) : P.m_total [.d (.list (hs.map fun p => Q (ptF m (every hs) row p / hod m hs row)))] = some (.d (Q 1), []) := by
  have len := w.len
  have t := P.total_ok (k := 1423) (rs := hs.map fun p => ptF m (every hs) row p / hod m hs row) (fun r hr' => by
    obtain ⟨p, hp, rfl⟩ := List.mem_map.mp hr'
    exact belief_bd w hr h h0 p hp) (by simp; omega)
  have t1 := t.1
  rw [beliefs_one h0, List.map_map] at t1
  exact t1
open P (Ns tab Q sh Bd Fit Stt mdD sttD nxD Wm Wf modelJ stateJ pairsJ pairJ cnt isum ledF od)
theorem ld_sum {m : Nat} {hs : Hid} {row : List Nat} (h : ∀ q ∈ row, q < m) (i : Nat) : ((ldF m hs row).map fun q => q.1 * sh q.2 (P.ctAt (q.2, []) i)).sum = hod m hs (row ++ [i]) / hod m hs row := by
  unfold hod
  rw [← sum_div, List.map_map]
  unfold ldF
  show _ = (hs.map fun p => ptF m (every hs) (row ++ [i]) p / hod m hs row).sum
  generalize every hs = W
  generalize hod m hs row = d
  induction hs with
  | nil => rfl
  | cons p r ih =>
    rw [List.map_cons, List.sum_cons, ← ih, ptF_app i p h]
    cases e : ledF p.2 row with
    | none =>
      simp [e, P.lastF, Rat.mul_zero, Rat.div_def, Rat.zero_mul, Rat.zero_add]
    | some s =>
      simp only [List.filterMap_cons, e, List.map_cons, List.sum_cons, P.lastF, P.ctAt, Rat.div_def]
      grind
open P (Ns tab Q sh Bd Fit Stt mdD sttD nxD Wm Wf modelJ stateJ pairsJ pairJ cnt isum ledF od)
theorem ld_mem {m : Nat} {hs : Hid} (w : Wh m hs) {row : List Nat} (hr : row.length ≤ 6) (h : ∀ q ∈ row, q < m) (h0 : hod m hs row ≠ 0) : ∀ q ∈ ldF m hs row, Bd 1423 q.1 ∧ q.2.length = m + 1 ∧ 0 < q.2.sum ∧ ∀ c ∈ q.2, c ≤ P.TOP := fun q hq => by
  have h2 : ∀ p ∈ row, p ≤ m := fun p hp => Nat.le_of_lt (h p hp)
  obtain ⟨p, hp, e⟩ := List.mem_filterMap.mp hq
  have lf := P.ledF_ok (w.wm p hp) h
  cases el : ledF p.2 row with
  | none => rw [el] at e; cases e
  | some s =>
    rw [el] at e
    cases e
    have hs' := lf s el
    have wf := (w.wm p hp).st _ (List.getElem_mem hs')
    refine ⟨belief_bd w hr h h0 p hp, ?_, ?_, ?_⟩
    · rw [P.stAt_at hs']
      exact wf.lt
    · rw [P.stAt_at hs']
      exact wf.pos
    · rw [P.stAt_at hs']
      exact (w.wm p hp).bd _ (List.getElem_mem hs')
open P (Ns tab Q sh Bd Fit Stt mdD sttD nxD Wm Wf modelJ stateJ pairsJ pairJ cnt isum ledF od)
theorem zip_map2 {α : Type} (f g : α → D) : ∀ l : List α, ((l.map f).zip (l.map g)).map (fun p => PyData.tuple [p.1, p.2]) = l.map fun a => .tuple [f a, g a]
  | [] => rfl
  | x :: r => by
    have := zip_map2 f g r
    simp only [List.map_cons, List.zip_cons_cons, this]
theorem sum_top : ∀ ts : List Nat, (∀ c ∈ ts, c ≤ P.TOP) → ts.sum ≤ ts.length * P.TOP
  | [], _ => by simp
  | t :: r, h => by
    have := sum_top r fun c hc => h c (by simp [hc])
    have := h t (by simp)
    rw [List.sum_cons, List.length_cons, Nat.succ_mul]
    omega
theorem ld_one {m : Nat} {hs : Hid} (w : Wh m hs) {row : List Nat} (hr : row.length ≤ 6) (h : ∀ q ∈ row, q < m) (h0 : hod m hs row ≠ 0) : ∀ q ∈ ldF m hs row, ∀ {i : Nat}, i ≤ m → (opIx (tab q.2) (.int (i : Nat)) = some (.d (N (P.ctAt (q.2, []) i))) ∧ P.m_by_lowest [.d (N (P.ctAt (q.2, []) i)), .d (N q.2.sum)] = some (.d (Q (sh q.2 (P.ctAt (q.2, []) i))), []) ∧
    P.m_times [.d (Q q.1), .d (Q (sh q.2 (P.ctAt (q.2, []) i)))] = some (.d (Q (q.1 * sh q.2 (P.ctAt (q.2, []) i))), [])) ∧ Bd 1457 (q.1 * sh q.2 (P.ctAt (q.2, []) i)) := fun q hq i hi => by
  obtain ⟨b1, b2, b3, b4⟩ := ld_mem w hr h h0 q hq
  have m8 := w.m8
  have hlen : i < q.2.length := by omega
  have ct := P.ctAt_at (s := (q.2, [])) hlen
  have ms : P.ctAt (q.2, []) i ≤ q.2.sum := P.mem_le_sum (by rw [ct]; exact List.getElem_mem hlen)
  have big := sum_top q.2 b4
  have sq : Sm 34 q.2.sum := sm_of 34 (by rw [b2] at big; unfold P.TOP at big; omega)
  have bs : Bd 34 (sh q.2 (P.ctAt (q.2, []) i)) := P.bd_sh b3 sq ms
  have tm := P.times_ok b1 bs (by decide)
  exact ⟨⟨by rw [ct]; exact P.ix_ok q.2 hlen, P.by_ok _ _ b3 (sq.mono (by decide)), tm.1⟩, tm.2.mono (by decide)⟩
def NxI (m : Nat) (hs : Hid) (row : List Nat) (M : D) (t : Nat) (r : List Nat) (s : DSt) : Prop := ∃ (d : List Nat) (v4 : Option SV) (X : SV), List.range t = d ++ r ∧ nd v4 = true ∧ (X = .own ((ldF m hs row).map fun q => .tuple [Q q.1, tab q.2]) ∨ X = .d (.list ((ldF m hs row).map fun q => .tuple [Q q.1, tab q.2]))) ∧
  s = [some (.d M), some (.d (tab row)), some X, some (.own (d.map fun i => Q (hod m hs (row ++ [i]) / hod m hs row))), v4, none, none, none, none, none]
theorem next_odds_ok {m : Nat} {hs : Hid} (w : Wh m hs) (row : List Nat) (hl : row.length ≤ 6) (h : ∀ p ∈ row, p < m) (h0 : hod m hs row ≠ 0) : m_next_odds [.d (.list (hs.map (hD m))), .d (tab row)] = some (.own ((List.range (m + 1)).map fun i => Q (hod m hs (row ++ [i]) / hod m hs row)), []) := by
  obtain ⟨p, e0⟩ := ix_first w
  have e1 : opIx (hD m p) (.int 1) = some (.d (mdD m p.2)) := rfl
  have lk := look_hid w
  have b := believed_ok w row (by omega) h h0
  have len := w.len
  have lz : hs.length ≤ 16777216 := by omega
  have zm := zip_map2 (fun p => Q (ptF m (every hs) row p / hod m hs row)) (hD m) hs
  refine okP.eq ?_
  simp [m_next_odds, g_next_odds, run_ap, startD, lk, b, DL.sizeLine_eq, lz, zm, -opIx_li]
  simp only [okP_obind]
  refine okP_of (lc_mapE (fun a => PyData.tuple [Q (ptF m (every hs) row a / hod m hs row), hD m a]) (fun a => .tuple [Q (ptF m (every hs) row a / hod m hs row), mdD m a.2, nxD (ledF a.2 row)]) (l := hs) fun a ha => ?_) ?_
  · have le := P.led_ok (w.wm a ha) row (by omega) h
    simp [okP_some, hD, le, DL.sizeLine_eq]
  simp [okP_some, DL.sizeLine_eq, lz, -opIx_li]
  simp only [okP_obind]
  refine okP_of (lc_mapA (fun a => PyData.tuple [Q (ptF m (every hs) row a / hod m hs row), mdD m a.2, nxD (ledF a.2 row)]) (fun a => match ledF a.2 row with
    | none => none
    | some s => some (.tuple [Q (ptF m (every hs) row a / hod m hs row), tab (P.stAt a.2 s).1])) (l := hs) fun a ha => ?_) ?_
  · have lf := P.ledF_ok (w.wm a ha) h
    cases e : ledF a.2 row with
    | none => simp [okP_some, nxD]
    | some s =>
      have hs' := lf s e
      have a1 := (w.wm a ha).at hs'
      simp only [sttD] at a1
      have en : nxD (some s) = N s := rfl
      simp [okP_some, en, P.ix2_md, a1, DL.sizeLine_eq, P.stAt_at hs', -opIx_li]
  have ef : (hs.filterMap fun a => match ledF a.2 row with
    | none => none
    | some s => some (PyData.tuple [Q (ptF m (every hs) row a / hod m hs row), tab (P.stAt a.2 s).1])) = (ldF m hs row).map fun q => .tuple [Q q.1, tab q.2] := by
    unfold ldF
    rw [List.map_filterMap]
    congr 1
    funext a
    cases ledF a.2 row <;> rfl
  rw [ef]
  have m8 := w.m8
  obtain ⟨t, et⟩ : ∃ t, t = m + 1 := ⟨_, rfl⟩
  have rg := P.range_ok (t := t) (by omega)
  have et' : (m : Int) + 1 = (t : Nat) := by omega
  simp [okP_some, e0, e1, P.ix1_md, rg, et', -iRange1_i, DL.sizeLine_eq, -opIx_li]
  simp only [okP_obind]
  refine for_list (fun i : Nat => PyData.int (i : Nat)) (NxI m hs row (.list (hs.map (hD m))) t) (l := List.range t) ⟨[], none, _, by simp, rfl, .inl rfl, rfl⟩ ?_ ?_
  · rintro i r s ⟨d, v4, X, hx, n4, hX, rfl⟩
    rcases hX with rfl | rfl
    all_goals
      have ll : (ldF m hs row).length ≤ 16777216 := Nat.le_trans (List.length_filterMap_le _ _) lz
      simp [okP_some, kSetS_nd n4, DL.sizeLine_eq, ll]
      simp only [okP_obind]
      have hi : i < t := by
        have : i ∈ List.range t := by rw [hx]; simp
        exact List.mem_range.mp this
      refine okP_of (lc_mapE (fun q : Rat × List Nat => PyData.tuple [Q q.1, tab q.2]) (fun q => Q (q.1 * sh q.2 (P.ctAt (q.2, []) i))) (l := ldF m hs row) fun q hq => ?_) ?_
      · obtain ⟨⟨ix, by', tm⟩, _⟩ := ld_one w hl h h0 q hq (i := i) (by omega)
        have sm := P.sum_ok q.2
        simp [okP_some, ix, sm, by', tm, -opIx_li]
      · have tt := P.total_ok (rs := (ldF m hs row).map fun q => q.1 * sh q.2 (P.ctAt (q.2, []) i)) (k := 1457) (fun r hr => by
          obtain ⟨q, hq, rfl⟩ := List.mem_map.mp hr
          exact (ld_one w hl h h0 q hq (i := i) (by omega)).2) (by
            have : (ldF m hs row).length ≤ hs.length := List.length_filterMap_le _ _
            simp
            omega)
        rw [List.map_map, ld_sum h i] at tt
        have t1 := tt.1
        simp only [Function.comp_def] at t1
        have ld : d.length < 16777216 := by
          have := congrArg List.length hx
          simp at this
          omega
        simp [okP_some, t1, DL.sizeLine_eq, ld]
        exact ⟨d ++ [i], some (.d (.int (i : Nat))), .d (.list ((ldF m hs row).map fun q => .tuple [Q q.1, tab q.2])), by simp [hx], rfl, .inr rfl, by simp⟩
  · rintro s ⟨d, v4, X, hx, n4, hX, rfl⟩
    have hx : List.range t = d := by simpa using hx
    subst hx
    simp [okP_some, et]
open P (Ns tab Q sh Bd Fit Stt mdD sttD nxD Wm Wf modelJ stateJ pairsJ pairJ cnt isum ledF od len_Ns okS noList_Ns end_Ns ok_Q)
theorem hod_ne {m : Nat} {hs : Hid} (w : Wh m hs) {row : List Nat} (hr : row.length ≤ 12) (h : ∀ q ∈ row, q ≤ m) {p : Nat × List Stt} (hp : p ∈ hs) (hod' : od m p.2 (some 0) row ≠ 0) : hod m hs row ≠ 0 := by
  have nn := ptF_nonneg w row h hr
  have one : ptF m (every hs) row p ≠ 0 := mul_ne (mk_ne (w.w1 p hp) (by have := every_go hs w.w1 w.w2; have := w.ne; omega)) hod'
  unfold hod
  generalize every hs = W at nn one
  clear w
  have pos : ∀ l : Hid, (∀ p ∈ l, 0 ≤ ptF m W row p) → 0 ≤ (l.map (ptF m W row)).sum ∧ ∀ p ∈ l, ptF m W row p ≤ (l.map (ptF m W row)).sum := by
    intro l
    induction l with
    | nil => exact fun _ => ⟨by show (0 : Rat) ≤ 0; exact Rat.le_refl, fun p hp => by simp at hp⟩
    | cons x r ih =>
      intro hl
      obtain ⟨a, b⟩ := ih fun p hp => hl p (by simp [hp])
      have hx := hl x (by simp)
      rw [List.map_cons, List.sum_cons]
      refine ⟨by grind, fun p hp => ?_⟩
      rcases List.mem_cons.mp hp with rfl | hp
      · grind
      · have := b p hp
        grind
  have := (pos hs nn).2 p hp
  have := nn p hp
  grind
theorem noList_Qs {α : Type} (f : α → Rat) : ∀ l : List α, noListAll (l.map fun a => Q (f a)) = true
  | [] => rfl
  | x :: r => by
    show (noList (Q (f x)) && noListAll (r.map fun a => Q (f a))) = true
    rw [noList_Qs f r]
    rfl
theorem end_Qs {α : Type} (f : α → Rat) (l : List α) : endStr (l.map fun a => Q (f a)).getLast? = false := by
  cases h : (l.map fun a => Q (f a)).getLast? with
  | none => rfl
  | some y =>
    have : y ∈ l.map fun a => Q (f a) := List.mem_of_getLast? h
    obtain ⟨k, _, rfl⟩ := List.mem_map.mp this
    rfl
theorem depth_Qs {α : Type} (f : α → Rat) : ∀ l : List α, PyData.depthAll (l.map fun a => Q (f a)) ≤ 1
  | [] => by simp [PyData.depthAll]
  | x :: r => by
    have := depth_Qs f r
    have e : PyData.depth (Q (f x)) = 1 := (P.Q_intd (f x)).2
    rw [List.map_cons]
    show max (PyData.depth (Q (f x))) (PyData.depthAll (r.map fun a => Q (f a))) ≤ 1
    omega
theorem told_four {α β : Type} (f : α → Rat) (l : List α) (g : β → Rat) (k : List β) (h1 : l.length ≤ 1000) (h2 : k.length ≤ 1000) :
    toldOf [.tmp (l.map fun a => Q (f a)), .tmp (k.map fun b => Q (g b)), .tmp (l.map fun a => Q (f a)), .tmp (k.map fun b => Q (g b))] = some [.list (l.map fun a => Q (f a)), .list (k.map fun b => Q (g b)), .list (l.map fun a => Q (f a)), .list (k.map fun b => Q (g b))] := by
  have c1 : (l.map fun a => Q (f a)).length ≤ 1000 ∧ endStr (l.map fun a => Q (f a)).getLast? = false ∧ noListAll (l.map fun a => Q (f a)) = true := ⟨by simpa using h1, end_Qs f l, noList_Qs f l⟩
  have c2 : (k.map fun b => Q (g b)).length ≤ 1000 ∧ endStr (k.map fun b => Q (g b)).getLast? = false ∧ noListAll (k.map fun b => Q (g b)) = true := ⟨by simpa using h2, end_Qs g k, noList_Qs g k⟩
  simp only [toldOf]
  rw [if_pos c1, if_pos c2, if_pos c1, if_pos c2]
  rfl
theorem ok_Qs {α : Type} (f : α → Rat) (l : List α) (h : l.length ≤ 1000) : okS 7 (.list (l.map fun a => Q (f a))) := by
  refine ⟨by rw [DL.sizeLine_eq]; simp; omega, fun y hy => ?_⟩
  obtain ⟨a, _, rfl⟩ := List.mem_map.mp hy
  exact ok_Q 4 _
theorem ok_l4 {a b c d : D} (h1 : okS 7 a) (h2 : okS 7 b) (h3 : okS 7 c) (h4 : okS 7 d) : okS 8 (.list [a, b, c, d]) := by
  refine ⟨by simp [DL.sizeLine_eq], fun y hy => ?_⟩
  simp only [List.mem_cons, List.not_mem_nil, or_false] at hy
  rcases hy with rfl | rfl | rfl | rfl <;> assumption
theorem ok_l2 {a b : D} (h1 : okS 7 a) (h2 : okS 7 b) : okS 8 (.list [a, b]) := by
  refine ⟨by simp [DL.sizeLine_eq], fun y hy => ?_⟩
  simp only [List.mem_cons, List.not_mem_nil, or_false] at hy
  rcases hy with rfl | rfl <;> assumption
def TlP (m : Nat) (y : D) : Prop := ∃ b : List Nat, y = tab b ∧ b.length ≤ 7 ∧ (∀ p ∈ b.dropLast, p < m) ∧ (∀ p ∈ b, p ≤ m)
theorem tl_row {m : Nat} {row : List Nat} (lr : row.length ≤ 6) (br : ∀ p ∈ row, p < m) : TlP m (tab row) := ⟨row, rfl, by omega, fun p hp => br p (List.dropLast_subset row hp), fun p hp => Nat.le_of_lt (br p hp)⟩
theorem tl_app {m x : Nat} {row : List Nat} (lr : row.length ≤ 6) (br : ∀ p ∈ row, p < m) (hx : x ≤ m) : TlP m (.list (Ns row ++ [N x])) := ⟨row ++ [x], by simp [Ns], by simp; omega, fun p hp => br p (by simpa using hp), fun p hp => by
  rcases List.mem_append.mp hp with h | h
  · exact Nat.le_of_lt (br p h)
  · simp at h
    omega⟩
open P (Ns tab Q sh Bd Fit Stt mdD sttD nxD Wm Wf modelJ stateJ pairsJ pairJ cnt isum ledF od len_Ns okS noList_Ns end_Ns ok_Q)
def RrQ (n : Nat) (r : Rt × List (List D)) : Prop := ∃ W', P.Purse (n + 12) W' ∧ r = (.d (.bool true), [W'])
def RrI (W H : List D) (m : Nat) (a3 a4 : Option SV) (row : List Nat) (_ : List D) (s : DSt) : Prop := ∃ v6 v7, nd v6 = true ∧ nd v7 = true ∧ s = [some (.lent W), some (.d (.list H)), some (.d (N m)), a3, a4, some (.d (tab row)), v6, v7, none, none, none, none, none, none]
theorem rows_right_ok {n m : Nat} {W : List D} {hs : Hid} (hn : n ≤ 80000) (hP : P.Purse n W) (w : Wh m hs) (m1 : 1 ≤ m) (m4 : m ≤ 4) : okP (m__law_rows_right [.m W, .d (.list (hs.map (hD m))), .d (N m)]) (RrQ n) := by
  have len := w.len
  obtain ⟨x, W1, hx, hW1, e1⟩ := P.pick_ok (by omega) hP (hs.map (hD m)) (by simpa using w.ne) (by simp; omega)
  obtain ⟨p, hp, rfl⟩ := List.mem_map.mp hx
  simp [m__law_rows_right, g__law_rows_right, run_ap, startD, e1, hD, DL.sizeLine_eq]
  simp only [okP_obind]
  refine (law_row_ok (n := n + 1) (by omega) hW1 (w.wm p hp)).mono fun q hq => ?_
  obtain ⟨W2, row, hW2, lr, br, hod', rfl⟩ := hq
  have br2 : ∀ q ∈ row, q ≤ m := fun q hq => Nat.le_of_lt (br q hq)
  have h0 := hod_ne w (by omega) br2 hp hod'
  obtain ⟨d, W3, hd, hW3, e3⟩ := P.draw_ok (by omega) hW2 m (by omega) (sm_of 10 (by omega) |>.mono (by decide))
  have z1 : row.length ≤ 16777215 := by omega
  simp only [N] at e3
  simp [okP_some, e3, DL.sizeLine_eq, len_Ns, z1]
  simp only [okP_obind]
  refine for_items (Pr := TlP m) (RrI W3 (hs.map (hD m)) m _ _ row) (Q := fun q => okP (kSeq _ q) _) ?_ ⟨none, none, rfl, rfl, rfl⟩ ?_ ?_
  · intro y hy
    simp only [List.mem_cons, List.not_mem_nil, or_false] at hy
    rcases hy with rfl | rfl | rfl | rfl | rfl
    · exact tl_row lr br
    · exact tl_app lr br (Nat.le_refl m)
    · exact tl_app lr br (Nat.le_of_lt hd)
    · exact ⟨[], rfl, by simp, by simp, by simp⟩
    · exact ⟨[m], rfl, by simp, by simp, by simp⟩
  · rintro y r s ⟨b, rfl, lb, b1, b2⟩ ⟨v6, v7, n6, n7, rfl⟩
    have o1 := (parts_ok w b b2 (by omega)).1
    have o2 := (total_parts w b b2 (by omega)).1
    have o3 := hidden_odds_ok w b (by omega) b1 b2
    have sm := P.same_ok 8 (.list [Q (hod m hs b), Q (hod m hs b)]) (ok_l2 (ok_Q 5 _) (ok_Q 5 _))
    simp [okP_some, kSetS_nd n6, kSetS_nd n7, o1, o2, o3, sm, DL.sizeLine_eq]
    exact ⟨_, _, rfl, rfl, rfl⟩
  · rintro s ⟨v6, v7, n6, n7, rfl⟩
    have pb := parts_ok w row br2 (by omega)
    have tb := total_parts w row br2 (by omega)
    have hl5 : hs.length ≤ 16777216 := by omega
    simp [okP_some, pb.1, DL.sizeLine_eq, hl5]
    simp only [okP_obind]
    refine okP_of (lc_mapE (fun p => Q (ptF m (every hs) row p)) (fun p => Q (ptF m (every hs) row p / hod m hs row)) (l := hs) fun p hp => ?_) ?_
    · have sh := (shared_ok (pb.2 p hp) tb.2 h0 (by decide)).1
      simp [okP_some, tb.1, sh]
    · obtain ⟨t, et⟩ : ∃ t, t = m + 1 := ⟨_, rfl⟩
      have rg := P.range_ok (t := t) (by omega)
      have et' : (m : Int) + 1 = (t : Nat) := by omega
      have lt : t ≤ 16777216 := by omega
      simp [okP_some, rg, et', lt, -iRange1_i, DL.sizeLine_eq]
      simp only [okP_obind]
      refine okP_of (lc_mapE (fun i : Nat => PyData.int (i : Nat)) (fun i => Q (hod m hs (row ++ [i]) / hod m hs row)) (l := List.range t) fun i hi => ?_) ?_
      · have hi := List.mem_range.mp hi
        obtain ⟨b, eb, lb, b1, b2⟩ := tl_app lr br (x := i) (by omega)
        have eb' : tab b = tab (row ++ [i]) := by rw [← eb]; simp [Ns]
        have b3 : ∀ q ∈ row ++ [i], q ≤ m := fun q hq => by
          rcases List.mem_append.mp hq with h | h
          · exact br2 q h
          · simp at h
            omega
        have o1 := parts_ok w (row ++ [i]) b3 (by simp; omega)
        have o2 := total_parts w (row ++ [i]) b3 (by simp; omega)
        have sh := (shared_ok o2.2 tb.2 h0 (by decide)).1
        have o1' := o1.1
        rw [show tab (row ++ [i]) = .list (Ns row ++ [N i]) by simp [Ns]] at o1'
        simp [okP_some, z1, o1', o2.1, tb.1, sh, DL.sizeLine_eq, len_Ns]
      · have bo := belief_ok w row (by omega) br h0
        have no := next_odds_ok w row lr br h0
        rw [← et] at no
        have tf := told_four (fun p => ptF m (every hs) row p / hod m hs row) hs (fun i => hod m hs (row ++ [i]) / hod m hs row) (List.range t) (by omega) (by simp; omega)
        have d0 : endStr (some (PyData.list ((List.range t).map fun i => Q (hod m hs (row ++ [i]) / hod m hs row)))) = false := rfl
        have dep : PyData.depthAll [.list (hs.map fun p => Q (ptF m (every hs) row p / hod m hs row)), .list ((List.range t).map fun i => Q (hod m hs (row ++ [i]) / hod m hs row)), .list (hs.map fun p => Q (ptF m (every hs) row p / hod m hs row)), .list ((List.range t).map fun i => Q (hod m hs (row ++ [i]) / hod m hs row))] + 1 < 4 := by
          have a := depth_Qs (fun p => ptF m (every hs) row p / hod m hs row) hs
          have b := depth_Qs (fun i => hod m hs (row ++ [i]) / hod m hs row) (List.range t)
          simp only [PyData.depthAll, PyData.depth]
          omega
        have okb := ok_Qs (fun p => ptF m (every hs) row p / hod m hs row) hs (by omega)
        have okn := ok_Qs (fun i => hod m hs (row ++ [i]) / hod m hs row) (List.range t) (by simp; omega)
        have s4 := P.same_ok 8 _ (ok_l4 okb okn okb okn)
        have s2 := P.same_ok 8 _ (ok_l2 okb okn)
        have tn := total_nexts w lr br h0
        rw [← et] at tn
        have tb' := total_beliefs w lr br h0
        have q1 := (P.Q_eq 1 1).2
        rw [P.Q_one] at q1
        simp [okP_some, bo, no, tf, d0, dep, DL.sizeLine_eq, s4, s2, tn, tb', P.Q_one, q1]
        exact ⟨W3, hW3.up (by omega), rfl⟩
open P (Ns tab Q sh Bd Fit Stt mdD sttD nxD Wm Wf modelJ stateJ pairsJ pairJ cnt isum ledF od len_Ns okS GV gv_list gv_tup gv_int gv_N gv_none gv_bool gv_tab gv_nxs gv_stt gv_word repr_gv)
/-- what is judged: fitting values, and the empty dict -/
def HV (y : D) : Prop := GV 8 13000 y ∨ y = .dict []
theorem judged {y : D} (h : HV y) (many : Nat) : ∃ (b : Bool) (z : Str), bRepr [y] = some (.d (.str z)) ∧ m_is_hidden [.d y] = some (.d (.bool b), []) ∧ m__law_is [.d y, .d (N many)] = some (.d (.bool b), []) := by
  rcases h with h | rfl
  · exact ⟨_, _, repr_gv h (by decide) (by decide), hidden_ok h.f (by decide), law_is_ok h.f (by decide)⟩
  · refine ⟨false, PyData.shown (.dict []), ?_, ?_, ?_⟩
    · have nh : ¬ ((PyData.dict []).hasDict = false ∧ (PyData.dict []).showable = true ∧ (PyData.dict []).depth ≤ 40 ∧ (PyData.dict []).shown.length ≤ sizeLine) := fun h => by
        have := h.1
        simp [PyData.hasDict] at this
      show (if (PyData.dict []).hasDict = false ∧ (PyData.dict []).showable = true ∧ (PyData.dict []).depth ≤ 40 ∧ (PyData.dict []).shown.length ≤ sizeLine then some (Rv.d (.str (PyData.dict []).shown)) else dictRepr (.dict [])) = _
      rw [if_neg nh]
      rfl
    · simp [m_is_hidden, g_is_hidden, run_ap, startD, tyName]
    · simp [m__law_is, g__law_is, run_ap, startD, tyName]
theorem lc_items {g : DG} {t : DT} {e : DE} {vs : List Nat} (F : D → D) {xs : List D} {st : DSt} (H : ∀ a ∈ xs, okP (g a st) fun s1 => okP (t s1) fun p => p.1 = true ∧ okP (e p.2) fun q => okP (toD q.2 q.1) fun r => F a = r.1 ∧ wipeD r.2 vs = st) :
    lcGo g t e vs xs st = some (xs.map F, st) := P.lc_items F H
theorem g_md {m : Nat} (hm : m ≤ 9) {w : D} {xs : List D} (hw : GV 0 20 w) (hx : ∀ y ∈ xs, GV 2 22 y) (hl : xs.length ≤ 5) : GV 4 348 (.tuple [w, .int (m : Nat), .list xs]) := (gv_tup (n := 3) (k := 115) (w := 3) (fun y hy => by
  simp only [List.mem_cons, List.not_mem_nil, or_false] at hy
  rcases hy with rfl | rfl | rfl
  · exact hw.mono (by decide) (by decide)
  · exact (gv_N (by omega)).mono (by decide) (by decide)
  · exact gv_list (n := 2) (k := 22) (w := 5) hx hl (by decide)) (by simp) (by decide)).mono (by decide) (by decide)
theorem g_st {xs ys : List D} (h1 : ∀ y ∈ xs, GV 0 0 y) (l1 : xs.length ≤ 10) (h2 : ∀ y ∈ ys, GV 0 0 y) (l2 : ys.length ≤ 10) : GV 2 22 (.tuple [.list xs, .list ys]) := gv_tup (n := 1) (k := 10) (w := 2) (fun y hy => by
  simp only [List.mem_cons, List.not_mem_nil, or_false] at hy
  rcases hy with rfl | rfl
  · exact gv_list (n := 0) (k := 0) (w := 10) h1 l1 (by decide)
  · exact gv_list (n := 0) (k := 0) (w := 10) h2 l2 (by decide)) (by simp) (by decide)
theorem g_t2 {x y : D} (hx : GV 4 348 x) (hy : GV 4 348 y) : GV 5 1047 (.tuple [x, y]) := gv_tup (n := 4) (k := 348) (w := 3) (fun z hz => by
  simp only [List.mem_cons, List.not_mem_nil, or_false] at hz
  rcases hz with rfl | rfl <;> assumption) (by simp) (by decide)
theorem g_t1 {x : D} (hx : GV 4 348 x) : GV 5 1047 (.tuple [x]) := gv_tup (n := 4) (k := 348) (w := 3) (fun z hz => by
  simp only [List.mem_cons, List.not_mem_nil, or_false] at hz
  rcases hz with rfl
  assumption) (by simp) (by decide)
theorem g_t3 {x y z : D} (hx : GV 4 348 x) (hy : GV 4 348 y) (hz : GV 4 348 z) : GV 5 1047 (.tuple [x, y, z]) := gv_tup (n := 4) (k := 348) (w := 3) (fun u hu => by
  simp only [List.mem_cons, List.not_mem_nil, or_false] at hu
  rcases hu with rfl | rfl | rfl <;> assumption) (by simp) (by decide)
theorem g_l2 {x y : D} (hx : GV 4 348 x) (hy : GV 4 348 y) : GV 5 1047 (.list [x, y]) := gv_list (n := 4) (k := 348) (w := 3) (fun z hz => by
  simp only [List.mem_cons, List.not_mem_nil, or_false] at hz
  rcases hz with rfl | rfl <;> assumption) (by simp) (by decide)
theorem g_hid {xs : List D} (h : ∀ y ∈ xs, GV 5 1047 y) (hl : xs.length ≤ 12) : HV (.list xs) := .inl ((gv_list (n := 5) (k := 1047) (w := 12) h hl (by decide)).mono (by decide) (by decide))
theorem gv_stt' {m n : Nat} {s : Stt} (w : Wf m n s) (hm : m ≤ 8) (hn : n ≤ 100) (hb : ∀ c ∈ s.1, c ≤ P.TOP) : GV 2 22 (sttD s) := gv_stt w hm hn hb
theorem g_hD {m : Nat} {hs : Hid} (w : Wh m hs) : ∀ p ∈ hs, GV 4 348 (mdD m p.2) ∧ GV 5 1047 (hD m p) := fun p hp => by
  have wm := w.wm p hp
  have st := w.st p hp
  have m8 := w.m8
  have a : GV 4 348 (mdD m p.2) := g_md (by omega) gv_word (fun y hy => by
    obtain ⟨q, hq, rfl⟩ := List.mem_map.mp hy
    exact gv_stt' (wm.st q hq) m8 (by omega) (wm.bd q hq)) (by simp; omega)
  have := w.w2 p hp
  exact ⟨a, g_t2 ((gv_N (by omega)).mono (by decide) (by decide)) a⟩
theorem gv_rep (k : Nat) {x : D} (hx : GV 0 0 x) : ∀ y ∈ List.replicate k x, GV 0 0 y := fun y hy => by
  rw [List.eq_of_mem_replicate hy]
  exact hx
def BtQ (n : Nat) (r : Rt × List (List D)) : Prop := ∃ W' xs, P.Purse (n + 1) W' ∧ xs.length ≤ 100 ∧ (∀ y ∈ xs, HV y) ∧ r = (.own xs, [W'])
theorem bents_ok {n m : Nat} {W : List D} {hs : Hid} (hn : n ≤ 90000) (hP : P.Purse n W) (w : Wh m hs) : okP (m__law_bents [.m W, .d (.list (hs.map (hD m)))]) (BtQ n) := by
  have len := w.len
  have m8 := w.m8
  obtain ⟨a, W1, ha, hW1, e1⟩ := P.draw_ok (by omega) hP hs.length w.ne (sm_of 10 (by omega) |>.mono (by decide))
  have at_ : opIx (.list (hs.map (hD m))) (N a) = some (.d (hD m hs[a])) := by
    have := P.ix_l (hs.map (hD m)) (p := a) (by simpa using ha)
    simpa using this
  have hp : hs[a] ∈ hs := List.getElem_mem ha
  obtain ⟨p0, e0⟩ := ix_first w
  have gh : ∀ y ∈ hs.map (hD m), GV 5 1047 y := fun y hy => by
    obtain ⟨p, hp, rfl⟩ := List.mem_map.mp hy
    exact (g_hD w p hp).2
  have gm := (g_hD w _ hp).1
  have wm := w.wm _ hp
  have st := w.st _ hp
  have w2 := w.w2 _ hp
  have lH : (hs.map (hD m)).length = hs.length := by simp
  have gp0 : GV 5 1047 (hD m p0) := by
    have ne := w.ne
    cases hs with
    | nil => simp at ne
    | cons p r =>
      have e0 : opIx (.list ((p :: r).map (hD m))) (.int 0) = some (.d (hD m p)) := by simp [hD]
      obtain ⟨p1, e1⟩ := ix_first w
      have : hD m p0 = hD m p := by
        have q := e0
        rename_i e0'
        simp at e0'
        first | exact e0'.symm | exact e0'
      rw [this]
      exact (g_hD w p (by simp)).2
  simp only [N] at e1 at_
  generalize hH : hs.map (hD m) = H at *
  generalize hs[a] = pa at *
  obtain ⟨wa, ss⟩ := pa
  have ne := wm.ne
  cases ss with
  | nil => simp at ne
  | cons s0 r =>
    have gs0 := gv_stt' (wm.st s0 (by simp)) m8 (by omega) (wm.bd s0 (by simp))
    have gr : ∀ y ∈ r.map sttD, GV 2 22 y := fun y hy => by
      obtain ⟨q, hq, rfl⟩ := List.mem_map.mp hy
      exact gv_stt' (wm.st q (by simp [hq])) m8 (by omega) (wm.bd q (by simp [hq]))
    have lr : (r.map sttD).length ≤ 2 := by simp at st ⊢; omega
    have gT : ∀ y ∈ Ns s0.1, GV 0 0 y := fun y hy => by
      obtain ⟨c, hc, rfl⟩ := List.mem_map.mp hy
      exact gv_N (wm.bd s0 (by simp) c hc)
    have wf := wm.st s0 (by simp)
    have lT : (Ns s0.1).length = m + 1 := by rw [len_Ns, wf.lt]
    have gN : ∀ y ∈ s0.2.map nxD, GV 0 0 y := fun y hy => by
      obtain ⟨o, ho, rfl⟩ := List.mem_map.mp hy
      exact P.gv_nx (wf.nx ho) (by omega)
    have lN : (s0.2.map nxD).length = m := by simp [wf.ln]
    simp only [hD, mdD, List.map_cons, sttD, tab] at at_ gm gs0
    have ew : (.str (Str.ofString "model") : D) = .str (Str.ofString "model") := rfl
    generalize r.map sttD = R at *
    generalize Ns s0.1 = T at *
    generalize s0.2.map nxD = NX at *
    have t1 : (m : Int) + 2 < 9223372036854775808 := by omega
    have t2 : (-9223372036854775808 : Int) ≤ (m : Int) + 2 := by omega
    have t3 : (m : Int) + 1 < 9223372036854775808 := by omega
    have t4 : (-9223372036854775808 : Int) ≤ (m : Int) + 1 := by omega
    have t5 : (m : Int) < 9223372036854775808 := by omega
    have t6 : (-9223372036854775808 : Int) ≤ (m : Int) := by omega
    have t7 : ((m : Int) + 2).toNat ≤ 16777216 := by omega
    have t8 : ((m : Int) + 1).toNat ≤ 16777216 := by omega
    have t9 : m ≤ 16777216 := by omega
    have t10 : m ≤ 16777215 := by omega
    have z1 : R.length + 1 ≤ 16777215 := by omega
    have z2 : R.length + 1 + 1 ≤ 16777216 := by omega
    have z3 : hs.length ≤ 16777215 := by omega
    have z4 : hs.length + hs.length ≤ 16777216 := by omega
    have ix0 : ∀ (x : D) (ys : List D), opIx (.list (x :: ys)) (.int 0) = some (.d x) := fun x ys => by simp
    have z5 : T.length ≤ 16777216 := by omega
    simp [m__law_bents, g__law_bents, run_ap, startD, lH, e1, at_, e0, DL.sizeLine_eq, -opIx_li, t1, t2, t3, t4, t5, t6, t7, t8, t9, t10, z1, z2, z3, z4, z5, ix0]
    simp only [okP_obind]
    have c1 : ∀ lo hi, (cutD H lo hi).length ≤ 5 := fun lo hi => by
      have := len_cut H lo hi
      omega
    have c2 : ∀ lo hi, ∀ y ∈ cutD H lo hi, GV 5 1047 y := fun lo hi y hy => gh y (mem_cut hy)
    refine okP_of (lc_items (fun y => .list (cutD H none (some (a : Int)) ++ y :: cutD H (some ((a : Int) + 1)) none)) fun y hy => ?_) ?_
    · have q1 := c1 none (some (a : Int))
      have q2 := c1 (some ((a : Int) + 1)) none
      have u1 : (cutD H none (some (a : Int))).length ≤ 16777215 := by omega
      have u2 : (cutD H none (some (a : Int))).length + 1 + (cutD H (some ((a : Int) + 1)) none).length ≤ 16777216 := by omega
      simp [okP_some, DL.sizeLine_eq, u1, u2]
    · simp [okP_some, DL.sizeLine_eq]
      have up : ∀ {y : D} {n k : Nat}, GV n k y → n ≤ 4 → k ≤ 348 → GV 4 348 y := fun h h1 h2 => h.mono h1 h2
      have u0 : ∀ {y : D}, GV 0 0 y → GV 4 348 y := fun h => h.mono (by decide) (by decide)
      have gw : GV 4 348 (N wa) := u0 (gv_N (by simp at w2; omega))
      have gSS : ∀ y ∈ (.tuple [.list T, .list NX]) :: R, GV 2 22 y := fun y hy => by
        rcases List.mem_cons.mp hy with rfl | hy
        · exact gs0
        · exact gr y hy
      have gB : GV 5 1047 (.tuple [.int 1, .tuple [.str (Str.ofString "model"), .int ((m : Int) + 1), .list [.tuple [.list (List.replicate ((m : Int) + 2).toNat (.int 1)), .list (List.replicate (m + 1) (.int 0))]]]]) :=
        g_t2 (u0 (gv_int (by decide))) (g_md (m := m + 1) (by omega) gv_word (fun y hy => by
          simp only [List.mem_cons, List.not_mem_nil, or_false] at hy
          subst hy
          exact g_st (gv_rep _ (gv_int (by decide))) (by simp; omega) (gv_rep _ (gv_int (by decide))) (by simp; omega)) (by simp))
      have put : ∀ {y : D}, GV 5 1047 y → HV (.list (cutD H none (some (a : Int)) ++ y :: cutD H (some ((a : Int) + 1)) none)) := fun {y} hy => by
        refine g_hid (fun z hz => ?_) (by have := c1 none (some (a : Int)); have := c1 (some ((a : Int) + 1)) none; simp; omega)
        rcases List.mem_append.mp hz with h | h
        · exact c2 _ _ z h
        · rcases List.mem_cons.mp h with rfl | h
          · exact hy
          · exact c2 _ _ z h
      have gw20 : GV 0 20 (.str (Str.ofString "model")) := gv_word
      have md : ∀ {xs : List D}, (∀ y ∈ xs, GV 2 22 y) → xs.length ≤ 5 → GV 4 348 (.tuple [.str (Str.ofString "model"), N m, .list xs]) := fun h1 h2 => g_md (by omega) gw20 h1 h2
      have three : ∀ y ∈ [PyData.str (Str.ofString "model"), N m, PyData.list (PyData.tuple [PyData.list T, PyData.list NX] :: R)], GV 3 115 y := fun y hy => by
        simp only [List.mem_cons, List.not_mem_nil, or_false] at hy
        rcases hy with rfl | rfl | rfl
        · exact gw20.mono (by decide) (by decide)
        · exact (gv_N (by omega)).mono (by decide) (by decide)
        · exact gv_list (n := 2) (k := 22) (w := 5) gSS (by simp; omega) (by decide)
      refine ⟨W1, _, hW1, ?_, ?_, rfl⟩
      · simp
      · intro y hy
        simp only [List.mem_cons, List.not_mem_nil, or_false] at hy
        rcases hy with rfl | rfl | rfl | rfl | rfl | rfl | rfl | rfl | rfl | rfl | rfl | rfl | rfl | rfl | rfl | rfl | rfl | rfl | rfl | rfl | rfl | rfl | rfl | rfl | rfl | rfl
        · exact g_hid (by simp) (by simp)
        · exact .inl (gv_none.mono (by decide) (by decide))
        · exact .inl (gp0.mono (by decide) (by decide))
        · exact .inl ((gv_tup (n := 5) (k := 1047) (w := 12) gh (by omega) (by decide)).mono (by decide) (by decide))
        · refine g_hid (fun z hz => ?_) (by simp; omega)
          rcases List.mem_append.mp hz with h | h
          · exact gh z h
          · simp only [List.mem_cons, List.not_mem_nil, or_false] at h
            subst h
            exact gB
        · refine g_hid (fun z h => ?_) (by simp)
          simp only [List.mem_cons, List.not_mem_nil, or_false] at h
          subst h
          exact gB
        · refine g_hid (fun z hz => ?_) (by have := len_cut (H ++ H) none (some 3); simp at this; omega)
          rcases List.mem_append.mp (mem_cut hz) with h | h <;> exact gh z h
        · exact g_hid (fun z hz => gh z (List.mem_reverse.mp hz)) (by simp; omega)
        · exact .inl (GV.mono (n := 0) (k := 20) ⟨trivial, ⟨by decide +kernel, by simp [PyData.depth], by show (Str.ofString "hidden").cps.size ≤ 20; decide +kernel⟩⟩ (by decide) (by decide))
        · exact .inr rfl
        · exact put (gv_none.mono (by decide) (by decide))
        · exact put (g_t2 (u0 (gv_int (by decide))) gm)
        · exact put (g_t2 (u0 (gv_int (by decide))) gm)
        · exact put (g_t2 (u0 (gv_bool _)) gm)
        · exact put (g_t2 (up (n := 0) (k := 20) ⟨trivial, ⟨by decide +kernel, by simp [PyData.depth], by show (Str.ofString "1").cps.size ≤ 20; decide +kernel⟩⟩ (by decide) (by decide)) gm)
        · exact put (g_t1 gw)
        · exact put (g_t3 gw gm (u0 (gv_int (by decide))))
        · exact put (g_l2 gw gm)
        · exact put (g_t2 gw (u0 gv_none))
        · exact put (g_t2 gw ((gv_list (n := 3) (k := 115) (w := 3) three (by simp) (by decide)).mono (by decide) (by decide)))
        · exact put (g_t2 gw ((gv_tup (n := 3) (k := 115) (w := 3) (fun y hy => three y (mem_cut hy)) (Nat.le_trans (len_cut _ _ _) (by simp)) (by decide)).mono (by decide) (by decide)))
        · exact put (g_t2 gw (md (by simp) (by simp)))
        · exact put (g_t2 gw (md (fun y hy => by
            simp only [List.mem_cons, List.not_mem_nil, or_false] at hy
            subst hy
            exact g_st gT (by omega) (gv_rep _ gv_none) (by simp; omega)) (by simp)))
        · exact put (g_t2 gw (md (fun y hy => by
            rcases List.mem_cons.mp hy with rfl | hy
            · exact gs0
            · rcases List.mem_append.mp hy with h | h
              · exact gr y h
              · simp only [List.mem_cons, List.not_mem_nil, or_false] at h
                subst h
                exact gv_none.mono (by decide) (by decide)) (by simp; omega)))
        · exact put (g_t2 gw (md (fun y hy => by
            simp only [List.mem_cons, List.not_mem_nil, or_false] at hy
            subst hy
            exact g_st (gv_rep _ (gv_int (by decide))) (by simp; omega) (gv_rep _ gv_none) (by simp; omega)) (by simp)))
        · exact put (g_t2 gw (md (fun y hy => by
            rcases List.mem_cons.mp hy with rfl | hy
            · exact gs0
            · rcases List.mem_append.mp hy with h | h
              · exact gr y h
              · simp only [List.mem_cons, List.not_mem_nil, or_false] at h
                subst h
                exact g_st (fun z hz => gT z (mem_cut hz)) (by have := len_cut T (some 1) none; omega) gN (by omega)) (by simp; omega)))
open P (Ns tab Q sh Bd Fit Stt mdD sttD nxD Wm Wf modelJ stateJ pairsJ pairJ cnt isum ledF od len_Ns okS)
structure Whd (m : Nat) (y : D) (p : Nat × List Stt) : Prop where
  e : y = hD m p
  wm : Wm P.TOP m p.2
  st : p.2.length ≤ 3
  w1 : 1 ≤ p.1
  w2 : p.1 ≤ 1000001
def HdQ (n m count : Nat) (r : Rt × List (List D)) : Prop := ∃ W' hs, P.Purse (n + 500 * count) W' ∧ Wh m hs ∧ hs.length = count ∧ r = (.own (hs.map (hD m)), [W'])
theorem of_whd {m : Nat} : ∀ ys : List D, (∀ y ∈ ys, ∃ p, Whd m y p) → ∃ hs : Hid, ys = hs.map (hD m) ∧ hs.length = ys.length ∧ ∀ p ∈ hs, Whd m (hD m p) p
  | [], _ => ⟨[], rfl, rfl, by simp⟩
  | y :: r, h => by
    obtain ⟨hs, e, l, a⟩ := of_whd r fun z hz => h z (by simp [hz])
    obtain ⟨p, hp⟩ := h y (by simp)
    refine ⟨p :: hs, by rw [List.map_cons, ← hp.e, ← e], by simp [l], fun q hq => ?_⟩
    rcases List.mem_cons.mp hq with rfl | hq
    · exact ⟨rfl, hp.wm, hp.st, hp.w1, hp.w2⟩
    · exact a q hq
theorem wh_of {m : Nat} {hs : Hid} (h : ∀ p ∈ hs, Whd m (hD m p) p) (ne : 0 < hs.length) (len : hs.length ≤ 5) (m8 : m ≤ 8) : Wh m hs := ⟨ne, len, fun p hp => (h p hp).wm, fun p hp => (h p hp).st, fun p hp => (h p hp).w1, fun p hp => (h p hp).w2, m8⟩
theorem hidden_made {n m count : Nat} {W : List D} (hn : n ≤ 80000) (hP : P.Purse n W) (m1 : 1 ≤ m) (m8 : m ≤ 8) (c1 : 1 ≤ count) (c4 : count ≤ 4) : okP (m__law_hidden [.m W, .d (N m), .d (N count), .d (.int 3)]) (HdQ n m count) := by
  have rg := P.range_ok (t := count) (by omega)
  have lt : count ≤ 16777216 := by omega
  simp [m__law_hidden, g__law_hidden, run_ap, startD, rg, lt, -iRange1_i, DL.sizeLine_eq]
  simp only [okP_obind]
  refine lc_list (fun i : Nat => PyData.int (i : Nat)) (fun r s => ∃ Wj, P.Purse (n + 500 * (count - r.length)) Wj ∧ r.length ≤ count ∧ s = [some (.lent Wj), some (.d (N m)), some (.d (N count)), some (.d (.int 3)), none]) (fun _ y => ∃ p, Whd m y p) (l := List.range count) ⟨W, by simpa using hP, by simp, rfl⟩ ?_ ?_
  · rintro i r s ⟨Wj, hWj, hl, rfl⟩
    simp only [List.length_cons] at hl hWj
    have hn' : n + 500 * (count - (r.length + 1)) ≤ 82000 := by omega
    have hn2 : n + 500 * (count - (r.length + 1)) + 500 ≤ n + 500 * (count - r.length) := by omega
    generalize n + 500 * (count - (r.length + 1)) = k at hWj hn' hn2
    obtain ⟨a, Wa, ha, hWa, ea⟩ := P.pick_ok (by omega) hWj [.int 2, .int 5, .int 1000000] (by simp) (by simp)
    obtain ⟨c, rfl, c1, c2⟩ : ∃ c : Nat, a = N c ∧ 1 ≤ c ∧ c ≤ 1000000 := by
      simp only [List.mem_cons, List.not_mem_nil, or_false] at ha
      rcases ha with rfl | rfl | rfl
      · exact ⟨2, rfl, by decide, by decide⟩
      · exact ⟨5, rfl, by decide, by decide⟩
      · exact ⟨1000000, rfl, by decide, by decide⟩
    obtain ⟨d, Wd, hd, hWd, ed⟩ := P.draw_ok (by omega) hWa c (by omega) (sm_of 30 (by omega) |>.mono (by decide))
    have ew : (1 : Int) + (d : Int) = ((1 + d : Nat) : Int) := by omega
    simp [okP_some, ea, ed, DL.sizeLine_eq]
    simp only [okP_obind]
    refine (P.law_model_r (n := k + 1 + 1) (by omega) hWd (many := m) (most := 3) m1 (by omega) (by decide) (by decide)).mono fun q hq => ?_
    obtain ⟨W4, ss, hW4, w, hs, rfl⟩ := hq
    simp [okP_some, DL.sizeLine_eq]
    exact ⟨⟨1 + d, ss, by simp [hD], w, hs, by simp, by simp; omega⟩, hW4.up (by omega), by omega⟩
  · rintro ys s ly hy ⟨Wj, hWj, hl, rfl⟩
    simp at ly hWj
    have hw : ∀ y ∈ ys, ∃ p, Whd m y p := fun y hy' => by
      obtain ⟨q, hq⟩ := List.mem_iff_getElem?.mp hy'
      have hq' : q < count := by
        have := (List.getElem?_eq_some_iff.mp hq).1
        omega
      exact hy q q y (by simp [hq']) hq
    obtain ⟨hs, rfl, l, a⟩ := of_whd ys hw
    simp at ly
    simp [okP_some]
    exact ⟨Wj, hs, hWj, wh_of a (by omega) (by omega) m8, ly, rfl⟩
open P (Ns tab Q sh Bd Fit Stt mdD sttD nxD Wm Wf modelJ stateJ pairsJ pairJ cnt isum ledF od len_Ns okS GV gv_list gv_tup)
def LwI (r : List Nat) (s : DSt) : Prop := ∃ S W v2 v3 v4 v5 v6 v7 v8 v9, P.Purse (3000 * (5 - r.length)) W ∧ r.length ≤ 5 ∧ nd v2 = true ∧ nd v3 = true ∧ nd v4 = true ∧ nd v5 = true ∧ nd v6 = true ∧ nd v7 = true ∧ nd v8 = true ∧ nd v9 = true ∧ s = [S, some (.own W), v2, v3, v4, v5, v6, v7, v8, v9]
def LvI (W : List D) (S v2 v3 v4 v5 v9 : Option SV) (_ : List D) (s : DSt) : Prop := ∃ v6 v7 v8, nd v6 = true ∧ nd v7 = true ∧ nd v8 = true ∧ s = [S, some (.own W), v2, v3, v4, v5, v6, v7, v8, v9]
def LaI (n : Nat) (S v2 v3 v4 v5 v6 v7 v8 : Option SV) (r : List Nat) (s : DSt) : Prop := ∃ W v9, P.Purse (n + 20 * (4 - r.length)) W ∧ r.length ≤ 4 ∧ nd v9 = true ∧ s = [S, some (.own W), v2, v3, v4, v5, v6, v7, v8, v9]
theorem ok_bb (b : Bool) : okS 8 (.list [.bool b, .bool b]) := by
  refine ⟨by simp [DL.sizeLine_eq], fun y hy => ?_⟩
  simp only [List.mem_cons, List.not_mem_nil, or_false] at hy
  rcases hy with rfl | rfl <;> trivial
/-- the hidden model of a turn: as drawn, or with one choice more -/
def HmQ (n m : Nat) (S v2 : Option SV) (v5 v6 v7 v8 v9 : Option SV) (p : Fl × DSt) : Prop := ∃ W hs X, P.Purse (n + 2) W ∧ Wh m hs ∧ (X = .own (hs.map (hD m)) ∨ X = .d (.list (hs.map (hD m)))) ∧ p = (.nx, [S, some (.own W), v2, some (.d (N m)), some X, v5, v6, v7, v8, v9])
theorem cut_one {y : D} {d : Nat} (hd : d < 2) : cutD [y] none (some (d : Int)) = if d = 0 then [] else [y] := by
  have : d = 0 ∨ d = 1 := by omega
  rcases this with rfl | rfl <;> rfl
theorem wh_more {m : Nat} {hs : Hid} (w : Wh m hs) (h : hs.length < 4) {p : Nat × List Stt} (hp : p ∈ hs) : Wh m (hs ++ [p]) := by
  have mem : ∀ q ∈ hs ++ [p], q ∈ hs := fun q hq => by
    rcases List.mem_append.mp hq with h | h
    · exact h
    · simp only [List.mem_cons, List.not_mem_nil, or_false] at h
      rw [h]
      exact hp
  exact ⟨by simp, by simp; omega, fun q hq => w.wm q (mem q hq), fun q hq => w.st q (mem q hq), fun q hq => w.w1 q (mem q hq), fun q hq => w.w2 q (mem q hq), w.m8⟩
theorem repr_hid {m : Nat} {hs : Hid} (w : Wh m hs) : bRepr [.list (hs.map (hD m))] = some (.d (.str (PyData.shown (.list (hs.map (hD m)))))) := by
  have len := w.len
  exact P.repr_gv (gv_list (n := 5) (k := 1047) (w := 12) (fun y hy => by
    obtain ⟨p, hp, rfl⟩ := List.mem_map.mp hy
    exact (g_hD w p hp).2) (by simp; omega) (by decide)) (by decide) (by decide)
theorem law_true : ∀ ns : List Int, ns.length ≤ 63 → m_law [.d (.list (ns.map .int))] = some (.d (.bool true), []) := by
  intro ns hn
  refine okP.eq ?_
  obtain ⟨W, hW, e0⟩ := P.purse_ok ns hn
  have r5 : iRange1 [.int 5] = some ((List.range 5).map fun i => .int (i : Nat)) := by simp
  have r4 : iRange1 [.int 4] = some ((List.range 4).map fun i => .int (i : Nat)) := by simp
  simp [m_law, g_law, run_ap, startD, r5, -iRange1_i, e0]
  simp only [okP_obind]
  refine for_list (fun i : Nat => PyData.int (i : Nat)) LwI (l := List.range 5) ⟨_, W, none, none, none, none, none, none, none, none, hW.up (by simp), by simp, rfl, rfl, rfl, rfl, rfl, rfl, rfl, rfl, rfl⟩ ?_ ?_
  · rintro i r s ⟨S, W, v2, v3, v4, v5, v6, v7, v8, v9, hW, hl, n2, n3, n4, n5, n6, n7, n8, n9, rfl⟩
    simp only [List.length_cons] at hl hW
    have hn' : 3000 * (5 - (r.length + 1)) ≤ 12000 := by omega
    have hn2 : 3000 * (5 - (r.length + 1)) + 3000 ≤ 3000 * (5 - r.length) := by omega
    generalize 3000 * (5 - (r.length + 1)) = n at hW hn' hn2
    obtain ⟨d, W1, hd, hW1, e1⟩ := P.draw_int (by omega) hW 4 (by decide) (by decide)
    obtain ⟨c, W2, hc, hW2, e2⟩ := P.draw_int (by omega) hW1 4 (by decide) (by decide)
    simp only [N] at e1 e2
    obtain ⟨m, em⟩ : ∃ m, m = 1 + d := ⟨_, rfl⟩
    have em' : (1 : Int) + (d : Int) = (m : Nat) := by omega
    obtain ⟨k, ek⟩ : ∃ k, k = 1 + c := ⟨_, rfl⟩
    have ek' : (1 : Int) + (c : Int) = (k : Nat) := by omega
    simp [okP_some, kSetS_nd n2, kSetS_nd n3, e1, e2, em', ek', DL.sizeLine_eq]
    simp only [okP_obind]
    refine (hidden_made (n := n + 1 + 1) (by omega) hW2 (m := m) (count := k) (by omega) (by omega) (by omega) (by omega)).mono fun q hq => ?_
    obtain ⟨W3, hs, hW3, w, lh, rfl⟩ := hq
    simp [okP_some, kSetS_nd n4]
    rw [okP_obind]
    refine okP.mono (Q := HmQ (n + 2002) m S (some (.d (.int (i : Nat)))) v5 v6 v7 v8 v9) ?_ ?_
    · by_cases c4 : hs.length < 4
      · obtain ⟨x, W4, hx, hW4, e4⟩ := P.pick_ok (by omega) hW3 (hs.map (hD m)) (by simpa using w.ne) (by simp; omega)
        obtain ⟨p, hp, rfl⟩ := List.mem_map.mp hx
        obtain ⟨b, W5, hb, hW5, e5⟩ := P.draw_int (by omega) hW4 2 (by decide) (by decide)
        simp only [N] at e5
        have c4' : (hs.length : Int) < 4 := by omega
        have z : hs.length ≤ 16777215 := by omega
        have z2 : hs.length ≤ 16777216 := by omega
        have cb : b = 0 ∨ b = 1 := by omega
        rcases cb with rfl | rfl
        · have cc : cutD [hD m p] none (some 0) = [] := rfl
          simp [okP_some, c4', e4, e5, DL.sizeLine_eq, z, z2, cc]
          exact ⟨W5, hs, _, hW5.up (by omega), w, .inl rfl, rfl⟩
        · have cc : cutD [hD m p] none (some 1) = [hD m p] := rfl
          simp [okP_some, c4', e4, e5, DL.sizeLine_eq, z, z2, cc]
          exact ⟨W5, hs ++ [p], _, hW5.up (by omega), wh_more w c4 hp, .inl rfl, by simp⟩
      · have c4' : ¬ (hs.length : Int) < 4 := by omega
        simp [okP_some, c4']
        exact ⟨W3, hs, _, hW3.up (by omega), w, .inr rfl, rfl⟩
    · rintro _ ⟨W6, hs, X, hW6, w, hX, rfl⟩
      have len := w.len
      have rp := repr_hid w
      have fin : ∀ {st : DSt}, True → True := fun _ => trivial
      rcases hX with rfl | rfl
      all_goals
        simp [okP_some, kSetS_nd n5, rp, DL.sizeLine_eq]
        simp only [okP_obind]
        refine (bents_ok (n := n + 2002 + 2) (by omega) hW6 w).mono fun q hq => ?_
        obtain ⟨W7, xs, hW7, lx, gx, rfl⟩ := hq
        have l1 : xs.length ≤ 16777215 := by omega
        have l2 : xs.length + 1 ≤ 16777216 := by omega
        have l3 : 1 + xs.length ≤ 16777216 := by omega
        simp [okP_some, DL.sizeLine_eq, l1, l2, l3]
        try simp only [okP_obind]
        refine for_items (Pr := HV) (LvI W7 S _ _ _ _ v9) (Q := fun q => okP (kSeq _ q) _) ?_ ⟨_, _, _, n6, n7, n8, rfl⟩ ?_ ?_
        · intro y hy
          rcases List.mem_cons.mp hy with rfl | hy
          · exact .inl ((gv_list (n := 5) (k := 1047) (w := 12) (fun y hy => by
              obtain ⟨p, hp, rfl⟩ := List.mem_map.mp hy
              exact (g_hD w p hp).2) (by simp; omega) (by decide)).mono (by decide) (by decide))
          · exact gx y hy
        · rintro y r s gy ⟨w6, w7, w8, m6, m7, m8, rfl⟩
          obtain ⟨b, z, j1, j2, j3⟩ := judged gy m
          have sm := P.same_ok 8 (.list [.bool b, .bool b]) (ok_bb _)
          have ns := P.ne_str z z
          simp [okP_some, kSetS_nd m6, kSetS_nd m7, kSetS_nd m8, j1, j2, j3, sm, ns, DL.sizeLine_eq]
          exact ⟨_, _, _, rfl, rfl, rfl, rfl⟩
        · rintro s ⟨w6, w7, w8, m6, m7, m8, rfl⟩
          simp [okP_some, r4, -iRange1_i]
          try simp only [okP_obind]
          refine for_list (fun i : Nat => PyData.int (i : Nat)) (LaI (n + 2002 + 2 + 1) S _ _ _ _ w6 w7 w8) (Q := fun q => okP (kSeq _ q) _) (l := List.range 4) ⟨W7, v9, by simpa using hW7, by simp, n9, rfl⟩ ?_ ?_
          · rintro j r s ⟨W8, w9, hW8, hl8, m9, rfl⟩
            simp only [List.length_cons] at hl8 hW8
            simp [okP_some, kSetS_nd m9]
            try simp only [okP_obind]
            refine (rows_right_ok (by omega) hW8 w (by omega) (by omega)).mono fun q hq => ?_
            obtain ⟨W9, hW9, rfl⟩ := hq
            simp [okP_some]
            exact ⟨W9, _, hW9.up (by omega), by omega, rfl, rfl⟩
          · rintro s ⟨W8, w9, hW8, hl8, m9, rfl⟩
            have ns := P.ne_str (PyData.shown (.list (hs.map (hD m)))) (PyData.shown (.list (hs.map (hD m))))
            simp [okP_some, rp, ns]
            exact ⟨_, W8, _, _, _, _, _, _, _, _, hW8.up (by simp; omega), by omega, rfl, rfl, rfl, rfl, m6, m7, m8, m9, rfl⟩
  · rintro s ⟨S, W, v2, v3, v4, v5, v6, v7, v8, v9, hW, hl, n2, n3, n4, n5, n6, n7, n8, n9, rfl⟩
    simp [okP_some]
end K11
end

section
set_option Elab.async false
set_option linter.all false
set_option maxRecDepth 100000
set_option maxHeartbeats 4000000
namespace K11
open PySem PySem.Spec PyProof.Rows L2 DL
def topS (i : Nat) : Stmt := PySem.Challenge.pw_saidahead_k11_hidden_models_and_beliefs.main.body.getD i (.Pass ⟨0, 0, 0, 0⟩)
abbrev s_is_count : Stmt := topS 5
abbrev N_is_count : List Str := ["value", "least"]
theorem sc_is_count : FnScope N_is_count ["value", "least"] (defScope s_is_count) := ⟨rfl, rfl, rfl, by decide +kernel, rfl, by decide +kernel, by decide +kernel⟩
abbrev s_divisor : Stmt := topS 6
abbrev N_divisor : List Str := ["one", "other"]
theorem sc_divisor : FnScope N_divisor ["one", "other"] (defScope s_divisor) := ⟨rfl, rfl, rfl, by decide +kernel, rfl, by decide +kernel, by decide +kernel⟩
abbrev s_by_lowest : Stmt := topS 7
abbrev N_by_lowest : List Str := ["top", "under", "common"]
theorem sc_by_lowest : FnScope N_by_lowest ["top", "under"] (defScope s_by_lowest) := ⟨rfl, rfl, rfl, by decide +kernel, rfl, by decide +kernel, by decide +kernel⟩
abbrev s_put_together : Stmt := topS 8
abbrev N_put_together : List Str := ["one", "other"]
theorem sc_put_together : FnScope N_put_together ["one", "other"] (defScope s_put_together) := ⟨rfl, rfl, rfl, by decide +kernel, rfl, by decide +kernel, by decide +kernel⟩
abbrev s_times : Stmt := topS 9
abbrev N_times : List Str := ["one", "other"]
theorem sc_times : FnScope N_times ["one", "other"] (defScope s_times) := ⟨rfl, rfl, rfl, by decide +kernel, rfl, by decide +kernel, by decide +kernel⟩
abbrev s_total : Stmt := topS 10
abbrev N_total : List Str := ["some", "found", "one"]
theorem sc_total : FnScope N_total ["some"] (defScope s_total) := ⟨rfl, rfl, rfl, by decide +kernel, rfl, by decide +kernel, by decide +kernel⟩
abbrev s_shared : Stmt := topS 11
abbrev N_shared : List Str := ["one", "other"]
theorem sc_shared : FnScope N_shared ["one", "other"] (defScope s_shared) := ⟨rfl, rfl, rfl, by decide +kernel, rfl, by decide +kernel, by decide +kernel⟩
abbrev s_are_counts : Stmt := topS 13
abbrev N_are_counts : List Str := ["value", "one"]
theorem sc_are_counts : FnScope N_are_counts ["value"] (defScope s_are_counts) := ⟨rfl, rfl, rfl, by decide +kernel, rfl, by decide +kernel, by decide +kernel⟩
abbrev s_is_table : Stmt := topS 14
abbrev N_is_table : List Str := ["value"]
theorem sc_is_table : FnScope N_is_table ["value"] (defScope s_is_table) := ⟨rfl, rfl, rfl, by decide +kernel, rfl, by decide +kernel, by decide +kernel⟩
abbrev s_is_state : Stmt := topS 17
abbrev N_is_state : List Str := ["value", "many", "states", "table", "nexts", "number", "late"]
theorem sc_is_state : FnScope N_is_state ["value", "many", "states"] (defScope s_is_state) := ⟨rfl, rfl, rfl, by decide +kernel, rfl, by decide +kernel, by decide +kernel⟩
abbrev s_is_model : Stmt := topS 18
abbrev N_is_model : List Str := ["value", "state"]
theorem sc_is_model : FnScope N_is_model ["value"] (defScope s_is_model) := ⟨rfl, rfl, rfl, by decide +kernel, rfl, by decide +kernel, by decide +kernel⟩
abbrev s_is_row : Stmt := topS 19
abbrev N_is_row : List Str := ["value", "many", "piece"]
theorem sc_is_row : FnScope N_is_row ["value", "many"] (defScope s_is_row) := ⟨rfl, rfl, rfl, by decide +kernel, rfl, by decide +kernel, by decide +kernel⟩
abbrev s_is_beginning : Stmt := topS 20
abbrev N_is_beginning : List Str := ["value", "many"]
theorem sc_is_beginning : FnScope N_is_beginning ["value", "many"] (defScope s_is_beginning) := ⟨rfl, rfl, rfl, by decide +kernel, rfl, by decide +kernel, by decide +kernel⟩
abbrev s_look_at_row : Stmt := topS 21
abbrev N_look_at_row : List Str := ["value", "many"]
theorem sc_look_at_row : FnScope N_look_at_row ["value", "many"] (defScope s_look_at_row) := ⟨rfl, rfl, rfl, by decide +kernel, rfl, by decide +kernel, by decide +kernel⟩
abbrev s_led : Stmt := topS 22
abbrev N_led : List Str := ["model", "row", "state", "piece"]
theorem sc_led : FnScope N_led ["model", "row"] (defScope s_led) := ⟨rfl, rfl, rfl, by decide +kernel, rfl, by decide +kernel, by decide +kernel⟩
abbrev s_odds_along : Stmt := topS 23
abbrev N_odds_along : List Str := ["model", "beginning", "found", "state", "item", "table", "nexts"]
theorem sc_odds_along : FnScope N_odds_along ["model", "beginning"] (defScope s_odds_along) := ⟨rfl, rfl, rfl, by decide +kernel, rfl, by decide +kernel, by decide +kernel⟩
abbrev s_is_choice : Stmt := topS 25
abbrev N_is_choice : List Str := ["value"]
theorem sc_is_choice : FnScope N_is_choice ["value"] (defScope s_is_choice) := ⟨rfl, rfl, rfl, by decide +kernel, rfl, by decide +kernel, by decide +kernel⟩
abbrev s_is_hidden : Stmt := topS 26
abbrev N_is_hidden : List Str := ["value", "weight", "model", "one"]
theorem sc_is_hidden : FnScope N_is_hidden ["value"] (defScope s_is_hidden) := ⟨rfl, rfl, rfl, by decide +kernel, rfl, by decide +kernel, by decide +kernel⟩
abbrev s_look_at_hidden : Stmt := topS 27
abbrev N_look_at_hidden : List Str := ["value"]
theorem sc_look_at_hidden : FnScope N_look_at_hidden ["value"] (defScope s_look_at_hidden) := ⟨rfl, rfl, rfl, by decide +kernel, rfl, by decide +kernel, by decide +kernel⟩
abbrev s_parts : Stmt := topS 28
abbrev N_parts : List Str := ["hidden", "beginning", "every", "weight", "model"]
theorem sc_parts : FnScope N_parts ["hidden", "beginning"] (defScope s_parts) := ⟨rfl, rfl, rfl, by decide +kernel, rfl, by decide +kernel, by decide +kernel⟩
abbrev s_hidden_odds : Stmt := topS 29
abbrev N_hidden_odds : List Str := ["hidden", "beginning"]
theorem sc_hidden_odds : FnScope N_hidden_odds ["hidden", "beginning"] (defScope s_hidden_odds) := ⟨rfl, rfl, rfl, by decide +kernel, rfl, by decide +kernel, by decide +kernel⟩
abbrev s_believed : Stmt := topS 30
abbrev N_believed : List Str := ["hidden", "row", "some", "one"]
theorem sc_believed : FnScope N_believed ["hidden", "row"] (defScope s_believed) := ⟨rfl, rfl, rfl, by decide +kernel, rfl, by decide +kernel, by decide +kernel⟩
abbrev s_belief : Stmt := topS 31
abbrev N_belief : List Str := ["hidden", "row"]
theorem sc_belief : FnScope N_belief ["hidden", "row"] (defScope s_belief) := ⟨rfl, rfl, rfl, by decide +kernel, rfl, by decide +kernel, by decide +kernel⟩
abbrev s_next_odds : Stmt := topS 32
abbrev N_next_odds : List Str := ["hidden", "row", "some", "found", "item", "odds", "weight", "model", "state", "table"]
theorem sc_next_odds : FnScope N_next_odds ["hidden", "row"] (defScope s_next_odds) := ⟨rfl, rfl, rfl, by decide +kernel, rfl, by decide +kernel, by decide +kernel⟩
abbrev s__law_draw : Stmt := topS 53
abbrev N__law_draw : List Str := ["purse", "many", "told", "stirred"]
theorem sc__law_draw : FnScope N__law_draw ["purse", "many"] (defScope s__law_draw) := ⟨rfl, rfl, rfl, by decide +kernel, rfl, by decide +kernel, by decide +kernel⟩
abbrev s__law_bents : Stmt := topS 34
abbrev N__law_bents : List Str := ["purse", "hidden", "at", "weight", "model", "other", "odd", "values", "one"]
theorem sc__law_bents : FnScope N__law_bents ["purse", "hidden"] (defScope s__law_bents) := ⟨rfl, rfl, rfl, by decide +kernel, rfl, by decide +kernel, by decide +kernel⟩
abbrev s__law_is_whole : Stmt := topS 35
abbrev N__law_is_whole : List Str := ["value", "least", "most"]
theorem sc__law_is_whole : FnScope N__law_is_whole ["value", "least", "most"] (defScope s__law_is_whole) := ⟨rfl, rfl, rfl, by decide +kernel, rfl, by decide +kernel, by decide +kernel⟩
abbrev s__law_is_model : Stmt := topS 36
abbrev N__law_is_model : List Str := ["value", "state", "table", "nexts", "late", "number"]
theorem sc__law_is_model : FnScope N__law_is_model ["value"] (defScope s__law_is_model) := ⟨rfl, rfl, rfl, by decide +kernel, rfl, by decide +kernel, by decide +kernel⟩
abbrev s__law_is : Stmt := topS 37
abbrev N__law_is : List Str := ["value", "many", "one", "weight", "model"]
theorem sc__law_is : FnScope N__law_is ["value", "many"] (defScope s__law_is) := ⟨rfl, rfl, rfl, by decide +kernel, rfl, by decide +kernel, by decide +kernel⟩
abbrev s__law_pick : Stmt := topS 54
abbrev N__law_pick : List Str := ["purse", "things"]
theorem sc__law_pick : FnScope N__law_pick ["purse", "things"] (defScope s__law_pick) := ⟨rfl, rfl, rfl, by decide +kernel, rfl, by decide +kernel, by decide +kernel⟩
abbrev s__law_row : Stmt := topS 38
abbrev N__law_row : List Str := ["purse", "model", "row", "state", "turn", "some", "piece", "late"]
theorem sc__law_row : FnScope N__law_row ["purse", "model"] (defScope s__law_row) := ⟨rfl, rfl, rfl, by decide +kernel, rfl, by decide +kernel, by decide +kernel⟩
abbrev s__law_divisor : Stmt := topS 45
abbrev N__law_divisor : List Str := ["one", "other"]
theorem sc__law_divisor : FnScope N__law_divisor ["one", "other"] (defScope s__law_divisor) := ⟨rfl, rfl, rfl, by decide +kernel, rfl, by decide +kernel, by decide +kernel⟩
abbrev s__law_by : Stmt := topS 46
abbrev N__law_by : List Str := ["top", "under", "common"]
theorem sc__law_by : FnScope N__law_by ["top", "under"] (defScope s__law_by) := ⟨rfl, rfl, rfl, by decide +kernel, rfl, by decide +kernel, by decide +kernel⟩
abbrev s__law_times : Stmt := topS 48
abbrev N__law_times : List Str := ["one", "other"]
theorem sc__law_times : FnScope N__law_times ["one", "other"] (defScope s__law_times) := ⟨rfl, rfl, rfl, by decide +kernel, rfl, by decide +kernel, by decide +kernel⟩
abbrev s__law_odds : Stmt := topS 44
abbrev N__law_odds : List Str := ["model", "beginning", "found", "state", "item", "table", "nexts"]
theorem sc__law_odds : FnScope N__law_odds ["model", "beginning"] (defScope s__law_odds) := ⟨rfl, rfl, rfl, by decide +kernel, rfl, by decide +kernel, by decide +kernel⟩
abbrev s__law_parts : Stmt := topS 41
abbrev N__law_parts : List Str := ["hidden", "beginning", "every", "weight", "model"]
theorem sc__law_parts : FnScope N__law_parts ["hidden", "beginning"] (defScope s__law_parts) := ⟨rfl, rfl, rfl, by decide +kernel, rfl, by decide +kernel, by decide +kernel⟩
abbrev s__law_over : Stmt := topS 42
abbrev N__law_over : List Str := ["one", "other"]
theorem sc__law_over : FnScope N__law_over ["one", "other"] (defScope s__law_over) := ⟨rfl, rfl, rfl, by decide +kernel, rfl, by decide +kernel, by decide +kernel⟩
abbrev s__law_plus : Stmt := topS 47
abbrev N__law_plus : List Str := ["one", "other"]
theorem sc__law_plus : FnScope N__law_plus ["one", "other"] (defScope s__law_plus) := ⟨rfl, rfl, rfl, by decide +kernel, rfl, by decide +kernel, by decide +kernel⟩
abbrev s__law_sum : Stmt := topS 49
abbrev N__law_sum : List Str := ["some", "found", "one"]
theorem sc__law_sum : FnScope N__law_sum ["some"] (defScope s__law_sum) := ⟨rfl, rfl, rfl, by decide +kernel, rfl, by decide +kernel, by decide +kernel⟩
abbrev s__law_spoilt : Stmt := topS 50
abbrev N__law_spoilt : List Str := ["told", "found", "part"]
theorem sc__law_spoilt : FnScope N__law_spoilt ["told"] (defScope s__law_spoilt) := ⟨rfl, rfl, rfl, by decide +kernel, rfl, by decide +kernel, by decide +kernel⟩
abbrev s__law_same : Stmt := topS 51
abbrev N__law_same : List Str := ["told", "due", "alike", "one", "other"]
theorem sc__law_same : FnScope N__law_same ["told", "due"] (defScope s__law_same) := ⟨rfl, rfl, rfl, by decide +kernel, rfl, by decide +kernel, by decide +kernel⟩
abbrev s__law_rows_right : Stmt := topS 39
abbrev N__law_rows_right : List Str := ["purse", "hidden", "many", "weight", "model", "row", "beginning", "due", "parts_v", "beliefs", "nexts", "told", "odds", "item"]
theorem sc__law_rows_right : FnScope N__law_rows_right ["purse", "hidden", "many"] (defScope s__law_rows_right) := ⟨rfl, rfl, rfl, by decide +kernel, rfl, by decide +kernel, by decide +kernel⟩
abbrev s__law_model : Stmt := topS 43
abbrev N__law_model : List Str := ["purse", "many", "most", "count", "tops", "ends", "states", "state", "table", "item", "number"]
theorem sc__law_model : FnScope N__law_model ["purse", "many", "most"] (defScope s__law_model) := ⟨rfl, rfl, rfl, by decide +kernel, rfl, by decide +kernel, by decide +kernel⟩
abbrev s__law_hidden : Stmt := topS 40
abbrev N__law_hidden : List Str := ["purse", "many", "count", "most", "turn"]
theorem sc__law_hidden : FnScope N__law_hidden ["purse", "many", "count", "most"] (defScope s__law_hidden) := ⟨rfl, rfl, rfl, by decide +kernel, rfl, by decide +kernel, by decide +kernel⟩
abbrev s__law_purse : Stmt := topS 52
abbrev N__law_purse : List Str := ["script", "seed", "cell"]
theorem sc__law_purse : FnScope N__law_purse ["script"] (defScope s__law_purse) := ⟨rfl, rfl, rfl, by decide +kernel, rfl, by decide +kernel, by decide +kernel⟩
abbrev s_law : Stmt := topS 55
abbrev N_law : List Str := ["script", "purse", "turn", "many", "hidden", "kept", "value", "written", "due", "again"]
theorem sc_law : FnScope N_law ["script"] (defScope s_law) := ⟨rfl, rfl, rfl, by decide +kernel, rfl, by decide +kernel, by decide +kernel⟩
structure Tx (K : PySem.W.Frag) (mg : Str → Option Value) where
  f_is_count : Addr
  d_is_count : FuncData
  F_is_count : FunD K "is_count" "is_count" (defArgs s_is_count) (defBody s_is_count) (defScope s_is_count) [V.int 0] [] f_is_count d_is_count
  g_is_count : mg "is_count" = some (.ref f_is_count)
  ds1_is_count : List Value
  v1_is_count : Vals [V.int 0] ds1_is_count
  b1_is_count : Binds K d_is_count ["value", "least"] ds1_is_count
  b2_is_count : Binds K d_is_count ["value", "least"] []
  f_divisor : Addr
  d_divisor : FuncData
  F_divisor : Fun K "divisor" "divisor" s_divisor f_divisor d_divisor
  g_divisor : mg "divisor" = some (.ref f_divisor)
  b2_divisor : Binds K d_divisor ["one", "other"] []
  f_by_lowest : Addr
  d_by_lowest : FuncData
  F_by_lowest : Fun K "by_lowest" "by_lowest" s_by_lowest f_by_lowest d_by_lowest
  g_by_lowest : mg "by_lowest" = some (.ref f_by_lowest)
  b2_by_lowest : Binds K d_by_lowest ["top", "under"] []
  f_put_together : Addr
  d_put_together : FuncData
  F_put_together : Fun K "put_together" "put_together" s_put_together f_put_together d_put_together
  g_put_together : mg "put_together" = some (.ref f_put_together)
  b2_put_together : Binds K d_put_together ["one", "other"] []
  f_times : Addr
  d_times : FuncData
  F_times : Fun K "times" "times" s_times f_times d_times
  g_times : mg "times" = some (.ref f_times)
  b2_times : Binds K d_times ["one", "other"] []
  f_total : Addr
  d_total : FuncData
  F_total : Fun K "total" "total" s_total f_total d_total
  g_total : mg "total" = some (.ref f_total)
  b1_total : Binds K d_total ["some"] []
  f_shared : Addr
  d_shared : FuncData
  F_shared : Fun K "shared" "shared" s_shared f_shared d_shared
  g_shared : mg "shared" = some (.ref f_shared)
  b2_shared : Binds K d_shared ["one", "other"] []
  f_are_counts : Addr
  d_are_counts : FuncData
  F_are_counts : Fun K "are_counts" "are_counts" s_are_counts f_are_counts d_are_counts
  g_are_counts : mg "are_counts" = some (.ref f_are_counts)
  b1_are_counts : Binds K d_are_counts ["value"] []
  f_is_table : Addr
  d_is_table : FuncData
  F_is_table : Fun K "is_table" "is_table" s_is_table f_is_table d_is_table
  g_is_table : mg "is_table" = some (.ref f_is_table)
  b1_is_table : Binds K d_is_table ["value"] []
  f_is_state : Addr
  d_is_state : FuncData
  F_is_state : Fun K "is_state" "is_state" s_is_state f_is_state d_is_state
  g_is_state : mg "is_state" = some (.ref f_is_state)
  b3_is_state : Binds K d_is_state ["value", "many", "states"] []
  f_is_model : Addr
  d_is_model : FuncData
  F_is_model : Fun K "is_model" "is_model" s_is_model f_is_model d_is_model
  g_is_model : mg "is_model" = some (.ref f_is_model)
  b1_is_model : Binds K d_is_model ["value"] []
  f_is_row : Addr
  d_is_row : FuncData
  F_is_row : Fun K "is_row" "is_row" s_is_row f_is_row d_is_row
  g_is_row : mg "is_row" = some (.ref f_is_row)
  b2_is_row : Binds K d_is_row ["value", "many"] []
  f_is_beginning : Addr
  d_is_beginning : FuncData
  F_is_beginning : Fun K "is_beginning" "is_beginning" s_is_beginning f_is_beginning d_is_beginning
  g_is_beginning : mg "is_beginning" = some (.ref f_is_beginning)
  b2_is_beginning : Binds K d_is_beginning ["value", "many"] []
  f_look_at_row : Addr
  d_look_at_row : FuncData
  F_look_at_row : Fun K "look_at_row" "look_at_row" s_look_at_row f_look_at_row d_look_at_row
  g_look_at_row : mg "look_at_row" = some (.ref f_look_at_row)
  b2_look_at_row : Binds K d_look_at_row ["value", "many"] []
  f_led : Addr
  d_led : FuncData
  F_led : Fun K "led" "led" s_led f_led d_led
  g_led : mg "led" = some (.ref f_led)
  b2_led : Binds K d_led ["model", "row"] []
  f_odds_along : Addr
  d_odds_along : FuncData
  F_odds_along : Fun K "odds_along" "odds_along" s_odds_along f_odds_along d_odds_along
  g_odds_along : mg "odds_along" = some (.ref f_odds_along)
  b2_odds_along : Binds K d_odds_along ["model", "beginning"] []
  f_is_choice : Addr
  d_is_choice : FuncData
  F_is_choice : Fun K "is_choice" "is_choice" s_is_choice f_is_choice d_is_choice
  g_is_choice : mg "is_choice" = some (.ref f_is_choice)
  b1_is_choice : Binds K d_is_choice ["value"] []
  f_is_hidden : Addr
  d_is_hidden : FuncData
  F_is_hidden : Fun K "is_hidden" "is_hidden" s_is_hidden f_is_hidden d_is_hidden
  g_is_hidden : mg "is_hidden" = some (.ref f_is_hidden)
  k0_value_is_hidden : KB K d_is_hidden ["value"] ["value"] 0 [0] []
  b1_is_hidden : Binds K d_is_hidden ["value"] []
  f_look_at_hidden : Addr
  d_look_at_hidden : FuncData
  F_look_at_hidden : Fun K "look_at_hidden" "look_at_hidden" s_look_at_hidden f_look_at_hidden d_look_at_hidden
  g_look_at_hidden : mg "look_at_hidden" = some (.ref f_look_at_hidden)
  b1_look_at_hidden : Binds K d_look_at_hidden ["value"] []
  f_parts : Addr
  d_parts : FuncData
  F_parts : Fun K "parts" "parts" s_parts f_parts d_parts
  g_parts : mg "parts" = some (.ref f_parts)
  b2_parts : Binds K d_parts ["hidden", "beginning"] []
  f_hidden_odds : Addr
  d_hidden_odds : FuncData
  F_hidden_odds : Fun K "hidden_odds" "hidden_odds" s_hidden_odds f_hidden_odds d_hidden_odds
  g_hidden_odds : mg "hidden_odds" = some (.ref f_hidden_odds)
  k0_beginning_hidden_hidden_odds : KB K d_hidden_odds ["hidden", "beginning"] ["beginning", "hidden"] 0 [1, 0] []
  b2_hidden_odds : Binds K d_hidden_odds ["hidden", "beginning"] []
  f_believed : Addr
  d_believed : FuncData
  F_believed : Fun K "believed" "believed" s_believed f_believed d_believed
  g_believed : mg "believed" = some (.ref f_believed)
  b2_believed : Binds K d_believed ["hidden", "row"] []
  f_belief : Addr
  d_belief : FuncData
  F_belief : Fun K "belief" "belief" s_belief f_belief d_belief
  g_belief : mg "belief" = some (.ref f_belief)
  k0_row_hidden_belief : KB K d_belief ["hidden", "row"] ["row", "hidden"] 0 [1, 0] []
  b2_belief : Binds K d_belief ["hidden", "row"] []
  f_next_odds : Addr
  d_next_odds : FuncData
  F_next_odds : Fun K "next_odds" "next_odds" s_next_odds f_next_odds d_next_odds
  g_next_odds : mg "next_odds" = some (.ref f_next_odds)
  k0_row_hidden_next_odds : KB K d_next_odds ["hidden", "row"] ["row", "hidden"] 0 [1, 0] []
  b2_next_odds : Binds K d_next_odds ["hidden", "row"] []
  f__law_draw : Addr
  d__law_draw : FuncData
  F__law_draw : Fun K "_law_draw" "_law_draw" s__law_draw f__law_draw d__law_draw
  g__law_draw : mg "_law_draw" = some (.ref f__law_draw)
  b2__law_draw : Binds K d__law_draw ["purse", "many"] []
  f__law_bents : Addr
  d__law_bents : FuncData
  F__law_bents : Fun K "_law_bents" "_law_bents" s__law_bents f__law_bents d__law_bents
  g__law_bents : mg "_law_bents" = some (.ref f__law_bents)
  b2__law_bents : Binds K d__law_bents ["purse", "hidden"] []
  f__law_is_whole : Addr
  d__law_is_whole : FuncData
  F__law_is_whole : Fun K "_law_is_whole" "_law_is_whole" s__law_is_whole f__law_is_whole d__law_is_whole
  g__law_is_whole : mg "_law_is_whole" = some (.ref f__law_is_whole)
  b3__law_is_whole : Binds K d__law_is_whole ["value", "least", "most"] []
  f__law_is_model : Addr
  d__law_is_model : FuncData
  F__law_is_model : Fun K "_law_is_model" "_law_is_model" s__law_is_model f__law_is_model d__law_is_model
  g__law_is_model : mg "_law_is_model" = some (.ref f__law_is_model)
  b1__law_is_model : Binds K d__law_is_model ["value"] []
  f__law_is : Addr
  d__law_is : FuncData
  F__law_is : Fun K "_law_is" "_law_is" s__law_is f__law_is d__law_is
  g__law_is : mg "_law_is" = some (.ref f__law_is)
  b2__law_is : Binds K d__law_is ["value", "many"] []
  f__law_pick : Addr
  d__law_pick : FuncData
  F__law_pick : Fun K "_law_pick" "_law_pick" s__law_pick f__law_pick d__law_pick
  g__law_pick : mg "_law_pick" = some (.ref f__law_pick)
  b2__law_pick : Binds K d__law_pick ["purse", "things"] []
  f__law_row : Addr
  d__law_row : FuncData
  F__law_row : Fun K "_law_row" "_law_row" s__law_row f__law_row d__law_row
  g__law_row : mg "_law_row" = some (.ref f__law_row)
  b2__law_row : Binds K d__law_row ["purse", "model"] []
  f__law_divisor : Addr
  d__law_divisor : FuncData
  F__law_divisor : Fun K "_law_divisor" "_law_divisor" s__law_divisor f__law_divisor d__law_divisor
  g__law_divisor : mg "_law_divisor" = some (.ref f__law_divisor)
  b2__law_divisor : Binds K d__law_divisor ["one", "other"] []
  f__law_by : Addr
  d__law_by : FuncData
  F__law_by : Fun K "_law_by" "_law_by" s__law_by f__law_by d__law_by
  g__law_by : mg "_law_by" = some (.ref f__law_by)
  b2__law_by : Binds K d__law_by ["top", "under"] []
  f__law_times : Addr
  d__law_times : FuncData
  F__law_times : Fun K "_law_times" "_law_times" s__law_times f__law_times d__law_times
  g__law_times : mg "_law_times" = some (.ref f__law_times)
  b2__law_times : Binds K d__law_times ["one", "other"] []
  f__law_odds : Addr
  d__law_odds : FuncData
  F__law_odds : Fun K "_law_odds" "_law_odds" s__law_odds f__law_odds d__law_odds
  g__law_odds : mg "_law_odds" = some (.ref f__law_odds)
  b2__law_odds : Binds K d__law_odds ["model", "beginning"] []
  f__law_parts : Addr
  d__law_parts : FuncData
  F__law_parts : Fun K "_law_parts" "_law_parts" s__law_parts f__law_parts d__law_parts
  g__law_parts : mg "_law_parts" = some (.ref f__law_parts)
  b2__law_parts : Binds K d__law_parts ["hidden", "beginning"] []
  f__law_over : Addr
  d__law_over : FuncData
  F__law_over : Fun K "_law_over" "_law_over" s__law_over f__law_over d__law_over
  g__law_over : mg "_law_over" = some (.ref f__law_over)
  b2__law_over : Binds K d__law_over ["one", "other"] []
  f__law_plus : Addr
  d__law_plus : FuncData
  F__law_plus : Fun K "_law_plus" "_law_plus" s__law_plus f__law_plus d__law_plus
  g__law_plus : mg "_law_plus" = some (.ref f__law_plus)
  b2__law_plus : Binds K d__law_plus ["one", "other"] []
  f__law_sum : Addr
  d__law_sum : FuncData
  F__law_sum : Fun K "_law_sum" "_law_sum" s__law_sum f__law_sum d__law_sum
  g__law_sum : mg "_law_sum" = some (.ref f__law_sum)
  b1__law_sum : Binds K d__law_sum ["some"] []
  f__law_spoilt : Addr
  d__law_spoilt : FuncData
  F__law_spoilt : Fun K "_law_spoilt" "_law_spoilt" s__law_spoilt f__law_spoilt d__law_spoilt
  g__law_spoilt : mg "_law_spoilt" = some (.ref f__law_spoilt)
  b1__law_spoilt : Binds K d__law_spoilt ["told"] []
  f__law_same : Addr
  d__law_same : FuncData
  F__law_same : Fun K "_law_same" "_law_same" s__law_same f__law_same d__law_same
  g__law_same : mg "_law_same" = some (.ref f__law_same)
  b2__law_same : Binds K d__law_same ["told", "due"] []
  f__law_rows_right : Addr
  d__law_rows_right : FuncData
  F__law_rows_right : Fun K "_law_rows_right" "_law_rows_right" s__law_rows_right f__law_rows_right d__law_rows_right
  g__law_rows_right : mg "_law_rows_right" = some (.ref f__law_rows_right)
  b3__law_rows_right : Binds K d__law_rows_right ["purse", "hidden", "many"] []
  f__law_model : Addr
  d__law_model : FuncData
  F__law_model : Fun K "_law_model" "_law_model" s__law_model f__law_model d__law_model
  g__law_model : mg "_law_model" = some (.ref f__law_model)
  b3__law_model : Binds K d__law_model ["purse", "many", "most"] []
  f__law_hidden : Addr
  d__law_hidden : FuncData
  F__law_hidden : Fun K "_law_hidden" "_law_hidden" s__law_hidden f__law_hidden d__law_hidden
  g__law_hidden : mg "_law_hidden" = some (.ref f__law_hidden)
  b4__law_hidden : Binds K d__law_hidden ["purse", "many", "count", "most"] []
  f__law_purse : Addr
  d__law_purse : FuncData
  F__law_purse : Fun K "_law_purse" "_law_purse" s__law_purse f__law_purse d__law_purse
  g__law_purse : mg "_law_purse" = some (.ref f__law_purse)
  b1__law_purse : Binds K d__law_purse ["script"] []
  f_law : Addr
  d_law : FuncData
  F_law : Fun K "law" "law" s_law f_law d_law
  g_law : mg "law" = some (.ref f_law)
  n_all : mg "all" = none
  n_bool : mg "bool" = none
  n_dict : mg "dict" = none
  n_enumerate : mg "enumerate" = none
  n_int : mg "int" = none
  n_isinstance : mg "isinstance" = none
  n_len : mg "len" = none
  n_list : mg "list" = none
  n_max : mg "max" = none
  n_range : mg "range" = none
  n_repr : mg "repr" = none
  n_str : mg "str" = none
  n_sum : mg "sum" = none
  n_tuple : mg "tuple" = none
  n_zip : mg "zip" = none
  v_MOST_PIECES : ∃ t, mg "MOST_PIECES" = some (.int 40 t)
section
variable {P : Program} {w : World} {K : PySem.W.Frag} {mg : Str → Option Value} {base : Heap}
theorem ok_is_count (T : Tx K mg) : FnG P w K mg base CX0 1 T.f_is_count T.d_is_count ["value", "least"] (spD K 2 m_is_count) := by
  show FnG P w K mg base CX0 (0 + 1) T.f_is_count T.d_is_count ["value", "least"] (spD K (["value", "least"] : List Str).length (run N_is_count.length g_is_count))
  refine dl_okD (N := N_is_count) (ps := ["value", "least"]) (k := 0) (b := g_is_count) T.F_is_count sc_is_count (by decide) ?_
  intro cdv A outer s H E hr gd
  exact ⟨_, dl_both (sss_one (ss_ret (se_and (se_isi tyok_int rfl T.n_isinstance (by decide +kernel) rfl T.n_int (by decide +kernel) (se_var 0)) (se_and (se_not (se_isi tyok_bool rfl T.n_isinstance (by decide +kernel) rfl T.n_bool (by decide +kernel) (se_var 0))) (se_one (se_cmp prim_cmp op_ge (nomark _) (se_var 0) (se_var 1)))))))⟩
theorem ok_divisor (T : Tx K mg) : FnG P w K mg base CX0 1 T.f_divisor T.d_divisor ["one", "other"] (spD K 2 m_divisor) := by
  show FnG P w K mg base CX0 (0 + 1) T.f_divisor T.d_divisor ["one", "other"] (spD K (["one", "other"] : List Str).length (run N_divisor.length g_divisor))
  refine dl_ok (N := N_divisor) (ps := ["one", "other"]) (k := 0) (b := g_divisor) T.F_divisor sc_divisor (by decide) ?_
  intro cdv A outer s H E hr gd
  exact ⟨_, dl_both (sss_cons (ss_while PassesOwn.never (st_cmp prim_ne (op_neP hr.units) (nomark _) (se_var 1) (se_int)) (sss_one (ss_par 0 1 rfl sc_divisor.nd rfl rfl (by decide) rfl rfl (sa_cons (se_var 1) (sa_cons (se_mod (se_var 0) (se_var 1)) (sa_nil))) rfl))) (sss_one (ss_ret (se_var 0))))⟩
theorem ok_by_lowest (T : Tx K mg) : FnG P w K mg base CX0 2 T.f_by_lowest T.d_by_lowest ["top", "under"] (spD K 2 m_by_lowest) := by
  show FnG P w K mg base CX0 (1 + 1) T.f_by_lowest T.d_by_lowest ["top", "under"] (spD K (["top", "under"] : List Str).length (run N_by_lowest.length g_by_lowest))
  refine dl_ok (N := N_by_lowest) (ps := ["top", "under"]) (k := 1) (b := g_by_lowest) T.F_by_lowest sc_by_lowest (by decide) ?_
  intro cdv A outer s H E hr gd
  exact ⟨_, dl_both (sss_cons (ss_set 2 sc_by_lowest.nd rfl (Or.inl rfl) (se_call (modes := [false, false]) (more := []) (ok_divisor T) (hr.mono (by decide)) gd rfl T.g_divisor T.F_divisor.kp (T.b2_divisor) .nil (fun _ _ => .nil) rfl (sa_cons (se_var 0) (sa_cons (se_var 1) (sa_nil))))) (sss_one (ss_ret (se_tup (sa_cons (se_div (se_var 0) (se_var 2)) (sa_cons (se_div (se_var 1) (se_var 2)) (sa_nil)))))))⟩
theorem ok_put_together (T : Tx K mg) : FnG P w K mg base CX0 3 T.f_put_together T.d_put_together ["one", "other"] (spD K 2 m_put_together) := by
  show FnG P w K mg base CX0 (2 + 1) T.f_put_together T.d_put_together ["one", "other"] (spD K (["one", "other"] : List Str).length (run N_put_together.length g_put_together))
  refine dl_ok (N := N_put_together) (ps := ["one", "other"]) (k := 2) (b := g_put_together) T.F_put_together sc_put_together (by decide) ?_
  intro cdv A outer s H E hr gd
  exact ⟨_, dl_both (sss_one (ss_ret (se_call (modes := [false, false]) (more := []) (ok_by_lowest T) (hr.mono (by decide)) gd rfl T.g_by_lowest T.F_by_lowest.kp (T.b2_by_lowest) .nil (fun _ _ => .nil) rfl (sa_cons (se_add (se_mul (se_ix (se_var 0) (se_int)) (se_ix (se_var 1) (se_int))) (se_mul (se_ix (se_var 1) (se_int)) (se_ix (se_var 0) (se_int)))) (sa_cons (se_mul (se_ix (se_var 0) (se_int)) (se_ix (se_var 1) (se_int))) (sa_nil))))))⟩
theorem ok_times (T : Tx K mg) : FnG P w K mg base CX0 3 T.f_times T.d_times ["one", "other"] (spD K 2 m_times) := by
  show FnG P w K mg base CX0 (2 + 1) T.f_times T.d_times ["one", "other"] (spD K (["one", "other"] : List Str).length (run N_times.length g_times))
  refine dl_ok (N := N_times) (ps := ["one", "other"]) (k := 2) (b := g_times) T.F_times sc_times (by decide) ?_
  intro cdv A outer s H E hr gd
  exact ⟨_, dl_both (sss_one (ss_ret (se_call (modes := [false, false]) (more := []) (ok_by_lowest T) (hr.mono (by decide)) gd rfl T.g_by_lowest T.F_by_lowest.kp (T.b2_by_lowest) .nil (fun _ _ => .nil) rfl (sa_cons (se_mul (se_ix (se_var 0) (se_int)) (se_ix (se_var 1) (se_int))) (sa_cons (se_mul (se_ix (se_var 0) (se_int)) (se_ix (se_var 1) (se_int))) (sa_nil))))))⟩
theorem ok_total (T : Tx K mg) : FnG P w K mg base CX0 4 T.f_total T.d_total ["some"] (spD K 1 m_total) := by
  show FnG P w K mg base CX0 (3 + 1) T.f_total T.d_total ["some"] (spD K (["some"] : List Str).length (run N_total.length g_total))
  refine dl_ok (N := N_total) (ps := ["some"]) (k := 3) (b := g_total) T.F_total sc_total (by decide) ?_
  intro cdv A outer s H E hr gd
  exact ⟨_, dl_both (sss_cons (ss_set 1 sc_total.nd rfl (Or.inl rfl) (se_tup (sa_cons (se_int) (sa_cons (se_int) (sa_nil))))) (sss_cons (ss_for PassesOwn.never rfl (si_seq (se_var 0)) (sg_name 2 sc_total.nd rfl (Or.inl rfl)) (sss_one (ss_set 1 sc_total.nd rfl (Or.inl rfl) (se_call (modes := [false, false]) (more := []) (ok_put_together T) (hr.mono (by decide)) gd rfl T.g_put_together T.F_put_together.kp (T.b2_put_together) .nil (fun _ _ => .nil) rfl (sa_cons (se_var 1) (sa_cons (se_var 2) (sa_nil))))))) (sss_one (ss_ret (se_var 1)))))⟩
theorem ok_shared (T : Tx K mg) : FnG P w K mg base CX0 3 T.f_shared T.d_shared ["one", "other"] (spD K 2 m_shared) := by
  show FnG P w K mg base CX0 (2 + 1) T.f_shared T.d_shared ["one", "other"] (spD K (["one", "other"] : List Str).length (run N_shared.length g_shared))
  refine dl_ok (N := N_shared) (ps := ["one", "other"]) (k := 2) (b := g_shared) T.F_shared sc_shared (by decide) ?_
  intro cdv A outer s H E hr gd
  exact ⟨_, dl_both (sss_one (ss_ret (se_call (modes := [false, false]) (more := []) (ok_by_lowest T) (hr.mono (by decide)) gd rfl T.g_by_lowest T.F_by_lowest.kp (T.b2_by_lowest) .nil (fun _ _ => .nil) rfl (sa_cons (se_mul (se_ix (se_var 0) (se_int)) (se_ix (se_var 1) (se_int))) (sa_cons (se_mul (se_ix (se_var 0) (se_int)) (se_ix (se_var 1) (se_int))) (sa_nil))))))⟩
theorem ok_are_counts (T : Tx K mg) : FnG P w K mg base CX0 2 T.f_are_counts T.d_are_counts ["value"] (spD K 1 m_are_counts) := by
  show FnG P w K mg base CX0 (1 + 1) T.f_are_counts T.d_are_counts ["value"] (spD K (["value"] : List Str).length (run N_are_counts.length g_are_counts))
  refine dl_ok (N := N_are_counts) (ps := ["value"]) (k := 1) (b := g_are_counts) T.F_are_counts sc_are_counts (by decide) ?_
  intro cdv A outer s H E hr gd
  exact ⟨_, dl_both (sss_one (ss_ret (se_and (se_isi tyok_list rfl T.n_isinstance (by decide +kernel) rfl T.n_list (by decide +kernel) (se_var 0)) (se_one (se_callB prim_all (cr_all rfl) rfl T.n_all (by decide +kernel) (sa_cons (se_lc rfl sc_are_counts.nd (si_seq (se_var 0)) (blkOk_by (own := [("one", 1)]) (N := N_are_counts) (sc := defScope s_are_counts) (by decide +kernel)) (fun _ _ _ _ _ => sg_name 1 sc_are_counts.nd rfl (Or.inl rfl)) (fun _ _ _ _ _ => sts_nil) (fun _ _ _ _ _ => se_call (modes := [false]) (more := [PyData.int 0]) (ok_is_count T) (hr.mono (by decide)) gd rfl T.g_is_count T.F_is_count.kp (T.b1_is_count) (T.v1_is_count) (fun _ _ => .cons (.int _) (.nil)) rfl (sa_cons (se_var 1) (sa_nil))) rfl (by decide)) (sa_nil)))))))⟩
theorem ok_is_table (T : Tx K mg) : FnG P w K mg base CX0 3 T.f_is_table T.d_is_table ["value"] (spD K 1 m_is_table) := by
  show FnG P w K mg base CX0 (2 + 1) T.f_is_table T.d_is_table ["value"] (spD K (["value"] : List Str).length (run N_is_table.length g_is_table))
  refine dl_ok (N := N_is_table) (ps := ["value"]) (k := 2) (b := g_is_table) T.F_is_table sc_is_table (by decide) ?_
  intro cdv A outer s H E hr gd
  exact ⟨_, dl_both (sss_one (ss_ret (se_and (se_call (modes := [false]) (more := []) (ok_are_counts T) (hr.mono (by decide)) gd rfl T.g_are_counts T.F_are_counts.kp (T.b1_are_counts) .nil (fun _ _ => .nil) rfl (sa_cons (se_var 0) (sa_nil))) (se_one (se_cmp prim_cmp op_gt (nomark _) (se_callB prim_sum (cr_sum rfl) rfl T.n_sum (by decide +kernel) (sa_cons (se_var 0) (sa_nil))) (se_int))))))⟩
theorem ok_is_state (T : Tx K mg) : FnG P w K mg base CX0 4 T.f_is_state T.d_is_state ["value", "many", "states"] (spD K 3 m_is_state) := by
  show FnG P w K mg base CX0 (3 + 1) T.f_is_state T.d_is_state ["value", "many", "states"] (spD K (["value", "many", "states"] : List Str).length (run N_is_state.length g_is_state))
  refine dl_ok (N := N_is_state) (ps := ["value", "many", "states"]) (k := 3) (b := g_is_state) T.F_is_state sc_is_state (by decide) ?_
  intro cdv A outer s H E hr gd
  exact ⟨_, dl_both (sss_cons (ss_if (st_w (sw_or (st_not (st_val (se_isi tyok_tuple rfl T.n_isinstance (by decide +kernel) rfl T.n_tuple (by decide +kernel) (se_var 0)))) (sw_or1 (st_cmp prim_ne (op_neP hr.units) (nomark _) (se_callB prim_len call_lenD' rfl T.n_len (by decide +kernel) (sa_cons (se_var 0) (sa_nil))) (se_int))))) (sss_one (ss_ret (se_bl))) (sss_nil)) (sss_cons (ss_asg (se_var 0) (sg_tup rfl (sgs_cons (sg_name 3 sc_is_state.nd rfl (Or.inl rfl)) (sgs_cons (sg_name 4 sc_is_state.nd rfl (Or.inl rfl)) (sgs_nil))))) (sss_cons (ss_if (st_w (sw_or (st_not (st_val (se_call (modes := [false]) (more := []) (ok_is_table T) (hr.mono (by decide)) gd rfl T.g_is_table T.F_is_table.kp (T.b1_is_table) .nil (fun _ _ => .nil) rfl (sa_cons (se_var 3) (sa_nil))))) (sw_or (st_cmp prim_ne (op_neP hr.units) (nomark _) (se_callB prim_len call_lenD' rfl T.n_len (by decide +kernel) (sa_cons (se_var 3) (sa_nil))) (se_add (se_var 1) (se_int))) (sw_or (st_not (st_val (se_isi tyok_list rfl T.n_isinstance (by decide +kernel) rfl T.n_list (by decide +kernel) (se_var 4)))) (sw_or1 (st_cmp prim_ne (op_neP hr.units) (nomark _) (se_callB prim_len call_lenD' rfl T.n_len (by decide +kernel) (sa_cons (se_var 4) (sa_nil))) (se_var 1))))))) (sss_one (ss_ret (se_bl))) (sss_nil)) (sss_cons (ss_for PassesOwn.never rfl (si_zip rfl T.n_zip (sa_cons (se_var 3) (sa_cons (se_var 4) (sa_nil)))) (sg_tup rfl (sgs_cons (sg_name 5 sc_is_state.nd rfl (Or.inl rfl)) (sgs_cons (sg_name 6 sc_is_state.nd rfl (Or.inl rfl)) (sgs_nil)))) (sss_cons (ss_if (st_w (sw_or (st_w (sw_and (st_cmp prim_is op_isC (nomark _) (se_var 6) (se_non)) (sw_and1 (st_cmp prim_cmp op_gt (nomark _) (se_var 5) (se_int))))) (sw_or1 (st_w (sw_and (st_cmp prim_isnot op_isnotC (nomark _) (se_var 6) (se_non)) (sw_and1 (st_cmp prim_eq (op_eqP hr.units) (nomark _) (se_var 5) (se_int)))))))) (sss_one (ss_ret (se_bl))) (sss_nil)) (sss_one (ss_if (st_w (sw_and (st_cmp prim_isnot op_isnotC (nomark _) (se_var 6) (se_non)) (sw_and1 (st_not (st_w (sw_and (st_val (se_call (modes := [false]) (more := [PyData.int 0]) (ok_is_count T) (hr.mono (by decide)) gd rfl T.g_is_count T.F_is_count.kp (T.b1_is_count) (T.v1_is_count) (fun _ _ => .cons (.int _) (.nil)) rfl (sa_cons (se_var 6) (sa_nil)))) (sw_and1 (st_cmp prim_cmp op_lt (nomark _) (se_var 6) (se_var 2))))))))) (sss_one (ss_ret (se_bl))) (sss_nil))))) (sss_one (ss_ret (se_bl)))))))⟩
theorem ok_is_model (T : Tx K mg) : FnG P w K mg base CX0 5 T.f_is_model T.d_is_model ["value"] (spD K 1 m_is_model) := by
  show FnG P w K mg base CX0 (4 + 1) T.f_is_model T.d_is_model ["value"] (spD K (["value"] : List Str).length (run N_is_model.length g_is_model))
  refine dl_ok (N := N_is_model) (ps := ["value"]) (k := 4) (b := g_is_model) T.F_is_model sc_is_model (by decide) ?_
  intro cdv A outer s H E hr gd
  exact ⟨_, dl_both (sss_cons (ss_if (st_w (sw_or (st_not (st_val (se_isi tyok_tuple rfl T.n_isinstance (by decide +kernel) rfl T.n_tuple (by decide +kernel) (se_var 0)))) (sw_or (st_cmp prim_ne (op_neP hr.units) (nomark _) (se_callB prim_len call_lenD' rfl T.n_len (by decide +kernel) (sa_cons (se_var 0) (sa_nil))) (se_int)) (sw_or (st_not (st_val (se_isi tyok_str rfl T.n_isinstance (by decide +kernel) rfl T.n_str (by decide +kernel) (se_ix (se_var 0) (se_int))))) (sw_or1 (st_cmp prim_ne (op_neP hr.units) (nomark _) (se_ix (se_var 0) (se_int)) (se_str))))))) (sss_one (ss_ret (se_bl))) (sss_nil)) (sss_cons (ss_if (st_w (sw_or (st_not (st_val (se_call (modes := [false, false]) (more := []) (ok_is_count T) (hr.mono (by decide)) gd rfl T.g_is_count T.F_is_count.kp (T.b2_is_count) .nil (fun _ _ => .nil) rfl (sa_cons (se_ix (se_var 0) (se_int)) (sa_cons (se_int) (sa_nil)))))) (sw_or (st_cmp prim_cmp op_gt (nomark _) (se_ix (se_var 0) (se_int)) (se_glob (v := V.int 40) rfl T.v_MOST_PIECES.choose_spec ⟨_, rfl⟩ (fun _ _ => .int _))) (sw_or (st_not (st_val (se_isi tyok_list rfl T.n_isinstance (by decide +kernel) rfl T.n_list (by decide +kernel) (se_ix (se_var 0) (se_int))))) (sw_or1 (st_cmp prim_eq (op_eqP hr.units) (nomark _) (se_ix (se_var 0) (se_int)) (se_lst (sa_nil)))))))) (sss_one (ss_ret (se_bl))) (sss_nil)) (sss_one (ss_ret (se_callB prim_all (cr_all rfl) rfl T.n_all (by decide +kernel) (sa_cons (se_lc rfl sc_is_model.nd (si_seq (se_ix (se_var 0) (se_int))) (blkOk_by (own := [("state", 1)]) (N := N_is_model) (sc := defScope s_is_model) (by decide +kernel)) (fun _ _ _ _ _ => sg_name 1 sc_is_model.nd rfl (Or.inl rfl)) (fun _ _ _ _ _ => sts_nil) (fun _ _ _ _ _ => se_call (modes := [false, false, false]) (more := []) (ok_is_state T) (hr.mono (by decide)) gd rfl T.g_is_state T.F_is_state.kp (T.b3_is_state) .nil (fun _ _ => .nil) rfl (sa_cons (se_var 1) (sa_cons (se_ix (se_var 0) (se_int)) (sa_cons (se_callB prim_len call_lenD' rfl T.n_len (by decide +kernel) (sa_cons (se_ix (se_var 0) (se_int)) (sa_nil))) (sa_nil))))) rfl (by decide)) (sa_nil)))))))⟩
theorem ok_is_row (T : Tx K mg) : FnG P w K mg base CX0 2 T.f_is_row T.d_is_row ["value", "many"] (spD K 2 m_is_row) := by
  show FnG P w K mg base CX0 (1 + 1) T.f_is_row T.d_is_row ["value", "many"] (spD K (["value", "many"] : List Str).length (run N_is_row.length g_is_row))
  refine dl_ok (N := N_is_row) (ps := ["value", "many"]) (k := 1) (b := g_is_row) T.F_is_row sc_is_row (by decide) ?_
  intro cdv A outer s H E hr gd
  exact ⟨_, dl_both (sss_one (ss_ret (se_and (se_isi tyok_list rfl T.n_isinstance (by decide +kernel) rfl T.n_list (by decide +kernel) (se_var 0)) (se_one (se_callB prim_all (cr_all rfl) rfl T.n_all (by decide +kernel) (sa_cons (se_lc rfl sc_is_row.nd (si_seq (se_var 0)) (blkOk_by (own := [("piece", 2)]) (N := N_is_row) (sc := defScope s_is_row) (by decide +kernel)) (fun _ _ _ _ _ => sg_name 2 sc_is_row.nd rfl (Or.inl rfl)) (fun _ _ _ _ _ => sts_nil) (fun _ _ _ _ _ => se_and (se_call (modes := [false]) (more := [PyData.int 0]) (ok_is_count T) (hr.mono (by decide)) gd rfl T.g_is_count T.F_is_count.kp (T.b1_is_count) (T.v1_is_count) (fun _ _ => .cons (.int _) (.nil)) rfl (sa_cons (se_var 2) (sa_nil))) (se_one (se_cmp prim_cmp op_lt (nomark _) (se_var 2) (se_var 1)))) rfl (by decide)) (sa_nil)))))))⟩
theorem ok_is_beginning (T : Tx K mg) : FnG P w K mg base CX0 3 T.f_is_beginning T.d_is_beginning ["value", "many"] (spD K 2 m_is_beginning) := by
  show FnG P w K mg base CX0 (2 + 1) T.f_is_beginning T.d_is_beginning ["value", "many"] (spD K (["value", "many"] : List Str).length (run N_is_beginning.length g_is_beginning))
  refine dl_ok (N := N_is_beginning) (ps := ["value", "many"]) (k := 2) (b := g_is_beginning) T.F_is_beginning sc_is_beginning (by decide) ?_
  intro cdv A outer s H E hr gd
  exact ⟨_, dl_both (sss_cons (ss_if (st_w (sw_or (st_not (st_val (se_isi tyok_list rfl T.n_isinstance (by decide +kernel) rfl T.n_list (by decide +kernel) (se_var 0)))) (sw_or1 (st_not (st_val (se_call (modes := [false, false]) (more := []) (ok_is_row T) (hr.mono (by decide)) gd rfl T.g_is_row T.F_is_row.kp (T.b2_is_row) .nil (fun _ _ => .nil) rfl (sa_cons (se_slice (se_var 0) (so_none) (so_some (se_neg (se_int)))) (sa_cons (se_var 1) (sa_nil))))))))) (sss_one (ss_ret (se_bl))) (sss_nil)) (sss_one (ss_ret (se_or (se_cmp prim_eq (op_eqP hr.units) (nomark _) (se_var 0) (se_lst (sa_nil))) (se_one (se_and (se_call (modes := [false]) (more := [PyData.int 0]) (ok_is_count T) (hr.mono (by decide)) gd rfl T.g_is_count T.F_is_count.kp (T.b1_is_count) (T.v1_is_count) (fun _ _ => .cons (.int _) (.nil)) rfl (sa_cons (se_ix (se_var 0) (se_neg (se_int))) (sa_nil))) (se_one (se_cmp prim_cmp op_le (nomark _) (se_ix (se_var 0) (se_neg (se_int))) (se_var 1)))))))))⟩
theorem ok_look_at_row (T : Tx K mg) : FnG P w K mg base CX0 3 T.f_look_at_row T.d_look_at_row ["value", "many"] (spD K 2 m_look_at_row) := by
  show FnG P w K mg base CX0 (2 + 1) T.f_look_at_row T.d_look_at_row ["value", "many"] (spD K (["value", "many"] : List Str).length (run N_look_at_row.length g_look_at_row))
  refine dl_ok (N := N_look_at_row) (ps := ["value", "many"]) (k := 2) (b := g_look_at_row) T.F_look_at_row sc_look_at_row (by decide) ?_
  intro cdv A outer s H E hr gd
  exact ⟨_, dl_both (sss_one (ss_if (st_not (st_val (se_call (modes := [false, false]) (more := []) (ok_is_row T) (hr.mono (by decide)) gd rfl T.g_is_row T.F_is_row.kp (T.b2_is_row) .nil (fun _ _ => .nil) rfl (sa_cons (se_var 0) (sa_cons (se_var 1) (sa_nil)))))) (sss_never) (sss_nil)))⟩
theorem ok_led (T : Tx K mg) : FnG P w K mg base CX0 1 T.f_led T.d_led ["model", "row"] (spD K 2 m_led) := by
  show FnG P w K mg base CX0 (0 + 1) T.f_led T.d_led ["model", "row"] (spD K (["model", "row"] : List Str).length (run N_led.length g_led))
  refine dl_ok (N := N_led) (ps := ["model", "row"]) (k := 0) (b := g_led) T.F_led sc_led (by decide) ?_
  intro cdv A outer s H E hr gd
  exact ⟨_, dl_both (sss_cons (ss_set 2 sc_led.nd rfl (Or.inl rfl) (se_int)) (sss_cons (ss_for PassesOwn.never rfl (si_seq (se_var 1)) (sg_name 3 sc_led.nd rfl (Or.inl rfl)) (sss_one (ss_set 2 sc_led.nd rfl (Or.inl rfl) (se_if (st_cmp prim_is op_isC (nomark _) (se_var 2) (se_non)) (se_non) (se_ix (se_ix (se_ix (se_ix (se_var 0) (se_int)) (se_var 2)) (se_int)) (se_var 3)))))) (sss_one (ss_ret (se_var 2)))))⟩
theorem ok_odds_along (T : Tx K mg) : FnG P w K mg base CX0 4 T.f_odds_along T.d_odds_along ["model", "beginning"] (spD K 2 m_odds_along) := by
  show FnG P w K mg base CX0 (3 + 1) T.f_odds_along T.d_odds_along ["model", "beginning"] (spD K (["model", "beginning"] : List Str).length (run N_odds_along.length g_odds_along))
  refine dl_ok (N := N_odds_along) (ps := ["model", "beginning"]) (k := 3) (b := g_odds_along) T.F_odds_along sc_odds_along (by decide) ?_
  intro cdv A outer s H E hr gd
  exact ⟨_, dl_both (sss_cons (ss_asg (se_tup (sa_cons (se_tup (sa_cons (se_int) (sa_cons (se_int) (sa_nil)))) (sa_cons (se_int) (sa_nil)))) (sg_tup rfl (sgs_cons (sg_name 2 sc_odds_along.nd rfl (Or.inl rfl)) (sgs_cons (sg_name 3 sc_odds_along.nd rfl (Or.inl rfl)) (sgs_nil))))) (sss_cons (ss_for PassesOwn.never rfl (si_seq (se_var 1)) (sg_name 4 sc_odds_along.nd rfl (Or.inl rfl)) (sss_cons (ss_if (st_cmp prim_is op_isC (nomark _) (se_var 3) (se_non)) (sss_one (ss_ret (se_tup (sa_cons (se_int) (sa_cons (se_int) (sa_nil)))))) (sss_nil)) (sss_cons (ss_asg (se_ix (se_ix (se_var 0) (se_int)) (se_var 3)) (sg_tup rfl (sgs_cons (sg_name 5 sc_odds_along.nd rfl (Or.inl rfl)) (sgs_cons (sg_name 6 sc_odds_along.nd rfl (Or.inl rfl)) (sgs_nil))))) (sss_cons (ss_set 2 sc_odds_along.nd rfl (Or.inl rfl) (se_call (modes := [false, false]) (more := []) (ok_times T) (hr.mono (by decide)) gd rfl T.g_times T.F_times.kp (T.b2_times) .nil (fun _ _ => .nil) rfl (sa_cons (se_var 2) (sa_cons (se_call (modes := [false, false]) (more := []) (ok_by_lowest T) (hr.mono (by decide)) gd rfl T.g_by_lowest T.F_by_lowest.kp (T.b2_by_lowest) .nil (fun _ _ => .nil) rfl (sa_cons (se_ix (se_var 5) (se_var 4)) (sa_cons (se_callB prim_sum (cr_sum rfl) rfl T.n_sum (by decide +kernel) (sa_cons (se_var 5) (sa_nil))) (sa_nil)))) (sa_nil))))) (sss_one (ss_set 3 sc_odds_along.nd rfl (Or.inl rfl) (se_if (st_cmp prim_eq (op_eqP hr.units) (nomark _) (se_var 4) (se_ix (se_var 0) (se_int))) (se_non) (se_ix (se_var 6) (se_var 4))))))))) (sss_one (ss_ret (se_var 2)))))⟩
theorem ok_is_choice (T : Tx K mg) : FnG P w K mg base CX0 6 T.f_is_choice T.d_is_choice ["value"] (spD K 1 m_is_choice) := by
  show FnG P w K mg base CX0 (5 + 1) T.f_is_choice T.d_is_choice ["value"] (spD K (["value"] : List Str).length (run N_is_choice.length g_is_choice))
  refine dl_ok (N := N_is_choice) (ps := ["value"]) (k := 5) (b := g_is_choice) T.F_is_choice sc_is_choice (by decide) ?_
  intro cdv A outer s H E hr gd
  exact ⟨_, dl_both (sss_one (ss_ret (se_and (se_isi tyok_tuple rfl T.n_isinstance (by decide +kernel) rfl T.n_tuple (by decide +kernel) (se_var 0)) (se_and (se_cmp prim_eq (op_eqP hr.units) (nomark _) (se_callB prim_len call_lenD' rfl T.n_len (by decide +kernel) (sa_cons (se_var 0) (sa_nil))) (se_int)) (se_and (se_call (modes := [false, false]) (more := []) (ok_is_count T) (hr.mono (by decide)) gd rfl T.g_is_count T.F_is_count.kp (T.b2_is_count) .nil (fun _ _ => .nil) rfl (sa_cons (se_ix (se_var 0) (se_int)) (sa_cons (se_int) (sa_nil)))) (se_one (se_call (modes := [false]) (more := []) (ok_is_model T) (hr.mono (by decide)) gd rfl T.g_is_model T.F_is_model.kp (T.b1_is_model) .nil (fun _ _ => .nil) rfl (sa_cons (se_ix (se_var 0) (se_int)) (sa_nil)))))))))⟩
theorem ok_is_hidden (T : Tx K mg) : FnG P w K mg base CX0 7 T.f_is_hidden T.d_is_hidden ["value"] (spD K 1 m_is_hidden) := by
  show FnG P w K mg base CX0 (6 + 1) T.f_is_hidden T.d_is_hidden ["value"] (spD K (["value"] : List Str).length (run N_is_hidden.length g_is_hidden))
  refine dl_ok (N := N_is_hidden) (ps := ["value"]) (k := 6) (b := g_is_hidden) T.F_is_hidden sc_is_hidden (by decide) ?_
  intro cdv A outer s H E hr gd
  exact ⟨_, dl_both (sss_cons (ss_if (st_w (sw_or (st_not (st_val (se_isi tyok_list rfl T.n_isinstance (by decide +kernel) rfl T.n_list (by decide +kernel) (se_var 0)))) (sw_or (st_cmp prim_eq (op_eqP hr.units) (nomark _) (se_var 0) (se_lst (sa_nil))) (sw_or1 (st_not (st_val (se_callB prim_all (cr_all rfl) rfl T.n_all (by decide +kernel) (sa_cons (se_lc rfl sc_is_hidden.nd (si_seq (se_var 0)) (blkOk_by (own := [("one", 3)]) (N := N_is_hidden) (sc := defScope s_is_hidden) (by decide +kernel)) (fun _ _ _ _ _ => sg_name 3 sc_is_hidden.nd rfl (Or.inl rfl)) (fun _ _ _ _ _ => sts_nil) (fun _ _ _ _ _ => se_call (modes := [false]) (more := []) (ok_is_choice T) (hr.mono (by decide)) gd rfl T.g_is_choice T.F_is_choice.kp (T.b1_is_choice) .nil (fun _ _ => .nil) rfl (sa_cons (se_var 3) (sa_nil))) rfl (by decide)) (sa_nil))))))))) (sss_one (ss_ret (se_bl))) (sss_nil)) (sss_one (ss_ret (se_callB prim_all (cr_all rfl) rfl T.n_all (by decide +kernel) (sa_cons (se_lc rfl sc_is_hidden.nd (si_seq (se_var 0)) (blkOk_by (own := [("weight", 1), ("model", 2)]) (N := N_is_hidden) (sc := defScope s_is_hidden) (by decide +kernel)) (fun _ _ _ _ _ => sg_tup rfl (sgs_cons (sg_name 1 sc_is_hidden.nd rfl (Or.inl rfl)) (sgs_cons (sg_name 2 sc_is_hidden.nd rfl (Or.inl rfl)) (sgs_nil)))) (fun _ _ _ _ _ => sts_nil) (fun _ _ _ _ _ => se_cmp prim_eq (op_eqP hr.units) (nomark _) (se_ix (se_var 2) (se_int)) (se_ix (se_ix (se_ix (se_var 0) (se_int)) (se_int)) (se_int))) rfl (by decide)) (sa_nil))))))⟩
theorem ok_look_at_hidden (T : Tx K mg) : FnG P w K mg base CX0 8 T.f_look_at_hidden T.d_look_at_hidden ["value"] (spD K 1 m_look_at_hidden) := by
  show FnG P w K mg base CX0 (7 + 1) T.f_look_at_hidden T.d_look_at_hidden ["value"] (spD K (["value"] : List Str).length (run N_look_at_hidden.length g_look_at_hidden))
  refine dl_ok (N := N_look_at_hidden) (ps := ["value"]) (k := 7) (b := g_look_at_hidden) T.F_look_at_hidden sc_look_at_hidden (by decide) ?_
  intro cdv A outer s H E hr gd
  exact ⟨_, dl_both (sss_one (ss_if (st_not (st_val (se_call (modes := [false]) (more := []) (ok_is_hidden T) (hr.mono (by decide)) gd rfl T.g_is_hidden T.F_is_hidden.kp (T.b1_is_hidden) .nil (fun _ _ => .nil) rfl (sa_cons (se_var 0) (sa_nil))))) (sss_never) (sss_nil)))⟩
theorem ok_parts (T : Tx K mg) : FnG P w K mg base CX0 5 T.f_parts T.d_parts ["hidden", "beginning"] (spD K 2 m_parts) := by
  show FnG P w K mg base CX0 (4 + 1) T.f_parts T.d_parts ["hidden", "beginning"] (spD K (["hidden", "beginning"] : List Str).length (run N_parts.length g_parts))
  refine dl_ok (N := N_parts) (ps := ["hidden", "beginning"]) (k := 4) (b := g_parts) T.F_parts sc_parts (by decide) ?_
  intro cdv A outer s H E hr gd
  exact ⟨_, dl_both (sss_cons (ss_set 2 sc_parts.nd rfl (Or.inr rfl) (se_callB prim_sum (cr_sum rfl) rfl T.n_sum (by decide +kernel) (sa_cons (se_lc rfl sc_parts.nd (si_seq (se_var 0)) (blkOk_by (own := [("weight", 3), ("model", 4)]) (N := N_parts) (sc := defScope s_parts) (by decide +kernel)) (fun _ _ _ _ _ => sg_tup rfl (sgs_cons (sg_name 3 sc_parts.nd rfl (Or.inl rfl)) (sgs_cons (sg_name 4 sc_parts.nd rfl (Or.inl rfl)) (sgs_nil)))) (fun _ _ _ _ _ => sts_nil) (fun _ _ _ _ _ => se_var 3) rfl (by decide)) (sa_nil)))) (sss_one (ss_ret (se_lc rfl sc_parts.nd (si_seq (se_var 0)) (blkOk_by (own := [("weight", 3), ("model", 4)]) (N := N_parts) (sc := defScope s_parts) (by decide +kernel)) (fun _ _ _ _ _ => sg_tup rfl (sgs_cons (sg_name 3 sc_parts.nd rfl (Or.inl rfl)) (sgs_cons (sg_name 4 sc_parts.nd rfl (Or.inl rfl)) (sgs_nil)))) (fun _ _ _ _ _ => sts_nil) (fun _ _ _ _ _ => se_call (modes := [false, false]) (more := []) (ok_times T) (hr.mono (by decide)) gd rfl T.g_times T.F_times.kp (T.b2_times) .nil (fun _ _ => .nil) rfl (sa_cons (se_call (modes := [false, false]) (more := []) (ok_by_lowest T) (hr.mono (by decide)) gd rfl T.g_by_lowest T.F_by_lowest.kp (T.b2_by_lowest) .nil (fun _ _ => .nil) rfl (sa_cons (se_var 3) (sa_cons (se_var 2) (sa_nil)))) (sa_cons (se_call (modes := [false, false]) (more := []) (ok_odds_along T) (hr.mono (by decide)) gd rfl T.g_odds_along T.F_odds_along.kp (T.b2_odds_along) .nil (fun _ _ => .nil) rfl (sa_cons (se_var 4) (sa_cons (se_var 1) (sa_nil)))) (sa_nil)))) rfl (by decide)))))⟩
theorem ok_hidden_odds (T : Tx K mg) : FnG P w K mg base CX0 9 T.f_hidden_odds T.d_hidden_odds ["hidden", "beginning"] (spD K 2 m_hidden_odds) := by
  show FnG P w K mg base CX0 (8 + 1) T.f_hidden_odds T.d_hidden_odds ["hidden", "beginning"] (spD K (["hidden", "beginning"] : List Str).length (run N_hidden_odds.length g_hidden_odds))
  refine dl_ok (N := N_hidden_odds) (ps := ["hidden", "beginning"]) (k := 8) (b := g_hidden_odds) T.F_hidden_odds sc_hidden_odds (by decide) ?_
  intro cdv A outer s H E hr gd
  exact ⟨_, dl_both (sss_cons (ss_drop (se_call (modes := [false]) (more := []) (ok_look_at_hidden T) (hr.mono (by decide)) gd rfl T.g_look_at_hidden T.F_look_at_hidden.kp (T.b1_look_at_hidden) .nil (fun _ _ => .nil) rfl (sa_cons (se_var 0) (sa_nil)))) (sss_cons (ss_if (st_not (st_val (se_call (modes := [false, false]) (more := []) (ok_is_beginning T) (hr.mono (by decide)) gd rfl T.g_is_beginning T.F_is_beginning.kp (T.b2_is_beginning) .nil (fun _ _ => .nil) rfl (sa_cons (se_var 1) (sa_cons (se_ix (se_ix (se_ix (se_var 0) (se_int)) (se_int)) (se_int)) (sa_nil)))))) (sss_never) (sss_nil)) (sss_one (ss_ret (se_call (modes := [false]) (more := []) (ok_total T) (hr.mono (by decide)) gd rfl T.g_total T.F_total.kp (T.b1_total) .nil (fun _ _ => .nil) rfl (sa_cons (se_call (modes := [false, false]) (more := []) (ok_parts T) (hr.mono (by decide)) gd rfl T.g_parts T.F_parts.kp (T.b2_parts) .nil (fun _ _ => .nil) rfl (sa_cons (se_var 0) (sa_cons (se_var 1) (sa_nil)))) (sa_nil)))))))⟩
theorem ok_believed (T : Tx K mg) : FnG P w K mg base CX0 6 T.f_believed T.d_believed ["hidden", "row"] (spD K 2 m_believed) := by
  show FnG P w K mg base CX0 (5 + 1) T.f_believed T.d_believed ["hidden", "row"] (spD K (["hidden", "row"] : List Str).length (run N_believed.length g_believed))
  refine dl_ok (N := N_believed) (ps := ["hidden", "row"]) (k := 5) (b := g_believed) T.F_believed sc_believed (by decide) ?_
  intro cdv A outer s H E hr gd
  exact ⟨_, dl_both (sss_cons (ss_drop (se_call (modes := [false, false]) (more := []) (ok_look_at_row T) (hr.mono (by decide)) gd rfl T.g_look_at_row T.F_look_at_row.kp (T.b2_look_at_row) .nil (fun _ _ => .nil) rfl (sa_cons (se_var 1) (sa_cons (se_ix (se_ix (se_ix (se_var 0) (se_int)) (se_int)) (se_int)) (sa_nil))))) (sss_cons (ss_set 2 sc_believed.nd rfl (Or.inr rfl) (se_call (modes := [false, false]) (more := []) (ok_parts T) (hr.mono (by decide)) gd rfl T.g_parts T.F_parts.kp (T.b2_parts) .nil (fun _ _ => .nil) rfl (sa_cons (se_var 0) (sa_cons (se_var 1) (sa_nil))))) (sss_cons (ss_if (st_cmp prim_eq (op_eqP hr.units) (nomark _) (se_call (modes := [false]) (more := []) (ok_total T) (hr.mono (by decide)) gd rfl T.g_total T.F_total.kp (T.b1_total) .nil (fun _ _ => .nil) rfl (sa_cons (se_var 2) (sa_nil))) (se_tup (sa_cons (se_int) (sa_cons (se_int) (sa_nil))))) (sss_never) (sss_nil)) (sss_one (ss_ret (se_lc rfl sc_believed.nd (si_seq (se_var 2)) (blkOk_by (own := [("one", 3)]) (N := N_believed) (sc := defScope s_believed) (by decide +kernel)) (fun _ _ _ _ _ => sg_name 3 sc_believed.nd rfl (Or.inl rfl)) (fun _ _ _ _ _ => sts_nil) (fun _ _ _ _ _ => se_call (modes := [false, false]) (more := []) (ok_shared T) (hr.mono (by decide)) gd rfl T.g_shared T.F_shared.kp (T.b2_shared) .nil (fun _ _ => .nil) rfl (sa_cons (se_var 3) (sa_cons (se_call (modes := [false]) (more := []) (ok_total T) (hr.mono (by decide)) gd rfl T.g_total T.F_total.kp (T.b1_total) .nil (fun _ _ => .nil) rfl (sa_cons (se_var 2) (sa_nil))) (sa_nil)))) rfl (by decide)))))))⟩
theorem ok_belief (T : Tx K mg) : FnG P w K mg base CX0 9 T.f_belief T.d_belief ["hidden", "row"] (spD K 2 m_belief) := by
  show FnG P w K mg base CX0 (8 + 1) T.f_belief T.d_belief ["hidden", "row"] (spD K (["hidden", "row"] : List Str).length (run N_belief.length g_belief))
  refine dl_ok (N := N_belief) (ps := ["hidden", "row"]) (k := 8) (b := g_belief) T.F_belief sc_belief (by decide) ?_
  intro cdv A outer s H E hr gd
  exact ⟨_, dl_both (sss_cons (ss_drop (se_call (modes := [false]) (more := []) (ok_look_at_hidden T) (hr.mono (by decide)) gd rfl T.g_look_at_hidden T.F_look_at_hidden.kp (T.b1_look_at_hidden) .nil (fun _ _ => .nil) rfl (sa_cons (se_var 0) (sa_nil)))) (sss_one (ss_ret (se_call (modes := [false, false]) (more := []) (ok_believed T) (hr.mono (by decide)) gd rfl T.g_believed T.F_believed.kp (T.b2_believed) .nil (fun _ _ => .nil) rfl (sa_cons (se_var 0) (sa_cons (se_var 1) (sa_nil)))))))⟩
theorem ok_next_odds (T : Tx K mg) : FnG P w K mg base CX0 9 T.f_next_odds T.d_next_odds ["hidden", "row"] (spD K 2 m_next_odds) := by
  show FnG P w K mg base CX0 (8 + 1) T.f_next_odds T.d_next_odds ["hidden", "row"] (spD K (["hidden", "row"] : List Str).length (run N_next_odds.length g_next_odds))
  refine dl_ok (N := N_next_odds) (ps := ["hidden", "row"]) (k := 8) (b := g_next_odds) T.F_next_odds sc_next_odds (by decide) ?_
  intro cdv A outer s H E hr gd
  exact ⟨_, dl_both (sss_cons (ss_drop (se_call (modes := [false]) (more := []) (ok_look_at_hidden T) (hr.mono (by decide)) gd rfl T.g_look_at_hidden T.F_look_at_hidden.kp (T.b1_look_at_hidden) .nil (fun _ _ => .nil) rfl (sa_cons (se_var 0) (sa_nil)))) (sss_cons (ss_setLc 2 rfl sc_next_odds.nd rfl rfl (sw_true rfl rfl rfl (by decide +kernel)) (si_zip rfl T.n_zip (sa_cons (se_call (modes := [false, false]) (more := []) (ok_believed T) (hr.mono (by decide)) gd rfl T.g_believed T.F_believed.kp (T.b2_believed) .nil (fun _ _ => .nil) rfl (sa_cons (se_var 0) (sa_cons (se_var 1) (sa_nil)))) (sa_cons (se_var 0) (sa_nil)))) (blkOk_by (own := [("odds", 5), ("weight", 6), ("model", 7)]) (N := N_next_odds) (sc := defScope s_next_odds) (by decide +kernel)) (fun _ _ _ _ _ => sg_tup rfl (sgs_cons (sg_name 5 sc_next_odds.nd rfl (Or.inl rfl)) (sgs_cons (sg_tup rfl (sgs_cons (sg_name 6 sc_next_odds.nd rfl (Or.inl rfl)) (sgs_cons (sg_name 7 sc_next_odds.nd rfl (Or.inl rfl)) (sgs_nil)))) (sgs_nil)))) (fun _ _ _ _ _ => sts_nil) (fun _ _ _ _ _ => se_tup (sa_cons (se_var 5) (sa_cons (se_var 7) (sa_cons (se_call (modes := [false, false]) (more := []) (ok_led T) (hr.mono (by decide)) gd rfl T.g_led T.F_led.kp (T.b2_led) .nil (fun _ _ => .nil) rfl (sa_cons (se_var 7) (sa_cons (se_var 1) (sa_nil)))) (sa_nil))))) rfl (by decide)) (sss_cons (ss_setLc 2 rfl sc_next_odds.nd rfl rfl (sw_true rfl rfl rfl (by decide +kernel)) (si_seq (se_var 2)) (blkOk_by (own := [("odds", 5), ("model", 7), ("state", 8)]) (N := N_next_odds) (sc := defScope s_next_odds) (by decide +kernel)) (fun _ _ _ _ _ => sg_tup rfl (sgs_cons (sg_name 5 sc_next_odds.nd rfl (Or.inl rfl)) (sgs_cons (sg_name 7 sc_next_odds.nd rfl (Or.inl rfl)) (sgs_cons (sg_name 8 sc_next_odds.nd rfl (Or.inl rfl)) (sgs_nil))))) (fun _ _ _ _ _ => sts_one (st_cmp prim_isnot op_isnotC (nomark _) (se_var 8) (se_non))) (fun _ _ _ _ _ => se_tup (sa_cons (se_var 5) (sa_cons (se_ix (se_ix (se_ix (se_var 7) (se_int)) (se_var 8)) (se_int)) (sa_nil)))) rfl (by decide)) (sss_cons (ss_set 3 sc_next_odds.nd rfl (Or.inl rfl) (se_lst (sa_nil))) (sss_cons (ss_for PassesOwn.never rfl (si_range1 rfl T.n_range (sa_cons (se_add (se_ix (se_ix (se_ix (se_var 0) (se_int)) (se_int)) (se_int)) (se_int)) (sa_nil))) (sg_name 4 sc_next_odds.nd rfl (Or.inr rfl)) (sss_one (ss_append 3 (fun h => pe_bm PySem.F.plainAttrs_list PySem.F.slot_list_append PySem.F.type_list_append mt_append (pv 3) (pa_cons h pa_nil)) (se_call (modes := [false]) (more := []) (ok_total T) (hr.mono (by decide)) gd rfl T.g_total T.F_total.kp (T.b1_total) .nil (fun _ _ => .nil) rfl (sa_cons (se_lc rfl sc_next_odds.nd (si_seq (se_var 2)) (blkOk_by (own := [("odds", 5), ("table", 9)]) (N := N_next_odds) (sc := defScope s_next_odds) (by decide +kernel)) (fun _ _ _ _ _ => sg_tup rfl (sgs_cons (sg_name 5 sc_next_odds.nd rfl (Or.inl rfl)) (sgs_cons (sg_name 9 sc_next_odds.nd rfl (Or.inl rfl)) (sgs_nil)))) (fun _ _ _ _ _ => sts_nil) (fun _ _ _ _ _ => se_call (modes := [false, false]) (more := []) (ok_times T) (hr.mono (by decide)) gd rfl T.g_times T.F_times.kp (T.b2_times) .nil (fun _ _ => .nil) rfl (sa_cons (se_var 5) (sa_cons (se_call (modes := [false, false]) (more := []) (ok_by_lowest T) (hr.mono (by decide)) gd rfl T.g_by_lowest T.F_by_lowest.kp (T.b2_by_lowest) .nil (fun _ _ => .nil) rfl (sa_cons (se_ix (se_var 9) (se_var 4)) (sa_cons (se_callB prim_sum (cr_sum rfl) rfl T.n_sum (by decide +kernel) (sa_cons (se_var 9) (sa_nil))) (sa_nil)))) (sa_nil)))) rfl (by decide)) (sa_nil)))))) (sss_one (ss_ret (se_var 3))))))))⟩
theorem ok__law_draw (T : Tx K mg) : FnG P w K mg base CX0 1 T.f__law_draw T.d__law_draw ["purse", "many"] (spD K 2 m__law_draw) := by
  show FnG P w K mg base CX0 (0 + 1) T.f__law_draw T.d__law_draw ["purse", "many"] (spD K (["purse", "many"] : List Str).length (run N__law_draw.length g__law_draw))
  refine dl_ok (N := N__law_draw) (ps := ["purse", "many"]) (k := 0) (b := g__law_draw) T.F__law_draw sc__law_draw (by decide) ?_
  intro cdv A outer s H E hr gd
  exact ⟨_, dl_both (sss_cons (ss_if (st_w (sw_and (st_cmp prim_cmp op_lt (nomark _) (se_ix (se_var 0) (se_int)) (se_var 1)) (sw_and1 (st_cmp prim_cmp op_lt (nomark _) (se_ix (se_var 0) (se_int)) (se_callB prim_len call_lenD' rfl T.n_len (by decide +kernel) (sa_cons (se_ix (se_var 0) (se_int)) (sa_nil))))))) (sss_cons (ss_setIx 0 (pv 0) (se_int) (se_ix (se_ix (se_var 0) (se_int)) (se_ix (se_var 0) (se_int)))) (sss_one (ss_augIx 0 prim_addI ip_add (pv 0) (se_int) (se_int)))) (sss_nil)) (sss_cons (ss_if (st_cmp prim_cmp op_ge (nomark _) (se_ix (se_var 0) (se_int)) (se_var 1)) (sss_cons (ss_set 2 sc__law_draw.nd rfl (Or.inl rfl) (se_mod (se_callTy prim_int call_int1 rfl T.n_int (by decide +kernel) (sa_cons (se_ix (se_var 0) (se_int)) (sa_nil))) (se_var 1))) (sss_cons (ss_setIx 0 (pv 0) (se_int) (se_div (se_ix (se_var 0) (se_int)) (se_var 1))) (sss_one (ss_ret (se_var 2))))) (sss_nil)) (sss_cons (ss_augIx 0 prim_addI ip_add (pv 0) (se_int) (se_int)) (sss_cons (ss_set 3 sc__law_draw.nd rfl (Or.inl rfl) (se_mod (se_callTy prim_int call_int1 rfl T.n_int (by decide +kernel) (sa_cons (se_mul (se_add (se_mul (se_ix (se_var 0) (se_int)) (se_ix (se_var 0) (se_int))) (se_ix (se_var 0) (se_int))) (se_int)) (sa_nil))) (se_int))) (sss_one (ss_ret (se_mod (se_callTy prim_int call_int1 rfl T.n_int (by decide +kernel) (sa_cons (se_mod (se_callTy prim_int call_int1 rfl T.n_int (by decide +kernel) (sa_cons (se_mul (se_var 3) (se_var 3)) (sa_nil))) (se_int)) (sa_nil))) (se_var 1))))))))⟩
theorem ok__law_bents (T : Tx K mg) : FnG P w K mg base CX0 2 T.f__law_bents T.d__law_bents ["purse", "hidden"] (spD K 2 m__law_bents) := by
  show FnG P w K mg base CX0 (1 + 1) T.f__law_bents T.d__law_bents ["purse", "hidden"] (spD K (["purse", "hidden"] : List Str).length (run N__law_bents.length g__law_bents))
  refine dl_ok (N := N__law_bents) (ps := ["purse", "hidden"]) (k := 1) (b := g__law_bents) T.F__law_bents sc__law_bents (by decide) ?_
  intro cdv A outer s H E hr gd
  exact ⟨_, dl_both (sss_cons (ss_set 2 sc__law_bents.nd rfl (Or.inr rfl) (se_call (modes := [true, false]) (more := []) (ok__law_draw T) (hr.mono (by decide)) gd rfl T.g__law_draw T.F__law_draw.kp (T.b2__law_draw) .nil (fun _ _ => .nil) rfl (sa_cons (se_var 0) (sa_cons (se_callB prim_len call_lenD' rfl T.n_len (by decide +kernel) (sa_cons (se_var 1) (sa_nil))) (sa_nil))))) (sss_cons (ss_asg (se_ix (se_var 1) (se_var 2)) (sg_tup rfl (sgs_cons (sg_name 3 sc__law_bents.nd rfl (Or.inl rfl)) (sgs_cons (sg_name 4 sc__law_bents.nd rfl (Or.inl rfl)) (sgs_nil))))) (sss_cons (ss_set 5 sc__law_bents.nd rfl (Or.inl rfl) (se_tup (sa_cons (se_str) (sa_cons (se_add (se_ix (se_var 4) (se_int)) (se_int)) (sa_cons (se_lst (sa_cons (se_tup (sa_cons (se_mul (se_lst (sa_cons (se_int) (sa_nil))) (se_add (se_ix (se_var 4) (se_int)) (se_int))) (sa_cons (se_mul (se_lst (sa_cons (se_int) (sa_nil))) (se_add (se_ix (se_var 4) (se_int)) (se_int))) (sa_nil)))) (sa_nil))) (sa_nil)))))) (sss_cons (ss_set 6 sc__law_bents.nd rfl (Or.inl rfl) (se_lst (sa_cons (se_non) (sa_cons (se_tup (sa_cons (se_int) (sa_cons (se_var 4) (sa_nil)))) (sa_cons (se_tup (sa_cons (se_sub (se_int) (se_int)) (sa_cons (se_var 4) (sa_nil)))) (sa_cons (se_tup (sa_cons (se_bl) (sa_cons (se_var 4) (sa_nil)))) (sa_cons (se_tup (sa_cons (se_str) (sa_cons (se_var 4) (sa_nil)))) (sa_cons (se_tup (sa_cons (se_var 3) (sa_nil))) (sa_cons (se_tup (sa_cons (se_var 3) (sa_cons (se_var 4) (sa_cons (se_int) (sa_nil))))) (sa_cons (se_lst (sa_cons (se_var 3) (sa_cons (se_var 4) (sa_nil)))) (sa_cons (se_tup (sa_cons (se_var 3) (sa_cons (se_non) (sa_nil)))) (sa_cons (se_tup (sa_cons (se_var 3) (sa_cons (se_callTy prim_list call_list_of rfl T.n_list (by decide +kernel) (sa_cons (se_var 4) (sa_nil))) (sa_nil)))) (sa_cons (se_tup (sa_cons (se_var 3) (sa_cons (se_sliceT (se_var 4) (so_none) (so_some (se_int))) (sa_nil)))) (sa_nil)))))))))))))) (sss_cons (ss_set 6 sc__law_bents.nd rfl (Or.inl rfl) (se_add (se_var 6) (se_lst (sa_cons (se_tup (sa_cons (se_var 3) (sa_cons (se_tup (sa_cons (se_ix (se_var 4) (se_int)) (sa_cons (se_ix (se_var 4) (se_int)) (sa_cons (se_lst (sa_nil)) (sa_nil))))) (sa_nil)))) (sa_cons (se_tup (sa_cons (se_var 3) (sa_cons (se_tup (sa_cons (se_ix (se_var 4) (se_int)) (sa_cons (se_ix (se_var 4) (se_int)) (sa_cons (se_lst (sa_cons (se_tup (sa_cons (se_ix (se_ix (se_ix (se_var 4) (se_int)) (se_int)) (se_int)) (sa_cons (se_mul (se_lst (sa_cons (se_non) (sa_nil))) (se_ix (se_var 4) (se_int))) (sa_nil)))) (sa_nil))) (sa_nil))))) (sa_nil)))) (sa_cons (se_tup (sa_cons (se_var 3) (sa_cons (se_tup (sa_cons (se_ix (se_var 4) (se_int)) (sa_cons (se_ix (se_var 4) (se_int)) (sa_cons (se_add (se_ix (se_var 4) (se_int)) (se_lst (sa_cons (se_non) (sa_nil)))) (sa_nil))))) (sa_nil)))) (sa_nil))))))) (sss_cons (ss_set 6 sc__law_bents.nd rfl (Or.inl rfl) (se_add (se_var 6) (se_lst (sa_cons (se_tup (sa_cons (se_var 3) (sa_cons (se_tup (sa_cons (se_ix (se_var 4) (se_int)) (sa_cons (se_ix (se_var 4) (se_int)) (sa_cons (se_lst (sa_cons (se_tup (sa_cons (se_mul (se_lst (sa_cons (se_int) (sa_nil))) (se_add (se_ix (se_var 4) (se_int)) (se_int))) (sa_cons (se_mul (se_lst (sa_cons (se_non) (sa_nil))) (se_ix (se_var 4) (se_int))) (sa_nil)))) (sa_nil))) (sa_nil))))) (sa_nil)))) (sa_cons (se_tup (sa_cons (se_var 3) (sa_cons (se_tup (sa_cons (se_ix (se_var 4) (se_int)) (sa_cons (se_ix (se_var 4) (se_int)) (sa_cons (se_add (se_ix (se_var 4) (se_int)) (se_lst (sa_cons (se_tup (sa_cons (se_slice (se_ix (se_ix (se_ix (se_var 4) (se_int)) (se_int)) (se_int)) (so_some (se_int)) (so_none)) (sa_cons (se_ix (se_ix (se_ix (se_var 4) (se_int)) (se_int)) (se_int)) (sa_nil)))) (sa_nil)))) (sa_nil))))) (sa_nil)))) (sa_nil)))))) (sss_cons (ss_set 7 sc__law_bents.nd rfl (Or.inl rfl) (se_lst (sa_cons (se_lst (sa_nil)) (sa_cons (se_non) (sa_cons (se_ix (se_var 1) (se_int)) (sa_cons (se_callTy prim_tuple call_tupleC rfl T.n_tuple (by decide +kernel) (sa_cons (se_var 1) (sa_nil))) (sa_cons (se_add (se_var 1) (se_lst (sa_cons (se_tup (sa_cons (se_int) (sa_cons (se_var 5) (sa_nil)))) (sa_nil)))) (sa_cons (se_lst (sa_cons (se_tup (sa_cons (se_int) (sa_cons (se_var 5) (sa_nil)))) (sa_nil))) (sa_cons (se_slice (se_add (se_var 1) (se_var 1)) (so_none) (so_some (se_int))) (sa_cons (se_rev (se_var 1)) (sa_cons (se_str) (sa_cons (se_dict0) (sa_nil))))))))))))) (sss_one (ss_ret (se_add (se_var 7) (se_lc rfl sc__law_bents.nd (si_seq (se_var 6)) (blkOk_by (own := [("one", 8)]) (N := N__law_bents) (sc := defScope s__law_bents) (by decide +kernel)) (fun _ _ _ _ _ => sg_name 8 sc__law_bents.nd rfl (Or.inl rfl)) (fun _ _ _ _ _ => sts_nil) (fun _ _ _ _ _ => se_add (se_add (se_slice (se_var 1) (so_none) (so_some (se_var 2))) (se_lst (sa_cons (se_var 8) (sa_nil)))) (se_slice (se_var 1) (so_some (se_add (se_var 2) (se_int))) (so_none))) rfl (by decide))))))))))))⟩
theorem ok__law_is_whole (T : Tx K mg) : FnG P w K mg base CX0 1 T.f__law_is_whole T.d__law_is_whole ["value", "least", "most"] (spD K 3 m__law_is_whole) := by
  show FnG P w K mg base CX0 (0 + 1) T.f__law_is_whole T.d__law_is_whole ["value", "least", "most"] (spD K (["value", "least", "most"] : List Str).length (run N__law_is_whole.length g__law_is_whole))
  refine dl_ok (N := N__law_is_whole) (ps := ["value", "least", "most"]) (k := 0) (b := g__law_is_whole) T.F__law_is_whole sc__law_is_whole (by decide) ?_
  intro cdv A outer s H E hr gd
  exact ⟨_, dl_both (sss_one (ss_ret (se_and (se_isi tyok_int rfl T.n_isinstance (by decide +kernel) rfl T.n_int (by decide +kernel) (se_var 0)) (se_and (se_not (se_isi tyok_bool rfl T.n_isinstance (by decide +kernel) rfl T.n_bool (by decide +kernel) (se_var 0))) (se_and (se_cmp prim_cmp op_le (nomark _) (se_var 1) (se_var 0)) (se_one (se_or (se_cmp prim_is op_isC (nomark _) (se_var 2) (se_non)) (se_one (se_cmp prim_cmp op_le (nomark _) (se_var 0) (se_var 2))))))))))⟩
theorem ok__law_is_model (T : Tx K mg) : FnG P w K mg base CX0 2 T.f__law_is_model T.d__law_is_model ["value"] (spD K 1 m__law_is_model) := by
  show FnG P w K mg base CX0 (1 + 1) T.f__law_is_model T.d__law_is_model ["value"] (spD K (["value"] : List Str).length (run N__law_is_model.length g__law_is_model))
  refine dl_ok (N := N__law_is_model) (ps := ["value"]) (k := 1) (b := g__law_is_model) T.F__law_is_model sc__law_is_model (by decide) ?_
  intro cdv A outer s H E hr gd
  exact ⟨_, dl_both (sss_cons (ss_if (st_w (sw_or (st_not (st_val (se_isi tyok_tuple rfl T.n_isinstance (by decide +kernel) rfl T.n_tuple (by decide +kernel) (se_var 0)))) (sw_or (st_cmp prim_ne (op_neP hr.units) (nomark _) (se_callB prim_len call_lenD' rfl T.n_len (by decide +kernel) (sa_cons (se_var 0) (sa_nil))) (se_int)) (sw_or (st_not (st_val (se_isi tyok_str rfl T.n_isinstance (by decide +kernel) rfl T.n_str (by decide +kernel) (se_ix (se_var 0) (se_int))))) (sw_or (st_cmp prim_ne (op_neP hr.units) (nomark _) (se_ix (se_var 0) (se_int)) (se_str)) (sw_or1 (st_not (st_val (se_call (modes := [false, false, false]) (more := []) (ok__law_is_whole T) (hr.mono (by decide)) gd rfl T.g__law_is_whole T.F__law_is_whole.kp (T.b3__law_is_whole) .nil (fun _ _ => .nil) rfl (sa_cons (se_ix (se_var 0) (se_int)) (sa_cons (se_int) (sa_cons (se_int) (sa_nil))))))))))))) (sss_one (ss_ret (se_bl))) (sss_nil)) (sss_cons (ss_if (st_w (sw_or (st_not (st_val (se_isi tyok_list rfl T.n_isinstance (by decide +kernel) rfl T.n_list (by decide +kernel) (se_ix (se_var 0) (se_int))))) (sw_or1 (st_cmp prim_eq (op_eqP hr.units) (nomark _) (se_ix (se_var 0) (se_int)) (se_lst (sa_nil)))))) (sss_one (ss_ret (se_bl))) (sss_nil)) (sss_cons (ss_for PassesOwn.never rfl (si_seq (se_ix (se_var 0) (se_int))) (sg_name 1 sc__law_is_model.nd rfl (Or.inl rfl)) (sss_cons (ss_if (st_w (sw_or (st_not (st_val (se_isi tyok_tuple rfl T.n_isinstance (by decide +kernel) rfl T.n_tuple (by decide +kernel) (se_var 1)))) (sw_or (st_cmp prim_ne (op_neP hr.units) (nomark _) (se_callB prim_len call_lenD' rfl T.n_len (by decide +kernel) (sa_cons (se_var 1) (sa_nil))) (se_int)) (sw_or (st_not (st_val (se_isi tyok_list rfl T.n_isinstance (by decide +kernel) rfl T.n_list (by decide +kernel) (se_ix (se_var 1) (se_int))))) (sw_or1 (st_not (st_val (se_isi tyok_list rfl T.n_isinstance (by decide +kernel) rfl T.n_list (by decide +kernel) (se_ix (se_var 1) (se_int)))))))))) (sss_one (ss_ret (se_bl))) (sss_nil)) (sss_cons (ss_asg (se_var 1) (sg_tup rfl (sgs_cons (sg_name 2 sc__law_is_model.nd rfl (Or.inl rfl)) (sgs_cons (sg_name 3 sc__law_is_model.nd rfl (Or.inl rfl)) (sgs_nil))))) (sss_cons (ss_if (st_w (sw_or (st_cmp prim_ne (op_neP hr.units) (nomark _) (se_callB prim_len call_lenD' rfl T.n_len (by decide +kernel) (sa_cons (se_var 2) (sa_nil))) (se_add (se_ix (se_var 0) (se_int)) (se_int))) (sw_or (st_cmp prim_ne (op_neP hr.units) (nomark _) (se_callB prim_len call_lenD' rfl T.n_len (by decide +kernel) (sa_cons (se_var 3) (sa_nil))) (se_ix (se_var 0) (se_int))) (sw_or (st_cmp prim_ne (op_neP hr.units) (nomark _) (se_lc rfl sc__law_is_model.nd (si_seq (se_var 2)) (blkOk_by (own := [("number", 5)]) (N := N__law_is_model) (sc := defScope s__law_is_model) (by decide +kernel)) (fun _ _ _ _ _ => sg_name 5 sc__law_is_model.nd rfl (Or.inl rfl)) (fun _ _ _ _ _ => sts_one (st_not (st_val (se_call (modes := [false, false, false]) (more := []) (ok__law_is_whole T) (hr.mono (by decide)) gd rfl T.g__law_is_whole T.F__law_is_whole.kp (T.b3__law_is_whole) .nil (fun _ _ => .nil) rfl (sa_cons (se_var 5) (sa_cons (se_int) (sa_cons (se_non) (sa_nil)))))))) (fun _ _ _ _ _ => se_var 5) rfl (by decide)) (se_lst (sa_nil))) (sw_or1 (st_cmp prim_eq (op_eqP hr.units) (nomark _) (se_callB prim_maxL (cr_max rfl) rfl T.n_max (by decide +kernel) (sa_cons (se_var 2) (sa_nil))) (se_int))))))) (sss_one (ss_ret (se_bl))) (sss_nil)) (sss_one (ss_if (st_cmp prim_ne (op_neP hr.units) (nomark _) (se_lc rfl sc__law_is_model.nd (si_zip rfl T.n_zip (sa_cons (se_var 3) (sa_cons (se_var 2) (sa_nil)))) (blkOk_by (own := [("late", 4), ("number", 5)]) (N := N__law_is_model) (sc := defScope s__law_is_model) (by decide +kernel)) (fun _ _ _ _ _ => sg_tup rfl (sgs_cons (sg_name 4 sc__law_is_model.nd rfl (Or.inl rfl)) (sgs_cons (sg_name 5 sc__law_is_model.nd rfl (Or.inl rfl)) (sgs_nil)))) (fun _ _ _ _ _ => sts_one (st_not (st_if (st_cmp prim_eq (op_eqP hr.units) (nomark _) (se_var 5) (se_int)) (st_cmp prim_is op_isC (nomark _) (se_var 4) (se_non)) (st_val (se_call (modes := [false, false, false]) (more := []) (ok__law_is_whole T) (hr.mono (by decide)) gd rfl T.g__law_is_whole T.F__law_is_whole.kp (T.b3__law_is_whole) .nil (fun _ _ => .nil) rfl (sa_cons (se_var 4) (sa_cons (se_int) (sa_cons (se_sub (se_callB prim_len call_lenD' rfl T.n_len (by decide +kernel) (sa_cons (se_ix (se_var 0) (se_int)) (sa_nil))) (se_int)) (sa_nil))))))))) (fun _ _ _ _ _ => se_var 4) rfl (by decide)) (se_lst (sa_nil))) (sss_one (ss_ret (se_bl))) (sss_nil))))))) (sss_one (ss_ret (se_bl))))))⟩
theorem ok__law_is (T : Tx K mg) : FnG P w K mg base CX0 3 T.f__law_is T.d__law_is ["value", "many"] (spD K 2 m__law_is) := by
  show FnG P w K mg base CX0 (2 + 1) T.f__law_is T.d__law_is ["value", "many"] (spD K (["value", "many"] : List Str).length (run N__law_is.length g__law_is))
  refine dl_ok (N := N__law_is) (ps := ["value", "many"]) (k := 2) (b := g__law_is) T.F__law_is sc__law_is (by decide) ?_
  intro cdv A outer s H E hr gd
  exact ⟨_, dl_both (sss_cons (ss_if (st_w (sw_or (st_not (st_val (se_isi tyok_list rfl T.n_isinstance (by decide +kernel) rfl T.n_list (by decide +kernel) (se_var 0)))) (sw_or1 (st_cmp prim_eq (op_eqP hr.units) (nomark _) (se_var 0) (se_lst (sa_nil)))))) (sss_one (ss_ret (se_bl))) (sss_nil)) (sss_cons (ss_for PassesOwn.never rfl (si_seq (se_var 0)) (sg_name 2 sc__law_is.nd rfl (Or.inl rfl)) (sss_cons (ss_if (st_w (sw_or (st_not (st_val (se_isi tyok_tuple rfl T.n_isinstance (by decide +kernel) rfl T.n_tuple (by decide +kernel) (se_var 2)))) (sw_or (st_cmp prim_ne (op_neP hr.units) (nomark _) (se_callB prim_len call_lenD' rfl T.n_len (by decide +kernel) (sa_cons (se_var 2) (sa_nil))) (se_int)) (sw_or (st_not (st_val (se_isi tyok_int rfl T.n_isinstance (by decide +kernel) rfl T.n_int (by decide +kernel) (se_ix (se_var 2) (se_int))))) (sw_or (st_val (se_isi tyok_bool rfl T.n_isinstance (by decide +kernel) rfl T.n_bool (by decide +kernel) (se_ix (se_var 2) (se_int)))) (sw_or1 (st_cmp prim_cmp op_lt (nomark _) (se_ix (se_var 2) (se_int)) (se_int)))))))) (sss_one (ss_ret (se_bl))) (sss_nil)) (sss_one (ss_if (st_not (st_val (se_call (modes := [false]) (more := []) (ok__law_is_model T) (hr.mono (by decide)) gd rfl T.g__law_is_model T.F__law_is_model.kp (T.b1__law_is_model) .nil (fun _ _ => .nil) rfl (sa_cons (se_ix (se_var 2) (se_int)) (sa_nil))))) (sss_one (ss_ret (se_bl))) (sss_nil))))) (sss_one (ss_ret (se_cmp prim_eq (op_eqP hr.units) (nomark _) (se_lenDict rfl rfl T.n_len (by decide +kernel) rfl T.n_dict (by decide +kernel) (se_lc rfl sc__law_is.nd (si_seq (se_var 0)) (blkOk_by (own := [("weight", 3), ("model", 4)]) (N := N__law_is) (sc := defScope s__law_is) (by decide +kernel)) (fun _ _ _ _ _ => sg_tup rfl (sgs_cons (sg_name 3 sc__law_is.nd rfl (Or.inl rfl)) (sgs_cons (sg_name 4 sc__law_is.nd rfl (Or.inl rfl)) (sgs_nil)))) (fun _ _ _ _ _ => sts_nil) (fun _ _ _ _ _ => se_tup (sa_cons (se_ix (se_var 4) (se_int)) (sa_cons (se_bl) (sa_nil)))) rfl (by decide))) (se_int))))))⟩
theorem ok__law_pick (T : Tx K mg) : FnG P w K mg base CX0 2 T.f__law_pick T.d__law_pick ["purse", "things"] (spD K 2 m__law_pick) := by
  show FnG P w K mg base CX0 (1 + 1) T.f__law_pick T.d__law_pick ["purse", "things"] (spD K (["purse", "things"] : List Str).length (run N__law_pick.length g__law_pick))
  refine dl_ok (N := N__law_pick) (ps := ["purse", "things"]) (k := 1) (b := g__law_pick) T.F__law_pick sc__law_pick (by decide) ?_
  intro cdv A outer s H E hr gd
  exact ⟨_, dl_both (sss_one (ss_ret (se_ix (se_var 1) (se_call (modes := [true, false]) (more := []) (ok__law_draw T) (hr.mono (by decide)) gd rfl T.g__law_draw T.F__law_draw.kp (T.b2__law_draw) .nil (fun _ _ => .nil) rfl (sa_cons (se_var 0) (sa_cons (se_callB prim_len call_lenD' rfl T.n_len (by decide +kernel) (sa_cons (se_var 1) (sa_nil))) (sa_nil)))))))⟩
theorem ok__law_row (T : Tx K mg) : FnG P w K mg base CX0 3 T.f__law_row T.d__law_row ["purse", "model"] (spD K 2 m__law_row) := by
  show FnG P w K mg base CX0 (2 + 1) T.f__law_row T.d__law_row ["purse", "model"] (spD K (["purse", "model"] : List Str).length (run N__law_row.length g__law_row))
  refine dl_ok (N := N__law_row) (ps := ["purse", "model"]) (k := 2) (b := g__law_row) T.F__law_row sc__law_row (by decide) ?_
  intro cdv A outer s H E hr gd
  exact ⟨_, dl_both (sss_cons (ss_parS2 2 3 rfl sc__law_row.nd rfl rfl (by decide) rfl rfl (se_lst (sa_nil)) (sa_cons (se_int) (sa_nil)) rfl) (sss_cons (ss_for PassesOwn.never rfl (si_range1 rfl T.n_range (sa_cons (se_call (modes := [true, false]) (more := []) (ok__law_draw T) (hr.mono (by decide)) gd rfl T.g__law_draw T.F__law_draw.kp (T.b2__law_draw) .nil (fun _ _ => .nil) rfl (sa_cons (se_var 0) (sa_cons (se_int) (sa_nil)))) (sa_nil))) (sg_name 4 sc__law_row.nd rfl (Or.inl rfl)) (sss_cons (ss_setLc 5 rfl sc__law_row.nd rfl rfl (sw_true rfl rfl rfl (by decide +kernel)) (si_enum rfl T.n_enumerate (sa_cons (se_ix (se_ix (se_ix (se_var 1) (se_int)) (se_var 3)) (se_int)) (sa_nil))) (blkOk_by (own := [("piece", 6), ("late", 7)]) (N := N__law_row) (sc := defScope s__law_row) (by decide +kernel)) (fun _ _ _ _ _ => sg_tup rfl (sgs_cons (sg_name 6 sc__law_row.nd rfl (Or.inl rfl)) (sgs_cons (sg_name 7 sc__law_row.nd rfl (Or.inl rfl)) (sgs_nil)))) (fun _ _ _ _ _ => sts_one (st_cmp prim_isnot op_isnotC (nomark _) (se_var 7) (se_non))) (fun _ _ _ _ _ => se_var 6) rfl (by decide)) (sss_cons (ss_if (st_cmp prim_eq (op_eqP hr.units) (nomark _) (se_var 5) (se_lst (sa_nil))) (sss_one (ss_ret (se_var 2))) (sss_nil)) (sss_cons (ss_append 2 (fun h => pe_bm PySem.F.plainAttrs_list PySem.F.slot_list_append PySem.F.type_list_append mt_append (pv 2) (pa_cons h pa_nil)) (se_call (modes := [true, false]) (more := []) (ok__law_pick T) (hr.mono (by decide)) gd rfl T.g__law_pick T.F__law_pick.kp (T.b2__law_pick) .nil (fun _ _ => .nil) rfl (sa_cons (se_var 0) (sa_cons (se_var 5) (sa_nil))))) (sss_one (ss_set 3 sc__law_row.nd rfl (Or.inl rfl) (se_ix (se_ix (se_ix (se_ix (se_var 1) (se_int)) (se_var 3)) (se_int)) (se_ix (se_var 2) (se_neg (se_int)))))))))) (sss_one (ss_ret (se_var 2)))))⟩
theorem ok__law_divisor (T : Tx K mg) : FnG P w K mg base CX0 1 T.f__law_divisor T.d__law_divisor ["one", "other"] (spD K 2 m__law_divisor) := by
  show FnG P w K mg base CX0 (0 + 1) T.f__law_divisor T.d__law_divisor ["one", "other"] (spD K (["one", "other"] : List Str).length (run N__law_divisor.length g__law_divisor))
  refine dl_ok (N := N__law_divisor) (ps := ["one", "other"]) (k := 0) (b := g__law_divisor) T.F__law_divisor sc__law_divisor (by decide) ?_
  intro cdv A outer s H E hr gd
  exact ⟨_, dl_both (sss_cons (ss_while PassesOwn.never (st_cmp prim_ne (op_neP hr.units) (nomark _) (se_var 1) (se_int)) (sss_one (ss_par 0 1 rfl sc__law_divisor.nd rfl rfl (by decide) rfl rfl (sa_cons (se_var 1) (sa_cons (se_mod (se_var 0) (se_var 1)) (sa_nil))) rfl))) (sss_one (ss_ret (se_var 0))))⟩
theorem ok__law_by (T : Tx K mg) : FnG P w K mg base CX0 2 T.f__law_by T.d__law_by ["top", "under"] (spD K 2 m__law_by) := by
  show FnG P w K mg base CX0 (1 + 1) T.f__law_by T.d__law_by ["top", "under"] (spD K (["top", "under"] : List Str).length (run N__law_by.length g__law_by))
  refine dl_ok (N := N__law_by) (ps := ["top", "under"]) (k := 1) (b := g__law_by) T.F__law_by sc__law_by (by decide) ?_
  intro cdv A outer s H E hr gd
  exact ⟨_, dl_both (sss_cons (ss_set 2 sc__law_by.nd rfl (Or.inl rfl) (se_call (modes := [false, false]) (more := []) (ok__law_divisor T) (hr.mono (by decide)) gd rfl T.g__law_divisor T.F__law_divisor.kp (T.b2__law_divisor) .nil (fun _ _ => .nil) rfl (sa_cons (se_var 0) (sa_cons (se_var 1) (sa_nil))))) (sss_one (ss_ret (se_tup (sa_cons (se_div (se_var 0) (se_var 2)) (sa_cons (se_div (se_var 1) (se_var 2)) (sa_nil)))))))⟩
theorem ok__law_times (T : Tx K mg) : FnG P w K mg base CX0 3 T.f__law_times T.d__law_times ["one", "other"] (spD K 2 m__law_times) := by
  show FnG P w K mg base CX0 (2 + 1) T.f__law_times T.d__law_times ["one", "other"] (spD K (["one", "other"] : List Str).length (run N__law_times.length g__law_times))
  refine dl_ok (N := N__law_times) (ps := ["one", "other"]) (k := 2) (b := g__law_times) T.F__law_times sc__law_times (by decide) ?_
  intro cdv A outer s H E hr gd
  exact ⟨_, dl_both (sss_one (ss_ret (se_call (modes := [false, false]) (more := []) (ok__law_by T) (hr.mono (by decide)) gd rfl T.g__law_by T.F__law_by.kp (T.b2__law_by) .nil (fun _ _ => .nil) rfl (sa_cons (se_mul (se_ix (se_var 0) (se_int)) (se_ix (se_var 1) (se_int))) (sa_cons (se_mul (se_ix (se_var 0) (se_int)) (se_ix (se_var 1) (se_int))) (sa_nil))))))⟩
theorem ok__law_odds (T : Tx K mg) : FnG P w K mg base CX0 4 T.f__law_odds T.d__law_odds ["model", "beginning"] (spD K 2 m__law_odds) := by
  show FnG P w K mg base CX0 (3 + 1) T.f__law_odds T.d__law_odds ["model", "beginning"] (spD K (["model", "beginning"] : List Str).length (run N__law_odds.length g__law_odds))
  refine dl_ok (N := N__law_odds) (ps := ["model", "beginning"]) (k := 3) (b := g__law_odds) T.F__law_odds sc__law_odds (by decide) ?_
  intro cdv A outer s H E hr gd
  exact ⟨_, dl_both (sss_cons (ss_asg (se_tup (sa_cons (se_tup (sa_cons (se_int) (sa_cons (se_int) (sa_nil)))) (sa_cons (se_int) (sa_nil)))) (sg_tup rfl (sgs_cons (sg_name 2 sc__law_odds.nd rfl (Or.inl rfl)) (sgs_cons (sg_name 3 sc__law_odds.nd rfl (Or.inl rfl)) (sgs_nil))))) (sss_cons (ss_for PassesOwn.never rfl (si_seq (se_var 1)) (sg_name 4 sc__law_odds.nd rfl (Or.inl rfl)) (sss_cons (ss_if (st_cmp prim_is op_isC (nomark _) (se_var 3) (se_non)) (sss_one (ss_ret (se_tup (sa_cons (se_int) (sa_cons (se_int) (sa_nil)))))) (sss_nil)) (sss_cons (ss_asg (se_ix (se_ix (se_var 0) (se_int)) (se_var 3)) (sg_tup rfl (sgs_cons (sg_name 5 sc__law_odds.nd rfl (Or.inl rfl)) (sgs_cons (sg_name 6 sc__law_odds.nd rfl (Or.inl rfl)) (sgs_nil))))) (sss_cons (ss_set 2 sc__law_odds.nd rfl (Or.inl rfl) (se_call (modes := [false, false]) (more := []) (ok__law_times T) (hr.mono (by decide)) gd rfl T.g__law_times T.F__law_times.kp (T.b2__law_times) .nil (fun _ _ => .nil) rfl (sa_cons (se_var 2) (sa_cons (se_call (modes := [false, false]) (more := []) (ok__law_by T) (hr.mono (by decide)) gd rfl T.g__law_by T.F__law_by.kp (T.b2__law_by) .nil (fun _ _ => .nil) rfl (sa_cons (se_ix (se_var 5) (se_var 4)) (sa_cons (se_callB prim_sum (cr_sum rfl) rfl T.n_sum (by decide +kernel) (sa_cons (se_var 5) (sa_nil))) (sa_nil)))) (sa_nil))))) (sss_one (ss_set 3 sc__law_odds.nd rfl (Or.inl rfl) (se_if (st_cmp prim_eq (op_eqP hr.units) (nomark _) (se_var 4) (se_ix (se_var 0) (se_int))) (se_non) (se_ix (se_var 6) (se_var 4))))))))) (sss_one (ss_ret (se_var 2)))))⟩
theorem ok__law_parts (T : Tx K mg) : FnG P w K mg base CX0 5 T.f__law_parts T.d__law_parts ["hidden", "beginning"] (spD K 2 m__law_parts) := by
  show FnG P w K mg base CX0 (4 + 1) T.f__law_parts T.d__law_parts ["hidden", "beginning"] (spD K (["hidden", "beginning"] : List Str).length (run N__law_parts.length g__law_parts))
  refine dl_ok (N := N__law_parts) (ps := ["hidden", "beginning"]) (k := 4) (b := g__law_parts) T.F__law_parts sc__law_parts (by decide) ?_
  intro cdv A outer s H E hr gd
  exact ⟨_, dl_both (sss_cons (ss_set 2 sc__law_parts.nd rfl (Or.inr rfl) (se_callB prim_sum (cr_sum rfl) rfl T.n_sum (by decide +kernel) (sa_cons (se_lc rfl sc__law_parts.nd (si_seq (se_var 0)) (blkOk_by (own := [("weight", 3), ("model", 4)]) (N := N__law_parts) (sc := defScope s__law_parts) (by decide +kernel)) (fun _ _ _ _ _ => sg_tup rfl (sgs_cons (sg_name 3 sc__law_parts.nd rfl (Or.inl rfl)) (sgs_cons (sg_name 4 sc__law_parts.nd rfl (Or.inl rfl)) (sgs_nil)))) (fun _ _ _ _ _ => sts_nil) (fun _ _ _ _ _ => se_var 3) rfl (by decide)) (sa_nil)))) (sss_one (ss_ret (se_lc rfl sc__law_parts.nd (si_seq (se_var 0)) (blkOk_by (own := [("weight", 3), ("model", 4)]) (N := N__law_parts) (sc := defScope s__law_parts) (by decide +kernel)) (fun _ _ _ _ _ => sg_tup rfl (sgs_cons (sg_name 3 sc__law_parts.nd rfl (Or.inl rfl)) (sgs_cons (sg_name 4 sc__law_parts.nd rfl (Or.inl rfl)) (sgs_nil)))) (fun _ _ _ _ _ => sts_nil) (fun _ _ _ _ _ => se_call (modes := [false, false]) (more := []) (ok__law_times T) (hr.mono (by decide)) gd rfl T.g__law_times T.F__law_times.kp (T.b2__law_times) .nil (fun _ _ => .nil) rfl (sa_cons (se_call (modes := [false, false]) (more := []) (ok__law_by T) (hr.mono (by decide)) gd rfl T.g__law_by T.F__law_by.kp (T.b2__law_by) .nil (fun _ _ => .nil) rfl (sa_cons (se_var 3) (sa_cons (se_var 2) (sa_nil)))) (sa_cons (se_call (modes := [false, false]) (more := []) (ok__law_odds T) (hr.mono (by decide)) gd rfl T.g__law_odds T.F__law_odds.kp (T.b2__law_odds) .nil (fun _ _ => .nil) rfl (sa_cons (se_var 4) (sa_cons (se_var 1) (sa_nil)))) (sa_nil)))) rfl (by decide)))))⟩
theorem ok__law_over (T : Tx K mg) : FnG P w K mg base CX0 3 T.f__law_over T.d__law_over ["one", "other"] (spD K 2 m__law_over) := by
  show FnG P w K mg base CX0 (2 + 1) T.f__law_over T.d__law_over ["one", "other"] (spD K (["one", "other"] : List Str).length (run N__law_over.length g__law_over))
  refine dl_ok (N := N__law_over) (ps := ["one", "other"]) (k := 2) (b := g__law_over) T.F__law_over sc__law_over (by decide) ?_
  intro cdv A outer s H E hr gd
  exact ⟨_, dl_both (sss_one (ss_ret (se_call (modes := [false, false]) (more := []) (ok__law_by T) (hr.mono (by decide)) gd rfl T.g__law_by T.F__law_by.kp (T.b2__law_by) .nil (fun _ _ => .nil) rfl (sa_cons (se_mul (se_ix (se_var 0) (se_int)) (se_ix (se_var 1) (se_int))) (sa_cons (se_mul (se_ix (se_var 0) (se_int)) (se_ix (se_var 1) (se_int))) (sa_nil))))))⟩
theorem ok__law_plus (T : Tx K mg) : FnG P w K mg base CX0 3 T.f__law_plus T.d__law_plus ["one", "other"] (spD K 2 m__law_plus) := by
  show FnG P w K mg base CX0 (2 + 1) T.f__law_plus T.d__law_plus ["one", "other"] (spD K (["one", "other"] : List Str).length (run N__law_plus.length g__law_plus))
  refine dl_ok (N := N__law_plus) (ps := ["one", "other"]) (k := 2) (b := g__law_plus) T.F__law_plus sc__law_plus (by decide) ?_
  intro cdv A outer s H E hr gd
  exact ⟨_, dl_both (sss_one (ss_ret (se_call (modes := [false, false]) (more := []) (ok__law_by T) (hr.mono (by decide)) gd rfl T.g__law_by T.F__law_by.kp (T.b2__law_by) .nil (fun _ _ => .nil) rfl (sa_cons (se_add (se_mul (se_ix (se_var 0) (se_int)) (se_ix (se_var 1) (se_int))) (se_mul (se_ix (se_var 1) (se_int)) (se_ix (se_var 0) (se_int)))) (sa_cons (se_mul (se_ix (se_var 0) (se_int)) (se_ix (se_var 1) (se_int))) (sa_nil))))))⟩
theorem ok__law_sum (T : Tx K mg) : FnG P w K mg base CX0 4 T.f__law_sum T.d__law_sum ["some"] (spD K 1 m__law_sum) := by
  show FnG P w K mg base CX0 (3 + 1) T.f__law_sum T.d__law_sum ["some"] (spD K (["some"] : List Str).length (run N__law_sum.length g__law_sum))
  refine dl_ok (N := N__law_sum) (ps := ["some"]) (k := 3) (b := g__law_sum) T.F__law_sum sc__law_sum (by decide) ?_
  intro cdv A outer s H E hr gd
  exact ⟨_, dl_both (sss_cons (ss_set 1 sc__law_sum.nd rfl (Or.inl rfl) (se_tup (sa_cons (se_int) (sa_cons (se_int) (sa_nil))))) (sss_cons (ss_for PassesOwn.never rfl (si_seq (se_var 0)) (sg_name 2 sc__law_sum.nd rfl (Or.inl rfl)) (sss_one (ss_set 1 sc__law_sum.nd rfl (Or.inl rfl) (se_call (modes := [false, false]) (more := []) (ok__law_plus T) (hr.mono (by decide)) gd rfl T.g__law_plus T.F__law_plus.kp (T.b2__law_plus) .nil (fun _ _ => .nil) rfl (sa_cons (se_var 1) (sa_cons (se_var 2) (sa_nil))))))) (sss_one (ss_ret (se_var 1)))))⟩
theorem ok__law_spoilt (T : Tx K mg) : ∀ n : Nat, n ≤ 60 → FnG P w K mg base CX0 (0 + n) T.f__law_spoilt T.d__law_spoilt ["told"] (spT K n)
  | 0, _ => fnT_none rfl
  | n + 1, hn => by
    have ih := ok__law_spoilt T n (by omega)
    refine tree_ok (N := N__law_spoilt) (ps := ["told"]) (k := 0 + n) (n := n) T.F__law_spoilt sc__law_spoilt rfl rfl (by omega) ?_
    intro cdv A outer s H E hr gd
    exact tree_pe (st_val (se_isi tyok_tuple rfl T.n_isinstance (by decide +kernel) rfl T.n_tuple (by decide +kernel) (se_var 0))) (sss_one (ss_ret (se_callB prim_all (cr_all rfl) rfl T.n_all (by decide +kernel) (sa_cons (se_lc rfl sc__law_spoilt.nd (si_seq (se_var 0)) (blkOk_by (own := [("part", 2)]) (N := N__law_spoilt) (sc := defScope s__law_spoilt) (by decide +kernel)) (fun _ _ _ _ _ => sg_name 2 sc__law_spoilt.nd rfl (Or.inl rfl)) (fun _ _ _ _ _ => sts_nil) (fun _ _ _ _ _ => se_callTr ih (hr.mono (by omega)) gd rfl T.g__law_spoilt T.F__law_spoilt.kp (T.b1__law_spoilt) (sa_cons (se_var 2) (sa_nil))) rfl (by decide)) (sa_nil))))) (st_not (st_val (se_isi tyok_list rfl T.n_isinstance (by decide +kernel) rfl T.n_list (by decide +kernel) (se_var 0)))) (sss_one (ss_ret (se_bl))) (st_w (sw_and (st_cmp prim_ne (op_neP hr.units) (nomark _) (se_var 0) (se_lst (sa_nil))) (sw_and (st_val (se_isi tyok_str rfl T.n_isinstance (by decide +kernel) rfl T.n_str (by decide +kernel) (se_ix (se_var 0) (se_neg (se_int))))) (sw_and1 (st_cmp prim_eq (op_eqP hr.units) (nomark _) (se_ix (se_var 0) (se_neg (se_int))) (se_str)))))) (sss_one (ss_ret (se_bl))) (sss_cons (ss_setLc 1 rfl sc__law_spoilt.nd rfl rfl (sw_true rfl rfl rfl (by decide +kernel)) (si_seq (se_var 0)) (blkOk_by (own := [("part", 2)]) (N := N__law_spoilt) (sc := defScope s__law_spoilt) (by decide +kernel)) (fun _ _ _ _ _ => sg_name 2 sc__law_spoilt.nd rfl (Or.inl rfl)) (fun _ _ _ _ _ => sts_nil) (fun _ _ _ _ _ => se_callTr ih (hr.mono (by omega)) gd rfl T.g__law_spoilt T.F__law_spoilt.kp (T.b1__law_spoilt) (sa_cons (se_var 2) (sa_nil))) rfl (by decide)) (sss_cons (ss_append 0 (fun h => pe_bm PySem.F.plainAttrs_list PySem.F.slot_list_append PySem.F.type_list_append mt_append (pv 0) (pa_cons h pa_nil)) (se_str)) (sss_one (ss_ret (se_callB prim_all (cr_all rfl) rfl T.n_all (by decide +kernel) (sa_cons (se_var 1) (sa_nil)))))))
theorem ok__law_same (T : Tx K mg) : ∀ n : Nat, FnG P w K mg base CX0 (0 + n) T.f__law_same T.d__law_same ["told", "due"] (spD K 2 (m__law_same n))
  | 0 => fnG_none rfl
  | n + 1 => by
    have ih := ok__law_same T n
    show FnG P w K mg base CX0 (0 + n + 1) T.f__law_same T.d__law_same ["told", "due"] (spD K (["told", "due"] : List Str).length (run N__law_same.length (g__law_same (m__law_same n))))
    refine dl_ok (N := N__law_same) (ps := ["told", "due"]) (k := 0 + n) (b := (g__law_same (m__law_same n))) T.F__law_same sc__law_same (by decide) ?_
    intro cdv A outer s H E hr gd
    exact ⟨_, dl_both (sss_cons (ss_if (st_cmp prim_is op_isC (nomark _) (se_var 1) (se_non)) (sss_one (ss_ret (se_cmp prim_is op_isC (nomark _) (se_var 0) (se_non)))) (sss_nil)) (sss_cons (ss_if (st_cmp prim_is op_isC (nomark _) (se_var 1) (se_bl)) (sss_one (ss_ret (se_cmp prim_is op_isC (nomark _) (se_var 0) (se_bl)))) (sss_nil)) (sss_cons (ss_if (st_cmp prim_is op_isC (nomark _) (se_var 1) (se_bl)) (sss_one (ss_ret (se_cmp prim_is op_isC (nomark _) (se_var 0) (se_bl)))) (sss_nil)) (sss_cons (ss_if (st_val (se_isi2 tyok_list tyok_tuple rfl T.n_isinstance (by decide +kernel) rfl T.n_list (by decide +kernel) rfl T.n_tuple (by decide +kernel) (se_var 1))) (sss_cons (ss_set 2 sc__law_same.nd rfl (Or.inl rfl) (se_if (st_val (se_isi tyok_list rfl T.n_isinstance (by decide +kernel) rfl T.n_list (by decide +kernel) (se_var 1))) (se_isi tyok_list rfl T.n_isinstance (by decide +kernel) rfl T.n_list (by decide +kernel) (se_var 0)) (se_isi tyok_tuple rfl T.n_isinstance (by decide +kernel) rfl T.n_tuple (by decide +kernel) (se_var 0)))) (sss_one (ss_ret (se_and (se_var 2) (se_and (se_cmp prim_eq (op_eqP hr.units) (nomark _) (se_callB prim_len call_lenD' rfl T.n_len (by decide +kernel) (sa_cons (se_var 0) (sa_nil))) (se_callB prim_len call_lenD' rfl T.n_len (by decide +kernel) (sa_cons (se_var 1) (sa_nil)))) (se_one (se_callB prim_all (cr_all rfl) rfl T.n_all (by decide +kernel) (sa_cons (se_lc rfl sc__law_same.nd (si_zip rfl T.n_zip (sa_cons (se_var 0) (sa_cons (se_var 1) (sa_nil)))) (blkOk_by (own := [("one", 3), ("other", 4)]) (N := N__law_same) (sc := defScope s__law_same) (by decide +kernel)) (fun _ _ _ _ _ => sg_tup rfl (sgs_cons (sg_name 3 sc__law_same.nd rfl (Or.inl rfl)) (sgs_cons (sg_name 4 sc__law_same.nd rfl (Or.inl rfl)) (sgs_nil)))) (fun _ _ _ _ _ => sts_nil) (fun _ _ _ _ _ => se_call (modes := [false, false]) (more := []) ih (hr.mono (by omega)) gd rfl T.g__law_same T.F__law_same.kp (T.b2__law_same) .nil (fun _ _ => .nil) rfl (sa_cons (se_var 3) (sa_cons (se_var 4) (sa_nil)))) rfl (by decide)) (sa_nil))))))))) (sss_nil)) (sss_cons (ss_if (st_val (se_isi tyok_int rfl T.n_isinstance (by decide +kernel) rfl T.n_int (by decide +kernel) (se_var 1))) (sss_one (ss_ret (se_and (se_isi tyok_int rfl T.n_isinstance (by decide +kernel) rfl T.n_int (by decide +kernel) (se_var 0)) (se_and (se_not (se_isi tyok_bool rfl T.n_isinstance (by decide +kernel) rfl T.n_bool (by decide +kernel) (se_var 0))) (se_one (se_cmp prim_eq (op_eqP hr.units) (nomark _) (se_var 0) (se_var 1))))))) (sss_nil)) (sss_one (ss_ret (se_and (se_isi tyok_str rfl T.n_isinstance (by decide +kernel) rfl T.n_str (by decide +kernel) (se_var 0)) (se_one (se_cmp prim_eq (op_eqP hr.units) (nomark _) (se_var 0) (se_var 1)))))))))))⟩
theorem ok__law_rows_right (T : Tx K mg) : FnG P w K mg base CX0 10 T.f__law_rows_right T.d__law_rows_right ["purse", "hidden", "many"] (spD K 3 m__law_rows_right) := by
  show FnG P w K mg base CX0 (9 + 1) T.f__law_rows_right T.d__law_rows_right ["purse", "hidden", "many"] (spD K (["purse", "hidden", "many"] : List Str).length (run N__law_rows_right.length g__law_rows_right))
  refine dl_ok (N := N__law_rows_right) (ps := ["purse", "hidden", "many"]) (k := 9) (b := g__law_rows_right) T.F__law_rows_right sc__law_rows_right (by decide) ?_
  intro cdv A outer s H E hr gd
  exact ⟨_, dl_both (sss_cons (ss_asg (se_call (modes := [true, false]) (more := []) (ok__law_pick T) (hr.mono (by decide)) gd rfl T.g__law_pick T.F__law_pick.kp (T.b2__law_pick) .nil (fun _ _ => .nil) rfl (sa_cons (se_var 0) (sa_cons (se_var 1) (sa_nil)))) (sg_tup rfl (sgs_cons (sg_name 3 sc__law_rows_right.nd rfl (Or.inl rfl)) (sgs_cons (sg_name 4 sc__law_rows_right.nd rfl (Or.inl rfl)) (sgs_nil))))) (sss_cons (ss_set 5 sc__law_rows_right.nd rfl (Or.inr rfl) (se_call (modes := [true, false]) (more := []) (ok__law_row T) (hr.mono (by decide)) gd rfl T.g__law_row T.F__law_row.kp (T.b2__law_row) .nil (fun _ _ => .nil) rfl (sa_cons (se_var 0) (sa_cons (se_var 4) (sa_nil))))) (sss_cons (ss_for PassesOwn.never rfl (si_seq (se_lst (sa_cons (se_var 5) (sa_cons (se_add (se_var 5) (se_lst (sa_cons (se_var 2) (sa_nil)))) (sa_cons (se_add (se_var 5) (se_lst (sa_cons (se_call (modes := [true, false]) (more := []) (ok__law_draw T) (hr.mono (by decide)) gd rfl T.g__law_draw T.F__law_draw.kp (T.b2__law_draw) .nil (fun _ _ => .nil) rfl (sa_cons (se_var 0) (sa_cons (se_var 2) (sa_nil)))) (sa_nil)))) (sa_cons (se_lst (sa_nil)) (sa_cons (se_lst (sa_cons (se_var 2) (sa_nil))) (sa_nil)))))))) (sg_name 6 sc__law_rows_right.nd rfl (Or.inl rfl)) (sss_cons (ss_set 7 sc__law_rows_right.nd rfl (Or.inl rfl) (se_call (modes := [false]) (more := []) (ok__law_sum T) (hr.mono (by decide)) gd rfl T.g__law_sum T.F__law_sum.kp (T.b1__law_sum) .nil (fun _ _ => .nil) rfl (sa_cons (se_call (modes := [false, false]) (more := []) (ok__law_parts T) (hr.mono (by decide)) gd rfl T.g__law_parts T.F__law_parts.kp (T.b2__law_parts) .nil (fun _ _ => .nil) rfl (sa_cons (se_var 1) (sa_cons (se_var 6) (sa_nil)))) (sa_nil)))) (sss_one (ss_if (st_not (st_val (se_call (modes := [false, false]) (more := []) (ok__law_same T 8) (hr.mono (by decide)) gd rfl T.g__law_same T.F__law_same.kp (T.b2__law_same) .nil (fun _ _ => .nil) rfl (sa_cons (se_lst (sa_cons (se_call (modes := [false, false]) (more := []) (ok_hidden_odds T) (hr.mono (by decide)) gd rfl T.g_hidden_odds T.F_hidden_odds.kp (T.b2_hidden_odds) .nil (fun _ _ => .nil) rfl (sa_cons (se_var 1) (sa_cons (se_var 6) (sa_nil)))) (sa_cons (se_callP0 (more := []) (ok_hidden_odds T) (hr.mono (by decide)) gd rfl T.g_hidden_odds T.F_hidden_odds.kp T.k0_beginning_hidden_hidden_odds .nil (fun _ _ => .nil) rfl rfl (sk_cons (se_var 6) (sk_cons (se_var 1) (sk_nil)))) (sa_nil)))) (sa_cons (se_lst (sa_cons (se_var 7) (sa_cons (se_var 7) (sa_nil)))) (sa_nil)))))) (sss_one (ss_ret (se_bl))) (sss_nil))))) (sss_cons (ss_set 8 sc__law_rows_right.nd rfl (Or.inr rfl) (se_call (modes := [false, false]) (more := []) (ok__law_parts T) (hr.mono (by decide)) gd rfl T.g__law_parts T.F__law_parts.kp (T.b2__law_parts) .nil (fun _ _ => .nil) rfl (sa_cons (se_var 1) (sa_cons (se_var 5) (sa_nil))))) (sss_cons (ss_setLc 9 rfl sc__law_rows_right.nd rfl rfl (sw_true rfl rfl rfl (by decide +kernel)) (si_seq (se_var 8)) (blkOk_by (own := [("odds", 12)]) (N := N__law_rows_right) (sc := defScope s__law_rows_right) (by decide +kernel)) (fun _ _ _ _ _ => sg_name 12 sc__law_rows_right.nd rfl (Or.inl rfl)) (fun _ _ _ _ _ => sts_nil) (fun _ _ _ _ _ => se_call (modes := [false, false]) (more := []) (ok__law_over T) (hr.mono (by decide)) gd rfl T.g__law_over T.F__law_over.kp (T.b2__law_over) .nil (fun _ _ => .nil) rfl (sa_cons (se_var 12) (sa_cons (se_call (modes := [false]) (more := []) (ok__law_sum T) (hr.mono (by decide)) gd rfl T.g__law_sum T.F__law_sum.kp (T.b1__law_sum) .nil (fun _ _ => .nil) rfl (sa_cons (se_var 8) (sa_nil))) (sa_nil)))) rfl (by decide)) (sss_cons (ss_setLc 10 rfl sc__law_rows_right.nd rfl rfl (sw_true rfl rfl rfl (by decide +kernel)) (si_range1 rfl T.n_range (sa_cons (se_add (se_var 2) (se_int)) (sa_nil))) (blkOk_by (own := [("item", 13)]) (N := N__law_rows_right) (sc := defScope s__law_rows_right) (by decide +kernel)) (fun _ _ _ _ _ => sg_name 13 sc__law_rows_right.nd rfl (Or.inl rfl)) (fun _ _ _ _ _ => sts_nil) (fun _ _ _ _ _ => se_call (modes := [false, false]) (more := []) (ok__law_over T) (hr.mono (by decide)) gd rfl T.g__law_over T.F__law_over.kp (T.b2__law_over) .nil (fun _ _ => .nil) rfl (sa_cons (se_call (modes := [false]) (more := []) (ok__law_sum T) (hr.mono (by decide)) gd rfl T.g__law_sum T.F__law_sum.kp (T.b1__law_sum) .nil (fun _ _ => .nil) rfl (sa_cons (se_call (modes := [false, false]) (more := []) (ok__law_parts T) (hr.mono (by decide)) gd rfl T.g__law_parts T.F__law_parts.kp (T.b2__law_parts) .nil (fun _ _ => .nil) rfl (sa_cons (se_var 1) (sa_cons (se_add (se_var 5) (se_lst (sa_cons (se_var 13) (sa_nil)))) (sa_nil)))) (sa_nil))) (sa_cons (se_call (modes := [false]) (more := []) (ok__law_sum T) (hr.mono (by decide)) gd rfl T.g__law_sum T.F__law_sum.kp (T.b1__law_sum) .nil (fun _ _ => .nil) rfl (sa_cons (se_var 8) (sa_nil))) (sa_nil)))) rfl (by decide)) (sss_toldRet 11 4 sc__law_rows_right.nd rfl (Or.inl rfl) (sad_cons (se_call (modes := [false, false]) (more := []) (ok_belief T) (hr.mono (by decide)) gd rfl T.g_belief T.F_belief.kp (T.b2_belief) .nil (fun _ _ => .nil) rfl (sa_cons (se_var 1) (sa_cons (se_var 5) (sa_nil)))) (sad_cons (se_call (modes := [false, false]) (more := []) (ok_next_odds T) (hr.mono (by decide)) gd rfl T.g_next_odds T.F_next_odds.kp (T.b2_next_odds) .nil (fun _ _ => .nil) rfl (sa_cons (se_var 1) (sa_cons (se_var 5) (sa_nil)))) (sad_cons (se_callP0 (more := []) (ok_belief T) (hr.mono (by decide)) gd rfl T.g_belief T.F_belief.kp T.k0_row_hidden_belief .nil (fun _ _ => .nil) rfl rfl (sk_cons (se_var 5) (sk_cons (se_var 1) (sk_nil)))) (sad_cons (se_callP0 (more := []) (ok_next_odds T) (hr.mono (by decide)) gd rfl T.g_next_odds T.F_next_odds.kp T.k0_row_hidden_next_odds .nil (fun _ _ => .nil) rfl rfl (sk_cons (se_var 5) (sk_cons (se_var 1) (sk_nil)))) (sad_nil))))) (st_w (sw_or (st_not (st_val (se_call (modes := [false, false]) (more := []) (ok__law_same T 8) (hr.mono (by decide)) gd rfl T.g__law_same T.F__law_same.kp (T.b2__law_same) .nil (fun _ _ => .nil) rfl (sa_cons (se_var 11) (sa_cons (se_mul (se_lst (sa_cons (se_var 9) (sa_cons (se_var 10) (sa_nil)))) (se_int)) (sa_nil)))))) (sw_or (st_cmp prim_ne (op_neP hr.units) (nomark _) (se_call (modes := [false]) (more := []) (ok__law_sum T) (hr.mono (by decide)) gd rfl T.g__law_sum T.F__law_sum.kp (T.b1__law_sum) .nil (fun _ _ => .nil) rfl (sa_cons (se_var 9) (sa_nil))) (se_tup (sa_cons (se_int) (sa_cons (se_int) (sa_nil))))) (sw_or1 (st_cmp prim_ne (op_neP hr.units) (nomark _) (se_call (modes := [false]) (more := []) (ok__law_sum T) (hr.mono (by decide)) gd rfl T.g__law_sum T.F__law_sum.kp (T.b1__law_sum) .nil (fun _ _ => .nil) rfl (sa_cons (se_var 10) (sa_nil))) (se_tup (sa_cons (se_int) (sa_cons (se_int) (sa_nil))))))))) (se_callTr (ok__law_spoilt T 4 (by decide)) (hr.mono (by decide)) gd rfl T.g__law_spoilt T.F__law_spoilt.kp (T.b1__law_spoilt) (sa_cons (se_var 11) (sa_nil))) (se_one (se_call (modes := [false, false]) (more := []) (ok__law_same T 8) (hr.mono (by decide)) gd rfl T.g__law_same T.F__law_same.kp (T.b2__law_same) .nil (fun _ _ => .nil) rfl (sa_cons (se_lst (sa_cons (se_call (modes := [false, false]) (more := []) (ok_belief T) (hr.mono (by decide)) gd rfl T.g_belief T.F_belief.kp (T.b2_belief) .nil (fun _ _ => .nil) rfl (sa_cons (se_var 1) (sa_cons (se_var 5) (sa_nil)))) (sa_cons (se_call (modes := [false, false]) (more := []) (ok_next_odds T) (hr.mono (by decide)) gd rfl T.g_next_odds T.F_next_odds.kp (T.b2_next_odds) .nil (fun _ _ => .nil) rfl (sa_cons (se_var 1) (sa_cons (se_var 5) (sa_nil)))) (sa_nil)))) (sa_cons (se_lst (sa_cons (se_var 9) (sa_cons (se_var 10) (sa_nil)))) (sa_nil))))))))))))⟩
theorem ok__law_model (T : Tx K mg) : FnG P w K mg base CX0 3 T.f__law_model T.d__law_model ["purse", "many", "most"] (spD K 3 m__law_model) := by
  show FnG P w K mg base CX0 (2 + 1) T.f__law_model T.d__law_model ["purse", "many", "most"] (spD K (["purse", "many", "most"] : List Str).length (run N__law_model.length g__law_model))
  refine dl_ok (N := N__law_model) (ps := ["purse", "many", "most"]) (k := 2) (b := g__law_model) T.F__law_model sc__law_model (by decide) ?_
  intro cdv A outer s H E hr gd
  exact ⟨_, dl_both (sss_cons (ss_set 3 sc__law_model.nd rfl (Or.inr rfl) (se_add (se_int) (se_call (modes := [true, false]) (more := []) (ok__law_draw T) (hr.mono (by decide)) gd rfl T.g__law_draw T.F__law_draw.kp (T.b2__law_draw) .nil (fun _ _ => .nil) rfl (sa_cons (se_var 0) (sa_cons (se_var 2) (sa_nil)))))) (sss_cons (ss_asgO3 (i := 4) (j := 5) (k := 6) (by decide) (by decide) (by decide) (se_call (modes := [true, false]) (more := []) (ok__law_pick T) (hr.mono (by decide)) gd rfl T.g__law_pick T.F__law_pick.kp (T.b2__law_pick) .nil (fun _ _ => .nil) rfl (sa_cons (se_var 0) (sa_cons (se_lst (sa_cons (se_int) (sa_cons (se_int) (sa_cons (se_int) (sa_cons (se_int) (sa_cons (se_int) (sa_cons (se_pow (se_int) (se_int)) (sa_nil)))))))) (sa_nil)))) (se_call (modes := [true, false]) (more := []) (ok__law_draw T) (hr.mono (by decide)) gd rfl T.g__law_draw T.F__law_draw.kp (T.b2__law_draw) .nil (fun _ _ => .nil) rfl (sa_cons (se_var 0) (sa_cons (se_int) (sa_nil)))) (se_lst (sa_nil)) (se_tup (sa_cons (se_call (modes := [true, false]) (more := []) (ok__law_pick T) (hr.mono (by decide)) gd rfl T.g__law_pick T.F__law_pick.kp (T.b2__law_pick) .nil (fun _ _ => .nil) rfl (sa_cons (se_var 0) (sa_cons (se_lst (sa_cons (se_int) (sa_cons (se_int) (sa_cons (se_int) (sa_cons (se_int) (sa_cons (se_int) (sa_cons (se_pow (se_int) (se_int)) (sa_nil)))))))) (sa_nil)))) (sa_cons (se_call (modes := [true, false]) (more := []) (ok__law_draw T) (hr.mono (by decide)) gd rfl T.g__law_draw T.F__law_draw.kp (T.b2__law_draw) .nil (fun _ _ => .nil) rfl (sa_cons (se_var 0) (sa_cons (se_int) (sa_nil)))) (sa_cons (se_lst (sa_nil)) (sa_nil))))) (sg_tup rfl (sgs_cons (sg_name 4 sc__law_model.nd rfl (Or.inr rfl)) (sgs_cons (sg_name 5 sc__law_model.nd rfl (Or.inl rfl)) (sgs_cons (sg_name 6 sc__law_model.nd rfl (Or.inl rfl)) (sgs_nil)))))) (sss_cons (ss_for PassesOwn.never rfl (si_range1 rfl T.n_range (sa_cons (se_var 3) (sa_nil))) (sg_name 7 sc__law_model.nd rfl (Or.inl rfl)) (sss_cons (ss_setLc 8 rfl sc__law_model.nd rfl rfl (sw_true rfl rfl rfl (by decide +kernel)) (si_range1 rfl T.n_range (sa_cons (se_var 1) (sa_nil))) (blkOk_by (own := [("item", 9)]) (N := N__law_model) (sc := defScope s__law_model) (by decide +kernel)) (fun _ _ _ _ _ => sg_name 9 sc__law_model.nd rfl (Or.inl rfl)) (fun _ _ _ _ _ => sts_nil) (fun _ _ _ _ _ => se_mul (se_call (modes := [true, false]) (more := []) (ok__law_draw T) (hr.mono (by decide)) gd rfl T.g__law_draw T.F__law_draw.kp (T.b2__law_draw) .nil (fun _ _ => .nil) rfl (sa_cons (se_var 0) (sa_cons (se_var 4) (sa_nil)))) (se_callTy prim_int call_int1 rfl T.n_int (by decide +kernel) (sa_cons (se_cmp prim_cmp op_gt (nomark _) (se_call (modes := [true, false]) (more := []) (ok__law_draw T) (hr.mono (by decide)) gd rfl T.g__law_draw T.F__law_draw.kp (T.b2__law_draw) .nil (fun _ _ => .nil) rfl (sa_cons (se_var 0) (sa_cons (se_int) (sa_nil)))) (se_int)) (sa_nil)))) rfl (by decide)) (sss_cons (ss_append 8 (fun h => pe_bm PySem.F.plainAttrs_list PySem.F.slot_list_append PySem.F.type_list_append mt_append (pv 8) (pa_cons h pa_nil)) (se_mul (se_call (modes := [true, false]) (more := []) (ok__law_draw T) (hr.mono (by decide)) gd rfl T.g__law_draw T.F__law_draw.kp (T.b2__law_draw) .nil (fun _ _ => .nil) rfl (sa_cons (se_var 0) (sa_cons (se_var 4) (sa_nil)))) (se_callTy prim_int call_int1 rfl T.n_int (by decide +kernel) (sa_cons (se_and (se_cmp prim_cmp op_gt (nomark _) (se_var 5) (se_int)) (se_one (se_cmp prim_eq (op_eqP hr.units) (nomark _) (se_call (modes := [true, false]) (more := []) (ok__law_draw T) (hr.mono (by decide)) gd rfl T.g__law_draw T.F__law_draw.kp (T.b2__law_draw) .nil (fun _ _ => .nil) rfl (sa_cons (se_var 0) (sa_cons (se_var 5) (sa_nil)))) (se_int)))) (sa_nil))))) (sss_cons (ss_if (st_cmp prim_eq (op_eqP hr.units) (nomark _) (se_callB prim_sum (cr_sum rfl) rfl T.n_sum (by decide +kernel) (sa_cons (se_var 8) (sa_nil))) (se_int)) (sss_one (ss_setIx 8 (pv 8) (se_call (modes := [true, false]) (more := []) (ok__law_draw T) (hr.mono (by decide)) gd rfl T.g__law_draw T.F__law_draw.kp (T.b2__law_draw) .nil (fun _ _ => .nil) rfl (sa_cons (se_var 0) (sa_cons (se_add (se_var 1) (se_int)) (sa_nil)))) (se_add (se_int) (se_call (modes := [true, false]) (more := []) (ok__law_draw T) (hr.mono (by decide)) gd rfl T.g__law_draw T.F__law_draw.kp (T.b2__law_draw) .nil (fun _ _ => .nil) rfl (sa_cons (se_var 0) (sa_cons (se_int) (sa_nil))))))) (sss_nil)) (sss_one (ss_append 6 (fun h => pe_bm PySem.F.plainAttrs_list PySem.F.slot_list_append PySem.F.type_list_append mt_append (pv 6) (pa_cons h pa_nil)) (se_tup (sa_cons (se_var 8) (sa_cons (se_lc rfl sc__law_model.nd (si_seq (se_slice (se_var 8) (so_none) (so_some (se_neg (se_int))))) (blkOk_by (own := [("number", 10)]) (N := N__law_model) (sc := defScope s__law_model) (by decide +kernel)) (fun _ _ _ _ _ => sg_name 10 sc__law_model.nd rfl (Or.inl rfl)) (fun _ _ _ _ _ => sts_nil) (fun _ _ _ _ _ => se_if (st_cmp prim_cmp op_gt (nomark _) (se_var 10) (se_int)) (se_call (modes := [true, false]) (more := []) (ok__law_draw T) (hr.mono (by decide)) gd rfl T.g__law_draw T.F__law_draw.kp (T.b2__law_draw) .nil (fun _ _ => .nil) rfl (sa_cons (se_var 0) (sa_cons (se_var 3) (sa_nil)))) (se_non)) rfl (by decide)) (sa_nil)))))))))) (sss_one (ss_ret (se_tup (sa_cons (se_str) (sa_cons (se_var 1) (sa_cons (se_var 6) (sa_nil))))))))))⟩
theorem ok__law_hidden (T : Tx K mg) : FnG P w K mg base CX0 4 T.f__law_hidden T.d__law_hidden ["purse", "many", "count", "most"] (spD K 4 m__law_hidden) := by
  show FnG P w K mg base CX0 (3 + 1) T.f__law_hidden T.d__law_hidden ["purse", "many", "count", "most"] (spD K (["purse", "many", "count", "most"] : List Str).length (run N__law_hidden.length g__law_hidden))
  refine dl_ok (N := N__law_hidden) (ps := ["purse", "many", "count", "most"]) (k := 3) (b := g__law_hidden) T.F__law_hidden sc__law_hidden (by decide) ?_
  intro cdv A outer s H E hr gd
  exact ⟨_, dl_both (sss_one (ss_ret (se_lc rfl sc__law_hidden.nd (si_range1 rfl T.n_range (sa_cons (se_var 2) (sa_nil))) (blkOk_by (own := [("turn", 4)]) (N := N__law_hidden) (sc := defScope s__law_hidden) (by decide +kernel)) (fun _ _ _ _ _ => sg_name 4 sc__law_hidden.nd rfl (Or.inl rfl)) (fun _ _ _ _ _ => sts_nil) (fun _ _ _ _ _ => se_tup (sa_cons (se_add (se_int) (se_call (modes := [true, false]) (more := []) (ok__law_draw T) (hr.mono (by decide)) gd rfl T.g__law_draw T.F__law_draw.kp (T.b2__law_draw) .nil (fun _ _ => .nil) rfl (sa_cons (se_var 0) (sa_cons (se_call (modes := [true, false]) (more := []) (ok__law_pick T) (hr.mono (by decide)) gd rfl T.g__law_pick T.F__law_pick.kp (T.b2__law_pick) .nil (fun _ _ => .nil) rfl (sa_cons (se_var 0) (sa_cons (se_lst (sa_cons (se_int) (sa_cons (se_int) (sa_cons (se_pow (se_int) (se_int)) (sa_nil))))) (sa_nil)))) (sa_nil))))) (sa_cons (se_call (modes := [true, false, false]) (more := []) (ok__law_model T) (hr.mono (by decide)) gd rfl T.g__law_model T.F__law_model.kp (T.b3__law_model) .nil (fun _ _ => .nil) rfl (sa_cons (se_var 0) (sa_cons (se_var 1) (sa_cons (se_var 3) (sa_nil))))) (sa_nil)))) rfl (by decide))))⟩
theorem ok__law_purse (T : Tx K mg) : FnG P w K mg base CX0 1 T.f__law_purse T.d__law_purse ["script"] (spD K 1 m__law_purse) := by
  show FnG P w K mg base CX0 (0 + 1) T.f__law_purse T.d__law_purse ["script"] (spD K (["script"] : List Str).length (run N__law_purse.length g__law_purse))
  refine dl_ok (N := N__law_purse) (ps := ["script"]) (k := 0) (b := g__law_purse) T.F__law_purse sc__law_purse (by decide) ?_
  intro cdv A outer s H E hr gd
  exact ⟨_, dl_both (sss_cons (ss_set 1 sc__law_purse.nd rfl (Or.inl rfl) (se_int)) (sss_cons (ss_for PassesOwn.never rfl (si_seq (se_slice (se_var 0) (so_none) (so_some (se_int)))) (sg_name 2 sc__law_purse.nd rfl (Or.inl rfl)) (sss_one (ss_set 1 sc__law_purse.nd rfl (Or.inl rfl) (se_mod (se_callTy prim_int call_int1 rfl T.n_int (by decide +kernel) (sa_cons (se_add (se_mul (se_var 1) (se_int)) (se_var 2)) (sa_nil))) (se_int))))) (sss_one (ss_ret (se_lst (sa_cons (se_lc rfl sc__law_purse.nd (si_seq (se_slice (se_var 0) (so_none) (so_some (se_int)))) (blkOk_by (own := [("cell", 2)]) (N := N__law_purse) (sc := defScope s__law_purse) (by decide +kernel)) (fun _ _ _ _ _ => sg_name 2 sc__law_purse.nd rfl (Or.inl rfl)) (fun _ _ _ _ _ => sts_one (st_cmp prim_cmp op_ge (nomark _) (se_var 2) (se_pow (se_int) (se_int)))) (fun _ _ _ _ _ => se_var 2) rfl (by decide)) (sa_cons (se_int) (sa_cons (se_int) (sa_cons (se_int) (sa_cons (se_var 1) (sa_nil)))))))))))⟩
theorem ok_law (T : Tx K mg) : FnG P w K mg base CX0 11 T.f_law T.d_law ["script"] (spD K 1 m_law) := by
  show FnG P w K mg base CX0 (10 + 1) T.f_law T.d_law ["script"] (spD K (["script"] : List Str).length (run N_law.length g_law))
  refine dl_ok (N := N_law) (ps := ["script"]) (k := 10) (b := g_law) T.F_law sc_law (by decide) ?_
  intro cdv A outer s H E hr gd
  exact ⟨_, dl_both (sss_cons (ss_set 1 sc_law.nd rfl (Or.inl rfl) (se_call (modes := [false]) (more := []) (ok__law_purse T) (hr.mono (by decide)) gd rfl T.g__law_purse T.F__law_purse.kp (T.b1__law_purse) .nil (fun _ _ => .nil) rfl (sa_cons (se_var 0) (sa_nil)))) (sss_cons (ss_for PassesOwn.never rfl (si_range1 rfl T.n_range (sa_cons (se_int) (sa_nil))) (sg_name 2 sc_law.nd rfl (Or.inl rfl)) (sss_cons (ss_set 3 sc_law.nd rfl (Or.inl rfl) (se_add (se_int) (se_call (modes := [true, false]) (more := []) (ok__law_draw T) (hr.mono (by decide)) gd rfl T.g__law_draw T.F__law_draw.kp (T.b2__law_draw) .nil (fun _ _ => .nil) rfl (sa_cons (se_var 1) (sa_cons (se_int) (sa_nil)))))) (sss_cons (ss_set 4 sc_law.nd rfl (Or.inl rfl) (se_call (modes := [true, false, false, false]) (more := []) (ok__law_hidden T) (hr.mono (by decide)) gd rfl T.g__law_hidden T.F__law_hidden.kp (T.b4__law_hidden) .nil (fun _ _ => .nil) rfl (sa_cons (se_var 1) (sa_cons (se_var 3) (sa_cons (se_add (se_int) (se_call (modes := [true, false]) (more := []) (ok__law_draw T) (hr.mono (by decide)) gd rfl T.g__law_draw T.F__law_draw.kp (T.b2__law_draw) .nil (fun _ _ => .nil) rfl (sa_cons (se_var 1) (sa_cons (se_int) (sa_nil))))) (sa_cons (se_int) (sa_nil))))))) (sss_cons (ss_set 4 sc_law.nd rfl (Or.inl rfl) (se_if (st_cmp prim_cmp op_lt (nomark _) (se_callB prim_len call_lenD' rfl T.n_len (by decide +kernel) (sa_cons (se_var 4) (sa_nil))) (se_int)) (se_add (se_var 4) (se_slice (se_lst (sa_cons (se_call (modes := [true, false]) (more := []) (ok__law_pick T) (hr.mono (by decide)) gd rfl T.g__law_pick T.F__law_pick.kp (T.b2__law_pick) .nil (fun _ _ => .nil) rfl (sa_cons (se_var 1) (sa_cons (se_var 4) (sa_nil)))) (sa_nil))) (so_none) (so_some (se_call (modes := [true, false]) (more := []) (ok__law_draw T) (hr.mono (by decide)) gd rfl T.g__law_draw T.F__law_draw.kp (T.b2__law_draw) .nil (fun _ _ => .nil) rfl (sa_cons (se_var 1) (sa_cons (se_int) (sa_nil))))))) (se_var 4))) (sss_cons (ss_set 5 sc_law.nd rfl (Or.inl rfl) (se_callB prim_repr (call_repr gd hr.units) rfl T.n_repr (by decide +kernel) (sa_cons (se_var 4) (sa_nil)))) (sss_cons (ss_for PassesOwn.never rfl (si_seq (se_add (se_lst (sa_cons (se_var 4) (sa_nil))) (se_call (modes := [true, false]) (more := []) (ok__law_bents T) (hr.mono (by decide)) gd rfl T.g__law_bents T.F__law_bents.kp (T.b2__law_bents) .nil (fun _ _ => .nil) rfl (sa_cons (se_var 1) (sa_cons (se_var 4) (sa_nil)))))) (sg_name 6 sc_law.nd rfl (Or.inl rfl)) (sss_cons (ss_par 7 8 rfl sc_law.nd rfl rfl (by decide) rfl rfl (sa_cons (se_callB prim_repr (call_repr gd hr.units) rfl T.n_repr (by decide +kernel) (sa_cons (se_var 6) (sa_nil))) (sa_cons (se_call (modes := [false, false]) (more := []) (ok__law_is T) (hr.mono (by decide)) gd rfl T.g__law_is T.F__law_is.kp (T.b2__law_is) .nil (fun _ _ => .nil) rfl (sa_cons (se_var 6) (sa_cons (se_var 3) (sa_nil)))) (sa_nil))) rfl) (sss_one (ss_if (st_w (sw_or (st_not (st_val (se_call (modes := [false, false]) (more := []) (ok__law_same T 8) (hr.mono (by decide)) gd rfl T.g__law_same T.F__law_same.kp (T.b2__law_same) .nil (fun _ _ => .nil) rfl (sa_cons (se_lst (sa_cons (se_call (modes := [false]) (more := []) (ok_is_hidden T) (hr.mono (by decide)) gd rfl T.g_is_hidden T.F_is_hidden.kp (T.b1_is_hidden) .nil (fun _ _ => .nil) rfl (sa_cons (se_var 6) (sa_nil))) (sa_cons (se_callP0 (more := []) (ok_is_hidden T) (hr.mono (by decide)) gd rfl T.g_is_hidden T.F_is_hidden.kp T.k0_value_is_hidden .nil (fun _ _ => .nil) rfl rfl (sk_cons (se_var 6) (sk_nil))) (sa_nil)))) (sa_cons (se_lst (sa_cons (se_var 8) (sa_cons (se_var 8) (sa_nil)))) (sa_nil)))))) (sw_or1 (st_cmp prim_ne (op_neP hr.units) (nomark _) (se_callB prim_repr (call_repr gd hr.units) rfl T.n_repr (by decide +kernel) (sa_cons (se_var 6) (sa_nil))) (se_var 7))))) (sss_one (ss_ret (se_bl))) (sss_nil))))) (sss_cons (ss_for PassesOwn.never rfl (si_range1 rfl T.n_range (sa_cons (se_int) (sa_nil))) (sg_name 9 sc_law.nd rfl (Or.inl rfl)) (sss_one (ss_if (st_not (st_val (se_call (modes := [true, false, false]) (more := []) (ok__law_rows_right T) (hr.mono (by decide)) gd rfl T.g__law_rows_right T.F__law_rows_right.kp (T.b3__law_rows_right) .nil (fun _ _ => .nil) rfl (sa_cons (se_var 1) (sa_cons (se_var 4) (sa_cons (se_var 3) (sa_nil))))))) (sss_one (ss_ret (se_bl))) (sss_nil)))) (sss_one (ss_if (st_cmp prim_ne (op_neP hr.units) (nomark _) (se_callB prim_repr (call_repr gd hr.units) rfl T.n_repr (by decide +kernel) (sa_cons (se_var 4) (sa_nil))) (se_var 5)) (sss_one (ss_ret (se_bl))) (sss_nil)))))))))) (sss_one (ss_ret (se_bl)))))⟩
end
theorem all_mk {K : PySem.W.Frag} {h : Heap} {mg : Str → Option Value} (X : K.In h) (G : h.Ns mainGlobals mg)
    {f1 : Addr} {od1 an1 : Option Addr} {sl1 : Array (Option Value)} {oc1 kV1 dc1 pm1 cd1 ct1 : Value}
    {T1 : Addr} {cT1 : Value} {dT1 : Option Addr} {nT1 : Nat} {sT1 : Array (Option Value)} {tk1_0 : Tok}
    {f2 : Addr} {od2 an2 : Option Addr} {sl2 : Array (Option Value)} {oc2 kV2 dc2 pm2 cd2 ct2 : Value}
    {f3 : Addr} {od3 an3 : Option Addr} {sl3 : Array (Option Value)} {oc3 kV3 dc3 pm3 cd3 ct3 : Value}
    {f4 : Addr} {od4 an4 : Option Addr} {sl4 : Array (Option Value)} {oc4 kV4 dc4 pm4 cd4 ct4 : Value}
    {f5 : Addr} {od5 an5 : Option Addr} {sl5 : Array (Option Value)} {oc5 kV5 dc5 pm5 cd5 ct5 : Value}
    {f6 : Addr} {od6 an6 : Option Addr} {sl6 : Array (Option Value)} {oc6 kV6 dc6 pm6 cd6 ct6 : Value}
    {f7 : Addr} {od7 an7 : Option Addr} {sl7 : Array (Option Value)} {oc7 kV7 dc7 pm7 cd7 ct7 : Value}
    {f8 : Addr} {od8 an8 : Option Addr} {sl8 : Array (Option Value)} {oc8 kV8 dc8 pm8 cd8 ct8 : Value}
    {f9 : Addr} {od9 an9 : Option Addr} {sl9 : Array (Option Value)} {oc9 kV9 dc9 pm9 cd9 ct9 : Value}
    {f10 : Addr} {od10 an10 : Option Addr} {sl10 : Array (Option Value)} {oc10 kV10 dc10 pm10 cd10 ct10 : Value}
    {f11 : Addr} {od11 an11 : Option Addr} {sl11 : Array (Option Value)} {oc11 kV11 dc11 pm11 cd11 ct11 : Value}
    {f12 : Addr} {od12 an12 : Option Addr} {sl12 : Array (Option Value)} {oc12 kV12 dc12 pm12 cd12 ct12 : Value}
    {f13 : Addr} {od13 an13 : Option Addr} {sl13 : Array (Option Value)} {oc13 kV13 dc13 pm13 cd13 ct13 : Value}
    {f14 : Addr} {od14 an14 : Option Addr} {sl14 : Array (Option Value)} {oc14 kV14 dc14 pm14 cd14 ct14 : Value}
    {f15 : Addr} {od15 an15 : Option Addr} {sl15 : Array (Option Value)} {oc15 kV15 dc15 pm15 cd15 ct15 : Value}
    {f16 : Addr} {od16 an16 : Option Addr} {sl16 : Array (Option Value)} {oc16 kV16 dc16 pm16 cd16 ct16 : Value}
    {f17 : Addr} {od17 an17 : Option Addr} {sl17 : Array (Option Value)} {oc17 kV17 dc17 pm17 cd17 ct17 : Value}
    {f18 : Addr} {od18 an18 : Option Addr} {sl18 : Array (Option Value)} {oc18 kV18 dc18 pm18 cd18 ct18 : Value}
    {f19 : Addr} {od19 an19 : Option Addr} {sl19 : Array (Option Value)} {oc19 kV19 dc19 pm19 cd19 ct19 : Value}
    {f20 : Addr} {od20 an20 : Option Addr} {sl20 : Array (Option Value)} {oc20 kV20 dc20 pm20 cd20 ct20 : Value}
    {f21 : Addr} {od21 an21 : Option Addr} {sl21 : Array (Option Value)} {oc21 kV21 dc21 pm21 cd21 ct21 : Value}
    {f22 : Addr} {od22 an22 : Option Addr} {sl22 : Array (Option Value)} {oc22 kV22 dc22 pm22 cd22 ct22 : Value}
    {f23 : Addr} {od23 an23 : Option Addr} {sl23 : Array (Option Value)} {oc23 kV23 dc23 pm23 cd23 ct23 : Value}
    {f24 : Addr} {od24 an24 : Option Addr} {sl24 : Array (Option Value)} {oc24 kV24 dc24 pm24 cd24 ct24 : Value}
    {f25 : Addr} {od25 an25 : Option Addr} {sl25 : Array (Option Value)} {oc25 kV25 dc25 pm25 cd25 ct25 : Value}
    {f26 : Addr} {od26 an26 : Option Addr} {sl26 : Array (Option Value)} {oc26 kV26 dc26 pm26 cd26 ct26 : Value}
    {f27 : Addr} {od27 an27 : Option Addr} {sl27 : Array (Option Value)} {oc27 kV27 dc27 pm27 cd27 ct27 : Value}
    {f28 : Addr} {od28 an28 : Option Addr} {sl28 : Array (Option Value)} {oc28 kV28 dc28 pm28 cd28 ct28 : Value}
    {f29 : Addr} {od29 an29 : Option Addr} {sl29 : Array (Option Value)} {oc29 kV29 dc29 pm29 cd29 ct29 : Value}
    {f30 : Addr} {od30 an30 : Option Addr} {sl30 : Array (Option Value)} {oc30 kV30 dc30 pm30 cd30 ct30 : Value}
    {f31 : Addr} {od31 an31 : Option Addr} {sl31 : Array (Option Value)} {oc31 kV31 dc31 pm31 cd31 ct31 : Value}
    {f32 : Addr} {od32 an32 : Option Addr} {sl32 : Array (Option Value)} {oc32 kV32 dc32 pm32 cd32 ct32 : Value}
    {f33 : Addr} {od33 an33 : Option Addr} {sl33 : Array (Option Value)} {oc33 kV33 dc33 pm33 cd33 ct33 : Value}
    {f34 : Addr} {od34 an34 : Option Addr} {sl34 : Array (Option Value)} {oc34 kV34 dc34 pm34 cd34 ct34 : Value}
    {f35 : Addr} {od35 an35 : Option Addr} {sl35 : Array (Option Value)} {oc35 kV35 dc35 pm35 cd35 ct35 : Value}
    {f36 : Addr} {od36 an36 : Option Addr} {sl36 : Array (Option Value)} {oc36 kV36 dc36 pm36 cd36 ct36 : Value}
    {f37 : Addr} {od37 an37 : Option Addr} {sl37 : Array (Option Value)} {oc37 kV37 dc37 pm37 cd37 ct37 : Value}
    {f38 : Addr} {od38 an38 : Option Addr} {sl38 : Array (Option Value)} {oc38 kV38 dc38 pm38 cd38 ct38 : Value}
    {f39 : Addr} {od39 an39 : Option Addr} {sl39 : Array (Option Value)} {oc39 kV39 dc39 pm39 cd39 ct39 : Value}
    {f40 : Addr} {od40 an40 : Option Addr} {sl40 : Array (Option Value)} {oc40 kV40 dc40 pm40 cd40 ct40 : Value}
    {f41 : Addr} {od41 an41 : Option Addr} {sl41 : Array (Option Value)} {oc41 kV41 dc41 pm41 cd41 ct41 : Value}
    {f42 : Addr} {od42 an42 : Option Addr} {sl42 : Array (Option Value)} {oc42 kV42 dc42 pm42 cd42 ct42 : Value}
    {f43 : Addr} {od43 an43 : Option Addr} {sl43 : Array (Option Value)} {oc43 kV43 dc43 pm43 cd43 ct43 : Value}
    {f44 : Addr} {od44 an44 : Option Addr} {sl44 : Array (Option Value)} {oc44 kV44 dc44 pm44 cd44 ct44 : Value}
    {f45 : Addr} {od45 an45 : Option Addr} {sl45 : Array (Option Value)} {oc45 kV45 dc45 pm45 cd45 ct45 : Value}
    {f46 : Addr} {od46 an46 : Option Addr} {sl46 : Array (Option Value)} {oc46 kV46 dc46 pm46 cd46 ct46 : Value}
    {yt_MOST_PIECES : Tok}
    (a1 : PySem.W.nsIn K mainGlobals "is_count" = some (some (.ref f1)))
    (l1 : K.lookup f1 = some ⟨oc1, od1, .func (PySem.W.fnOf "is_count" "is_count" (defArgs s_is_count) (defBody s_is_count) (defScope s_is_count) (.ref T1) kV1 dc1 pm1 an1 cd1 ct1), sl1⟩)
    (t1 : K.lookup T1 = some ⟨cT1, dT1, .seq (List.toArray [.int 0 tk1_0]) nT1, sT1⟩)
    (c1 : PySem.W.codeIn K cd1 "is_count" = true)
    (k1 : PySem.W.keepIn K (.ref f1) = true)
    (a2 : PySem.W.nsIn K mainGlobals "divisor" = some (some (.ref f2)))
    (l2 : K.lookup f2 = some ⟨oc2, od2, .func (PySem.W.fnOf "divisor" "divisor" (defArgs s_divisor) (defBody s_divisor) (defScope s_divisor) .none kV2 dc2 pm2 an2 cd2 ct2), sl2⟩)
    (c2 : PySem.W.codeIn K cd2 "divisor" = true)
    (k2 : PySem.W.keepIn K (.ref f2) = true)
    (a3 : PySem.W.nsIn K mainGlobals "by_lowest" = some (some (.ref f3)))
    (l3 : K.lookup f3 = some ⟨oc3, od3, .func (PySem.W.fnOf "by_lowest" "by_lowest" (defArgs s_by_lowest) (defBody s_by_lowest) (defScope s_by_lowest) .none kV3 dc3 pm3 an3 cd3 ct3), sl3⟩)
    (c3 : PySem.W.codeIn K cd3 "by_lowest" = true)
    (k3 : PySem.W.keepIn K (.ref f3) = true)
    (a4 : PySem.W.nsIn K mainGlobals "put_together" = some (some (.ref f4)))
    (l4 : K.lookup f4 = some ⟨oc4, od4, .func (PySem.W.fnOf "put_together" "put_together" (defArgs s_put_together) (defBody s_put_together) (defScope s_put_together) .none kV4 dc4 pm4 an4 cd4 ct4), sl4⟩)
    (c4 : PySem.W.codeIn K cd4 "put_together" = true)
    (k4 : PySem.W.keepIn K (.ref f4) = true)
    (a5 : PySem.W.nsIn K mainGlobals "times" = some (some (.ref f5)))
    (l5 : K.lookup f5 = some ⟨oc5, od5, .func (PySem.W.fnOf "times" "times" (defArgs s_times) (defBody s_times) (defScope s_times) .none kV5 dc5 pm5 an5 cd5 ct5), sl5⟩)
    (c5 : PySem.W.codeIn K cd5 "times" = true)
    (k5 : PySem.W.keepIn K (.ref f5) = true)
    (a6 : PySem.W.nsIn K mainGlobals "total" = some (some (.ref f6)))
    (l6 : K.lookup f6 = some ⟨oc6, od6, .func (PySem.W.fnOf "total" "total" (defArgs s_total) (defBody s_total) (defScope s_total) .none kV6 dc6 pm6 an6 cd6 ct6), sl6⟩)
    (c6 : PySem.W.codeIn K cd6 "total" = true)
    (k6 : PySem.W.keepIn K (.ref f6) = true)
    (a7 : PySem.W.nsIn K mainGlobals "shared" = some (some (.ref f7)))
    (l7 : K.lookup f7 = some ⟨oc7, od7, .func (PySem.W.fnOf "shared" "shared" (defArgs s_shared) (defBody s_shared) (defScope s_shared) .none kV7 dc7 pm7 an7 cd7 ct7), sl7⟩)
    (c7 : PySem.W.codeIn K cd7 "shared" = true)
    (k7 : PySem.W.keepIn K (.ref f7) = true)
    (a8 : PySem.W.nsIn K mainGlobals "are_counts" = some (some (.ref f8)))
    (l8 : K.lookup f8 = some ⟨oc8, od8, .func (PySem.W.fnOf "are_counts" "are_counts" (defArgs s_are_counts) (defBody s_are_counts) (defScope s_are_counts) .none kV8 dc8 pm8 an8 cd8 ct8), sl8⟩)
    (c8 : PySem.W.codeIn K cd8 "are_counts" = true)
    (k8 : PySem.W.keepIn K (.ref f8) = true)
    (a9 : PySem.W.nsIn K mainGlobals "is_table" = some (some (.ref f9)))
    (l9 : K.lookup f9 = some ⟨oc9, od9, .func (PySem.W.fnOf "is_table" "is_table" (defArgs s_is_table) (defBody s_is_table) (defScope s_is_table) .none kV9 dc9 pm9 an9 cd9 ct9), sl9⟩)
    (c9 : PySem.W.codeIn K cd9 "is_table" = true)
    (k9 : PySem.W.keepIn K (.ref f9) = true)
    (a10 : PySem.W.nsIn K mainGlobals "is_state" = some (some (.ref f10)))
    (l10 : K.lookup f10 = some ⟨oc10, od10, .func (PySem.W.fnOf "is_state" "is_state" (defArgs s_is_state) (defBody s_is_state) (defScope s_is_state) .none kV10 dc10 pm10 an10 cd10 ct10), sl10⟩)
    (c10 : PySem.W.codeIn K cd10 "is_state" = true)
    (k10 : PySem.W.keepIn K (.ref f10) = true)
    (a11 : PySem.W.nsIn K mainGlobals "is_model" = some (some (.ref f11)))
    (l11 : K.lookup f11 = some ⟨oc11, od11, .func (PySem.W.fnOf "is_model" "is_model" (defArgs s_is_model) (defBody s_is_model) (defScope s_is_model) .none kV11 dc11 pm11 an11 cd11 ct11), sl11⟩)
    (c11 : PySem.W.codeIn K cd11 "is_model" = true)
    (k11 : PySem.W.keepIn K (.ref f11) = true)
    (a12 : PySem.W.nsIn K mainGlobals "is_row" = some (some (.ref f12)))
    (l12 : K.lookup f12 = some ⟨oc12, od12, .func (PySem.W.fnOf "is_row" "is_row" (defArgs s_is_row) (defBody s_is_row) (defScope s_is_row) .none kV12 dc12 pm12 an12 cd12 ct12), sl12⟩)
    (c12 : PySem.W.codeIn K cd12 "is_row" = true)
    (k12 : PySem.W.keepIn K (.ref f12) = true)
    (a13 : PySem.W.nsIn K mainGlobals "is_beginning" = some (some (.ref f13)))
    (l13 : K.lookup f13 = some ⟨oc13, od13, .func (PySem.W.fnOf "is_beginning" "is_beginning" (defArgs s_is_beginning) (defBody s_is_beginning) (defScope s_is_beginning) .none kV13 dc13 pm13 an13 cd13 ct13), sl13⟩)
    (c13 : PySem.W.codeIn K cd13 "is_beginning" = true)
    (k13 : PySem.W.keepIn K (.ref f13) = true)
    (a14 : PySem.W.nsIn K mainGlobals "look_at_row" = some (some (.ref f14)))
    (l14 : K.lookup f14 = some ⟨oc14, od14, .func (PySem.W.fnOf "look_at_row" "look_at_row" (defArgs s_look_at_row) (defBody s_look_at_row) (defScope s_look_at_row) .none kV14 dc14 pm14 an14 cd14 ct14), sl14⟩)
    (c14 : PySem.W.codeIn K cd14 "look_at_row" = true)
    (k14 : PySem.W.keepIn K (.ref f14) = true)
    (a15 : PySem.W.nsIn K mainGlobals "led" = some (some (.ref f15)))
    (l15 : K.lookup f15 = some ⟨oc15, od15, .func (PySem.W.fnOf "led" "led" (defArgs s_led) (defBody s_led) (defScope s_led) .none kV15 dc15 pm15 an15 cd15 ct15), sl15⟩)
    (c15 : PySem.W.codeIn K cd15 "led" = true)
    (k15 : PySem.W.keepIn K (.ref f15) = true)
    (a16 : PySem.W.nsIn K mainGlobals "odds_along" = some (some (.ref f16)))
    (l16 : K.lookup f16 = some ⟨oc16, od16, .func (PySem.W.fnOf "odds_along" "odds_along" (defArgs s_odds_along) (defBody s_odds_along) (defScope s_odds_along) .none kV16 dc16 pm16 an16 cd16 ct16), sl16⟩)
    (c16 : PySem.W.codeIn K cd16 "odds_along" = true)
    (k16 : PySem.W.keepIn K (.ref f16) = true)
    (a17 : PySem.W.nsIn K mainGlobals "is_choice" = some (some (.ref f17)))
    (l17 : K.lookup f17 = some ⟨oc17, od17, .func (PySem.W.fnOf "is_choice" "is_choice" (defArgs s_is_choice) (defBody s_is_choice) (defScope s_is_choice) .none kV17 dc17 pm17 an17 cd17 ct17), sl17⟩)
    (c17 : PySem.W.codeIn K cd17 "is_choice" = true)
    (k17 : PySem.W.keepIn K (.ref f17) = true)
    (a18 : PySem.W.nsIn K mainGlobals "is_hidden" = some (some (.ref f18)))
    (l18 : K.lookup f18 = some ⟨oc18, od18, .func (PySem.W.fnOf "is_hidden" "is_hidden" (defArgs s_is_hidden) (defBody s_is_hidden) (defScope s_is_hidden) .none kV18 dc18 pm18 an18 cd18 ct18), sl18⟩)
    (c18 : PySem.W.codeIn K cd18 "is_hidden" = true)
    (k18 : PySem.W.keepIn K (.ref f18) = true)
    (a19 : PySem.W.nsIn K mainGlobals "look_at_hidden" = some (some (.ref f19)))
    (l19 : K.lookup f19 = some ⟨oc19, od19, .func (PySem.W.fnOf "look_at_hidden" "look_at_hidden" (defArgs s_look_at_hidden) (defBody s_look_at_hidden) (defScope s_look_at_hidden) .none kV19 dc19 pm19 an19 cd19 ct19), sl19⟩)
    (c19 : PySem.W.codeIn K cd19 "look_at_hidden" = true)
    (k19 : PySem.W.keepIn K (.ref f19) = true)
    (a20 : PySem.W.nsIn K mainGlobals "parts" = some (some (.ref f20)))
    (l20 : K.lookup f20 = some ⟨oc20, od20, .func (PySem.W.fnOf "parts" "parts" (defArgs s_parts) (defBody s_parts) (defScope s_parts) .none kV20 dc20 pm20 an20 cd20 ct20), sl20⟩)
    (c20 : PySem.W.codeIn K cd20 "parts" = true)
    (k20 : PySem.W.keepIn K (.ref f20) = true)
    (a21 : PySem.W.nsIn K mainGlobals "hidden_odds" = some (some (.ref f21)))
    (l21 : K.lookup f21 = some ⟨oc21, od21, .func (PySem.W.fnOf "hidden_odds" "hidden_odds" (defArgs s_hidden_odds) (defBody s_hidden_odds) (defScope s_hidden_odds) .none kV21 dc21 pm21 an21 cd21 ct21), sl21⟩)
    (c21 : PySem.W.codeIn K cd21 "hidden_odds" = true)
    (k21 : PySem.W.keepIn K (.ref f21) = true)
    (a22 : PySem.W.nsIn K mainGlobals "believed" = some (some (.ref f22)))
    (l22 : K.lookup f22 = some ⟨oc22, od22, .func (PySem.W.fnOf "believed" "believed" (defArgs s_believed) (defBody s_believed) (defScope s_believed) .none kV22 dc22 pm22 an22 cd22 ct22), sl22⟩)
    (c22 : PySem.W.codeIn K cd22 "believed" = true)
    (k22 : PySem.W.keepIn K (.ref f22) = true)
    (a23 : PySem.W.nsIn K mainGlobals "belief" = some (some (.ref f23)))
    (l23 : K.lookup f23 = some ⟨oc23, od23, .func (PySem.W.fnOf "belief" "belief" (defArgs s_belief) (defBody s_belief) (defScope s_belief) .none kV23 dc23 pm23 an23 cd23 ct23), sl23⟩)
    (c23 : PySem.W.codeIn K cd23 "belief" = true)
    (k23 : PySem.W.keepIn K (.ref f23) = true)
    (a24 : PySem.W.nsIn K mainGlobals "next_odds" = some (some (.ref f24)))
    (l24 : K.lookup f24 = some ⟨oc24, od24, .func (PySem.W.fnOf "next_odds" "next_odds" (defArgs s_next_odds) (defBody s_next_odds) (defScope s_next_odds) .none kV24 dc24 pm24 an24 cd24 ct24), sl24⟩)
    (c24 : PySem.W.codeIn K cd24 "next_odds" = true)
    (k24 : PySem.W.keepIn K (.ref f24) = true)
    (a25 : PySem.W.nsIn K mainGlobals "_law_draw" = some (some (.ref f25)))
    (l25 : K.lookup f25 = some ⟨oc25, od25, .func (PySem.W.fnOf "_law_draw" "_law_draw" (defArgs s__law_draw) (defBody s__law_draw) (defScope s__law_draw) .none kV25 dc25 pm25 an25 cd25 ct25), sl25⟩)
    (c25 : PySem.W.codeIn K cd25 "_law_draw" = true)
    (k25 : PySem.W.keepIn K (.ref f25) = true)
    (a26 : PySem.W.nsIn K mainGlobals "_law_bents" = some (some (.ref f26)))
    (l26 : K.lookup f26 = some ⟨oc26, od26, .func (PySem.W.fnOf "_law_bents" "_law_bents" (defArgs s__law_bents) (defBody s__law_bents) (defScope s__law_bents) .none kV26 dc26 pm26 an26 cd26 ct26), sl26⟩)
    (c26 : PySem.W.codeIn K cd26 "_law_bents" = true)
    (k26 : PySem.W.keepIn K (.ref f26) = true)
    (a27 : PySem.W.nsIn K mainGlobals "_law_is_whole" = some (some (.ref f27)))
    (l27 : K.lookup f27 = some ⟨oc27, od27, .func (PySem.W.fnOf "_law_is_whole" "_law_is_whole" (defArgs s__law_is_whole) (defBody s__law_is_whole) (defScope s__law_is_whole) .none kV27 dc27 pm27 an27 cd27 ct27), sl27⟩)
    (c27 : PySem.W.codeIn K cd27 "_law_is_whole" = true)
    (k27 : PySem.W.keepIn K (.ref f27) = true)
    (a28 : PySem.W.nsIn K mainGlobals "_law_is_model" = some (some (.ref f28)))
    (l28 : K.lookup f28 = some ⟨oc28, od28, .func (PySem.W.fnOf "_law_is_model" "_law_is_model" (defArgs s__law_is_model) (defBody s__law_is_model) (defScope s__law_is_model) .none kV28 dc28 pm28 an28 cd28 ct28), sl28⟩)
    (c28 : PySem.W.codeIn K cd28 "_law_is_model" = true)
    (k28 : PySem.W.keepIn K (.ref f28) = true)
    (a29 : PySem.W.nsIn K mainGlobals "_law_is" = some (some (.ref f29)))
    (l29 : K.lookup f29 = some ⟨oc29, od29, .func (PySem.W.fnOf "_law_is" "_law_is" (defArgs s__law_is) (defBody s__law_is) (defScope s__law_is) .none kV29 dc29 pm29 an29 cd29 ct29), sl29⟩)
    (c29 : PySem.W.codeIn K cd29 "_law_is" = true)
    (k29 : PySem.W.keepIn K (.ref f29) = true)
    (a30 : PySem.W.nsIn K mainGlobals "_law_pick" = some (some (.ref f30)))
    (l30 : K.lookup f30 = some ⟨oc30, od30, .func (PySem.W.fnOf "_law_pick" "_law_pick" (defArgs s__law_pick) (defBody s__law_pick) (defScope s__law_pick) .none kV30 dc30 pm30 an30 cd30 ct30), sl30⟩)
    (c30 : PySem.W.codeIn K cd30 "_law_pick" = true)
    (k30 : PySem.W.keepIn K (.ref f30) = true)
    (a31 : PySem.W.nsIn K mainGlobals "_law_row" = some (some (.ref f31)))
    (l31 : K.lookup f31 = some ⟨oc31, od31, .func (PySem.W.fnOf "_law_row" "_law_row" (defArgs s__law_row) (defBody s__law_row) (defScope s__law_row) .none kV31 dc31 pm31 an31 cd31 ct31), sl31⟩)
    (c31 : PySem.W.codeIn K cd31 "_law_row" = true)
    (k31 : PySem.W.keepIn K (.ref f31) = true)
    (a32 : PySem.W.nsIn K mainGlobals "_law_divisor" = some (some (.ref f32)))
    (l32 : K.lookup f32 = some ⟨oc32, od32, .func (PySem.W.fnOf "_law_divisor" "_law_divisor" (defArgs s__law_divisor) (defBody s__law_divisor) (defScope s__law_divisor) .none kV32 dc32 pm32 an32 cd32 ct32), sl32⟩)
    (c32 : PySem.W.codeIn K cd32 "_law_divisor" = true)
    (k32 : PySem.W.keepIn K (.ref f32) = true)
    (a33 : PySem.W.nsIn K mainGlobals "_law_by" = some (some (.ref f33)))
    (l33 : K.lookup f33 = some ⟨oc33, od33, .func (PySem.W.fnOf "_law_by" "_law_by" (defArgs s__law_by) (defBody s__law_by) (defScope s__law_by) .none kV33 dc33 pm33 an33 cd33 ct33), sl33⟩)
    (c33 : PySem.W.codeIn K cd33 "_law_by" = true)
    (k33 : PySem.W.keepIn K (.ref f33) = true)
    (a34 : PySem.W.nsIn K mainGlobals "_law_times" = some (some (.ref f34)))
    (l34 : K.lookup f34 = some ⟨oc34, od34, .func (PySem.W.fnOf "_law_times" "_law_times" (defArgs s__law_times) (defBody s__law_times) (defScope s__law_times) .none kV34 dc34 pm34 an34 cd34 ct34), sl34⟩)
    (c34 : PySem.W.codeIn K cd34 "_law_times" = true)
    (k34 : PySem.W.keepIn K (.ref f34) = true)
    (a35 : PySem.W.nsIn K mainGlobals "_law_odds" = some (some (.ref f35)))
    (l35 : K.lookup f35 = some ⟨oc35, od35, .func (PySem.W.fnOf "_law_odds" "_law_odds" (defArgs s__law_odds) (defBody s__law_odds) (defScope s__law_odds) .none kV35 dc35 pm35 an35 cd35 ct35), sl35⟩)
    (c35 : PySem.W.codeIn K cd35 "_law_odds" = true)
    (k35 : PySem.W.keepIn K (.ref f35) = true)
    (a36 : PySem.W.nsIn K mainGlobals "_law_parts" = some (some (.ref f36)))
    (l36 : K.lookup f36 = some ⟨oc36, od36, .func (PySem.W.fnOf "_law_parts" "_law_parts" (defArgs s__law_parts) (defBody s__law_parts) (defScope s__law_parts) .none kV36 dc36 pm36 an36 cd36 ct36), sl36⟩)
    (c36 : PySem.W.codeIn K cd36 "_law_parts" = true)
    (k36 : PySem.W.keepIn K (.ref f36) = true)
    (a37 : PySem.W.nsIn K mainGlobals "_law_over" = some (some (.ref f37)))
    (l37 : K.lookup f37 = some ⟨oc37, od37, .func (PySem.W.fnOf "_law_over" "_law_over" (defArgs s__law_over) (defBody s__law_over) (defScope s__law_over) .none kV37 dc37 pm37 an37 cd37 ct37), sl37⟩)
    (c37 : PySem.W.codeIn K cd37 "_law_over" = true)
    (k37 : PySem.W.keepIn K (.ref f37) = true)
    (a38 : PySem.W.nsIn K mainGlobals "_law_plus" = some (some (.ref f38)))
    (l38 : K.lookup f38 = some ⟨oc38, od38, .func (PySem.W.fnOf "_law_plus" "_law_plus" (defArgs s__law_plus) (defBody s__law_plus) (defScope s__law_plus) .none kV38 dc38 pm38 an38 cd38 ct38), sl38⟩)
    (c38 : PySem.W.codeIn K cd38 "_law_plus" = true)
    (k38 : PySem.W.keepIn K (.ref f38) = true)
    (a39 : PySem.W.nsIn K mainGlobals "_law_sum" = some (some (.ref f39)))
    (l39 : K.lookup f39 = some ⟨oc39, od39, .func (PySem.W.fnOf "_law_sum" "_law_sum" (defArgs s__law_sum) (defBody s__law_sum) (defScope s__law_sum) .none kV39 dc39 pm39 an39 cd39 ct39), sl39⟩)
    (c39 : PySem.W.codeIn K cd39 "_law_sum" = true)
    (k39 : PySem.W.keepIn K (.ref f39) = true)
    (a40 : PySem.W.nsIn K mainGlobals "_law_spoilt" = some (some (.ref f40)))
    (l40 : K.lookup f40 = some ⟨oc40, od40, .func (PySem.W.fnOf "_law_spoilt" "_law_spoilt" (defArgs s__law_spoilt) (defBody s__law_spoilt) (defScope s__law_spoilt) .none kV40 dc40 pm40 an40 cd40 ct40), sl40⟩)
    (c40 : PySem.W.codeIn K cd40 "_law_spoilt" = true)
    (k40 : PySem.W.keepIn K (.ref f40) = true)
    (a41 : PySem.W.nsIn K mainGlobals "_law_same" = some (some (.ref f41)))
    (l41 : K.lookup f41 = some ⟨oc41, od41, .func (PySem.W.fnOf "_law_same" "_law_same" (defArgs s__law_same) (defBody s__law_same) (defScope s__law_same) .none kV41 dc41 pm41 an41 cd41 ct41), sl41⟩)
    (c41 : PySem.W.codeIn K cd41 "_law_same" = true)
    (k41 : PySem.W.keepIn K (.ref f41) = true)
    (a42 : PySem.W.nsIn K mainGlobals "_law_rows_right" = some (some (.ref f42)))
    (l42 : K.lookup f42 = some ⟨oc42, od42, .func (PySem.W.fnOf "_law_rows_right" "_law_rows_right" (defArgs s__law_rows_right) (defBody s__law_rows_right) (defScope s__law_rows_right) .none kV42 dc42 pm42 an42 cd42 ct42), sl42⟩)
    (c42 : PySem.W.codeIn K cd42 "_law_rows_right" = true)
    (k42 : PySem.W.keepIn K (.ref f42) = true)
    (a43 : PySem.W.nsIn K mainGlobals "_law_model" = some (some (.ref f43)))
    (l43 : K.lookup f43 = some ⟨oc43, od43, .func (PySem.W.fnOf "_law_model" "_law_model" (defArgs s__law_model) (defBody s__law_model) (defScope s__law_model) .none kV43 dc43 pm43 an43 cd43 ct43), sl43⟩)
    (c43 : PySem.W.codeIn K cd43 "_law_model" = true)
    (k43 : PySem.W.keepIn K (.ref f43) = true)
    (a44 : PySem.W.nsIn K mainGlobals "_law_hidden" = some (some (.ref f44)))
    (l44 : K.lookup f44 = some ⟨oc44, od44, .func (PySem.W.fnOf "_law_hidden" "_law_hidden" (defArgs s__law_hidden) (defBody s__law_hidden) (defScope s__law_hidden) .none kV44 dc44 pm44 an44 cd44 ct44), sl44⟩)
    (c44 : PySem.W.codeIn K cd44 "_law_hidden" = true)
    (k44 : PySem.W.keepIn K (.ref f44) = true)
    (a45 : PySem.W.nsIn K mainGlobals "_law_purse" = some (some (.ref f45)))
    (l45 : K.lookup f45 = some ⟨oc45, od45, .func (PySem.W.fnOf "_law_purse" "_law_purse" (defArgs s__law_purse) (defBody s__law_purse) (defScope s__law_purse) .none kV45 dc45 pm45 an45 cd45 ct45), sl45⟩)
    (c45 : PySem.W.codeIn K cd45 "_law_purse" = true)
    (k45 : PySem.W.keepIn K (.ref f45) = true)
    (a46 : PySem.W.nsIn K mainGlobals "law" = some (some (.ref f46)))
    (l46 : K.lookup f46 = some ⟨oc46, od46, .func (PySem.W.fnOf "law" "law" (defArgs s_law) (defBody s_law) (defScope s_law) .none kV46 dc46 pm46 an46 cd46 ct46), sl46⟩)
    (c46 : PySem.W.codeIn K cd46 "law" = true)
    (k46 : PySem.W.keepIn K (.ref f46) = true)
    (z_all : PySem.W.nsIn K mainGlobals "all" = some none)
    (z_bool : PySem.W.nsIn K mainGlobals "bool" = some none)
    (z_dict : PySem.W.nsIn K mainGlobals "dict" = some none)
    (z_enumerate : PySem.W.nsIn K mainGlobals "enumerate" = some none)
    (z_int : PySem.W.nsIn K mainGlobals "int" = some none)
    (z_isinstance : PySem.W.nsIn K mainGlobals "isinstance" = some none)
    (z_len : PySem.W.nsIn K mainGlobals "len" = some none)
    (z_list : PySem.W.nsIn K mainGlobals "list" = some none)
    (z_max : PySem.W.nsIn K mainGlobals "max" = some none)
    (z_range : PySem.W.nsIn K mainGlobals "range" = some none)
    (z_repr : PySem.W.nsIn K mainGlobals "repr" = some none)
    (z_str : PySem.W.nsIn K mainGlobals "str" = some none)
    (z_sum : PySem.W.nsIn K mainGlobals "sum" = some none)
    (z_tuple : PySem.W.nsIn K mainGlobals "tuple" = some none)
    (z_zip : PySem.W.nsIn K mainGlobals "zip" = some none)
    (y_MOST_PIECES : PySem.W.nsIn K mainGlobals "MOST_PIECES" = some (some (.int 40 yt_MOST_PIECES))) : ∃ T : Tx K mg, ∃ (kV dc pm : Value) (an : Option Addr) (cd ct : Value), T.d_law = PySem.W.fnOf "law" "law" (defArgs s_law) (defBody s_law) (defScope s_law) .none kV dc pm an cd ct := by
  have F1 := funD_mk (st := s_is_count) (dvs := [V.int 0]) l1 c1 k1 t1 (by simp) (.cons (show RelV _ _ from ⟨_, rfl⟩) (.nil))
  have F2 := fun_mk (st := s_divisor) l2 c2 k2
  have F3 := fun_mk (st := s_by_lowest) l3 c3 k3
  have F4 := fun_mk (st := s_put_together) l4 c4 k4
  have F5 := fun_mk (st := s_times) l5 c5 k5
  have F6 := fun_mk (st := s_total) l6 c6 k6
  have F7 := fun_mk (st := s_shared) l7 c7 k7
  have F8 := fun_mk (st := s_are_counts) l8 c8 k8
  have F9 := fun_mk (st := s_is_table) l9 c9 k9
  have F10 := fun_mk (st := s_is_state) l10 c10 k10
  have F11 := fun_mk (st := s_is_model) l11 c11 k11
  have F12 := fun_mk (st := s_is_row) l12 c12 k12
  have F13 := fun_mk (st := s_is_beginning) l13 c13 k13
  have F14 := fun_mk (st := s_look_at_row) l14 c14 k14
  have F15 := fun_mk (st := s_led) l15 c15 k15
  have F16 := fun_mk (st := s_odds_along) l16 c16 k16
  have F17 := fun_mk (st := s_is_choice) l17 c17 k17
  have F18 := fun_mk (st := s_is_hidden) l18 c18 k18
  have F19 := fun_mk (st := s_look_at_hidden) l19 c19 k19
  have F20 := fun_mk (st := s_parts) l20 c20 k20
  have F21 := fun_mk (st := s_hidden_odds) l21 c21 k21
  have F22 := fun_mk (st := s_believed) l22 c22 k22
  have F23 := fun_mk (st := s_belief) l23 c23 k23
  have F24 := fun_mk (st := s_next_odds) l24 c24 k24
  have F25 := fun_mk (st := s__law_draw) l25 c25 k25
  have F26 := fun_mk (st := s__law_bents) l26 c26 k26
  have F27 := fun_mk (st := s__law_is_whole) l27 c27 k27
  have F28 := fun_mk (st := s__law_is_model) l28 c28 k28
  have F29 := fun_mk (st := s__law_is) l29 c29 k29
  have F30 := fun_mk (st := s__law_pick) l30 c30 k30
  have F31 := fun_mk (st := s__law_row) l31 c31 k31
  have F32 := fun_mk (st := s__law_divisor) l32 c32 k32
  have F33 := fun_mk (st := s__law_by) l33 c33 k33
  have F34 := fun_mk (st := s__law_times) l34 c34 k34
  have F35 := fun_mk (st := s__law_odds) l35 c35 k35
  have F36 := fun_mk (st := s__law_parts) l36 c36 k36
  have F37 := fun_mk (st := s__law_over) l37 c37 k37
  have F38 := fun_mk (st := s__law_plus) l38 c38 k38
  have F39 := fun_mk (st := s__law_sum) l39 c39 k39
  have F40 := fun_mk (st := s__law_spoilt) l40 c40 k40
  have F41 := fun_mk (st := s__law_same) l41 c41 k41
  have F42 := fun_mk (st := s__law_rows_right) l42 c42 k42
  have F43 := fun_mk (st := s__law_model) l43 c43 k43
  have F44 := fun_mk (st := s__law_hidden) l44 c44 k44
  have F45 := fun_mk (st := s__law_purse) l45 c45 k45
  have F46 := fun_mk (st := s_law) l46 c46 k46
  exact ⟨{
    f_is_count := f1
    d_is_count := _
    F_is_count := F1
    g_is_count := PySem.W.mg_of X G a1
    ds1_is_count := [.int 0 tk1_0]
    v1_is_count := .cons (show RelV _ _ from ⟨_, rfl⟩) (.nil)
    b1_is_count := funD_b (T := T1) (its := [.int 0 tk1_0]) t1 1 rfl rfl fun us hl => match us, hl with | [_], _ => ⟨_, rfl, rfl⟩
    b2_is_count := funD_b (T := T1) (its := [.int 0 tk1_0]) t1 2 rfl rfl fun us hl => match us, hl with | [_, _], _ => ⟨_, rfl, rfl⟩
    f_divisor := f2
    d_divisor := _
    F_divisor := F2
    g_divisor := PySem.W.mg_of X G a2
    b2_divisor := fun_b F2 fun _ _ _ _ _ _ us hl => match us, hl with | [_, _], _ => rfl
    f_by_lowest := f3
    d_by_lowest := _
    F_by_lowest := F3
    g_by_lowest := PySem.W.mg_of X G a3
    b2_by_lowest := fun_b F3 fun _ _ _ _ _ _ us hl => match us, hl with | [_, _], _ => rfl
    f_put_together := f4
    d_put_together := _
    F_put_together := F4
    g_put_together := PySem.W.mg_of X G a4
    b2_put_together := fun_b F4 fun _ _ _ _ _ _ us hl => match us, hl with | [_, _], _ => rfl
    f_times := f5
    d_times := _
    F_times := F5
    g_times := PySem.W.mg_of X G a5
    b2_times := fun_b F5 fun _ _ _ _ _ _ us hl => match us, hl with | [_, _], _ => rfl
    f_total := f6
    d_total := _
    F_total := F6
    g_total := PySem.W.mg_of X G a6
    b1_total := fun_b F6 fun _ _ _ _ _ _ us hl => match us, hl with | [_], _ => rfl
    f_shared := f7
    d_shared := _
    F_shared := F7
    g_shared := PySem.W.mg_of X G a7
    b2_shared := fun_b F7 fun _ _ _ _ _ _ us hl => match us, hl with | [_, _], _ => rfl
    f_are_counts := f8
    d_are_counts := _
    F_are_counts := F8
    g_are_counts := PySem.W.mg_of X G a8
    b1_are_counts := fun_b F8 fun _ _ _ _ _ _ us hl => match us, hl with | [_], _ => rfl
    f_is_table := f9
    d_is_table := _
    F_is_table := F9
    g_is_table := PySem.W.mg_of X G a9
    b1_is_table := fun_b F9 fun _ _ _ _ _ _ us hl => match us, hl with | [_], _ => rfl
    f_is_state := f10
    d_is_state := _
    F_is_state := F10
    g_is_state := PySem.W.mg_of X G a10
    b3_is_state := fun_b F10 fun _ _ _ _ _ _ us hl => match us, hl with | [_, _, _], _ => rfl
    f_is_model := f11
    d_is_model := _
    F_is_model := F11
    g_is_model := PySem.W.mg_of X G a11
    b1_is_model := fun_b F11 fun _ _ _ _ _ _ us hl => match us, hl with | [_], _ => rfl
    f_is_row := f12
    d_is_row := _
    F_is_row := F12
    g_is_row := PySem.W.mg_of X G a12
    b2_is_row := fun_b F12 fun _ _ _ _ _ _ us hl => match us, hl with | [_, _], _ => rfl
    f_is_beginning := f13
    d_is_beginning := _
    F_is_beginning := F13
    g_is_beginning := PySem.W.mg_of X G a13
    b2_is_beginning := fun_b F13 fun _ _ _ _ _ _ us hl => match us, hl with | [_, _], _ => rfl
    f_look_at_row := f14
    d_look_at_row := _
    F_look_at_row := F14
    g_look_at_row := PySem.W.mg_of X G a14
    b2_look_at_row := fun_b F14 fun _ _ _ _ _ _ us hl => match us, hl with | [_, _], _ => rfl
    f_led := f15
    d_led := _
    F_led := F15
    g_led := PySem.W.mg_of X G a15
    b2_led := fun_b F15 fun _ _ _ _ _ _ us hl => match us, hl with | [_, _], _ => rfl
    f_odds_along := f16
    d_odds_along := _
    F_odds_along := F16
    g_odds_along := PySem.W.mg_of X G a16
    b2_odds_along := fun_b F16 fun _ _ _ _ _ _ us hl => match us, hl with | [_, _], _ => rfl
    f_is_choice := f17
    d_is_choice := _
    F_is_choice := F17
    g_is_choice := PySem.W.mg_of X G a17
    b1_is_choice := fun_b F17 fun _ _ _ _ _ _ us hl => match us, hl with | [_], _ => rfl
    f_is_hidden := f18
    d_is_hidden := _
    F_is_hidden := F18
    g_is_hidden := PySem.W.mg_of X G a18
    k0_value_is_hidden := fun_kb F18 fun _ _ _ _ _ _ us ws h1 h2 => match us, ws, h1, h2 with | [], [_], _, _ => rfl
    b1_is_hidden := fun_b F18 fun _ _ _ _ _ _ us hl => match us, hl with | [_], _ => rfl
    f_look_at_hidden := f19
    d_look_at_hidden := _
    F_look_at_hidden := F19
    g_look_at_hidden := PySem.W.mg_of X G a19
    b1_look_at_hidden := fun_b F19 fun _ _ _ _ _ _ us hl => match us, hl with | [_], _ => rfl
    f_parts := f20
    d_parts := _
    F_parts := F20
    g_parts := PySem.W.mg_of X G a20
    b2_parts := fun_b F20 fun _ _ _ _ _ _ us hl => match us, hl with | [_, _], _ => rfl
    f_hidden_odds := f21
    d_hidden_odds := _
    F_hidden_odds := F21
    g_hidden_odds := PySem.W.mg_of X G a21
    k0_beginning_hidden_hidden_odds := fun_kb F21 fun _ _ _ _ _ _ us ws h1 h2 => match us, ws, h1, h2 with | [], [_, _], _, _ => rfl
    b2_hidden_odds := fun_b F21 fun _ _ _ _ _ _ us hl => match us, hl with | [_, _], _ => rfl
    f_believed := f22
    d_believed := _
    F_believed := F22
    g_believed := PySem.W.mg_of X G a22
    b2_believed := fun_b F22 fun _ _ _ _ _ _ us hl => match us, hl with | [_, _], _ => rfl
    f_belief := f23
    d_belief := _
    F_belief := F23
    g_belief := PySem.W.mg_of X G a23
    k0_row_hidden_belief := fun_kb F23 fun _ _ _ _ _ _ us ws h1 h2 => match us, ws, h1, h2 with | [], [_, _], _, _ => rfl
    b2_belief := fun_b F23 fun _ _ _ _ _ _ us hl => match us, hl with | [_, _], _ => rfl
    f_next_odds := f24
    d_next_odds := _
    F_next_odds := F24
    g_next_odds := PySem.W.mg_of X G a24
    k0_row_hidden_next_odds := fun_kb F24 fun _ _ _ _ _ _ us ws h1 h2 => match us, ws, h1, h2 with | [], [_, _], _, _ => rfl
    b2_next_odds := fun_b F24 fun _ _ _ _ _ _ us hl => match us, hl with | [_, _], _ => rfl
    f__law_draw := f25
    d__law_draw := _
    F__law_draw := F25
    g__law_draw := PySem.W.mg_of X G a25
    b2__law_draw := fun_b F25 fun _ _ _ _ _ _ us hl => match us, hl with | [_, _], _ => rfl
    f__law_bents := f26
    d__law_bents := _
    F__law_bents := F26
    g__law_bents := PySem.W.mg_of X G a26
    b2__law_bents := fun_b F26 fun _ _ _ _ _ _ us hl => match us, hl with | [_, _], _ => rfl
    f__law_is_whole := f27
    d__law_is_whole := _
    F__law_is_whole := F27
    g__law_is_whole := PySem.W.mg_of X G a27
    b3__law_is_whole := fun_b F27 fun _ _ _ _ _ _ us hl => match us, hl with | [_, _, _], _ => rfl
    f__law_is_model := f28
    d__law_is_model := _
    F__law_is_model := F28
    g__law_is_model := PySem.W.mg_of X G a28
    b1__law_is_model := fun_b F28 fun _ _ _ _ _ _ us hl => match us, hl with | [_], _ => rfl
    f__law_is := f29
    d__law_is := _
    F__law_is := F29
    g__law_is := PySem.W.mg_of X G a29
    b2__law_is := fun_b F29 fun _ _ _ _ _ _ us hl => match us, hl with | [_, _], _ => rfl
    f__law_pick := f30
    d__law_pick := _
    F__law_pick := F30
    g__law_pick := PySem.W.mg_of X G a30
    b2__law_pick := fun_b F30 fun _ _ _ _ _ _ us hl => match us, hl with | [_, _], _ => rfl
    f__law_row := f31
    d__law_row := _
    F__law_row := F31
    g__law_row := PySem.W.mg_of X G a31
    b2__law_row := fun_b F31 fun _ _ _ _ _ _ us hl => match us, hl with | [_, _], _ => rfl
    f__law_divisor := f32
    d__law_divisor := _
    F__law_divisor := F32
    g__law_divisor := PySem.W.mg_of X G a32
    b2__law_divisor := fun_b F32 fun _ _ _ _ _ _ us hl => match us, hl with | [_, _], _ => rfl
    f__law_by := f33
    d__law_by := _
    F__law_by := F33
    g__law_by := PySem.W.mg_of X G a33
    b2__law_by := fun_b F33 fun _ _ _ _ _ _ us hl => match us, hl with | [_, _], _ => rfl
    f__law_times := f34
    d__law_times := _
    F__law_times := F34
    g__law_times := PySem.W.mg_of X G a34
    b2__law_times := fun_b F34 fun _ _ _ _ _ _ us hl => match us, hl with | [_, _], _ => rfl
    f__law_odds := f35
    d__law_odds := _
    F__law_odds := F35
    g__law_odds := PySem.W.mg_of X G a35
    b2__law_odds := fun_b F35 fun _ _ _ _ _ _ us hl => match us, hl with | [_, _], _ => rfl
    f__law_parts := f36
    d__law_parts := _
    F__law_parts := F36
    g__law_parts := PySem.W.mg_of X G a36
    b2__law_parts := fun_b F36 fun _ _ _ _ _ _ us hl => match us, hl with | [_, _], _ => rfl
    f__law_over := f37
    d__law_over := _
    F__law_over := F37
    g__law_over := PySem.W.mg_of X G a37
    b2__law_over := fun_b F37 fun _ _ _ _ _ _ us hl => match us, hl with | [_, _], _ => rfl
    f__law_plus := f38
    d__law_plus := _
    F__law_plus := F38
    g__law_plus := PySem.W.mg_of X G a38
    b2__law_plus := fun_b F38 fun _ _ _ _ _ _ us hl => match us, hl with | [_, _], _ => rfl
    f__law_sum := f39
    d__law_sum := _
    F__law_sum := F39
    g__law_sum := PySem.W.mg_of X G a39
    b1__law_sum := fun_b F39 fun _ _ _ _ _ _ us hl => match us, hl with | [_], _ => rfl
    f__law_spoilt := f40
    d__law_spoilt := _
    F__law_spoilt := F40
    g__law_spoilt := PySem.W.mg_of X G a40
    b1__law_spoilt := fun_b F40 fun _ _ _ _ _ _ us hl => match us, hl with | [_], _ => rfl
    f__law_same := f41
    d__law_same := _
    F__law_same := F41
    g__law_same := PySem.W.mg_of X G a41
    b2__law_same := fun_b F41 fun _ _ _ _ _ _ us hl => match us, hl with | [_, _], _ => rfl
    f__law_rows_right := f42
    d__law_rows_right := _
    F__law_rows_right := F42
    g__law_rows_right := PySem.W.mg_of X G a42
    b3__law_rows_right := fun_b F42 fun _ _ _ _ _ _ us hl => match us, hl with | [_, _, _], _ => rfl
    f__law_model := f43
    d__law_model := _
    F__law_model := F43
    g__law_model := PySem.W.mg_of X G a43
    b3__law_model := fun_b F43 fun _ _ _ _ _ _ us hl => match us, hl with | [_, _, _], _ => rfl
    f__law_hidden := f44
    d__law_hidden := _
    F__law_hidden := F44
    g__law_hidden := PySem.W.mg_of X G a44
    b4__law_hidden := fun_b F44 fun _ _ _ _ _ _ us hl => match us, hl with | [_, _, _, _], _ => rfl
    f__law_purse := f45
    d__law_purse := _
    F__law_purse := F45
    g__law_purse := PySem.W.mg_of X G a45
    b1__law_purse := fun_b F45 fun _ _ _ _ _ _ us hl => match us, hl with | [_], _ => rfl
    f_law := f46
    d_law := _
    F_law := F46
    g_law := PySem.W.mg_of X G a46
    n_all := PySem.W.mg_none_of X G z_all
    n_bool := PySem.W.mg_none_of X G z_bool
    n_dict := PySem.W.mg_none_of X G z_dict
    n_enumerate := PySem.W.mg_none_of X G z_enumerate
    n_int := PySem.W.mg_none_of X G z_int
    n_isinstance := PySem.W.mg_none_of X G z_isinstance
    n_len := PySem.W.mg_none_of X G z_len
    n_list := PySem.W.mg_none_of X G z_list
    n_max := PySem.W.mg_none_of X G z_max
    n_range := PySem.W.mg_none_of X G z_range
    n_repr := PySem.W.mg_none_of X G z_repr
    n_str := PySem.W.mg_none_of X G z_str
    n_sum := PySem.W.mg_none_of X G z_sum
    n_tuple := PySem.W.mg_none_of X G z_tuple
    n_zip := PySem.W.mg_none_of X G z_zip
    v_MOST_PIECES := ⟨_, PySem.W.mg_of X G y_MOST_PIECES⟩ }, _, _, _, _, _, _, rfl⟩
end K11
end

set_option Elab.async false
set_option linter.all false
namespace K11
open PySem PySem.Spec PyProof.Rows L2 DL
theorem walk {l : PySem.W.OpenLaw} {q : Program} {loose : List Str} {XP : (Str → Option Value) → Heap → Prop} {YP : World → Heap → Prop} {d : DefRec} {K : Params → PySem.W.Frag} (hn : l.most = some 63) (hdf : d.params.defaults = []) (hname : d.name = "law")
    (hY : ∀ (w : World) (h : Heap), YP w h → (K w.params).In h)
    (F : ∀ (w : World) (mg : Str → Option Value) (h : Heap), (K w.params).In h → h.Ns mainGlobals mg → ∃ T : Tx (K w.params) mg, ∃ (kV dc pm : Value) (an : Option Addr) (cd ct : Value), T.d_law = PySem.W.fnOf "law" "law" (defArgs s_law) (defBody s_law) (defScope s_law) .none kV dc pm an cd ct) :
    PySem.W.WalkO q loose XP YP l.row.toRowW d [] (fun f vs => PySem.call f vs) := by
  refine walkG (n := 63) (lv := 11) (x := "script") (sp := fun K => spD K 1 m_law) hn (by decide) hdf ⟨rfl, by decide, by decide⟩ hY (fun w mg fa h hK hG hfa => ?_) (fun K H a ns hl only sq => ?_)
  · obtain ⟨T, kV, dc, pm, an, cd, ct, hT⟩ := F w mg h hK hG
    rw [hname] at hfa
    have e := hfa.symm.trans T.g_law
    cases e
    exact ⟨T.d_law, fun s u => by rw [hT]; exact .of_eq rfl, fun base _ _ => ok_law T⟩
  · exact law_want only sq hl law_true
end K11
open PySem PySem.W PyProof.Rows in
set_option maxRecDepth 100000 in
set_option maxHeartbeats 0 in
theorem PySem.Challenge.cw_saidahead_k11_hidden_models_and_beliefs_holds : PySem.Challenge.rw_saidahead_k11_hidden_models_and_beliefs.Holds := by
  w_on; o_law; k_head; (case hw => w_witness2)
  k_fill
  refine K11.walk (l := PySem.Challenge.rw_saidahead_k11_hidden_models_and_beliefs) rfl rfl rfl (fun w h Y => PySem.W.kIn_of Y) ?F
  case F =>
    intro w mg h KX G
    refine' K11.all_mk KX G ?a1 ?l1 ?t1 ?c1 ?k1 ?a2 ?l2 ?c2 ?k2 ?a3 ?l3 ?c3 ?k3 ?a4 ?l4 ?c4 ?k4 ?a5 ?l5 ?c5 ?k5 ?a6 ?l6 ?c6 ?k6 ?a7 ?l7 ?c7 ?k7 ?a8 ?l8 ?c8 ?k8 ?a9 ?l9 ?c9 ?k9 ?a10 ?l10 ?c10 ?k10 ?a11 ?l11 ?c11 ?k11 ?a12 ?l12 ?c12 ?k12 ?a13 ?l13 ?c13 ?k13 ?a14 ?l14 ?c14 ?k14 ?a15 ?l15 ?c15 ?k15 ?a16 ?l16 ?c16 ?k16 ?a17 ?l17 ?c17 ?k17 ?a18 ?l18 ?c18 ?k18 ?a19 ?l19 ?c19 ?k19 ?a20 ?l20 ?c20 ?k20 ?a21 ?l21 ?c21 ?k21 ?a22 ?l22 ?c22 ?k22 ?a23 ?l23 ?c23 ?k23 ?a24 ?l24 ?c24 ?k24 ?a25 ?l25 ?c25 ?k25 ?a26 ?l26 ?c26 ?k26 ?a27 ?l27 ?c27 ?k27 ?a28 ?l28 ?c28 ?k28 ?a29 ?l29 ?c29 ?k29 ?a30 ?l30 ?c30 ?k30 ?a31 ?l31 ?c31 ?k31 ?a32 ?l32 ?c32 ?k32 ?a33 ?l33 ?c33 ?k33 ?a34 ?l34 ?c34 ?k34 ?a35 ?l35 ?c35 ?k35 ?a36 ?l36 ?c36 ?k36 ?a37 ?l37 ?c37 ?k37 ?a38 ?l38 ?c38 ?k38 ?a39 ?l39 ?c39 ?k39 ?a40 ?l40 ?c40 ?k40 ?a41 ?l41 ?c41 ?k41 ?a42 ?l42 ?c42 ?k42 ?a43 ?l43 ?c43 ?k43 ?a44 ?l44 ?c44 ?k44 ?a45 ?l45 ?c45 ?k45 ?a46 ?l46 ?c46 ?k46 ?z_all ?z_bool ?z_dict ?z_enumerate ?z_int ?z_isinstance ?z_len ?z_list ?z_max ?z_range ?z_repr ?z_str ?z_sum ?z_tuple ?z_zip ?y_MOST_PIECES
    (case a1 => k_is)
    (case l1 => k_is)
    (case t1 => k_is)
    (case c1 => k_is)
    (case k1 => k_is)
    (case a2 => k_is)
    (case l2 => k_is)
    (case c2 => k_is)
    (case k2 => k_is)
    (case a3 => k_is)
    (case l3 => k_is)
    (case c3 => k_is)
    (case k3 => k_is)
    (case a4 => k_is)
    (case l4 => k_is)
    (case c4 => k_is)
    (case k4 => k_is)
    (case a5 => k_is)
    (case l5 => k_is)
    (case c5 => k_is)
    (case k5 => k_is)
    (case a6 => k_is)
    (case l6 => k_is)
    (case c6 => k_is)
    (case k6 => k_is)
    (case a7 => k_is)
    (case l7 => k_is)
    (case c7 => k_is)
    (case k7 => k_is)
    (case a8 => k_is)
    (case l8 => k_is)
    (case c8 => k_is)
    (case k8 => k_is)
    (case a9 => k_is)
    (case l9 => k_is)
    (case c9 => k_is)
    (case k9 => k_is)
    (case a10 => k_is)
    (case l10 => k_is)
    (case c10 => k_is)
    (case k10 => k_is)
    (case a11 => k_is)
    (case l11 => k_is)
    (case c11 => k_is)
    (case k11 => k_is)
    (case a12 => k_is)
    (case l12 => k_is)
    (case c12 => k_is)
    (case k12 => k_is)
    (case a13 => k_is)
    (case l13 => k_is)
    (case c13 => k_is)
    (case k13 => k_is)
    (case a14 => k_is)
    (case l14 => k_is)
    (case c14 => k_is)
    (case k14 => k_is)
    (case a15 => k_is)
    (case l15 => k_is)
    (case c15 => k_is)
    (case k15 => k_is)
    (case a16 => k_is)
    (case l16 => k_is)
    (case c16 => k_is)
    (case k16 => k_is)
    (case a17 => k_is)
    (case l17 => k_is)
    (case c17 => k_is)
    (case k17 => k_is)
    (case a18 => k_is)
    (case l18 => k_is)
    (case c18 => k_is)
    (case k18 => k_is)
    (case a19 => k_is)
    (case l19 => k_is)
    (case c19 => k_is)
    (case k19 => k_is)
    (case a20 => k_is)
    (case l20 => k_is)
    (case c20 => k_is)
    (case k20 => k_is)
    (case a21 => k_is)
    (case l21 => k_is)
    (case c21 => k_is)
    (case k21 => k_is)
    (case a22 => k_is)
    (case l22 => k_is)
    (case c22 => k_is)
    (case k22 => k_is)
    (case a23 => k_is)
    (case l23 => k_is)
    (case c23 => k_is)
    (case k23 => k_is)
    (case a24 => k_is)
    (case l24 => k_is)
    (case c24 => k_is)
    (case k24 => k_is)
    (case a25 => k_is)
    (case l25 => k_is)
    (case c25 => k_is)
    (case k25 => k_is)
    (case a26 => k_is)
    (case l26 => k_is)
    (case c26 => k_is)
    (case k26 => k_is)
    (case a27 => k_is)
    (case l27 => k_is)
    (case c27 => k_is)
    (case k27 => k_is)
    (case a28 => k_is)
    (case l28 => k_is)
    (case c28 => k_is)
    (case k28 => k_is)
    (case a29 => k_is)
    (case l29 => k_is)
    (case c29 => k_is)
    (case k29 => k_is)
    (case a30 => k_is)
    (case l30 => k_is)
    (case c30 => k_is)
    (case k30 => k_is)
    (case a31 => k_is)
    (case l31 => k_is)
    (case c31 => k_is)
    (case k31 => k_is)
    (case a32 => k_is)
    (case l32 => k_is)
    (case c32 => k_is)
    (case k32 => k_is)
    (case a33 => k_is)
    (case l33 => k_is)
    (case c33 => k_is)
    (case k33 => k_is)
    (case a34 => k_is)
    (case l34 => k_is)
    (case c34 => k_is)
    (case k34 => k_is)
    (case a35 => k_is)
    (case l35 => k_is)
    (case c35 => k_is)
    (case k35 => k_is)
    (case a36 => k_is)
    (case l36 => k_is)
    (case c36 => k_is)
    (case k36 => k_is)
    (case a37 => k_is)
    (case l37 => k_is)
    (case c37 => k_is)
    (case k37 => k_is)
    (case a38 => k_is)
    (case l38 => k_is)
    (case c38 => k_is)
    (case k38 => k_is)
    (case a39 => k_is)
    (case l39 => k_is)
    (case c39 => k_is)
    (case k39 => k_is)
    (case a40 => k_is)
    (case l40 => k_is)
    (case c40 => k_is)
    (case k40 => k_is)
    (case a41 => k_is)
    (case l41 => k_is)
    (case c41 => k_is)
    (case k41 => k_is)
    (case a42 => k_is)
    (case l42 => k_is)
    (case c42 => k_is)
    (case k42 => k_is)
    (case a43 => k_is)
    (case l43 => k_is)
    (case c43 => k_is)
    (case k43 => k_is)
    (case a44 => k_is)
    (case l44 => k_is)
    (case c44 => k_is)
    (case k44 => k_is)
    (case a45 => k_is)
    (case l45 => k_is)
    (case c45 => k_is)
    (case k45 => k_is)
    (case a46 => k_is)
    (case l46 => k_is)
    (case c46 => k_is)
    (case k46 => k_is)
    (case z_all => k_is)
    (case z_bool => k_is)
    (case z_dict => k_is)
    (case z_enumerate => k_is)
    (case z_int => k_is)
    (case z_isinstance => k_is)
    (case z_len => k_is)
    (case z_list => k_is)
    (case z_max => k_is)
    (case z_range => k_is)
    (case z_repr => k_is)
    (case z_str => k_is)
    (case z_sum => k_is)
    (case z_tuple => k_is)
    (case z_zip => k_is)
    (case y_MOST_PIECES => k_is)
