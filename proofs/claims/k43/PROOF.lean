import PyProof.Rows.All
import KE.DataEq
import Wide.All
import OpenK.AllK
import Wide.FinOn
import HandS.ForMost
import HandS.IsInst
import HandS.Wide
import HandS.Style
import HandS.Zip
import HandS.Walk
import HandS.Deep
import HandS.Defaults
import HandS.WideBits
import HandS.TupAny
import HandS.Conv
import PyProof.ReprBulk
import PyProof.FitsInt
import PySem.Challenge.RW_saidahead_k43_settings_judged
section
set_option linter.all false
/-! DLcore: the data layer, plain: values as data, the meaning of a def's body as a function of slots. -/
namespace DL
open PySem
abbrev D := PyData

/-- what a slot holds: data that nobody changes any more, a list of one's own, a list lent by the caller to be changed -/
inductive SV where
  | d (x : D) | own (xs : List D) | lent (xs : List D)
abbrev DSt := List (Option SV)
/-- an expression's value: data, a new list, the list in a slot -/
inductive Rv where
  | d (x : D) | tmp (xs : List D) | sl (i : Nat)
/-- what a def hands back -/
inductive Rt where
  | d (x : D) | own (xs : List D)
/-- what a def is handed -/
inductive Ar where
  | d (x : D) | m (xs : List D)
inductive Fl where
  | nx | bk | ct | rt (r : Rt)
abbrev DE := DSt → Option (Rv × DSt)
abbrev DT := DSt → Option (Bool × DSt)
abbrev DA := DSt → Option (List Rv × DSt)
abbrev DO := DSt → Option (Option Int × DSt)
abbrev DS := DSt → Option (Fl × DSt)
/-- a walked thing: its items -/
abbrev DI := DSt → Option (List D × DSt)
/-- a target: the item is stored -/
abbrev DG := D → DSt → Option DSt
abbrev Fn := List Ar → Option (Rt × List (List D))

def lookS : Option SV → Option D
  | some (.d x) => some x
  | some (.own xs) => some (.list xs)
  | some (.lent xs) => some (.list xs)
  | none => none
def look (st : DSt) : Rv → Option D
  | .d x => some x
  | .tmp xs => some (.list xs)
  | .sl i => lookS (st.getD i none)
def looks (st : DSt) : List Rv → Option (List D)
  | [] => some []
  | r :: rs => (look st r).bind fun x => (looks st rs).bind fun xs => some (x :: xs)
/-- a value given away: it is changed no more -/
def toD (st : DSt) : Rv → Option (D × DSt)
  | .d x => some (x, st)
  | .tmp xs => some (.list xs, st)
  | .sl i => match st.getD i none with
    | some (.d x) => some (x, st)
    | some (.own xs) => some (.list xs, st.set i (some (.d (.list xs))))
    | _ => none
def toDs (st : DSt) : List Rv → Option (List D × DSt)
  | [] => some ([], st)
  | r :: rs => (toD st r).bind fun p => (toDs p.2 rs).bind fun q => some (p.1 :: q.1, q.2)

/-! ### expressions -/
def dVar (i : Nat) : DE := fun st => match st.getD i none with
  | some (.d x) => some (.d x, st)
  | some (.own _) => some (.sl i, st)
  | some (.lent _) => some (.sl i, st)
  | none => none
def dC (x : D) : DE := fun st => some (.d x, st)
def dNil : DA := fun st => some ([], st)
def dCons (f : DE) (g : DA) : DA := fun st => (f st).bind fun p => (g p.2).bind fun q => some (p.1 :: q.1, q.2)
def dOp2 (op : D → D → Option Rv) (f g : DE) : DE := fun st => (f st).bind fun p => (g p.2).bind fun q =>
  (look q.2 p.1).bind fun x => (look q.2 q.1).bind fun y => (op x y).bind fun z => some (z, q.2)
def dOp1 (op : D → Option Rv) (f : DE) : DE := fun st => (f st).bind fun p => (look p.2 p.1).bind fun x => (op x).bind fun z => some (z, p.2)
def dCallB (op : List D → Option Rv) (f : DA) : DE := fun st => (f st).bind fun p => (looks p.2 p.1).bind fun xs => (op xs).bind fun z => some (z, p.2)
def dSlice (op : D → Option Int → Option Int → Option Rv) (f : DE) (lo hi : DO) : DE := fun st => (f st).bind fun p => (lo p.2).bind fun l => (hi l.2).bind fun h =>
  (look h.2 p.1).bind fun x => (op x l.1 h.1).bind fun z => some (z, h.2)
def dNoPart : DO := fun st => some (none, st)
def dPart (f : DE) : DO := fun st => (f st).bind fun p => match look p.2 p.1 with
  | some (.int i) => some (some i, p.2)
  | _ => none
def dList (f : DA) : DE := fun st => (f st).bind fun p => (toDs p.2 p.1).bind fun q => if q.1.length ≤ sizeLine then some (.tmp q.1, q.2) else none
def dTup (f : DA) : DE := fun st => (f st).bind fun p => (toDs p.2 p.1).bind fun q => if q.1.length ≤ sizeLine then some (.d (.tuple q.1), q.2) else none
def asB : D → Option Bool
  | .bool b => some b
  | _ => none
/-- a test whose value is a bool -/
def dTest (f : DE) : DT := fun st => (f st).bind fun p => match look p.2 p.1 with
  | some (.bool b) => some (b, p.2)
  | _ => none
def dNot (f : DT) : DT := fun st => (f st).bind fun p => some (!p.1, p.2)
def dAnd (f g : DT) : DT := fun st => (f st).bind fun p => if p.1 = true then g p.2 else some (false, p.2)
def dOr (f g : DT) : DT := fun st => (f st).bind fun p => if p.1 = true then some (true, p.2) else g p.2
/-- as values: all but the last are bools -/
def dAndV (f g : DE) : DE := fun st => (f st).bind fun p => match look p.2 p.1 with
  | some (.bool b) => if b = true then g p.2 else some (.d (.bool false), p.2)
  | _ => none
def dOrV (f g : DE) : DE := fun st => (f st).bind fun p => match look p.2 p.1 with
  | some (.bool b) => if b = true then some (.d (.bool true), p.2) else g p.2
  | _ => none
def dNotV (f : DE) : DE := fun st => (f st).bind fun p => match look p.2 p.1 with
  | some (.bool b) => some (.d (.bool (!b)), p.2)
  | _ => none
def dIf (t : DT) (f g : DE) : DE := fun st => (t st).bind fun p => if p.1 = true then f p.2 else g p.2

/-! ### calls of defs -/
/-- data arguments are given away; lent ones are slots -/
def marsh (st : DSt) : List (Rv × Bool) → Option (List (Sum D Nat) × DSt)
  | [] => some ([], st)
  | (r, false) :: rs => (toD st r).bind fun p => (marsh p.2 rs).bind fun q => some (.inl p.1 :: q.1, q.2)
  | (.sl i, true) :: rs => (marsh st rs).bind fun q => some (.inr i :: q.1, q.2)
  | (_, true) :: _ => none
def lentAt (st : DSt) : Sum D Nat → Option Ar
  | .inl x => some (.d x)
  | .inr i => match st.getD i none with
    | some (.own xs) => some (.m xs)
    | some (.lent xs) => some (.m xs)
    | _ => none
def lents (st : DSt) : List (Sum D Nat) → Option (List Ar)
  | [] => some []
  | a :: r => (lentAt st a).bind fun x => (lents st r).bind fun xs => some (x :: xs)
def lentIx : List (Sum D Nat) → List Nat
  | [] => []
  | .inl _ :: r => lentIx r
  | .inr i :: r => i :: lentIx r
def putBack (st : DSt) : List Nat → List (List D) → Option DSt
  | [], [] => some st
  | i :: is, xs :: r => match st.getD i none with
    | some (.own _) => putBack (st.set i (some (.own xs))) is r
    | some (.lent _) => putBack (st.set i (some (.lent xs))) is r
    | _ => none
  | _, _ => none
def rvOf : Rt → Rv
  | .d x => .d x
  | .own xs => .tmp xs
/-- f(e, ..): modes: which arguments are lent; more: the defaults -/
def dCall (g : Fn) (modes : List Bool) (more : List D) (f : DA) : DE := fun st => (f st).bind fun p =>
  (marsh p.2 (p.1.zip modes)).bind fun q => if (lentIx q.1).length ≤ 1 ∧ p.1.length = modes.length then
    (lents q.2 q.1).bind fun as => (g (as ++ more.map Ar.d)).bind fun r => (putBack q.2 (lentIx q.1) r.2).bind fun st' => some (rvOf r.1, st')
  else none
def permute {α : Type} (perm : List Nat) (xs : List α) : List α := perm.filterMap fun i => xs[i]?
/-- f(e, .., k = v, ..): n positional ones, m named ones, more: the defaults; perm brings them to the parameters' order; none is lent -/
def dCallK (g : Fn) (n m : Nat) (perm : List Nat) (more : List D) (f f2 : DA) : DE := fun st => (f st).bind fun p => (f2 p.2).bind fun p2 =>
  (toDs p2.2 (p.1 ++ p2.1)).bind fun q => if p.1.length = n ∧ p2.1.length = m then
    (g ((permute perm (q.1 ++ more)).map Ar.d)).bind fun r => some (rvOf r.1, q.2)
  else none

/-! ### walked things -/
def dIter (op : D → Option (List D)) (f : DE) : DI := fun st => (f st).bind fun p => (toD p.2 p.1).bind fun q => (op q.1).bind fun xs => some (xs, q.2)
def dIterA (op : List D → Option (List D)) (f : DA) : DI := fun st => (f st).bind fun p => (toDs p.2 p.1).bind fun q => (op q.1).bind fun xs => some (xs, q.2)

/-! ### targets -/
def setS (st : DSt) (i : Nat) (v : SV) : Option DSt := match st.getD i none with
  | some (.lent _) => none
  | _ => if i < st.length then some (st.set i (some v)) else none
def gName (i : Nat) : DG := fun x st => setS st i (.d x)
abbrev DGs := List D → DSt → Option DSt
def gNil : DGs := fun xs st => match xs with
  | [] => some st
  | _ => none
def gCons (g : DG) (h : DGs) : DGs := fun xs st => match xs with
  | x :: r => (g x st).bind fun st' => h r st'
  | _ => none
def gTup (n : Nat) (h : DGs) : DG := fun x st => match x with
  | .tuple xs => if xs.length = n then h xs st else none
  | _ => none

/-! ### comprehensions -/
def wipeD (st : DSt) : List Nat → DSt
  | [] => st
  | v :: vs => (wipeD st vs).set v none
/-- the block's own slots are empty ahead; a turn: the target, the tests, the element -/
def lcGo (g : DG) (t : DT) (e : DE) (vs : List Nat) : List D → DSt → Option (List D × DSt)
  | [], st => some ([], st)
  | x :: xs, st => (g x st).bind fun s1 => (t s1).bind fun p => if p.1 = true then
      (e p.2).bind fun q => (toD q.2 q.1).bind fun r => (lcGo g t e vs xs (wipeD r.2 vs)).bind fun w => some (r.1 :: w.1, w.2)
    else lcGo g t e vs xs (wipeD p.2 vs)
/-- the slots as they stood ahead -/
def refill (s0 st : DSt) : List Nat → DSt
  | [] => st
  | v :: vs => (refill s0 st vs).set v (s0.getD v none)
def dLc (it : DI) (g : DG) (t : DT) (e : DE) (vs : List Nat) : DE := fun st => (it st).bind fun p =>
  if p.1.length ≤ sizeLine ∧ vs.all (fun i => match p.2.getD i none with | none => true | some (.d _) => true | _ => false) = true then
    (lcGo g t e vs p.1 (wipeD p.2 vs)).bind fun q => some (.tmp q.1, refill p.2 q.2 vs)
  else none
def dTests : DT := fun st => some (true, st)
def dTests1 (t : DT) : DT := t

/-! ### statements -/
def dNext : DS := fun st => some (.nx, st)
def dSeq (f g : DS) : DS := fun st => (f st).bind fun p => match p.1 with
  | .nx => g p.2
  | _ => some p
def dBreak : DS := fun st => some (.bk, st)
def dCont : DS := fun st => some (.ct, st)
def dNever : DS := fun _ => none
/-- x = e -/
def dSet (i : Nat) (f : DE) : DS := fun st => (f st).bind fun p => match p.1 with
  | .tmp xs => (setS p.2 i (.own xs)).bind fun s => some (.nx, s)
  | r => (toD p.2 r).bind fun q => (setS q.2 i (.d q.1)).bind fun s => some (.nx, s)
/-- target = e, a tuple of targets -/
def dAsg (g : DG) (f : DE) : DS := fun st => (f st).bind fun p => (toD p.2 p.1).bind fun q => (g q.1 q.2).bind fun s => some (.nx, s)
/-- a, b = e1, e2: no tuple -/
def dPar (is : List Nat) (f : DA) : DS := fun st => (f st).bind fun p => (toDs p.2 p.1).bind fun q => (parGo is q.1 q.2).bind fun s => some (.nx, s)
where parGo : List Nat → List D → DSt → Option DSt
  | [], [], st => some st
  | i :: is, x :: xs, st => (setS st i (.d x)).bind fun s => parGo is xs s
  | _, _, _ => none
/-- x op= e -/
def dAug (op : D → D → Option Rv) (i : Nat) (f : DE) : DS := fun st => (dVar i st).bind fun v => (f v.2).bind fun p =>
  match v.1 with
  | .d x => (look p.2 p.1).bind fun y => match op x y with
    | some (.d z) => (setS p.2 i (.d z)).bind fun s => some (.nx, s)
    | _ => none
  | _ => none
/-- a list at a slot is changed -/
def putL (st : DSt) (i : Nat) (xs : List D) : Option DSt := match st.getD i none with
  | some (.own _) => some (st.set i (some (.own xs)))
  | some (.lent _) => some (st.set i (some (.lent xs)))
  | _ => none
def getL (st : DSt) (i : Nat) : Option (List D) := match st.getD i none with
  | some (.own xs) => some xs
  | some (.lent xs) => some xs
  | _ => none
/-- xs.append(e) -/
def dAppend (i : Nat) (f : DE) : DS := fun st => (getL st i).bind fun _ => (f st).bind fun p => (toD p.2 p.1).bind fun q => (getL q.2 i).bind fun xs =>
  if xs.length < sizeLine then (putL q.2 i (xs ++ [q.1])).bind fun s => some (.nx, s) else none
def ixAt {α : Type} (xs : List α) (i : Int) : Option Nat := if 0 ≤ i then (if i < xs.length then some i.toNat else none) else if -(xs.length : Int) ≤ i then some (i + xs.length).toNat else none
/-- xs[k] = e -/
def dSetIx (i : Nat) (k f : DE) : DS := fun st => (f st).bind fun p => (toD p.2 p.1).bind fun q => (getL q.2 i).bind fun _ => (k q.2).bind fun r => match look r.2 r.1 with
  | some (.int j) => (getL r.2 i).bind fun xs => (ixAt xs j).bind fun n => (putL r.2 i (xs.set n q.1)).bind fun s => some (.nx, s)
  | _ => none
/-- xs[k] op= e -/
def dAugIx (op : D → D → Option Rv) (i : Nat) (k f : DE) : DS := fun st => (getL st i).bind fun _ => (k st).bind fun r => match look r.2 r.1 with
  | some (.int j) => (getL r.2 i).bind fun xs => (ixAt xs j).bind fun n => (xs[n]?).bind fun x => (f r.2).bind fun p => (look p.2 p.1).bind fun y =>
    match op x y with
    | some (.d z) => (getL p.2 i).bind fun ys => (ixAt ys j).bind fun n' => (putL p.2 i (ys.set n' z)).bind fun s => some (.nx, s)
    | _ => none
  | _ => none
def dDrop (f : DE) : DS := fun st => (f st).bind fun p => some (.nx, p.2)
def dRet (f : DE) : DS := fun st => (f st).bind fun p => match p.1 with
  | .d x => some (.rt (.d x), p.2)
  | .tmp xs => some (.rt (.own xs), p.2)
  | .sl i => match p.2.getD i none with
    | some (.d x) => some (.rt (.d x), p.2)
    | some (.own xs) => some (.rt (.own xs), p.2.set i none)
    | _ => none
def dRetN : DS := fun st => some (.rt (.d .none), st)
def dIfS (t : DT) (f g : DS) : DS := fun st => (t st).bind fun p => if p.1 = true then f p.2 else g p.2
def forGo (g : DG) (b : DS) : List D → DSt → Option (Fl × DSt)
  | [], st => some (.nx, st)
  | x :: xs, st => (g x st).bind fun s => (b s).bind fun p => match p.1 with
    | .nx => forGo g b xs p.2
    | .ct => forGo g b xs p.2
    | .bk => some (.nx, p.2)
    | .rt r => some (.rt r, p.2)
def dFor (it : DI) (g : DG) (b : DS) : DS := fun st => (it st).bind fun p => forGo g b p.1 p.2
def whileN (t : DT) (b : DS) : Nat → DSt → Option (Fl × DSt)
  | 0, _ => none
  | n + 1, st => (t st).bind fun q => if q.1 = true then (b q.2).bind fun p => match p.1 with
      | .nx => whileN t b n p.2
      | .ct => whileN t b n p.2
      | .bk => some (.nx, p.2)
      | .rt r => some (.rt r, p.2)
    else some (.nx, q.2)
open Classical in
noncomputable def dWhile (t : DT) (b : DS) : DS := fun st => if h : ∃ n r, whileN t b n st = some r then some (choose (choose_spec h)) else none

/-! ### a def -/
def arS : Ar → SV
  | .d x => .d x
  | .m xs => .lent xs
def startD (n : Nat) (as : List Ar) : DSt := as.map (fun a => some (arS a)) ++ List.replicate (n - as.length) none
/-- the lent lists behind the run -/
def outsGo (st : DSt) : List Ar → Nat → Option (List (List D))
  | [], _ => some []
  | .d _ :: r, i => outsGo st r (i + 1)
  | .m _ :: r, i => match st.getD i none with
    | some (.lent xs) => (outsGo st r (i + 1)).bind fun o => some (xs :: o)
    | _ => none
def run (n : Nat) (b : DS) : Fn := fun as => (b (startD n as)).bind fun p => (outsGo p.2 as 0).bind fun o => match p.1 with
  | .nx => some (.d .none, o)
  | .rt r => some (r, o)
  | _ => none

/-! ### what the operators make -/
def opAdd : D → D → Option Rv
  | .int i, .int j => some (.d (.int (i + j)))
  | .str a, .str b => if a.length + b.length ≤ sizeLine then some (.d (.str (a ++ b))) else none
  | .list xs, .list ys => if xs.length + ys.length ≤ sizeLine then some (.tmp (xs ++ ys)) else none
  | _, _ => none
/-- in place -/
def opAddI : D → D → Option Rv
  | .int i, .int j => some (.d (.int (i + j)))
  | _, _ => none
def opSub : D → D → Option Rv
  | .int i, .int j => some (.d (.int (i - j)))
  | _, _ => none
def opMul : D → D → Option Rv
  | .int i, .int j => if i.natAbs.log2 + j.natAbs.log2 < 1000000 then some (.d (.int (i * j))) else none
  | .list xs, .int k => if -(2 ^ 63) ≤ k ∧ k < 2 ^ 63 ∧ xs.length * k.toNat ≤ sizeLine then some (.tmp (List.replicate k.toNat xs).flatten) else none
  | _, _ => none
def opDiv : D → D → Option Rv
  | .int i, .int j => if 0 < j ∧ j.natAbs.log2 < 9000 then some (.d (.int (i / j))) else none
  | _, _ => none
def opMod : D → D → Option Rv
  | .int i, .int j => if 0 < j then some (.d (.int (i % j))) else none
  | _, _ => none
def opPow : D → D → Option Rv
  | .int i, .int j => if 0 ≤ j ∧ j ≤ 1000000 ∧ i.natAbs < 2 ^ 64 then some (.d (.int (i ^ j.toNat))) else none
  | _, _ => none
def opNeg : D → Option Rv
  | .int i => some (.d (.int (-i)))
  | _ => none
def opCmp (p : Int → Int → Bool) : D → D → Option Rv
  | .int i, .int j => some (.d (.bool (p i j)))
  | _, _ => none
def opLt : D → D → Option Rv := opCmp fun i j => decide (i < j)
def opLe : D → D → Option Rv := opCmp fun i j => decide (i ≤ j)
def opGt : D → D → Option Rv := opCmp fun i j => decide (j < i)
def opGe : D → D → Option Rv := opCmp fun i j => decide (j ≤ i)
/-- no dict within, not too deep: what == takes -/
def flat (x : D) : Bool := x.plain && decide (x.depth ≤ 64)
def opEq (x y : D) : Option Rv := if flat x = true ∧ flat y = true then some (.d (.bool (PyData.eqv x y))) else none
def opNe (x y : D) : Option Rv := if flat x = true ∧ flat y = true then some (.d (.bool (!PyData.eqv x y))) else none
/-- is, with None or a bool at the right -/
def isV : D → D → Option Bool
  | .none, .none => some true
  | _, .none => some false
  | .bool a, .bool b => some (a == b)
  | _, .bool _ => some false
  | _, _ => none
def opIs (x y : D) : Option Rv := (isV x y).bind fun b => some (.d (.bool b))
def opIsNot (x y : D) : Option Rv := (isV x y).bind fun b => some (.d (.bool (!b)))
def opIn : D → D → Option Rv
  | x, .list ys => if flat x = true ∧ flat (.list ys) = true then some (.d (.bool (ys.any fun y => PyData.eqv y x))) else none
  | _, _ => none
def opNotIn : D → D → Option Rv
  | x, .list ys => if flat x = true ∧ flat (.list ys) = true then some (.d (.bool (!(ys.any fun y => PyData.eqv y x)))) else none
  | _, _ => none
def opIx : D → D → Option Rv
  | .list xs, .int i => (ixAt xs i).bind fun n => (xs[n]?).bind fun x => some (.d x)
  | .tuple xs, .int i => (ixAt xs i).bind fun n => (xs[n]?).bind fun x => some (.d x)
  | .str z, .int i => if z.length ≤ sizeLine then (ixAt z.cps.toList i).bind fun n => (z.cps.toList[n]?).bind fun c => some (.d (.str ⟨#[c]⟩)) else none
  | _, _ => none
def cutAt (n d : Nat) : Option Int → Nat
  | none => d
  | some v => if v < 0 then (v + (n : Int)).toNat else min v.toNat n
def cutD {α : Type} (xs : List α) (lo hi : Option Int) : List α := (xs.drop (cutAt xs.length 0 lo)).take (cutAt xs.length xs.length hi - cutAt xs.length 0 lo)
def opSlice : D → Option Int → Option Int → Option Rv
  | .list xs, lo, hi => some (.tmp (cutD xs lo hi))
  | _, _, _ => none
def opRev : D → Option Rv
  | .list xs => some (.tmp xs.reverse)
  | _ => none

/-! ### built-in calls -/
def bLen : List D → Option Rv
  | [.list xs] => some (.d (.int xs.length))
  | [.tuple xs] => some (.d (.int xs.length))
  | [.str z] => if z.length ≤ sizeLine then some (.d (.int z.length)) else none
  | _ => none
def bInt : List D → Option Rv
  | [.int i] => some (.d (.int i))
  | [.bool b] => some (.d (.int (if b then 1 else 0)))
  | _ => none
def bStr : List D → Option Rv
  | [.int i] => if i.natAbs.log2 < 1920 then some (.d (.str (Str.ofString (toString i)))) else none
  | _ => none
def bRepr : List D → Option Rv
  | [x] => if x.hasDict = false ∧ x.showable = true ∧ x.depth ≤ 40 ∧ x.shown.length ≤ sizeLine then some (.d (.str x.shown)) else none
  | _ => none
def boolsOf : List D → Option (List Bool)
  | [] => some []
  | .bool b :: r => (boolsOf r).bind fun bs => some (b :: bs)
  | _ => none
def intsOf : List D → Option (List Int)
  | [] => some []
  | .int i :: r => (intsOf r).bind fun is => some (i :: is)
  | _ => none
def bAll : List D → Option Rv
  | [.list xs] => (boolsOf xs).bind fun bs => some (.d (.bool (bs.all id)))
  | _ => none
def bAny : List D → Option Rv
  | [.list xs] => (boolsOf xs).bind fun bs => some (.d (.bool (bs.any id)))
  | _ => none
def bSum : List D → Option Rv
  | [.list xs] => (intsOf xs).bind fun is => some (.d (.int is.sum))
  | _ => none
def bList : List D → Option Rv
  | [.list xs] => some (.tmp xs)
  | [.tuple xs] => some (.tmp xs)
  | _ => none
/-- the built-in types of data -/
def tyName : D → String
  | .none => "NoneType"
  | .bool _ => "bool"
  | .int _ => "int"
  | .str _ => "str"
  | .list _ => "list"
  | .tuple _ => "tuple"
  | .dict _ => "dict"
def isTy (x : D) (T : String) : Bool := tyName x == T || (T == "int" && tyName x == "bool")
def bIsi (T : String) (x : D) : Option Rv := match x with
  | .dict _ => none
  | _ => some (.d (.bool (isTy x T)))
def bIsi2 (T U : String) (x : D) : Option Rv := match x with
  | .dict _ => none
  | _ => some (.d (.bool (isTy x T || isTy x U)))
/-- range -/
def iRange1 : List D → Option (List D)
  | [.int n] => if -(2 ^ 62) ≤ n ∧ n < 2 ^ 62 then some ((List.range n.toNat).map fun i => .int (0 + (i : Nat))) else none
  | _ => none
def iRange2 : List D → Option (List D)
  | [.int a, .int b] => if -(2 ^ 62) ≤ a ∧ a < 2 ^ 62 ∧ -(2 ^ 62) ≤ b ∧ b < 2 ^ 62 then some ((List.range (b - a).toNat).map fun i => .int (a + (i : Nat))) else none
  | _ => none
def iList : D → Option (List D)
  | .list xs => some xs
  | _ => none
def iTup : D → Option (List D)
  | .tuple xs => some xs
  | _ => none
def iSeq : D → Option (List D)
  | .list xs => some xs
  | .tuple xs => some xs
  | _ => none
def iZip : List D → Option (List D)
  | [.list xs, .list ys] => some ((xs.zip ys).map fun p => .tuple [p.1, p.2])
  | [.tuple xs, .tuple ys] => some ((xs.zip ys).map fun p => .tuple [p.1, p.2])
  | _ => none
def iEnum : List D → Option (List D)
  | [.list xs] => some (xs.zipIdx.map fun p => .tuple [.int (p.2 : Nat), p.1])
  | _ => none
/-! ### further ones -/
/-- a op b op' c -/
def dChain (op op' : D → D → Option Rv) (f g h : DE) : DE := fun st => (f st).bind fun p => (g p.2).bind fun q => (look q.2 p.1).bind fun x => (look q.2 q.1).bind fun y => (op x y).bind fun z => match z with
  | .d (.bool true) => (h q.2).bind fun w => (look w.2 q.1).bind fun y' => (look w.2 w.1).bind fun u => (op' y' u).bind fun z' => some (z', w.2)
  | .d (.bool false) => some (.d (.bool false), q.2)
  | _ => none
def bMax2 : List D → Option Rv
  | [.int i, .int j] => some (.d (.int (if j > i then j else i)))
  | _ => none
/-- n.bit_length() -/
def opBits : D → Option Rv
  | .int i => some (.d (.int (Builtin.Int.intBits i : Nat)))
  | _ => none
def opAddT : D → D → Option Rv
  | .tuple xs, .tuple ys => if xs.length + ys.length ≤ sizeLine then some (.d (.tuple (xs ++ ys))) else none
  | _, _ => none
def opSliceT : D → Option Int → Option Int → Option Rv
  | .tuple xs, lo, hi => some (.d (.tuple (cutD xs lo hi)))
  | _, _, _ => none
def bTuple : List D → Option Rv
  | [.list xs] => some (.d (.tuple xs))
  | [.tuple xs] => some (.d (.tuple xs))
  | _ => none
/-- every list of one's own or of the caller's, looked at as data -/
def fz : Option SV → Option SV
  | some (.d x) => some (.d x)
  | some (.own xs) => some (.d (.list xs))
  | some (.lent xs) => some (.d (.list xs))
  | none => none
def freeze (st : DSt) : DSt := st.map fz
def atomD : D → Bool
  | .none => true
  | .bool _ => true
  | .int _ => true
  | .str _ => true
  | _ => false
/-- the lists are handed on for this expression alone; what comes is an atom -/
def dBorrow (f : DE) : DE := fun st => (f (freeze st)).bind fun p => match p.1 with
  | .d x => if atomD x = true then some (.d x, st) else none
  | _ => none
def dBorrowT (f : DT) : DT := fun st => (f (freeze st)).bind fun p => some (p.1, st)
/-- i ** j, any base -/
def opPowW : D → D → Option Rv
  | .int i, .int j => if 0 ≤ j ∧ (Builtin.Int.intBits i : Int) * j ≤ 2 ^ 27 then some (.d (.int (i ^ j.toNat))) else none
  | _, _ => none
def dIfT (t f g : DT) : DT := fun st => (t st).bind fun p => if p.1 = true then f p.2 else g p.2
/-- x, ys = e, e2: e2 gives a new list, which becomes one's own -/
def dAsgO (i j : Nat) (f g : DE) : DS := fun st => (f st).bind fun p => (g p.2).bind fun q => match p.1, q.1 with
  | .d x, .tmp ys => (setS q.2 j (.own ys)).bind fun s => (setS s i (.d x)).bind fun s' => some (.nx, s')
  | _, _ => none
end DL
end

section
set_option Elab.async false
set_option linter.all false
set_option maxRecDepth 100000
set_option maxHeartbeats 1000000
/-! DLsnd: the data layer over the hand layer: a reading is met by what the plain function of slots says. -/
namespace DL
open PySem PySem.Spec PyProof.Rows L2

/-! ### data in the heap -/
/-- a list that nobody changes: given away (F), locked, or of the written part -/
def FL (K : PySem.W.Frag) (F : Addr → Prop) (H : Hp) (a : Addr) (xs : List V) : Prop :=
  (F a ∧ H a = some (.lst xs)) ∨ (∃ o, H a = some (.frz o (.lst xs))) ∨ SqL K (fun _ => none) a xs
theorem sqK {K : PySem.W.Frag} {H : Hp} {a : Addr} {xs : List V} (h : SqL K (fun _ => none) a xs) : SqL K H a xs := by
  rcases h with (h | ⟨o, h⟩) | h
  · cases h
  · cases h
  · exact .inr h
theorem FL.sql {K : PySem.W.Frag} {F : Addr → Prop} {H : Hp} {a : Addr} {xs : List V} (h : FL K F H a xs) : SqL K H a xs := by
  rcases h with ⟨_, h⟩ | ⟨o, h⟩ | h
  · exact .inl (.inl h)
  · exact .inl (.inr ⟨o, h⟩)
  · exact sqK h
mutual
inductive Rp (K : PySem.W.Frag) (F : Addr → Prop) (H : Hp) : V → PyData → Prop
  | non : Rp K F H .non .none
  | bl (b : Bool) : Rp K F H (.bl b) (.bool b)
  | int (i : Int) : Rp K F H (.int i) (.int i)
  | str (x : Str) : Rp K F H (.str x) (.str x)
  | lst {a : Addr} {xs : List V} {ds : List PyData} : FL K F H a xs → RpAll K F H xs ds → Rp K F H (.ref a) (.list ds)
  | tup {a : Addr} {xs : List V} {ds : List PyData} : SqT K H a xs → RpAll K F H xs ds → Rp K F H (.ref a) (.tuple ds)
inductive RpAll (K : PySem.W.Frag) (F : Addr → Prop) (H : Hp) : List V → List PyData → Prop
  | nil : RpAll K F H [] []
  | cons {v : V} {vs : List V} {d : PyData} {ds : List PyData} : Rp K F H v d → RpAll K F H vs ds → RpAll K F H (v :: vs) (d :: ds)
end
section
variable {K : PySem.W.Frag} {F F' : Addr → Prop} {H H' : Hp}
mutual
theorem Rp.mono (h1 : ∀ a xs, FL K F H a xs → FL K F' H' a xs) (h2 : ∀ a xs, SqT K H a xs → SqT K H' a xs) : ∀ {v : V} {d : PyData}, Rp K F H v d → Rp K F' H' v d
  | _, _, .non => .non
  | _, _, .bl b => .bl b
  | _, _, .int i => .int i
  | _, _, .str x => .str x
  | _, _, .lst h hs => .lst (h1 _ _ h) (RpAll.mono h1 h2 hs)
  | _, _, .tup h hs => .tup (h2 _ _ h) (RpAll.mono h1 h2 hs)
theorem RpAll.mono (h1 : ∀ a xs, FL K F H a xs → FL K F' H' a xs) (h2 : ∀ a xs, SqT K H a xs → SqT K H' a xs) : ∀ {vs : List V} {ds : List PyData}, RpAll K F H vs ds → RpAll K F' H' vs ds
  | _, _, .nil => .nil
  | _, _, .cons a b => .cons (Rp.mono h1 h2 a) (RpAll.mono h1 h2 b)
end
mutual
theorem Rp.dp : ∀ {v : V} {d : PyData}, Rp K F H v d → Dp K H v d
  | _, _, .non => .non
  | _, _, .bl b => .bl b
  | _, _, .int i => .int i
  | _, _, .str x => .str x
  | _, _, .lst h hs => .lst h.sql (RpAll.dp hs)
  | _, _, .tup h hs => .tup h (RpAll.dp hs)
theorem RpAll.dp : ∀ {vs : List V} {ds : List PyData}, RpAll K F H vs ds → DpAll K H vs ds
  | _, _, .nil => .nil
  | _, _, .cons a b => .cons (Rp.dp a) (RpAll.dp b)
end
theorem RpAll.length : ∀ {vs : List V} {ds : List PyData}, RpAll K F H vs ds → vs.length = ds.length
  | _, _, .nil => rfl
  | _, _, .cons _ b => congrArg (· + 1) (RpAll.length b)
theorem RpAll.get : ∀ {vs : List V} {ds : List PyData} {i : Nat} {d : PyData}, RpAll K F H vs ds → ds[i]? = some d → ∃ v, vs[i]? = some v ∧ Rp K F H v d
  | _, _, _, _, .nil, e => by simp at e
  | _, _, 0, _, .cons a _, e => by
    simp at e
    subst e
    exact ⟨_, rfl, a⟩
  | _, _, i + 1, _, .cons _ b, e => by
    obtain ⟨v, h1, h2⟩ := RpAll.get (i := i) b (by simpa using e)
    exact ⟨v, by simpa using h1, h2⟩
theorem RpAll.got : ∀ {vs : List V} {ds : List PyData} {i : Nat} {v : V}, RpAll K F H vs ds → vs[i]? = some v → ∃ d, ds[i]? = some d ∧ Rp K F H v d
  | _, _, _, _, .nil, e => by simp at e
  | _, _, 0, _, .cons a _, e => by
    simp at e
    subst e
    exact ⟨_, rfl, a⟩
  | _, _, i + 1, _, .cons _ b, e => by
    obtain ⟨v, h1, h2⟩ := RpAll.got (i := i) b (by simpa using e)
    exact ⟨v, by simpa using h1, h2⟩
theorem RpAll.append : ∀ {vs ws : List V} {ds es : List PyData}, RpAll K F H vs ds → RpAll K F H ws es → RpAll K F H (vs ++ ws) (ds ++ es)
  | _, _, _, _, .nil, h => h
  | _, _, _, _, .cons a b, h => .cons a (RpAll.append b h)
theorem RpAll.drop : ∀ {vs : List V} {ds : List PyData} (n : Nat), RpAll K F H vs ds → RpAll K F H (vs.drop n) (ds.drop n)
  | _, _, 0, h => h
  | _, _, _ + 1, .nil => .nil
  | _, _, n + 1, .cons _ b => RpAll.drop n b
theorem RpAll.take : ∀ {vs : List V} {ds : List PyData} (n : Nat), RpAll K F H vs ds → RpAll K F H (vs.take n) (ds.take n)
  | _, _, 0, _ => .nil
  | _, _, _ + 1, .nil => .nil
  | _, _, n + 1, .cons a b => .cons a (RpAll.take n b)
theorem RpAll.set {x : V} {d : PyData} (r : Rp K F H x d) : ∀ {vs : List V} {ds : List PyData} (i : Nat), RpAll K F H vs ds → RpAll K F H (vs.set i x) (ds.set i d)
  | _, _, _, .nil => .nil
  | _, _, 0, .cons _ b => .cons r b
  | _, _, i + 1, .cons a b => .cons a (RpAll.set r i b)
theorem RpAll.reverse {vs : List V} {ds : List PyData} (h : RpAll K F H vs ds) : RpAll K F H vs.reverse ds.reverse := by
  induction h using RpAll.rec (motive_1 := fun _ _ _ => True) with
  | non | bl | int | str | lst | tup => trivial
  | nil => exact .nil
  | cons a b iha ihb => rw [List.reverse_cons, List.reverse_cons]; exact ihb.append (.cons a .nil)
theorem RpAll.rep {vs : List V} {ds : List PyData} (h : RpAll K F H vs ds) : ∀ k : Nat, RpAll K F H (List.replicate k vs).flatten (List.replicate k ds).flatten
  | 0 => .nil
  | k + 1 => by
    rw [List.replicate_succ, List.replicate_succ, List.flatten_cons, List.flatten_cons]
    exact h.append (h.rep k)
theorem RpAll.snoc {vs : List V} {ds : List PyData} {v : V} {d : PyData} (h : RpAll K F H vs ds) (r : Rp K F H v d) : RpAll K F H (vs ++ [v]) (ds ++ [d]) := h.append (.cons r .nil)
end
theorem sqT_up {K : PySem.W.Frag} {H H' : Hp} (h : ∀ b u, H b = some u → (∀ xs, u ≠ .lst xs) → H' b = some u) {a : Addr} {xs : List V} (q : SqT K H a xs) : SqT K H' a xs := by
  rcases q with (q | ⟨o, q⟩) | q
  · exact .inl (.inl (h _ _ q fun _ z => by cases z))
  · exact .inl (.inr ⟨o, h _ _ q fun _ z => by cases z⟩)
  · exact .inr q

/-! ### the slots and the heap -/
def IsOwn (st : DSt) (i : Nat) : Prop := ∃ xs, st.getD i none = some (.own xs) ∨ st.getD i none = some (.lent xs)
def OwnAt (st : DSt) (σ : L2.St) (p : Addr) : Prop := ∃ i, IsOwn st i ∧ σ[i]? = some (some (.ref p))
/-- H0: the heap at the def's entry; M: where the lent lists are -/
structure Sim (K : PySem.W.Frag) (H0 : Hp) (M : Nat → Option Addr) (st : DSt) (σ : L2.St) (F : Addr → Prop) (H : Hp) : Prop where
  len : σ.length = st.length
  dat : ∀ i x, st.getD i none = some (.d x) → ∃ v, σ[i]? = some (some v) ∧ Rp K F H v x
  own : ∀ i xs, st.getD i none = some (.own xs) → ∃ p vs, σ[i]? = some (some (.ref p)) ∧ H p = some (.lst vs) ∧ RpAll K F H vs xs ∧ ¬ F p ∧ H0 p = none
  lent : ∀ i xs, st.getD i none = some (.lent xs) → ∃ p vs, M i = some p ∧ σ[i]? = some (some (.ref p)) ∧ H p = some (.lst vs) ∧ RpAll K F H vs xs ∧ ¬ F p
  lentE : ∀ i p, M i = some p → ∃ xs, st.getD i none = some (.lent xs)
  lent0 : ∀ i p, M i = some p → H0 p ≠ none
  inj : ∀ i j p, IsOwn st i → IsOwn st j → σ[i]? = some (some (.ref p)) → σ[j]? = some (some (.ref p)) → i = j
  frz : ∀ a, F a → ∃ xs, H a = some (.lst xs)
  base : ∀ b u, H0 b = some u → (∀ i, M i ≠ some b) → H b = some u
/-- from one point of an expression to a later one -/
structure Ext (st : DSt) (σ : L2.St) (F : Addr → Prop) (H : Hp) (st' : DSt) (F' : Addr → Prop) (H' : Hp) : Prop where
  sub : ∀ a, F a → F' a
  new : ∀ a, F' a → F a ∨ H a = none ∨ OwnAt st σ a
  keep : ∀ b u, H b = some u → ¬ OwnAt st σ b → H' b = some u
  live : ∀ b, H b ≠ none → H' b ≠ none
  own : ∀ i, IsOwn st' i → IsOwn st i
section
variable {K : PySem.W.Frag} {H0 : Hp} {M : Nat → Option Addr} {st st' st2 : DSt} {σ : L2.St} {F F' F2 : Addr → Prop} {H H' H2 Hb : Hp}
theorem Ext.refl : Ext st σ F H st F H := ⟨fun _ h => h, fun _ h => .inl h, fun _ _ h _ => h, fun _ h => h, fun _ h => h⟩
theorem Sim.atOwn (S : Sim K H0 M st σ F H) {p : Addr} (o : OwnAt st σ p) : (∃ vs, H p = some (.lst vs)) ∧ ¬ F p := by
  obtain ⟨i, ⟨xs, h | h⟩, e⟩ := o
  · obtain ⟨q, vs, e1, e2, _, nf, _⟩ := S.own i xs h
    rw [e] at e1
    cases e1
    exact ⟨⟨vs, e2⟩, nf⟩
  · obtain ⟨q, vs, _, e1, e2, _, nf⟩ := S.lent i xs h
    rw [e] at e1
    cases e1
    exact ⟨⟨vs, e2⟩, nf⟩
theorem OwnAt.imp (o : ∀ i, IsOwn st' i → IsOwn st i) {p : Addr} (h : OwnAt st' σ p) : OwnAt st σ p := let ⟨i, h1, h2⟩ := h; ⟨i, o i h1, h2⟩
theorem Ext.trans (a : Ext st σ F H st' F' H') (b : Ext st' σ F' H' st2 F2 H2) : Ext st σ F H st2 F2 H2 where
  sub := fun c h => b.sub c (a.sub c h)
  new := fun c h => by
    rcases b.new c h with h | h | h
    · exact a.new c h
    · refine .inr (.inl ?_)
      apply Classical.byContradiction
      intro z
      exact a.live c z h
    · exact .inr (.inr (h.imp a.own))
  keep := fun c u h n => b.keep c u (a.keep c u h n) fun z => n (z.imp a.own)
  live := fun c h => b.live c (a.live c h)
  own := fun i h => a.own i (b.own i h)
theorem Ext.fl (S : Sim K H0 M st σ F H) (E : Ext st σ F H st' F' H') {a : Addr} {xs : List V} (h : FL K F H a xs) : FL K F' H' a xs := by
  rcases h with ⟨f, h⟩ | ⟨o, h⟩ | h
  · exact .inl ⟨E.sub _ f, E.keep _ _ h fun z => (S.atOwn z).2 f⟩
  · refine .inr (.inl ⟨o, E.keep _ _ h fun z => ?_⟩)
    obtain ⟨⟨vs, e⟩, _⟩ := S.atOwn z
    rw [h] at e
    cases e
  · exact .inr (.inr h)
theorem Ext.sqt (S : Sim K H0 M st σ F H) (E : Ext st σ F H st' F' H') {a : Addr} {xs : List V} (h : SqT K H a xs) : SqT K H' a xs :=
  sqT_up (fun b u e nl => E.keep b u e fun z => by
    obtain ⟨⟨vs, e'⟩, _⟩ := S.atOwn z
    rw [e] at e'
    cases e'
    exact nl vs rfl) h
theorem Ext.rp (S : Sim K H0 M st σ F H) (E : Ext st σ F H st' F' H') {v : V} {x : PyData} (h : Rp K F H v x) : Rp K F' H' v x := h.mono (fun _ _ => E.fl S) fun _ _ => E.sqt S
theorem Ext.rpAll (S : Sim K H0 M st σ F H) (E : Ext st σ F H st' F' H') {vs : List V} {xs : List PyData} (h : RpAll K F H vs xs) : RpAll K F' H' vs xs := h.mono (fun _ _ => E.fl S) fun _ _ => E.sqt S
theorem Sim.fresh0 (S : Sim K H0 M st σ F H) {p : Addr} (h : H p = none) : H0 p = none := by
  cases e : H0 p with
  | none => rfl
  | some u =>
    exfalso
    by_cases m : ∃ i, M i = some p
    · obtain ⟨i, m⟩ := m
      obtain ⟨xs, q⟩ := S.lentE i p m
      obtain ⟨p', vs, m', _, e2, _⟩ := S.lent i xs q
      rw [m] at m'
      cases m'
      rw [h] at e2
      cases e2
    · have := S.base p u e fun i z => m ⟨i, z⟩
      rw [h] at this
      cases this
/-- the heap grew -/
theorem Rp.grow (s : Same H H') {v : V} {x : PyData} (h : Rp K F H v x) : Rp K F H' v x :=
  h.mono (fun a xs h => h.elim (fun h => .inl ⟨h.1, s _ _ h.2⟩) fun h => h.elim (fun ⟨o, h⟩ => .inr (.inl ⟨o, s _ _ h⟩)) fun h => .inr (.inr h)) fun a xs h => sqT_up (fun b u e _ => s b u e) h
theorem RpAll.grow (s : Same H H') {v : List V} {x : List PyData} (h : RpAll K F H v x) : RpAll K F H' v x :=
  h.mono (fun a xs h => h.elim (fun h => .inl ⟨h.1, s _ _ h.2⟩) fun h => h.elim (fun ⟨o, h⟩ => .inr (.inl ⟨o, s _ _ h⟩)) fun h => .inr (.inr h)) fun a xs h => sqT_up (fun b u e _ => s b u e) h
theorem Rp.more (s : ∀ a, F a → F' a) {v : V} {x : PyData} (h : Rp K F H v x) : Rp K F' H v x :=
  h.mono (fun a xs h => h.elim (fun h => .inl ⟨s _ h.1, h.2⟩) .inr) fun _ _ h => h
theorem RpAll.more (s : ∀ a, F a → F' a) {v : List V} {x : List PyData} (h : RpAll K F H v x) : RpAll K F' H v x :=
  h.mono (fun a xs h => h.elim (fun h => .inl ⟨s _ h.1, h.2⟩) .inr) fun _ _ h => h
theorem Sim.grow (S : Sim K H0 M st σ F H) (s : Same H H') : Sim K H0 M st σ F H' where
  len := S.len
  dat := fun i x h => let ⟨v, e, r⟩ := S.dat i x h; ⟨v, e, r.grow s⟩
  own := fun i xs h => let ⟨p, vs, e1, e2, r, n, z⟩ := S.own i xs h; ⟨p, vs, e1, s _ _ e2, r.grow s, n, z⟩
  lent := fun i xs h => let ⟨p, vs, m, e1, e2, r, n⟩ := S.lent i xs h; ⟨p, vs, m, e1, s _ _ e2, r.grow s, n⟩
  lentE := S.lentE
  lent0 := S.lent0
  inj := S.inj
  frz := fun a h => let ⟨xs, e⟩ := S.frz a h; ⟨xs, s _ _ e⟩
  base := fun b u h n => s _ _ (S.base b u h n)
theorem Ext.grow (s : Same H H') : Ext st σ F H st F H' :=
  ⟨fun _ h => h, fun _ h => .inl h, fun _ _ h _ => s _ _ h, fun b h => by
    cases e : H b with
    | none => exact absurd e h
    | some u => rw [s _ _ e]; exact fun z => (by cases z), fun _ h => h⟩
/-- more is given away -/
theorem Sim.more (S : Sim K H0 M st σ F H) (s : ∀ a, F a → F' a) (f : ∀ a, F' a → ∃ xs, H a = some (.lst xs)) (no : ∀ a, F' a → ¬ OwnAt st σ a) : Sim K H0 M st σ F' H where
  len := S.len
  dat := fun i x h => let ⟨v, e, r⟩ := S.dat i x h; ⟨v, e, r.more s⟩
  own := fun i xs h => let ⟨p, vs, e1, e2, r, n, z⟩ := S.own i xs h; ⟨p, vs, e1, e2, r.more s, fun q => no p q ⟨i, ⟨xs, .inl h⟩, e1⟩, z⟩
  lent := fun i xs h => let ⟨p, vs, m, e1, e2, r, n⟩ := S.lent i xs h; ⟨p, vs, m, e1, e2, r.more s, fun q => no p q ⟨i, ⟨xs, .inr h⟩, e1⟩⟩
  lentE := S.lentE
  lent0 := S.lent0
  inj := S.inj
  frz := f
  base := S.base
theorem getD_set {st : DSt} {i j : Nat} {x : Option SV} (hi : i < st.length) : (st.set i x).getD j none = if i = j then x else st.getD j none := by
  rw [List.getD_eq_getElem?_getD, List.getD_eq_getElem?_getD, List.getElem?_set]
  by_cases h : i = j
  · subst h
    simp [hi]
  · simp [h]
theorem getD_lt {st : DSt} {i : Nat} {x : SV} (h : st.getD i none = some x) : i < st.length := by
  apply Classical.byContradiction
  intro n
  rw [List.getD_eq_getElem?_getD, List.getElem?_eq_none (by omega)] at h
  cases h
/-- a slot's list is given away -/
theorem Sim.give (S : Sim K H0 M st σ F H) {i : Nat} {xs : List D} {p : Addr} (h : st.getD i none = some (.own xs)) (e : σ[i]? = some (some (.ref p))) :
    Sim K H0 M (st.set i (some (.d (.list xs)))) σ (fun a => F a ∨ a = p) H ∧ Rp K (fun a => F a ∨ a = p) H (.ref p) (.list xs) ∧ (∀ j, IsOwn (st.set i (some (.d (.list xs)))) j → IsOwn st j) := by
  have hi := getD_lt h
  obtain ⟨q, vs, e1, e2, r, nf, z⟩ := S.own i xs h
  rw [e] at e1
  cases e1
  have sub : ∀ a, F a → (F a ∨ a = p) := fun _ => .inl
  have rr : Rp K (fun a => F a ∨ a = p) H (.ref p) (.list xs) := .lst (.inl ⟨.inr rfl, e2⟩) (r.more sub)
  have own : ∀ j, IsOwn (st.set i (some (.d (.list xs)))) j → IsOwn st j ∧ j ≠ i := fun j ⟨ys, hj⟩ => by
    rw [getD_set hi] at hj
    by_cases ij : i = j
    · rw [if_pos ij] at hj
      rcases hj with hj | hj <;> cases hj
    · rw [if_neg ij] at hj
      exact ⟨⟨ys, hj⟩, fun z => ij z.symm⟩
  refine ⟨⟨by rw [List.length_set]; exact S.len, fun j x hj => ?_, fun j ys hj => ?_, fun j ys hj => ?_, fun j q m => ?_, S.lent0, fun j k q a b => S.inj j k q (own j a).1 (own k b).1, fun a ha => ?_, S.base⟩, rr, fun j hj => (own j hj).1⟩
  · rw [getD_set hi] at hj
    by_cases ij : i = j
    · subst ij
      rw [if_pos rfl] at hj
      cases hj
      exact ⟨_, e, rr⟩
    · rw [if_neg ij] at hj
      obtain ⟨v, a, b⟩ := S.dat j x hj
      exact ⟨v, a, b.more sub⟩
  · have oj := own j ⟨ys, .inl hj⟩
    rw [getD_set hi, if_neg fun z => oj.2 z.symm] at hj
    obtain ⟨q, ws, a, b, c, d, f⟩ := S.own j ys hj
    refine ⟨q, ws, a, b, c.more sub, ?_, f⟩
    rintro (z | z)
    · exact d z
    · subst z
      exact oj.2 (S.inj j i q oj.1 ⟨xs, .inl h⟩ a e)
  · have oj := own j ⟨ys, .inr hj⟩
    rw [getD_set hi, if_neg fun z => oj.2 z.symm] at hj
    obtain ⟨q, ws, m, a, b, c, d⟩ := S.lent j ys hj
    refine ⟨q, ws, m, a, b, c.more sub, ?_⟩
    rintro (z | z)
    · exact d z
    · subst z
      exact oj.2 (S.inj j i q oj.1 ⟨xs, .inl h⟩ a e)
  · obtain ⟨ys, hj⟩ := S.lentE j q m
    refine ⟨ys, ?_⟩
    rw [getD_set hi, if_neg, hj]
    rintro rfl
    rw [h] at hj
    cases hj
  · rcases ha with ha | rfl
    · exact S.frz a ha
    · exact ⟨vs, e2⟩
end

/-! ### values -/
/-- Hb: the heap ahead of the expression -/
def RvOk (K : PySem.W.Frag) (F : Addr → Prop) (H : Hp) (st : DSt) (σ : L2.St) (Hb : Hp) : Rv → V → Prop
  | .d x, v => Rp K F H v x
  | .tmp xs, v => ∃ p vs, v = .ref p ∧ H p = some (.lst vs) ∧ RpAll K F H vs xs ∧ ¬ F p ∧ ¬ OwnAt st σ p ∧ Hb p = none
  | .sl i, v => σ[i]? = some (some v)
/-- .. of which it is not told that no other one has it -/
def RvW (K : PySem.W.Frag) (F : Addr → Prop) (H : Hp) (st : DSt) (σ : L2.St) (Hb : Hp) : Rv → V → Prop
  | .d x, v => Rp K F H v x
  | .tmp xs, v => ∃ p vs, v = .ref p ∧ H p = some (.lst vs) ∧ RpAll K F H vs xs ∧ ¬ OwnAt st σ p ∧ Hb p = none
  | .sl i, v => σ[i]? = some (some v)
inductive RvWs (K : PySem.W.Frag) (F : Addr → Prop) (H : Hp) (st : DSt) (σ : L2.St) (Hb : Hp) : List Rv → List V → Prop
  | nil : RvWs K F H st σ Hb [] []
  | cons {r : Rv} {v : V} {rs : List Rv} {vs : List V} : RvW K F H st σ Hb r v → RvWs K F H st σ Hb rs vs → RvWs K F H st σ Hb (r :: rs) (v :: vs)
/-- what may be looked at -/
def Pk (K : PySem.W.Frag) (F : Addr → Prop) (H : Hp) (v : V) (x : PyData) : Prop :=
  Rp K F H v x ∨ ∃ p vs xs, v = .ref p ∧ x = .list xs ∧ H p = some (.lst vs) ∧ RpAll K F H vs xs
inductive PkAll (K : PySem.W.Frag) (F : Addr → Prop) (H : Hp) : List V → List PyData → Prop
  | nil : PkAll K F H [] []
  | cons {v : V} {x : PyData} {vs : List V} {xs : List PyData} : Pk K F H v x → PkAll K F H vs xs → PkAll K F H (v :: vs) (x :: xs)
section
variable {K : PySem.W.Frag} {H0 : Hp} {M : Nat → Option Addr} {st st' st2 : DSt} {σ : L2.St} {F F' F2 : Addr → Prop} {H H' H2 Hb Hc : Hp} {v : V} {r : Rv} {x : PyData}
theorem RvOk.weak (h : RvOk K F H st σ Hb r v) : RvW K F H st σ Hb r v := by
  cases r with
  | d x => exact h
  | tmp xs => obtain ⟨p, vs, a, b, c, _, d, e⟩ := h; exact ⟨p, vs, a, b, c, d, e⟩
  | sl i => exact h
theorem RvW.birth (h : RvW K F H st σ Hb r v) (l : ∀ b, Hc b ≠ none → Hb b ≠ none) : RvW K F H st σ Hc r v := by
  cases r with
  | d x => exact h
  | tmp xs =>
    obtain ⟨p, vs, a, b, c, d, e⟩ := h
    exact ⟨p, vs, a, b, c, d, Classical.byContradiction fun z => l p z e⟩
  | sl i => exact h
theorem RvOk.birth (h : RvOk K F H st σ Hb r v) (l : ∀ b, Hc b ≠ none → Hb b ≠ none) : RvOk K F H st σ Hc r v := by
  cases r with
  | d x => exact h
  | tmp xs =>
    obtain ⟨p, vs, a, b, c, f, d, e⟩ := h
    exact ⟨p, vs, a, b, c, f, d, Classical.byContradiction fun z => l p z e⟩
  | sl i => exact h
/-- slots stay filled -/
def Fill (_ _ : DSt) : Prop := True
theorem RvW.ext (S : Sim K H0 M st σ F H) (E : Ext st σ F H st' F' H') (f : Fill st st') (h : RvW K F H st σ Hb r v) : RvW K F' H' st' σ Hb r v := by
  cases r with
  | d x => exact E.rp S h
  | tmp xs =>
    obtain ⟨p, vs, a, b, c, d, e⟩ := h
    exact ⟨p, vs, a, E.keep _ _ b d, E.rpAll S c, fun z => d (z.imp E.own), e⟩
  | sl i => exact h
theorem RvOk.ext (S : Sim K H0 M st σ F H) (E : Ext st σ F H st' F' H') (f : Fill st st') (h : RvOk K F H st σ Hb r v) : RvOk K F' H' st' σ Hb r v := by
  cases r with
  | d x => exact E.rp S h
  | tmp xs =>
    obtain ⟨p, vs, a, b, c, nf, d, e⟩ := h
    refine ⟨p, vs, a, E.keep _ _ b d, E.rpAll S c, fun z => ?_, fun z => d (z.imp E.own), e⟩
    rcases E.new p z with z | z | z
    · exact nf z
    · rw [b] at z; cases z
    · exact d z
  | sl i => exact h
theorem look_ok (S : Sim K H0 M st σ F H) (h : RvW K F H st σ Hb r v) (e : look st r = some x) : Pk K F H v x := by
  cases r with
  | d y => cases e; exact .inl h
  | tmp xs =>
    obtain ⟨p, vs, a, b, c, _⟩ := h
    cases e
    exact .inr ⟨p, vs, xs, a, rfl, b, c⟩
  | sl i =>
    have h : σ[i]? = some (some v) := h
    have e : lookS (st.getD i none) = some x := e
    cases q : st.getD i none with
    | none => rw [q] at e; cases e
    | some s =>
      rw [q] at e
      cases s with
      | d y =>
        cases e
        obtain ⟨w, e1, r1⟩ := S.dat i _ q
        rw [h] at e1
        cases e1
        exact .inl r1
      | own xs =>
        cases e
        obtain ⟨p, vs, e1, e2, r1, _⟩ := S.own i xs q
        rw [h] at e1
        cases e1
        exact .inr ⟨p, vs, xs, rfl, rfl, e2, r1⟩
      | lent xs =>
        cases e
        obtain ⟨p, vs, _, e1, e2, r1, _⟩ := S.lent i xs q
        rw [h] at e1
        cases e1
        exact .inr ⟨p, vs, xs, rfl, rfl, e2, r1⟩
theorem looks_ok (S : Sim K H0 M st σ F H) : ∀ {rs : List Rv} {vs : List V} {xs : List D}, RvWs K F H st σ Hb rs vs → looks st rs = some xs → PkAll K F H vs xs
  | [], _, xs, .nil, e => by cases e; exact .nil
  | r :: rs, _, xs, .cons h t, e => by
    have e : ((look st r).bind fun x => (looks st rs).bind fun xs => some (x :: xs)) = some xs := e
    cases q : look st r with
    | none => rw [q] at e; cases e
    | some x =>
      rw [q] at e
      cases q2 : looks st rs with
      | none => rw [q2] at e; cases e
      | some ys =>
        rw [q2] at e
        cases e
        exact .cons (look_ok S h q) (looks_ok S t q2)
theorem Fill.refl : Fill st st := trivial
theorem Fill.trans (_ : Fill st st') (_ : Fill st' st2) : Fill st st2 := trivial
theorem Fill.set {i : Nat} {s : SV} (_ : i < st.length) : Fill st (st.set i (some s)) := trivial
/-- a value given away; the way from the expression's beginning goes on to here -/
theorem toD_ok {sts : DSt} {Fs : Addr → Prop} (S : Sim K H0 M st σ F H) (E : Ext sts σ Fs Hb st F H) (h : RvW K F H st σ Hb r v) (e : toD st r = some (x, st')) :
    ∃ F', Sim K H0 M st' σ F' H ∧ Ext sts σ Fs Hb st' F' H ∧ Rp K F' H v x ∧ (∀ a, F a → F' a) ∧ (∀ i, IsOwn st' i → IsOwn st i) ∧ Fill st st' := by
  cases r with
  | d y =>
    cases e
    exact ⟨F, S, E, h, fun _ h => h, fun _ h => h, .refl⟩
  | tmp xs =>
    cases e
    obtain ⟨p, vs, rfl, b, c, d, f⟩ := h
    have sub : ∀ a, F a → (F a ∨ a = p) := fun _ => .inl
    refine ⟨fun a => F a ∨ a = p, S.more sub ?_ ?_, ⟨fun a z => .inl (E.sub a z), ?_, E.keep, E.live, E.own⟩, .lst (.inl ⟨.inr rfl, b⟩) (c.more sub), sub, fun _ h => h, .refl⟩
    · rintro a (z | rfl)
      · exact S.frz a z
      · exact ⟨vs, b⟩
    · rintro a (z | rfl)
      · exact fun o => (S.atOwn o).2 z
      · exact d
    · rintro a (z | rfl)
      · exact E.new a z
      · exact .inr (.inl f)
  | sl i =>
    have h : σ[i]? = some (some v) := h
    have e : (match st.getD i none with
      | some (.d x) => some (x, st)
      | some (.own xs) => some (.list xs, st.set i (some (.d (.list xs))))
      | _ => none) = some (x, st') := e
    cases q : st.getD i none with
    | none => rw [q] at e; cases e
    | some s =>
      rw [q] at e
      cases s with
      | d y =>
        cases e
        obtain ⟨w, e1, r1⟩ := S.dat i _ q
        rw [h] at e1
        cases e1
        exact ⟨F, S, E, r1, fun _ h => h, fun _ h => h, .refl⟩
      | own xs =>
        cases e
        obtain ⟨p, vs, e1, e2, _⟩ := S.own i xs q
        rw [h] at e1
        cases e1
        obtain ⟨S', rr, o⟩ := S.give q h
        have own1 : OwnAt st σ p := ⟨i, ⟨xs, .inl q⟩, h⟩
        refine ⟨fun a => F a ∨ a = p, S', ⟨fun a z => .inl (E.sub a z), ?_, E.keep, E.live, fun j z => E.own j (o j z)⟩, rr, fun _ => .inl, o, .set (getD_lt q)⟩
        rintro a (z | rfl)
        · exact E.new a z
        · exact .inr (.inr (own1.imp E.own))
      | lent xs => cases e
theorem RvWs.to {F' : Addr → Prop} (s : ∀ a, F a → F' a) (o : ∀ i, IsOwn st' i → IsOwn st i) (f : Fill st st') : ∀ {rs : List Rv} {vs : List V}, RvWs K F H st σ Hb rs vs → RvWs K F' H st' σ Hb rs vs
  | _, _, .nil => .nil
  | r :: rs, _, .cons h t => by
    refine .cons ?_ (RvWs.to s o f t)
    cases r with
    | d x => exact Rp.more s h
    | tmp xs =>
      obtain ⟨p, vs, a, b, c, d, e⟩ := h
      exact ⟨p, vs, a, b, c.more s, fun z => d (z.imp o), e⟩
    | sl i => exact h
theorem RvWs.ext (S : Sim K H0 M st σ F H) (E : Ext st σ F H st' F' H') (f : Fill st st') : ∀ {rs : List Rv} {vs : List V}, RvWs K F H st σ Hb rs vs → RvWs K F' H' st' σ Hb rs vs
  | _, _, .nil => .nil
  | _, _, .cons h t => .cons (h.ext S E f) (RvWs.ext S E f t)
theorem RvWs.birth (l : ∀ b, Hc b ≠ none → Hb b ≠ none) : ∀ {rs : List Rv} {vs : List V}, RvWs K F H st σ Hb rs vs → RvWs K F H st σ Hc rs vs
  | _, _, .nil => .nil
  | _, _, .cons h t => .cons (h.birth l) (RvWs.birth l t)
theorem toDs_ok {sts : DSt} {Fs : Addr → Prop} : ∀ {rs : List Rv} {vs : List V} {xs : List D} {st st' : DSt} {F : Addr → Prop}, Sim K H0 M st σ F H → Ext sts σ Fs Hb st F H → RvWs K F H st σ Hb rs vs → toDs st rs = some (xs, st') →
    ∃ F', Sim K H0 M st' σ F' H ∧ Ext sts σ Fs Hb st' F' H ∧ RpAll K F' H vs xs ∧ (∀ a, F a → F' a) ∧ (∀ i, IsOwn st' i → IsOwn st i) ∧ Fill st st'
  | [], _, xs, st, st', F, S, E, .nil, e => by
    cases e
    exact ⟨F, S, E, .nil, fun _ h => h, fun _ h => h, .refl⟩
  | r :: rs, _, xs, st, st', F, S, E, .cons h t, e => by
    have e : ((toD st r).bind fun p => (toDs p.2 rs).bind fun q => some (p.1 :: q.1, q.2)) = some (xs, st') := e
    cases q : toD st r with
    | none => rw [q] at e; cases e
    | some p =>
      rw [q] at e
      cases q2 : toDs p.2 rs with
      | none =>
        have e : ((toDs p.2 rs).bind fun q => some (p.1 :: q.1, q.2)) = some (xs, st') := e
        rw [q2] at e
        cases e
      | some w =>
        have e : ((toDs p.2 rs).bind fun q => some (p.1 :: q.1, q.2)) = some (xs, st') := e
        rw [q2] at e
        cases e
        obtain ⟨F1, S1, E1, r1, s1, o1, f1⟩ := toD_ok S E h q
        obtain ⟨F2, S2, E2, r2, s2, o2, f2⟩ := toDs_ok S1 E1 (t.to s1 o1 f1) q2
        exact ⟨F2, S2, E2, .cons (r1.more s2) r2, fun a z => s2 a (s1 a z), fun i z => o1 i (o2 i z), f1.trans f2⟩
end
end DL
end

section
set_option Elab.async false
set_option linter.all false
set_option maxRecDepth 100000
set_option maxHeartbeats 1000000
/-! DLsnd2: readings of expressions and tests. -/
namespace DL
open PySem PySem.Spec PyProof.Rows L2
def SndE (K : PySem.W.Frag) (t : TE) (f : DE) : Prop := ∀ (H0 : Hp) (M : Nat → Option Addr) (st : DSt) (σ : L2.St) (F : Addr → Prop) (H : Hp) (r : Rv) (st' : DSt) (Q : VK), Sim K H0 M st σ F H → f st = some (r, st') →
  (∀ v F' H', Sim K H0 M st' σ F' H' → Ext st σ F H st' F' H' → Fill st st' → RvOk K F' H' st' σ H r v → Q v H') → t σ H Q
def SndT (K : PySem.W.Frag) (t : TT) (f : DT) : Prop := ∀ (H0 : Hp) (M : Nat → Option Addr) (st : DSt) (σ : L2.St) (F : Addr → Prop) (H : Hp) (b : Bool) (st' : DSt) (Q : Bool → Hp → Prop), Sim K H0 M st σ F H → f st = some (b, st') →
  (∀ F' H', Sim K H0 M st' σ F' H' → Ext st σ F H st' F' H' → Fill st st' → Q b H') → t σ H Q
def SndA (K : PySem.W.Frag) (t : TA) (f : DA) : Prop := ∀ (H0 : Hp) (M : Nat → Option Addr) (st : DSt) (σ : L2.St) (F : Addr → Prop) (H : Hp) (rs : List Rv) (st' : DSt) (Q : List V → Hp → Prop), Sim K H0 M st σ F H → f st = some (rs, st') →
  (∀ vs F' H', Sim K H0 M st' σ F' H' → Ext st σ F H st' F' H' → Fill st st' → RvWs K F' H' st' σ H rs vs → Q vs H') → t σ H Q
def SndO (K : PySem.W.Frag) (t : TO) (f : DO) : Prop := ∀ (H0 : Hp) (M : Nat → Option Addr) (st : DSt) (σ : L2.St) (F : Addr → Prop) (H : Hp) (o : Option Int) (st' : DSt) (Q : Option Int → Hp → Prop), Sim K H0 M st σ F H → f st = some (o, st') →
  (∀ F' H', Sim K H0 M st' σ F' H' → Ext st σ F H st' F' H' → Fill st st' → Q o H') → t σ H Q
/-- what an operation makes -/
def NewOk (K : PySem.W.Frag) (F : Addr → Prop) (H H' : Hp) (v : V) : Rv → Prop
  | .d x => Rp K F H' v x
  | .tmp xs => ∃ p vs, v = .ref p ∧ H p = none ∧ H' p = some (.lst vs) ∧ RpAll K F H' vs xs
  | .sl _ => False
def Prim2 (K : PySem.W.Frag) (r : R2) (op : D → D → Option Rv) : Prop := ∀ (F : Addr → Prop) (H : Hp) (v w : V) (x y : D) (z : Rv) (Q : VK), Pk K F H v x → Pk K F H w y → op x y = some z →
  (∀ v' H', Same H H' → NewOk K F H H' v' z → Q v' H') → r v w H Q
def Prim1 (K : PySem.W.Frag) (r : V → Hp → VK → Prop) (op : D → Option Rv) : Prop := ∀ (F : Addr → Prop) (H : Hp) (v : V) (x : D) (z : Rv) (Q : VK), Pk K F H v x → op x = some z →
  (∀ v' H', Same H H' → NewOk K F H H' v' z → Q v' H') → r v H Q
def PrimN (K : PySem.W.Frag) (r : List V → Hp → VK → Prop) (op : List D → Option Rv) : Prop := ∀ (F : Addr → Prop) (H : Hp) (vs : List V) (xs : List D) (z : Rv) (Q : VK), PkAll K F H vs xs → op xs = some z →
  (∀ v' H', Same H H' → NewOk K F H H' v' z → Q v' H') → r vs H Q
def PrimS (K : PySem.W.Frag) (r : V → Option Int → Option Int → Hp → VK → Prop) (op : D → Option Int → Option Int → Option Rv) : Prop := ∀ (F : Addr → Prop) (H : Hp) (v : V) (x : D) (lo hi : Option Int) (z : Rv) (Q : VK), Pk K F H v x → op x lo hi = some z →
  (∀ v' H', Same H H' → NewOk K F H H' v' z → Q v' H') → r v lo hi H Q
section
variable {K : PySem.W.Frag} {H0 : Hp} {M : Nat → Option Addr} {st st' st2 : DSt} {σ : L2.St} {F F' F2 : Addr → Prop} {H H' H2 H3 Hb Hc : Hp} {v w : V} {r : Rv} {x : PyData}
theorem bs {α β : Type} {o : Option α} {f : α → Option β} {r : β} (h : (o.bind f) = some r) : ∃ x, o = some x ∧ f x = some r := by
  cases o with
  | none => cases h
  | some x => exact ⟨x, rfl, h⟩
theorem fin_new {z : Rv} (S2 : Sim K H0 M st2 σ F2 H2) (E : Ext st σ F H st2 F2 H2) (s : Same H2 H3) (n : NewOk K F2 H2 H3 v z) : Sim K H0 M st2 σ F2 H3 ∧ Ext st σ F H st2 F2 H3 ∧ RvOk K F2 H3 st2 σ H z v := by
  refine ⟨S2.grow s, E.trans (.grow s), ?_⟩
  cases z with
  | d x => exact n
  | tmp xs =>
    obtain ⟨p, vs, a, b, c, d⟩ := n
    refine ⟨p, vs, a, c, d, fun z => ?_, fun z => ?_, Classical.byContradiction fun z => E.live p z b⟩
    · obtain ⟨ys, e⟩ := S2.frz p z
      rw [b] at e
      cases e
    · obtain ⟨⟨ys, e⟩, _⟩ := S2.atOwn z
      rw [b] at e
      cases e
  | sl i => exact n.elim

/-! ### names, constants -/
theorem snd_var {i : Nat} : SndE K (tVar i) (dVar i) := by
  intro H0 M st σ F H r st' Q S e q
  have e : (match st.getD i none with
    | some (.d x) => some (.d x, st)
    | some (.own _) => some (.sl i, st)
    | some (.lent _) => some (.sl i, st)
    | none => none) = some (r, st') := e
  cases g : st.getD i none with
  | none => rw [g] at e; cases e
  | some s =>
    rw [g] at e
    cases s with
    | d x =>
      cases e
      obtain ⟨v, e1, r1⟩ := S.dat i x g
      exact ⟨v, e1, q v F H S .refl .refl r1⟩
    | own xs =>
      cases e
      obtain ⟨p, vs, e1, _⟩ := S.own i xs g
      exact ⟨_, e1, q _ F H S .refl .refl e1⟩
    | lent xs =>
      cases e
      obtain ⟨p, vs, _, e1, _⟩ := S.lent i xs g
      exact ⟨_, e1, q _ F H S .refl .refl e1⟩
theorem snd_c {v : V} {x : D} (h : ∀ (F : Addr → Prop) (H : Hp), Rp K F H v x) : SndE K (tC v) (dC x) := by
  intro H0 M st σ F H r st' Q S e q
  cases e
  exact q v F H S .refl .refl (h F H)

/-! ### argument lists -/
theorem snd_nil : SndA K tNil dNil := by
  intro H0 M st σ F H rs st' Q S e q
  cases e
  exact q [] F H S .refl .refl .nil
theorem snd_cons {ta : TE} {tr : TA} {f : DE} {g : DA} (a : SndE K ta f) (b : SndA K tr g) : SndA K (tCons ta tr) (dCons f g) := by
  intro H0 M st σ F H rs st' Q S e q
  obtain ⟨p, e1, e⟩ := bs e
  obtain ⟨w, e2, e⟩ := bs e
  cases e
  refine a H0 M st σ F H p.1 p.2 _ S e1 fun v F1 H1 S1 E1 f1 r1 => ?_
  refine b H0 M p.2 σ F1 H1 w.1 w.2 _ S1 e2 fun vs F2 H2 S2 E2 f2 r2 => ?_
  exact q (v :: vs) F2 H2 S2 (E1.trans E2) (f1.trans f2) (.cons (r1.weak.ext S1 E2 f2) (r2.birth E1.live))

/-! ### operators -/
theorem snd_op2 {r : R2} {op : D → D → Option Rv} {ta tb : TE} {f g : DE} (h : Prim2 K r op) (a : SndE K ta f) (b : SndE K tb g) : SndE K (tOp r ta tb) (dOp2 op f g) := by
  intro H0 M st σ F H z st' Q S e q
  obtain ⟨p, e1, e⟩ := bs e
  obtain ⟨w, e2, e⟩ := bs e
  obtain ⟨x, e3, e⟩ := bs e
  obtain ⟨y, e4, e⟩ := bs e
  obtain ⟨u, e5, e⟩ := bs e
  cases e
  refine a H0 M st σ F H p.1 p.2 _ S e1 fun v F1 H1 S1 E1 f1 r1 => ?_
  refine b H0 M p.2 σ F1 H1 w.1 w.2 _ S1 e2 fun v2 F2 H2 S2 E2 f2 r2 => ?_
  refine h F2 H2 v v2 x y z Q (look_ok S2 (r1.weak.ext S1 E2 f2) e3) (look_ok S2 r2.weak e4) e5 fun v' H' s n => ?_
  obtain ⟨S3, E3, r3⟩ := fin_new S2 (E1.trans E2) s n
  exact q v' F2 H' S3 E3 (f1.trans f2) r3
theorem snd_op1 {r : V → Hp → VK → Prop} {op : D → Option Rv} {ta : TE} {f : DE} (h : Prim1 K r op) (a : SndE K ta f) : SndE K (tUn r ta) (dOp1 op f) := by
  intro H0 M st σ F H z st' Q S e q
  obtain ⟨p, e1, e⟩ := bs e
  obtain ⟨x, e3, e⟩ := bs e
  obtain ⟨u, e5, e⟩ := bs e
  cases e
  refine a H0 M st σ F H p.1 p.2 _ S e1 fun v F1 H1 S1 E1 f1 r1 => ?_
  refine h F1 H1 v x z Q (look_ok S1 r1.weak e3) e5 fun v' H' s n => ?_
  obtain ⟨S3, E3, r3⟩ := fin_new S1 E1 s n
  exact q v' F1 H' S3 E3 f1 r3
theorem snd_callB {r : List V → Hp → VK → Prop} {op : List D → Option Rv} {t : TA} {f : DA} (h : PrimN K r op) (a : SndA K t f) : SndE K (tCB r t) (dCallB op f) := by
  intro H0 M st σ F H z st' Q S e q
  obtain ⟨p, e1, e⟩ := bs e
  obtain ⟨xs, e3, e⟩ := bs e
  obtain ⟨u, e5, e⟩ := bs e
  cases e
  refine a H0 M st σ F H p.1 p.2 _ S e1 fun vs F1 H1 S1 E1 f1 r1 => ?_
  refine h F1 H1 vs xs z Q (looks_ok S1 r1 e3) e5 fun v' H' s n => ?_
  obtain ⟨S3, E3, r3⟩ := fin_new S1 E1 s n
  exact q v' F1 H' S3 E3 f1 r3
theorem snd_nopart : SndO K tNoPart dNoPart := by
  intro H0 M st σ F H o st' Q S e q
  cases e
  exact q F H S .refl .refl
theorem snd_part {t : TE} {f : DE} (a : SndE K t f) : SndO K (tPart t) (dPart f) := by
  intro H0 M st σ F H o st' Q S e q
  obtain ⟨p, e1, e⟩ := bs e
  refine a H0 M st σ F H p.1 p.2 _ S e1 fun v F1 H1 S1 E1 f1 r1 => ?_
  cases g : look p.2 p.1 with
  | none => rw [g] at e; cases e
  | some x =>
    rw [g] at e
    cases x with
    | int i =>
      cases e
      have k := look_ok S1 r1.weak g
      rcases k with k | ⟨_, _, _, _, k, _⟩
      · cases k
        exact ⟨i, rfl, q F1 H1 S1 E1 f1⟩
      · cases k
    | _ => cases e
theorem snd_slice {r : V → Option Int → Option Int → Hp → VK → Prop} {op : D → Option Int → Option Int → Option Rv} {te : TE} {tl th : TO} {f : DE} {fl fh : DO} (h : PrimS K r op) (a : SndE K te f) (b : SndO K tl fl) (c : SndO K th fh) :
    SndE K (tSl r te tl th) (dSlice op f fl fh) := by
  intro H0 M st σ F H z st' Q S e q
  obtain ⟨p, e1, e⟩ := bs e
  obtain ⟨l, e2, e⟩ := bs e
  obtain ⟨u, e3, e⟩ := bs e
  obtain ⟨x, e4, e⟩ := bs e
  obtain ⟨y, e5, e⟩ := bs e
  cases e
  refine a H0 M st σ F H p.1 p.2 _ S e1 fun v F1 H1 S1 E1 f1 r1 => ?_
  refine b H0 M p.2 σ F1 H1 l.1 l.2 _ S1 e2 fun F2 H2 S2 E2 f2 => ?_
  refine c H0 M l.2 σ F2 H2 u.1 u.2 _ S2 e3 fun F3 H3 S3 E3 f3 => ?_
  refine h F3 H3 v x l.1 u.1 z Q (look_ok S3 ((r1.weak.ext S1 E2 f2).ext S2 E3 f3) e4) e5 fun v' H' s n => ?_
  obtain ⟨S4, E4, r4⟩ := fin_new S3 ((E1.trans E2).trans E3) s n
  exact q v' F3 H' S4 E4 ((f1.trans f2).trans f3) r4
theorem same_upd {H : Hp} {p : Addr} {o : HO} (h : H p = none) : Same H (upd H p o) := fun b x e => by
  rw [upd_ne (ne_of_none e h)]
  exact e
theorem snd_list {t : TA} {f : DA} (a : SndA K t f) : SndE K (tLst t) (dList f) := by
  intro H0 M st σ F H z st' Q S e q
  obtain ⟨p, e1, e⟩ := bs e
  obtain ⟨w, e2, e⟩ := bs e
  refine a H0 M st σ F H p.1 p.2 _ S e1 fun vs F1 H1 S1 E1 f1 r1 => ?_
  obtain ⟨F2, S2, E2, rr, _, _, f2⟩ := toDs_ok S1 E1 r1 e2
  by_cases hz : w.1.length ≤ sizeLine
  · rw [if_pos hz] at e
    cases e
    refine ⟨by rw [rr.length]; exact hz, fun p hp => ?_⟩
    obtain ⟨S3, E3, r3⟩ := fin_new (z := .tmp w.1) S2 E2 (same_upd hp) ⟨p, vs, rfl, hp, upd_same, rr.grow (same_upd hp)⟩
    exact q _ F2 _ S3 E3 (f1.trans f2) r3
  · rw [if_neg hz] at e
    cases e
theorem snd_tup {t : TA} {f : DA} (a : SndA K t f) : SndE K (tTup t) (dTup f) := by
  intro H0 M st σ F H z st' Q S e q
  obtain ⟨p, e1, e⟩ := bs e
  obtain ⟨w, e2, e⟩ := bs e
  refine a H0 M st σ F H p.1 p.2 _ S e1 fun vs F1 H1 S1 E1 f1 r1 => ?_
  obtain ⟨F2, S2, E2, rr, _, _, f2⟩ := toDs_ok S1 E1 r1 e2
  by_cases hz : w.1.length ≤ sizeLine
  · rw [if_pos hz] at e
    cases e
    refine ⟨by rw [rr.length]; exact hz, fun p hp => ?_⟩
    obtain ⟨S3, E3, r3⟩ := fin_new (z := .d (.tuple w.1)) S2 E2 (same_upd hp) (show Rp K F2 _ (.ref p) _ from .tup (SqT.of upd_same) (rr.grow (same_upd hp)))
    exact q _ F2 _ S3 E3 (f1.trans f2) r3
  · rw [if_neg hz] at e
    cases e

/-! ### tests -/
theorem look_bool (S : Sim K H0 M st σ F H) (h : RvW K F H st σ Hb r v) {b : Bool} (e : look st r = some (.bool b)) : v = .bl b := by
  rcases look_ok S h e with k | ⟨_, _, _, _, k, _⟩
  · cases k
    rfl
  · cases k
theorem snd_test {t : TE} {f : DE} (a : SndE K t f) : SndT K (tB t) (dTest f) := by
  intro H0 M st σ F H b st' Q S e q
  obtain ⟨p, e1, e⟩ := bs e
  refine a H0 M st σ F H p.1 p.2 _ S e1 fun v F1 H1 S1 E1 f1 r1 => ?_
  cases g : look p.2 p.1 with
  | none => rw [g] at e; cases e
  | some x =>
    rw [g] at e
    cases x with
    | bool c =>
      cases e
      exact ⟨b, look_bool S1 r1.weak g, q F1 H1 S1 E1 f1⟩
    | _ => cases e
theorem snd_testC {t : TE} {f : DE} (a : SndE K t f) : SndT K (tTest t) (dTest f) := snd_test a
theorem snd_not {t : TT} {f : DT} (a : SndT K t f) : SndT K (tNot t) (dNot f) := by
  intro H0 M st σ F H b st' Q S e q
  obtain ⟨p, e1, e⟩ := bs e
  cases e
  exact a H0 M st σ F H p.1 p.2 _ S e1 fun F1 H1 S1 E1 f1 => q F1 H1 S1 E1 f1
theorem snd_and {t u : TT} {f g : DT} (a : SndT K t f) (b : SndT K u g) : SndT K (tAnd t u) (dAnd f g) := by
  intro H0 M st σ F H k st' Q S e q
  obtain ⟨p, e1, e⟩ := bs e
  refine a H0 M st σ F H p.1 p.2 _ S e1 fun F1 H1 S1 E1 f1 => ?_
  by_cases c : p.1 = true
  · rw [if_pos c] at e
    rw [if_pos c]
    exact b H0 M p.2 σ F1 H1 k st' _ S1 e fun F2 H2 S2 E2 f2 => q F2 H2 S2 (E1.trans E2) (f1.trans f2)
  · rw [if_neg c] at e
    rw [if_neg c]
    cases e
    exact q F1 H1 S1 E1 f1
theorem snd_or {t u : TT} {f g : DT} (a : SndT K t f) (b : SndT K u g) : SndT K (tOr t u) (dOr f g) := by
  intro H0 M st σ F H k st' Q S e q
  obtain ⟨p, e1, e⟩ := bs e
  refine a H0 M st σ F H p.1 p.2 _ S e1 fun F1 H1 S1 E1 f1 => ?_
  by_cases c : p.1 = true
  · rw [if_pos c] at e
    rw [if_pos c]
    cases e
    exact q F1 H1 S1 E1 f1
  · rw [if_neg c] at e
    rw [if_neg c]
    exact b H0 M p.2 σ F1 H1 k st' _ S1 e fun F2 H2 S2 E2 f2 => q F2 H2 S2 (E1.trans E2) (f1.trans f2)
theorem snd_andV {t u : TE} {f g : DE} (a : SndE K t f) (b : SndE K u g) : SndE K (tAndV t u) (dAndV f g) := by
  intro H0 M st σ F H k st' Q S e q
  obtain ⟨p, e1, e⟩ := bs e
  refine a H0 M st σ F H p.1 p.2 _ S e1 fun v F1 H1 S1 E1 f1 r1 => ?_
  cases g' : look p.2 p.1 with
  | none => rw [g'] at e; cases e
  | some x =>
    rw [g'] at e
    cases x with
    | bool c =>
      refine ⟨c, look_bool S1 r1.weak g', ?_⟩
      cases c with
      | true =>
        rw [if_pos rfl]
        have e : g p.2 = some (k, st') := e
        exact b H0 M p.2 σ F1 H1 k st' _ S1 e fun v F2 H2 S2 E2 f2 r2 => q v F2 H2 S2 (E1.trans E2) (f1.trans f2) (r2.birth E1.live)
      | false =>
        rw [if_neg Bool.false_ne_true]
        have e : some (Rv.d (.bool false), p.2) = some (k, st') := e
        cases e
        exact q _ F1 H1 S1 E1 f1 (.bl false)
    | _ => cases e
theorem snd_orV {t u : TE} {f g : DE} (a : SndE K t f) (b : SndE K u g) : SndE K (tOrV t u) (dOrV f g) := by
  intro H0 M st σ F H k st' Q S e q
  obtain ⟨p, e1, e⟩ := bs e
  refine a H0 M st σ F H p.1 p.2 _ S e1 fun v F1 H1 S1 E1 f1 r1 => ?_
  cases g' : look p.2 p.1 with
  | none => rw [g'] at e; cases e
  | some x =>
    rw [g'] at e
    cases x with
    | bool c =>
      refine ⟨c, look_bool S1 r1.weak g', ?_⟩
      cases c with
      | false =>
        rw [if_neg Bool.false_ne_true]
        have e : g p.2 = some (k, st') := e
        exact b H0 M p.2 σ F1 H1 k st' _ S1 e fun v F2 H2 S2 E2 f2 r2 => q v F2 H2 S2 (E1.trans E2) (f1.trans f2) (r2.birth E1.live)
      | true =>
        rw [if_pos rfl]
        have e : some (Rv.d (.bool true), p.2) = some (k, st') := e
        cases e
        exact q _ F1 H1 S1 E1 f1 (.bl true)
    | _ => cases e
theorem snd_notV {t : TE} {f : DE} (a : SndE K t f) : SndE K (tNotV t) (dNotV f) := by
  intro H0 M st σ F H k st' Q S e q
  obtain ⟨p, e1, e⟩ := bs e
  refine a H0 M st σ F H p.1 p.2 _ S e1 fun v F1 H1 S1 E1 f1 r1 => ?_
  cases g' : look p.2 p.1 with
  | none => rw [g'] at e; cases e
  | some x =>
    rw [g'] at e
    cases x with
    | bool c =>
      cases e
      exact ⟨c, look_bool S1 r1.weak g', q _ F1 H1 S1 E1 f1 (.bl _)⟩
    | _ => cases e
theorem snd_if {t : TT} {ta tb : TE} {c : DT} {f g : DE} (a : SndT K t c) (b : SndE K ta f) (d : SndE K tb g) : SndE K (tIf t ta tb) (dIf c f g) := by
  intro H0 M st σ F H k st' Q S e q
  obtain ⟨p, e1, e⟩ := bs e
  refine a H0 M st σ F H p.1 p.2 _ S e1 fun F1 H1 S1 E1 f1 => ?_
  by_cases h : p.1 = true
  · rw [if_pos h] at e
    rw [if_pos h]
    exact b H0 M p.2 σ F1 H1 k st' _ S1 e fun v F2 H2 S2 E2 f2 r2 => q v F2 H2 S2 (E1.trans E2) (f1.trans f2) (r2.birth E1.live)
  · rw [if_neg h] at e
    rw [if_neg h]
    exact d H0 M p.2 σ F1 H1 k st' _ S1 e fun v F2 H2 S2 E2 f2 r2 => q v F2 H2 S2 (E1.trans E2) (f1.trans f2) (r2.birth E1.live)
end

/-! ### what the operators' readings ask -/
section
variable {K : PySem.W.Frag} {F : Addr → Prop} {H : Hp} {v : V}
theorem Pk.int {i : Int} (h : Pk K F H v (.int i)) : v = .int i := by
  rcases h with k | ⟨_, _, _, _, k, _⟩
  · cases k; rfl
  · cases k
theorem Pk.bl {i : Bool} (h : Pk K F H v (.bool i)) : v = .bl i := by
  rcases h with k | ⟨_, _, _, _, k, _⟩
  · cases k; rfl
  · cases k
theorem Pk.str {i : Str} (h : Pk K F H v (.str i)) : v = .str i := by
  rcases h with k | ⟨_, _, _, _, k, _⟩
  · cases k; rfl
  · cases k
theorem Pk.non (h : Pk K F H v .none) : v = .non := by
  rcases h with k | ⟨_, _, _, _, k, _⟩
  · cases k; rfl
  · cases k
theorem Pk.list {xs : List D} (h : Pk K F H v (.list xs)) : ∃ p vs, v = .ref p ∧ SqL K H p vs ∧ RpAll K F H vs xs := by
  rcases h with k | ⟨p, vs, ys, rfl, k, e, r⟩
  · cases k with
    | lst a b => exact ⟨_, _, rfl, a.sql, b⟩
  · cases k
    exact ⟨p, vs, rfl, SqL.of e, r⟩
theorem Pk.tup {xs : List D} (h : Pk K F H v (.tuple xs)) : ∃ p vs, v = .ref p ∧ SqT K H p vs ∧ RpAll K F H vs xs := by
  rcases h with k | ⟨p, vs, ys, rfl, k, e, r⟩
  · cases k with
    | tup a b => exact ⟨_, _, rfl, a, b⟩
  · cases k
theorem Pk.dp {x : D} (h : Pk K F H v x) : Dp K H v x := by
  rcases h with k | ⟨p, vs, ys, rfl, k, e, r⟩
  · exact k.dp
  · subst k
    exact .lst (SqL.of e) r.dp
theorem Same.rfl' : Same H H := fun _ _ h => h
theorem p_int2 {g : Int → Int → V} {gd : Int → Int → Option Rv} {C : Int → Int → Prop} (h : ∀ i j z, gd i j = some z → C i j ∧ ∀ (F : Addr → Prop) (H : Hp), NewOk K F H H (g i j) z) :
    Prim2 K (rI C g) fun x y => match x, y with | .int i, .int j => gd i j | _, _ => none := by
  intro F H v w x y z Q a b e q
  cases x with
  | int i =>
    cases y with
    | int j =>
      obtain ⟨c, n⟩ := h i j z e
      exact ⟨i, j, a.int, b.int, c, q _ H Same.rfl' (n F H)⟩
    | _ => cases e
  | _ => cases e
theorem prim_sub : Prim2 K (rI0 fun i j => .int (i - j)) opSub := by
  intro F H v w x y z Q a b e q
  cases x <;> cases y <;> try (cases e; done)
  cases e
  exact ⟨_, _, a.int, b.int, q _ H Same.rfl' (.int _)⟩
theorem prim_div : Prim2 K (rI CDivW fun i j => .int (i / j)) opDiv := by
  intro F H v w x y z Q a b e q
  cases x <;> cases y <;> try (cases e; done)
  rename_i i j
  have e : (if 0 < j ∧ j.natAbs.log2 < 9000 then some (Rv.d (.int (i / j))) else none) = some z := e
  by_cases c : 0 < j ∧ j.natAbs.log2 < 9000
  · rw [if_pos c] at e
    cases e
    exact ⟨_, _, a.int, b.int, c, q _ H Same.rfl' (.int _)⟩
  · rw [if_neg c] at e
    cases e
theorem prim_mod : Prim2 K (rI (fun _ j => 0 < j) fun i j => .int (i % j)) opMod := by
  intro F H v w x y z Q a b e q
  cases x <;> cases y <;> try (cases e; done)
  rename_i i j
  have e : (if 0 < j then some (Rv.d (.int (i % j))) else none) = some z := e
  by_cases c : 0 < j
  · rw [if_pos c] at e
    cases e
    exact ⟨_, _, a.int, b.int, c, q _ H Same.rfl' (.int _)⟩
  · rw [if_neg c] at e
    cases e
theorem prim_pow : Prim2 K (rI CPow fun i j => .int (i ^ j.toNat)) opPow := by
  intro F H v w x y z Q a b e q
  cases x <;> cases y <;> try (cases e; done)
  rename_i i j
  have e : (if 0 ≤ j ∧ j ≤ 1000000 ∧ i.natAbs < 2 ^ 64 then some (Rv.d (.int (i ^ j.toNat))) else none) = some z := e
  by_cases c : 0 ≤ j ∧ j ≤ 1000000 ∧ i.natAbs < 2 ^ 64
  · rw [if_pos c] at e
    cases e
    exact ⟨_, _, a.int, b.int, c, q _ H Same.rfl' (.int _)⟩
  · rw [if_neg c] at e
    cases e
theorem prim_cmp {p : Int → Int → Bool} : Prim2 K (rI0 fun i j => .bl (p i j)) (opCmp p) := by
  intro F H v w x y z Q a b e q
  cases x <;> cases y <;> try (cases e; done)
  cases e
  exact ⟨_, _, a.int, b.int, q _ H Same.rfl' (.bl _)⟩
theorem prim_neg : Prim1 K (rU fun i => .int (-i)) opNeg := by
  intro F H v x z Q a e q
  cases x <;> try (cases e; done)
  cases e
  exact ⟨_, a.int, q _ H Same.rfl' (.int _)⟩
theorem flat_plain {x : PyData} (h : flat x = true) : x.plain = true := by
  unfold flat at h
  exact (Bool.and_eq_true _ _ ▸ h).1
theorem flat_depth {x : PyData} (h : flat x = true) : x.depth ≤ 64 := by
  unfold flat at h
  exact of_decide_eq_true (Bool.and_eq_true _ _ ▸ h).2
def rEqP (K : PySem.W.Frag) : R2 := fun x y H Q => ∃ d e, Dp K H x d ∧ Dp K H y e ∧ flat d = true ∧ flat e = true ∧ Q (.bl (PyData.eqv d e)) H
def rNeP (K : PySem.W.Frag) : R2 := fun x y H Q => ∃ d e, Dp K H x d ∧ Dp K H y e ∧ flat d = true ∧ flat e = true ∧ Q (.bl (!PyData.eqv d e)) H
theorem op_eqP {X : Cx} (hu : X.A.units + 64 < cLine) : OpR X (compareOp .Eq) (rEqP X.K) := by
  intro pins s σ H x y v u Q I rx ry h
  obtain ⟨d, e, hd, he, sd, se, q⟩ := h
  obtain ⟨as, r1⟩ := Dp.reads I d x v hd rx
  obtain ⟨bs, r2⟩ := Dp.reads I e y u he ry
  have h1 := flat_depth sd
  exact SeqAt.eq_plain r1 r2 (flat_plain sd) (flat_plain se) (by omega) ⟨.bl _, H, I, rfl, q⟩
theorem op_neP {X : Cx} (hu : X.A.units + 64 < cLine) : OpR X (compareOp .NotEq) (rNeP X.K) := by
  intro pins s σ H x y v u Q I rx ry h
  obtain ⟨d, e, hd, he, sd, se, q⟩ := h
  obtain ⟨as, r1⟩ := Dp.reads I d x v hd rx
  obtain ⟨bs, r2⟩ := Dp.reads I e y u he ry
  have h1 := flat_depth sd
  exact SeqAt.ne_plain r1 r2 (flat_plain sd) (flat_plain se) (by omega) ⟨.bl _, H, I, rfl, q⟩
theorem prim_eq : Prim2 K (rEqP K) opEq := by
  intro F H v w x y z Q a b e q
  have e : (if flat x = true ∧ flat y = true then some (Rv.d (.bool (PyData.eqv x y))) else none) = some z := e
  by_cases c : flat x = true ∧ flat y = true
  · rw [if_pos c] at e
    cases e
    exact ⟨x, y, a.dp, b.dp, c.1, c.2, q _ H Same.rfl' (.bl _)⟩
  · rw [if_neg c] at e
    cases e
theorem prim_ne : Prim2 K (rNeP K) opNe := by
  intro F H v w x y z Q a b e q
  have e : (if flat x = true ∧ flat y = true then some (Rv.d (.bool (!PyData.eqv x y))) else none) = some z := e
  by_cases c : flat x = true ∧ flat y = true
  · rw [if_pos c] at e
    cases e
    exact ⟨x, y, a.dp, b.dp, c.1, c.2, q _ H Same.rfl' (.bl _)⟩
  · rw [if_neg c] at e
    cases e
end
end DL
end

section
set_option Elab.async false
set_option linter.all false
set_option maxRecDepth 100000
set_option maxHeartbeats 1000000
/-! DLsnd3: readings of statements, loops, comprehensions, calls. -/
namespace DL
open PySem PySem.Spec PyProof.Rows L2
/-- from one point of a def's run to a later one -/
structure FExt (K : PySem.W.Frag) (H0 : Hp) (F : Addr → Prop) (H : Hp) (F' : Addr → Prop) (H' : Hp) : Prop where
  sub : ∀ a, F a → F' a
  new : ∀ a, F' a → F a ∨ H0 a = none
  fl : ∀ a xs, FL K F H a xs → FL K F' H' a xs
  tup : ∀ a xs, SqT K H a xs → SqT K H' a xs
def RtOk (K : PySem.W.Frag) (H0 : Hp) (F : Addr → Prop) (H : Hp) : Rt → V → Prop
  | .d x, v => Rp K F H v x
  | .own xs, v => ∃ p vs, v = .ref p ∧ H p = some (.lst vs) ∧ RpAll K F H vs xs ∧ ¬ F p ∧ H0 p = none
def FlOk (K : PySem.W.Frag) (H0 : Hp) (M : Nat → Option Addr) (F : Addr → Prop) (H : Hp) (st' : DSt) (E : Ends) : Fl → Prop
  | .nx => ∀ σ' F' H', Sim K H0 M st' σ' F' H' → FExt K H0 F H F' H' → E.nx σ' H'
  | .bk => ∀ σ' F' H', Sim K H0 M st' σ' F' H' → FExt K H0 F H F' H' → E.bk σ' H'
  | .ct => ∀ σ' F' H', Sim K H0 M st' σ' F' H' → FExt K H0 F H F' H' → E.ct σ' H'
  | .rt r => ∀ v σ' F' H', Sim K H0 M st' σ' F' H' → FExt K H0 F H F' H' → RtOk K H0 F' H' r v → E.rt v H'
def SndS (K : PySem.W.Frag) (t : TS) (g : DS) : Prop := ∀ (H0 : Hp) (M : Nat → Option Addr) (st : DSt) (σ : L2.St) (F : Addr → Prop) (H : Hp) (fl : Fl) (st' : DSt) (E : Ends), Sim K H0 M st σ F H → g st = some (fl, st') →
  FlOk K H0 M F H st' E fl → t E σ H
def SndG (K : PySem.W.Frag) (is : List Nat) (tg : TG) (g : DG) : Prop := ∀ (H0 : Hp) (M : Nat → Option Addr) (st : DSt) (σ : L2.St) (F : Addr → Prop) (H : Hp) (x : D) (v : V) (st' : DSt) (Q : L2.St → Hp → Prop), Sim K H0 M st σ F H → Rp K F H v x → g x st = some st' →
  (∀ σ', Sim K H0 M st' σ' F H → (σ'.length = σ.length ∧ ∀ j, j ∉ is → σ'[j]? = σ[j]?) → (∀ j, IsOwn st' j → IsOwn st j ∧ j ∉ is) → Q σ' H) → tg v σ H Q
def SndGs (K : PySem.W.Frag) (is : List Nat) (tg : TGs) (g : DGs) : Prop := ∀ (H0 : Hp) (M : Nat → Option Addr) (st : DSt) (σ : L2.St) (F : Addr → Prop) (H : Hp) (xs : List D) (vs : List V) (st' : DSt) (Q : L2.St → Hp → Prop), Sim K H0 M st σ F H → RpAll K F H vs xs → g xs st = some st' →
  (∀ σ', Sim K H0 M st' σ' F H → (σ'.length = σ.length ∧ ∀ j, j ∉ is → σ'[j]? = σ[j]?) → (∀ j, IsOwn st' j → IsOwn st j ∧ j ∉ is) → Q σ' H) → tg vs σ H Q
section
variable {K : PySem.W.Frag} {H0 : Hp} {M : Nat → Option Addr} {st st' st2 : DSt} {σ σ' : L2.St} {F F' F2 : Addr → Prop} {H H' H2 H3 Hb Hc : Hp} {v w : V} {r : Rv} {x : PyData} {fl : Fl} {E : Ends}
theorem FExt.refl : FExt K H0 F H F H := ⟨fun _ h => h, fun _ h => .inl h, fun _ _ h => h, fun _ _ h => h⟩
theorem FExt.trans (a : FExt K H0 F H F' H') (b : FExt K H0 F' H' F2 H2) : FExt K H0 F H F2 H2 :=
  ⟨fun c h => b.sub c (a.sub c h), fun c h => (b.new c h).elim (a.new c) .inr, fun c xs h => b.fl c xs (a.fl c xs h), fun c xs h => b.tup c xs (a.tup c xs h)⟩
theorem FExt.rp (E : FExt K H0 F H F' H') (h : Rp K F H v x) : Rp K F' H' v x := h.mono E.fl E.tup
theorem FExt.rpAll (E : FExt K H0 F H F' H') {vs : List V} {xs : List D} (h : RpAll K F H vs xs) : RpAll K F' H' vs xs := h.mono E.fl E.tup
theorem Ext.fext (S : Sim K H0 M st σ F H) (S' : Sim K H0 M st' σ F' H') (E : Ext st σ F H st' F' H') : FExt K H0 F H F' H' := by
  refine ⟨E.sub, fun a h => ?_, fun a xs h => E.fl S h, fun a xs h => E.sqt S h⟩
  rcases E.new a h with z | z | ⟨i, ⟨xs, z⟩, e⟩
  · exact .inl z
  · exact .inr (S.fresh0 z)
  · rcases z with z | z
    · obtain ⟨p, vs, e1, _, _, _, e2⟩ := S.own i xs z
      rw [e] at e1
      cases e1
      exact .inr e2
    · obtain ⟨p, vs, m, e1, _⟩ := S.lent i xs z
      rw [e] at e1
      cases e1
      obtain ⟨ys, z'⟩ := S'.lentE i _ m
      obtain ⟨p', vs', m', _, _, _, nf⟩ := S'.lent i ys z'
      rw [m] at m'
      cases m'
      exact absurd h nf
theorem FlOk.from (e : FExt K H0 F H F' H') (h : FlOk K H0 M F H st' E fl) : FlOk K H0 M F' H' st' E fl := by
  cases fl with
  | nx => exact fun σ1 F1 H1 S1 e1 => h σ1 F1 H1 S1 (e.trans e1)
  | bk => exact fun σ1 F1 H1 S1 e1 => h σ1 F1 H1 S1 (e.trans e1)
  | ct => exact fun σ1 F1 H1 S1 e1 => h σ1 F1 H1 S1 (e.trans e1)
  | rt r => exact fun v σ1 F1 H1 S1 e1 => h v σ1 F1 H1 S1 (e.trans e1)

/-! ### slots stored -/
theorem σget {i j : Nat} {o : Option V} (hi : i < σ.length) : (σ.set i o)[j]? = if i = j then some o else σ[j]? := by
  rw [List.getElem?_set]
  by_cases h : i = j
  · subst h
    simp [hi]
  · simp [h]
theorem Sim.setD (S : Sim K H0 M st σ F H) {i : Nat} (hi : i < st.length) (nl : ∀ xs, st.getD i none ≠ some (.lent xs)) (r : Rp K F H v x) : Sim K H0 M (st.set i (some (.d x))) (σ.set i (some v)) F H := by
  have hσ : i < σ.length := by rw [S.len]; exact hi
  have own : ∀ j, IsOwn (st.set i (some (.d x))) j → IsOwn st j ∧ i ≠ j := fun j ⟨ys, hj⟩ => by
    rw [getD_set hi] at hj
    by_cases ij : i = j
    · rw [if_pos ij] at hj
      rcases hj with hj | hj <;> cases hj
    · rw [if_neg ij] at hj
      exact ⟨⟨ys, hj⟩, ij⟩
  refine ⟨by rw [List.length_set, List.length_set]; exact S.len, fun j y hj => ?_, fun j ys hj => ?_, fun j ys hj => ?_, fun j q m => ?_, S.lent0, fun j k q a b e1 e2 => ?_, S.frz, S.base⟩
  · rw [getD_set hi] at hj
    rw [σget hσ]
    by_cases ij : i = j
    · rw [if_pos ij] at hj
      cases hj
      exact ⟨v, if_pos ij, r⟩
    · rw [if_neg ij] at hj
      rw [if_neg ij]
      exact S.dat j y hj
  · obtain ⟨_, ij⟩ := own j ⟨ys, .inl hj⟩
    rw [getD_set hi, if_neg ij] at hj
    rw [σget hσ, if_neg ij]
    exact S.own j ys hj
  · obtain ⟨_, ij⟩ := own j ⟨ys, .inr hj⟩
    rw [getD_set hi, if_neg ij] at hj
    rw [σget hσ, if_neg ij]
    exact S.lent j ys hj
  · obtain ⟨ys, h⟩ := S.lentE j q m
    refine ⟨ys, ?_⟩
    rw [getD_set hi, if_neg, h]
    rintro rfl
    exact nl ys h
  · obtain ⟨a, ij⟩ := own j a
    obtain ⟨b, ik⟩ := own k b
    rw [σget hσ, if_neg ij] at e1
    rw [σget hσ, if_neg ik] at e2
    exact S.inj j k q a b e1 e2
theorem Sim.setOwn (S : Sim K H0 M st σ F H) {i : Nat} {p : Addr} {vs : List V} {xs : List D} (hi : i < st.length) (nl : ∀ xs, st.getD i none ≠ some (.lent xs)) (hp : H p = some (.lst vs)) (r : RpAll K F H vs xs) (nf : ¬ F p) (no : ¬ OwnAt st σ p) (h0 : H0 p = none) :
    Sim K H0 M (st.set i (some (.own xs))) (σ.set i (some (.ref p))) F H := by
  have hσ : i < σ.length := by rw [S.len]; exact hi
  have own : ∀ j, i ≠ j → IsOwn (st.set i (some (.own xs))) j → IsOwn st j := fun j ij ⟨ys, hj⟩ => by
    rw [getD_set hi, if_neg ij] at hj
    exact ⟨ys, hj⟩
  refine ⟨by rw [List.length_set, List.length_set]; exact S.len, fun j y hj => ?_, fun j ys hj => ?_, fun j ys hj => ?_, fun j q m => ?_, S.lent0, fun j k q a b e1 e2 => ?_, S.frz, S.base⟩
  · rw [getD_set hi] at hj
    rw [σget hσ]
    by_cases ij : i = j
    · rw [if_pos ij] at hj
      cases hj
    · rw [if_neg ij] at hj
      rw [if_neg ij]
      exact S.dat j y hj
  · rw [getD_set hi] at hj
    rw [σget hσ]
    by_cases ij : i = j
    · rw [if_pos ij] at hj
      cases hj
      exact ⟨p, vs, if_pos ij, hp, r, nf, h0⟩
    · rw [if_neg ij] at hj
      rw [if_neg ij]
      exact S.own j ys hj
  · rw [getD_set hi] at hj
    rw [σget hσ]
    by_cases ij : i = j
    · rw [if_pos ij] at hj
      cases hj
    · rw [if_neg ij] at hj
      rw [if_neg ij]
      exact S.lent j ys hj
  · obtain ⟨ys, h⟩ := S.lentE j q m
    refine ⟨ys, ?_⟩
    rw [getD_set hi, if_neg, h]
    rintro rfl
    exact nl ys h
  · rw [σget hσ] at e1 e2
    by_cases ij : i = j
    · by_cases ik : i = k
      · exact ij.symm.trans ik
      · rw [if_pos ij] at e1
        rw [if_neg ik] at e2
        cases e1
        exact absurd ⟨k, own k ik b, e2⟩ no
    · by_cases ik : i = k
      · rw [if_neg ij] at e1
        rw [if_pos ik] at e2
        cases e2
        exact absurd ⟨j, own j ij a, e1⟩ no
      · rw [if_neg ij] at e1
        rw [if_neg ik] at e2
        exact S.inj j k q (own j ij a) (own k ik b) e1 e2
theorem setS_ok {i : Nat} {s : SV} (e : setS st i s = some st') : i < st.length ∧ (∀ xs, st.getD i none ≠ some (.lent xs)) ∧ st' = st.set i (some s) := by
  have go : ∀ {o : Option DSt}, o = (if i < st.length then some (st.set i (some s)) else none) → o = some st' → i < st.length ∧ st' = st.set i (some s) := fun h h' => by
    rw [h] at h'
    by_cases c : i < st.length
    · rw [if_pos c] at h'
      cases h'
      exact ⟨c, rfl⟩
    · rw [if_neg c] at h'
      cases h'
  unfold setS at e
  cases q : st.getD i none with
  | none =>
    rw [q] at e
    obtain ⟨a, b⟩ := go rfl e
    exact ⟨a, fun xs z => (by cases z), b⟩
  | some t =>
    rw [q] at e
    cases t with
    | lent ys => cases e
    | d y =>
      obtain ⟨a, b⟩ := go rfl e
      exact ⟨a, fun xs z => (by cases z), b⟩
    | own ys =>
      obtain ⟨a, b⟩ := go rfl e
      exact ⟨a, fun xs z => (by cases z), b⟩

/-! ### targets -/
theorem snd_gname {i : Nat} : SndG K [i] (L2.gName i) (gName i) := by
  intro H0 M st σ F H x v st' Q S r e q
  obtain ⟨hi, nl, rfl⟩ := setS_ok e
  refine q _ (S.setD hi nl r) ⟨List.length_set, fun j hj => ?_⟩ fun j ⟨ys, hj⟩ => ?_
  · rw [List.getElem?_set_ne]
    rintro rfl
    exact hj (by simp)
  · rw [getD_set hi] at hj
    by_cases ij : i = j
    · rw [if_pos ij] at hj
      rcases hj with hj | hj <;> cases hj
    · rw [if_neg ij] at hj
      exact ⟨⟨ys, hj⟩, fun z => ij (List.mem_singleton.mp z).symm⟩
theorem snd_gnil : SndGs K [] L2.gNil gNil := by
  intro H0 M st σ F H xs vs st' Q S r e q
  cases r with
  | nil => cases e; exact ⟨rfl, q _ S ⟨rfl, fun _ _ => rfl⟩ fun j h => ⟨h, by simp⟩⟩
  | cons _ _ => cases e
theorem snd_gcons {is js : List Nat} {t : TG} {u : TGs} {g : DG} {h : DGs} (a : SndG K is t g) (b : SndGs K js u h) : SndGs K (is ++ js) (L2.gCons t u) (gCons g h) := by
  intro H0 M st σ F H xs vs st' Q S r e q
  cases r with
  | nil => cases e
  | @cons v vs d ds r1 r2 =>
    obtain ⟨s1, e1, e2⟩ := bs e
    refine ⟨v, vs, rfl, a H0 M st σ F H d v s1 _ S r1 e1 fun σ1 S1 f1 g1 => ?_⟩
    refine b H0 M s1 σ1 F H ds vs st' _ S1 r2 e2 fun σ2 S2 f2 g2 => q σ2 S2 ⟨f2.1.trans f1.1, fun j hj => ?_⟩ fun j h => ?_
    · rw [List.mem_append] at hj
      exact (f2.2 j fun z => hj (.inr z)).trans (f1.2 j fun z => hj (.inl z))
    · obtain ⟨h2, n2⟩ := g2 j h
      obtain ⟨h1, n1⟩ := g1 j h2
      refine ⟨h1, fun z => ?_⟩
      rcases List.mem_append.mp z with z | z
      · exact n1 z
      · exact n2 z
theorem snd_gtup {is : List Nat} {n : Nat} {t : TGs} {h : DGs} (a : SndGs K is t h) : SndG K is (L2.gTup K n t) (gTup n h) := by
  intro H0 M st σ F H x v st' Q S r e q
  cases x with
  | tuple xs =>
    have e : (if xs.length = n then h xs st else none) = some st' := e
    by_cases c : xs.length = n
    · rw [if_pos c] at e
      cases r with
      | @tup p vs ds hs ha => exact ⟨p, vs, rfl, hs, ha.length.trans c, a H0 M st σ F H xs vs st' Q S ha e q⟩
    · rw [if_neg c] at e
      cases e
  | _ => cases e

/-! ### statements -/
theorem snd_next : SndS K tNext dNext := by
  intro H0 M st σ F H fl st' E S e q
  cases e
  exact q σ F H S .refl
theorem snd_break : SndS K tBreak dBreak := by
  intro H0 M st σ F H fl st' E S e q
  cases e
  exact q σ F H S .refl
theorem snd_cont : SndS K tCont dCont := by
  intro H0 M st σ F H fl st' E S e q
  cases e
  exact q σ F H S .refl
theorem snd_never {t : TS} : SndS K t dNever := by
  intro H0 M st σ F H fl st' E S e q
  cases e
theorem snd_seq {t u : TS} {f g : DS} (a : SndS K t f) (b : SndS K u g) : SndS K (tSeq t u) (dSeq f g) := by
  intro H0 M st σ F H fl st' E S e q
  obtain ⟨p, e1, e⟩ := bs e
  obtain ⟨f1, s1⟩ := p
  refine a H0 M st σ F H f1 s1 _ S e1 ?_
  cases f1 with
  | nx => exact fun σ1 F1 H1 S1 x1 => b H0 M s1 σ1 F1 H1 fl st' E S1 e (q.from x1)
  | bk => cases e; exact q
  | ct => cases e; exact q
  | rt r => cases e; exact q
theorem snd_set {i : Nat} {t : TE} {f : DE} (a : SndE K t f) : SndS K (tAsg t (L2.gName i)) (dSet i f) := by
  intro H0 M st σ F H fl st' E S e q
  obtain ⟨p, e1, e⟩ := bs e
  obtain ⟨r, s1⟩ := p
  refine a H0 M st σ F H r s1 _ S e1 fun v F1 H1 S1 E1 f1 r1 => ?_
  have fin : ∀ {F2 : Addr → Prop} {s2 : DSt} {x : D}, Sim K H0 M s2 σ F2 H1 → Ext st σ F H s2 F2 H1 → Rp K F2 H1 v x → ((setS s2 i (.d x)).bind fun s => some (Fl.nx, s)) = some (fl, st') → E.nx (σ.set i (some v)) H1 := fun {F2 s2 x} S2 E2 r2 e2 => by
    obtain ⟨s, e3, e4⟩ := bs e2
    cases e4
    obtain ⟨hi, nl, rfl⟩ := setS_ok e3
    have S3 := S2.setD hi nl r2
    exact q _ F2 H1 S3 (E2.fext S S2)
  cases r with
  | tmp xs =>
    have e : ((setS s1 i (.own xs)).bind fun s => some (Fl.nx, s)) = some (fl, st') := e
    obtain ⟨s, e3, e4⟩ := bs e
    cases e4
    obtain ⟨hi, nl, rfl⟩ := setS_ok e3
    obtain ⟨p, vs, rfl, b, c, nf, no, h0⟩ := r1
    exact q _ F1 H1 (S1.setOwn hi nl b c nf no (S.fresh0 h0)) (E1.fext S S1)
  | d x =>
    have e : ((toD s1 (.d x)).bind fun q => (setS q.2 i (.d q.1)).bind fun s => some (Fl.nx, s)) = some (fl, st') := e
    exact fin S1 E1 r1 e
  | sl j =>
    have e : ((toD s1 (.sl j)).bind fun q => (setS q.2 i (.d q.1)).bind fun s => some (Fl.nx, s)) = some (fl, st') := e
    obtain ⟨p, e2, e3⟩ := bs e
    obtain ⟨F2, S2, E2, r2, _⟩ := toD_ok S1 E1 (RvOk.weak r1) e2
    exact fin S2 E2 r2 e3
theorem snd_asg {is : List Nat} {t : TE} {tg : TG} {f : DE} {g : DG} (a : SndE K t f) (b : SndG K is tg g) : SndS K (tAsg t tg) (dAsg g f) := by
  intro H0 M st σ F H fl st' E S e q
  obtain ⟨p, e1, e⟩ := bs e
  obtain ⟨w, e2, e⟩ := bs e
  obtain ⟨s, e3, e⟩ := bs e
  cases e
  refine a H0 M st σ F H p.1 p.2 _ S e1 fun v F1 H1 S1 E1 f1 r1 => ?_
  obtain ⟨F2, S2, E2, r2, _⟩ := toD_ok S1 E1 r1.weak e2
  exact b H0 M w.2 σ F2 H1 w.1 v st' _ S2 r2 e3 fun σ' S3 _ _ => q σ' F2 H1 S3 (E2.fext S S2)
theorem snd_par2 {i j : Nat} {t : TA} {f : DA} (a : SndA K t f) : SndS K (tPar i j t) (dPar [i, j] f) := by
  intro H0 M st σ F H fl st' E S e q
  obtain ⟨p, e1, e⟩ := bs e
  obtain ⟨w, e2, e⟩ := bs e
  obtain ⟨s, e3, e⟩ := bs e
  cases e
  refine a H0 M st σ F H p.1 p.2 _ S e1 fun vs F1 H1 S1 E1 f1 r1 => ?_
  obtain ⟨F2, S2, E2, rr, _⟩ := toDs_ok S1 E1 r1 e2
  obtain ⟨ws, s2⟩ := w
  match ws, vs, rr, e3 with
  | [x, y], [v1, v2], .cons r1 (.cons r2 .nil), e3 =>
    obtain ⟨s3, e4, e5⟩ := bs e3
    obtain ⟨hi, nl, rfl⟩ := setS_ok e4
    obtain ⟨s4, e6, e7⟩ := bs e5
    obtain ⟨hj, nl2, rfl⟩ := setS_ok e6
    cases e7
    exact ⟨v1, v2, rfl, q _ F2 H1 ((S2.setD hi nl r1).setD hj nl2 r2) (E2.fext S S2)⟩
  | [], _, _, e3 => cases e3
  | [x], _, _, e3 =>
    obtain ⟨s3, e4, e5⟩ := bs e3
    cases e5
  | x :: y :: z :: r, _, _, e3 =>
    obtain ⟨s3, e4, e5⟩ := bs e3
    obtain ⟨s4, e6, e7⟩ := bs e5
    cases e7
theorem snd_par3 {i j l : Nat} {t : TA} {f : DA} (a : SndA K t f) : SndS K (tPar3 i j l t) (dPar [i, j, l] f) := by
  intro H0 M st σ F H fl st' E S e q
  obtain ⟨p, e1, e⟩ := bs e
  obtain ⟨w, e2, e⟩ := bs e
  obtain ⟨s, e3, e⟩ := bs e
  cases e
  refine a H0 M st σ F H p.1 p.2 _ S e1 fun vs F1 H1 S1 E1 f1 r1 => ?_
  obtain ⟨F2, S2, E2, rr, _⟩ := toDs_ok S1 E1 r1 e2
  obtain ⟨ws, s2⟩ := w
  match ws, vs, rr, e3 with
  | [x, y, z], [v1, v2, v3], .cons r1 (.cons r2 (.cons r3 .nil)), e3 =>
    obtain ⟨s3, e4, e5⟩ := bs e3
    obtain ⟨hi, nl, rfl⟩ := setS_ok e4
    obtain ⟨s4, e6, e7⟩ := bs e5
    obtain ⟨hj, nl2, rfl⟩ := setS_ok e6
    obtain ⟨s5, e8, e9⟩ := bs e7
    obtain ⟨hl, nl3, rfl⟩ := setS_ok e8
    cases e9
    exact ⟨v1, v2, v3, rfl, q _ F2 H1 (((S2.setD hi nl r1).setD hj nl2 r2).setD hl nl3 r3) (E2.fext S S2)⟩
  | [], _, _, e3 => cases e3
  | [x], _, _, e3 =>
    obtain ⟨s3, e4, e5⟩ := bs e3
    cases e5
  | [x, y], _, _, e3 =>
    obtain ⟨s3, e4, e5⟩ := bs e3
    obtain ⟨s4, e6, e7⟩ := bs e5
    cases e7
  | x :: y :: z :: u :: r, _, _, e3 =>
    obtain ⟨s3, e4, e5⟩ := bs e3
    obtain ⟨s4, e6, e7⟩ := bs e5
    obtain ⟨s5, e8, e9⟩ := bs e7
    cases e9
theorem snd_drop {t : TE} {f : DE} (a : SndE K t f) : SndS K (tDrop t) (dDrop f) := by
  intro H0 M st σ F H fl st' E S e q
  obtain ⟨p, e1, e⟩ := bs e
  cases e
  exact a H0 M st σ F H p.1 p.2 _ S e1 fun v F1 H1 S1 E1 f1 r1 => q σ F1 H1 S1 (E1.fext S S1)
theorem Sim.forget (S : Sim K H0 M st σ F H) {i : Nat} (nl : ∀ xs, st.getD i none ≠ some (.lent xs)) : Sim K H0 M (st.set i none) σ F H := by
  by_cases hi : i < st.length
  · have own : ∀ j, IsOwn (st.set i none) j → IsOwn st j := fun j ⟨ys, hj⟩ => by
      rw [getD_set hi] at hj
      by_cases ij : i = j
      · rw [if_pos ij] at hj
        rcases hj with hj | hj <;> cases hj
      · rw [if_neg ij] at hj
        exact ⟨ys, hj⟩
    have back : ∀ j s, (st.set i none).getD j none = some s → st.getD j none = some s := fun j s hj => by
      rw [getD_set hi] at hj
      by_cases ij : i = j
      · rw [if_pos ij] at hj
        cases hj
      · rw [if_neg ij] at hj
        exact hj
    refine ⟨by rw [List.length_set]; exact S.len, fun j y hj => S.dat j y (back j _ hj), fun j ys hj => S.own j ys (back j _ hj), fun j ys hj => S.lent j ys (back j _ hj), fun j q m => ?_, S.lent0, fun j k q a b => S.inj j k q (own j a) (own k b), S.frz, S.base⟩
    obtain ⟨ys, h⟩ := S.lentE j q m
    refine ⟨ys, ?_⟩
    rw [getD_set hi, if_neg, h]
    rintro rfl
    exact nl ys h
  · rw [List.set_eq_of_length_le (by omega)]
    exact S
theorem snd_ret {t : TE} {f : DE} (a : SndE K t f) : SndS K (tRet t) (dRet f) := by
  intro H0 M st σ F H fl st' E S e q
  obtain ⟨p, e1, e⟩ := bs e
  obtain ⟨r, s1⟩ := p
  refine a H0 M st σ F H r s1 _ S e1 fun v F1 H1 S1 E1 f1 r1 => ?_
  cases r with
  | d x => cases e; exact q v σ F1 H1 S1 (E1.fext S S1) r1
  | tmp xs =>
    cases e
    obtain ⟨p, vs, rfl, b, c, nf, no, h0⟩ := r1
    exact q _ σ F1 H1 S1 (E1.fext S S1) ⟨p, vs, rfl, b, c, nf, S.fresh0 h0⟩
  | sl i =>
    have r1 : σ[i]? = some (some v) := r1
    have e : (match s1.getD i none with
      | some (.d x) => some (Fl.rt (.d x), s1)
      | some (.own xs) => some (Fl.rt (.own xs), s1.set i none)
      | _ => none) = some (fl, st') := e
    cases g : s1.getD i none with
    | none => rw [g] at e; cases e
    | some s =>
      rw [g] at e
      cases s with
      | d x =>
        cases e
        obtain ⟨v', e1, r2⟩ := S1.dat i x g
        rw [r1] at e1
        cases e1
        exact q v σ F1 H1 S1 (E1.fext S S1) r2
      | own xs =>
        cases e
        obtain ⟨p, vs, e1, e2, r2, nf, h0⟩ := S1.own i xs g
        rw [r1] at e1
        cases e1
        exact q _ σ F1 H1 (S1.forget fun ys z => by rw [g] at z; cases z) (E1.fext S S1) ⟨p, vs, rfl, e2, r2, nf, h0⟩
      | lent xs => cases e
theorem snd_retN : SndS K tRetN dRetN := by
  intro H0 M st σ F H fl st' E S e q
  cases e
  exact q .non σ F H S .refl .non
theorem snd_ifS {t : TT} {u w : TS} {c : DT} {f g : DS} (a : SndT K t c) (b : SndS K u f) (d : SndS K w g) : SndS K (tIfS t u w) (dIfS c f g) := by
  intro H0 M st σ F H fl st' E S e q
  obtain ⟨p, e1, e⟩ := bs e
  refine a H0 M st σ F H p.1 p.2 _ S e1 fun F1 H1 S1 E1 f1 => ?_
  by_cases h : p.1 = true
  · rw [if_pos h] at e
    rw [if_pos h]
    exact b H0 M p.2 σ F1 H1 fl st' E S1 e (q.from (E1.fext S S1))
  · rw [if_neg h] at e
    rw [if_neg h]
    exact d H0 M p.2 σ F1 H1 fl st' E S1 e (q.from (E1.fext S S1))

/-! ### changing a list of one's own -/
theorem getL_ok {i : Nat} {xs : List D} (S : Sim K H0 M st σ F H) (e : getL st i = some xs) : ∃ p vs, σ[i]? = some (some (.ref p)) ∧ H p = some (.lst vs) ∧ RpAll K F H vs xs ∧ IsOwn st i := by
  unfold getL at e
  cases g : st.getD i none with
  | none => rw [g] at e; cases e
  | some s =>
    rw [g] at e
    cases s with
    | d x => cases e
    | own ys =>
      cases e
      obtain ⟨p, vs, a, b, c, _⟩ := S.own i _ g
      exact ⟨p, vs, a, b, c, _, .inl g⟩
    | lent ys =>
      cases e
      obtain ⟨p, vs, _, a, b, c, _⟩ := S.lent i _ g
      exact ⟨p, vs, a, b, c, _, .inr g⟩
/-- the list at slot i is another one now -/
theorem Sim.put (S : Sim K H0 M st σ F H) {i : Nat} {p : Addr} {vs : List V} {xs : List D} (o : IsOwn st i) (e : σ[i]? = some (some (.ref p))) (r : RpAll K F H vs xs) (pu : putL st i xs = some st') : Sim K H0 M st' σ F (upd H p (.lst vs)) ∧ FExt K H0 F H F (upd H p (.lst vs)) := by
  have at_ : OwnAt st σ p := ⟨i, o, e⟩
  obtain ⟨⟨old, hp⟩, nf⟩ := S.atOwn at_
  have flk : ∀ a ys, FL K F H a ys → FL K F (upd H p (.lst vs)) a ys := fun a ys h => by
    rcases h with ⟨f, h⟩ | ⟨ob, h⟩ | h
    · exact .inl ⟨f, by rw [upd_ne (by rintro rfl; exact nf f)]; exact h⟩
    · exact .inr (.inl ⟨ob, by rw [upd_ne (by rintro rfl; rw [hp] at h; cases h)]; exact h⟩)
    · exact .inr (.inr h)
  have sqk : ∀ a ys, SqT K H a ys → SqT K (upd H p (.lst vs)) a ys := fun a ys h => sqT_up (fun b u e1 nl => by
    rw [upd_ne]
    · exact e1
    · rintro rfl
      rw [hp] at e1
      cases e1
      exact nl _ rfl) h
  refine ⟨?_, ⟨fun _ h => h, fun _ h => .inl h, flk, sqk⟩⟩
  have hi : i < st.length := by
    obtain ⟨ys, h | h⟩ := o
    · exact getD_lt h
    · exact getD_lt h
  -- the slots
  have sp : (∃ ys, st.getD i none = some (.own ys) ∧ st' = st.set i (some (.own xs))) ∨ (∃ ys, st.getD i none = some (.lent ys) ∧ st' = st.set i (some (.lent xs))) := by
    unfold putL at pu
    obtain ⟨ys, h | h⟩ := o
    · rw [h] at pu
      cases pu
      exact .inl ⟨ys, h, rfl⟩
    · rw [h] at pu
      cases pu
      exact .inr ⟨ys, h, rfl⟩
  have other : ∀ j, i ≠ j → st'.getD j none = st.getD j none := fun j ij => by
    rcases sp with ⟨ys, _, rfl⟩ | ⟨ys, _, rfl⟩
    · rw [getD_set hi, if_neg ij]
    · rw [getD_set hi, if_neg ij]
  have len : st'.length = st.length := by
    rcases sp with ⟨ys, _, rfl⟩ | ⟨ys, _, rfl⟩ <;> rw [List.length_set]
  have own : ∀ j, IsOwn st' j → IsOwn st j := fun j h => by
    by_cases ij : i = j
    · subst ij
      exact o
    · obtain ⟨ys, h⟩ := h
      rw [other j ij] at h
      exact ⟨ys, h⟩
  have pne : ∀ {j q}, i ≠ j → IsOwn st j → σ[j]? = some (some (.ref q)) → q ≠ p := fun {j q} ij oj ej z => by
    subst z
    exact ij (S.inj i j q o oj e ej)
  refine ⟨S.len.trans len.symm, fun j y hj => ?_, fun j ys hj => ?_, fun j ys hj => ?_, fun j q m => ?_, S.lent0, fun j k q a b => S.inj j k q (own j a) (own k b), fun a h => ?_, fun b u h n => ?_⟩
  · have ij : i ≠ j := by
      rintro rfl
      rcases sp with ⟨_, _, rfl⟩ | ⟨_, _, rfl⟩
      · rw [getD_set hi, if_pos rfl] at hj; cases hj
      · rw [getD_set hi, if_pos rfl] at hj; cases hj
    rw [other j ij] at hj
    obtain ⟨v, a, b⟩ := S.dat j y hj
    exact ⟨v, a, b.mono flk sqk⟩
  · by_cases ij : i = j
    · subst ij
      rcases sp with ⟨zs, g, rfl⟩ | ⟨_, _, rfl⟩
      · rw [getD_set hi, if_pos rfl] at hj
        cases hj
        obtain ⟨q, ws, a, b, c, d, f⟩ := S.own i zs g
        rw [e] at a
        cases a
        exact ⟨p, vs, e, upd_same, r.mono flk sqk, d, f⟩
      · rw [getD_set hi, if_pos rfl] at hj; cases hj
    · rw [other j ij] at hj
      obtain ⟨q, ws, a, b, c, d, f⟩ := S.own j ys hj
      exact ⟨q, ws, a, by rw [upd_ne (pne ij ⟨ys, .inl hj⟩ a)]; exact b, c.mono flk sqk, d, f⟩
  · by_cases ij : i = j
    · subst ij
      rcases sp with ⟨_, _, rfl⟩ | ⟨zs, g, rfl⟩
      · rw [getD_set hi, if_pos rfl] at hj; cases hj
      · rw [getD_set hi, if_pos rfl] at hj
        cases hj
        obtain ⟨q, ws, m, a, b, c, d⟩ := S.lent i zs g
        rw [e] at a
        cases a
        exact ⟨p, vs, m, e, upd_same, r.mono flk sqk, d⟩
    · rw [other j ij] at hj
      obtain ⟨q, ws, m, a, b, c, d⟩ := S.lent j ys hj
      exact ⟨q, ws, m, a, by rw [upd_ne (pne ij ⟨ys, .inr hj⟩ a)]; exact b, c.mono flk sqk, d⟩
  · obtain ⟨ys, h⟩ := S.lentE j q m
    by_cases ij : i = j
    · subst ij
      rcases sp with ⟨_, g, _⟩ | ⟨_, _, rfl⟩
      · rw [h] at g; cases g
      · exact ⟨xs, by rw [getD_set hi, if_pos rfl]⟩
    · exact ⟨ys, by rw [other j ij]; exact h⟩
  · by_cases ap : a = p
    · subst ap
      exact absurd h nf
    · rw [upd_ne ap]
      exact S.frz a h
  · by_cases bp : b = p
    · subst bp
      rcases sp with ⟨ys, g, _⟩ | ⟨ys, g, _⟩
      · obtain ⟨q, ws, a, _, _, _, f⟩ := S.own i ys g
        rw [e] at a
        cases a
        rw [h] at f
        cases f
      · obtain ⟨q, ws, m, a, _⟩ := S.lent i ys g
        rw [e] at a
        cases a
        exact absurd m (n i)
    · rw [upd_ne bp]
      exact S.base b u h n
/-- xs.append(e) -/
theorem snd_append {i : Nat} {te : TE} {f : DE} (a : SndE K te f) : SndS K (tDrop (tBM K "list" rAppend (tVar i) (tCons te tNil))) (dAppend i f) := by
  intro H0 M st σ F H fl st' E S e q
  obtain ⟨zs, e0, e⟩ := bs e
  obtain ⟨p, e1, e⟩ := bs e
  obtain ⟨w, e2, e⟩ := bs e
  obtain ⟨xs, e3, e⟩ := bs e
  have e : (if xs.length < sizeLine then (putL w.2 i (xs ++ [w.1])).bind fun s => some (Fl.nx, s) else none) = some (fl, st') := e
  by_cases c : xs.length < sizeLine
  · rw [if_pos c] at e
    obtain ⟨s, e4, e⟩ := bs e
    cases e
    obtain ⟨p0, vs0, a1, a2, _⟩ := getL_ok S e0
    refine ⟨.ref p0, a1, .inl ⟨rfl, _, SqL.of a2⟩, ?_⟩
    refine a H0 M st σ F H p.1 p.2 _ S e1 fun v F1 H1 S1 E1 f1 r1 => ?_
    obtain ⟨F2, S2, E2, r2, _⟩ := toD_ok S1 E1 r1.weak e2
    obtain ⟨p1, vs, b1, b2, b3, o⟩ := getL_ok S2 e3
    rw [a1] at b1
    cases b1
    obtain ⟨S3, E3⟩ := S2.put o a1 (b3.snoc r2) e4
    exact ⟨p0, vs, v, rfl, rfl, b2, by rw [b3.length]; exact c, q σ F2 _ S3 ((E2.fext S S2).trans E3)⟩
  · rw [if_neg c] at e
    cases e
end
end DL
end

section
set_option Elab.async false
set_option linter.all false
set_option maxRecDepth 100000
set_option maxHeartbeats 1000000
/-! DLsnd4: stores into lists, loops, comprehensions. -/
namespace DL
open PySem PySem.Spec PyProof.Rows L2
section
variable {K : PySem.W.Frag} {H0 : Hp} {M : Nat → Option Addr} {st st' st2 : DSt} {σ σ' : L2.St} {F F' F2 : Addr → Prop} {H H' H2 H3 Hb Hc : Hp} {v w : V} {r : Rv} {x : PyData} {fl : Fl} {E : Ends}
theorem ixAt_eq {α : Type} (xs : List α) (i : Int) : ixAt xs i = ixN xs.length i := rfl
/-- xs[k] = e -/
theorem snd_setIx {i : Nat} {tk te : TE} {k f : DE} (b : SndE K tk k) (a : SndE K te f) : SndS K (tAsg te (gSub (tVar i) tk rSetL)) (dSetIx i k f) := by
  intro H0 M st σ F H fl st' E S e q
  obtain ⟨p, e1, e⟩ := bs e
  obtain ⟨w, e2, e⟩ := bs e
  obtain ⟨zs, e0, e⟩ := bs e
  obtain ⟨u, e3, e⟩ := bs e
  refine a H0 M st σ F H p.1 p.2 _ S e1 fun v F1 H1 S1 E1 f1 r1 => ?_
  obtain ⟨F2, S2, E2, r2, _⟩ := toD_ok S1 E1 r1.weak e2
  obtain ⟨p0, vs0, a1, a2, _⟩ := getL_ok S2 e0
  refine ⟨.ref p0, a1, ?_⟩
  refine b H0 M w.2 σ F2 H1 u.1 u.2 _ S2 e3 fun v3 F3 H3 S3 E3 f3 r3 => ?_
  cases g : look u.2 u.1 with
  | none => rw [g] at e; cases e
  | some y =>
    rw [g] at e
    cases y with
    | int j =>
      have e : ((getL u.2 i).bind fun xs => (ixAt xs j).bind fun n => (putL u.2 i (xs.set n w.1)).bind fun s => some (Fl.nx, s)) = some (fl, st') := e
      obtain ⟨xs, e4, e⟩ := bs e
      obtain ⟨n, e5, e⟩ := bs e
      obtain ⟨s, e6, e⟩ := bs e
      cases e
      obtain ⟨p1, vs, b1, b2, b3, o⟩ := getL_ok S3 e4
      rw [a1] at b1
      cases b1
      have kv := (look_ok S3 r3.weak g).int
      obtain ⟨S4, E4⟩ := S3.put o a1 (b3.set (E3.rp S2 r2) n) e6
      refine ⟨p0, vs, j, n, rfl, kv, b2, ?_, q σ F3 _ S4 (((E2.fext S S2).trans (E3.fext S2 S3)).trans E4)⟩
      rw [b3.length, ← ixAt_eq]
      exact e5
    | _ => cases e
/-- xs[k] op= e -/
theorem snd_augIx {i : Nat} {tk te : TE} {k f : DE} {tip : TIp} {op : D → D → Option Rv} (hp : Prim2 K tip op) (b : SndE K tk k) (a : SndE K te f) : SndS K (tAugS (tVar i) tk te (rIxL K) tip rSetL) (dAugIx op i k f) := by
  intro H0 M st σ F H fl st' E S e q
  obtain ⟨zs, e0, e⟩ := bs e
  obtain ⟨u, e3, e⟩ := bs e
  obtain ⟨p0, vs0, a1, a2, _⟩ := getL_ok S e0
  refine ⟨.ref p0, a1, ?_⟩
  refine b H0 M st σ F H u.1 u.2 _ S e3 fun v3 F3 H3 S3 E3 f3 r3 => ?_
  cases g : look u.2 u.1 with
  | none => rw [g] at e; cases e
  | some y =>
    rw [g] at e
    cases y with
    | int j =>
      have e : ((getL u.2 i).bind fun xs => (ixAt xs j).bind fun n => (xs[n]?).bind fun x => (f u.2).bind fun p => (look p.2 p.1).bind fun y =>
        match op x y with
        | some (.d z) => (getL p.2 i).bind fun ys => (ixAt ys j).bind fun n' => (putL p.2 i (ys.set n' z)).bind fun s => some (Fl.nx, s)
        | _ => none) = some (fl, st') := e
      obtain ⟨xs, e4, e⟩ := bs e
      obtain ⟨n, e5, e⟩ := bs e
      obtain ⟨x, e6, e⟩ := bs e
      obtain ⟨p, e7, e⟩ := bs e
      obtain ⟨y, e8, e⟩ := bs e
      obtain ⟨p1, vs, b1, b2, b3, o⟩ := getL_ok S3 e4
      rw [a1] at b1
      cases b1
      have kv := (look_ok S3 r3.weak g).int
      obtain ⟨vx, gx, rx⟩ := b3.get e6
      refine ⟨p0, vs, j, vx, rfl, kv, SqL.of b2, ?_, ?_⟩
      · show (ixN vs.length j).bind (fun n => vs[n]?) = some vx
        rw [b3.length, ← ixAt_eq, e5]
        exact gx
      · refine a H0 M u.2 σ F3 H3 p.1 p.2 _ S3 e7 fun v4 F4 H4 S4 E4 f4 r4 => ?_
        cases z : op x y with
        | none => rw [z] at e; cases e
        | some rv =>
          rw [z] at e
          cases rv with
          | d zd =>
            have e : ((getL p.2 i).bind fun ys => (ixAt ys j).bind fun n' => (putL p.2 i (ys.set n' zd)).bind fun s => some (Fl.nx, s)) = some (fl, st') := e
            obtain ⟨ys, e9, e⟩ := bs e
            obtain ⟨n', e10, e⟩ := bs e
            obtain ⟨s, e11, e⟩ := bs e
            cases e
            refine hp F4 H4 vx v4 x y (.d zd) _ (.inl (E4.rp S3 rx)) (look_ok S4 r4.weak e8) z fun v5 H5 s5 n5 => ?_
            obtain ⟨S5, E5, r5⟩ := fin_new (z := .d zd) S4 (E3.trans E4) s5 n5
            obtain ⟨p2, ws, c1, c2, c3, o'⟩ := getL_ok S5 e9
            rw [a1] at c1
            cases c1
            obtain ⟨S6, E6⟩ := S5.put o' a1 (c3.set r5 n') e11
            refine ⟨p0, ws, j, n', rfl, kv, c2, ?_, q σ F4 _ S6 ((E5.fext S S5).trans E6)⟩
            rw [c3.length, ← ixAt_eq]
            exact e10
          | tmp _ => cases e
          | sl _ => cases e
    | _ => cases e
/-- x op= e -/
theorem snd_aug {i : Nat} {te : TE} {f : DE} {tip : TIp} {op : D → D → Option Rv} (hp : Prim2 K tip op) (a : SndE K te f) : SndS K (tAug i te tip) (dAug op i f) := by
  intro H0 M st σ F H fl st' E S e q
  obtain ⟨⟨rv, s0⟩, e1, e⟩ := bs e
  obtain ⟨p, e2, e⟩ := bs e
  have hv : s0 = st ∧ (∀ x, rv = .d x → ∃ w, σ[i]? = some (some w) ∧ Rp K F H w x) := by
    have e1 : (match st.getD i none with
      | some (.d x) => some (Rv.d x, st)
      | some (.own _) => some (.sl i, st)
      | some (.lent _) => some (.sl i, st)
      | none => none) = some (rv, s0) := e1
    cases g : st.getD i none with
    | none => rw [g] at e1; cases e1
    | some s =>
      rw [g] at e1
      cases s with
      | d x =>
        cases e1
        exact ⟨rfl, fun y h => by cases h; exact S.dat i x g⟩
      | own xs => cases e1; exact ⟨rfl, fun y h => by cases h⟩
      | lent xs => cases e1; exact ⟨rfl, fun y h => by cases h⟩
  obtain ⟨hs, hv⟩ := hv
  have e2' : f s0 = some p := e2
  rw [hs] at e2'
  cases rv with
  | d x =>
    have e : ((look p.2 p.1).bind fun y => match op x y with
      | some (.d z) => (setS p.2 i (.d z)).bind fun s => some (Fl.nx, s)
      | _ => none) = some (fl, st') := e
    obtain ⟨y, e3, e⟩ := bs e
    obtain ⟨w, a1, rw'⟩ := hv x rfl
    refine ⟨w, a1, ?_⟩
    refine a H0 M st σ F H p.1 p.2 _ S e2' fun v1 F1 H1 S1 E1 f1 r1 => ?_
    cases z : op x y with
    | none => rw [z] at e; cases e
    | some ru =>
      rw [z] at e
      cases ru with
      | d zd =>
        have e : ((setS p.2 i (.d zd)).bind fun s => some (Fl.nx, s)) = some (fl, st') := e
        obtain ⟨s, e4, e⟩ := bs e
        cases e
        obtain ⟨hi, nl, rfl⟩ := setS_ok e4
        refine hp F1 H1 w v1 x y (.d zd) _ (.inl (E1.rp S rw')) (look_ok S1 r1.weak e3) z fun v5 H5 s5 n5 => ?_
        obtain ⟨S5, E5, r5⟩ := fin_new (z := .d zd) S1 E1 s5 n5
        exact q _ F1 H5 (S5.setD hi nl r5) (E5.fext S S5)
      | tmp _ => cases e
      | sl _ => cases e
  | tmp _ => cases e
  | sl _ => cases e

/-! ### walked things -/
/-- while this holds of the heap the walk goes on -/
def Gd (K : PySem.W.Frag) (F1 : Addr → Prop) (H1 : Hp) (H : Hp) : Prop := (∀ a xs, FL K F1 H1 a xs → SqL K H a xs) ∧ ∀ a xs, SqT K H1 a xs → SqT K H a xs
structure WalkD (K : PySem.W.Frag) (J : It) (ds : List D) (F1 : Addr → Prop) (H1 : Hp) : Prop where
  goes : ∀ i H, i < ds.length → Gd K F1 H1 H → J.go i H
  stops : ∀ H, Gd K F1 H1 H → J.stop ds.length H
  yields : ∀ i H x H' (F : Addr → Prop), i < ds.length → Gd K F1 H1 H → (∀ v d, Rp K F1 H1 v d → Rp K F H v d) → J.yld i H x H' → Same H H' ∧ ∃ d, ds[i]? = some d ∧ Rp K F H' x d
theorem FExt.gd (e : FExt K H0 F H F' H') : Gd K F H H' := ⟨fun a xs h => (e.fl a xs h).sql, e.tup⟩
def SndI (K : PySem.W.Frag) (wi : TI) (f : DI) : Prop := ∀ (H0 : Hp) (M : Nat → Option Addr) (st : DSt) (σ : L2.St) (F : Addr → Prop) (H : Hp) (ds : List D) (st' : DSt) (R : It → Hp → Prop), Sim K H0 M st σ F H → f st = some (ds, st') →
  (∀ J F' H', Sim K H0 M st' σ F' H' → Ext st σ F H st' F' H' → WalkD K J ds F' H' → R J H') → wi σ H R
theorem snd_for {is : List Nat} {wi : TI} {tg : TG} {tb : TS} {it : DI} {g : DG} {b : DS} (a : SndI K wi it) (c : SndG K is tg g) (d : SndS K tb b) : SndS K (tFor wi tg tb) (dFor it g b) := by
  intro H0 M st σ F H fl st' E S e q
  obtain ⟨p, e1, e⟩ := bs e
  refine a H0 M st σ F H p.1 p.2 _ S e1 fun J F1 H1 S1 E1 W => ?_
  have x1 := E1.fext S S1
  refine ⟨fun i m σ' H' => i + m = p.1.length ∧ ∃ s' F', Sim K H0 M s' σ' F' H' ∧ FExt K H0 F1 H1 F' H' ∧ forGo g b (p.1.drop i) s' = some (fl, st'), ⟨p.1.length, by simp, p.2, F1, S1, .refl, e⟩, ?_⟩
  rintro i m σ' H' ⟨him, s', F', S', x', e'⟩
  by_cases hi : i < p.1.length
  · refine .inr ⟨W.goes i H' hi x'.gd, fun σ2 H2 => ∃ s2 F2, Sim K H0 M s2 σ2 F2 H2 ∧ FExt K H0 F1 H1 F2 H2 ∧ forGo g b (p.1.drop (i + 1)) s2 = some (fl, st'), fun σ2 H2 ⟨s2, F2, h1, h2, h3⟩ => ⟨m - 1, by omega, by omega, s2, F2, h1, h2, h3⟩, fun x H2 y => ?_⟩
    obtain ⟨sm, dd, gd, rx⟩ := W.yields i H' x H2 F' hi x'.gd (fun v d h => x'.rp h) y
    have hdrop : p.1.drop i = dd :: p.1.drop (i + 1) := by
      obtain ⟨h, e⟩ := List.getElem?_eq_some_iff.mp gd
      rw [List.drop_eq_getElem_cons h, e]
    rw [hdrop] at e'
    obtain ⟨s3, e3, e'⟩ := bs e'
    obtain ⟨w, e4, e'⟩ := bs e'
    have S2 := S'.grow sm
    have x2 : FExt K H0 F1 H1 F' H2 := x'.trans ((Ext.grow sm).fext S' S2)
    refine c H0 M s' σ' F' H2 dd x s3 _ S2 rx e3 fun σ3 S3 _ _ => ?_
    refine d H0 M s3 σ3 F' H2 w.1 w.2 _ S3 e4 ?_
    obtain ⟨wf, ws⟩ := w
    cases wf with
    | nx => exact fun σ4 F4 H4 S4 x4 => ⟨ws, F4, S4, x2.trans x4, e'⟩
    | ct => exact fun σ4 F4 H4 S4 x4 => ⟨ws, F4, S4, x2.trans x4, e'⟩
    | bk =>
      cases e'
      exact fun σ4 F4 H4 S4 x4 => q σ4 F4 H4 S4 (x1.trans (x2.trans x4))
    | rt r =>
      cases e'
      exact fun v σ4 F4 H4 S4 x4 r4 => q v σ4 F4 H4 S4 (x1.trans (x2.trans x4)) r4
  · have hl : i = p.1.length := by omega
    subst hl
    rw [List.drop_length] at e'
    cases e'
    exact .inl ⟨W.stops H' x'.gd, q σ' F' H' S' (x1.trans x')⟩
theorem snd_while {tt : TT} {tb : TS} {t : DT} {b : DS} (a : SndT K tt t) (d : SndS K tb b) : SndS K (tWhile tt tb) (dWhile t b) := by
  intro H0 M st σ F H fl st' E S e q
  have hex : ∃ n, whileN t b n st = some (fl, st') := by
    unfold dWhile at e
    by_cases h : ∃ n r, whileN t b n st = some r
    · rw [dif_pos h] at e
      have := Classical.choose_spec (Classical.choose_spec h)
      exact ⟨Classical.choose h, by rw [this]; exact e⟩
    · rw [dif_neg h] at e
      cases e
  obtain ⟨n, e⟩ := hex
  refine ⟨fun m σ' H' => ∃ s' F', Sim K H0 M s' σ' F' H' ∧ FExt K H0 F H F' H' ∧ whileN t b m s' = some (fl, st'), ⟨n, st, F, S, .refl, e⟩, ?_⟩
  rintro m σ' H' ⟨s', F', S', x', e'⟩
  cases m with
  | zero => cases e'
  | succ m =>
    obtain ⟨u, e1, e'⟩ := bs e'
    refine a H0 M s' σ' F' H' u.1 u.2 _ S' e1 fun F1 H1 S1 E1 f1 => ?_
    have x1 := x'.trans (E1.fext S' S1)
    by_cases c : u.1 = true
    · rw [if_pos c] at e'
      rw [if_pos c]
      obtain ⟨w, e2, e'⟩ := bs e'
      refine ⟨fun σ2 H2 => ∃ s2 F2, Sim K H0 M s2 σ2 F2 H2 ∧ FExt K H0 F H F2 H2 ∧ whileN t b m s2 = some (fl, st'), fun σ2 H2 h => ⟨m, Nat.lt_succ_self m, h⟩, ?_⟩
      refine d H0 M u.2 σ' F1 H1 w.1 w.2 _ S1 e2 ?_
      obtain ⟨wf, ws⟩ := w
      cases wf with
      | nx => exact fun σ4 F4 H4 S4 x4 => ⟨ws, F4, S4, x1.trans x4, e'⟩
      | ct => exact fun σ4 F4 H4 S4 x4 => ⟨ws, F4, S4, x1.trans x4, e'⟩
      | bk =>
        cases e'
        exact fun σ4 F4 H4 S4 x4 => q σ4 F4 H4 S4 (x1.trans x4)
      | rt r =>
        cases e'
        exact fun v σ4 F4 H4 S4 x4 r4 => q v σ4 F4 H4 S4 (x1.trans x4) r4
    · rw [if_neg c] at e'
      rw [if_neg c]
      cases e'
      exact q σ' F1 H1 S1 x1

/-! ### comprehensions -/
theorem wipeD_len (s : DSt) : ∀ vs : List Nat, (wipeD s vs).length = s.length
  | [] => rfl
  | v :: vs => by unfold wipeD; rw [List.length_set, wipeD_len s vs]
theorem wipe_get (s : L2.St) : ∀ (vs : List Nat) (j : Nat), j ∉ vs → (wipe s vs)[j]? = s[j]?
  | [], _, _ => rfl
  | v :: vs, j, h => by
    unfold wipe
    rw [List.getElem?_set_ne (by rintro rfl; exact h (by simp))]
    exact wipe_get s vs j fun z => h (by simp [z])
theorem wipe_in (s : L2.St) : ∀ (vs : List Nat) (j : Nat), j ∈ vs → j < s.length → (wipe s vs)[j]? = some none
  | [], _, h, _ => by simp at h
  | v :: vs, j, h, hl => by
    unfold wipe
    by_cases e : v = j
    · subst e
      rw [List.getElem?_set_self (by rw [wipe_length]; exact hl)]
    · rw [List.getElem?_set_ne e]
      refine wipe_in s vs j ?_ hl
      rcases List.mem_cons.mp h with z | z
      · exact absurd z.symm e
      · exact z
theorem wipe_ext {s s' : L2.St} {vs : List Nat} (hl : s.length = s'.length) (h : ∀ j, j ∉ vs → s'[j]? = s[j]?) : wipe s' vs = wipe s vs := by
  apply List.ext_getElem?
  intro j
  by_cases hj : j ∈ vs
  · by_cases hlt : j < s.length
    · rw [wipe_in s vs j hj hlt, wipe_in s' vs j hj (by omega)]
    · rw [List.getElem?_eq_none (by rw [wipe_length]; omega), List.getElem?_eq_none (by rw [wipe_length]; omega)]
  · rw [wipe_get s vs j hj, wipe_get s' vs j hj]
    exact h j hj
theorem wipeD_get (s : DSt) : ∀ (vs : List Nat) (j : Nat), (wipeD s vs).getD j none = if j ∈ vs then none else s.getD j none
  | [], j => by simp [wipeD]
  | v :: vs, j => by
    unfold wipeD
    rw [List.getD_eq_getElem?_getD, List.getElem?_set]
    have ih := wipeD_get s vs j
    by_cases e : v = j
    · subst e
      rw [if_pos rfl, if_pos List.mem_cons_self]
      split <;> rfl
    · rw [if_neg e, ← List.getD_eq_getElem?_getD, ih]
      by_cases h : j ∈ vs
      · rw [if_pos h, if_pos (List.mem_cons_of_mem _ h)]
      · rw [if_neg h, if_neg]
        intro z
        rcases List.mem_cons.mp z with z | z
        · exact e z.symm
        · exact h z
/-- the block's slots are empty -/
theorem Sim.wipe (S : Sim K H0 M st σ F H) {vs : List Nat} (no : ∀ j ∈ vs, ∀ xs, st.getD j none ≠ some (.lent xs)) : Sim K H0 M (wipeD st vs) (wipe σ vs) F H := by
  have back : ∀ j s, (wipeD st vs).getD j none = some s → st.getD j none = some s ∧ j ∉ vs := fun j s h => by
    rw [wipeD_get] at h
    by_cases c : j ∈ vs
    · rw [if_pos c] at h; cases h
    · rw [if_neg c] at h; exact ⟨h, c⟩
  have own : ∀ j, IsOwn (wipeD st vs) j → IsOwn st j ∧ j ∉ vs := fun j ⟨xs, h⟩ => by
    rcases h with h | h
    · exact ⟨⟨xs, .inl (back j _ h).1⟩, (back j _ h).2⟩
    · exact ⟨⟨xs, .inr (back j _ h).1⟩, (back j _ h).2⟩
  refine ⟨by rw [wipe_length, wipeD_len]; exact S.len, fun j x h => ?_, fun j x h => ?_, fun j x h => ?_, fun j p m => ?_, S.lent0, fun j k p a b e1 e2 => ?_, S.frz, S.base⟩
  · obtain ⟨h, c⟩ := back j _ h
    rw [wipe_get σ vs j c]
    exact S.dat j x h
  · obtain ⟨h, c⟩ := back j _ h
    rw [wipe_get σ vs j c]
    exact S.own j x h
  · obtain ⟨h, c⟩ := back j _ h
    rw [wipe_get σ vs j c]
    exact S.lent j x h
  · obtain ⟨xs, h⟩ := S.lentE j p m
    refine ⟨xs, ?_⟩
    rw [wipeD_get, if_neg, h]
    intro z
    exact no j z xs h
  · obtain ⟨a, ca⟩ := own j a
    obtain ⟨b, cb⟩ := own k b
    rw [wipe_get σ vs j ca] at e1
    rw [wipe_get σ vs k cb] at e2
    exact S.inj j k p a b e1 e2
theorem Sim.unwipe {vs : List Nat} (S : Sim K H0 M st (L2.wipe σ vs) F H) (em : ∀ j ∈ vs, st.getD j none = none) : Sim K H0 M st σ F H := by
  have out : ∀ j s, st.getD j none = some s → j ∉ vs := fun j s h z => by
    rw [em j z] at h
    cases h
  have own : ∀ j, IsOwn st j → j ∉ vs := fun j ⟨xs, h⟩ => by
    rcases h with h | h <;> exact out j _ h
  refine ⟨by rw [← wipe_length σ vs]; exact S.len, fun j x h => ?_, fun j x h => ?_, fun j x h => ?_, S.lentE, S.lent0, fun j k p a b e1 e2 => ?_, S.frz, S.base⟩
  · have := S.dat j x h
    rw [wipe_get σ vs j (out j _ h)] at this
    exact this
  · have := S.own j x h
    rw [wipe_get σ vs j (out j _ h)] at this
    exact this
  · have := S.lent j x h
    rw [wipe_get σ vs j (out j _ h)] at this
    exact this
  · rw [← wipe_get σ vs j (own j a)] at e1
    rw [← wipe_get σ vs k (own k b)] at e2
    exact S.inj j k p a b e1 e2
theorem Ext.trans' {σ' : L2.St} (a : Ext st σ F H st' F' H') (o : ∀ p, OwnAt st' σ' p → OwnAt st σ p) (b : Ext st' σ' F' H' st2 F2 H2) : Ext st σ F H st2 F2 H2 where
  sub := fun c h => b.sub c (a.sub c h)
  new := fun c h => by
    rcases b.new c h with h | h | h
    · exact a.new c h
    · refine .inr (.inl ?_)
      apply Classical.byContradiction
      intro z
      exact a.live c z h
    · exact .inr (.inr (o c h))
  keep := fun c u h n => b.keep c u (a.keep c u h n) fun z => n (o c z)
  live := fun c h => b.live c (a.live c h)
  own := fun i h => a.own i (b.own i h)
/-- a list that nobody of us has is another one now -/
theorem FL.upd {D : Addr} {old ys : List V} (hD : H D = some (.lst old)) (nf : ¬ F D) {a : Addr} {xs : List V} (h : FL K F H a xs) : FL K F (upd H D (.lst ys)) a xs := by
  rcases h with ⟨f, h⟩ | ⟨ob, h⟩ | h
  · exact .inl ⟨f, by rw [upd_ne (by rintro rfl; exact nf f)]; exact h⟩
  · exact .inr (.inl ⟨ob, by rw [upd_ne (by rintro rfl; rw [hD] at h; cases h)]; exact h⟩)
  · exact .inr (.inr h)
theorem sqT_upd {D : Addr} {old ys : List V} (hD : H D = some (.lst old)) {a : Addr} {xs : List V} (h : SqT K H a xs) : SqT K (upd H D (.lst ys)) a xs := sqT_up (fun b u e1 nl => by
    rw [upd_ne]
    · exact e1
    · rintro rfl
      rw [hD] at e1
      cases e1
      exact nl _ rfl) h
theorem Sim.updFree (S : Sim K H0 M st σ F H) {D : Addr} {old ys : List V} (hD : H D = some (.lst old)) (nf : ¬ F D) (no : ¬ OwnAt st σ D) (h0 : H0 D = none) : Sim K H0 M st σ F (L2.upd H D (.lst ys)) := by
  have mono : ∀ {v : V} {x : PyData}, Rp K F H v x → Rp K F (L2.upd H D (.lst ys)) v x := fun r => r.mono (fun _ _ h => h.upd hD nf) fun _ _ h => sqT_upd hD h
  have monoA : ∀ {v : List V} {x : List PyData}, RpAll K F H v x → RpAll K F (L2.upd H D (.lst ys)) v x := fun r => r.mono (fun _ _ h => h.upd hD nf) fun _ _ h => sqT_upd hD h
  have ne : ∀ {i p}, IsOwn st i → σ[i]? = some (some (.ref p)) → p ≠ D := fun {i p} o e z => by
    subst z
    exact no ⟨i, o, e⟩
  refine ⟨S.len, fun j x h => ?_, fun j x h => ?_, fun j x h => ?_, S.lentE, S.lent0, S.inj, fun a h => ?_, fun b u h n => ?_⟩
  · obtain ⟨v, a, b⟩ := S.dat j x h
    exact ⟨v, a, mono b⟩
  · obtain ⟨p, vs, a, b, c, d, f⟩ := S.own j x h
    exact ⟨p, vs, a, by rw [upd_ne (ne ⟨x, .inl h⟩ a)]; exact b, monoA c, d, f⟩
  · obtain ⟨p, vs, m, a, b, c, d⟩ := S.lent j x h
    exact ⟨p, vs, m, a, by rw [upd_ne (ne ⟨x, .inr h⟩ a)]; exact b, monoA c, d⟩
  · rw [upd_ne (by rintro rfl; exact nf h)]
    exact S.frz a h
  · rw [upd_ne (by rintro rfl; rw [h0] at h; cases h)]
    exact S.base b u h n
theorem refill_len (s0 s : DSt) : ∀ vs : List Nat, (refill s0 s vs).length = s.length
  | [] => rfl
  | v :: vs => by unfold refill; rw [List.length_set, refill_len s0 s vs]
theorem refill_get (s0 s : DSt) : ∀ (vs : List Nat) (j : Nat), (refill s0 s vs).getD j none = if j ∈ vs ∧ j < s.length then s0.getD j none else s.getD j none
  | [], j => by simp [refill]
  | v :: vs, j => by
    unfold refill
    rw [List.getD_eq_getElem?_getD, List.getElem?_set, refill_len]
    have ih := refill_get s0 s vs j
    by_cases e : v = j
    · subst e
      rw [if_pos rfl]
      by_cases h : v < s.length
      · rw [if_pos h, if_pos ⟨List.mem_cons_self, h⟩]
        rfl
      · rw [if_neg h, if_neg fun z => h z.2, List.getD_eq_getElem?_getD, List.getElem?_eq_none (by omega)]
    · rw [if_neg e, ← List.getD_eq_getElem?_getD, ih]
      by_cases h : j ∈ vs ∧ j < s.length
      · rw [if_pos h, if_pos ⟨List.mem_cons_of_mem _ h.1, h.2⟩]
      · rw [if_neg h, if_neg]
        rintro ⟨z, z2⟩
        rcases List.mem_cons.mp z with z | z
        · exact e z.symm
        · exact h ⟨z, z2⟩
/-- the block's slots hold again what they held -/
theorem Sim.refill {s0 : DSt} {vs : List Nat} (S : Sim K H0 M st σ F H) (em : ∀ j ∈ vs, st.getD j none = none) (old : ∀ j ∈ vs, ∀ s, s0.getD j none = some s → ∃ x v, s = .d x ∧ σ[j]? = some (some v) ∧ Rp K F H v x) : Sim K H0 M (DL.refill s0 st vs) σ F H ∧ ∀ i, IsOwn (DL.refill s0 st vs) i → IsOwn st i := by
  have new : ∀ j s, (DL.refill s0 st vs).getD j none = some s → (st.getD j none = some s) ∨ (∃ x v, s = .d x ∧ σ[j]? = some (some v) ∧ Rp K F H v x) := fun j s h => by
    rw [refill_get] at h
    by_cases c : j ∈ vs ∧ j < st.length
    · rw [if_pos c] at h
      exact .inr (old j c.1 s h)
    · rw [if_neg c] at h
      exact .inl h
  have own : ∀ i, IsOwn (DL.refill s0 st vs) i → IsOwn st i := fun i ⟨xs, h⟩ => by
    rcases h with h | h
    · rcases new i _ h with z | ⟨x, v, z, _⟩
      · exact ⟨xs, .inl z⟩
      · cases z
    · rcases new i _ h with z | ⟨x, v, z, _⟩
      · exact ⟨xs, .inr z⟩
      · cases z
  refine ⟨⟨S.len.trans (refill_len s0 st vs).symm, fun i x h => ?_, fun i x h => ?_, fun i x h => ?_, fun i p m => ?_, S.lent0, fun i j p a b => S.inj i j p (own i a) (own j b), S.frz, S.base⟩, own⟩
  · rcases new i _ h with z | ⟨y, v, z, z2, z3⟩
    · exact S.dat i x z
    · cases z
      exact ⟨v, z2, z3⟩
  · rcases new i _ h with z | ⟨y, v, z, _⟩
    · exact S.own i x z
    · cases z
  · rcases new i _ h with z | ⟨y, v, z, _⟩
    · exact S.lent i x z
    · cases z
  · obtain ⟨xs, h⟩ := S.lentE i p m
    refine ⟨xs, ?_⟩
    rw [refill_get, if_neg, h]
    rintro ⟨z, _⟩
    rw [em i z] at h
    cases h
theorem snd_lc {is vs : List Nat} {wi : TI} {tg : TG} {tt : TT} {te : TE} {it : DI} {g : DG} {t : DT} {f : DE} (a : SndI K wi it) (c : SndG K is tg g) (b : SndT K tt t) (d : SndE K te f) (hsub : ∀ j ∈ is, j ∈ vs) : SndE K (tLc wi tg tt te vs) (dLc it g t f vs) := by
  intro H0 M st σ F H r st' Q S e q
  obtain ⟨⟨ds, s1⟩, e1, e⟩ := bs e
  refine a H0 M st σ F H ds s1 _ S e1 fun J F1 H1 S1 E1 W => ?_
  intro D hD
  have e : (if ds.length ≤ sizeLine ∧ vs.all (fun i => match s1.getD i none with | none => true | some (.d _) => true | _ => false) = true then
    (lcGo g t f vs ds (wipeD s1 vs)).bind fun q => some (Rv.tmp q.1, refill s1 q.2 vs) else none) = some (r, st') := e
  by_cases cd : ds.length ≤ sizeLine ∧ vs.all (fun i => match s1.getD i none with | none => true | some (.d _) => true | _ => false) = true
  · rw [if_pos cd] at e
    obtain ⟨⟨tot, sE⟩, e2, e⟩ := bs e
    cases e
    obtain ⟨hlen, hall⟩ := cd
    have nl1 : ∀ j ∈ vs, ∀ xs, s1.getD j none ≠ some (.lent xs) := fun j hj xs z => by
      have := List.all_eq_true.mp hall j hj
      rw [z] at this
      cases this
    have nM : ∀ j ∈ vs, M j = none := fun j hj => by
      cases m : M j with
      | none => rfl
      | some p =>
        obtain ⟨xs, z⟩ := S1.lentE j p m
        exact absurd z (nl1 j hj xs)
    have nlent : ∀ {s2 : DSt} {σ2 : L2.St} {F2 : Addr → Prop} {H2 : Hp}, Sim K H0 M s2 σ2 F2 H2 → ∀ j ∈ vs, ∀ xs, s2.getD j none ≠ some (.lent xs) := fun S2 j hj xs z => by
      obtain ⟨p, _, m, _⟩ := S2.lent j xs z
      rw [nM j hj] at m
      cases m
    have hD0 : H D = none := Classical.byContradiction fun z => E1.live D z hD
    have h00 : H0 D = none := S.fresh0 hD0
    have gr : Same H1 (upd H1 D (.lst [])) := same_upd hD
    have Sw : Sim K H0 M (wipeD s1 vs) (L2.wipe σ vs) F1 (upd H1 D (.lst [])) := (S1.wipe nl1).grow gr
    have ownw : ∀ i, IsOwn (wipeD s1 vs) i → IsOwn s1 i := fun i ⟨xs, h⟩ => by
      rw [wipeD_get] at h
      by_cases c : i ∈ vs
      · rw [if_pos c] at h
        rcases h with h | h <;> cases h
      · rw [if_neg c] at h
        exact ⟨xs, h⟩
    have Ew : Ext st σ F H (wipeD s1 vs) F1 (upd H1 D (.lst [])) := by
      have := E1.trans (Ext.grow (st := s1) (σ := σ) (F := F1) gr)
      exact ⟨this.sub, this.new, this.keep, this.live, fun i h => this.own i (ownw i h)⟩
    -- wiped slots are slots
    have back : ∀ {s2 : DSt}, (∀ i, IsOwn s2 i → IsOwn st i) → ∀ p, OwnAt s2 (L2.wipe σ vs) p → OwnAt st σ p := fun {s2} o p ⟨i, h1, h2⟩ => ⟨i, o i h1, (wipe_some h2).1⟩
    refine ⟨fun i m Hc => i + m = ds.length ∧ ∃ (s2 : DSt) (F2 : Addr → Prop) (av : List V) (ad rest : List PyData), Sim K H0 M s2 (L2.wipe σ vs) F2 Hc ∧ FExt K H0 F1 H1 F2 Hc ∧ Ext st σ F H s2 F2 Hc ∧ Hc D = some (.lst av) ∧ RpAll K F2 Hc av ad ∧ ¬ F2 D ∧ ¬ OwnAt s2 (L2.wipe σ vs) D ∧
      (∀ j ∈ vs, s2.getD j none = none) ∧ lcGo g t f vs (ds.drop i) s2 = some (rest, sE) ∧ ad ++ rest = tot ∧ ad.length ≤ i, ⟨ds.length, by simp, wipeD s1 vs, F1, [], [], tot, Sw, ?_, Ew, upd_same, .nil, ?_, ?_, ?_, e2, rfl, Nat.le_refl _⟩, ?_⟩
    · exact (Ext.grow (st := s1) (σ := σ) (F := F1) gr).fext S1 (S1.grow gr)
    · intro z
      obtain ⟨ys, e⟩ := S1.frz D z
      rw [hD] at e
      cases e
    · rintro ⟨i, h1, h2⟩
      obtain ⟨⟨ys, e⟩, _⟩ := S1.atOwn ⟨i, ownw i h1, (wipe_some h2).1⟩
      rw [hD] at e
      cases e
    · intro j hj
      rw [wipeD_get, if_pos hj]
    · rintro i m Hc ⟨him, s2, F2, av, ad, rest, S2, x2, E2, hDc, rA, nfD, noD, em, e3, htot, hal⟩
      by_cases hi : i < ds.length
      · refine .inr ⟨W.goes i Hc hi x2.gd, fun Hn => ∃ (s2 : DSt) (F2 : Addr → Prop) (av : List V) (ad rest : List PyData), Sim K H0 M s2 (L2.wipe σ vs) F2 Hn ∧ FExt K H0 F1 H1 F2 Hn ∧ Ext st σ F H s2 F2 Hn ∧ Hn D = some (.lst av) ∧ RpAll K F2 Hn av ad ∧ ¬ F2 D ∧ ¬ OwnAt s2 (L2.wipe σ vs) D ∧
          (∀ j ∈ vs, s2.getD j none = none) ∧ lcGo g t f vs (ds.drop (i + 1)) s2 = some (rest, sE) ∧ ad ++ rest = tot ∧ ad.length ≤ i + 1, fun Hn h => ⟨m - 1, by omega, by omega, h⟩, fun x H3 y => ?_⟩
        obtain ⟨sm, dd, gd, rx⟩ := W.yields i Hc x H3 F2 hi x2.gd (fun v d h => x2.rp h) y
        have hdrop : ds.drop i = dd :: ds.drop (i + 1) := by
          obtain ⟨h, e⟩ := List.getElem?_eq_some_iff.mp gd
          rw [List.drop_eq_getElem_cons h, e]
        rw [hdrop] at e3
        obtain ⟨s3, e4, e3⟩ := bs e3
        obtain ⟨⟨kb, s4⟩, e5, e3⟩ := bs e3
        have S3 := S2.grow sm
        have E3 : Ext st σ F H s2 F2 H3 := E2.trans' (back E2.own) (Ext.grow sm)
        have x3 : FExt K H0 F1 H1 F2 H3 := x2.trans ((Ext.grow sm).fext S2 S3)
        refine c H0 M s2 (L2.wipe σ vs) F2 H3 dd x s3 _ S3 rx e4 fun σ3 S4 same3 own3 => ?_
        have wk : L2.wipe σ3 vs = L2.wipe (L2.wipe σ vs) vs := wipe_ext same3.1.symm fun j hj => same3.2 j fun z => hj (hsub j z)
        have ww : L2.wipe (L2.wipe σ vs) vs = L2.wipe σ vs := wipe_ext (wipe_length σ vs).symm fun j hj => wipe_get σ vs j hj
        have wσ : L2.wipe σ3 vs = L2.wipe σ vs := wk.trans ww
        refine ⟨wσ, ?_⟩
        -- from the target's slots back
        have o3 : ∀ p, OwnAt s3 σ3 p → OwnAt s2 (L2.wipe σ vs) p := fun p ⟨i, h1, h2⟩ => by
          obtain ⟨h3, h4⟩ := own3 i h1
          exact ⟨i, h3, by rw [← same3.2 i h4]; exact h2⟩
        have o3' : ∀ p, OwnAt s3 σ3 p → OwnAt st σ p := fun p h => back E2.own p (o3 p h)
        have E4 : Ext st σ F H s3 F2 H3 := ⟨E3.sub, E3.new, E3.keep, E3.live, fun i h => E2.own i (own3 i h).1⟩
        have hD3 : H3 D = some (.lst av) := sm _ _ hDc
        have noD3 : ¬ OwnAt s3 σ3 D := fun z => noD (o3 D z)
        refine b H0 M s3 σ3 F2 H3 kb s4 _ S4 e5 fun F5 H5 S5 E5 _ => ?_
        have x5 := x3.trans (E5.fext S4 S5)
        have E5' : Ext st σ F H s4 F5 H5 := E4.trans' o3' E5
        have hD5 : H5 D = some (.lst av) := E5.keep _ _ hD3 noD3
        have o5 : ∀ p, OwnAt s4 σ3 p → OwnAt s3 σ3 p := fun p z => z.imp E5.own
        have nfD5 : ¬ F5 D := fun z => by
          rcases E5.new D z with z | z | z
          · exact nfD z
          · rw [hD3] at z; cases z
          · exact noD3 z
        have rA5 : RpAll K F5 H5 av ad := E5.rpAll S4 (rA.grow sm)
        -- the turn's end
        have fin : ∀ {s6 : DSt} {F6 : Addr → Prop} {H6 : Hp} {av' : List V} {ad' rest' : List PyData}, Sim K H0 M s6 σ3 F6 H6 → FExt K H0 F1 H1 F6 H6 → Ext st σ F H s6 F6 H6 → H6 D = some (.lst av') → RpAll K F6 H6 av' ad' → ¬ F6 D → ¬ OwnAt s6 σ3 D →
            lcGo g t f vs (ds.drop (i + 1)) (wipeD s6 vs) = some (rest', sE) → ad' ++ rest' = tot → ad'.length ≤ i + 1 →
            ∃ (s2 : DSt) (F2 : Addr → Prop) (av : List V) (ad rest : List PyData), Sim K H0 M s2 (L2.wipe σ vs) F2 H6 ∧ FExt K H0 F1 H1 F2 H6 ∧ Ext st σ F H s2 F2 H6 ∧ H6 D = some (.lst av) ∧ RpAll K F2 H6 av ad ∧ ¬ F2 D ∧ ¬ OwnAt s2 (L2.wipe σ vs) D ∧
              (∀ j ∈ vs, s2.getD j none = none) ∧ lcGo g t f vs (ds.drop (i + 1)) s2 = some (rest, sE) ∧ ad ++ rest = tot ∧ ad.length ≤ i + 1 := fun {s6 F6 H6 av' ad' rest'} S6 x6 E6 hD6 rA6 nf6 no6 e6 t6 l6 => by
          have ow : ∀ i, IsOwn (wipeD s6 vs) i → IsOwn s6 i := fun i ⟨xs, h⟩ => by
            rw [wipeD_get] at h
            by_cases c : i ∈ vs
            · rw [if_pos c] at h
              rcases h with h | h <;> cases h
            · rw [if_neg c] at h
              exact ⟨xs, h⟩
          have Sw6 := S6.wipe (nlent S6)
          rw [wσ] at Sw6
          refine ⟨wipeD s6 vs, F6, av', ad', rest', Sw6, x6, ⟨E6.sub, E6.new, E6.keep, E6.live, fun i h => E6.own i (ow i h)⟩, hD6, rA6, nf6, ?_, fun j hj => by rw [wipeD_get, if_pos hj], e6, t6, l6⟩
          rintro ⟨i, h1, h2⟩
          rw [← wσ] at h2
          exact no6 ⟨i, ow i h1, (wipe_some h2).1⟩
        by_cases hb : kb = true
        · subst hb
          rw [if_pos rfl] at e3
          rw [if_pos rfl]
          obtain ⟨⟨rv, s6⟩, e6, e3⟩ := bs e3
          obtain ⟨⟨yd, s7⟩, e7, e3⟩ := bs e3
          obtain ⟨⟨rest', sE'⟩, e8, e3⟩ := bs e3
          cases e3
          refine d H0 M s4 σ3 F5 H5 rv s6 _ S5 e6 fun yv F6 H6 S6 E6 _ r6 => ?_
          obtain ⟨F7, S7, E7, r7, sub7, own7, _⟩ := toD_ok S6 E6 r6.weak e7
          have no5 : ¬ OwnAt s4 σ3 D := fun z => noD3 (o5 D z)
          have hD7 : H6 D = some (.lst av) := E7.keep _ _ hD5 no5
          have nfD7 : ¬ F7 D := fun z => by
            rcases E7.new D z with z | z | z
            · exact nfD5 z
            · rw [hD5] at z; cases z
            · exact no5 z
          have no7 : ¬ OwnAt s7 σ3 D := fun z => no5 (z.imp E7.own)
          refine ⟨av, hD7, ?_, ?_⟩
          · rw [rA5.length]
            exact Nat.lt_of_lt_of_le (Nat.lt_of_le_of_lt hal hi) hlen
          · have S8 := S7.updFree (ys := av ++ [yv]) hD7 nfD7 no7 h00
            have up1 : ∀ a xs, FL K F7 H6 a xs → FL K F7 (upd H6 D (.lst (av ++ [yv]))) a xs := fun _ _ h => h.upd hD7 nfD7
            have up2 : ∀ a xs, SqT K H6 a xs → SqT K (upd H6 D (.lst (av ++ [yv]))) a xs := fun _ _ h => sqT_upd hD7 h
            have E8 : Ext st σ F H s7 F7 (upd H6 D (.lst (av ++ [yv]))) := by
              have e9 := E5'.trans' (fun p z => o3' p (o5 p z)) E7
              refine ⟨e9.sub, e9.new, fun b u h n => ?_, fun b h => ?_, e9.own⟩
              · rw [upd_ne (by rintro rfl; rw [hD0] at h; cases h)]
                exact e9.keep b u h n
              · by_cases bd : b = D
                · subst bd
                  exact absurd hD0 h
                · rw [upd_ne bd]
                  exact e9.live b h
            exact fin (av' := av ++ [yv]) (ad' := ad ++ [yd]) (rest' := rest') S8 ((x5.trans (E7.fext S5 S7)).trans ⟨fun _ h => h, fun _ h => .inl h, up1, up2⟩) E8 upd_same
              ((RpAll.mono up1 up2 (E7.rpAll S5 rA5)).snoc (r7.mono up1 up2)) nfD7 no7 e8 (by rw [List.append_assoc]; exact htot) (by rw [List.length_append, List.length_singleton]; omega)
        · rw [if_neg hb] at e3
          rw [if_neg hb]
          exact fin S5 x5 E5' hD5 rA5 nfD5 (fun z => noD3 (o5 D z)) e3 htot (Nat.le_succ_of_le hal)
      · have hl : i = ds.length := by omega
        subst hl
        rw [List.drop_length] at e3
        cases e3
        rw [List.append_nil] at htot
        subst htot
        have S5 := S2.unwipe em
        obtain ⟨S6, own6⟩ := S5.refill (s0 := s1) em fun j hj s hs => by
          have hd := List.all_eq_true.mp hall j hj
          rw [hs] at hd
          cases s with
          | d x =>
            obtain ⟨v, e1, e2⟩ := S1.dat j x hs
            exact ⟨x, v, rfl, e1, x2.rp e2⟩
          | own xs => cases hd
          | lent xs => cases hd
        refine .inl ⟨W.stops Hc x2.gd, q _ F2 Hc S6 ⟨E2.sub, E2.new, E2.keep, E2.live, fun i h => E2.own i (own6 i h)⟩ trivial ⟨D, av, rfl, hDc, rA, nfD, fun z => ?_, hD0⟩⟩
        obtain ⟨i, h1, h2⟩ := z
        have h1 := own6 i h1
        refine noD ⟨i, h1, ?_⟩
        rw [wipe_get σ vs i]
        · exact h2
        · intro z
          obtain ⟨xs, h1⟩ := h1
          rw [em i z] at h1
          rcases h1 with h1 | h1 <;> cases h1
  · rw [if_neg cd] at e
    cases e
end
end DL
end

section
set_option Elab.async false
set_option linter.all false
set_option maxRecDepth 100000
set_option maxHeartbeats 1000000
/-! DLfn: defs that run where no repr is under way (repr asks for that): their promises, calls, the law's own end. -/
namespace DL
open PySem PySem.Spec PyProof.Rows L2
/-- a def's promise, where no guard stands around -/
structure FnG (P : Program) (w : World) (K : PySem.W.Frag) (mg : Str → Option Value) (base : Heap) (CX : CXT) (lv : Nat) (f : Addr) (fd : FuncData) (ps : List Str) (sp : Sp) : Prop where
  many : ∀ vs H Q E, sp vs H Q E → vs.length = ps.length
  go : ∀ (A : Around) (out : List Env) (s : Shared) (H : Hp) (args : Args) (us : List Value) (vs : List V) (Q : VK) (E : XK), Room lv A → A.guards = some [] → Env0 P w K mg base A out s H → BindsTo s fd args (ps.zip us) → Vals vs us → sp vs H Q E →
    codeAny (model P w) A (.call (.ref f) args) (CR CX out P w H s Q E) s
section
variable {P : Program} {w : World} {K : PySem.W.Frag} {mg : Str → Option Value} {base : Heap} {CX : CXT}
theorem FnG.mono {i j : Nat} {f : Addr} {fd : FuncData} {ps : List Str} {sp : Sp} (g : FnG P w K mg base CX i f fd ps sp) (h : i ≤ j) : FnG P w K mg base CX j f fd ps sp :=
  ⟨g.many, fun A out s H args us vs Q E room => g.go A out s H args us vs Q E (room.mono h)⟩
theorem FnG.imp {i : Nat} {f : Addr} {fd : FuncData} {ps : List Str} {sp sp' : Sp} (g : FnG P w K mg base CX i f fd ps sp) (h : ∀ vs H Q E, sp' vs H Q E → sp vs H Q E) : FnG P w K mg base CX i f fd ps sp' :=
  ⟨fun vs H Q E z => g.many vs H Q E (h _ _ _ _ z), fun A out s H args us vs Q E room gd env bd vl z => g.go A out s H args us vs Q E room gd env bd vl (h _ _ _ _ z)⟩
/-- from the body -/
theorem fnG_of {lv : Nat} {f : Addr} {nm ql : Str} {prm : Arguments} {bd : List Stmt} {sc : Scope} {dV kV dc pm cdv ct oc : Value} {an od : Option Addr} {osl : Array (Option Value)} {N ps : List Str} {sp : Sp}
    (at_ : K.lookup f = some ⟨oc, od, .func (PySem.W.fnOf nm ql prm bd sc dV kV dc pm an cdv ct), osl⟩) (isc : PySem.W.codeIn K cdv ql = true) (S : FnScope N ps sc) (many : ∀ vs H Q E, sp vs H Q E → vs.length = ps.length)
    (body : ∀ (A : Around) (out : List Env) (s : Shared) (H : Hp) (vs : List V) (Q : VK) (E : XK), Room lv (A.deeper (envOfC ql sc s.heap.objs.size f cdv)) → (A.deeper (envOfC ql sc s.heap.objs.size f cdv)).guards = some [] → sp vs H Q E →
      ∃ t, PSs (cxOf CX P w K mg base N ql sc f cdv A out s H E) bd t ∧ t { nx := fun _ H' => Q .non H', rt := Q } (L2.start N vs) H) :
    FnG P w K mg base CX (lv + 1) f (PySem.W.fnOf nm ql prm bd sc dV kV dc pm an cdv ct) ps sp := by
  refine ⟨many, fun A out s H args us vs Q E room gd env bnd vals want => ?_⟩
  have vlen := many _ _ _ _ want
  have kept : ∀ b o, base.get? b = some o → s.heap.get? b = some o := fun b o z => (env.bs b o z).1
  have inK : K.In s.heap := env.mod.kin.keeps kept
  have places : ∀ y ∈ ps.zip us, sc.names.lookup y.1 = some .local ∨ (sc.names.lookup y.1 = some .cell ∧ ((cellsFrom (s.heap.objs.size + 1) sc.names []).lookup y.1).isSome = true) := by
    rintro ⟨nm', v'⟩ hy
    rcases S.par nm' (List.of_mem_zip hy).1 with z | z
    · exact .inl z
    · exact .inr ⟨z, PySem.W.cellsFrom_some _ _ _ (.inl z)⟩
  refine codeAny_call_function room.depth (inK _ _ at_) rfl S.co S.gen rfl (PySem.W.codeRec_of inK isc) (bnd _ _ _ _ ?_)
  refine wpAny_newFunctionEnv_cells S.kind places fun env' he st1 x => ?_
  subst he
  refine ⟨(env.mod.nolimit.keeps kept).keeps x.toInCall.keep, codeAny_func ?_⟩
  obtain ⟨t, pt, qt⟩ := body A out s H vs Q E (room.deeper _) gd want
  have J : Inv (cxOf CX P w K mg base N ql sc f cdv A out s H E) [] (L2.start N vs) H st1 := inv_start S room.hd env vlen vals x
  refine wpAny_mono (pt.run [] st1 (L2.start N vs) H _ J qt) (fun fl st2 z => ?_) fun e st2 z => z
  cases fl with
  | ret u =>
    obtain ⟨v, σ', H', J', rv, z⟩ := z
    exact ⟨v, H', J'.os, J'.bare, J'.base, J'.hok, rv, z⟩
  | next =>
    obtain ⟨σ', H', J', z⟩ := z
    exact ⟨.non, H', J'.os, J'.bare, J'.base, J'.hok, rfl, z⟩
  | brk =>
    obtain ⟨_, _, _, z⟩ := z
    exact z.elim
  | cont =>
    obtain ⟨_, _, _, z⟩ := z
    exact z.elim
end
section
variable {X : Cx} {CX : CXT} {lv n : Nat} {f : Addr} {fd : FuncData} {ps ks : List Str} {sp : Sp} {dvs : List V} {ds : List Value} {E : XK} {x : Str} {p pos : Pos} {e : Expr} {es : List Expr} {kws : List Keyword} {t tk : TA} {perm : List Nat}
/-- a callee's end is the caller's -/
theorem callG {pins : List (Addr × Obj)} {σ : L2.St} {H : Hp} {s : Shared} {Q : VK} {us : List Value} {kw : List (Str × Value)} {full : List Value} {vs : List V} (g : FnG X.prog X.w X.K X.mg X.base CX lv f fd ps sp) (room : Room lv X.A) (gd : X.A.guards = some []) (pa : Passes CX X E)
    (I : Inv X pins σ H s) (bnd : BindsTo s fd ⟨us, kw⟩ (ps.zip full)) (r : Vals vs full) (want : sp vs H Q E) : wpAny (model X.prog X.w) X.A (call (.ref f) us kw) (EP X pins σ Q) X.xe s := by
  refine wpAny_call (codeAny_mono (g.go X.A X.stack s H ⟨us, kw⟩ full vs Q E room gd I.env0 bnd r want) fun res s' z => ?_)
  match res, z with
  | .error er, z => exact pa pins σ H s er s' I z
  | .ok (.ret u), z => exact I.after z
  | .ok .next, z => exact z.elim
  | .ok .brk, z => exact z.elim
  | .ok .cont, z => exact z.elim
theorem pe_callG (g : FnG X.prog X.w X.K X.mg X.base CX lv f fd ps sp) (room : Room lv X.A) (gd : X.A.guards = some []) (hg : Gl X x) (hm : X.mg x = some (.ref f)) (kp : PySem.W.keepIn X.K (.ref f) = true) (hb : Binds X.K fd ps ds) (hd : Vals dvs ds) (pa : Passes CX X E)
    (ha : PA X (e :: es) t) (h1 : (x == ("__debug__" : Str)) = false := by decide) (h2 : starEach (e :: es) X.env = (false, eval e X.env) :: starEach es X.env := by rfl) (h3 : (backTo pos (starEach es X.env)).any (·.1) = false := by rfl) :
    PE X (.Call (.Name x p) (e :: es) [] pos) (tCall sp dvs E t) := by
  constructor
  intro pins s σ H Q I want
  refine wpAny_Call_Name_kw (ld_glob I hg hm ?_ h1)
  refine PySem.W.callWith_K (h₀ := X.base) I.ok.mod.kin kp ?_ h2 h3
  refine thn (ha.run pos pins s σ H _ I want) ?_
  rintro us s1 ⟨vs, H1, I1, r, z⟩
  have r2 : Vals (vs ++ dvs) (us ++ ds) := r.append hd
  have l2 : (us ++ ds).length = ps.length := r2.length.symm.trans (g.many _ _ _ _ z)
  exact ⟨I1.kIn, callG g room gd pa I1 (hb s1 us I1.kIn l2) r2 z⟩
theorem pe_call0G (g : FnG X.prog X.w X.K X.mg X.base CX lv f fd ps sp) (room : Room lv X.A) (gd : X.A.guards = some []) (hg : Gl X x) (hm : X.mg x = some (.ref f)) (kp : PySem.W.keepIn X.K (.ref f) = true) (hb : Binds X.K fd ps ds) (hd : Vals dvs ds) (pa : Passes CX X E)
    (h1 : (x == ("__debug__" : Str)) = false := by decide) : PE X (.Call (.Name x p) [] [] pos) (tCall sp dvs E tNil) := by
  constructor
  intro pins s σ H Q I want
  refine wpAny_Call_Name_kw (ld_glob I hg hm ?_ h1)
  have r2 : Vals ([] ++ dvs) ([] ++ ds) := hd
  have l2 : (([] : List Value) ++ ds).length = ps.length := r2.length.symm.trans (g.many _ _ _ _ want)
  exact PySem.W.callWith_K0 I.kIn kp (callG g room gd pa I (hb s [] I.kIn l2) r2 want)

/-! ### calls with names -/
theorem permute_cons {α : Type} (k : Nat) (perm : List Nat) (xs : List α) : permute (k :: perm) xs = match xs[k]? with | some x => x :: permute perm xs | none => permute perm xs := by
  unfold permute
  rw [List.filterMap_cons]
  cases xs[k]? <;> rfl
theorem Vals.permute {vs : List V} {us : List Value} (h : Vals vs us) : ∀ perm : List Nat, Vals (DL.permute perm vs) (DL.permute perm us)
  | [] => .nil
  | k :: perm => by
    rw [permute_cons, permute_cons]
    cases q : vs[k]? with
    | none =>
      rw [Vals.none_of h q]
      exact Vals.permute h perm
    | some x =>
      obtain ⟨v, e, r⟩ := Vals.get h q
      rw [e]
      exact .cons r (Vals.permute h perm)
def KB (K : PySem.W.Frag) (fd : FuncData) (ps ks : List Str) (n : Nat) (perm : List Nat) (ds : List Value) : Prop :=
  ∀ (s : Shared) (us ws : List Value), K.In s.heap → us.length = n → ws.length = ks.length → BindsTo s fd ⟨us, ks.zip ws⟩ (ps.zip (permute perm (us ++ ws ++ ds)))
def tCallP (n m : Nat) (perm : List Nat) (dvs : List V) (sp : Sp) (E : XK) (t tk : TA) : TE := fun σ H Q => t σ H fun vs H1 => tk σ H1 fun zs H2 => vs.length = n ∧ zs.length = m ∧ sp (permute perm (vs ++ zs ++ dvs)) H2 Q E
theorem pe_callP (g : FnG X.prog X.w X.K X.mg X.base CX lv f fd ps sp) (room : Room lv X.A) (gd : X.A.guards = some []) (hg : Gl X x) (hm : X.mg x = some (.ref f)) (kp : PySem.W.keepIn X.K (.ref f) = true) (hb : KB X.K fd ps ks n perm ds) (hd : Vals dvs ds) (pa : Passes CX X E)
    (ha : PA X (e :: es) t) (hkw : PK X kws tk) (k1 : (backToKw pos (keywordEach kws X.env)).all (·.1.isSome) = true := by rfl) (k2 : (backToKw pos (keywordEach kws X.env)).filterMap (·.1) = ks := by rfl)
    (h1 : (x == ("__debug__" : Str)) = false := by decide) (h2 : starEach (e :: es) X.env = (false, eval e X.env) :: starEach es X.env := by rfl)
    (h3 : ((backTo pos (starEach (e :: es) X.env)).any (·.1) || (backToKw pos (keywordEach kws X.env)).any (·.1.isNone)) = false := by rfl) :
    PE X (.Call (.Name x p) (e :: es) kws pos) (tCallP n ks.length perm dvs sp E t tk) := by
  constructor
  intro pins s σ H Q I want
  refine wpAny_Call_Name_kw (ld_glob I hg hm ?_ h1)
  refine PySem.W.callWith_KW (h₀ := X.base) I.ok.mod.kin kp k1 (thn (ha.run pos pins s σ H _ I want) ?_) h3 h2
  rintro us s1 ⟨vs, H1, I1, r, z⟩
  refine thn (hkw.run pos pins s1 σ H1 _ I1 z) ?_
  rintro ws s2 ⟨zs, H2, I2, rz, l1, l2, z2⟩
  refine ⟨I2.kIn, ?_⟩
  rw [k2]
  exact callG g room gd pa I2 (hb s2 us ws I2.kIn (r.length.symm.trans l1) (rz.length.symm.trans l2)) (Vals.permute (Vals.append (Vals.append r rz) hd) perm) z2
theorem pe_callP0 (g : FnG X.prog X.w X.K X.mg X.base CX lv f fd ps sp) (room : Room lv X.A) (gd : X.A.guards = some []) (hg : Gl X x) (hm : X.mg x = some (.ref f)) (kp : PySem.W.keepIn X.K (.ref f) = true) (hb : KB X.K fd ps ks 0 perm ds) (hd : Vals dvs ds) (pa : Passes CX X E)
    (hkw : PK X kws tk) (k1 : (backToKw pos (keywordEach kws X.env)).all (·.1.isSome) = true := by rfl) (k2 : (backToKw pos (keywordEach kws X.env)).filterMap (·.1) = ks := by rfl)
    (h1 : (x == ("__debug__" : Str)) = false := by decide)
    (h3 : ((backTo pos (starEach [] X.env)).any (·.1) || (backToKw pos (keywordEach kws X.env)).any (·.1.isNone)) = false := by rfl) :
    PE X (.Call (.Name x p) [] kws pos) (tCallP 0 ks.length perm dvs sp E tNil tk) := by
  constructor
  intro pins s σ H Q I want
  refine wpAny_Call_Name_kw (ld_glob I hg hm ?_ h1)
  refine PySem.W.callWith_KW0 (h₀ := X.base) I.ok.mod.kin kp k1 (thn (hkw.run pos pins s σ H _ I want) ?_) h3
  rintro ws s2 ⟨zs, H2, I2, rz, l1, l2, z2⟩
  refine ⟨I2.kIn, ?_⟩
  rw [k2]
  exact callG g room gd pa I2 (hb s2 [] ws I2.kIn rfl (rz.length.symm.trans l2)) (Vals.permute (Vals.append (Vals.append .nil rz) hd) perm) z2
end

/-! ### the law's own end -/
section
variable {P : Program} {w : World} {K : PySem.W.Frag} {mg mb : Str → Option Value}
/-- the script's heap: nothing is told but the script, which is locked; or nothing at all -/
theorem lawG {lv : Nat} {fa a : Addr} {fd : FuncData} {x : Str} {sp : Sp} {s1 : Shared} {us : List Value} {ns : List Int}
    (inK : K.In s1.heap) (nsG : s1.heap.Ns mainGlobals mg) (nsB : s1.heap.Ns builtinsNs mb) (blt : ∀ y : Str, y ≠ "__name__" → mb y = bootBuiltins y) (noLim : s1.heap.NoLimit) (gens : s1.gens = #[])
    (scr : s1.heap.get? a = some { cls := .type "list", data := .seq us.toArray }) (isI : IntsAre us ns) (short : ns.length ≤ sizeLine) (room : Room lv callerA)
    (g : ∀ base : Heap, K.In base → base.Ns mainGlobals mg → FnG P w K mg base CX0 lv fa fd [x] sp) (bnd : ∀ (s : Shared) (u : Value), BindsTo s fd ⟨[u], []⟩ [(x, u)])
    (want : ∀ H : Hp, Only H → SqL K H a (ns.map V.int) → sp [.ref a] H (fun v _ => v = .bl true) fun _ _ _ => False) :
    codeAny (model P w) callerA (.call (.ref fa) ⟨[.ref a], []⟩) (fun r s' => r = .ok (.ret (.bool true)) ∧ OldK s1.heap s'.heap ∧ s'.os = s1.os ∧ AllBare s'.gens) s1 := by
  have vals : Vals (ns.map V.int) us := vals_ints isI
  have ulen : us.length = ns.length := isI.length
  -- both shapes of the told heap at once
  have both : ∀ H : Hp, Only H → SqL K H a (ns.map V.int) → HOk P w H s1.heap → (∀ b u, H b = some u → b = a ∧ K.lookup b = none) →
      codeAny (model P w) callerA (.call (.ref fa) ⟨[.ref a], []⟩) (fun r s' => r = .ok (.ret (.bool true)) ∧ OldK s1.heap s'.heap ∧ s'.os = s1.os ∧ AllBare s'.gens) s1 := by
    intro H only sq hok told
    have keepK : K.In (hidT s1.heap H) := by
      intro b o hb
      refine hidT_get (inK b o hb) ?_
      cases q : H b with
      | none => rfl
      | some u =>
        obtain ⟨_, z⟩ := told b u q
        rw [z] at hb
        cases hb
    have keepNs : ∀ {b : Addr} {m : Str → Option Value}, s1.heap.Ns b m → (hidT s1.heap H).Ns b m := by
      rintro b m ⟨o, es, ep, h1, h2, h3⟩
      refine ⟨o, es, ep, hidT_get h1 ?_, h2, h3⟩
      cases q : H b with
      | none => rfl
      | some u =>
        obtain ⟨z, _⟩ := told b u q
        subst z
        rw [scr] at h1
        cases h1
        cases (show Data.seq us.toArray _ = Data.dict es ep from h2)
    have md : Mod K mg (hidT s1.heap H) := by
      obtain ⟨mc, c1, c2⟩ := noLim
      exact ⟨keepK, keepNs nsG, ⟨mb, keepNs nsB, blt⟩, mc, keepNs c1, c2⟩
    have env : Env0 P w K mg (hidT s1.heap H) callerA [] s1 H :=
      ⟨rfl, md, fun b o hb => of_hidT hb, Nat.le_of_eq (hidT_size _ _), trivial, fun b hb => absurd (show b ∈ ([] : List Addr) from hb) List.not_mem_nil, hok, .of_eq gens⟩
    refine codeAny_mono ((g _ keepK (keepNs nsG)).go callerA [] s1 H ⟨[.ref a], []⟩ [.ref a] [.ref a] _ _ room rfl env (bnd s1 (.ref a)) (.cons rfl .nil) (want H only sq)) fun r s' z => ?_
    match r, z with
    | .error er, z => exact False.elim z
    | .ok .next, z => exact False.elim z
    | .ok .brk, z => exact False.elim z
    | .ok .cont, z => exact False.elim z
    | .ok (.ret u), z =>
      obtain ⟨v, H', os, bare, un, hok', rv, isT⟩ := z
      have isT : v = .bl true := isT
      subst isT
      cases (show u = Value.bool true from rv)
      refine ⟨rfl, OldK.of_keep fun b o hb => ?_, os, bare⟩
      cases q : H b with
      | none => exact un.keep b o hb q (fun c => absurd (show b ∈ ([] : List Addr) from c) List.not_mem_nil) List.not_mem_nil
      | some u =>
        rcases only b with c | ⟨ob, zs, c⟩
        · rw [q] at c
          cases c
        · obtain ⟨o1, _⟩ := hok b _ c
          obtain ⟨o2, _⟩ := hok' b _ (un.frzs b ob _ c)
          rw [hb] at o1
          cases o1
          exact o2
  cases inMod : K.lookup a with
  | some o =>
    have same := inK a o inMod
    rw [scr] at same
    cases same
    refine both (fun _ => none) (fun _ => .inl rfl) (.inr ⟨_, us.toArray, _, inMod, rfl, rfl, rfl, ?_, vals⟩) (fun b u c => nomatch c) fun b u c => nomatch c
    rw [List.size_toArray, ulen]
    exact short
  | none =>
    refine both (fun b => if b = a then some (.frz { cls := .type "list", data := .seq us.toArray } (.lst (ns.map V.int))) else none) (fun b => ?_) (.inl (.inr ⟨_, if_pos rfl⟩)) (fun b u c => ?_) fun b u c => ?_
    · by_cases ba : b = a
      · exact .inr ⟨_, _, if_pos ba⟩
      · exact .inl (if_neg ba)
    · by_cases ba : b = a
      · subst ba
        have c := (if_pos rfl).symm.trans c
        cases c
        exact ⟨scr, by rw [List.length_map]; exact short, us, _, vals, scr⟩
      · have c := (if_neg ba).symm.trans c
        cases c
    · by_cases ba : b = a
      · subst ba
        exact ⟨rfl, inMod⟩
      · have c := (if_neg ba).symm.trans c
        cases c
/-- the goal that the head leaves -/
theorem walkG {l : PySem.W.OpenLaw} {n lv : Nat} {q : Program} {loose : List Str} {XP : (Str → Option Value) → Heap → Prop} {YP : World → Heap → Prop} {d : DefRec} {KK : Params → PySem.W.Frag} {sp : PySem.W.Frag → Sp} {x : Str}
    (most : l.most = some n) (fits : n ≤ sizeLine) (noDef : d.params.defaults = []) (room : Room lv callerA) (isK : ∀ (w : World) (h : Heap), YP w h → (KK w.params).In h)
    (g : ∀ (w : World) (mg : Str → Option Value) (fa : Addr) (h : Heap), (KK w.params).In h → h.Ns mainGlobals mg → mg d.name = some (.ref fa) →
      ∃ fd : FuncData, (∀ (s : Shared) (u : Value), BindsTo s fd ⟨[u], []⟩ [(x, u)]) ∧ ∀ base : Heap, (KK w.params).In base → base.Ns mainGlobals mg → FnG l.prog w (KK w.params) mg base CX0 lv fa fd [x] (sp (KK w.params)))
    (want : ∀ (K : PySem.W.Frag) (H : Hp) (a : Addr) (ns : List Int), ns.length ≤ n → Only H → SqL K H a (ns.map V.int) → sp K [.ref a] H (fun v _ => v = .bl true) fun _ _ _ => False) :
    PySem.W.WalkO q loose XP YP l.row.toRowW d [] (fun f vs => PySem.call f vs) := by
  refine Att.attach_call most noDef ?_
  intro w s0 s1 mg mb fa o pm cd doc a us ns G Y ho hd hcd hmg hobj isI hlen gens
  have inK := isK w _ Y
  obtain ⟨fd, bnd, gb⟩ := g w mg fa _ inK G.T.g hmg
  exact lawG inK G.T.g G.T.b G.T.builtins G.T.nolimit gens hobj isI (Nat.le_trans hlen fits) room gb bnd fun H only sq => want _ H a ns hlen only sq
end
end DL
end

section
set_option Elab.async false
set_option linter.all false
set_option maxRecDepth 100000
set_option maxHeartbeats 1000000
/-! DLsnd5: promises of defs, calls. -/
namespace DL
open PySem PySem.Spec PyProof.Rows L2
def ArOk (K : PySem.W.Frag) (F : Addr → Prop) (H : Hp) (v : V) : Ar → Prop
  | .d x => Rp K F H v x
  | .m xs => ∃ p vs, v = .ref p ∧ H p = some (.lst vs) ∧ RpAll K F H vs xs ∧ ¬ F p
/-- the lent lists' addresses, by the arguments' places -/
def lentP (vs : List V) (as : List Ar) (i : Nat) : Option Addr := match as[i]?, vs[i]? with
  | some (.m _), some (.ref p) => some p
  | _, _ => none
/-- THE PROMISE of a def whose plain function is g -/
def spD (K : PySem.W.Frag) (n : Nat) (g : Fn) : Sp := fun vs H Q _ => ∃ (F : Addr → Prop) (as : List Ar) (r : Rt) (outs : List (List D)),
  vs.length = n ∧ Paired (ArOk K F H) vs as ∧ (∀ a, F a → ∃ xs, H a = some (.lst xs)) ∧ (∀ i j p, lentP vs as i = some p → lentP vs as j = some p → i = j) ∧ g as = some (r, outs) ∧
  ∀ v F' H', (∀ a, F a → F' a) → (∀ a, F' a → F a ∨ H a = none) → (∀ a, F' a → ∃ xs, H' a = some (.lst xs)) → (∀ b u, H b = some u → (∀ i, lentP vs as i ≠ some b) → H' b = some u) →
    (∀ i p, lentP vs as i = some p → ¬ F' p) →
    (∃ st, outsGo st as 0 = some outs ∧ ∀ i p, lentP vs as i = some p → ∃ xs ws, st.getD i none = some (.lent xs) ∧ H' p = some (.lst ws) ∧ RpAll K F' H' ws xs) →
    (∀ a xs, FL K F H a xs → FL K F' H' a xs) → (∀ a xs, SqT K H a xs → SqT K H' a xs) →
    RtOk K H F' H' r v → Q v H'
theorem Paired.at {α β : Type} {R : α → β → Prop} : ∀ {l : List α} {m : List β} {i : Nat} {b : β}, Paired R l m → m[i]? = some b → ∃ a, l[i]? = some a ∧ R a b
  | _, _, _, _, .nil, e => by simp at e
  | _, _, 0, _, .cons a _, e => by
    simp at e
    subst e
    exact ⟨_, rfl, a⟩
  | _, _, i + 1, _, .cons _ b, e => by
    obtain ⟨v, h1, h2⟩ := Paired.at (i := i) b (by simpa using e)
    exact ⟨v, by simpa using h1, h2⟩
theorem startD_get {n : Nat} {as : List Ar} {i : Nat} {s : SV} (h : (startD n as).getD i none = some s) : ∃ a, as[i]? = some a ∧ s = arS a := by
  unfold startD at h
  rw [List.getD_eq_getElem?_getD] at h
  by_cases hi : i < as.length
  · rw [List.getElem?_append_left (by rw [List.length_map]; exact hi), List.getElem?_map, List.getElem?_eq_getElem hi] at h
    exact ⟨as[i], List.getElem?_eq_getElem hi, (Option.some.inj h).symm⟩
  · rw [List.getElem?_append_right (by rw [List.length_map]; omega), List.getElem?_replicate] at h
    split at h <;> cases h
theorem startD_at {n : Nat} {as : List Ar} {i : Nat} {a : Ar} (h : as[i]? = some a) : (startD n as).getD i none = some (arS a) := by
  obtain ⟨hi, e⟩ := List.getElem?_eq_some_iff.mp h
  unfold startD
  rw [List.getD_eq_getElem?_getD, List.getElem?_append_left (by rw [List.length_map]; exact hi), List.getElem?_map, h]
  rfl
theorem start_at {N : List Str} {vs : List V} {i : Nat} {v : V} (h : vs[i]? = some v) : (L2.start N vs)[i]? = some (some v) := by
  obtain ⟨hi, e⟩ := List.getElem?_eq_some_iff.mp h
  unfold L2.start
  rw [List.getElem?_append_left (by rw [List.length_map]; exact hi), List.getElem?_map, h]
  rfl
section
variable {P : Program} {w : World} {K : PySem.W.Frag} {mg : Str → Option Value} {base : Heap}
/-- a def's body, read by a plain function, keeps the promise -/
theorem dl_body {n : Nat} {N : List Str} {b : DS} {t : TS} {vs : List V} {H : Hp} {Q : VK} {E : XK} (hN : n ≤ N.length) (s : SndS K t b) (h : spD K n (run N.length b) vs H Q E) : t { nx := fun _ H' => Q .non H', rt := Q } (L2.start N vs) H := by
  obtain ⟨F, as, r, outs, hl, pr, hF, hinj, hg, q⟩ := h
  obtain ⟨⟨fl, st'⟩, e1, e⟩ := bs hg
  obtain ⟨o, e2, e⟩ := bs e
  have hl2 : as.length = n := by rw [← Paired.length pr]; exact hl
  have lp : ∀ {i xs}, as[i]? = some (Ar.m xs) → ∃ p ws, lentP vs as i = some p ∧ vs[i]? = some (.ref p) ∧ H p = some (.lst ws) ∧ RpAll K F H ws xs ∧ ¬ F p := fun {i xs} ha => by
    obtain ⟨v, hv, p, ws, rfl, h1, h2, h3⟩ := Paired.at pr ha
    exact ⟨p, ws, by unfold lentP; rw [ha, hv], hv, h1, h2, h3⟩
  have lp' : ∀ {i p}, lentP vs as i = some p → ∃ xs, as[i]? = some (Ar.m xs) := fun {i p} h => by
    unfold lentP at h
    cases ha : as[i]? with
    | none => rw [ha] at h; cases h
    | some a =>
      rw [ha] at h
      cases a with
      | d x => cases h
      | m xs => exact ⟨xs, rfl⟩
  have S : Sim K H (lentP vs as) (startD N.length as) (L2.start N vs) F H := by
    refine ⟨?_, fun i x h => ?_, fun i x h => ?_, fun i x h => ?_, fun i p h => ?_, fun i p h => ?_, fun i j p a b e1 e2 => ?_, hF, fun b u h _ => h⟩
    · unfold L2.start startD
      rw [List.length_append, List.length_append, List.length_map, List.length_map, List.length_replicate, List.length_replicate, Paired.length pr]
    · obtain ⟨a, ha, hs⟩ := startD_get h
      cases a with
      | d y =>
        cases hs
        obtain ⟨v, hv, rv⟩ := Paired.at pr ha
        exact ⟨v, start_at hv, rv⟩
      | m y => cases hs
    · obtain ⟨a, ha, hs⟩ := startD_get h
      cases a <;> cases hs
    · obtain ⟨a, ha, hs⟩ := startD_get h
      cases a with
      | d y => cases hs
      | m y =>
        cases hs
        obtain ⟨p, ws, h1, h2, h3, h4, h5⟩ := lp ha
        exact ⟨p, ws, h1, start_at h2, h3, h4, h5⟩
    · obtain ⟨xs, ha⟩ := lp' h
      exact ⟨xs, startD_at ha⟩
    · obtain ⟨xs, ha⟩ := lp' h
      obtain ⟨p', ws, h1, h2, h3, _⟩ := lp ha
      rw [h] at h1
      cases h1
      rw [h3]
      exact fun z => by cases z
    · have own : ∀ k, IsOwn (startD N.length as) k → (L2.start N vs)[k]? = some (some (.ref p)) → lentP vs as k = some p := fun k ⟨xs, o⟩ e => by
        rcases o with o | o
        · obtain ⟨a, ha, hs⟩ := startD_get o
          cases a <;> cases hs
        · obtain ⟨a, ha, hs⟩ := startD_get o
          cases a with
          | d y => cases hs
          | m y =>
            obtain ⟨p', ws, h1, h2, _⟩ := lp ha
            rw [start_at h2] at e
            cases e
            exact h1
      exact hinj i j p (own i a e1) (own j b e2)
  have post : ∀ {σ' : L2.St} {F' : Addr → Prop} {H' : Hp} {v : V} {r' : Rt}, Sim K H (lentP vs as) st' σ' F' H' → FExt K H F H F' H' → RtOk K H F' H' r' v → r' = r → o = outs → Q v H' := fun {σ' F' H' v r'} S' x' rt e3 e4 => by
    subst e3
    subst e4
    refine q v F' H' x'.sub x'.new S'.frz S'.base (fun i p h => ?_) ⟨st', e2, fun i p h => ?_⟩ x'.fl x'.tup rt
    · obtain ⟨xs, h1⟩ := S'.lentE i p h
      obtain ⟨p', ws, m, _, _, _, nf⟩ := S'.lent i xs h1
      rw [h] at m
      cases m
      exact nf
    · obtain ⟨xs, h1⟩ := S'.lentE i p h
      obtain ⟨p', ws, m, _, h2, h3, _⟩ := S'.lent i xs h1
      rw [h] at m
      cases m
      exact ⟨xs, ws, h1, h2, h3⟩
  refine s H (lentP vs as) (startD N.length as) (L2.start N vs) F H fl st' _ S e1 ?_
  cases fl with
  | nx =>
    cases e
    exact fun σ' F' H' S' x' => post S' x' (r' := .d .none) .non rfl rfl
  | bk => cases e
  | ct => cases e
  | rt r' =>
    cases e
    exact fun v σ' F' H' S' x' rt => post S' x' rt rfl rfl
/-- THE RULE: a def by its body's reading -/
theorem dl_ok {x qual : Str} {st : Stmt} {f : Addr} {fd : FuncData} {N ps : List Str} {k : Nat} {b : DS} (F : Fun K x qual st f fd) (S : FnScope N ps (defScope st)) (hN : ps.length ≤ N.length)
    (hbody : ∀ (cdv : Value) (A : Around) (outer : List Env) (s : Shared) (H : Hp) (E : XK), Room k (A.deeper (envOfC qual (defScope st) s.heap.objs.size f cdv)) → (A.deeper (envOfC qual (defScope st) s.heap.objs.size f cdv)).guards = some [] →
      ∃ t, PSs (cxOf CX0 P w K mg base N qual (defScope st) f cdv A outer s H E).nox (defBody st) t ∧ SndS K t b) : FnG P w K mg base CX0 (k + 1) f fd ps (spD K ps.length (run N.length b)) := by
  obtain ⟨oc, od, kV, doc, pm, an, cdv, ct, osl, rfl, lk, isc⟩ := F.ex
  refine fnG_of lk isc S (fun vs H Q E h => let ⟨_, _, _, _, hl, _⟩ := h; hl) fun A outer s H vs Q E hr gd h => ?_
  obtain ⟨t, h1, h2⟩ := hbody cdv A outer s H E hr gd
  exact ⟨t, h1.nox, dl_body hN h2 h⟩
/-- .. for a def with defaults -/
theorem dl_okD {x qual : Str} {params : Arguments} {body : List Stmt} {scope : Scope} {dvs : List V} {kws : List (Str × V)} {f : Addr} {fd : FuncData} {N ps : List Str} {k : Nat} {b : DS} (F : FunD K x qual params body scope dvs kws f fd) (S : FnScope N ps scope) (hN : ps.length ≤ N.length)
    (hbody : ∀ (cdv : Value) (A : Around) (outer : List Env) (s : Shared) (H : Hp) (E : XK), Room k (A.deeper (envOfC qual scope s.heap.objs.size f cdv)) → (A.deeper (envOfC qual scope s.heap.objs.size f cdv)).guards = some [] →
      ∃ t, PSs (cxOf CX0 P w K mg base N qual scope f cdv A outer s H E).nox body t ∧ SndS K t b) : FnG P w K mg base CX0 (k + 1) f fd ps (spD K ps.length (run N.length b)) := by
  obtain ⟨oc, od, dV, kV, doc, pm, an, cdv, ct, osl, rfl, lk, isc, _, _⟩ := F.ex
  refine fnG_of lk isc S (fun vs H Q E h => let ⟨_, _, _, _, hl, _⟩ := h; hl) fun A outer s H vs Q E hr gd h => ?_
  obtain ⟨t, h1, h2⟩ := hbody cdv A outer s H E hr gd
  exact ⟨t, h1.nox, dl_body hN h2 h⟩
end

/-! ### calls -/
section
variable {K : PySem.W.Frag} {H0 : Hp} {M : Nat → Option Addr} {st st' st2 : DSt} {σ : L2.St} {F F' F2 : Addr → Prop} {H H' H2 H3 Hb Hc : Hp} {v w : V} {r : Rv} {x : PyData}
/-- what the arguments are behind the giving away -/
def AtOk (K : PySem.W.Frag) (F : Addr → Prop) (H : Hp) (σ : L2.St) (v : V) : Sum D Nat → Prop
  | .inl x => Rp K F H v x
  | .inr i => σ[i]? = some (some v)
theorem marsh_ok {sts : DSt} {Fs : Addr → Prop} : ∀ {rs : List Rv} {ms : List Bool} {vs : List V} {as : List (Sum D Nat)} {st st' : DSt} {F : Addr → Prop}, rs.length = ms.length → Sim K H0 M st σ F H → Ext sts σ Fs Hb st F H → RvWs K F H st σ Hb rs vs → marsh st (rs.zip ms) = some (as, st') →
    ∃ F', Sim K H0 M st' σ F' H ∧ Ext sts σ Fs Hb st' F' H ∧ Paired (AtOk K F' H σ) vs as ∧ (∀ a, F a → F' a)
  | [], [], _, as, st, st', F, hl, S, E, .nil, e => by
    cases e
    exact ⟨F, S, E, .nil, fun _ h => h⟩
  | r :: rs, false :: ms, _, as, st, st', F, hl, S, E, .cons h t, e => by
    have e : ((toD st r).bind fun p => (marsh p.2 (rs.zip ms)).bind fun q => some (Sum.inl p.1 :: q.1, q.2)) = some (as, st') := by
      have : (r :: rs).zip (false :: ms) = (r, false) :: rs.zip ms := rfl
      rw [this] at e
      exact e
    obtain ⟨p, e1, e⟩ := bs e
    obtain ⟨q, e2, e⟩ := bs e
    cases e
    obtain ⟨F1, S1, E1, r1, s1, o1, f1⟩ := toD_ok S E h e1
    obtain ⟨F2, S2, E2, r2, s2⟩ := marsh_ok (by simpa using hl) S1 E1 (t.to s1 o1 f1) e2
    exact ⟨F2, S2, E2, .cons (Rp.more s2 r1) r2, fun a z => s2 a (s1 a z)⟩
  | .sl i :: rs, true :: ms, _, as, st, st', F, hl, S, E, .cons h t, e => by
    have e : ((marsh st (rs.zip ms)).bind fun q => some (Sum.inr i :: q.1, q.2)) = some (as, st') := by
      have : (Rv.sl i :: rs).zip (true :: ms) = (Rv.sl i, true) :: rs.zip ms := rfl
      rw [this] at e
      exact e
    obtain ⟨q, e2, e⟩ := bs e
    cases e
    obtain ⟨F2, S2, E2, r2, s2⟩ := marsh_ok (by simpa using hl) S E t e2
    exact ⟨F2, S2, E2, .cons h r2, s2⟩
  | .d x :: rs, true :: ms, _, as, st, st', F, hl, S, E, _, e => by cases e
  | .tmp x :: rs, true :: ms, _, as, st, st', F, hl, S, E, _, e => by cases e
theorem lents_ok (S : Sim K H0 M st σ F H) : ∀ {vs : List V} {as : List (Sum D Nat)} {bs' : List Ar}, Paired (AtOk K F H σ) vs as → lents st as = some bs' →
    Paired (ArOk K F H) vs bs' ∧ ∀ i p, lentP vs bs' i = some p → ∃ j, as[i]? = some (.inr j) ∧ IsOwn st j ∧ σ[j]? = some (some (.ref p))
  | [], [], bs', .nil, e => by
    cases e
    exact ⟨.nil, fun i p h => by unfold lentP at h; simp at h⟩
  | v :: vs, a :: as, bs', .cons h t, e => by
    obtain ⟨x, e1, e⟩ := bs e
    obtain ⟨xs, e2, e⟩ := bs e
    cases e
    obtain ⟨p1, p2⟩ := lents_ok S t e2
    have hx : ArOk K F H v x ∧ ∀ p, (match some x, some v with | some (.m _), some (.ref p) => some p | _, _ => (none : Option Addr)) = some p → ∃ j, a = .inr j ∧ IsOwn st j ∧ σ[j]? = some (some (.ref p)) := by
      cases a with
      | inl y =>
        cases e1
        exact ⟨h, fun p z => by cases z⟩
      | inr j =>
        have h : σ[j]? = some (some v) := h
        have e1 : (match st.getD j none with
          | some (.own xs) => some (Ar.m xs)
          | some (.lent xs) => some (.m xs)
          | _ => none) = some x := e1
        cases g : st.getD j none with
        | none => rw [g] at e1; cases e1
        | some s =>
          rw [g] at e1
          cases s with
          | d y => cases e1
          | own ys =>
            cases e1
            obtain ⟨p, ws, a1, a2, a3, a4, _⟩ := S.own j ys g
            rw [h] at a1
            cases a1
            exact ⟨⟨p, ws, rfl, a2, a3, a4⟩, fun p' z => by cases z; exact ⟨j, rfl, ⟨ys, .inl g⟩, h⟩⟩
          | lent ys =>
            cases e1
            obtain ⟨p, ws, _, a1, a2, a3, a4⟩ := S.lent j ys g
            rw [h] at a1
            cases a1
            exact ⟨⟨p, ws, rfl, a2, a3, a4⟩, fun p' z => by cases z; exact ⟨j, rfl, ⟨ys, .inr g⟩, h⟩⟩
    refine ⟨.cons hx.1 p1, fun i p h => ?_⟩
    cases i with
    | zero =>
      obtain ⟨j, h1, h2, h3⟩ := hx.2 p h
      exact ⟨j, by rw [h1]; rfl, h2, h3⟩
    | succ i =>
      obtain ⟨j, h1, h2, h3⟩ := p2 i p h
      exact ⟨j, by simpa using h1, h2, h3⟩
theorem lentIx_mem : ∀ {as : List (Sum D Nat)} {i j : Nat}, as[i]? = some (.inr j) → j ∈ lentIx as
  | [], i, j, h => by simp at h
  | a :: as, 0, j, h => by
    simp at h
    subst h
    exact List.mem_cons_self
  | a :: as, i + 1, j, h => by
    have := lentIx_mem (as := as) (i := i) (j := j) (by simpa using h)
    cases a with
    | inl x => exact this
    | inr x => exact List.mem_cons_of_mem _ this
theorem lentIx_one : ∀ {as : List (Sum D Nat)} {i i' j j' : Nat}, (lentIx as).length ≤ 1 → as[i]? = some (.inr j) → as[i']? = some (.inr j') → i = i'
  | [], i, i', j, j', _, h, _ => by simp at h
  | a :: as, 0, 0, j, j', _, _, _ => rfl
  | a :: as, 0, i' + 1, j, j', hl, h, h' => by
    simp at h
    subst h
    have := lentIx_mem (as := as) (i := i') (j := j') (by simpa using h')
    have hl : (lentIx as).length + 1 ≤ 1 := hl
    cases q : lentIx as with
    | nil => rw [q] at this; simp at this
    | cons c d => rw [q] at hl; simp at hl
  | a :: as, i + 1, 0, j, j', hl, h', h => by
    simp at h
    subst h
    have := lentIx_mem (as := as) (i := i) (j := j) (by simpa using h')
    have hl : (lentIx as).length + 1 ≤ 1 := hl
    cases q : lentIx as with
    | nil => rw [q] at this; simp at this
    | cons c d => rw [q] at hl; simp at hl
  | a :: as, i + 1, i' + 1, j, j', hl, h, h' => by
    have hl2 : (lentIx as).length ≤ 1 := by
      cases a with
      | inl x => exact hl
      | inr x =>
        have hl : (lentIx as).length + 1 ≤ 1 := hl
        omega
    exact congrArg (· + 1) (lentIx_one hl2 (by simpa using h) (by simpa using h'))
/-- what outsGo gathers, and putBack lays down, of one lent list -/
theorem outs_one : ∀ {as : List Ar} {k i : Nat} {s : DSt} {outs : List (List D)} {xs ys : List D}, outsGo s as k = some outs → as[i]? = some (Ar.m xs) → (∀ j zs, as[j]? = some (.m zs) → j = i) → s.getD (k + i) none = some (.lent ys) → outs = [ys]
  | [], k, i, s, outs, xs, ys, e, h, u, g => by simp at h
  | .d x :: as, k, 0, s, outs, xs, ys, e, h, u, g => by simp at h
  | .d x :: as, k, i + 1, s, outs, xs, ys, e, h, u, g => outs_one (as := as) (k := k + 1) (i := i) e (by simpa using h) (fun j zs hj => by have := u (j + 1) zs (by simpa using hj); omega) (by rw [show k + 1 + i = k + (i + 1) by omega]; exact g)
  | .m x :: as, k, i + 1, s, outs, xs, ys, e, h, u, g => by
    have := u 0 x rfl
    omega
  | .m x :: as, k, 0, s, outs, xs, ys, e, h, u, g => by
    have e : (match s.getD k none with
      | some (.lent xs) => (outsGo s as (k + 1)).bind fun o => some (xs :: o)
      | _ => none) = some outs := e
    rw [show s.getD k none = some (.lent ys) from g] at e
    obtain ⟨o, e1, e2⟩ := bs e
    cases e2
    have : o = [] := by
      have non : ∀ (as : List Ar) (k : Nat) (o : List (List D)), (∀ (j : Nat) (zs : List D), as[j]? ≠ some (Ar.m zs)) → outsGo s as k = some o → o = [] := by
        intro as
        induction as with
        | nil => intro k o _ e; cases e; rfl
        | cons a as ih =>
          intro k o n e
          cases a with
          | d x => exact ih (k + 1) o (fun j zs h => n (j + 1) zs (by simpa using h)) e
          | m x => exact absurd rfl (n 0 x)
      exact non as (k + 1) o (fun j zs h => by have := u (j + 1) zs (by simpa using h); omega) e1
    rw [this]
theorem lents_len : ∀ {as : List (Sum D Nat)} {bs' : List Ar} {i : Nat} {xs : List D}, lents st as = some bs' → bs'[i]? = some (Ar.m xs) → ∃ j, as[i]? = some (.inr j)
  | [], bs', i, xs, e, h => by cases e; simp at h
  | a :: as, bs', i, xs, e, h => by
    obtain ⟨x, e1, e⟩ := bs e
    obtain ⟨ys, e2, e⟩ := bs e
    cases e
    cases i with
    | zero =>
      simp at h
      subst h
      cases a with
      | inl y => cases e1
      | inr j => exact ⟨j, rfl⟩
    | succ i =>
      obtain ⟨j, q⟩ := lents_len e2 (by simpa using h)
      exact ⟨j, by simpa using q⟩
/-- the state behind a call -/
theorem after_call {sts : DSt} {Fs : Addr → Prop} {vs : List V} {as : List (Sum D Nat)} {bs' : List Ar} {perm : List Nat} {dvs : List V} {more : List D} {outs : List (List D)} {rt : Rt}
    (S : Sim K H0 M st σ F H) (E : Ext sts σ Fs Hb st F H) (pa : Paired (AtOk K F H σ) vs as) (le : lents st as = some bs') (one : (lentIx as).length ≤ 1) (pb : putBack st (lentIx as) outs = some st')
    {vs2 : List V} {as2 : List Ar}
    (hl : ∀ i p, lentP vs2 as2 i = some p → ∃ j, lentIx as = [j] ∧ IsOwn st j ∧ σ[j]? = some (some (.ref p)) ∧ ∃ xs, as2[i]? = some (Ar.m xs))
    (hm : ∀ (i : Nat) (xs : List D), as2[i]? = some (Ar.m xs) → ∃ p, lentP vs2 as2 i = some p) (hu : ∀ (i j : Nat) (xs ys : List D), as2[i]? = some (Ar.m xs) → as2[j]? = some (Ar.m ys) → i = j) (hx : ∀ j, lentIx as = [j] → ∃ (i : Nat) (xs : List D), as2[i]? = some (Ar.m xs))
    (f1 : ∀ a, F a → F' a) (f2 : ∀ a, F' a → F a ∨ H a = none) (f3 : ∀ a, F' a → ∃ xs, H' a = some (.lst xs)) (f4 : ∀ b u, H b = some u → (∀ i, lentP vs2 as2 i ≠ some b) → H' b = some u)
    (f5 : ∀ i p, lentP vs2 as2 i = some p → ¬ F' p) (f6 : ∃ so, outsGo so as2 0 = some outs ∧ ∀ i p, lentP vs2 as2 i = some p → ∃ xs ws, so.getD i none = some (.lent xs) ∧ H' p = some (.lst ws) ∧ RpAll K F' H' ws xs)
    (f7 : ∀ a xs, FL K F H a xs → FL K F' H' a xs) (f8 : ∀ a xs, SqT K H a xs → SqT K H' a xs) (f9 : RtOk K H F' H' rt v) :
    Sim K H0 M st' σ F' H' ∧ Ext sts σ Fs Hb st' F' H' ∧ RvOk K F' H' st' σ Hb (rvOf rt) v := by
  have rp : ∀ {v : V} {x : PyData}, Rp K F H v x → Rp K F' H' v x := fun r => r.mono f7 f8
  have rpA : ∀ {v : List V} {x : List PyData}, RpAll K F H v x → RpAll K F' H' v x := fun r => r.mono f7 f8
  have nF : ∀ {p}, (∃ u, H p = some u) → ¬ F p → ¬ F' p := fun ⟨u, h⟩ n z => by
    rcases f2 _ z with z | z
    · exact n z
    · rw [h] at z; cases z
  have lentOwn : ∀ i p, lentP vs2 as2 i = some p → OwnAt st σ p := fun i p h => let ⟨j, _, h2, h3, _⟩ := hl i p h; ⟨j, h2, h3⟩
  -- st' by its slots
  have desc : (∀ j, j ∉ lentIx as → st'.getD j none = st.getD j none) ∧ st'.length = st.length ∧
      (∀ j, lentIx as = [j] → ∃ i p xs ws, lentP vs2 as2 i = some p ∧ σ[j]? = some (some (.ref p)) ∧ H' p = some (.lst ws) ∧ RpAll K F' H' ws xs ∧ ((∃ ys, st.getD j none = some (.own ys) ∧ st'.getD j none = some (.own xs)) ∨ (∃ ys, st.getD j none = some (.lent ys) ∧ st'.getD j none = some (.lent xs)))) := by
    obtain ⟨so, o1, o2⟩ := f6
    cases q : lentIx as with
    | nil =>
      rw [q] at pb
      have : outs = [] := by
        cases outs with
        | nil => rfl
        | cons a b => cases pb
      rw [this] at pb
      cases pb
      exact ⟨fun _ _ => rfl, rfl, fun j z => by cases z⟩
    | cons j rest =>
      have hr : rest = [] := by
        rw [q] at one
        cases rest with
        | nil => rfl
        | cons a b => simp at one
      subst hr
      obtain ⟨i, xs0, hi⟩ := hx j q
      obtain ⟨p, hp⟩ := hm i xs0 hi
      obtain ⟨xs, ws, g1, g2, g3⟩ := o2 i p hp
      have ho : outs = [xs] := outs_one o1 hi (fun j' zs h => hu j' i zs xs0 h hi) (by rw [Nat.zero_add]; exact g1)
      subst ho
      rw [q] at pb
      obtain ⟨j2, q2, own2, σ2, _⟩ := hl i p hp
      rw [q] at q2
      cases q2
      have pb : (match st.getD j none with
        | some (.own _) => putBack (st.set j (some (.own xs))) [] []
        | some (.lent _) => putBack (st.set j (some (.lent xs))) [] []
        | _ => none) = some st' := pb
      have hj : j < st.length := by
        obtain ⟨ys, h | h⟩ := own2
        · exact getD_lt h
        · exact getD_lt h
      cases g : st.getD j none with
      | none => rw [g] at pb; cases pb
      | some s =>
        rw [g] at pb
        cases s with
        | d y => cases pb
        | own ys =>
          cases pb
          refine ⟨fun k hk => by rw [getD_set hj, if_neg fun z => hk (by simp [z])], List.length_set, fun k hk => ?_⟩
          cases hk
          exact ⟨i, p, xs, ws, hp, σ2, g2, g3, .inl ⟨ys, g, by rw [getD_set hj, if_pos rfl]⟩⟩
        | lent ys =>
          cases pb
          refine ⟨fun k hk => by rw [getD_set hj, if_neg fun z => hk (by simp [z])], List.length_set, fun k hk => ?_⟩
          cases hk
          exact ⟨i, p, xs, ws, hp, σ2, g2, g3, .inr ⟨ys, g, by rw [getD_set hj, if_pos rfl]⟩⟩
  obtain ⟨d1, d2, d3⟩ := desc
  have isj : ∀ {j}, j ∈ lentIx as → lentIx as = [j] := fun {j} h => by
    cases q : lentIx as with
    | nil => rw [q] at h; simp at h
    | cons a b =>
      rw [q] at one h
      cases b with
      | nil => simp at h; rw [h]
      | cons c d => simp at one
  have own : ∀ j, IsOwn st' j → IsOwn st j := fun j h => by
    by_cases c : j ∈ lentIx as
    · obtain ⟨i, p, xs, ws, _, _, _, _, h1 | h1⟩ := d3 j (isj c)
      · obtain ⟨ys, h1, _⟩ := h1; exact ⟨ys, .inl h1⟩
      · obtain ⟨ys, h1, _⟩ := h1; exact ⟨ys, .inr h1⟩
    · obtain ⟨xs, h⟩ := h
      rw [d1 j c] at h
      exact ⟨xs, h⟩
  have notLent : ∀ {j p}, j ∉ lentIx as → IsOwn st j → σ[j]? = some (some (.ref p)) → ∀ i, lentP vs2 as2 i ≠ some p := fun {j p} hj oj ej i z => by
    obtain ⟨j2, q2, own2, σ2, _⟩ := hl i p z
    have := S.inj j j2 p oj own2 ej σ2
    subst this
    exact hj (by rw [q2]; simp)
  have S' : Sim K H0 M st' σ F' H' := by
    refine ⟨S.len.trans d2.symm, fun j x h => ?_, fun j x h => ?_, fun j x h => ?_, fun j p m => ?_, S.lent0, fun j k p a b => S.inj j k p (own j a) (own k b), f3, fun b u h n => ?_⟩
    · by_cases c : j ∈ lentIx as
      · obtain ⟨i, p, xs, ws, _, _, _, _, h1 | h1⟩ := d3 j (isj c)
        · obtain ⟨ys, _, h1⟩ := h1; rw [h] at h1; cases h1
        · obtain ⟨ys, _, h1⟩ := h1; rw [h] at h1; cases h1
      · rw [d1 j c] at h
        obtain ⟨v, a, b⟩ := S.dat j x h
        exact ⟨v, a, rp b⟩
    · by_cases c : j ∈ lentIx as
      · obtain ⟨i, p, xs, ws, lp, σj, hp, rr, h1 | h1⟩ := d3 j (isj c)
        · obtain ⟨ys, g, h1⟩ := h1
          rw [h] at h1
          cases h1
          obtain ⟨p', _, e1, _, _, _, h0⟩ := S.own j ys g
          rw [σj] at e1
          cases e1
          exact ⟨p, ws, σj, hp, rr, f5 i p lp, h0⟩
        · obtain ⟨ys, _, h1⟩ := h1; rw [h] at h1; cases h1
      · rw [d1 j c] at h
        obtain ⟨p, ws, a, b, cc, dd, ee⟩ := S.own j x h
        exact ⟨p, ws, a, f4 _ _ b (notLent c ⟨x, .inl h⟩ a), rpA cc, nF ⟨_, b⟩ dd, ee⟩
    · by_cases c : j ∈ lentIx as
      · obtain ⟨i, p, xs, ws, lp, σj, hp, rr, h1 | h1⟩ := d3 j (isj c)
        · obtain ⟨ys, _, h1⟩ := h1; rw [h] at h1; cases h1
        · obtain ⟨ys, g, h1⟩ := h1
          rw [h] at h1
          cases h1
          obtain ⟨p', _, m, e1, _⟩ := S.lent j ys g
          rw [σj] at e1
          cases e1
          exact ⟨p, ws, m, σj, hp, rr, f5 i p lp⟩
      · rw [d1 j c] at h
        obtain ⟨p, ws, m, a, b, cc, dd⟩ := S.lent j x h
        exact ⟨p, ws, m, a, f4 _ _ b (notLent c ⟨x, .inr h⟩ a), rpA cc, nF ⟨_, b⟩ dd⟩
    · obtain ⟨ys, h⟩ := S.lentE j p m
      by_cases c : j ∈ lentIx as
      · obtain ⟨i, p', xs, ws, lp, σj, hp, rr, h1 | h1⟩ := d3 j (isj c)
        · obtain ⟨zs, g, _⟩ := h1; rw [h] at g; cases g
        · obtain ⟨zs, _, h1⟩ := h1; exact ⟨xs, h1⟩
      · exact ⟨ys, by rw [d1 j c]; exact h⟩
    · refine f4 _ _ (S.base b u h n) fun i z => ?_
      obtain ⟨j, _, ⟨ys, g | g⟩, σj, _⟩ := hl i b z
      · obtain ⟨p', _, e1, _, _, _, h0⟩ := S.own j ys g
        rw [σj] at e1
        cases e1
        rw [h] at h0
        cases h0
      · obtain ⟨p', _, m, e1, _⟩ := S.lent j ys g
        rw [σj] at e1
        cases e1
        exact n j m
  have E' : Ext st σ F H st' F' H' := by
    refine ⟨f1, fun a h => ?_, fun b u h n => f4 b u h fun i z => n (lentOwn i b z), fun b h => ?_, own⟩
    · rcases f2 a h with z | z
      · exact .inl z
      · exact .inr (.inl z)
    · cases q : H b with
      | none => exact absurd q h
      | some u =>
        by_cases c : ∃ i, lentP vs2 as2 i = some b
        · obtain ⟨i, c⟩ := c
          obtain ⟨so, _, o2⟩ := f6
          obtain ⟨_, ws, _, g, _⟩ := o2 i b c
          rw [g]
          exact fun z => by cases z
        · rw [f4 b u q fun i z => c ⟨i, z⟩]
          exact fun z => by cases z
  refine ⟨S', E.trans E', ?_⟩
  cases rt with
  | d x => exact f9
  | own xs =>
    obtain ⟨p, ws, e1, e2, e3, e4, e5⟩ := f9
    refine ⟨p, ws, e1, e2, e3, e4, fun z => ?_, Classical.byContradiction fun z => E.live p z e5⟩
    obtain ⟨⟨ys, h⟩, _⟩ := S.atOwn (z.imp own)
    rw [e5] at h
    cases h
end
end DL
end

section
set_option Elab.async false
set_option linter.all false
set_option maxRecDepth 100000
set_option maxHeartbeats 1000000
/-! DLsnd6: the calls' readings; walked things; what the operators and built-ins ask. -/
namespace DL
open PySem PySem.Spec PyProof.Rows L2
section
variable {K : PySem.W.Frag} {H0 : Hp} {M : Nat → Option Addr} {st st' st2 : DSt} {σ : L2.St} {F F' F2 : Addr → Prop} {H H' H2 H3 Hb Hc : Hp} {v w : V} {r : Rv} {x : PyData}
theorem RvWs.length : ∀ {rs : List Rv} {vs : List V}, RvWs K F H st σ Hb rs vs → rs.length = vs.length
  | _, _, .nil => rfl
  | _, _, .cons _ t => congrArg (· + 1) (RvWs.length t)
theorem RvWs.app : ∀ {rs ss : List Rv} {vs ws : List V}, RvWs K F H st σ Hb rs vs → RvWs K F H st σ Hb ss ws → RvWs K F H st σ Hb (rs ++ ss) (vs ++ ws)
  | _, _, _, _, .nil, h => h
  | _, _, _, _, .cons a t, h => .cons a (RvWs.app t h)
theorem paired_app {α β : Type} {R : α → β → Prop} : ∀ {a b : List α} {c d : List β}, Paired R a c → Paired R b d → Paired R (a ++ b) (c ++ d)
  | _, _, _, _, .nil, h => h
  | _, _, _, _, .cons x y, h => .cons x (paired_app y h)
theorem arD : ∀ {vs : List V} {xs : List PyData}, RpAll K F H vs xs → Paired (ArOk K F H) vs (xs.map Ar.d)
  | _, _, .nil => .nil
  | _, _, .cons a b => .cons a (arD b)
theorem lentP_app {vs dvs : List V} {as : List Ar} {more : List PyData} (hl : vs.length = as.length) {i : Nat} {p : Addr} (h : lentP (vs ++ dvs) (as ++ more.map Ar.d) i = some p) : lentP vs as i = some p := by
  by_cases hi : i < as.length
  · unfold lentP at h ⊢
    rw [List.getElem?_append_left hi, List.getElem?_append_left (by omega)] at h
    exact h
  · unfold lentP at h
    rw [List.getElem?_append_right (by omega), List.getElem?_map] at h
    cases q : more[i - as.length]? with
    | none => rw [q] at h; cases h
    | some y => rw [q] at h; cases h
theorem mAt_app {as : List Ar} {more : List PyData} {i : Nat} {xs : List PyData} (h : (as ++ more.map Ar.d)[i]? = some (Ar.m xs)) : as[i]? = some (Ar.m xs) := by
  by_cases hi : i < as.length
  · rw [List.getElem?_append_left hi] at h
    exact h
  · rw [List.getElem?_append_right (by omega), List.getElem?_map] at h
    cases q : more[i - as.length]? with
    | none => rw [q] at h; cases h
    | some y => rw [q] at h; cases h
theorem constD {dvs : List V} {more : List PyData} (hd : ∀ (F : Addr → Prop) (H : Hp), RpAll K F H dvs more) : more.length = dvs.length := ((hd (fun _ => False) (fun _ => none)).length).symm
/-- f(e, ..) -/
theorem snd_call {g : Fn} {n : Nat} {modes : List Bool} {dvs : List V} {more : List PyData} {E : XK} {t : TA} {f : DA} (hd : ∀ (F : Addr → Prop) (H : Hp), RpAll K F H dvs more) (hn : modes.length + more.length = n) (a : SndA K t f) : SndE K (tCall (spD K n g) dvs E t) (dCall g modes more f) := by
  intro H0 M st σ F H r st' Q S e q
  obtain ⟨⟨rs, s1⟩, e1, e⟩ := bs e
  obtain ⟨⟨as, s2⟩, e2, e⟩ := bs e
  refine a H0 M st σ F H rs s1 _ S e1 fun vs F1 H1 S1 E1 f1 r1 => ?_
  by_cases c : (lentIx as).length ≤ 1 ∧ rs.length = modes.length
  · rw [if_pos c] at e
    obtain ⟨one, hlen⟩ := c
    obtain ⟨bs', e3, e⟩ := bs e
    obtain ⟨⟨rt, outs⟩, e4, e⟩ := bs e
    obtain ⟨s3, e5, e⟩ := bs e
    cases e
    obtain ⟨F2, S2, E2, pa, sub2⟩ := marsh_ok hlen S1 E1 r1 e2
    obtain ⟨pb1, pb2⟩ := lents_ok S2 pa e3
    have lb : vs.length = bs'.length := Paired.length pb1
    have lv : vs.length = modes.length := by rw [← r1.length, hlen]
    have pat : ∀ i p, lentP (vs ++ dvs) (bs' ++ more.map Ar.d) i = some p → ∃ j, lentIx as = [j] ∧ IsOwn s2 j ∧ σ[j]? = some (some (.ref p)) ∧ ∃ xs, (bs' ++ more.map Ar.d)[i]? = some (Ar.m xs) := fun i p h => by
      have h' := lentP_app lb h
      obtain ⟨j, h1, h2, h3⟩ := pb2 i p h'
      refine ⟨j, ?_, h2, h3, ?_⟩
      · have := lentIx_mem h1
        cases q : lentIx as with
        | nil => rw [q] at this; simp at this
        | cons a b =>
          rw [q] at one this
          cases b with
          | nil => simp at this; rw [this]
          | cons c d => simp at one
      · unfold lentP at h
        cases z : (bs' ++ more.map Ar.d)[i]? with
        | none => rw [z] at h; cases h
        | some y =>
          rw [z] at h
          cases y with
          | d y => cases h
          | m y => exact ⟨y, rfl⟩
    have mat : ∀ (i : Nat) (xs : List PyData), (bs' ++ more.map Ar.d)[i]? = some (Ar.m xs) → ∃ p, lentP (vs ++ dvs) (bs' ++ more.map Ar.d) i = some p := fun i xs h => by
      have h' := mAt_app h
      obtain ⟨v, hv, p, ws, rfl, _⟩ := Paired.at pb1 h'
      refine ⟨p, ?_⟩
      unfold lentP
      obtain ⟨hi, _⟩ := List.getElem?_eq_some_iff.mp hv
      rw [h, List.getElem?_append_left hi, hv]
    have uniq : ∀ (i j : Nat) (xs ys : List PyData), (bs' ++ more.map Ar.d)[i]? = some (Ar.m xs) → (bs' ++ more.map Ar.d)[j]? = some (Ar.m ys) → i = j := fun i j xs ys h h' => by
      obtain ⟨k, hk⟩ := lents_len e3 (mAt_app h)
      obtain ⟨l, hl⟩ := lents_len e3 (mAt_app h')
      exact lentIx_one one hk hl
    have ex : ∀ j, lentIx as = [j] → ∃ (i : Nat) (xs : List PyData), (bs' ++ more.map Ar.d)[i]? = some (Ar.m xs) := fun j hj => by
      have find : ∀ (as : List (Sum PyData Nat)) (bs' : List Ar) (j : Nat), j ∈ lentIx as → lents s2 as = some bs' → ∃ (i : Nat) (xs : List PyData), bs'[i]? = some (Ar.m xs) := by
        intro as
        induction as with
        | nil => intro bs' j h _; simp [lentIx] at h
        | cons a as ih =>
          intro bs' j h e
          obtain ⟨x, e1, e⟩ := bs e
          obtain ⟨ys, e2, e⟩ := bs e
          cases e
          cases a with
          | inl y =>
            obtain ⟨i, xs, h1⟩ := ih ys j h e2
            exact ⟨i + 1, xs, by simpa using h1⟩
          | inr k =>
            have e1 : (match s2.getD k none with
              | some (.own xs) => some (Ar.m xs)
              | some (.lent xs) => some (.m xs)
              | _ => none) = some x := e1
            cases g : s2.getD k none with
            | none => rw [g] at e1; cases e1
            | some s =>
              rw [g] at e1
              cases s with
              | d y => cases e1
              | own ys => cases e1; exact ⟨0, ys, rfl⟩
              | lent ys => cases e1; exact ⟨0, ys, rfl⟩
      obtain ⟨i, xs, h⟩ := find as bs' j (by rw [hj]; simp) e3
      obtain ⟨hi, _⟩ := List.getElem?_eq_some_iff.mp h
      exact ⟨i, xs, by rw [List.getElem?_append_left hi]; exact h⟩
    refine ⟨F2, bs' ++ more.map Ar.d, rt, outs, ?_, paired_app pb1 (arD (hd F2 H1)), S2.frz, fun i j p h h' => ?_, e4, fun v F' H' g1 g2 g3 g4 g5 g6 g7 g8 g9 => ?_⟩
    · rw [List.length_append, lv, ← constD hd]
      exact hn
    · obtain ⟨_, _, _, _, xs, h1⟩ := pat i p h
      obtain ⟨_, _, _, _, ys, h2⟩ := pat j p h'
      exact uniq i j xs ys h1 h2
    · obtain ⟨S3, E3, R3⟩ := after_call (perm := []) (dvs := []) (more := []) S2 E2 pa e3 one e5 pat mat uniq ex g1 g2 g3 g4 g5 g6 g7 g8 g9
      exact q v F' H' S3 E3 trivial R3
  · rw [if_neg c] at e
    cases e

/-! ### calls with names -/
theorem RpAll.permute {vs : List V} {xs : List PyData} (h : RpAll K F H vs xs) : ∀ perm : List Nat, RpAll K F H (DL.permute perm vs) (DL.permute perm xs)
  | [] => .nil
  | k :: perm => by
    rw [permute_cons, permute_cons]
    cases q : xs[k]? with
    | none =>
      have : vs[k]? = none := by
        rw [List.getElem?_eq_none_iff] at q ⊢
        rw [h.length]
        exact q
      rw [this]
      exact h.permute perm
    | some x =>
      obtain ⟨v, e, r⟩ := h.get q
      rw [e]
      exact .cons r (h.permute perm)
end
section
variable {K : PySem.W.Frag} {H0 : Hp} {M : Nat → Option Addr} {st st' st2 : DSt} {σ : L2.St} {F F' F2 : Addr → Prop} {H H' H2 H3 Hb Hc : Hp} {v w : V} {r : Rv} {x : PyData}
theorem lentP_d {vs : List V} {xs : List PyData} {i : Nat} : lentP vs (xs.map Ar.d) i = none := by
  unfold lentP
  rw [List.getElem?_map]
  cases q : xs[i]? with
  | none => rfl
  | some y => rfl
theorem snd_callP {g : Fn} {n m l : Nat} {perm : List Nat} {dvs : List V} {more : List PyData} {E : XK} {t tk : TA} {f f2 : DA} (hd : ∀ (F : Addr → Prop) (H : Hp), RpAll K F H dvs more) (hl : (permute perm (List.replicate (n + m + more.length) ())).length = l) (a : SndA K t f) (b : SndA K tk f2) :
    SndE K (tCallP n m perm dvs (spD K l g) E t tk) (dCallK g n m perm more f f2) := by
  intro H0 M st σ F H r st' Q S e q
  obtain ⟨⟨rs, s1⟩, e1, e⟩ := bs e
  obtain ⟨⟨rs2, s2⟩, e2, e⟩ := bs e
  obtain ⟨⟨xs, s3⟩, e3, e⟩ := bs e
  refine a H0 M st σ F H rs s1 _ S e1 fun vs F1 H1 S1 E1 f1 r1 => ?_
  refine b H0 M s1 σ F1 H1 rs2 s2 _ S1 e2 fun zs F2 H2 S2 E2 f2 r2 => ?_
  by_cases c : rs.length = n ∧ rs2.length = m
  · rw [if_pos c] at e
    obtain ⟨⟨rt, outs⟩, e4, e⟩ := bs e
    cases e
    obtain ⟨F3, S3, E3, rr, _⟩ := toDs_ok S2 (E1.trans E2) ((r1.ext S1 E2 trivial).app (r2.birth E1.live)) e3
    have l1 : vs.length = n := by rw [← r1.length]; exact c.1
    have l2 : zs.length = m := by rw [← r2.length]; exact c.2
    have pr : RpAll K F3 H2 (permute perm (vs ++ zs ++ dvs)) (permute perm (xs ++ more)) := (rr.append (hd F3 H2)).permute perm
    refine ⟨l1, l2, F3, (permute perm (xs ++ more)).map Ar.d, rt, outs, ?_, arD pr, S3.frz, fun i j p h _ => ?_, e4, fun v F' H' g1 g2 g3 g4 g5 g6 g7 g8 g9 => ?_⟩
    · have : ∀ {α β : Type} (perm : List Nat) (a : List α) (b : List β), a.length = b.length → (permute perm a).length = (permute perm b).length := by
        intro α β perm a b h
        induction perm with
        | nil => rfl
        | cons k perm ih =>
          rw [permute_cons, permute_cons]
          by_cases hk : k < a.length
          · rw [List.getElem?_eq_getElem hk, List.getElem?_eq_getElem (by omega)]
            exact congrArg (· + 1) ih
          · rw [List.getElem?_eq_none (by omega), List.getElem?_eq_none (by omega)]
            exact ih
      rw [this perm (vs ++ zs ++ dvs) (List.replicate (n + m + more.length) ()) (by rw [List.length_append, List.length_append, List.length_replicate, l1, l2, constD hd])]
      exact hl
    · rw [lentP_d] at h
      cases h
    · obtain ⟨so, o1, o2⟩ := g6
      have ho : outs = [] := by
        have non : ∀ (ys : List PyData) (k : Nat) (o : List (List PyData)), outsGo so (ys.map Ar.d) k = some o → o = [] := by
          intro ys
          induction ys with
          | nil => intro k o e; cases e; rfl
          | cons a ys ih => intro k o e; exact ih (k + 1) o e
        exact non _ _ _ o1
      subst ho
      obtain ⟨S4, E4, R4⟩ := after_call (perm := []) (dvs := []) (more := []) (vs := []) (as := []) (bs' := []) (outs := []) (st' := s3) S3 E3 .nil rfl (Nat.zero_le _) rfl
        (fun i p h => by rw [lentP_d] at h; cases h) (fun i ys h => by rw [List.getElem?_map] at h; cases z : (permute perm (xs ++ more))[i]? <;> rw [z] at h <;> cases h) (fun i j ys zs h => by rw [List.getElem?_map] at h; cases z : (permute perm (xs ++ more))[i]? <;> rw [z] at h <;> cases h)
        (fun j h => by cases h) g1 g2 g3 g4 g5 ⟨so, o1, o2⟩ g7 g8 g9
      exact q v F' H' S4 E4 trivial R4
  · rw [if_neg c] at e
    cases e
end

/-! ### walked things -/
section
variable {K : PySem.W.Frag} {F1 : Addr → Prop} {H1 : Hp} {a b : Addr} {vs ws : List V} {xs ys : List PyData}
theorem wd_list (h : FL K F1 H1 a vs) (r : RpAll K F1 H1 vs xs) : WalkD K (Itl K a) xs F1 H1 where
  goes := fun i H hi g => by
    obtain ⟨d, e⟩ : ∃ d, xs[i]? = some d := ⟨xs[i], List.getElem?_eq_getElem hi⟩
    obtain ⟨v, e1, _⟩ := r.get e
    exact ⟨vs, v, g.1 _ _ h, e1⟩
  stops := fun H g => ⟨vs, g.1 _ _ h, by rw [r.length]; exact Nat.le_refl _⟩
  yields := fun i H x H' F hi g mono y => by
    obtain ⟨e, y⟩ := y
    subst e
    have := y vs (g.1 _ _ h)
    obtain ⟨d, e1, r1⟩ := r.got this
    exact ⟨fun _ _ z => z, d, e1, mono _ _ r1⟩
theorem wd_tup (h : SqT K H1 a vs) (r : RpAll K F1 H1 vs xs) : WalkD K (Itt K a) xs F1 H1 where
  goes := fun i H hi g => by
    obtain ⟨d, e⟩ : ∃ d, xs[i]? = some d := ⟨xs[i], List.getElem?_eq_getElem hi⟩
    obtain ⟨v, e1, _⟩ := r.get e
    exact ⟨vs, v, g.2 _ _ h, e1⟩
  stops := fun H g => ⟨vs, g.2 _ _ h, by rw [r.length]; exact Nat.le_refl _⟩
  yields := fun i H x H' F hi g mono y => by
    obtain ⟨e, y⟩ := y
    subst e
    have := y vs (g.2 _ _ h)
    obtain ⟨d, e1, r1⟩ := r.got this
    exact ⟨fun _ _ z => z, d, e1, mono _ _ r1⟩
theorem wd_range {lo : Int} {n : Nat} : WalkD K (Itr lo n) ((List.range n).map fun i => PyData.int (lo + (i : Nat))) F1 H1 where
  goes := fun i H hi g => by
    rw [List.length_map, List.length_range] at hi
    exact hi
  stops := fun H g => by
    rw [List.length_map, List.length_range]
    exact Nat.le_refl _
  yields := fun i H x H' F hi g mono y => by
    rw [List.length_map, List.length_range] at hi
    obtain ⟨e, y⟩ := y
    subst e
    subst y
    exact ⟨fun _ _ z => z, _, by rw [List.getElem?_map, List.getElem?_range hi]; rfl, .int _⟩
theorem wd_zip (h : FL K F1 H1 a vs) (r : RpAll K F1 H1 vs xs) (h2 : FL K F1 H1 b ws) (r2 : RpAll K F1 H1 ws ys) : WalkD K (Itz K a b) ((xs.zip ys).map fun p => PyData.tuple [p.1, p.2]) F1 H1 where
  goes := fun i H hi g => by
    rw [List.length_map, List.length_zip] at hi
    obtain ⟨v, e1, _⟩ := r.get (List.getElem?_eq_getElem (show i < xs.length by omega))
    obtain ⟨w, e2, _⟩ := r2.get (List.getElem?_eq_getElem (show i < ys.length by omega))
    exact ⟨vs, ws, v, w, g.1 _ _ h, g.1 _ _ h2, e1, e2⟩
  stops := fun H g => by
    rw [List.length_map, List.length_zip]
    refine ⟨vs, ws, g.1 _ _ h, g.1 _ _ h2, ?_⟩
    rw [r.length, r2.length]
    omega
  yields := fun i H x H' F hi g mono y => by
    rw [List.length_map, List.length_zip] at hi
    obtain ⟨T, v, w, h3, h4, h5, h6, h7⟩ := y
    subst h3 h5
    obtain ⟨d, e1, q1⟩ := r.got (h6 _ (g.1 _ _ h))
    obtain ⟨d2, e2, q2⟩ := r2.got (h7 _ (g.1 _ _ h2))
    refine ⟨same_upd h4, .tuple [d, d2], ?_, .tup (SqT.of upd_same) (.cons ((mono _ _ q1).grow (same_upd h4)) (.cons ((mono _ _ q2).grow (same_upd h4)) .nil))⟩
    rw [List.getElem?_map, show (xs.zip ys)[i]? = some (d, d2) from List.getElem?_zip_eq_some.mpr ⟨e1, e2⟩]
    rfl
theorem wd_zipT (h : SqT K H1 a vs) (r : RpAll K F1 H1 vs xs) (h2 : SqT K H1 b ws) (r2 : RpAll K F1 H1 ws ys) : WalkD K (RZ.ItzT K a b) ((xs.zip ys).map fun p => PyData.tuple [p.1, p.2]) F1 H1 where
  goes := fun i H hi g => by
    rw [List.length_map, List.length_zip] at hi
    obtain ⟨v, e1, _⟩ := r.get (List.getElem?_eq_getElem (show i < xs.length by omega))
    obtain ⟨w, e2, _⟩ := r2.get (List.getElem?_eq_getElem (show i < ys.length by omega))
    exact ⟨vs, ws, v, w, g.2 _ _ h, g.2 _ _ h2, e1, e2⟩
  stops := fun H g => by
    rw [List.length_map, List.length_zip]
    refine ⟨vs, ws, g.2 _ _ h, g.2 _ _ h2, ?_⟩
    rw [r.length, r2.length]
    omega
  yields := fun i H x H' F hi g mono y => by
    rw [List.length_map, List.length_zip] at hi
    obtain ⟨T, v, w, h3, h4, h5, h6, h7⟩ := y
    subst h3 h5
    obtain ⟨d, e1, q1⟩ := r.got (h6 _ (g.2 _ _ h))
    obtain ⟨d2, e2, q2⟩ := r2.got (h7 _ (g.2 _ _ h2))
    refine ⟨same_upd h4, .tuple [d, d2], ?_, .tup (SqT.of upd_same) (.cons ((mono _ _ q1).grow (same_upd h4)) (.cons ((mono _ _ q2).grow (same_upd h4)) .nil))⟩
    rw [List.getElem?_map, show (xs.zip ys)[i]? = some (d, d2) from List.getElem?_zip_eq_some.mpr ⟨e1, e2⟩]
    rfl
theorem wd_enum (h : FL K F1 H1 a vs) (r : RpAll K F1 H1 vs xs) : WalkD K (Ite K a) (xs.zipIdx.map fun p => PyData.tuple [.int (p.2 : Nat), p.1]) F1 H1 where
  goes := fun i H hi g => by
    rw [List.length_map, List.length_zipIdx] at hi
    obtain ⟨v, e1, _⟩ := r.get (List.getElem?_eq_getElem hi)
    exact ⟨vs, v, g.1 _ _ h, e1⟩
  stops := fun H g => by
    rw [List.length_map, List.length_zipIdx]
    exact ⟨vs, g.1 _ _ h, by rw [r.length]; exact Nat.le_refl _⟩
  yields := fun i H x H' F hi g mono y => by
    rw [List.length_map, List.length_zipIdx] at hi
    obtain ⟨T, v, h3, h4, h5, h6⟩ := y
    subst h3 h5
    obtain ⟨d, e1, q1⟩ := r.got (h6 _ (g.1 _ _ h))
    refine ⟨same_upd h4, .tuple [.int (i : Nat), d], ?_, .tup (SqT.of upd_same) (.cons (.int _) (.cons ((mono _ _ q1).grow (same_upd h4)) .nil))⟩
    rw [List.getElem?_map, List.getElem?_zipIdx, e1]
    simp
end
section
variable {K : PySem.W.Frag}
theorem snd_ilist {t : TE} {f : DE} (a : SndE K t f) : SndI K (L2.iList K t) (dIter DL.iList f) := by
  intro H0 M st σ F H ds st' R S e q
  obtain ⟨p, e1, e⟩ := bs e
  obtain ⟨⟨y, s2⟩, e2, e⟩ := bs e
  obtain ⟨zs, e3, e⟩ := bs e
  cases e
  refine a H0 M st σ F H p.1 p.2 _ S e1 fun v F1 H1 S1 E1 f1 r1 => ?_
  obtain ⟨F2, S2, E2, r2, _⟩ := toD_ok S1 E1 r1.weak e2
  cases y <;> try (cases e3; done)
  cases e3
  cases r2 with
  | lst h hs => exact ⟨_, rfl, ⟨_, h.sql⟩, q _ F2 H1 S2 E2 (wd_list h hs)⟩
theorem snd_itup {t : TE} {f : DE} (a : SndE K t f) : SndI K (L2.iTup K t) (dIter DL.iTup f) := by
  intro H0 M st σ F H ds st' R S e q
  obtain ⟨p, e1, e⟩ := bs e
  obtain ⟨⟨y, s2⟩, e2, e⟩ := bs e
  obtain ⟨zs, e3, e⟩ := bs e
  cases e
  refine a H0 M st σ F H p.1 p.2 _ S e1 fun v F1 H1 S1 E1 f1 r1 => ?_
  obtain ⟨F2, S2, E2, r2, _⟩ := toD_ok S1 E1 r1.weak e2
  cases y <;> try (cases e3; done)
  cases e3
  cases r2 with
  | tup h hs => exact ⟨_, rfl, ⟨_, h⟩, q _ F2 H1 S2 E2 (wd_tup h hs)⟩
theorem snd_irange1 {t : TA} {f : DA} (a : SndA K t f) : SndI K (iRng1 t) (dIterA iRange1 f) := by
  intro H0 M st σ F H ds st' R S e q
  obtain ⟨p, e1, e⟩ := bs e
  obtain ⟨⟨ys, s2⟩, e2, e⟩ := bs e
  obtain ⟨zs, e3, e⟩ := bs e
  cases e
  refine a H0 M st σ F H p.1 p.2 _ S e1 fun vs F1 H1 S1 E1 f1 r1 => ?_
  obtain ⟨F2, S2, E2, rr, _⟩ := toDs_ok S1 E1 r1 e2
  match ys, vs, rr, e3 with
  | [.int n], [_], .cons (.int _) .nil, e3 =>
    have e3 : (if -(2 ^ 62) ≤ n ∧ n < 2 ^ 62 then some ((List.range n.toNat).map fun i => PyData.int (0 + (i : Nat))) else none) = some ds := e3
    by_cases c : -(2 ^ 62) ≤ n ∧ n < 2 ^ 62
    · rw [if_pos c] at e3
      cases e3
      exact ⟨n, rfl, c.1, c.2, q _ F2 H1 S2 E2 wd_range⟩
    · rw [if_neg c] at e3
      cases e3
theorem snd_irange2 {t : TA} {f : DA} (a : SndA K t f) : SndI K (iRng2 t) (dIterA iRange2 f) := by
  intro H0 M st σ F H ds st' R S e q
  obtain ⟨p, e1, e⟩ := bs e
  obtain ⟨⟨ys, s2⟩, e2, e⟩ := bs e
  obtain ⟨zs, e3, e⟩ := bs e
  cases e
  refine a H0 M st σ F H p.1 p.2 _ S e1 fun vs F1 H1 S1 E1 f1 r1 => ?_
  obtain ⟨F2, S2, E2, rr, _⟩ := toDs_ok S1 E1 r1 e2
  match ys, vs, rr, e3 with
  | [.int m, .int n], [_, _], .cons (.int _) (.cons (.int _) .nil), e3 =>
    have e3 : (if -(2 ^ 62) ≤ m ∧ m < 2 ^ 62 ∧ -(2 ^ 62) ≤ n ∧ n < 2 ^ 62 then some ((List.range (n - m).toNat).map fun i => PyData.int (m + (i : Nat))) else none) = some ds := e3
    by_cases c : -(2 ^ 62) ≤ m ∧ m < 2 ^ 62 ∧ -(2 ^ 62) ≤ n ∧ n < 2 ^ 62
    · rw [if_pos c] at e3
      cases e3
      exact ⟨m, n, rfl, c, q _ F2 H1 S2 E2 wd_range⟩
    · rw [if_neg c] at e3
      cases e3
theorem snd_izip {t : TA} {f : DA} (a : SndA K t f) : SndI K (RZ.iZipA K t) (dIterA DL.iZip f) := by
  intro H0 M st σ F H ds st' R S e q
  obtain ⟨p, e1, e⟩ := bs e
  obtain ⟨⟨ys, s2⟩, e2, e⟩ := bs e
  obtain ⟨zs, e3, e⟩ := bs e
  cases e
  refine a H0 M st σ F H p.1 p.2 _ S e1 fun vs F1 H1 S1 E1 f1 r1 => ?_
  obtain ⟨F2, S2, E2, rr, _⟩ := toDs_ok S1 E1 r1 e2
  match ys, vs, rr, e3 with
  | [.list m, .list n], [_, _], .cons (.lst h1 r1) (.cons (.lst h2 r2) .nil), e3 =>
    cases e3
    exact ⟨_, _, _, _, rfl, .inl ⟨h1.sql, h2.sql, q _ F2 H1 S2 E2 (wd_zip h1 r1 h2 r2)⟩⟩
  | [.tuple m, .tuple n], [_, _], .cons (.tup h1 r1) (.cons (.tup h2 r2) .nil), e3 =>
    cases e3
    exact ⟨_, _, _, _, rfl, .inr ⟨h1, h2, q _ F2 H1 S2 E2 (wd_zipT h1 r1 h2 r2)⟩⟩
theorem snd_ienum {t : TA} {f : DA} (a : SndA K t f) : SndI K (L2.iEnum K t) (dIterA DL.iEnum f) := by
  intro H0 M st σ F H ds st' R S e q
  obtain ⟨p, e1, e⟩ := bs e
  obtain ⟨⟨ys, s2⟩, e2, e⟩ := bs e
  obtain ⟨zs, e3, e⟩ := bs e
  cases e
  refine a H0 M st σ F H p.1 p.2 _ S e1 fun vs F1 H1 S1 E1 f1 r1 => ?_
  obtain ⟨F2, S2, E2, rr, _⟩ := toDs_ok S1 E1 r1 e2
  match ys, vs, rr, e3 with
  | [.list m], [_], .cons (.lst h1 r1) .nil, e3 =>
    cases e3
    exact ⟨_, _, rfl, h1.sql, q _ F2 H1 S2 E2 (wd_enum h1 r1)⟩
end
end DL
end

section
set_option Elab.async false
set_option linter.all false
set_option maxRecDepth 100000
set_option maxHeartbeats 1000000
/-! DLprim: what operators and built-ins ask and make, over data. -/
namespace DL
open PySem PySem.Spec PyProof.Rows L2

/-! ### rules of one's own -/
section
variable {X : Cx}
/-- list + list, whatever stands behind them -/
def rCatS (K : PySem.W.Frag) : R2 := fun x y H Q => ∃ l b xs zs, x = .ref l ∧ y = .ref b ∧ SqL K H l xs ∧ SqL K H b zs ∧ xs.length + zs.length ≤ sizeLine ∧ ∀ p, H p = none → Q (.ref p) (upd H p (.lst (xs ++ zs)))
theorem op_catS : OpR X (binaryOp .Add) (rCatS X.K) := by
  intro pins s σ H x y v u Q I rx ry h
  obtain ⟨l, b, xs, zs, rfl, rfl, hl, hb, hz, q⟩ := h
  cases rx
  cases ry
  obtain ⟨its, r, ⟨⟨c1, d1, t1, s1⟩, n, g1, g2, _, g3⟩, _⟩ := I.list hl
  obtain ⟨its2, r2, ⟨⟨c2, d2, t2, s2⟩, m, k1, k2, _, k3⟩, _⟩ := I.list hb
  simp only at g2 g3 k2 k3
  subst g2 g3 k2 k3
  have z1 := r.length
  have z2 := r2.length
  refine concat_meets ⟨_, g1, rfl⟩ ⟨_, k1, rfl⟩ noFill_list_add seq_list_add PySem.F.slot_list_add PySem.F.entry_list_add (PySem.F.args_list_add_2 _ _) (list_addW l b its.toArray its2.toArray n m d1 d2 s1 s2 (by rw [List.size_toArray, List.size_toArray]; omega)) ⟨g1, k1, ?_⟩
  have ea : its.toArray ++ its2.toArray = (its ++ its2).toArray := by simp
  rw [ea]
  exact ⟨.ref s.heap.objs.size, _, I.lnew (t' := s.toks) (r.append r2) (by rw [List.length_append]; exact hz), rfl, q _ I.fresh⟩
/-- list * int -/
def rRepS (K : PySem.W.Frag) : R2 := fun x y H Q => ∃ l k xs, x = .ref l ∧ y = .int k ∧ SqL K H l xs ∧ -(2 ^ 63) ≤ k ∧ k < 2 ^ 63 ∧ xs.length * k.toNat ≤ sizeLine ∧ ∀ p, H p = none → Q (.ref p) (upd H p (.lst (List.replicate k.toNat xs).flatten))
theorem op_repS : OpR X (binaryOp .Mult) (rRepS X.K) := by
  intro pins s σ H x y v u Q I rx ry h
  obtain ⟨l, k, xs, rfl, rfl, hl, h1, h2, hz, q⟩ := h
  cases rx
  obtain ⟨t, rfl⟩ := ry
  obtain ⟨its, r, ⟨⟨c1, d1, t1, s1⟩, n, g1, g2, _, g3⟩, _⟩ := I.list hl
  simp only at g2 g3
  subst g2 g3
  have z1 := r.length
  have cap : its.toArray.size * k.toNat ≤ sizeLine := by rw [List.size_toArray, ← z1]; exact hz
  have c1 : ¬ (!Builtin.List.listFitsIndex k) = true := by
    rw [fitsIndex_both h1 h2]
    exact Bool.false_ne_true
  have c2 : ¬ its.toArray.size * k.toNat > (2 ^ 63 - 1) / 8 := by
    have big : (sizeLine : Nat) ≤ (2 ^ 63 - 1) / 8 := by decide
    omega
  have c3 : ¬ Builtin.List.listTooLong (its.toArray.size * k.toNat) = true := by
    rw [notLongL cap]
    exact Bool.false_ne_true
  have joined : List.foldl (fun x1 x2 => x1 ++ x2) #[] (List.replicate (if its.toArray.isEmpty = true then 0 else k.toNat) its.toArray) = (List.replicate k.toNat its).flatten.toArray := by
    have all : ∀ j : Nat, List.foldl (fun x1 x2 => x1 ++ x2) #[] (List.replicate j its.toArray) = (List.replicate j its).flatten.toArray := fun j => by
      have z := foldl_rep its j []
      rw [List.nil_append] at z
      exact z
    rw [all]
    cases its with
    | nil => simp
    | cons a b => rw [if_neg (by simp)]
  have len : (List.replicate k.toNat xs).flatten.length ≤ sizeLine := by
    rw [PyProof.Rows.lm_len_rep_flat, Nat.mul_comm]
    exact hz
  refine wpAny_binaryOp_repeat_ref (T := "list") (U := "int") (by decide) ⟨_, g1, rfl⟩ (fun s' => typeIs_int s' k t) noFill_list_mul PySem.F.fills_int_mul PySem.F.slot_int_rmul repeat_list PySem.F.slot_int_index.lookup ?_
  refine call_meets PySem.F.slot_int_rmul (typeIs_int s k t) PySem.F.entry_int_rmul (PySem.F.args_int_rmul_2 _ _) (lm_int_rmul_list_any k t l its.toArray n d1 s1) ⟨g1, rfl, ⟨_, g1, rfl⟩, ?_⟩
  refine call_meets PySem.F.slot_list_mul ⟨_, g1, rfl⟩ PySem.F.entry_list_mul (PySem.F.args_list_mul_2 _ _) (lm_list_mul_any l its.toArray n d1 s1 k t c1 c2 c3) ⟨g1, ?_⟩
  rw [joined]
  exact ⟨.ref s.heap.objs.size, _, I.lnew (t' := s.toks) (r.rep k.toNat) len, rfl, q _ I.fresh⟩
/-- is, with None or a bool at the right -/
def plainV : V → Bool
  | .non => true
  | .bl _ => true
  | .int _ => true
  | .str _ => true
  | .ref _ => true
  | _ => false
def eqConst : V → V → Bool
  | .non, .non => true
  | .bl a, .bl b => a == b
  | _, _ => false
def constV : V → Bool
  | .non => true
  | .bl _ => true
  | _ => false
def rIsC (neg : Bool) : R2 := fun x y H Q => plainV x = true ∧ constV y = true ∧ Q (.bl (if neg then !eqConst x y else eqConst x y)) H
theorem is_plain {x y : V} {v u : Value} (rx : RelV x v) (ry : RelV y u) (p : plainV x = true) (c : constV y = true) : plainIs v u = true ∧ (v == u) = eqConst x y := by
  cases y with
  | non =>
    cases (show u = Value.none from ry)
    cases x with
    | non => cases (show v = Value.none from rx); exact ⟨rfl, rfl⟩
    | bl a => cases (show v = Value.bool a from rx); exact ⟨rfl, rfl⟩
    | int i => obtain ⟨t, rfl⟩ := rx; exact ⟨rfl, rfl⟩
    | str i => obtain ⟨t, rfl⟩ := rx; exact ⟨rfl, rfl⟩
    | ref a => cases (show v = Value.ref a from rx); exact ⟨rfl, rfl⟩
    | _ => cases p
  | bl b =>
    cases (show u = Value.bool b from ry)
    cases x with
    | non => cases (show v = Value.none from rx); exact ⟨rfl, rfl⟩
    | bl a =>
      cases (show v = Value.bool a from rx)
      refine ⟨rfl, ?_⟩
      show (Value.bool a == Value.bool b) = (a == b)
      cases a <;> cases b <;> rfl
    | int i => obtain ⟨t, rfl⟩ := rx; exact ⟨rfl, rfl⟩
    | str i => obtain ⟨t, rfl⟩ := rx; exact ⟨rfl, rfl⟩
    | ref a => cases (show v = Value.ref a from rx); exact ⟨rfl, rfl⟩
    | _ => cases p
  | _ => cases c
theorem op_isC : OpR X (compareOp .Is) (rIsC false) := by
  intro pins s σ H x y v u Q I rx ry h
  obtain ⟨p, c, q⟩ := h
  obtain ⟨h1, h2⟩ := is_plain rx ry p c
  exact wpAny_is_plain h1 ⟨.bl (eqConst x y), H, I, by rw [h2]; rfl, q⟩
theorem op_isnotC : OpR X (compareOp .IsNot) (rIsC true) := by
  intro pins s σ H x y v u Q I rx ry h
  obtain ⟨p, c, q⟩ := h
  obtain ⟨h1, h2⟩ := is_plain rx ry p c
  exact wpAny_isNot_plain h1 ⟨.bl (!eqConst x y), H, I, by rw [h2]; rfl, q⟩
/-- repr of a list or a tuple -/
def rRepr (K : PySem.W.Frag) : List V → Hp → VK → Prop := fun xs H Q => ∃ (a : V) (d : PyData), xs = [a] ∧ Dp K H a d ∧ d.hasDict = false ∧ d.showable = true ∧ d.depth ≤ 40 ∧ d.shown.length ≤ sizeLine ∧ Q (.str d.shown) H
theorem call_repr (gd : X.A.guards = some []) (hu : X.A.units + 64 < cLine) : CallR X (.builtin "repr") (rRepr X.K) := by
  intro pins s σ H xs us Q I r h
  obtain ⟨a, d, rfl, hd, h1, h2, h3, h4, q⟩ := h
  cases r with
  | cons r rr =>
    cases rr
    obtain ⟨as, rd⟩ := Dp.reads I d _ _ hd r
    cases hd with
    | non =>
      cases (show _ = Value.none from r)
      exact P.repr_of_none ⟨.str (PyData.shown .none), H, I.tok _, ⟨_, rfl⟩, q⟩
    | bl b =>
      cases (show _ = Value.bool b from r)
      exact P.repr_of_bool ⟨.str (PyData.shown (.bool b)), H, I.tok _, ⟨_, rfl⟩, q⟩
    | int i =>
      obtain ⟨t, rfl⟩ := r
      exact P.repr_of_int (of_decide_eq_true (by simpa only [PyData.showable] using h2)) ⟨.str (PyData.shown (.int i)), H, I.tok _, ⟨_, rfl⟩, q⟩
    | str x =>
      obtain ⟨t, rfl⟩ := r
      exact P.repr_of_str ⟨.str (PyData.shown (.str x)), H, I.tok _, ⟨_, rfl⟩, q⟩ h4
    | lst _ _ =>
      cases (show _ = Value.ref _ from r)
      refine repr_of_reads' rd h2 (PyData.noDict_hsm h1) gd (by omega) (fun _ _ e => e) (fun h' u tk hk => ?_) h4
      exact ⟨.str (PyData.shown _), H, I.kept (t' := tk) hk, ⟨_, rfl⟩, q⟩
    | tup _ _ =>
      cases (show _ = Value.ref _ from r)
      refine repr_of_reads' rd h2 (PyData.noDict_hsm h1) gd (by omega) (fun _ _ e => e) (fun h' u tk hk => ?_) h4
      exact ⟨.str (PyData.shown _), H, I.kept (t' := tk) hk, ⟨_, rfl⟩, q⟩
end

/-! ### over data -/
section
variable {K : PySem.W.Frag} {F : Addr → Prop} {H : Hp} {v : V}
theorem new_tmp {p : Addr} {vs : List V} {xs : List PyData} (hp : H p = none) (r : RpAll K F H vs xs) : Same H (upd H p (.lst vs)) ∧ NewOk K F H (upd H p (.lst vs)) (.ref p) (.tmp xs) :=
  ⟨same_upd hp, p, vs, rfl, hp, upd_same, r.grow (same_upd hp)⟩
def rAddD (K : PySem.W.Frag) : R2 := fun x y H Q => (∃ i j, x = .int i ∧ y = .int j ∧ Q (.int (i + j)) H) ∨ (∃ i j, x = .str i ∧ y = .str j ∧ i.length + j.length ≤ sizeLine ∧ Q (.str (i ++ j)) H) ∨ rCatS K x y H Q
theorem op_addD {X : Cx} : OpR X (binaryOp .Add) (rAddD X.K) := op_add.or (op_add_str.or op_catS)
theorem prim_add : Prim2 K (rAddD K) opAdd := by
  intro F H v w x y z Q a b e q
  cases x <;> cases y <;> try (cases e; done)
  · cases e
    exact .inl ⟨_, _, a.int, b.int, q _ H Same.rfl' (.int _)⟩
  · rename_i i j
    have e : (if i.length + j.length ≤ sizeLine then some (Rv.d (.str (i ++ j))) else none) = some z := e
    by_cases c : i.length + j.length ≤ sizeLine
    · rw [if_pos c] at e
      cases e
      exact .inr (.inl ⟨_, _, a.str, b.str, c, q _ H Same.rfl' (.str _)⟩)
    · rw [if_neg c] at e
      cases e
  · rename_i i j
    have e : (if i.length + j.length ≤ sizeLine then some (Rv.tmp (i ++ j)) else none) = some z := e
    by_cases c : i.length + j.length ≤ sizeLine
    · rw [if_pos c] at e
      cases e
      obtain ⟨p, vs, rfl, h1, r1⟩ := a.list
      obtain ⟨p2, vs2, rfl, h2, r2⟩ := b.list
      refine .inr (.inr ⟨p, p2, vs, vs2, rfl, rfl, h1, h2, by rw [r1.length, r2.length]; exact c, fun p hp => ?_⟩)
      obtain ⟨s, n⟩ := new_tmp hp (r1.append r2)
      exact q _ _ s n
    · rw [if_neg c] at e
      cases e
def rMulD (K : PySem.W.Frag) : R2 := fun x y H Q => (∃ i j, x = .int i ∧ y = .int j ∧ CMulW i j ∧ Q (.int (i * j)) H) ∨ rRepS K x y H Q
theorem op_mulD {X : Cx} : OpR X (binaryOp .Mult) (rMulD X.K) := op_mulW.or op_repS
theorem prim_mul : Prim2 K (rMulD K) opMul := by
  intro F H v w x y z Q a b e q
  cases x <;> cases y <;> try (cases e; done)
  · rename_i i j
    have e : (if i.natAbs.log2 + j.natAbs.log2 < 1000000 then some (Rv.d (.int (i * j))) else none) = some z := e
    by_cases c : i.natAbs.log2 + j.natAbs.log2 < 1000000
    · rw [if_pos c] at e
      cases e
      exact .inl ⟨_, _, a.int, b.int, c, q _ H Same.rfl' (.int _)⟩
    · rw [if_neg c] at e
      cases e
  · rename_i xs k
    have e : (if -(2 ^ 63) ≤ k ∧ k < 2 ^ 63 ∧ xs.length * k.toNat ≤ sizeLine then some (Rv.tmp (List.replicate k.toNat xs).flatten) else none) = some z := e
    by_cases c : -(2 ^ 63) ≤ k ∧ k < 2 ^ 63 ∧ xs.length * k.toNat ≤ sizeLine
    · rw [if_pos c] at e
      cases e
      obtain ⟨p, vs, rfl, h1, r1⟩ := a.list
      refine .inr ⟨p, k, vs, rfl, b.int, h1, c.1, c.2.1, by rw [r1.length]; exact c.2.2, fun p hp => ?_⟩
      obtain ⟨s, n⟩ := new_tmp hp (r1.rep k.toNat)
      exact q _ _ s n
    · rw [if_neg c] at e
      cases e
theorem Pk.plain {x : D} (h : Pk K F H v x) (y : D) (b : Bool) (e : isV x y = some b) {w : V} (h2 : Pk K F H w y) : plainV v = true ∧ constV w = true ∧ eqConst v w = b := by
  have pl : plainV v = true := by
    rcases h with k | ⟨p, vs, xs, rfl, _⟩
    · cases k <;> rfl
    · rfl
  cases y with
  | none =>
    have := h2.non
    subst this
    refine ⟨pl, rfl, ?_⟩
    cases x with
    | none => have := h.non; subst this; cases e; rfl
    | bool c => have := h.bl; subst this; cases e; rfl
    | int c => have := h.int; subst this; cases e; rfl
    | str c => have := h.str; subst this; cases e; rfl
    | list c => obtain ⟨p, vs, rfl, _⟩ := h.list; cases e; rfl
    | tuple c => obtain ⟨p, vs, rfl, _⟩ := h.tup; cases e; rfl
    | dict c =>
      rcases h with k | ⟨_, _, _, _, k, _⟩
      · cases k
      · cases k
  | bool d =>
    have := h2.bl
    subst this
    refine ⟨pl, rfl, ?_⟩
    cases x with
    | none => have := h.non; subst this; cases e; rfl
    | bool c => have := h.bl; subst this; cases e; rfl
    | int c => have := h.int; subst this; cases e; rfl
    | str c => have := h.str; subst this; cases e; rfl
    | list c => obtain ⟨p, vs, rfl, _⟩ := h.list; cases e; rfl
    | tuple c => obtain ⟨p, vs, rfl, _⟩ := h.tup; cases e; rfl
    | dict c =>
      rcases h with k | ⟨_, _, _, _, k, _⟩
      · cases k
      · cases k
  | _ => cases x <;> cases e
theorem prim_is : Prim2 K (rIsC false) opIs := by
  intro F H v w x y z Q a b e q
  obtain ⟨c, e1, e2⟩ := bs e
  cases e2
  obtain ⟨h1, h2, h3⟩ := a.plain y c e1 b
  refine ⟨h1, h2, ?_⟩
  subst h3
  exact q _ H Same.rfl' (.bl _)
theorem prim_isnot : Prim2 K (rIsC true) opIsNot := by
  intro F H v w x y z Q a b e q
  obtain ⟨c, e1, e2⟩ := bs e
  cases e2
  obtain ⟨h1, h2, h3⟩ := a.plain y c e1 b
  refine ⟨h1, h2, ?_⟩
  subst h3
  exact q _ H Same.rfl' (.bl _)
theorem prim_ix : Prim2 K (rIx K) opIx := by
  intro F H v w x y z Q a b e q
  cases x <;> cases y <;> try (cases e; done)
  · rename_i s i
    have e : (if s.length ≤ sizeLine then (ixAt s.cps.toList i).bind fun n => (s.cps.toList[n]?).bind fun c => some (Rv.d (.str ⟨#[c]⟩)) else none) = some z := e
    by_cases c : s.length ≤ sizeLine
    · rw [if_pos c] at e
      obtain ⟨n, e1, e⟩ := bs e
      obtain ⟨ch, e2, e⟩ := bs e
      cases e
      refine .inr (.inr ⟨s, i, ch, a.str, b.int, c, ?_, q _ H Same.rfl' (.str _)⟩)
      show (ixN s.cps.toList.length i).bind (fun j => s.cps.toList[j]?) = some ch
      rw [← ixAt_eq, e1]
      exact e2
    · rw [if_neg c] at e
      cases e
  · rename_i xs i
    obtain ⟨n, e1, e⟩ := bs e
    obtain ⟨y, e2, e⟩ := bs e
    cases e
    obtain ⟨p, vs, rfl, h1, r1⟩ := a.list
    obtain ⟨vy, g1, g2⟩ := r1.get e2
    refine .inl ⟨p, vs, i, vy, rfl, b.int, h1, ?_, q _ H Same.rfl' g2⟩
    show (ixN vs.length i).bind (fun j => vs[j]?) = some vy
    rw [r1.length, ← ixAt_eq, e1]
    exact g1
  · rename_i xs i
    obtain ⟨n, e1, e⟩ := bs e
    obtain ⟨y, e2, e⟩ := bs e
    cases e
    obtain ⟨p, vs, rfl, h1, r1⟩ := a.tup
    obtain ⟨vy, g1, g2⟩ := r1.get e2
    refine .inr (.inl ⟨p, vs, i, vy, rfl, b.int, h1, ?_, q _ H Same.rfl' g2⟩)
    show (ixN vs.length i).bind (fun j => vs[j]?) = some vy
    rw [r1.length, ← ixAt_eq, e1]
    exact g1
theorem cut_eq (n d : Nat) (o : Option Int) : cutAt n d o = HT.sIx n d o := rfl
theorem prim_slice : PrimS K (rSlL K) opSlice := by
  intro F H v x lo hi z Q a e q
  cases x <;> try (cases e; done)
  rename_i ys
  cases e
  obtain ⟨p, vs, rfl, h1, r1⟩ := a.list
  refine ⟨p, vs, rfl, h1, fun p hp => ?_⟩
  have r2 : RpAll K F H (cutV vs lo hi) (cutD ys lo hi) := by
    unfold cutV cutD
    rw [r1.length]
    exact (r1.drop _).take _
  obtain ⟨s, n⟩ := new_tmp hp r2
  exact q _ _ s n
theorem snd_rev {t : TE} {f : DE} (a : SndE K t f) : SndE K (tRevL K t) (dOp1 opRev f) := by
  refine snd_op1 (r := fun x H1 Q => ∃ a xs, x = .ref a ∧ SqL K H1 a xs ∧ ∀ p, H1 p = none → Q (.ref p) (upd H1 p (.lst xs.reverse))) ?_ a
  intro F H v x z Q a e q
  cases x <;> try (cases e; done)
  cases e
  obtain ⟨p, vs, rfl, h1, r1⟩ := a.list
  refine ⟨p, vs, rfl, h1, fun p hp => ?_⟩
  obtain ⟨s, n⟩ := new_tmp hp r1.reverse
  exact q _ _ s n

/-! ### built-in calls -/
theorem PkAll.one {vs : List V} {x : D} (h : PkAll K F H vs [x]) : ∃ v, vs = [v] ∧ Pk K F H v x := by
  cases h with
  | cons a t => cases t; exact ⟨_, rfl, a⟩
def rLenD (K : PySem.W.Frag) : List V → Hp → VK → Prop := fun xs H Q => (∃ p ys, xs = [.ref p] ∧ (SqL K H p ys ∨ SqT K H p ys) ∧ Q (.int ys.length) H) ∨ ∃ z, xs = [.str z] ∧ z.length ≤ sizeLine ∧ Q (.int z.length) H
theorem call_lenD' {X : Cx} : CallR X (.builtin "len") (rLenD X.K) := call_len_seq.or call_len_str
theorem prim_len : PrimN K (rLenD K) bLen := by
  intro F H vs xs z Q a e q
  match xs, a, e with
  | [.list ys], a, e =>
    cases e
    obtain ⟨v, rfl, a'⟩ := a.one
    obtain ⟨p, vs, rfl, h1, r1⟩ := a'.list
    refine .inl ⟨p, vs, rfl, .inl h1, ?_⟩
    rw [r1.length]
    exact q _ H Same.rfl' (.int _)
  | [.tuple ys], a, e =>
    cases e
    obtain ⟨v, rfl, a'⟩ := a.one
    obtain ⟨p, vs, rfl, h1, r1⟩ := a'.tup
    refine .inl ⟨p, vs, rfl, .inr h1, ?_⟩
    rw [r1.length]
    exact q _ H Same.rfl' (.int _)
  | [.str s], a, e =>
    have e : (if s.length ≤ sizeLine then some (Rv.d (.int s.length)) else none) = some z := e
    obtain ⟨v, rfl, a'⟩ := a.one
    by_cases c : s.length ≤ sizeLine
    · rw [if_pos c] at e
      cases e
      have := a'.str
      subst this
      exact .inr ⟨s, rfl, c, q _ H Same.rfl' (.int _)⟩
    · rw [if_neg c] at e
      cases e
def rIntD : List V → Hp → VK → Prop := fun xs H Q => (∃ i, xs = [.int i] ∧ Q (.int i) H) ∨ ∃ k, xs = [.bl k] ∧ Q (.int (if k then 1 else 0)) H
theorem prim_int : PrimN K rIntD bInt := by
  intro F H vs xs z Q a e q
  match xs, a, e with
  | [.int i], a, e =>
    cases e
    obtain ⟨v, rfl, a'⟩ := a.one
    have := a'.int
    subst this
    exact .inl ⟨i, rfl, q _ H Same.rfl' (.int _)⟩
  | [.bool b], a, e =>
    cases e
    obtain ⟨v, rfl, a'⟩ := a.one
    have := a'.bl
    subst this
    exact .inr ⟨b, rfl, q _ H Same.rfl' (.int _)⟩
def rStrD : List V → Hp → VK → Prop := fun xs H Q => ∃ i : Int, xs = [.int i] ∧ i.natAbs.log2 < 1920 ∧ Q (.str (toString i)) H
theorem prim_str : PrimN K rStrD bStr := by
  intro F H vs xs z Q a e q
  match xs, a, e with
  | [.int i], a, e =>
    have e : (if i.natAbs.log2 < 1920 then some (Rv.d (.str (Str.ofString (toString i)))) else none) = some z := e
    obtain ⟨v, rfl, a'⟩ := a.one
    by_cases c : i.natAbs.log2 < 1920
    · rw [if_pos c] at e
      cases e
      have := a'.int
      subst this
      exact ⟨i, rfl, c, q _ H Same.rfl' (.str _)⟩
    · rw [if_neg c] at e
      cases e
theorem prim_repr : PrimN K (rRepr K) bRepr := by
  intro F H vs xs z Q a e q
  match xs, a, e with
  | [x], a, e =>
    have e : (if x.hasDict = false ∧ x.showable = true ∧ x.depth ≤ 40 ∧ x.shown.length ≤ sizeLine then some (Rv.d (.str x.shown)) else none) = some z := e
    obtain ⟨v, rfl, a'⟩ := a.one
    by_cases c : x.hasDict = false ∧ x.showable = true ∧ x.depth ≤ 40 ∧ x.shown.length ≤ sizeLine
    · rw [if_pos c] at e
      cases e
      exact ⟨v, x, rfl, a'.dp, c.1, c.2.1, c.2.2.1, c.2.2.2, q _ H Same.rfl' (.str _)⟩
    · rw [if_neg c] at e
      cases e
theorem bools_ok : ∀ {vs : List V} {xs : List PyData} {bs' : List Bool}, RpAll K F H vs xs → boolsOf xs = some bs' → vs = bs'.map V.bl
  | _, [], _, .nil, e => by cases e; rfl
  | _, .bool b :: xs, _, .cons a t, e => by
    obtain ⟨cs, e1, e2⟩ := bs e
    cases e2
    cases a
    rw [bools_ok t e1]
    rfl
theorem ints_ok : ∀ {vs : List V} {xs : List PyData} {is : List Int}, RpAll K F H vs xs → intsOf xs = some is → vs = is.map V.int
  | _, [], _, .nil, e => by cases e; rfl
  | _, .int b :: xs, _, .cons a t, e => by
    obtain ⟨cs, e1, e2⟩ := bs e
    cases e2
    cases a
    rw [ints_ok t e1]
    rfl
theorem prim_all : PrimN K (rAll K) bAll := by
  intro F H vs xs z Q a e q
  match xs, a, e with
  | [.list ys], a, e =>
    obtain ⟨cs, e1, e2⟩ := bs e
    cases e2
    obtain ⟨v, rfl, a'⟩ := a.one
    obtain ⟨p, ws, rfl, h1, r1⟩ := a'.list
    have := bools_ok r1 e1
    subst this
    exact ⟨p, cs, rfl, h1, q _ H Same.rfl' (.bl _)⟩
theorem prim_any : PrimN K (rAny K) bAny := by
  intro F H vs xs z Q a e q
  match xs, a, e with
  | [.list ys], a, e =>
    obtain ⟨cs, e1, e2⟩ := bs e
    cases e2
    obtain ⟨v, rfl, a'⟩ := a.one
    obtain ⟨p, ws, rfl, h1, r1⟩ := a'.list
    have := bools_ok r1 e1
    subst this
    exact ⟨p, cs, rfl, h1, q _ H Same.rfl' (.bl _)⟩
theorem prim_sum : PrimN K (rSum K) bSum := by
  intro F H vs xs z Q a e q
  match xs, a, e with
  | [.list ys], a, e =>
    obtain ⟨cs, e1, e2⟩ := bs e
    cases e2
    obtain ⟨v, rfl, a'⟩ := a.one
    obtain ⟨p, ws, rfl, h1, r1⟩ := a'.list
    have := ints_ok r1 e1
    subst this
    exact ⟨p, cs, rfl, h1, q _ H Same.rfl' (.int _)⟩
def rListD (K : PySem.W.Frag) : List V → Hp → VK → Prop := fun xs H Q => ∃ p ys, xs = [.ref p] ∧ (SqL K H p ys ∨ SqT K H p ys) ∧ ∀ l, H l = none → Q (.ref l) (upd H l (.lst ys))
theorem prim_list : PrimN K (rListD K) bList := by
  intro F H vs xs z Q a e q
  match xs, a, e with
  | [.list ys], a, e =>
    cases e
    obtain ⟨v, rfl, a'⟩ := a.one
    obtain ⟨p, ws, rfl, h1, r1⟩ := a'.list
    refine ⟨p, ws, rfl, .inl h1, fun p hp => ?_⟩
    obtain ⟨s, n⟩ := new_tmp hp r1
    exact q _ _ s n
  | [.tuple ys], a, e =>
    cases e
    obtain ⟨v, rfl, a'⟩ := a.one
    obtain ⟨p, ws, rfl, h1, r1⟩ := a'.tup
    refine ⟨p, ws, rfl, .inr h1, fun p hp => ?_⟩
    obtain ⟨s, n⟩ := new_tmp hp r1
    exact q _ _ s n
/-! isinstance -/
theorem Pk.ty {x : D} (h : Pk K F H v x) (nd : ∀ k, x ≠ .dict k) : TyX K H v (.type (tyName x)) := by
  have sq : ∀ {a xs}, SqL K H a xs → TyX K H (.ref a) (.type "list") := fun {a xs} s => by
    rcases s with (s | ⟨o, s⟩) | ⟨o, its, n, s, c, _⟩
    · exact .base (.lst s)
    · exact .base (.frz s)
    · exact .kList s c
  have st : ∀ {a xs}, SqT K H a xs → TyX K H (.ref a) (.type "tuple") := fun {a xs} s => by
    rcases s with (s | ⟨o, s⟩) | ⟨o, its, n, s, c, _⟩
    · exact .base (.tup s)
    · exact .fTuple s
    · exact .kTuple s c
  cases x with
  | none => have := h.non; subst this; exact .base .non
  | bool c => have := h.bl; subst this; exact .base (.bl c)
  | int c => have := h.int; subst this; exact .base (.int c)
  | str c => have := h.str; subst this; exact .base (.str c)
  | list c => obtain ⟨p, vs, rfl, h1, _⟩ := h.list; exact sq h1
  | tuple c => obtain ⟨p, vs, rfl, h1, _⟩ := h.tup; exact st h1
  | dict c => exact absurd rfl (nd c)
end
end DL
end

section
set_option Elab.async false
set_option linter.all false
set_option maxRecDepth 100000
set_option maxHeartbeats 1000000
/-! DLrul: rules: a piece of syntax, its reading, its plain function, at once. -/
namespace DL
open PySem PySem.Spec PyProof.Rows L2
/-! ### isinstance -/
def tyNames : List String := ["NoneType", "bool", "int", "str", "list", "tuple"]
def TyOkc (T : String) : Prop := ∀ n ∈ tyNames, kitB n T = some (n == T || (T == "int" && n == "bool"))
theorem tyName_mem (x : D) (nd : ∀ k, x ≠ .dict k) : tyName x ∈ tyNames := by
  cases x with
  | dict k => exact absurd rfl (nd k)
  | _ => simp [tyName, tyNames]
section
variable {K : PySem.W.Frag}
theorem kit_at {T : String} (hT : TyOkc T) (x : D) (nd : ∀ k, x ≠ .dict k) : PySem.W.kitOne K (.type (tyName x)) (.type T) = some (isTy x T) := kit_ty (hT _ (tyName_mem x nd))
theorem snd_isi {T : String} {t : TE} {f : DE} (hT : TyOkc T) (a : SndE K t f) : SndE K (tCB (rIsi K) (tCons t (tCons (tC (.ty T)) tNil))) (dOp1 (bIsi T) f) := by
  intro H0 M st σ F H z st' Q S e q
  obtain ⟨p, e1, e⟩ := bs e
  obtain ⟨x, e3, e⟩ := bs e
  obtain ⟨u, e5, e⟩ := bs e
  cases e
  refine a H0 M st σ F H p.1 p.2 _ S e1 fun v F1 H1 S1 E1 f1 r1 => ?_
  have pk := look_ok S1 r1.weak e3
  have nd : ∀ k, x ≠ .dict k := fun k hk => by
    subst hk
    cases e5
  have ez : z = .d (.bool (isTy x T)) := by
    cases x <;> first
      | exact (Option.some.inj e5).symm
      | (cases e5; done)
  subst ez
  exact ⟨v, .ty T, .type (tyName x), .type T, isTy x T, rfl, .ty T, pk.ty nd, kit_at hT x nd, q _ F1 H1 S1 E1 f1 (.bl _)⟩
theorem snd_isi2 {T U : String} {t : TE} {f : DE} (hT : TyOkc T) (hU : TyOkc U) (a : SndE K t f) : SndE K (tCB (rIsiT K) (tCons t (tCons (tTup (tCons (tC (.ty T)) (tCons (tC (.ty U)) tNil))) tNil))) (dOp1 (bIsi2 T U) f) := by
  intro H0 M st σ F H z st' Q S e q
  obtain ⟨p, e1, e⟩ := bs e
  obtain ⟨x, e3, e⟩ := bs e
  obtain ⟨u, e5, e⟩ := bs e
  cases e
  refine a H0 M st σ F H p.1 p.2 _ S e1 fun v F1 H1 S1 E1 f1 r1 => ?_
  have nd : ∀ k, x ≠ .dict k := fun k hk => by
    subst hk
    cases e5
  have ez : z = .d (.bool (isTy x T || isTy x U)) := by
    cases x <;> first
      | exact (Option.some.inj e5).symm
      | (cases e5; done)
  subst ez
  refine ⟨by show 2 ≤ sizeLine; decide, fun tp hp => ?_⟩
  have S2 := S1.grow (same_upd (o := .tup [.ty T, .ty U]) hp)
  have E2 := E1.trans (Ext.grow (st := p.2) (σ := σ) (F := F1) (same_upd (o := .tup [.ty T, .ty U]) hp))
  have pk : Pk K F1 (upd H1 tp (.tup [.ty T, .ty U])) v x := look_ok S2 (r1.weak.ext S1 (Ext.grow (same_upd hp)) trivial) e3
  refine ⟨v, tp, [.ty T, .ty U], .type (tyName x), [.type T, .type U], isTy x T || isTy x U, rfl, upd_same, .cons (.ty T) (.cons (.ty U) .nil), pk.ty nd, ?_, q _ F1 _ S2 E2 trivial (.bl _)⟩
  refine kitAny_cons (kit_at hT x nd) (fun h => ?_) (fun h => by rw [h]; rfl)
  refine kitAny_cons (kit_at hU x nd) (fun h2 => ?_) (fun h2 => by rw [h, h2]; rfl)
  rw [h, h2]
  exact kitAny_nil
end
theorem tyok_int : TyOkc "int" := by unfold TyOkc tyNames; decide +kernel
theorem tyok_bool : TyOkc "bool" := by unfold TyOkc tyNames; decide +kernel
theorem tyok_str : TyOkc "str" := by unfold TyOkc tyNames; decide +kernel
theorem tyok_list : TyOkc "list" := by unfold TyOkc tyNames; decide +kernel
theorem tyok_tuple : TyOkc "tuple" := by unfold TyOkc tyNames; decide +kernel

/-! ### operators in place -/
section
variable {K : PySem.W.Frag} {X : Cx}
theorem prim_addI : Prim2 K (ipI fun i j => i + j) opAddI := by
  intro F H v w x y z Q a b e q
  cases x <;> cases y <;> try (cases e; done)
  cases e
  exact ⟨_, _, a.int, b.int, q _ H Same.rfl' (.int _)⟩
theorem pget_list : PGet X (rIxL X.K) := by
  intro pins s σ H x y v u Q I rx ry h
  obtain ⟨p, xs, i, z, rfl, rfl, hq, he, q⟩ := h
  cases rx
  obtain ⟨t, rfl⟩ := ry
  obtain ⟨its, r, pl, hz⟩ := I.list hq
  obtain ⟨j, h1, h2, h3, h4, h5⟩ := atI_get he
  obtain ⟨w, ew, rw'⟩ := r.get h2
  have hl := r.length
  have hn := line63
  have fin : EP X pins σ Q w s := ⟨z, H, I, rw', q⟩
  by_cases h0 : 0 ≤ i
  · have hj : i.toNat = j := by
      rw [seqIndex_of h0 h5] at h1
      exact Option.some.inj h1
    exact wpAny_getItem_list pl.isList h0 (by omega) (by rw [hj]; simpa using ew) fin
  · have hj : (i + (its.toArray.size : Int)).toNat = j := by
      rw [seqIndex_neg (by omega) h4] at h1
      rw [List.size_toArray, ← hl]
      exact Option.some.inj h1
    exact wpAny_getItem_list_neg pl.isList (by omega) (by rw [List.size_toArray] <;> omega) (by omega) (by rw [hj]; simpa using ew) fin
end

/-! ### the judgements -/
structure SE (K : PySem.W.Frag) (X : Cx) (e : Expr) (t : TE) (f : DE) : Prop where
  pe : PE X e t
  sn : SndE K t f
structure ST (K : PySem.W.Frag) (X : Cx) (e : Expr) (t : TT) (f : DT) : Prop where
  pe : PT X e t
  sn : SndT K t f
structure SW (K : PySem.W.Frag) (X : Cx) (e : Expr) (t : TT) (f : DT) : Prop where
  pe : PW X e t
  sn : SndT K t f
structure SA (K : PySem.W.Frag) (X : Cx) (es : List Expr) (t : TA) (f : DA) : Prop where
  pe : PA X es t
  sn : SndA K t f
structure SK (K : PySem.W.Frag) (X : Cx) (ks : List Keyword) (t : TA) (f : DA) : Prop where
  pe : PK X ks t
  sn : SndA K t f
structure SO (K : PySem.W.Frag) (X : Cx) (e : Option Expr) (t : TO) (f : DO) : Prop where
  pe : PO X e t
  sn : SndO K t f
structure SS (K : PySem.W.Frag) (X : Cx) (s : Stmt) (t : TS) (f : DS) : Prop where
  pe : PS X s t
  sn : SndS K t f
structure SSs (K : PySem.W.Frag) (X : Cx) (s : List Stmt) (t : TS) (f : DS) : Prop where
  pe : PSs X s t
  sn : SndS K t f
structure SG (K : PySem.W.Frag) (X : Cx) (e : Expr) (is : List Nat) (t : TG) (f : DG) : Prop where
  pe : PG X e t
  sn : SndG K is t f
structure SGs (K : PySem.W.Frag) (X : Cx) (es : List Expr) (is : List Nat) (t : TGs) (f : DGs) : Prop where
  pe : PGs X es t
  sn : SndGs K is t f
structure SI (K : PySem.W.Frag) (X : Cx) (tg it : Expr) (w : TI) (f : DI) : Prop where
  pe : PI X tg it w
  sn : SndI K w f
section
variable {K : PySem.W.Frag} {X : Cx} {a b c e : Expr} {es : List Expr} {ta tb tc te : TE} {f g h : DE} {pos p : Pos} {x : Str}
theorem se_var (i : Nat) (hN : X.N[i]? = some x := by rfl) (hv : Vis X.env.scope x := by first | exact Or.inl rfl | exact Or.inr (Or.inl rfl) | exact Or.inr (Or.inr rfl)) (hd : (x == ("__debug__" : Str)) = false := by decide)
    (hcd : (x == ("__classdict__" : Str)) = false := by decide) : SE K X (.Name x pos) (tVar i) (dVar i) := ⟨pe_var hN hv hd hcd, snd_var⟩
theorem se_int {i j} : SE K X (.Constant (.int i) j pos) (tC (.int i)) (dC (.int i)) := ⟨pe_int, snd_c fun _ _ => .int _⟩
theorem se_bl {i j} : SE K X (.Constant (.bool i) j pos) (tC (.bl i)) (dC (.bool i)) := ⟨pe_bl, snd_c fun _ _ => .bl _⟩
theorem se_non {j} : SE K X (.Constant .none j pos) (tC .non) (dC .none) := ⟨pe_non, snd_c fun _ _ => .non⟩
theorem se_str {s j} : SE K X (.Constant (.str s) j pos) (tC (.str s)) (dC (.str s)) := ⟨pe_str, snd_c fun _ _ => .str _⟩
/-- a module's constant -/
theorem se_glob {v : V} {u : Value} {d : PyData} (hg : Gl X x) (hm : X.mg x = some u) (r : RelV v u) (hd : ∀ (F : Addr → Prop) (H : Hp), Rp K F H v d) (h1 : (x == ("__debug__" : Str)) = false := by decide) : SE K X (.Name x pos) (tC v) (dC d) := ⟨pe_glob hg hm r h1, snd_c hd⟩
theorem se_op {op : Operator} {r : R2} {o : D → D → Option Rv} (hp : Prim2 K r o) (ho : OpR X (binaryOp op) r) (ha : SE K X a ta f) (hb : SE K X b tb g) : SE K X (.BinOp a op b pos) (tOp r ta tb) (dOp2 o f g) := ⟨pe_op ho ha.pe hb.pe, snd_op2 hp ha.sn hb.sn⟩
theorem se_add (ha : SE K X a ta f) (hb : SE K X b tb g) (hK : X.K = K := by rfl) : SE K X (.BinOp a .Add b pos) (tOp (rAddD K) ta tb) (dOp2 opAdd f g) := by
  subst hK
  exact se_op prim_add op_addD ha hb
theorem se_sub (ha : SE K X a ta f) (hb : SE K X b tb g) : SE K X (.BinOp a .Sub b pos) (tOp (rI0 fun i j => .int (i - j)) ta tb) (dOp2 opSub f g) := se_op prim_sub op_sub ha hb
theorem se_mul (ha : SE K X a ta f) (hb : SE K X b tb g) (hK : X.K = K := by rfl) : SE K X (.BinOp a .Mult b pos) (tOp (rMulD K) ta tb) (dOp2 opMul f g) := by
  subst hK
  exact se_op prim_mul op_mulD ha hb
theorem se_div (ha : SE K X a ta f) (hb : SE K X b tb g) : SE K X (.BinOp a .FloorDiv b pos) (tOp (rI CDivW fun i j => .int (i / j)) ta tb) (dOp2 opDiv f g) := se_op prim_div op_fdivW ha hb
theorem se_mod (ha : SE K X a ta f) (hb : SE K X b tb g) : SE K X (.BinOp a .Mod b pos) (tOp (rI (fun _ j => 0 < j) fun i j => .int (i % j)) ta tb) (dOp2 opMod f g) := se_op prim_mod op_mod ha hb
theorem se_pow (ha : SE K X a ta f) (hb : SE K X b tb g) : SE K X (.BinOp a .Pow b pos) (tOp (rI CPow fun i j => .int (i ^ j.toNat)) ta tb) (dOp2 opPow f g) := se_op prim_pow op_pow ha hb
theorem se_neg (ha : SE K X a ta f) : SE K X (.UnaryOp .USub a pos) (tUn (rU fun i => .int (-i)) ta) (dOp1 opNeg f) := ⟨pe_un un_neg ha.pe, snd_op1 prim_neg ha.sn⟩
theorem se_cmp {op : CmpOp} {r : R2} {o : D → D → Option Rv} (hp : Prim2 K r o) (ho : OpR X (compareOp op) r) (hm : behindInMarks op b = false) (ha : SE K X a ta f) (hb : SE K X b tb g) : SE K X (.Compare a [op] [b] pos) (tOp r ta tb) (dOp2 o f g) := ⟨pe_cmpR ho ha.pe hb.pe hm, snd_op2 hp ha.sn hb.sn⟩
theorem st_cmp {op : CmpOp} {r : R2} {o : D → D → Option Rv} (hp : Prim2 K r o) (ho : OpR X (compareOp op) r) (hm : behindInMarks op b = false) (ha : SE K X a ta f) (hb : SE K X b tb g) : ST K X (.Compare a [op] [b] pos) (tTest (tOp r ta tb)) (dTest (dOp2 o f g)) := ⟨pt_cmpR ho ha.pe hb.pe hm, snd_testC (snd_op2 hp ha.sn hb.sn)⟩
/-- an expression that gives a bool, as a test -/
theorem st_val (ha : SE K X a ta f) (he : ∀ whole, isTrue a X.env whole = (do let v ← whole; standAt a.pos; holding [v] (truthy v)) := by intro _; rfl) : ST K X a (tB ta) (dTest f) := ⟨pt_val ha.pe he, snd_test ha.sn⟩
variable {t u : TT} {ft gt : DT}
theorem st_not (ha : ST K X a t ft) : ST K X (.UnaryOp .Not a pos) (tNot t) (dNot ft) := ⟨pt_not ha.pe, snd_not ha.sn⟩
theorem sw_and1 (ha : ST K X a t ft) : SW K X (.BoolOp .And [a] pos) t ft := ⟨pw_and1 ha.pe, ha.sn⟩
theorem sw_or1 (ha : ST K X a t ft) : SW K X (.BoolOp .Or [a] pos) t ft := ⟨pw_or1 ha.pe, ha.sn⟩
theorem sw_and {r : List Expr} (ha : ST K X a t ft) (hb : SW K X (.BoolOp .And (b :: r) pos) u gt) : SW K X (.BoolOp .And (a :: b :: r) pos) (tAnd t u) (dAnd ft gt) := ⟨pw_and ha.pe hb.pe, snd_and ha.sn hb.sn⟩
theorem sw_or {r : List Expr} (ha : ST K X a t ft) (hb : SW K X (.BoolOp .Or (b :: r) pos) u gt) : SW K X (.BoolOp .Or (a :: b :: r) pos) (tOr t u) (dOr ft gt) := ⟨pw_or ha.pe hb.pe, snd_or ha.sn hb.sn⟩
theorem st_w (ha : SW K X a t ft) : ST K X a t ft := ⟨ha.pe.pt, ha.sn⟩
theorem se_one {op} (ha : SE K X a ta f) : SE K X (.BoolOp op [a] pos) ta f := ⟨pe_one ha.pe, ha.sn⟩
theorem se_and {r : List Expr} (ha : SE K X a ta f) (hb : SE K X (.BoolOp .And (b :: r) pos) tb g) : SE K X (.BoolOp .And (a :: b :: r) pos) (tAndV ta tb) (dAndV f g) := ⟨pe_and ha.pe hb.pe, snd_andV ha.sn hb.sn⟩
theorem se_or {r : List Expr} (ha : SE K X a ta f) (hb : SE K X (.BoolOp .Or (b :: r) pos) tb g) : SE K X (.BoolOp .Or (a :: b :: r) pos) (tOrV ta tb) (dOrV f g) := ⟨pe_or ha.pe hb.pe, snd_orV ha.sn hb.sn⟩
theorem se_not (ha : SE K X a ta f) : SE K X (.UnaryOp .Not a pos) (tNotV ta) (dNotV f) := ⟨pe_not ha.pe, snd_notV ha.sn⟩
theorem se_if (hc : ST K X c t ft) (ha : SE K X a ta f) (hb : SE K X b tb g) : SE K X (.IfExp c a b pos) (tIf t ta tb) (dIf ft f g) := ⟨pe_ifExp hc.pe ha.pe hb.pe, snd_if hc.sn ha.sn hb.sn⟩
/-! lists of arguments -/
variable {tr tk : TA} {fr fk : DA}
theorem sa_nil : SA K X [] tNil dNil := ⟨pa_nil, snd_nil⟩
theorem sa_cons (ha : SE K X e te f) (hr : SA K X es tr fr) (hs : starEach (e :: es) X.env = (false, eval e X.env) :: starEach es X.env := by rfl) : SA K X (e :: es) (tCons te tr) (dCons f fr) := ⟨pa_cons ha.pe hr.pe hs, snd_cons ha.sn hr.sn⟩
theorem sk_nil : SK K X [] tNil dNil := ⟨pk_nil, snd_nil⟩
theorem sk_cons {nm : Option Str} {kpos : Pos} {kws : List Keyword} (ha : SE K X e te f) (hr : SK K X kws tr fr) : SK K X (⟨nm, e, kpos⟩ :: kws) (tCons te tr) (dCons f fr) := ⟨pk_cons ha.pe hr.pe, snd_cons ha.sn hr.sn⟩
theorem se_tup {k} (h : SA K X es tr fr) : SE K X (.Tuple es k pos) (tTup tr) (dTup fr) := ⟨pe_tup h.pe, snd_tup h.sn⟩
theorem se_lst (h : SA K X es tr fr) : SE K X (.List es pos) (tLst tr) (dList fr) := ⟨pe_lst h.pe, snd_list h.sn⟩
/-! subscripts -/
theorem se_ix (ha : SE K X a ta f) (hb : SE K X b tb g) (hs : PlainIx b := by intro _ _; rfl) (hK : X.K = K := by rfl) : SE K X (.Subscript a b pos) (tOp (rIx K) ta tb) (dOp2 opIx f g) := by
  subst hK
  exact ⟨pe_ix ix_seq ha.pe hb.pe hs, snd_op2 prim_ix ha.sn hb.sn⟩
theorem so_none : SO K X none tNoPart dNoPart := ⟨po_none, snd_nopart⟩
theorem so_some (ha : SE K X a ta f) : SO K X (some a) (tPart ta) (dPart f) := ⟨po_some ha.pe, snd_part ha.sn⟩
theorem se_slice {lo hi : Option Expr} {p2 : Pos} {tl th : TO} {fl fh : DO} (ha : SE K X a ta f) (hl : SO K X lo tl fl) (hh : SO K X hi th fh) (hK : X.K = K := by rfl) : SE K X (.Subscript a (.Slice lo hi none p2) pos) (tSl (rSlL K) ta tl th) (dSlice opSlice f fl fh) := by
  subst hK
  exact ⟨pe_slice sl_list ha.pe hl.pe hh.pe, snd_slice prim_slice ha.sn hl.sn hh.sn⟩
theorem se_rev {k : Nat} {p1 p2 p3 : Pos} (ha : SE K X a ta f) (hK : X.K = K := by rfl) : SE K X (.Subscript a (.Slice none none (some (.UnaryOp .USub (.Constant (.int 1) k p1) p2)) p3) pos) (tRevL K ta) (dOp1 opRev f) := by
  subst hK
  exact ⟨pe_revL ha.pe, snd_rev ha.sn⟩
/-! calls of built-ins -/
theorem se_callB {id : String} {r : List V → Hp → VK → Prop} {o : List D → Option Rv} (hp : PrimN K r o) (hc : CallR X (.builtin id) r) (hg : Gl X x) (hm : X.mg x = none) (hv : bootBuiltins x = some (.builtin id)) (ha : SA K X (e :: es) tr fr) (hn : x ≠ "__name__" := by decide) (hdb : (x == ("__debug__" : Str)) = false := by decide)
    (he : starEach (e :: es) X.env = (false, eval e X.env) :: starEach es X.env := by rfl) (hpl : (backTo pos (starEach es X.env)).any (·.1) = false := by rfl) : SE K X (.Call (.Name x p) (e :: es) [] pos) (tCB r tr) (dCallB o fr) := ⟨pe_callB hc hg hm hv ha.pe hn hdb he hpl, snd_callB hp ha.sn⟩
theorem se_callTy {T : String} {r : List V → Hp → VK → Prop} {o : List D → Option Rv} (hp : PrimN K r o) (hc : CallR X (.type T) r) (hg : Gl X x) (hm : X.mg x = none) (hv : bootBuiltins x = some (.type T)) (ha : SA K X (e :: es) tr fr) (hn : x ≠ "__name__" := by decide) (hdb : (x == ("__debug__" : Str)) = false := by decide)
    (he : starEach (e :: es) X.env = (false, eval e X.env) :: starEach es X.env := by rfl) (hpl : (backTo pos (starEach es X.env)).any (·.1) = false := by rfl) : SE K X (.Call (.Name x p) (e :: es) [] pos) (tCB r tr) (dCallB o fr) := ⟨pe_callTy hc hg hm hv ha.pe hn hdb he hpl, snd_callB hp ha.sn⟩
/-- isinstance(e, T) -/
theorem se_isi {T : String} {y : Str} {p2 : Pos} (hT : TyOkc T) (hg : Gl X "isinstance") (hm : X.mg "isinstance" = none) (hb : bootBuiltins "isinstance" = some (.builtin "isinstance")) (hg2 : Gl X y) (hm2 : X.mg y = none) (hb2 : bootBuiltins y = some (.type T)) (ha : SE K X a ta f) (hn : y ≠ "__name__" := by decide) (hd : (y == ("__debug__" : Str)) = false := by decide)
    (h1 : starEach [a, .Name y p2] X.env = (false, eval a X.env) :: starEach [.Name y p2] X.env := by rfl) (h2 : starEach [.Name y p2] X.env = (false, eval (.Name y p2) X.env) :: starEach [] X.env := by rfl) (h3 : (backTo pos (starEach [.Name y p2] X.env)).any (·.1) = false := by rfl) (hK : X.K = K := by rfl) :
    SE K X (.Call (.Name "isinstance" p) [a, .Name y p2] [] pos) (tCB (rIsi K) (tCons ta (tCons (tC (.ty T)) tNil))) (dOp1 (bIsi T) f) := by
  subst hK
  exact ⟨pe_callB call_isi hg hm hb (pa_cons ha.pe (pa_cons (pe_bltn (v := .ty T) hg2 hm2 hb2 rfl hn hd) pa_nil h2) h1) (by decide) (by decide) h1 h3, snd_isi hT ha.sn⟩
/-- isinstance(e, (T, U)) -/
theorem se_isi2 {T U : String} {y z : Str} {p2 p3 p4 : Pos} {k} (hT : TyOkc T) (hU : TyOkc U) (hg : Gl X "isinstance") (hm : X.mg "isinstance" = none) (hb : bootBuiltins "isinstance" = some (.builtin "isinstance")) (hg2 : Gl X y) (hm2 : X.mg y = none) (hb2 : bootBuiltins y = some (.type T)) (hg3 : Gl X z) (hm3 : X.mg z = none) (hb3 : bootBuiltins z = some (.type U)) (ha : SE K X a ta f)
    (hn : y ≠ "__name__" := by decide) (hd : (y == ("__debug__" : Str)) = false := by decide) (hn' : z ≠ "__name__" := by decide) (hd' : (z == ("__debug__" : Str)) = false := by decide)
    (h1 : starEach [a, .Tuple [.Name y p2, .Name z p3] k p4] X.env = (false, eval a X.env) :: starEach [.Tuple [.Name y p2, .Name z p3] k p4] X.env := by rfl) (h2 : starEach [.Tuple [.Name y p2, .Name z p3] k p4] X.env = (false, eval (.Tuple [.Name y p2, .Name z p3] k p4) X.env) :: starEach [] X.env := by rfl) (h3 : (backTo pos (starEach [.Tuple [.Name y p2, .Name z p3] k p4] X.env)).any (·.1) = false := by rfl)
    (h4 : starEach [.Name y p2, .Name z p3] X.env = (false, eval (.Name y p2) X.env) :: starEach [.Name z p3] X.env := by rfl) (h5 : starEach [.Name z p3] X.env = (false, eval (.Name z p3) X.env) :: starEach [] X.env := by rfl) (hK : X.K = K := by rfl) :
    SE K X (.Call (.Name "isinstance" p) [a, .Tuple [.Name y p2, .Name z p3] k p4] [] pos) (tCB (rIsiT K) (tCons ta (tCons (tTup (tCons (tC (.ty T)) (tCons (tC (.ty U)) tNil))) tNil))) (dOp1 (bIsi2 T U) f) := by
  subst hK
  exact ⟨pe_callB call_isiT hg hm hb (pa_cons ha.pe (pa_cons (pe_tup (pa_cons (pe_bltn (v := .ty T) hg2 hm2 hb2 rfl hn hd) (pa_cons (pe_bltn (v := .ty U) hg3 hm3 hb3 rfl hn' hd') pa_nil h5) h4)) pa_nil h2) h1) (by decide) (by decide) h1 h3, snd_isi2 hT hU ha.sn⟩
/-! calls of defs -/
theorem se_call {lv n : Nat} {fa : Addr} {fd : FuncData} {ps : List Str} {G : Fn} {ds : List Value} {dvs : List V} {modes : List Bool} {more : List PyData} (F : FnG X.prog X.w X.K X.mg X.base CX0 lv fa fd ps (spD K n G)) (hr : Room lv X.A) (gd : X.A.guards = some []) (hg : Gl X x) (hm : X.mg x = some (.ref fa)) (kp : PySem.W.keepIn X.K (.ref fa) = true) (hb : Binds X.K fd ps ds) (hd : Vals dvs ds)
    (hdd : ∀ (F : Addr → Prop) (H : Hp), RpAll K F H dvs more) (hn : modes.length + more.length = n) (ha : SA K X (e :: es) tr fr) (h1 : (x == ("__debug__" : Str)) = false := by decide) (h2 : starEach (e :: es) X.env = (false, eval e X.env) :: starEach es X.env := by rfl) (h3 : (backTo pos (starEach es X.env)).any (·.1) = false := by rfl) (hK : X.K = K := by rfl) :
    SE K X (.Call (.Name x p) (e :: es) [] pos) (tCall (spD K n G) dvs E0 tr) (dCall G modes more fr) := by
  subst hK
  exact ⟨pe_callG F hr gd hg hm kp hb hd pass0 ha.pe h1 h2 h3, snd_call hdd hn ha.sn⟩
theorem se_call0 {lv n : Nat} {fa : Addr} {fd : FuncData} {ps : List Str} {G : Fn} {ds : List Value} {dvs : List V} {more : List PyData} (F : FnG X.prog X.w X.K X.mg X.base CX0 lv fa fd ps (spD K n G)) (hr : Room lv X.A) (gd : X.A.guards = some []) (hg : Gl X x) (hm : X.mg x = some (.ref fa)) (kp : PySem.W.keepIn X.K (.ref fa) = true) (hb : Binds X.K fd ps ds) (hd : Vals dvs ds)
    (hdd : ∀ (F : Addr → Prop) (H : Hp), RpAll K F H dvs more) (hn : ([] : List Bool).length + more.length = n) (h1 : (x == ("__debug__" : Str)) = false := by decide) (hK : X.K = K := by rfl) :
    SE K X (.Call (.Name x p) [] [] pos) (tCall (spD K n G) dvs E0 tNil) (dCall G [] more dNil) := by
  subst hK
  exact ⟨pe_call0G F hr gd hg hm kp hb hd pass0 h1, snd_call hdd hn snd_nil⟩
theorem se_callP {lv l n : Nat} {fa : Addr} {fd : FuncData} {ps ks : List Str} {G : Fn} {ds : List Value} {dvs : List V} {perm : List Nat} {more : List PyData} {kws : List Keyword} {m : Nat} (F : FnG X.prog X.w X.K X.mg X.base CX0 lv fa fd ps (spD K l G)) (hr : Room lv X.A) (gd : X.A.guards = some []) (hg : Gl X x) (hm : X.mg x = some (.ref fa)) (kp : PySem.W.keepIn X.K (.ref fa) = true) (hb : KB X.K fd ps ks n perm ds) (hd : Vals dvs ds)
    (hdd : ∀ (F : Addr → Prop) (H : Hp), RpAll K F H dvs more) (hm : ks.length = m) (hl : (permute perm (List.replicate (n + m + more.length) ())).length = l) (ha : SA K X (e :: es) tr fr) (hk : SK K X kws tk fk) (k1 : (backToKw pos (keywordEach kws X.env)).all (·.1.isSome) = true := by rfl) (k2 : (backToKw pos (keywordEach kws X.env)).filterMap (·.1) = ks := by rfl)
    (h1 : (x == ("__debug__" : Str)) = false := by decide) (h2 : starEach (e :: es) X.env = (false, eval e X.env) :: starEach es X.env := by rfl) (h3 : ((backTo pos (starEach (e :: es) X.env)).any (·.1) || (backToKw pos (keywordEach kws X.env)).any (·.1.isNone)) = false := by rfl) (hK : X.K = K := by rfl) :
    SE K X (.Call (.Name x p) (e :: es) kws pos) (tCallP n m perm dvs (spD K l G) E0 tr tk) (dCallK G n m perm more fr fk) := by
  subst hK hm
  exact ⟨pe_callP F hr gd hg hm kp hb hd pass0 ha.pe hk.pe k1 k2 h1 h2 h3, snd_callP hdd hl ha.sn hk.sn⟩
theorem se_callP0 {lv l : Nat} {fa : Addr} {fd : FuncData} {ps ks : List Str} {G : Fn} {ds : List Value} {dvs : List V} {perm : List Nat} {more : List PyData} {kws : List Keyword} {m : Nat} (F : FnG X.prog X.w X.K X.mg X.base CX0 lv fa fd ps (spD K l G)) (hr : Room lv X.A) (gd : X.A.guards = some []) (hg : Gl X x) (hm : X.mg x = some (.ref fa)) (kp : PySem.W.keepIn X.K (.ref fa) = true) (hb : KB X.K fd ps ks 0 perm ds) (hd : Vals dvs ds)
    (hdd : ∀ (F : Addr → Prop) (H : Hp), RpAll K F H dvs more) (hm : ks.length = m) (hl : (permute perm (List.replicate (0 + m + more.length) ())).length = l) (hk : SK K X kws tk fk) (k1 : (backToKw pos (keywordEach kws X.env)).all (·.1.isSome) = true := by rfl) (k2 : (backToKw pos (keywordEach kws X.env)).filterMap (·.1) = ks := by rfl)
    (h1 : (x == ("__debug__" : Str)) = false := by decide) (h3 : ((backTo pos (starEach [] X.env)).any (·.1) || (backToKw pos (keywordEach kws X.env)).any (·.1.isNone)) = false := by rfl) (hK : X.K = K := by rfl) :
    SE K X (.Call (.Name x p) [] kws pos) (tCallP 0 m perm dvs (spD K l G) E0 tNil tk) (dCallK G 0 m perm more dNil fk) := by
  subst hK hm
  exact ⟨pe_callP0 F hr gd hg hm kp hb hd pass0 hk.pe k1 k2 h1 h3, snd_callP hdd hl snd_nil hk.sn⟩
/-! walked things -/
variable {tg : Expr}
theorem si_list (ha : SE K X a ta f) (hK : X.K = K := by rfl) : SI K X tg a (L2.iList K ta) (dIter DL.iList f) := by
  subst hK
  exact ⟨pi_list ha.pe, snd_ilist ha.sn⟩
theorem si_tup (ha : SE K X a ta f) (hK : X.K = K := by rfl) : SI K X tg a (L2.iTup K ta) (dIter DL.iTup f) := by
  subst hK
  exact ⟨pi_tup ha.pe, snd_itup ha.sn⟩
def iSeqT (K : PySem.W.Frag) (tl : TE) : TI := fun σ H R => tl σ H fun x H1 => ∃ a, x = .ref a ∧ (((∃ xs, SqL K H1 a xs) ∧ R (Itl K a) H1) ∨ ((∃ xs, SqT K H1 a xs) ∧ R (Itt K a) H1))
theorem pi_seq {l : Expr} {tl : TE} (hl : PE X l tl) : PI X tg l (iSeqT X.K tl) := by
  refine ⟨fun pins s σ H R I h => ?_⟩
  refine thn (hl.run pins s σ H _ I h) fun v s1 ⟨x, H1, I1, r1, q1⟩ => ?_
  obtain ⟨a, e, q1⟩ := q1
  subst e
  cases r1
  rcases q1 with ⟨⟨xs, hq⟩, q⟩ | ⟨⟨xs, hq⟩, q⟩
  · obtain ⟨its, rv, p, hz⟩ := I1.list hq
    refine wpAny_pyIter_list p.isList ?_
    refine ⟨s1.heap.objs.size, [s1.heap.objs.size], _, _, H1, rfl, I1.kept (t' := s1.toks) fun b o e => Heap.get?_push_of_some _ e, turn_list a _, ⟨_, Heap.get?_push_size _ rfl, rfl, rfl⟩, fun b hb => ?_, q⟩
    have e : b = s1.heap.objs.size := by simpa using hb
    subst e
    exact I1.fpOk (Nat.le_refl _) (I1.hok.fresh (Nat.le_refl _))
  · obtain ⟨its, rv, p, hz⟩ := I1.tuple hq
    refine wpAny_pyIter_tuple (show s1.heap.IsTuple a its.toArray from p) ?_
    refine ⟨s1.heap.objs.size, [s1.heap.objs.size], _, _, H1, rfl, I1.kept (t' := s1.toks) fun b o e => Heap.get?_push_of_some _ e, turn_tuple a _, ⟨_, Heap.get?_push_size _ rfl, rfl, rfl⟩, fun b hb => ?_, q⟩
    have e : b = s1.heap.objs.size := by simpa using hb
    subst e
    exact I1.fpOk (Nat.le_refl _) (I1.hok.fresh (Nat.le_refl _))
theorem snd_iseq {t : TE} {f : DE} (a : SndE K t f) : SndI K (iSeqT K t) (dIter DL.iSeq f) := by
  intro H0 M st σ F H ds st' R S e q
  obtain ⟨p, e1, e⟩ := bs e
  obtain ⟨⟨y, s2⟩, e2, e⟩ := bs e
  obtain ⟨zs, e3, e⟩ := bs e
  cases e
  refine a H0 M st σ F H p.1 p.2 _ S e1 fun v F1 H1 S1 E1 f1 r1 => ?_
  obtain ⟨F2, S2, E2, r2, _⟩ := toD_ok S1 E1 r1.weak e2
  cases y <;> try (cases e3; done)
  · cases e3
    cases r2 with
    | lst h hs => exact ⟨_, rfl, .inl ⟨⟨_, h.sql⟩, q _ F2 H1 S2 E2 (wd_list h hs)⟩⟩
  · cases e3
    cases r2 with
    | tup h hs => exact ⟨_, rfl, .inr ⟨⟨_, h⟩, q _ F2 H1 S2 E2 (wd_tup h hs)⟩⟩
theorem si_seq (ha : SE K X a ta f) (hK : X.K = K := by rfl) : SI K X tg a (iSeqT K ta) (dIter DL.iSeq f) := by
  subst hK
  exact ⟨pi_seq ha.pe, snd_iseq ha.sn⟩
theorem si_range1 (hg : Gl X "range") (hm : X.mg "range" = none) (ha : SA K X [a] tr fr) (hs : starEach [a] X.env = [(false, eval a X.env)] := by rfl) : SI K X tg (.Call (.Name "range" p) [a] [] pos) (iRng1 tr) (dIterA iRange1 fr) := ⟨pi_range1 hg hm ha.pe hs, snd_irange1 ha.sn⟩
theorem si_range2 (hg : Gl X "range") (hm : X.mg "range" = none) (ha : SA K X [a, b] tr fr) (hs : starEach [a, b] X.env = [(false, eval a X.env), (false, eval b X.env)] := by rfl) (hs2 : starEach [b] X.env = [(false, eval b X.env)] := by rfl) : SI K X tg (.Call (.Name "range" p) [a, b] [] pos) (iRng2 tr) (dIterA iRange2 fr) := ⟨pi_range2 hg hm ha.pe hs hs2, snd_irange2 ha.sn⟩
theorem si_zip {tpos : Pos} {elts : List Expr} {kk : Nat} (hg : Gl X "zip") (hm : X.mg "zip" = none) (ha : SA K X [a, b] tr fr) (hs : starEach [a, b] X.env = (false, eval a X.env) :: starEach [b] X.env := by rfl) (hpl : (backTo pos (starEach [b] X.env)).any (·.1) = false := by rfl) (hK : X.K = K := by rfl) :
    SI K X (.Tuple elts kk tpos) (.Call (.Name "zip" p) [a, b] [] pos) (RZ.iZipA K tr) (dIterA DL.iZip fr) := by
  subst hK
  exact ⟨RZ.pi_zipA hg hm ha.pe hs hpl, snd_izip ha.sn⟩
theorem si_enum {tpos : Pos} {elts : List Expr} {kk : Nat} (hg : Gl X "enumerate") (hm : X.mg "enumerate" = none) (ha : SA K X [a] tr fr) (hs : starEach [a] X.env = [(false, eval a X.env)] := by rfl) (hK : X.K = K := by rfl) :
    SI K X (.Tuple elts kk tpos) (.Call (.Name "enumerate" p) [a] [] pos) (L2.iEnum K tr) (dIterA DL.iEnum fr) := by
  subst hK
  exact ⟨pi_enum hg hm ha.pe hs, snd_ienum ha.sn⟩
/-! targets -/
theorem sg_name (i : Nat) (hN : X.N.Nodup) (hi : X.N[i]? = some x) (hx : Loc X.env.scope x) (hf : X.fn x = true ∨ X.env.scope.names.lookup x = some .local := by first | exact .inl rfl | exact .inr rfl | assumption) : SG K X (.Name x pos) [i] (L2.gName i) (DL.gName i) := ⟨pg_name hN hi hx hf, snd_gname⟩
theorem sgs_nil : SGs K X [] [] L2.gNil DL.gNil := ⟨pgs_nil, snd_gnil⟩
theorem sgs_cons {is js : List Nat} {t : TG} {u : TGs} {dg : DG} {dh : DGs} (h1 : SG K X e is t dg) (h2 : SGs K X es js u dh) (hs : (assignEach (e :: es) X.env).map (·.2) = assign e X.env :: (assignEach es X.env).map (·.2) := by rfl) : SGs K X (e :: es) (is ++ js) (L2.gCons t u) (DL.gCons dg dh) := ⟨pgs_cons h1.pe h2.pe hs, snd_gcons h1.sn h2.sn⟩
theorem sg_tup {is : List Nat} {k : Nat} {t : TGs} {dh : DGs} {n : Nat} (hc : X.calm = true) (h : SGs K X es is t dh) (hn : (assignEach es X.env).length = n := by rfl) (hst : (assignEach es X.env).findIdx? (·.1) = none := by rfl) (hK : X.K = K := by rfl) : SG K X (.Tuple es k pos) is (L2.gTup K n t) (DL.gTup n dh) := by
  subst hK
  exact ⟨pg_tup hc h.pe hn hst, snd_gtup h.sn⟩
/-! comprehensions -/
structure STs (K : PySem.W.Frag) (X : Cx) (es : List Expr) (t : TT) (f : DT) : Prop where
  pe : PTs X es t
  sn : SndT K t f
theorem snd_yes : SndT K tYes dTests := by
  intro H0 M st σ F H b st' Q S e q
  cases e
  exact q F H S .refl trivial
theorem sts_nil : STs K X [] tYes dTests := ⟨pts_nil, snd_yes⟩
theorem sts_one (h : ST K X a t ft) : STs K X [a] t ft := ⟨pts_one h.pe, h.sn⟩
theorem se_lc {elt tgt iter : Expr} {ifs : List Expr} {scope : Scope} {own : List (Str × Nat)} {is vs : List Nat} {wi : TI} {tgr : TG} {tt : TT} {teL : TE} {it : DI} {dg : DG} {dt : DT} {de : DE} (hc : X.calm = true) (hN : X.N.Nodup) (hi : SI K X tgt iter wi it) (ok : BlkOk X.N X.env.scope scope own)
    (hg : ∀ (s : Shared) (H : Hp) (C : Addr) (cl : List (Str × Addr)) (fp : List Addr), SG K (X.blk s H scope (compEnvC scope cl C X.env) fp) tgt is tgr dg) (ht : ∀ (s : Shared) (H : Hp) (C : Addr) (cl : List (Str × Addr)) (fp : List Addr), STs K (X.blk s H scope (compEnvC scope cl C X.env) fp) ifs tt dt)
    (he : ∀ (s : Shared) (H : Hp) (C : Addr) (cl : List (Str × Addr)) (fp : List Addr), SE K (X.blk s H scope (compEnvC scope cl C X.env) fp) elt teL de) (hvs : own.map (·.2) = vs) (hsub : ∀ j ∈ is, j ∈ vs) (hs : ∀ x, foldedSetIterable iter X.env x = pure x := by intro _; rfl) (hK : X.K = K := by rfl) :
    SE K X (.ListComp elt [⟨tgt, iter, ifs, 0⟩] scope pos) (tLc wi tgr tt teL vs) (dLc it dg dt de vs) := by
  subst hK
  subst hvs
  exact
  ⟨pe_lc hc hN hi.pe ok (fun s H C cl fp => (hg s H C cl fp).pe) (fun s H C cl fp => (ht s H C cl fp).pe) (fun s H C cl fp => (he s H C cl fp).pe) hs,
    snd_lc hi.sn (hg {} (fun _ => none) 0 [] []).sn (ht {} (fun _ => none) 0 [] []).sn (he {} (fun _ => none) 0 [] []).sn hsub⟩
/-! statements -/
variable {st : Stmt} {rest : List Stmt} {ts us : TS} {fs gs : DS}
theorem sss_nil : SSs K X [] tNext dNext := ⟨pss_nil, snd_next⟩
theorem sss_cons (h1 : SS K X st ts fs) (h2 : SSs K X rest us gs) : SSs K X (st :: rest) (tSeq ts us) (dSeq fs gs) := ⟨pss_cons h1.pe h2.pe, snd_seq h1.sn h2.sn⟩
theorem sss_one (h1 : SS K X st ts fs) : SSs K X [st] ts fs := ⟨pss_one h1.pe, h1.sn⟩
theorem sss_never {sts : List Stmt} : SSs K X sts tNever dNever := ⟨pss_never, snd_never⟩
theorem ss_never : SS K X st tNever dNever := ⟨ps_never, snd_never⟩
theorem ss_pass : SS K X (.Pass pos) tNext dNext := ⟨ps_pass, snd_next⟩
theorem ss_break : SS K X (.Break pos) tBreak dBreak := ⟨ps_break, snd_break⟩
theorem ss_continue : SS K X (.Continue pos) tCont dCont := ⟨ps_continue, snd_cont⟩
theorem ss_set (i : Nat) {pos' : Pos} (hN : X.N.Nodup) (hi : X.N[i]? = some x) (hx : Loc X.env.scope x) (he : SE K X e te f) (hs : swapsWith e (some (.Name x pos')) pos.line X.env = pure false := by rfl) (hf : X.fn x = true ∨ X.env.scope.names.lookup x = some .local := by first | exact .inl rfl | exact .inr rfl | assumption) :
    SS K X (.Assign [.Name x pos'] e pos) (tAsg te (L2.gName i)) (dSet i f) := ⟨ps_set hN hi hx he.pe hs hf, snd_set he.sn⟩
theorem ss_setLc (i : Nat) {py lpos : Pos} {elt tgt iter : Expr} {ifs : List Expr} {scope : Scope} {own : List (Str × Nat)} {is vs : List Nat} {wi : TI} {tgr : TG} {tt : TT} {teL : TE} {it : DI} {dg : DG} {dt : DT} {de : DE} (hc : X.calm = true) (hN : X.N.Nodup) (hy : X.N[i]? = some x) (hyl : X.env.scope.names.lookup x = some .local)
    (hsw : swapsWith (.ListComp elt [⟨tgt, iter, ifs, 0⟩] scope lpos) (some (.Name x py)) pos.line X.env = pure true) (hi : SI K X tgt iter wi it) (ok : BlkOk X.N X.env.scope scope own)
    (hg : ∀ (s : Shared) (H : Hp) (C : Addr) (cl : List (Str × Addr)) (fp : List Addr), SG K (X.blk s H scope (compEnvC scope cl C X.env) fp) tgt is tgr dg) (ht : ∀ (s : Shared) (H : Hp) (C : Addr) (cl : List (Str × Addr)) (fp : List Addr), STs K (X.blk s H scope (compEnvC scope cl C X.env) fp) ifs tt dt)
    (he : ∀ (s : Shared) (H : Hp) (C : Addr) (cl : List (Str × Addr)) (fp : List Addr), SE K (X.blk s H scope (compEnvC scope cl C X.env) fp) elt teL de) (hvs : own.map (·.2) = vs) (hsub : ∀ j ∈ is, j ∈ vs) (hs : ∀ x, foldedSetIterable iter X.env x = pure x := by intro _; rfl) (hK : X.K = K := by rfl) :
    SS K X (.Assign [.Name x py] (.ListComp elt [⟨tgt, iter, ifs, 0⟩] scope lpos) pos) (tAsg (tLc wi tgr tt teL vs) (L2.gName i)) (dSet i (dLc it dg dt de vs)) := by
  subst hK
  subst hvs
  exact
  ⟨ps_setLc hc hN hy hyl hsw hi.pe ok (fun s H C cl fp => (hg s H C cl fp).pe) (fun s H C cl fp => (ht s H C cl fp).pe) (fun s H C cl fp => (he s H C cl fp).pe) hs,
    snd_set (snd_lc hi.sn (hg {} (fun _ => none) 0 [] []).sn (ht {} (fun _ => none) 0 [] []).sn (he {} (fun _ => none) 0 [] []).sn hsub)⟩
theorem ss_asg {is : List Nat} {tgr : TG} {dg : DG} (he : SE K X e te f) (hg : SG K X tg is tgr dg) (hs : swapsWithSole [tg] e pos.line X.env = pure false := by rfl) (hw : swappedStores [tg] e X.env = pure none := by rfl) (h1 : (assignEach [tg] X.env).map (·.2) = [assign tg X.env] := by rfl) :
    SS K X (.Assign [tg] e pos) (tAsg te tgr) (dAsg dg f) := ⟨ps_asg he.pe hg.pe hs hw h1, snd_asg he.sn hg.sn⟩
theorem ss_par (i j : Nat) {y : Str} {px py pt : Pos} {kt k2 pt2} (hc : X.calm = true) (hN : X.N.Nodup) (hi : X.N[i]? = some x) (hj : X.N[j]? = some y) (hij : i ≠ j) (hx : X.env.scope.names.lookup x = some .local) (hy : X.env.scope.names.lookup y = some .local) (ha : SA K X [a, b] tr fr)
    (hw : swappedStores [.Tuple [.Name x px, .Name y py] kt pt] (.Tuple [a, b] k2 pt2) X.env = pure (some [x, y])) (hs : swapsWithSole [.Tuple [.Name x px, .Name y py] kt pt] (.Tuple [a, b] k2 pt2) pos.line X.env = pure false := by rfl) :
    SS K X (.Assign [.Tuple [.Name x px, .Name y py] kt pt] (.Tuple [a, b] k2 pt2) pos) (tPar i j tr) (dPar [i, j] fr) := ⟨ps_par hc hN hi hj hij hx hy ha.pe hw hs, snd_par2 ha.sn⟩
theorem ss_par3 (i j l : Nat) {y z : Str} {px py pz pt : Pos} {kt k2 pt2} (hc : X.calm = true) (hN : X.N.Nodup) (hi : X.N[i]? = some x) (hj : X.N[j]? = some y) (hl : X.N[l]? = some z) (hij : i ≠ j) (hil : i ≠ l) (hjl : j ≠ l) (hx : X.env.scope.names.lookup x = some .local) (hy : X.env.scope.names.lookup y = some .local) (hz : X.env.scope.names.lookup z = some .local) (ha : SA K X [a, b, c] tr fr)
    (hw : swappedStores [.Tuple [.Name x px, .Name y py, .Name z pz] kt pt] (.Tuple [a, b, c] k2 pt2) X.env = pure (some [x, y, z])) (hs : swapsWithSole [.Tuple [.Name x px, .Name y py, .Name z pz] kt pt] (.Tuple [a, b, c] k2 pt2) pos.line X.env = pure false := by rfl) :
    SS K X (.Assign [.Tuple [.Name x px, .Name y py, .Name z pz] kt pt] (.Tuple [a, b, c] k2 pt2) pos) (tPar3 i j l tr) (dPar [i, j, l] fr) := ⟨ps_par3 hc hN hi hj hl hij hil hjl hx hy hz ha.pe hw hs, snd_par3 ha.sn⟩
theorem ss_augAdd (i : Nat) {pos' : Pos} (hN : X.N.Nodup) (hi : X.N[i]? = some x) (hx : Loc X.env.scope x) (he : SE K X e te f) (hf : X.fn x = true ∨ X.env.scope.names.lookup x = some .local := by first | exact .inl rfl | exact .inr rfl | assumption) : SS K X (.AugAssign (.Name x pos') .Add e pos) (tAug i te (ipI fun i j => i + j)) (dAug opAddI i f) :=
  ⟨ps_aug hN hi hx he.pe ip_add hf, snd_aug prim_addI he.sn⟩
theorem ss_augSub (i : Nat) {pos' : Pos} (hN : X.N.Nodup) (hi : X.N[i]? = some x) (hx : Loc X.env.scope x) (he : SE K X e te f) (hf : X.fn x = true ∨ X.env.scope.names.lookup x = some .local := by first | exact .inl rfl | exact .inr rfl | assumption) : SS K X (.AugAssign (.Name x pos') .Sub e pos) (tAug i te (ipI fun i j => i - j)) (dAug opSub i f) :=
  ⟨ps_aug hN hi hx he.pe ip_sub hf, snd_aug prim_sub he.sn⟩
theorem ss_append (i : Nat) {call : Expr} (hp : PE X e te → PE X call (tBM K "list" rAppend (tVar i) (tCons te tNil))) (he : SE K X e te f) (hs : swapsWith call none pos.line X.env = pure false := by rfl) (hK : X.K = K := by rfl) :
    SS K X (.Expr call pos) (tDrop (tBM K "list" rAppend (tVar i) (tCons te tNil))) (dAppend i f) := by
  subst hK
  exact ⟨ps_expr (hp he.pe) hs, snd_append he.sn⟩
theorem ss_setIx (i : Nat) {p2 : Pos} {o : Expr} (hv : PE X o (tVar i)) (hk : SE K X b tb g) (he : SE K X e te f)
    (ha : ∀ v, assign (.Subscript o b p2) X.env v = (do
      let ov ← holding [v] (eval o X.env)
      let iv ← holding [v, ov] (eval b X.env)
      standAt p2
      holding [v, ov, iv] (setItem ov iv v)
      release [v, ov, iv] []) := by intro _; rfl)
    (hs : swapsWithSole [.Subscript o b p2] e pos.line X.env = pure false := by rfl) (hw : swappedStores [.Subscript o b p2] e X.env = pure none := by rfl) (h1 : (assignEach [.Subscript o b p2] X.env).map (·.2) = [assign (.Subscript o b p2) X.env] := by rfl) (hK : X.K = K := by rfl) :
    SS K X (.Assign [.Subscript o b p2] e pos) (tAsg te (gSub (tVar i) tb rSetL)) (dSetIx i g f) := by
  subst hK
  exact ⟨ps_asg he.pe (pg_sub hv hk.pe set_list ha) hs hw h1, snd_setIx hk.sn he.sn⟩
theorem ss_augIx (i : Nat) {p2 : Pos} {o : Expr} {op : Operator} {tip : TIp} {oo : D → D → Option Rv} (hpr : Prim2 K tip oo) (hp : PIp X op tip) (hv : PE X o (tVar i)) (hk : SE K X b tb g) (he : SE K X e te f) (ha : ∀ ov iv new, augStore b ov iv new = (do holding [new, ov, iv] (setItem ov iv new); release [new, ov, iv] []; pure .next) := by intros; rfl) (hK : X.K = K := by rfl) :
    SS K X (.AugAssign (.Subscript o b p2) op e pos) (tAugS (tVar i) tb te (rIxL K) tip rSetL) (dAugIx oo i g f) := by
  subst hK
  exact ⟨ps_augS hv hk.pe pget_list he.pe hp set_list ha, snd_augIx hpr hk.sn he.sn⟩
theorem ss_drop (he : SE K X e te f) (hs : swapsWith e none pos.line X.env = pure false := by rfl) : SS K X (.Expr e pos) (tDrop te) (dDrop f) := ⟨ps_expr he.pe hs, snd_drop he.sn⟩
theorem ss_ret (he : SE K X e te f) : SS K X (.Return (some e) pos) (tRet te) (dRet f) := ⟨ps_ret he.pe, snd_ret he.sn⟩
theorem ss_retN : SS K X (.Return none pos) tRetN dRetN := ⟨ps_retN, snd_retN⟩
theorem ss_if {s1 s2 : List Stmt} (hc : ST K X c t ft) (h1 : SSs K X s1 ts fs) (h2 : SSs K X s2 us gs) : SS K X (.If c s1 s2 pos) (tIfS t ts us) (dIfS ft fs gs) := ⟨ps_if hc.pe h1.pe h2.pe, snd_ifS hc.sn h1.sn h2.sn⟩
theorem ss_for {is : List Nat} {iter : Expr} {body : List Stmt} {wi : TI} {it : DI} {tgr : TG} {dg : DG} (hp : PassesOwn (model X.prog X.w) X.A X.env X.xe) (hc : X.calm = true) (hi : SI K X tg iter wi it) (hg : SG K X tg is tgr dg) (hb : SSs K X body ts fs) (hs : ∀ x, foldedSetIterable iter X.env x = pure x := by intro _; rfl) :
    SS K X (.For tg iter body [] pos) (tFor wi tgr ts) (dFor it dg fs) := ⟨ps_for hp hc hi.pe hg.pe hb.pe hs, snd_for hi.sn hg.sn hb.sn⟩
theorem ss_while {body : List Stmt} (hp : PassesOwn (model X.prog X.w) X.A X.env X.xe) (hc : ST K X c t ft) (hb : SSs K X body ts fs) : SS K X (.While c body [] pos) (tWhile t ts) (dWhile ft fs) := ⟨ps_while hp hc.pe hb.pe, snd_while hc.sn hb.sn⟩
end
end DL
end

section
set_option Elab.async false
set_option linter.all false
set_option maxRecDepth 100000
set_option maxHeartbeats 1000000
/-! DLmore: further rules: a op b op' c; max; bit_length; tuples' sums and parts; tuple(x); lists lent for one expression. -/
namespace DL
open PySem PySem.Spec PyProof.Rows L2
section
variable {K : PySem.W.Frag}
theorem snd_chain {r r' : R2} {op op' : D → D → Option Rv} {ta tb tc : TE} {f g h : DE} (hp : Prim2 K r op) (hp' : Prim2 K r' op') (a : SndE K ta f) (b : SndE K tb g) (c : SndE K tc h) : SndE K (tChain r r' ta tb tc) (dChain op op' f g h) := by
  intro H0 M st σ F H z st' Q S e q
  obtain ⟨p, e1, e⟩ := bs e
  obtain ⟨w, e2, e⟩ := bs e
  obtain ⟨x, e3, e⟩ := bs e
  obtain ⟨y, e4, e⟩ := bs e
  obtain ⟨u, e5, e⟩ := bs e
  refine a H0 M st σ F H p.1 p.2 _ S e1 fun v F1 H1 S1 E1 f1 r1 => ?_
  refine b H0 M p.2 σ F1 H1 w.1 w.2 _ S1 e2 fun v2 F2 H2 S2 E2 f2 r2 => ?_
  refine hp F2 H2 v v2 x y u _ (look_ok S2 (r1.weak.ext S1 E2 f2) e3) (look_ok S2 r2.weak e4) e5 fun v' H' s n => ?_
  obtain ⟨S3, E3, r3⟩ := fin_new S2 (E1.trans E2) s n
  obtain ⟨_, E3', _⟩ := fin_new S2 Ext.refl s n
  match u, e, n, r3 with
  | .d (.bool false), e, n, r3 =>
    cases e
    have hv : v' = .bl false := by cases n; rfl
    subst hv
    exact ⟨false, rfl, q _ F2 H' S3 E3 (f1.trans f2) (.bl _)⟩
  | .d (.bool true), e, n, r3 =>
    have hv : v' = .bl true := by cases n; rfl
    subst hv
    obtain ⟨w3, e6, e⟩ := bs e
    obtain ⟨y2, e7, e⟩ := bs e
    obtain ⟨u2, e8, e⟩ := bs e
    obtain ⟨z2, e9, e⟩ := bs e
    cases e
    refine ⟨true, rfl, ?_⟩
    refine c H0 M w.2 σ F2 H' w3.1 w3.2 _ S3 e6 fun v3 F4 H4 S4 E4 f4 r4 => ?_
    refine hp' F4 H4 v2 v3 y2 u2 z Q (look_ok S4 ((r2.weak.ext S2 E3' trivial).ext S3 E4 f4) e7) (look_ok S4 r4.weak e8) e9 fun v4 H5 s5 n5 => ?_
    obtain ⟨S5, E5, r5⟩ := fin_new S4 (E3.trans E4) s5 n5
    exact q v4 F4 H5 S5 E5 trivial r5
  | .d .none, e, _, _ => cases e
  | .d (.int _), e, _, _ => cases e
  | .d (.str _), e, _, _ => cases e
  | .d (.list _), e, _, _ => cases e
  | .d (.tuple _), e, _, _ => cases e
  | .d (.dict _), e, _, _ => cases e
  | .tmp _, e, _, _ => cases e
  | .sl _, e, _, _ => cases e
theorem freeze_getD (st : DSt) (i : Nat) : (freeze st).getD i none = fz (st.getD i none) := by
  unfold freeze
  rw [List.getD_eq_getElem?_getD, List.getD_eq_getElem?_getD, List.getElem?_map]
  cases st[i]? with
  | none => rfl
  | some o => rfl
theorem fz_own {o : Option SV} {xs : List D} : fz o ≠ some (.own xs) := by
  rcases o with _ | o
  · exact fun h => by cases h
  · cases o <;> exact fun h => by cases h
theorem fz_lent {o : Option SV} {xs : List D} : fz o ≠ some (.lent xs) := by
  rcases o with _ | o
  · exact fun h => by cases h
  · cases o <;> exact fun h => by cases h
theorem freeze_own {st : DSt} {i : Nat} : ¬ IsOwn (freeze st) i := by
  rintro ⟨xs, h | h⟩
  · rw [freeze_getD] at h
    exact fz_own h
  · rw [freeze_getD] at h
    exact fz_lent h
theorem Sim.freeze {H0 : Hp} {M : Nat → Option Addr} {st : DSt} {σ : L2.St} {F : Addr → Prop} {H : Hp} (S : Sim K H0 M st σ F H) : Sim K (fun _ => none) (fun _ => none) (freeze st) σ (fun a => F a ∨ OwnAt st σ a) H where
  len := by
    unfold DL.freeze
    rw [List.length_map]
    exact S.len
  dat := fun i x h => by
    rw [freeze_getD] at h
    have up : ∀ {a : Addr} {xs : List V}, FL K F H a xs → FL K (fun a => F a ∨ OwnAt st σ a) H a xs := fun {a xs} h => by
      rcases h with ⟨f, h⟩ | h
      · exact .inl ⟨.inl f, h⟩
      · exact .inr h
    cases e : st.getD i none with
    | none => rw [e] at h; cases h
    | some o =>
      rw [e] at h
      cases o with
      | d y =>
        cases h
        obtain ⟨v, h1, h2⟩ := S.dat i x e
        exact ⟨v, h1, h2.mono (fun _ _ => up) fun _ _ z => z⟩
      | own xs =>
        cases h
        obtain ⟨p, vs, h1, h2, h3, _⟩ := S.own i xs e
        exact ⟨.ref p, h1, .lst (.inl ⟨.inr ⟨i, ⟨xs, .inl e⟩, h1⟩, h2⟩) (h3.mono (fun _ _ => up) fun _ _ z => z)⟩
      | lent xs =>
        cases h
        obtain ⟨p, vs, _, h1, h2, h3, _⟩ := S.lent i xs e
        exact ⟨.ref p, h1, .lst (.inl ⟨.inr ⟨i, ⟨xs, .inr e⟩, h1⟩, h2⟩) (h3.mono (fun _ _ => up) fun _ _ z => z)⟩
  own := fun i xs h => absurd ⟨xs, .inl h⟩ freeze_own
  lent := fun i xs h => absurd ⟨xs, .inr h⟩ freeze_own
  lentE := fun _ _ h => by cases h
  lent0 := fun _ _ h => by cases h
  inj := fun i _ _ h => absurd h freeze_own
  frz := fun a h => by
    rcases h with h | h
    · exact S.frz a h
    · exact (S.atOwn h).1
  base := fun _ _ h => by cases h
theorem freeze_same {st : DSt} {σ : L2.St} {F F' : Addr → Prop} {H H' : Hp} {st' : DSt} (E : Ext (freeze st) σ F H st' F' H') : Same H H' := fun b u h => E.keep b u h fun ⟨i, o, _⟩ => freeze_own o
theorem snd_borrow {t : TE} {f : DE} (a : SndE K t f) : SndE K t (dBorrow f) := by
  intro H0 M st σ F H r st' Q S e q
  obtain ⟨p, e1, e⟩ := bs e
  refine a _ _ (freeze st) σ _ H p.1 p.2 _ S.freeze e1 fun v F' H' S' E' f' r' => ?_
  have s := freeze_same E'
  rcases p with ⟨pr, ps⟩
  cases pr with
  | d x =>
    have e : (if atomD x = true then some (Rv.d x, st) else none) = some (r, st') := e
    by_cases c : atomD x = true
    · rw [if_pos c] at e
      cases e
      refine q v F H' (S.grow s) (.grow s) trivial ?_
      have r2 : Rp K F' H' v x := r'
      show Rp K F H' v x
      cases r2 with
      | non => exact .non
      | bl b => exact .bl b
      | int i => exact .int i
      | str z => exact .str z
      | lst _ _ => cases c
      | tup _ _ => cases c
    · rw [if_neg c] at e
      cases e
  | tmp _ => cases e
  | sl _ => cases e
theorem snd_borrowT {t : TT} {f : DT} (a : SndT K t f) : SndT K t (dBorrowT f) := by
  intro H0 M st σ F H r st' Q S e q
  obtain ⟨p, e1, e⟩ := bs e
  cases e
  refine a _ _ (freeze st) σ _ H p.1 p.2 _ S.freeze e1 fun F' H' S' E' f' => ?_
  have s := freeze_same E'
  exact q F H' (S.grow s) (.grow s) trivial
def rMaxI : List V → Hp → VK → Prop := fun xs H Q => ∃ i j : Int, xs = [.int i, .int j] ∧ Q (.int (if j > i then j else i)) H
theorem call_maxI {X : Cx} (hc : X.calm = true) : CallR X (.builtin "max") rMaxI := call_max2 hc
theorem prim_max2 : PrimN K rMaxI bMax2 := by
  intro F H vs xs z Q a e q
  match xs, a, e with
  | [.int i, .int j], .cons a (.cons b .nil), e =>
    cases e
    have h1 := a.int
    have h2 := b.int
    subst h1 h2
    exact ⟨i, j, rfl, q _ H Same.rfl' (.int _)⟩
theorem snd_bits {t : TE} {f : DE} (a : SndE K t f) : SndE K (tBits t) (dOp1 opBits f) := by
  refine snd_op1 (r := fun x H1 Q => ∃ i, x = .int i ∧ Q (.int (Builtin.Int.intBits i : Nat)) H1) ?_ a
  intro F H v x z Q a e q
  cases x <;> try (cases e; done)
  cases e
  exact ⟨_, a.int, q _ H Same.rfl' (.int _)⟩
theorem prim_addT : Prim2 K (rCatA K) opAddT := by
  intro F H v w x y z Q a b e q
  cases x <;> cases y <;> try (cases e; done)
  rename_i i j
  have e : (if i.length + j.length ≤ sizeLine then some (Rv.d (.tuple (i ++ j))) else none) = some z := e
  by_cases c : i.length + j.length ≤ sizeLine
  · rw [if_pos c] at e
    cases e
    obtain ⟨p, vs, rfl, h1, r1⟩ := a.tup
    obtain ⟨p2, vs2, rfl, h2, r2⟩ := b.tup
    refine ⟨p, p2, vs, vs2, rfl, rfl, h1, h2, by rw [r1.length, r2.length]; exact c, fun hz => ?_, fun h0 hz => ?_, fun _ _ p hp => ?_⟩
    · subst hz
      cases r1
      exact q _ H Same.rfl' (.tup h2 r2)
    · subst hz
      cases r2
      refine q _ H Same.rfl' ?_
      show Rp K F H _ (.tuple (i ++ []))
      rw [List.append_nil]
      exact .tup h1 r1
    · exact q _ _ (same_upd hp) (.tup (SqT.of upd_same) ((r1.append r2).grow (same_upd hp)))
  · rw [if_neg c] at e
    cases e
theorem cutV_whole {xs : List V} {lo hi : Option Int} (h : HT.sIx xs.length 0 lo = 0 ∧ HT.sIx xs.length xs.length hi = xs.length) : cutV xs lo hi = xs := by
  unfold cutV
  rw [h.1, h.2]
  simp
theorem prim_sliceT : PrimS K (rSlA K) opSliceT := by
  intro F H v x lo hi z Q a e q
  cases x <;> try (cases e; done)
  rename_i ys
  cases e
  obtain ⟨p, vs, rfl, h1, r1⟩ := a.tup
  have r2 : RpAll K F H (cutV vs lo hi) (cutD ys lo hi) := by
    unfold cutV cutD
    rw [r1.length]
    exact (r1.drop _).take _
  refine ⟨p, vs, rfl, h1, fun hw => ?_, fun hw p hp => ?_⟩
  · rw [cutV_whole hw] at r2
    exact q _ H Same.rfl' (.tup h1 r2)
  · exact q _ _ (same_upd hp) (.tup (SqT.of upd_same) (r2.grow (same_upd hp)))
def CPowW (i j : Int) : Prop := 0 ≤ j ∧ (Builtin.Int.intBits i : Int) * j ≤ 2 ^ 27
theorem op_powW {X : Cx} : OpR X (binaryOp .Pow) (rI CPowW fun i j => .int (i ^ j.toNat)) := opI fun _ _ _ _ _ _ _ hc q => pow_int hc.1 hc.2 q
theorem prim_powW : Prim2 K (rI CPowW fun i j => .int (i ^ j.toNat)) opPowW := by
  intro F H v w x y z Q a b e q
  cases x <;> cases y <;> try (cases e; done)
  rename_i i j
  have e : (if 0 ≤ j ∧ (Builtin.Int.intBits i : Int) * j ≤ 2 ^ 27 then some (Rv.d (.int (i ^ j.toNat))) else none) = some z := e
  by_cases c : 0 ≤ j ∧ (Builtin.Int.intBits i : Int) * j ≤ 2 ^ 27
  · rw [if_pos c] at e
    cases e
    exact ⟨_, _, a.int, b.int, c, q _ H Same.rfl' (.int _)⟩
  · rw [if_neg c] at e
    cases e
def tIfT (t u w : TT) : TT := fun σ H Q => t σ H fun d H1 => if d = true then u σ H1 Q else w σ H1 Q
theorem pt_ifExp {X : Cx} {c a b : Expr} {pos : Pos} {t u w : TT} (hc : PT X c t) (ha : PT X a u) (hb : PT X b w) : PT X (.IfExp c a b pos) (tIfT t u w) := by
  refine ⟨fun pins s σ H Q I h => ?_⟩
  refine PyProof.Rows.isTrue_IfExp (thn (hc.run pins s σ H _ I h) fun d s1 ⟨H1, I1, q1⟩ => ?_)
  cases d with
  | true => exact ha.run pins s1 σ H1 Q I1 q1
  | false => exact hb.run pins s1 σ H1 Q I1 q1
theorem snd_ifT {t u w : TT} {c f g : DT} (a : SndT K t c) (b : SndT K u f) (d : SndT K w g) : SndT K (tIfT t u w) (dIfT c f g) := by
  intro H0 M st σ F H k st' Q S e q
  obtain ⟨p, e1, e⟩ := bs e
  refine a H0 M st σ F H p.1 p.2 _ S e1 fun F1 H1 S1 E1 f1 => ?_
  by_cases h : p.1 = true
  · rw [if_pos h] at e
    rw [if_pos h]
    exact b H0 M p.2 σ F1 H1 k st' _ S1 e fun F2 H2 S2 E2 f2 => q F2 H2 S2 (E1.trans E2) (f1.trans f2)
  · rw [if_neg h] at e
    rw [if_neg h]
    exact d H0 M p.2 σ F1 H1 k st' _ S1 e fun F2 H2 S2 E2 f2 => q F2 H2 S2 (E1.trans E2) (f1.trans f2)
theorem snd_asgO {i j : Nat} (hij : i ≠ j) {ta tb : TE} {f g : DE} (a : SndE K ta f) (b : SndE K tb g) :
    SndS K (tAsg (tTup (tCons ta (tCons tb tNil))) (L2.gTup K 2 (L2.gCons (L2.gName i) (L2.gCons (L2.gName j) L2.gNil)))) (dAsgO i j f g) := by
  intro H0 M st σ F H fl st' E S e q
  obtain ⟨p, e1, e⟩ := bs e
  obtain ⟨w, e2, e⟩ := bs e
  refine a H0 M st σ F H p.1 p.2 _ S e1 fun v1 F1 H1 S1 E1 f1 r1 => ?_
  refine b H0 M p.2 σ F1 H1 w.1 w.2 _ S1 e2 fun v2 F2 H2 S2 E2 f2 r2 => ?_
  refine ⟨by rw [sizeLine_eq]; simp, fun T hT => ⟨T, [v1, v2], rfl, SqT.of upd_same, rfl, v1, [v2], rfl, v2, [], rfl, ?_⟩⟩
  have same := same_upd (o := HO.tup [v1, v2]) hT
  rcases p with ⟨p1, ps⟩
  rcases w with ⟨w1, ws⟩
  match p1, w1, e, r1, r2 with
  | .d x, .tmp ys, e, r1, r2 =>
    have e : ((setS ws j (.own ys)).bind fun s => (setS s i (.d x)).bind fun s' => some (Fl.nx, s')) = some (fl, st') := e
    obtain ⟨s, e3, e⟩ := bs e
    obtain ⟨s2, e4, e⟩ := bs e
    cases e
    obtain ⟨hj, nl, rfl⟩ := setS_ok e3
    obtain ⟨hi, nl2, rfl⟩ := setS_ok e4
    obtain ⟨pa, vs, rfl, hb, hc, nf, no, h0⟩ := r2
    have S3 := S2.grow same
    have S4 := S3.setOwn hj nl (same _ _ hb) (hc.grow same) nf no (S1.fresh0 h0)
    have rp : Rp K F2 H2 v1 x := E2.rp S1 r1
    have S5 := S4.setD hi nl2 (rp.grow same)
    have E3 : Ext st σ F H ws F2 _ := (E1.trans E2).trans (.grow same)
    have := q _ F2 _ S5 (E3.fext S S3)
    rw [List.set_comm _ _ (Ne.symm hij)] at this
    exact ⟨rfl, this⟩
  | .tmp _, _, e, _, _ => cases e
  | .sl _, _, e, _, _ => cases e
  | .d _, .d _, e, _, _ => cases e
  | .d _, .sl _, e, _, _ => cases e
def rTupleC (K : PySem.W.Frag) : List V → Hp → VK → Prop := fun vs H Q => ∃ x, vs = [x] ∧ kTup K x H Q
theorem call_tupleC {X : Cx} : CallR X (.type "tuple") (rTupleC X.K) := by
  intro pins s σ H xs us Q I r h
  obtain ⟨x, rfl, q⟩ := h
  cases r with
  | cons r rr =>
    cases rr
    exact rl_tuple pins s σ H x _ Q I r q
theorem prim_tuple : PrimN K (rTupleC K) bTuple := by
  intro F H vs xs z Q a e q
  match xs, a, e with
  | [.list ys], .cons a .nil, e =>
    cases e
    obtain ⟨p, vs, rfl, h1, r1⟩ := a.list
    exact ⟨_, rfl, .inl ⟨p, vs, rfl, h1, fun p hp => q _ _ (same_upd hp) (.tup (SqT.of upd_same) (r1.grow (same_upd hp)))⟩⟩
  | [.tuple ys], .cons a .nil, e =>
    cases e
    obtain ⟨p, vs, rfl, h1, r1⟩ := a.tup
    exact ⟨_, rfl, .inr ⟨p, vs, rfl, h1, q _ H Same.rfl' (.tup h1 r1)⟩⟩
end
/-! rules -/
section
variable {K : PySem.W.Frag} {X : Cx} {a b c e o : Expr} {es : List Expr} {ta tb tc : TE} {f g h : DE} {pos p apos : Pos} {x : Str}
theorem se_chain {op op' : CmpOp} {r r' : R2} {o o' : D → D → Option Rv} (hp : Prim2 K r o) (ho : OpR X (compareOp op) r) (hp' : Prim2 K r' o') (ho' : OpR X (compareOp op') r') (ha : SE K X a ta f) (hb : SE K X b tb g) (hc : SE K X c tc h)
    (hm : lastMarks [op, op'] [b, c] = false := by with_unfolding_all rfl) : SE K X (.Compare a [op, op'] [b, c] pos) (tChain r r' ta tb tc) (dChain o o' f g h) := ⟨pe_chain ho ho' ha.pe hb.pe hc.pe hm, snd_chain hp hp' ha.sn hb.sn hc.sn⟩
theorem st_chain {op op' : CmpOp} {r r' : R2} {o o' : D → D → Option Rv} (hp : Prim2 K r o) (ho : OpR X (compareOp op) r) (hp' : Prim2 K r' o') (ho' : OpR X (compareOp op') r') (ha : SE K X a ta f) (hb : SE K X b tb g) (hc : SE K X c tc h)
    (hm : lastMarks [op, op'] [b, c] = false := by with_unfolding_all rfl) : ST K X (.Compare a [op, op'] [b, c] pos) (tTest (tChain r r' ta tb tc)) (dTest (dChain o o' f g h)) := ⟨pt_chain ho ho' ha.pe hb.pe hc.pe hm, snd_testC (snd_chain hp hp' ha.sn hb.sn hc.sn)⟩
theorem se_powW (ha : SE K X a ta f) (hb : SE K X b tb g) : SE K X (.BinOp a .Pow b pos) (tOp (rI CPowW fun i j => .int (i ^ j.toNat)) ta tb) (dOp2 opPowW f g) := se_op prim_powW op_powW ha hb
theorem st_if {t u w : TT} {dt du dw : DT} (hc : ST K X c t dt) (ha : ST K X a u du) (hb : ST K X b w dw) : ST K X (.IfExp c a b pos) (tIfT t u w) (dIfT dt du dw) := ⟨pt_ifExp hc.pe ha.pe hb.pe, snd_ifT hc.sn ha.sn hb.sn⟩
theorem se_borrow (ha : SE K X a ta f) : SE K X a ta (dBorrow f) := ⟨ha.pe, snd_borrow ha.sn⟩
theorem st_borrow {t : TT} {ft : DT} (ha : ST K X a t ft) : ST K X a t (dBorrowT ft) := ⟨ha.pe, snd_borrowT ha.sn⟩
theorem se_bits (ha : SE K X o ta f) (hbase : attributeBase o "bit_length" X.env (eval o X.env) = eval o X.env := by rfl) (hline : (apos.endLine == pos.line) = true := by rfl) : SE K X (.Call (.Attribute o "bit_length" apos) [] [] pos) (tBits ta) (dOp1 opBits f) := ⟨pe_bits ha.pe hbase hline, snd_bits ha.sn⟩
theorem se_addT (ha : SE K X a ta f) (hb : SE K X b tb g) (hK : X.K = K := by rfl) : SE K X (.BinOp a .Add b pos) (tOp (rCatA K) ta tb) (dOp2 opAddT f g) := by
  subst hK
  exact se_op prim_addT op_catA ha hb
theorem se_sliceT {lo hi : Option Expr} {p2 : Pos} {tl th : TO} {fl fh : DO} (ha : SE K X a ta f) (hl : SO K X lo tl fl) (hh : SO K X hi th fh) (hK : X.K = K := by rfl) : SE K X (.Subscript a (.Slice lo hi none p2) pos) (tSl (rSlA K) ta tl th) (dSlice opSliceT f fl fh) := by
  subst hK
  exact ⟨pe_slice sl_tupA ha.pe hl.pe hh.pe, snd_slice prim_sliceT ha.sn hl.sn hh.sn⟩
theorem ss_asgO {i j k2 : Nat} {tg : Expr} {pt2 : Pos} {dv : DE} {is : List Nat} {dg : DG} (hij : i ≠ j) (ha : SE K X a ta f) (hb : SE K X b tb g) (he : SE K X (.Tuple [a, b] k2 pt2) (tTup (tCons ta (tCons tb tNil))) dv) (hg : SG K X tg is (L2.gTup K 2 (L2.gCons (L2.gName i) (L2.gCons (L2.gName j) L2.gNil))) dg)
    (hs : swapsWithSole [tg] (.Tuple [a, b] k2 pt2) pos.line X.env = pure false := by rfl) (hw : swappedStores [tg] (.Tuple [a, b] k2 pt2) X.env = pure none := by rfl) (h1 : (assignEach [tg] X.env).map (·.2) = [assign tg X.env] := by rfl) :
    SS K X (.Assign [tg] (.Tuple [a, b] k2 pt2) pos) (tAsg (tTup (tCons ta (tCons tb tNil))) (L2.gTup K 2 (L2.gCons (L2.gName i) (L2.gCons (L2.gName j) L2.gNil)))) (dAsgO i j f g) := ⟨ps_asg he.pe hg.pe hs hw h1, snd_asgO hij ha.sn hb.sn⟩
end
end DL
end

section
set_option Elab.async false
set_option linter.all false
set_option maxRecDepth 100000
set_option maxHeartbeats 1000000
/-! DLend: what a walk printed by dl_gen wants besides: bindings, defs without a turn left, the law. -/
namespace DL
open PySem PySem.Spec PyProof.Rows L2
theorem dl_both {K : PySem.W.Frag} {X : Cx} {st : List Stmt} {t : TS} {f : DS} (h : SSs K X st t f) : PSs X st t ∧ SndS K t f := ⟨h.pe, h.sn⟩
section
variable {P : Program} {w : World} {K : PySem.W.Frag} {mg : Str → Option Value} {base : Heap} {x ql : Str} {st : Stmt} {f : Addr} {fd : FuncData} {ps ks : List Str} {n : Nat} {perm : List Nat}
theorem fnG_none {lv : Nat} (h : ps.length = n) : FnG P w K mg base CX0 lv f fd ps (spD K n fun _ => none) :=
  ⟨fun vs H Q E ⟨_, _, _, _, hl, _⟩ => hl.trans h.symm, fun A out s H args us vs Q E _ _ _ _ _ ⟨_, _, _, _, _, _, _, _, z, _⟩ => by cases z⟩
theorem fun_b (F : Fun K x ql st f fd) (h : ∀ (kV doc pm : Value) (an : Option Addr) (cdv ct : Value) (us : List Value), us.length = ps.length → bindArgs (PySem.W.fnOf x ql (defArgs st) (defBody st) (defScope st) .none kV doc pm an cdv ct) ⟨us, []⟩ = pure (ps.zip us)) : Binds K fd ps [] := L2.Fun.binds F h
theorem fun_kb (F : Fun K x ql st f fd) (h : ∀ (kV doc pm : Value) (an : Option Addr) (cdv ct : Value) (us ws : List Value), us.length = n → ws.length = ks.length → bindArgs (PySem.W.fnOf x ql (defArgs st) (defBody st) (defScope st) .none kV doc pm an cdv ct) ⟨us, ks.zip ws⟩ = pure (ps.zip (permute perm (us ++ ws ++ [])))) : KB K fd ps ks n perm [] := by
  obtain ⟨oc, od, kV, doc, pm, an, cdv, ct, osl, rfl, _, _⟩ := F.ex
  exact fun s us ws _ h1 h2 => .of_eq (h kV doc pm an cdv ct us ws h1 h2)
theorem funD_mk {dvs : List V} {oc : Value} {od an : Option Addr} {osl : Array (Option Value)} {kV doc pm cdv ct : Value} {T : Addr} {cT : Value} {dT : Option Addr} {its : List Value} {nT : Nat} {sT : Array (Option Value)}
    (l : K.lookup f = some ⟨oc, od, .func (PySem.W.fnOf x ql (defArgs st) (defBody st) (defScope st) (.ref T) kV doc pm an cdv ct), osl⟩) (c : PySem.W.codeIn K cdv ql = true) (k : PySem.W.keepIn K (.ref f) = true) (t : K.lookup T = some ⟨cT, dT, .seq its.toArray nT, sT⟩) (ne : dvs ≠ []) (v : Vals dvs its) :
    FunD K x ql (defArgs st) (defBody st) (defScope st) dvs [] f (PySem.W.fnOf x ql (defArgs st) (defBody st) (defScope st) (.ref T) kV doc pm an cdv ct) :=
  ⟨⟨oc, od, .ref T, kV, doc, pm, an, cdv, ct, osl, rfl, l, c, .inr ⟨ne, T, _, its, nT, rfl, t, rfl, v⟩, .inl rfl⟩, k⟩
theorem funD_b {T : Addr} {its ds : List Value} {cT : Value} {dT : Option Addr} {nT : Nat} {sT : Array (Option Value)} {fd : FuncData} (t : K.lookup T = some ⟨cT, dT, .seq its.toArray nT, sT⟩) (n : Nat) (hn : n + ds.length = ps.length) (hd : fd.defaults = .ref T)
    (h : ∀ us : List Value, us.length = n → ∃ k, bindArgs fd ⟨us, []⟩ = seqItems? fd.defaults >>= k ∧ k (some its.toArray) = pure (ps.zip (us ++ ds))) : Binds K fd ps ds := fun s us inK hl => by
  obtain ⟨k, h1, h2⟩ := h us (by rw [List.length_append] at hl; omega)
  exact PySem.W.binds_K inK hd t rfl h1 h2
theorem funD_kb {T : Addr} {its : List Value} {cT : Value} {dT : Option Addr} {nT : Nat} {sT : Array (Option Value)} {fd : FuncData} (t : K.lookup T = some ⟨cT, dT, .seq its.toArray nT, sT⟩) (hd : fd.defaults = .ref T)
    (h : ∀ us ws : List Value, us.length = n → ws.length = ks.length → ∃ k, bindArgs fd ⟨us, ks.zip ws⟩ = seqItems? fd.defaults >>= k ∧ k (some its.toArray) = pure (ps.zip (permute perm (us ++ ws ++ [])))) : KB K fd ps ks n perm [] := fun s us ws inK l1 l2 => by
  obtain ⟨k, h1, h2⟩ := h us ws l1 l2
  exact PySem.W.binds_K inK hd t rfl h1 h2
end
/-- the law's promise from its plain function -/
theorem law_want {K : PySem.W.Frag} {H : Hp} {a : Addr} {ns : List Int} {g : Fn} {n : Nat} {E : XK} (only : Only H) (sq : SqL K H a (ns.map V.int)) (short : ns.length ≤ n) (tr : ∀ ns : List Int, ns.length ≤ n → g [.d (.list (ns.map .int))] = some (.d (.bool true), [])) :
    spD K 1 g [.ref a] H (fun v _ => v = .bl true) E := by
  have fl : FL K (fun _ => False) H a (ns.map V.int) := by
    rcases sq with (z | ⟨o, z⟩) | z
    · rcases only a with c | ⟨o, xs, c⟩
      · rw [c] at z; cases z
      · rw [c] at z; cases z
    · exact .inr (.inl ⟨o, z⟩)
    · exact .inr (.inr (.inr z))
  have all : ∀ ns : List Int, RpAll K (fun _ => False) H (ns.map V.int) (ns.map PyData.int) := by
    intro ns
    induction ns with
    | nil => exact .nil
    | cons i r ih => exact .cons (.int i) ih
  refine ⟨fun _ => False, [.d (.list (ns.map .int))], .d (.bool true), [], rfl, .cons (.lst fl (all ns)) .nil, fun a h => h.elim, fun i j p h _ => ?_, tr ns short, fun v F' H' _ _ _ _ _ _ _ _ rt => ?_⟩
  · exact absurd h (by rw [show ([Ar.d (.list (ns.map .int))] : List Ar) = [PyData.list (ns.map .int)].map Ar.d from rfl, lentP_d]; exact fun z => by cases z)
  · have rt : Rp K F' H' v (.bool true) := rt
    cases rt
    rfl
end DL
end

section
set_option linter.all false
/-! DLsim: evaluation of the plain combinators by simp, from the head on: what comes after stands behind a name; loops. -/
namespace DL
open PySem
/-! ### what comes after -/
def kRet {α β : Type} (s : β) (z : α) : Option (α × β) := some (z, s)
def kPush {α β : Type} (x : α) (p : List α × β) : Option (List α × β) := some (x :: p.1, p.2)
def kOne {α : Type} (x : α) (xs : List α) : Option (List α) := some (x :: xs)
def kVar (o : Option SV) (i : Nat) (st : DSt) : Option (Rv × DSt) := match o with
  | some (.d x) => some (.d x, st)
  | some (.own _) => some (.sl i, st)
  | some (.lent _) => some (.sl i, st)
  | none => none
def kGive (o : Option SV) (i : Nat) (st : DSt) : Option (D × DSt) := match o with
  | some (.d x) => some (x, st)
  | some (.own xs) => some (.list xs, st.set i (some (.d (.list xs))))
  | _ => none
def kLooks (st : DSt) (rs : List Rv) (x : D) : Option (List D) := (looks st rs).bind (kOne x)
def kToDs (rs : List Rv) (p : D × DSt) : Option (List D × DSt) := (toDs p.2 rs).bind (kPush p.1)
def kCons (g : DA) (p : Rv × DSt) : Option (List Rv × DSt) := (g p.2).bind (kPush p.1)
def kOp2d (op : D → D → Option Rv) (x : D) (s : DSt) (y : D) : Option (Rv × DSt) := (op x y).bind (kRet s)
def kOp2c (op : D → D → Option Rv) (o : Option D) (s : DSt) (x : D) : Option (Rv × DSt) := o.bind (kOp2d op x s)
def kOp2b (op : D → D → Option Rv) (r : Rv) (q : Rv × DSt) : Option (Rv × DSt) := (look q.2 r).bind (kOp2c op (look q.2 q.1) q.2)
def kOp2 (op : D → D → Option Rv) (g : DE) (p : Rv × DSt) : Option (Rv × DSt) := (g p.2).bind (kOp2b op p.1)
def kOp1b (op : D → Option Rv) (s : DSt) (x : D) : Option (Rv × DSt) := (op x).bind (kRet s)
def kOp1 (op : D → Option Rv) (p : Rv × DSt) : Option (Rv × DSt) := (look p.2 p.1).bind (kOp1b op p.2)
def kCallBb (op : List D → Option Rv) (s : DSt) (xs : List D) : Option (Rv × DSt) := (op xs).bind (kRet s)
def kCallB (op : List D → Option Rv) (p : List Rv × DSt) : Option (Rv × DSt) := (looks p.2 p.1).bind (kCallBb op p.2)
def kSld (op : D → Option Int → Option Int → Option Rv) (l h : Option Int) (s : DSt) (x : D) : Option (Rv × DSt) := (op x l h).bind (kRet s)
def kSlc (op : D → Option Int → Option Int → Option Rv) (r : Rv) (l : Option Int) (h : Option Int × DSt) : Option (Rv × DSt) := (look h.2 r).bind (kSld op l h.1 h.2)
def kSlb (op : D → Option Int → Option Int → Option Rv) (r : Rv) (hi : DO) (l : Option Int × DSt) : Option (Rv × DSt) := (hi l.2).bind (kSlc op r l.1)
def kSl (op : D → Option Int → Option Int → Option Rv) (lo hi : DO) (p : Rv × DSt) : Option (Rv × DSt) := (lo p.2).bind (kSlb op p.1 hi)
def kPartb (o : Option D) (s : DSt) : Option (Option Int × DSt) := match o with
  | some (.int i) => some (some i, s)
  | _ => none
def kPart (p : Rv × DSt) : Option (Option Int × DSt) := kPartb (look p.2 p.1) p.2
def kListb (q : List D × DSt) : Option (Rv × DSt) := if q.1.length ≤ sizeLine then some (.tmp q.1, q.2) else none
def kList (p : List Rv × DSt) : Option (Rv × DSt) := (toDs p.2 p.1).bind kListb
def kTupb (q : List D × DSt) : Option (Rv × DSt) := if q.1.length ≤ sizeLine then some (.d (.tuple q.1), q.2) else none
def kTup (p : List Rv × DSt) : Option (Rv × DSt) := (toDs p.2 p.1).bind kTupb
def kTestb (o : Option D) (s : DSt) : Option (Bool × DSt) := match o with
  | some (.bool b) => some (b, s)
  | _ => none
def kTest (p : Rv × DSt) : Option (Bool × DSt) := kTestb (look p.2 p.1) p.2
def kNot (p : Bool × DSt) : Option (Bool × DSt) := some (!p.1, p.2)
def kAnd (g : DT) (p : Bool × DSt) : Option (Bool × DSt) := if p.1 = true then g p.2 else some (false, p.2)
def kOr (g : DT) (p : Bool × DSt) : Option (Bool × DSt) := if p.1 = true then some (true, p.2) else g p.2
def kAndVb (g : DE) (o : Option D) (s : DSt) : Option (Rv × DSt) := match o with
  | some (.bool b) => if b = true then g s else some (.d (.bool false), s)
  | _ => none
def kAndV (g : DE) (p : Rv × DSt) : Option (Rv × DSt) := kAndVb g (look p.2 p.1) p.2
def kOrVb (g : DE) (o : Option D) (s : DSt) : Option (Rv × DSt) := match o with
  | some (.bool b) => if b = true then some (.d (.bool true), s) else g s
  | _ => none
def kOrV (g : DE) (p : Rv × DSt) : Option (Rv × DSt) := kOrVb g (look p.2 p.1) p.2
def kNotVb (o : Option D) (s : DSt) : Option (Rv × DSt) := match o with
  | some (.bool b) => some (.d (.bool (!b)), s)
  | _ => none
def kNotV (p : Rv × DSt) : Option (Rv × DSt) := kNotVb (look p.2 p.1) p.2
def kIf {α : Type} (f g : DSt → Option α) (p : Bool × DSt) : Option α := if p.1 = true then f p.2 else g p.2
def kM (rs : List (Rv × Bool)) (p : D × DSt) : Option (List (Sum D Nat) × DSt) := (marsh p.2 rs).bind (kPush (.inl p.1))
def kLentAt (o : Option SV) : Option Ar := match o with
  | some (.own xs) => some (.m xs)
  | some (.lent xs) => some (.m xs)
  | _ => none
def kLents (st : DSt) (r : List (Sum D Nat)) (x : Ar) : Option (List Ar) := (lents st r).bind (kOne x)
def kPutBack (o : Option SV) (st : DSt) (i : Nat) (is : List Nat) (xs : List D) (r : List (List D)) : Option DSt := match o with
  | some (.own _) => putBack (st.set i (some (.own xs))) is r
  | some (.lent _) => putBack (st.set i (some (.lent xs))) is r
  | _ => none
def kCalld (r : Rt) (st : DSt) : Option (Rv × DSt) := some (rvOf r, st)
def kCallc (st : DSt) (is : List Nat) (r : Rt × List (List D)) : Option (Rv × DSt) := (putBack st is r.2).bind (kCalld r.1)
def kCallb (g : Fn) (more : List Ar) (st : DSt) (is : List Nat) (as : List Ar) : Option (Rv × DSt) := (g (as ++ more)).bind (kCallc st is)
def kCalla (g : Fn) (more : List Ar) (n k : Nat) (q : List (Sum D Nat) × DSt) : Option (Rv × DSt) := if (lentIx q.1).length ≤ 1 ∧ n = k then (lents q.2 q.1).bind (kCallb g more q.2 (lentIx q.1)) else none
def kCall (g : Fn) (modes : List Bool) (more : List D) (p : List Rv × DSt) : Option (Rv × DSt) := (marsh p.2 (p.1.zip modes)).bind (kCalla g (more.map Ar.d) p.1.length modes.length)
def kCallKd (s : DSt) (r : Rt × List (List D)) : Option (Rv × DSt) := some (rvOf r.1, s)
def kCallKc (g : Fn) (perm : List Nat) (more : List D) (c : Prop) [Decidable c] (q : List D × DSt) : Option (Rv × DSt) := if c then (g ((permute perm (q.1 ++ more)).map Ar.d)).bind (kCallKd q.2) else none
def kCallKb (g : Fn) (n m : Nat) (perm : List Nat) (more : List D) (rs : List Rv) (p2 : List Rv × DSt) : Option (Rv × DSt) := (toDs p2.2 (rs ++ p2.1)).bind (kCallKc g perm more (rs.length = n ∧ p2.1.length = m))
def kCallK (g : Fn) (n m : Nat) (perm : List Nat) (more : List D) (f2 : DA) (p : List Rv × DSt) : Option (Rv × DSt) := (f2 p.2).bind (kCallKb g n m perm more p.1)
def kIterb (op : D → Option (List D)) (q : D × DSt) : Option (List D × DSt) := (op q.1).bind (kRet q.2)
def kIter (op : D → Option (List D)) (p : Rv × DSt) : Option (List D × DSt) := (toD p.2 p.1).bind (kIterb op)
def kIterAb (op : List D → Option (List D)) (q : List D × DSt) : Option (List D × DSt) := (op q.1).bind (kRet q.2)
def kIterA (op : List D → Option (List D)) (p : List Rv × DSt) : Option (List D × DSt) := (toDs p.2 p.1).bind (kIterAb op)
def kSetS (o : Option SV) (st : DSt) (i : Nat) (v : SV) : Option DSt := match o with
  | some (.lent _) => none
  | _ => if i < st.length then some (st.set i (some v)) else none
def kFree (o : Option SV) : Bool := match o with | none => true | some (.d _) => true | _ => false
def kLcEnd (s0 : DSt) (vs : List Nat) (q : List D × DSt) : Option (Rv × DSt) := some (.tmp q.1, refill s0 q.2 vs)
def kLc (g : DG) (t : DT) (e : DE) (vs : List Nat) (p : List D × DSt) : Option (Rv × DSt) :=
  if p.1.length ≤ sizeLine ∧ vs.all (fun i => kFree (p.2.getD i none)) = true then (lcGo g t e vs p.1 (wipeD p.2 vs)).bind (kLcEnd p.2 vs) else none
def kLcTurnE (g : DG) (t : DT) (e : DE) (vs : List Nat) (xs : List D) (r : D × DSt) : Option (List D × DSt) := (lcGo g t e vs xs (wipeD r.2 vs)).bind (kPush r.1)
def kLcTurnD (g : DG) (t : DT) (e : DE) (vs : List Nat) (xs : List D) (q : Rv × DSt) : Option (List D × DSt) := (toD q.2 q.1).bind (kLcTurnE g t e vs xs)
def kLcTurnT (g : DG) (t : DT) (e : DE) (vs : List Nat) (xs : List D) (p : Bool × DSt) : Option (List D × DSt) :=
  if p.1 = true then (e p.2).bind (kLcTurnD g t e vs xs) else lcGo g t e vs xs (wipeD p.2 vs)
def kLcTurn (g : DG) (t : DT) (e : DE) (vs : List Nat) (xs : List D) (s1 : DSt) : Option (List D × DSt) := (t s1).bind (kLcTurnT g t e vs xs)
def kSeq (g : DS) (p : Fl × DSt) : Option (Fl × DSt) := match p.1 with
  | .nx => g p.2
  | _ => some p
def kNx (s : DSt) : Option (Fl × DSt) := some (.nx, s)
def kSetD (i : Nat) (q : D × DSt) : Option (Fl × DSt) := (setS q.2 i (.d q.1)).bind kNx
def kSet (i : Nat) (p : Rv × DSt) : Option (Fl × DSt) := match p.1 with
  | .tmp xs => (setS p.2 i (.own xs)).bind kNx
  | r => (toD p.2 r).bind (kSetD i)
def kAsgb (g : DG) (q : D × DSt) : Option (Fl × DSt) := (g q.1 q.2).bind kNx
def kAsg (g : DG) (p : Rv × DSt) : Option (Fl × DSt) := (toD p.2 p.1).bind (kAsgb g)
def kParb (is : List Nat) (q : List D × DSt) : Option (Fl × DSt) := (dPar.parGo is q.1 q.2).bind kNx
def kPar (is : List Nat) (p : List Rv × DSt) : Option (Fl × DSt) := (toDs p.2 p.1).bind (kParb is)
def kParGo (is : List Nat) (xs : List D) (s : DSt) : Option DSt := dPar.parGo is xs s
def kAugOut (o : Option Rv) (s : DSt) (i : Nat) : Option (Fl × DSt) := match o with
  | some (.d z) => (setS s i (.d z)).bind kNx
  | _ => none
def kAugc (op : D → D → Option Rv) (i : Nat) (x : D) (s : DSt) (y : D) : Option (Fl × DSt) := kAugOut (op x y) s i
def kAugb (op : D → D → Option Rv) (i : Nat) (v : Rv) (p : Rv × DSt) : Option (Fl × DSt) := match v with
  | .d x => (look p.2 p.1).bind (kAugc op i x p.2)
  | _ => none
def kAug (op : D → D → Option Rv) (i : Nat) (f : DE) (v : Rv × DSt) : Option (Fl × DSt) := (f v.2).bind (kAugb op i v.1)
def kPutL (o : Option SV) (st : DSt) (i : Nat) (xs : List D) : Option DSt := match o with
  | some (.own _) => some (st.set i (some (.own xs)))
  | some (.lent _) => some (st.set i (some (.lent xs)))
  | _ => none
def kGetL (o : Option SV) : Option (List D) := match o with
  | some (.own xs) => some xs
  | some (.lent xs) => some xs
  | _ => none
def kAppc (i : Nat) (x : D) (s : DSt) (xs : List D) : Option (Fl × DSt) := if xs.length < sizeLine then (putL s i (xs ++ [x])).bind kNx else none
def kAppb (i : Nat) (q : D × DSt) : Option (Fl × DSt) := (getL q.2 i).bind (kAppc i q.1 q.2)
def kAppa (i : Nat) (p : Rv × DSt) : Option (Fl × DSt) := (toD p.2 p.1).bind (kAppb i)
def kApp (i : Nat) (f : DE) (st : DSt) (_ : List D) : Option (Fl × DSt) := (f st).bind (kAppa i)
def kSxe (i : Nat) (x : D) (s : DSt) (xs : List D) (n : Nat) : Option (Fl × DSt) := (putL s i (xs.set n x)).bind kNx
def kSxd (i : Nat) (x : D) (s : DSt) (j : Int) (xs : List D) : Option (Fl × DSt) := (ixAt xs j).bind (kSxe i x s xs)
def kSxc (i : Nat) (x : D) (o : Option D) (s : DSt) : Option (Fl × DSt) := match o with
  | some (.int j) => (getL s i).bind (kSxd i x s j)
  | _ => none
def kSxb (i : Nat) (x : D) (r : Rv × DSt) : Option (Fl × DSt) := kSxc i x (look r.2 r.1) r.2
def kSxa2 (i : Nat) (k : DE) (q : D × DSt) (_ : List D) : Option (Fl × DSt) := (k q.2).bind (kSxb i q.1)
def kSxa (i : Nat) (k : DE) (q : D × DSt) : Option (Fl × DSt) := (getL q.2 i).bind (kSxa2 i k q)
def kSx (i : Nat) (k : DE) (p : Rv × DSt) : Option (Fl × DSt) := (toD p.2 p.1).bind (kSxa i k)
def kAxi (i : Nat) (z : D) (s : DSt) (ys : List D) (n : Nat) : Option (Fl × DSt) := (putL s i (ys.set n z)).bind kNx
def kAxh (i : Nat) (z : D) (s : DSt) (j : Int) (ys : List D) : Option (Fl × DSt) := (ixAt ys j).bind (kAxi i z s ys)
def kAxg (o : Option Rv) (i : Nat) (s : DSt) (j : Int) : Option (Fl × DSt) := match o with
  | some (.d z) => (getL s i).bind (kAxh i z s j)
  | _ => none
def kAxf (op : D → D → Option Rv) (i : Nat) (j : Int) (x : D) (s : DSt) (y : D) : Option (Fl × DSt) := kAxg (op x y) i s j
def kAxe (op : D → D → Option Rv) (i : Nat) (j : Int) (x : D) (p : Rv × DSt) : Option (Fl × DSt) := (look p.2 p.1).bind (kAxf op i j x p.2)
def kAxd (op : D → D → Option Rv) (i : Nat) (f : DE) (j : Int) (s : DSt) (x : D) : Option (Fl × DSt) := (f s).bind (kAxe op i j x)
def kAxc (op : D → D → Option Rv) (i : Nat) (f : DE) (j : Int) (s : DSt) (xs : List D) (n : Nat) : Option (Fl × DSt) := (xs[n]?).bind (kAxd op i f j s)
def kAxb (op : D → D → Option Rv) (i : Nat) (f : DE) (j : Int) (s : DSt) (xs : List D) : Option (Fl × DSt) := (ixAt xs j).bind (kAxc op i f j s xs)
def kAxa (op : D → D → Option Rv) (i : Nat) (f : DE) (o : Option D) (s : DSt) : Option (Fl × DSt) := match o with
  | some (.int j) => (getL s i).bind (kAxb op i f j s)
  | _ => none
def kAx2 (op : D → D → Option Rv) (i : Nat) (f : DE) (r : Rv × DSt) : Option (Fl × DSt) := kAxa op i f (look r.2 r.1) r.2
def kAx (op : D → D → Option Rv) (i : Nat) (k f : DE) (st : DSt) (_ : List D) : Option (Fl × DSt) := (k st).bind (kAx2 op i f)
def kDrop (p : Rv × DSt) : Option (Fl × DSt) := some (.nx, p.2)
def kRetSl (o : Option SV) (s : DSt) (i : Nat) : Option (Fl × DSt) := match o with
  | some (.d x) => some (.rt (.d x), s)
  | some (.own xs) => some (.rt (.own xs), s.set i none)
  | _ => none
def kRetv (p : Rv × DSt) : Option (Fl × DSt) := match p.1 with
  | .d x => some (.rt (.d x), p.2)
  | .tmp xs => some (.rt (.own xs), p.2)
  | .sl i => kRetSl (p.2.getD i none) p.2 i
def kForb (g : DG) (b : DS) (xs : List D) (p : Fl × DSt) : Option (Fl × DSt) := match p.1 with
  | .nx => forGo g b xs p.2
  | .ct => forGo g b xs p.2
  | .bk => some (.nx, p.2)
  | .rt r => some (.rt r, p.2)
def kFora (g : DG) (b : DS) (xs : List D) (s : DSt) : Option (Fl × DSt) := (b s).bind (kForb g b xs)
def kFor (g : DG) (b : DS) (p : List D × DSt) : Option (Fl × DSt) := forGo g b p.1 p.2
def kOuts (xs : List D) (o : List (List D)) : Option (List (List D)) := some (xs :: o)
def kOutsM (o : Option SV) (st : DSt) (r : List Ar) (i : Nat) : Option (List (List D)) := match o with
  | some (.lent xs) => (outsGo st r (i + 1)).bind (kOuts xs)
  | _ => none
def kRunb (f : Fl) (o : List (List D)) : Option (Rt × List (List D)) := match f with
  | .nx => some (.d .none, o)
  | .rt r => some (r, o)
  | _ => none
def kRun (as : List Ar) (p : Fl × DSt) : Option (Rt × List (List D)) := (outsGo p.2 as 0).bind (kRunb p.1)
def kGs (h : DGs) (r : List D) (s : DSt) : Option DSt := h r s
/-- one after the other; simp never looks ahead -/
def obind {α β : Type} (x : Option α) (f : α → Option β) : Option β := x.bind f
@[simp] theorem obind_some {α β : Type} (a : α) (f : α → Option β) : obind (some a) f = f a := (rfl)
@[simp] theorem obind_none {α β : Type} (f : α → Option β) : obind none f = none := (rfl)
section
variable (st s : DSt)
@[simp] theorem kRet_ap {α β : Type} (s : β) (z : α) : kRet s z = some (z, s) := (rfl)
@[simp] theorem kPush_ap {α β : Type} (x : α) (xs : List α) (s : β) : kPush x (xs, s) = some (x :: xs, s) := (rfl)
@[simp] theorem kOne_ap {α : Type} (x : α) (xs : List α) : kOne x xs = some (x :: xs) := (rfl)
@[simp] theorem lookS_d (x) : lookS (some (.d x)) = some x := (rfl)
@[simp] theorem lookS_own (x) : lookS (some (.own x)) = some (.list x) := (rfl)
@[simp] theorem lookS_lent (x) : lookS (some (.lent x)) = some (.list x) := (rfl)
@[simp] theorem look_d (x) : look st (.d x) = some x := (rfl)
@[simp] theorem look_tmp (x) : look st (.tmp x) = some (.list x) := (rfl)
@[simp] theorem look_sl (i) : look st (.sl i) = lookS (st.getD i none) := (rfl)
@[simp] theorem looks_nil : looks st [] = some [] := (rfl)
@[simp] theorem looks_cons (r rs) : looks st (r :: rs) = obind (look st r) (kLooks st rs) := (rfl)
@[simp] theorem kLooks_ap (rs x) : kLooks st rs x = obind (looks st rs) (kOne x) := (rfl)
@[simp] theorem kGive_d (x i) : kGive (some (.d x)) i st = some (x, st) := (rfl)
@[simp] theorem kGive_own (xs i) : kGive (some (.own xs)) i st = some (.list xs, st.set i (some (.d (.list xs)))) := (rfl)
@[simp] theorem toD_d (x) : toD st (.d x) = some (x, st) := (rfl)
@[simp] theorem toD_tmp (x) : toD st (.tmp x) = some (.list x, st) := (rfl)
@[simp] theorem toD_sl (i) : toD st (.sl i) = kGive (st.getD i none) i st := (rfl)
@[simp] theorem toDs_nil : toDs st [] = some ([], st) := (rfl)
@[simp] theorem toDs_cons (r rs) : toDs st (r :: rs) = obind (toD st r) (kToDs rs) := (rfl)
@[simp] theorem kToDs_ap (rs x) : kToDs rs (x, s) = obind (toDs s rs) (kPush x) := (rfl)
@[simp] theorem dVar_ap (i) : dVar i st = kVar (st.getD i none) i st := (rfl)
@[simp] theorem kVar_d (x i) : kVar (some (.d x)) i st = some (.d x, st) := (rfl)
@[simp] theorem kVar_own (x i) : kVar (some (.own x)) i st = some (.sl i, st) := (rfl)
@[simp] theorem kVar_lent (x i) : kVar (some (.lent x)) i st = some (.sl i, st) := (rfl)
@[simp] theorem dC_ap (x) : dC x st = some (.d x, st) := (rfl)
@[simp] theorem dNil_ap : dNil st = some ([], st) := (rfl)
@[simp] theorem dCons_ap (f g) : dCons f g st = obind (f st) (kCons g) := (rfl)
@[simp] theorem kCons_ap (g r) : kCons g (r, s) = obind (g s) (kPush r) := (rfl)
@[simp] theorem dOp2_ap (op f g) : dOp2 op f g st = obind (f st) (kOp2 op g) := (rfl)
@[simp] theorem kOp2_ap (op g r) : kOp2 op g (r, s) = obind (g s) (kOp2b op r) := (rfl)
@[simp] theorem kOp2b_ap (op r r2) : kOp2b op r (r2, s) = obind (look s r) (kOp2c op (look s r2) s) := (rfl)
@[simp] theorem kOp2c_ap (op o x) : kOp2c op o s x = obind o (kOp2d op x s) := (rfl)
@[simp] theorem kOp2d_ap (op x y) : kOp2d op x s y = obind (op x y) (kRet s) := (rfl)
@[simp] theorem dOp1_ap (op f) : dOp1 op f st = obind (f st) (kOp1 op) := (rfl)
@[simp] theorem kOp1_ap (op r) : kOp1 op (r, s) = obind (look s r) (kOp1b op s) := (rfl)
@[simp] theorem kOp1b_ap (op x) : kOp1b op s x = obind (op x) (kRet s) := (rfl)
@[simp] theorem dCallB_ap (op f) : dCallB op f st = obind (f st) (kCallB op) := (rfl)
@[simp] theorem kCallB_ap (op rs) : kCallB op (rs, s) = obind (looks s rs) (kCallBb op s) := (rfl)
@[simp] theorem kCallBb_ap (op xs) : kCallBb op s xs = obind (op xs) (kRet s) := (rfl)
@[simp] theorem dSlice_ap (op f lo hi) : dSlice op f lo hi st = obind (f st) (kSl op lo hi) := (rfl)
@[simp] theorem kSl_ap (op lo hi r) : kSl op lo hi (r, s) = obind (lo s) (kSlb op r hi) := (rfl)
@[simp] theorem kSlb_ap (op r hi l) : kSlb op r hi (l, s) = obind (hi s) (kSlc op r l) := (rfl)
@[simp] theorem kSlc_ap (op r l h) : kSlc op r l (h, s) = obind (look s r) (kSld op l h s) := (rfl)
@[simp] theorem kSld_ap (op l h x) : kSld op l h s x = obind (op x l h) (kRet s) := (rfl)
@[simp] theorem dNoPart_ap : dNoPart st = some (none, st) := (rfl)
@[simp] theorem dPart_ap (f) : dPart f st = obind (f st) kPart := (rfl)
@[simp] theorem kPart_ap (r) : kPart (r, s) = kPartb (look s r) s := (rfl)
@[simp] theorem kPartb_i (i) : kPartb (some (.int i)) s = some (some i, s) := (rfl)
@[simp] theorem dList_ap (f) : dList f st = obind (f st) kList := (rfl)
@[simp] theorem kList_ap (rs) : kList (rs, s) = obind (toDs s rs) kListb := (rfl)
@[simp] theorem kListb_ap (xs) : kListb (xs, s) = if xs.length ≤ sizeLine then some (.tmp xs, s) else none := (rfl)
@[simp] theorem dTup_ap (f) : dTup f st = obind (f st) kTup := (rfl)
@[simp] theorem kTup_ap (rs) : kTup (rs, s) = obind (toDs s rs) kTupb := (rfl)
@[simp] theorem kTupb_ap (xs) : kTupb (xs, s) = if xs.length ≤ sizeLine then some (.d (.tuple xs), s) else none := (rfl)
@[simp] theorem dTest_ap (f) : dTest f st = obind (f st) kTest := (rfl)
@[simp] theorem kTest_ap (r) : kTest (r, s) = kTestb (look s r) s := (rfl)
@[simp] theorem kTestb_b (b) : kTestb (some (.bool b)) s = some (b, s) := (rfl)
@[simp] theorem dNot_ap (f) : dNot f st = obind (f st) kNot := (rfl)
@[simp] theorem kNot_ap (b) : kNot (b, s) = some (!b, s) := (rfl)
@[simp] theorem dAnd_ap (f g) : dAnd f g st = obind (f st) (kAnd g) := (rfl)
@[simp] theorem kAnd_ap (g b) : kAnd g (b, s) = if b = true then g s else some (false, s) := (rfl)
@[simp] theorem dOr_ap (f g) : dOr f g st = obind (f st) (kOr g) := (rfl)
@[simp] theorem kOr_ap (g b) : kOr g (b, s) = if b = true then some (true, s) else g s := (rfl)
@[simp] theorem dAndV_ap (f g) : dAndV f g st = obind (f st) (kAndV g) := (rfl)
@[simp] theorem kAndV_ap (g r) : kAndV g (r, s) = kAndVb g (look s r) s := (rfl)
@[simp] theorem kAndVb_b (g b) : kAndVb g (some (.bool b)) s = if b = true then g s else some (.d (.bool false), s) := (rfl)
@[simp] theorem dOrV_ap (f g) : dOrV f g st = obind (f st) (kOrV g) := (rfl)
@[simp] theorem kOrV_ap (g r) : kOrV g (r, s) = kOrVb g (look s r) s := (rfl)
@[simp] theorem kOrVb_b (g b) : kOrVb g (some (.bool b)) s = if b = true then some (.d (.bool true), s) else g s := (rfl)
@[simp] theorem dNotV_ap (f) : dNotV f st = obind (f st) kNotV := (rfl)
@[simp] theorem kNotV_ap (r) : kNotV (r, s) = kNotVb (look s r) s := (rfl)
@[simp] theorem kNotVb_b (b) : kNotVb (some (.bool b)) s = some (.d (.bool (!b)), s) := (rfl)
@[simp] theorem dIf_ap (t f g) : dIf t f g st = obind (t st) (kIf f g) := (rfl)
@[simp] theorem kIf_ap {α : Type} (f g : DSt → Option α) (b) : kIf f g (b, s) = if b = true then f s else g s := (rfl)
@[simp] theorem marsh_nil : marsh st [] = some ([], st) := (rfl)
@[simp] theorem marsh_false (r rs) : marsh st ((r, false) :: rs) = obind (toD st r) (kM rs) := by
  rw [marsh]
  rfl
@[simp] theorem kM_ap (rs x) : kM rs (x, s) = obind (marsh s rs) (kPush (.inl x)) := (rfl)
@[simp] theorem marsh_true (i rs) : marsh st ((.sl i, true) :: rs) = obind (marsh st rs) (kPush (.inr i)) := by
  rw [marsh]
  rfl
@[simp] theorem lentAt_l (x) : lentAt st (.inl x) = some (.d x) := (rfl)
@[simp] theorem lentAt_r (i) : lentAt st (.inr i) = kLentAt (st.getD i none) := (rfl)
@[simp] theorem kLentAt_own (xs) : kLentAt (some (.own xs)) = some (.m xs) := (rfl)
@[simp] theorem kLentAt_lent (xs) : kLentAt (some (.lent xs)) = some (.m xs) := (rfl)
@[simp] theorem lents_nil : lents st [] = some [] := (rfl)
@[simp] theorem lents_cons (a r) : lents st (a :: r) = obind (lentAt st a) (kLents st r) := (rfl)
@[simp] theorem kLents_ap (r x) : kLents st r x = obind (lents st r) (kOne x) := (rfl)
@[simp] theorem lentIx_nil : lentIx [] = [] := (rfl)
@[simp] theorem lentIx_l (x r) : lentIx (.inl x :: r) = lentIx r := (rfl)
@[simp] theorem lentIx_r (x r) : lentIx (.inr x :: r) = x :: lentIx r := (rfl)
@[simp] theorem putBack_nil : putBack st [] [] = some st := (rfl)
@[simp] theorem putBack_cons (i is xs r) : putBack st (i :: is) (xs :: r) = kPutBack (st.getD i none) st i is xs r := by
  rw [putBack]
  rfl
@[simp] theorem kPutBack_own (ys i is xs r) : kPutBack (some (.own ys)) st i is xs r = putBack (st.set i (some (.own xs))) is r := (rfl)
@[simp] theorem kPutBack_lent (ys i is xs r) : kPutBack (some (.lent ys)) st i is xs r = putBack (st.set i (some (.lent xs))) is r := (rfl)
@[simp] theorem rvOf_d (x) : rvOf (.d x) = .d x := (rfl)
@[simp] theorem rvOf_own (x) : rvOf (.own x) = .tmp x := (rfl)
@[simp] theorem dCall_ap (g modes more f) : dCall g modes more f st = obind (f st) (kCall g modes more) := (rfl)
@[simp] theorem kCall_ap (g modes more rs) : kCall g modes more (rs, s) = obind (marsh s (rs.zip modes)) (kCalla g (more.map Ar.d) rs.length modes.length) := (rfl)
@[simp] theorem kCalla_ap (g more n k as) : kCalla g more n k (as, s) = if (lentIx as).length ≤ 1 ∧ n = k then obind (lents s as) (kCallb g more s (lentIx as)) else none := (rfl)
@[simp] theorem kCallb_ap (g more is as) : kCallb g more s is as = obind (g (as ++ more)) (kCallc s is) := (rfl)
@[simp] theorem kCallc_ap (is r o) : kCallc s is (r, o) = obind (putBack s is o) (kCalld r) := (rfl)
@[simp] theorem kCalld_ap (r) : kCalld r s = some (rvOf r, s) := (rfl)
@[simp] theorem dCallK_ap (g n m perm more f f2) : dCallK g n m perm more f f2 st = obind (f st) (kCallK g n m perm more f2) := (rfl)
@[simp] theorem kCallK_ap (g n m perm more f2 rs) : kCallK g n m perm more f2 (rs, s) = obind (f2 s) (kCallKb g n m perm more rs) := (rfl)
@[simp] theorem kCallKb_ap (g n m perm more rs rs2) : kCallKb g n m perm more rs (rs2, s) = obind (toDs s (rs ++ rs2)) (kCallKc g perm more (rs.length = n ∧ rs2.length = m)) := (rfl)
@[simp] theorem kCallKc_ap (g perm more) (c : Prop) [Decidable c] (xs) : kCallKc g perm more c (xs, s) = if c then obind (g ((permute perm (xs ++ more)).map Ar.d)) (kCallKd s) else none := (rfl)
@[simp] theorem kCallKd_ap (r o) : kCallKd s (r, o) = some (rvOf r, s) := (rfl)
@[simp] theorem permute_nilS {α : Type} (xs : List α) : permute [] xs = [] := (rfl)
@[simp] theorem permute_consS {α : Type} (i is) (xs : List α) (x : α) (h : xs[i]? = some x) : permute (i :: is) xs = x :: permute is xs := by
  simp [permute, List.filterMap_cons, h]
@[simp] theorem dIter_ap (op f) : dIter op f st = obind (f st) (kIter op) := (rfl)
@[simp] theorem kIter_ap (op r) : kIter op (r, s) = obind (toD s r) (kIterb op) := (rfl)
@[simp] theorem kIterb_ap (op x) : kIterb op (x, s) = obind (op x) (kRet s) := (rfl)
@[simp] theorem dIterA_ap (op f) : dIterA op f st = obind (f st) (kIterA op) := (rfl)
@[simp] theorem kIterA_ap (op rs) : kIterA op (rs, s) = obind (toDs s rs) (kIterAb op) := (rfl)
@[simp] theorem kIterAb_ap (op xs) : kIterAb op (xs, s) = obind (op xs) (kRet s) := (rfl)
@[simp] theorem gName_ap (i x) : gName i x st = setS st i (.d x) := (rfl)
@[simp] theorem setS_ap (i v) : setS st i v = kSetS (st.getD i none) st i v := (rfl)
@[simp] theorem kSetS_none (i v) : kSetS none st i v = if i < st.length then some (st.set i (some v)) else none := (rfl)
@[simp] theorem kSetS_d (x i v) : kSetS (some (.d x)) st i v = if i < st.length then some (st.set i (some v)) else none := (rfl)
@[simp] theorem kSetS_own (x i v) : kSetS (some (.own x)) st i v = if i < st.length then some (st.set i (some v)) else none := (rfl)
@[simp] theorem gNil_ap : gNil [] st = some st := (rfl)
@[simp] theorem gCons_ap (g h x r) : gCons g h (x :: r) st = obind (g x st) (kGs h r) := (rfl)
@[simp] theorem kGs_ap (h r) : kGs h r s = h r s := (rfl)
@[simp] theorem gTup_ap (n h xs) : gTup n h (.tuple xs) st = if xs.length = n then h xs st else none := (rfl)
@[simp] theorem wipeD_nil : wipeD st [] = st := (rfl)
@[simp] theorem wipeD_cons (v vs) : wipeD st (v :: vs) = (wipeD st vs).set v none := (rfl)
@[simp] theorem refill_nil (s0) : refill s0 st [] = st := (rfl)
@[simp] theorem refill_cons (s0 v vs) : refill s0 st (v :: vs) = (refill s0 st vs).set v (s0.getD v none) := (rfl)
theorem lcGo_nil (g t e vs) : lcGo g t e vs [] st = some ([], st) := (rfl)
theorem lcGo_cons (g t e vs x xs) : lcGo g t e vs (x :: xs) st = obind (g x st) (kLcTurn g t e vs xs) := (rfl)
@[simp] theorem kLcTurn_ap (g t e vs xs) : kLcTurn g t e vs xs s = obind (t s) (kLcTurnT g t e vs xs) := (rfl)
@[simp] theorem kLcTurnT_ap (g t e vs xs b) : kLcTurnT g t e vs xs (b, s) = if b = true then obind (e s) (kLcTurnD g t e vs xs) else lcGo g t e vs xs (wipeD s vs) := (rfl)
@[simp] theorem kLcTurnD_ap (g t e vs xs r) : kLcTurnD g t e vs xs (r, s) = obind (toD s r) (kLcTurnE g t e vs xs) := (rfl)
@[simp] theorem kLcTurnE_ap (g t e vs xs x) : kLcTurnE g t e vs xs (x, s) = obind (lcGo g t e vs xs (wipeD s vs)) (kPush x) := (rfl)
@[simp] theorem dLc_ap (it g t e vs) : dLc it g t e vs st = obind (it st) (kLc g t e vs) := (rfl)
@[simp] theorem kLc_ap (g t e vs xs) : kLc g t e vs (xs, s) = if xs.length ≤ sizeLine ∧ vs.all (fun i => kFree (s.getD i none)) = true then obind (lcGo g t e vs xs (wipeD s vs)) (kLcEnd s vs) else none := (rfl)
@[simp] theorem kLcEnd_ap (s0 vs xs) : kLcEnd s0 vs (xs, s) = some (.tmp xs, refill s0 s vs) := (rfl)
@[simp] theorem kFree_none : kFree none = true := (rfl)
@[simp] theorem kFree_d (x) : kFree (some (.d x)) = true := (rfl)
@[simp] theorem dTests_ap : dTests st = some (true, st) := (rfl)
@[simp] theorem dNext_ap : dNext st = some (.nx, st) := (rfl)
@[simp] theorem dSeq_ap (f g) : dSeq f g st = obind (f st) (kSeq g) := (rfl)
@[simp] theorem kSeq_nx (g) : kSeq g (.nx, s) = g s := (rfl)
@[simp] theorem kSeq_bk (g) : kSeq g (.bk, s) = some (.bk, s) := (rfl)
@[simp] theorem kSeq_ct (g) : kSeq g (.ct, s) = some (.ct, s) := (rfl)
@[simp] theorem kSeq_rt (g r) : kSeq g (.rt r, s) = some (.rt r, s) := (rfl)
@[simp] theorem dBreak_ap : dBreak st = some (.bk, st) := (rfl)
@[simp] theorem dCont_ap : dCont st = some (.ct, st) := (rfl)
@[simp] theorem dNever_ap : dNever st = none := (rfl)
@[simp] theorem kNx_ap : kNx s = some (.nx, s) := (rfl)
@[simp] theorem dSet_ap (i f) : dSet i f st = obind (f st) (kSet i) := (rfl)
@[simp] theorem kSet_d (i x) : kSet i (.d x, s) = obind (setS s i (.d x)) kNx := (rfl)
@[simp] theorem kSet_tmp (i xs) : kSet i (.tmp xs, s) = obind (setS s i (.own xs)) kNx := (rfl)
@[simp] theorem kSet_sl (i j) : kSet i (.sl j, s) = obind (kGive (s.getD j none) j s) (kSetD i) := (rfl)
@[simp] theorem kSetD_ap (i x) : kSetD i (x, s) = obind (setS s i (.d x)) kNx := (rfl)
@[simp] theorem dAsg_ap (g f) : dAsg g f st = obind (f st) (kAsg g) := (rfl)
@[simp] theorem kAsg_ap (g r) : kAsg g (r, s) = obind (toD s r) (kAsgb g) := (rfl)
@[simp] theorem kAsgb_ap (g x) : kAsgb g (x, s) = obind (g x s) kNx := (rfl)
@[simp] theorem dPar_ap (is f) : dPar is f st = obind (f st) (kPar is) := (rfl)
@[simp] theorem kPar_ap (is rs) : kPar is (rs, s) = obind (toDs s rs) (kParb is) := (rfl)
@[simp] theorem kParb_ap (is xs) : kParb is (xs, s) = obind (dPar.parGo is xs s) kNx := (rfl)
@[simp] theorem parGo_nil : dPar.parGo [] [] st = some st := (rfl)
@[simp] theorem parGo_cons (i is x xs) : dPar.parGo (i :: is) (x :: xs) st = obind (setS st i (.d x)) (kParGo is xs) := (rfl)
@[simp] theorem kParGo_ap (is xs) : kParGo is xs s = dPar.parGo is xs s := (rfl)
@[simp] theorem dAug_ap (op i f) : dAug op i f st = obind (dVar i st) (kAug op i f) := (rfl)
@[simp] theorem kAug_ap (op i f v) : kAug op i f (v, s) = obind (f s) (kAugb op i v) := (rfl)
@[simp] theorem kAugb_ap (op i x r) : kAugb op i (.d x) (r, s) = obind (look s r) (kAugc op i x s) := (rfl)
@[simp] theorem kAugc_ap (op i x y) : kAugc op i x s y = kAugOut (op x y) s i := (rfl)
@[simp] theorem kAugOut_d (z i) : kAugOut (some (.d z)) s i = obind (setS s i (.d z)) kNx := (rfl)
@[simp] theorem putL_ap (i xs) : putL st i xs = kPutL (st.getD i none) st i xs := (rfl)
@[simp] theorem kPutL_own (ys i xs) : kPutL (some (.own ys)) st i xs = some (st.set i (some (.own xs))) := (rfl)
@[simp] theorem kPutL_lent (ys i xs) : kPutL (some (.lent ys)) st i xs = some (st.set i (some (.lent xs))) := (rfl)
@[simp] theorem getL_ap (i) : getL st i = kGetL (st.getD i none) := (rfl)
@[simp] theorem kGetL_own (xs) : kGetL (some (.own xs)) = some xs := (rfl)
@[simp] theorem kGetL_lent (xs) : kGetL (some (.lent xs)) = some xs := (rfl)
@[simp] theorem dAppend_ap (i f) : dAppend i f st = obind (getL st i) (kApp i f st) := (rfl)
@[simp] theorem kApp_ap (i f xs) : kApp i f st xs = obind (f st) (kAppa i) := (rfl)
@[simp] theorem kAppa_ap (i r) : kAppa i (r, s) = obind (toD s r) (kAppb i) := (rfl)
@[simp] theorem kAppb_ap (i x) : kAppb i (x, s) = obind (getL s i) (kAppc i x s) := (rfl)
@[simp] theorem kAppc_ap (i x xs) : kAppc i x s xs = if xs.length < sizeLine then obind (putL s i (xs ++ [x])) kNx else none := (rfl)
@[simp] theorem dSetIx_ap (i k f) : dSetIx i k f st = obind (f st) (kSx i k) := (rfl)
@[simp] theorem kSx_ap (i k r) : kSx i k (r, s) = obind (toD s r) (kSxa i k) := (rfl)
@[simp] theorem kSxa_ap (i k x) : kSxa i k (x, s) = obind (getL s i) (kSxa2 i k (x, s)) := (rfl)
@[simp] theorem kSxa2_ap (i k x xs) : kSxa2 i k (x, s) xs = obind (k s) (kSxb i x) := (rfl)
@[simp] theorem kSxb_ap (i x r) : kSxb i x (r, s) = kSxc i x (look s r) s := (rfl)
@[simp] theorem kSxc_i (i x j) : kSxc i x (some (.int j)) s = obind (getL s i) (kSxd i x s j) := (rfl)
@[simp] theorem kSxd_ap (i x j xs) : kSxd i x s j xs = obind (ixAt xs j) (kSxe i x s xs) := (rfl)
@[simp] theorem kSxe_ap (i x xs n) : kSxe i x s xs n = obind (putL s i (xs.set n x)) kNx := (rfl)
@[simp] theorem dAugIx_ap (op i k f) : dAugIx op i k f st = obind (getL st i) (kAx op i k f st) := (rfl)
@[simp] theorem kAx_ap (op i k f xs) : kAx op i k f st xs = obind (k st) (kAx2 op i f) := (rfl)
@[simp] theorem kAx2_ap (op i f r) : kAx2 op i f (r, s) = kAxa op i f (look s r) s := (rfl)
@[simp] theorem kAxa_i (op i f j) : kAxa op i f (some (.int j)) s = obind (getL s i) (kAxb op i f j s) := (rfl)
@[simp] theorem kAxb_ap (op i f j xs) : kAxb op i f j s xs = obind (ixAt xs j) (kAxc op i f j s xs) := (rfl)
@[simp] theorem kAxc_ap (op i f j xs n) : kAxc op i f j s xs n = obind (xs[n]?) (kAxd op i f j s) := (rfl)
@[simp] theorem kAxd_ap (op i f j x) : kAxd op i f j s x = obind (f s) (kAxe op i j x) := (rfl)
@[simp] theorem kAxe_ap (op i j x r) : kAxe op i j x (r, s) = obind (look s r) (kAxf op i j x s) := (rfl)
@[simp] theorem kAxf_ap (op i j x y) : kAxf op i j x s y = kAxg (op x y) i s j := (rfl)
@[simp] theorem kAxg_d (z i j) : kAxg (some (.d z)) i s j = obind (getL s i) (kAxh i z s j) := (rfl)
@[simp] theorem kAxh_ap (i z j ys) : kAxh i z s j ys = obind (ixAt ys j) (kAxi i z s ys) := (rfl)
@[simp] theorem kAxi_ap (i z ys n) : kAxi i z s ys n = obind (putL s i (ys.set n z)) kNx := (rfl)
@[simp] theorem dDrop_ap (f) : dDrop f st = obind (f st) kDrop := (rfl)
@[simp] theorem kDrop_ap (r) : kDrop (r, s) = some (.nx, s) := (rfl)
@[simp] theorem dRet_ap (f) : dRet f st = obind (f st) kRetv := (rfl)
@[simp] theorem kRetv_d (x) : kRetv (.d x, s) = some (.rt (.d x), s) := (rfl)
@[simp] theorem kRetv_tmp (x) : kRetv (.tmp x, s) = some (.rt (.own x), s) := (rfl)
@[simp] theorem kRetv_sl (i) : kRetv (.sl i, s) = kRetSl (s.getD i none) s i := (rfl)
@[simp] theorem kRetSl_d (x i) : kRetSl (some (.d x)) s i = some (.rt (.d x), s) := (rfl)
@[simp] theorem kRetSl_own (x i) : kRetSl (some (.own x)) s i = some (.rt (.own x), s.set i none) := (rfl)
@[simp] theorem dRetN_ap : dRetN st = some (.rt (.d .none), st) := (rfl)
@[simp] theorem dIfS_ap (t f g) : dIfS t f g st = obind (t st) (kIf f g) := (rfl)
theorem forGo_nil (g b) : forGo g b [] st = some (.nx, st) := (rfl)
theorem forGo_cons (g b x xs) : forGo g b (x :: xs) st = obind (g x st) (kFora g b xs) := (rfl)
@[simp] theorem kFora_ap (g b xs) : kFora g b xs s = obind (b s) (kForb g b xs) := (rfl)
@[simp] theorem kForb_nx (g b xs) : kForb g b xs (.nx, s) = forGo g b xs s := (rfl)
@[simp] theorem kForb_ct (g b xs) : kForb g b xs (.ct, s) = forGo g b xs s := (rfl)
@[simp] theorem kForb_bk (g b xs) : kForb g b xs (.bk, s) = some (.nx, s) := (rfl)
@[simp] theorem kForb_rt (g b xs r) : kForb g b xs (.rt r, s) = some (.rt r, s) := (rfl)
@[simp] theorem dFor_ap (it g b) : dFor it g b st = obind (it st) (kFor g b) := (rfl)
@[simp] theorem kFor_ap (g b xs) : kFor g b (xs, s) = forGo g b xs s := (rfl)
@[simp] theorem arS_d (x) : arS (.d x) = .d x := (rfl)
@[simp] theorem arS_m (x) : arS (.m x) = .lent x := (rfl)
@[simp] theorem outsGo_nil (i) : outsGo st [] i = some [] := (rfl)
@[simp] theorem outsGo_d (x r i) : outsGo st (.d x :: r) i = outsGo st r (i + 1) := (rfl)
@[simp] theorem outsGo_m (x r i) : outsGo st (.m x :: r) i = kOutsM (st.getD i none) st r i := (rfl)
@[simp] theorem kOutsM_ap (xs r i) : kOutsM (some (.lent xs)) st r i = obind (outsGo st r (i + 1)) (kOuts xs) := (rfl)
@[simp] theorem kOuts_ap (xs o) : kOuts xs o = some (xs :: o) := (rfl)
end
theorem run_ap (n b as) : run n b as = obind (b (startD n as)) (kRun as) := (rfl)
@[simp] theorem kRun_ap (as f s) : kRun as (f, s) = obind (outsGo s as 0) (kRunb f) := (rfl)
@[simp] theorem kRunb_nx (o) : kRunb .nx o = some (.d .none, o) := (rfl)
@[simp] theorem kRunb_rt (r o) : kRunb (.rt r) o = some (r, o) := (rfl)
theorem whileN_det (t : DT) (b : DS) : ∀ (n m : Nat) (st : DSt) (r s), whileN t b n st = some r → whileN t b m st = some s → r = s := by
  intro n
  induction n with
  | zero => intro m st r s h _; simp [whileN] at h
  | succ n ih =>
    intro m st r s h h'
    cases m with
    | zero => simp [whileN] at h'
    | succ m =>
      simp only [whileN] at h h'
      cases ht : t st with
      | none => rw [ht] at h; simp at h
      | some q =>
        rw [ht] at h h'
        simp only [Option.bind_some] at h h'
        by_cases hq : q.1 = true
        · rw [if_pos hq] at h h'
          cases hb : b q.2 with
          | none => rw [hb] at h; simp at h
          | some p =>
            rw [hb] at h h'
            simp only [Option.bind_some] at h h'
            rcases p with ⟨p1, p2⟩
            cases p1 with
            | nx => exact ih m _ _ _ h h'
            | ct => exact ih m _ _ _ h h'
            | bk => rw [← Option.some.inj h, ← Option.some.inj h']
            | rt x => rw [← Option.some.inj h, ← Option.some.inj h']
        · rw [if_neg hq] at h h'
          rw [← Option.some.inj h, ← Option.some.inj h']
theorem dWhile_of {t : DT} {b : DS} {n : Nat} {st : DSt} {r} (h : whileN t b n st = some r) : dWhile t b st = some r := by
  unfold dWhile
  have hx : ∃ n r, whileN t b n st = some r := ⟨n, r, h⟩
  rw [dif_pos hx]
  exact congrArg some (whileN_det t b _ _ _ _ _ (Classical.choose_spec (Classical.choose_spec hx)) h)
theorem whileN_more {t : DT} {b : DS} {n : Nat} {st st' : DSt} {r} (ht : t st = some (true, st)) (hb : b st = some (.nx, st')) (h : whileN t b n st' = some r) : whileN t b (n + 1) st = some r := by
  simp only [whileN, ht, hb, Option.bind_some, if_true]
  exact h
theorem whileN_end {t : DT} {b : DS} {n : Nat} {st : DSt} (ht : t st = some (false, st)) : whileN t b (n + 1) st = some (.nx, st) := by
  simp only [whileN, ht, Option.bind_some, if_neg Bool.false_ne_true]
/-! ### operators on numbers -/
@[simp] theorem opAdd_ii (i j : Int) : opAdd (.int i) (.int j) = some (.d (.int (i + j))) := (rfl)
@[simp] theorem opAdd_ll (xs ys : List D) : opAdd (.list xs) (.list ys) = if xs.length + ys.length ≤ sizeLine then some (.tmp (xs ++ ys)) else none := (rfl)
@[simp] theorem opAddI_ii (i j : Int) : opAddI (.int i) (.int j) = some (.d (.int (i + j))) := (rfl)
@[simp] theorem opSub_ii (i j : Int) : opSub (.int i) (.int j) = some (.d (.int (i - j))) := (rfl)
@[simp] theorem opMul_ii (i j : Int) : opMul (.int i) (.int j) = if i.natAbs.log2 + j.natAbs.log2 < 1000000 then some (.d (.int (i * j))) else none := (rfl)
@[simp] theorem opMul_li (xs : List D) (k : Int) : opMul (.list xs) (.int k) = if -(2 ^ 63) ≤ k ∧ k < 2 ^ 63 ∧ xs.length * k.toNat ≤ sizeLine then some (.tmp (List.replicate k.toNat xs).flatten) else none := (rfl)
@[simp] theorem opDiv_ii (i j : Int) : opDiv (.int i) (.int j) = if 0 < j ∧ j.natAbs.log2 < 9000 then some (.d (.int (i / j))) else none := (rfl)
@[simp] theorem opMod_ii (i j : Int) : opMod (.int i) (.int j) = if 0 < j then some (.d (.int (i % j))) else none := (rfl)
@[simp] theorem opPow_ii (i j : Int) : opPow (.int i) (.int j) = if 0 ≤ j ∧ j ≤ 1000000 ∧ i.natAbs < 2 ^ 64 then some (.d (.int (i ^ j.toNat))) else none := (rfl)
@[simp] theorem opNeg_i (i : Int) : opNeg (.int i) = some (.d (.int (-i))) := (rfl)
@[simp] theorem opLt_ii (i j : Int) : opLt (.int i) (.int j) = some (.d (.bool (decide (i < j)))) := (rfl)
@[simp] theorem opLe_ii (i j : Int) : opLe (.int i) (.int j) = some (.d (.bool (decide (i ≤ j)))) := (rfl)
@[simp] theorem opGt_ii (i j : Int) : opGt (.int i) (.int j) = some (.d (.bool (decide (j < i)))) := (rfl)
@[simp] theorem opGe_ii (i j : Int) : opGe (.int i) (.int j) = some (.d (.bool (decide (j ≤ i)))) := (rfl)
@[simp] theorem eqv_ii (i j : Int) : PyData.eqv (.int i) (.int j) = (i == j) := by simp [PyData.eqv]
@[simp] theorem shaped_i (i : Int) : flat (.int i) = true := by simp [flat, PyData.plain, PyData.depth]
@[simp] theorem opEq_ii (i j : Int) : opEq (.int i) (.int j) = some (.d (.bool (i == j))) := by simp [opEq]
@[simp] theorem opNe_ii (i j : Int) : opNe (.int i) (.int j) = some (.d (.bool (!(i == j)))) := by simp [opNe]
@[simp] theorem opIx_li (xs : List D) (i : Int) : opIx (.list xs) (.int i) = obind (ixAt xs i) fun n => obind (xs[n]?) fun x => some (.d x) := (rfl)
@[simp] theorem opIx_ti (xs : List D) (i : Int) : opIx (.tuple xs) (.int i) = obind (ixAt xs i) fun n => obind (xs[n]?) fun x => some (.d x) := (rfl)
@[simp] theorem ixAt_ap {α : Type} (xs : List α) (i : Int) : ixAt xs i = if 0 ≤ i then (if i < xs.length then some i.toNat else none) else if -(xs.length : Int) ≤ i then some (i + xs.length).toNat else none := (rfl)
@[simp] theorem bLen_l (xs : List D) : bLen [.list xs] = some (.d (.int xs.length)) := (rfl)
@[simp] theorem bLen_t (xs : List D) : bLen [.tuple xs] = some (.d (.int xs.length)) := (rfl)
@[simp] theorem bInt_i (i : Int) : bInt [.int i] = some (.d (.int i)) := (rfl)
@[simp] theorem bInt_b (b : Bool) : bInt [.bool b] = some (.d (.int (if b then 1 else 0))) := (rfl)
@[simp] theorem boolsOf_nil : boolsOf [] = some [] := (rfl)
@[simp] theorem boolsOf_cons (b r) : boolsOf (.bool b :: r) = obind (boolsOf r) fun bs => some (b :: bs) := (rfl)
@[simp] theorem bAll_l (xs : List D) : bAll [.list xs] = obind (boolsOf xs) fun bs => some (.d (.bool (bs.all id))) := (rfl)
@[simp] theorem bAny_l (xs : List D) : bAny [.list xs] = obind (boolsOf xs) fun bs => some (.d (.bool (bs.any id))) := (rfl)
@[simp] theorem bSum_l (xs : List D) : bSum [.list xs] = obind (intsOf xs) fun is => some (.d (.int is.sum)) := (rfl)
@[simp] theorem bList_l (xs : List D) : bList [.list xs] = some (.tmp xs) := (rfl)
@[simp] theorem bList_t (xs : List D) : bList [.tuple xs] = some (.tmp xs) := (rfl)
@[simp] theorem bIsi_none (T) : bIsi T .none = some (.d (.bool (isTy .none T))) := (rfl)
@[simp] theorem bIsi_b (T b) : bIsi T (.bool b) = some (.d (.bool (isTy (.bool b) T))) := (rfl)
@[simp] theorem bIsi_i (T b) : bIsi T (.int b) = some (.d (.bool (isTy (.int b) T))) := (rfl)
@[simp] theorem bIsi_s (T b) : bIsi T (.str b) = some (.d (.bool (isTy (.str b) T))) := (rfl)
@[simp] theorem bIsi_l (T b) : bIsi T (.list b) = some (.d (.bool (isTy (.list b) T))) := (rfl)
@[simp] theorem bIsi_t (T b) : bIsi T (.tuple b) = some (.d (.bool (isTy (.tuple b) T))) := (rfl)
@[simp] theorem bIsi2_none (T U) : bIsi2 T U .none = some (.d (.bool (isTy .none T || isTy .none U))) := (rfl)
@[simp] theorem bIsi2_b (T U b) : bIsi2 T U (.bool b) = some (.d (.bool (isTy (.bool b) T || isTy (.bool b) U))) := (rfl)
@[simp] theorem bIsi2_i (T U b) : bIsi2 T U (.int b) = some (.d (.bool (isTy (.int b) T || isTy (.int b) U))) := (rfl)
@[simp] theorem bIsi2_s (T U b) : bIsi2 T U (.str b) = some (.d (.bool (isTy (.str b) T || isTy (.str b) U))) := (rfl)
@[simp] theorem bIsi2_l (T U b) : bIsi2 T U (.list b) = some (.d (.bool (isTy (.list b) T || isTy (.list b) U))) := (rfl)
@[simp] theorem bIsi2_t (T U b) : bIsi2 T U (.tuple b) = some (.d (.bool (isTy (.tuple b) T || isTy (.tuple b) U))) := (rfl)
@[simp] theorem tyName_none : tyName .none = "NoneType" := (rfl)
@[simp] theorem tyName_b (b) : tyName (.bool b) = "bool" := (rfl)
@[simp] theorem tyName_i (b) : tyName (.int b) = "int" := (rfl)
@[simp] theorem tyName_s (b) : tyName (.str b) = "str" := (rfl)
@[simp] theorem tyName_l (b) : tyName (.list b) = "list" := (rfl)
@[simp] theorem tyName_t (b) : tyName (.tuple b) = "tuple" := (rfl)
@[simp] theorem isTy_ap (x T) : isTy x T = (tyName x == T || (T == "int" && tyName x == "bool")) := (rfl)
@[simp] theorem opIs_ap (x y) : opIs x y = obind (isV x y) fun b => some (.d (.bool b)) := (rfl)
@[simp] theorem opIsNot_ap (x y) : opIsNot x y = obind (isV x y) fun b => some (.d (.bool (!b))) := (rfl)
@[simp] theorem isV_nn : isV .none .none = some true := (rfl)
@[simp] theorem isV_bn (b) : isV (.bool b) .none = some false := (rfl)
@[simp] theorem isV_in (b) : isV (.int b) .none = some false := (rfl)
@[simp] theorem isV_sn (b) : isV (.str b) .none = some false := (rfl)
@[simp] theorem isV_ln (b) : isV (.list b) .none = some false := (rfl)
@[simp] theorem isV_tn (b) : isV (.tuple b) .none = some false := (rfl)
@[simp] theorem isV_bb (b c) : isV (.bool b) (.bool c) = some (b == c) := (rfl)
@[simp] theorem isV_nb (c) : isV .none (.bool c) = some false := (rfl)
@[simp] theorem isV_ib (b c) : isV (.int b) (.bool c) = some false := (rfl)
@[simp] theorem isV_sb (b c) : isV (.str b) (.bool c) = some false := (rfl)
@[simp] theorem isV_lb (b c) : isV (.list b) (.bool c) = some false := (rfl)
@[simp] theorem isV_tb (b c) : isV (.tuple b) (.bool c) = some false := (rfl)
@[simp] theorem opSlice_l (xs lo hi) : opSlice (.list xs) lo hi = some (.tmp (cutD xs lo hi)) := (rfl)
@[simp] theorem opRev_l (xs) : opRev (.list xs) = some (.tmp xs.reverse) := (rfl)
@[simp] theorem iList_l (xs) : iList (.list xs) = some xs := (rfl)
@[simp] theorem iTup_l (xs) : iTup (.tuple xs) = some xs := (rfl)
@[simp] theorem iSeq_l (xs) : iSeq (.list xs) = some xs := (rfl)
@[simp] theorem iSeq_t (xs) : iSeq (.tuple xs) = some xs := (rfl)
@[simp] theorem iZip_l (xs ys) : iZip [.list xs, .list ys] = some ((xs.zip ys).map fun p => .tuple [p.1, p.2]) := (rfl)
@[simp] theorem iZip_t (xs ys) : iZip [.tuple xs, .tuple ys] = some ((xs.zip ys).map fun p => .tuple [p.1, p.2]) := (rfl)
@[simp] theorem iEnum_l (xs) : iEnum [.list xs] = some (xs.zipIdx.map fun p => .tuple [.int (p.2 : Nat), p.1]) := (rfl)
@[simp] theorem iRange1_i (n : Int) : iRange1 [.int n] = if -(2 ^ 62) ≤ n ∧ n < 2 ^ 62 then some ((List.range n.toNat).map fun i => .int (0 + (i : Nat))) else none := (rfl)
@[simp] theorem iRange2_i (a b : Int) : iRange2 [.int a, .int b] = if -(2 ^ 62) ≤ a ∧ a < 2 ^ 62 ∧ -(2 ^ 62) ≤ b ∧ b < 2 ^ 62 then some ((List.range (b - a).toNat).map fun i => .int (a + (i : Nat))) else none := (rfl)
/-! ### the further ones -/
def kChainOut (s : DSt) (op' : D → D → Option Rv) (o : Option D) (x : D) : Option (Rv × DSt) := o.bind fun u => (op' x u).bind (kRet s)
def kChaind (op' : D → D → Option Rv) (r2 : Rv) (w : Rv × DSt) : Option (Rv × DSt) := (look w.2 r2).bind (kChainOut w.2 op' (look w.2 w.1))
def kChainc (op' : D → D → Option Rv) (h : DE) (r2 : Rv) (s : DSt) (z : Rv) : Option (Rv × DSt) := match z with
  | .d (.bool true) => (h s).bind (kChaind op' r2)
  | .d (.bool false) => some (.d (.bool false), s)
  | _ => none
def kChainb2 (op op' : D → D → Option Rv) (h : DE) (r2 : Rv) (s : DSt) (o : Option D) (x : D) : Option (Rv × DSt) := o.bind fun y => (op x y).bind (kChainc op' h r2 s)
def kChainb (op op' : D → D → Option Rv) (h : DE) (r : Rv) (q : Rv × DSt) : Option (Rv × DSt) := (look q.2 r).bind (kChainb2 op op' h q.1 q.2 (look q.2 q.1))
def kChain (op op' : D → D → Option Rv) (g h : DE) (p : Rv × DSt) : Option (Rv × DSt) := (g p.2).bind (kChainb op op' h p.1)
theorem kChainc_eq (op' h r2 s) (z : Rv) : (match z with
  | .d (.bool true) => (h s).bind fun w => (look w.2 r2).bind fun y' => (look w.2 w.1).bind fun u => (op' y' u).bind fun z' => some (z', w.2)
  | .d (.bool false) => some (Rv.d (.bool false), s)
  | _ => none) = kChainc op' h r2 s z := by
  unfold kChainc
  rcases z with z | z | z
  · cases z with
    | bool b => cases b <;> rfl
    | none => rfl
    | int b => rfl
    | str b => rfl
    | list b => rfl
    | tuple b => rfl
    | dict b => rfl
  · rfl
  · rfl
@[simp] theorem dChain_ap (op op' f g h) (st : DSt) : dChain op op' f g h st = obind (f st) (kChain op op' g h) := by
  show (f st).bind _ = (f st).bind _
  congr 1
@[simp] theorem kChain_ap (op op' g h r) (s : DSt) : kChain op op' g h (r, s) = obind (g s) (kChainb op op' h r) := (rfl)
@[simp] theorem kChainb_ap (op op' h r r2) (s : DSt) : kChainb op op' h r (r2, s) = obind (look s r) (kChainb2 op op' h r2 s (look s r2)) := (rfl)
@[simp] theorem kChainb2_ap (op op' h r2 y x) (s : DSt) : kChainb2 op op' h r2 s (some y) x = obind (op x y) (kChainc op' h r2 s) := (rfl)
@[simp] theorem kChainc_ap (op' h r2 b) (s : DSt) : kChainc op' h r2 s (.d (.bool b)) = if b = true then obind (h s) (kChaind op' r2) else some (.d (.bool false), s) := by cases b <;> rfl
@[simp] theorem kChaind_ap (op' r2 w) (s : DSt) : kChaind op' r2 (w, s) = obind (look s r2) (kChainOut s op' (look s w)) := (rfl)
@[simp] theorem kChainOut_ap (op' u x) (s : DSt) : kChainOut s op' (some u) x = obind (op' x u) (kRet s) := (rfl)
@[simp] theorem dIfT_ap (t f g) (st : DSt) : dIfT t f g st = obind (t st) (kIf f g) := (rfl)
@[simp] theorem bMax2_ii (i j : Int) : bMax2 [.int i, .int j] = some (.d (.int (if j > i then j else i))) := (rfl)
@[simp] theorem opBits_i (i : Int) : opBits (.int i) = some (.d (.int (Builtin.Int.intBits i : Nat))) := (rfl)
@[simp] theorem opAddT_tt (xs ys) : opAddT (.tuple xs) (.tuple ys) = if xs.length + ys.length ≤ sizeLine then some (.d (.tuple (xs ++ ys))) else none := (rfl)
@[simp] theorem opSliceT_t (xs lo hi) : opSliceT (.tuple xs) lo hi = some (.d (.tuple (cutD xs lo hi))) := (rfl)
@[simp] theorem bTuple_l (xs) : bTuple [.list xs] = some (.d (.tuple xs)) := (rfl)
@[simp] theorem bTuple_t (xs) : bTuple [.tuple xs] = some (.d (.tuple xs)) := (rfl)
@[simp] theorem opPowW_ii (i j : Int) : opPowW (.int i) (.int j) = if 0 ≤ j ∧ (Builtin.Int.intBits i : Int) * j ≤ 2 ^ 27 then some (.d (.int (i ^ j.toNat))) else none := (rfl)
@[simp] theorem fz_d (x) : fz (some (.d x)) = some (.d x) := (rfl)
@[simp] theorem fz_own' (x) : fz (some (.own x)) = some (.d (.list x)) := (rfl)
@[simp] theorem fz_lent' (x) : fz (some (.lent x)) = some (.d (.list x)) := (rfl)
@[simp] theorem fz_none : fz none = none := (rfl)
@[simp] theorem freeze_nil : freeze [] = [] := (rfl)
@[simp] theorem freeze_cons (o r) : freeze (o :: r) = fz o :: freeze r := (rfl)
def kAsgO2 (i j : Nat) (r : Rv) (q : Rv × DSt) : Option (Fl × DSt) := match r, q.1 with
  | .d x, .tmp ys => (setS q.2 j (.own ys)).bind fun s => (setS s i (.d x)).bind kNx
  | _, _ => none
def kAsgO (i j : Nat) (g : DE) (p : Rv × DSt) : Option (Fl × DSt) := (g p.2).bind (kAsgO2 i j p.1)
def kAsgO3 (i : Nat) (x : D) (s : DSt) : Option (Fl × DSt) := (setS s i (.d x)).bind kNx
@[simp] theorem dAsgO_ap (i j f g) (st : DSt) : dAsgO i j f g st = obind (f st) (kAsgO i j g) := (rfl)
@[simp] theorem kAsgO_ap (i j g r) (s : DSt) : kAsgO i j g (r, s) = obind (g s) (kAsgO2 i j r) := (rfl)
@[simp] theorem kAsgO2_ap (i j x ys) (s : DSt) : kAsgO2 i j (.d x) (.tmp ys, s) = obind (setS s j (.own ys)) (kAsgO3 i x) := (rfl)
@[simp] theorem kAsgO3_ap (i x) (s : DSt) : kAsgO3 i x s = obind (setS s i (.d x)) kNx := (rfl)
def kBorrow (st : DSt) (p : Rv × DSt) : Option (Rv × DSt) := match p.1 with
  | .d x => if atomD x = true then some (.d x, st) else none
  | _ => none
def kBorrowT (st : DSt) (p : Bool × DSt) : Option (Bool × DSt) := some (p.1, st)
@[simp] theorem dBorrow_ap (f) (st : DSt) : dBorrow f st = obind (f (freeze st)) (kBorrow st) := (rfl)
@[simp] theorem kBorrow_d (x s) (st : DSt) : kBorrow st (.d x, s) = if atomD x = true then some (.d x, st) else none := (rfl)
@[simp] theorem dBorrowT_ap (f) (st : DSt) : dBorrowT f st = obind (f (freeze st)) (kBorrowT st) := (rfl)
@[simp] theorem kBorrowT_ap (b s) (st : DSt) : kBorrowT st (b, s) = some (b, st) := (rfl)
/-- whole numbers written in a slot list -/
theorem sizeLine_eq : sizeLine = 16777216 := (rfl)
end DL
end

section
set_option linter.all false
namespace K43
open PySem DL
noncomputable def g_is_count : DS := dRet (dAndV (dOp1 (bIsi "int") (dVar 0)) (dAndV (dNotV (dOp1 (bIsi "bool") (dVar 0))) (dOp2 opGe (dVar 0) (dVar 1))))
noncomputable def m_is_count : Fn := run 2 g_is_count
noncomputable def g_are_counts : DS := dRet (dAndV (dOp1 (bIsi "list") (dVar 0)) (dCallB bAll (dCons (dLc (dIter DL.iSeq (dVar 0)) (DL.gName 1) (dTests) (dCall m_is_count [false] [PyData.int 0] (dCons (dVar 1) (dNil))) [1]) (dNil))))
noncomputable def m_are_counts : Fn := run 2 g_are_counts
noncomputable def g_is_table : DS := dRet (dAndV (dCall m_are_counts [false] [] (dCons (dVar 0) (dNil))) (dOp2 opGt (dCallB bSum (dCons (dVar 0) (dNil))) (dC (.int 0))))
noncomputable def m_is_table : Fn := run 1 g_is_table
noncomputable def g_is_state : DS := dSeq (dIfS (dOr (dNot (dTest (dOp1 (bIsi "tuple") (dVar 0)))) (dTest (dOp2 opNe (dCallB bLen (dCons (dVar 0) (dNil))) (dC (.int 2))))) (dRet (dC (.bool false))) (dNext)) (dSeq (dAsg (DL.gTup 2 (DL.gCons (DL.gName 3) (DL.gCons (DL.gName 4) (DL.gNil)))) (dVar 0)) (dSeq (dIfS (dOr (dNot (dTest (dCall m_is_table [false] [] (dCons (dVar 3) (dNil))))) (dOr (dTest (dOp2 opNe (dCallB bLen (dCons (dVar 3) (dNil))) (dOp2 opAdd (dVar 1) (dC (.int 1))))) (dOr (dNot (dTest (dOp1 (bIsi "list") (dVar 4)))) (dTest (dOp2 opNe (dCallB bLen (dCons (dVar 4) (dNil))) (dVar 1)))))) (dRet (dC (.bool false))) (dNext)) (dSeq (dFor (dIterA DL.iZip (dCons (dVar 3) (dCons (dVar 4) (dNil)))) (DL.gTup 2 (DL.gCons (DL.gName 5) (DL.gCons (DL.gName 6) (DL.gNil)))) (dSeq (dIfS (dOr (dAnd (dTest (dOp2 opIs (dVar 6) (dC .none))) (dTest (dOp2 opGt (dVar 5) (dC (.int 0))))) (dAnd (dTest (dOp2 opIsNot (dVar 6) (dC .none))) (dTest (dOp2 opEq (dVar 5) (dC (.int 0)))))) (dRet (dC (.bool false))) (dNext)) (dIfS (dAnd (dTest (dOp2 opIsNot (dVar 6) (dC .none))) (dNot (dAnd (dTest (dCall m_is_count [false] [PyData.int 0] (dCons (dVar 6) (dNil)))) (dTest (dOp2 opLt (dVar 6) (dVar 2)))))) (dRet (dC (.bool false))) (dNext)))) (dRet (dC (.bool true))))))
noncomputable def m_is_state : Fn := run 7 g_is_state
noncomputable def g_is_model : DS := dSeq (dIfS (dOr (dNot (dTest (dOp1 (bIsi "tuple") (dVar 0)))) (dOr (dTest (dOp2 opNe (dCallB bLen (dCons (dVar 0) (dNil))) (dC (.int 3)))) (dOr (dNot (dTest (dOp1 (bIsi "str") (dOp2 opIx (dVar 0) (dC (.int 0)))))) (dTest (dOp2 opNe (dOp2 opIx (dVar 0) (dC (.int 0))) (dC (.str (Str.ofString "model")))))))) (dRet (dC (.bool false))) (dNext)) (dSeq (dIfS (dOr (dNot (dTest (dCall m_is_count [false, false] [] (dCons (dOp2 opIx (dVar 0) (dC (.int 1))) (dCons (dC (.int 1)) (dNil)))))) (dOr (dTest (dOp2 opGt (dOp2 opIx (dVar 0) (dC (.int 1))) (dC (.int 40)))) (dOr (dNot (dTest (dOp1 (bIsi "list") (dOp2 opIx (dVar 0) (dC (.int 2)))))) (dTest (dOp2 opEq (dOp2 opIx (dVar 0) (dC (.int 2))) (dList (dNil))))))) (dRet (dC (.bool false))) (dNext)) (dRet (dCallB bAll (dCons (dLc (dIter DL.iSeq (dOp2 opIx (dVar 0) (dC (.int 2)))) (DL.gName 1) (dTests) (dCall m_is_state [false, false, false] [] (dCons (dVar 1) (dCons (dOp2 opIx (dVar 0) (dC (.int 1))) (dCons (dCallB bLen (dCons (dOp2 opIx (dVar 0) (dC (.int 2))) (dNil))) (dNil))))) [1]) (dNil)))))
noncomputable def m_is_model : Fn := run 2 g_is_model
noncomputable def g_is_between : DS := dRet (dAndV (dOp1 (bIsi "int") (dVar 0)) (dAndV (dNotV (dOp1 (bIsi "bool") (dVar 0))) (dChain opLe opLe (dVar 1) (dVar 0) (dVar 2))))
noncomputable def m_is_between : Fn := run 3 g_is_between
noncomputable def g_setting_let : DS := dSeq (dIfS (dOr (dNot (dTest (dOp1 (bIsi "tuple") (dVar 0)))) (dOr (dTest (dOp2 opNe (dCallB bLen (dCons (dVar 0) (dNil))) (dC (.int 3)))) (dNot (dTest (dCall m_is_between [false, false, false] [] (dCons (dOp2 opIx (dVar 0) (dC (.int 2))) (dCons (dC (.int 1)) (dCons (dC (.int 4)) (dNil))))))))) (dRet (dC (.bool false))) (dNext)) (dSeq (dIfS (dOr (dNot (dTest (dCall m_is_model [false] [] (dCons (dOp2 opIx (dVar 0) (dC (.int 0))) (dNil))))) (dNot (dTest (dCall m_is_model [false] [] (dCons (dOp2 opIx (dVar 0) (dC (.int 1))) (dNil)))))) (dRet (dC (.bool false))) (dNext)) (dRet (dAndV (dOp2 opEq (dOp2 opIx (dOp2 opIx (dVar 0) (dC (.int 0))) (dC (.int 1))) (dOp2 opIx (dOp2 opIx (dVar 0) (dC (.int 1))) (dC (.int 1)))) (dOp2 opLe (dOp2 opIx (dOp2 opIx (dVar 0) (dC (.int 0))) (dC (.int 1))) (dC (.int 4))))))
noncomputable def m_setting_let : Fn := run 1 g_setting_let
noncomputable def g_is_setting : DS := dRet (dCall m_setting_let [false] [] (dCons (dVar 0) (dNil)))
noncomputable def m_is_setting : Fn := run 1 g_is_setting
noncomputable def g__law_hash : DS := dSeq (dSet 2 (dOp2 opMod (dCallB bInt (dCons (dOp2 opAdd (dOp2 opAdd (dOp2 opAdd (dOp2 opMul (dVar 0) (dC (.int 1220147))) (dOp2 opMul (dOp2 opMul (dC (.int 16777903)) (dVar 1)) (dVar 1))) (dOp2 opMul (dC (.int 223)) (dVar 1))) (dC (.int 97))) (dNil))) (dC (.int 2147483629)))) (dSeq (dSet 2 (dOp2 opMod (dCallB bInt (dCons (dOp2 opAdd (dOp2 opAdd (dOp2 opMul (dVar 2) (dVar 2)) (dOp2 opMul (dC (.int 69019)) (dVar 1))) (dC (.int 32416187))) (dNil))) (dC (.int 2147483587)))) (dRet (dOp2 opMod (dCallB bInt (dCons (dOp2 opMul (dVar 2) (dC (.int 48271))) (dNil))) (dC (.int 2147483647)))))
noncomputable def m__law_hash : Fn := run 3 g__law_hash
noncomputable def g__law_random : DS := dSeq (dIfS (dTest (dOp2 opGt (dOp2 opIx (dVar 0) (dC (.int 0))) (dC (.int 0)))) (dSeq (dSet 2 (dOp2 opMod (dCallB bInt (dCons (dOp2 opIx (dVar 0) (dC (.int 0))) (dNil))) (dVar 1))) (dSeq (dSetIx 0 (dC (.int 0)) (dOp2 opDiv (dOp2 opIx (dVar 0) (dC (.int 0))) (dVar 1))) (dRet (dVar 2)))) (dNext)) (dSeq (dSet 2 (dC (.int 0))) (dSeq (dFor (dIterA iRange1 (dCons (dOp2 opAdd (dC (.int 1)) (dOp2 opDiv (dOp1 opBits (dVar 1)) (dC (.int 30)))) (dNil))) (DL.gName 3) (dSeq (dSetIx 0 (dC (.int 2)) (dOp2 opAdd (dOp2 opIx (dVar 0) (dC (.int 2))) (dC (.int 1)))) (dSet 2 (dOp2 opAdd (dOp2 opMul (dVar 2) (dC (.int 2147483587))) (dCall m__law_hash [false, false] [] (dCons (dOp2 opIx (dVar 0) (dC (.int 1))) (dCons (dOp2 opIx (dVar 0) (dC (.int 2))) (dNil)))))))) (dRet (dOp2 opMod (dCallB bInt (dCons (dVar 2) (dNil))) (dVar 1)))))
noncomputable def m__law_random : Fn := run 4 g__law_random
noncomputable def g__law_cell : DS := dSeq (dIfS (dTest (dOp2 opLt (dVar 1) (dCallB bLen (dCons (dVar 0) (dNil))))) (dRet (dOp2 opIx (dVar 0) (dVar 1))) (dNext)) (dRet (dOp2 opMod (dCallB bSum (dCons (dSlice opSlice (dVar 0) (dNoPart) (dPart (dC (.int 1)))) (dNil))) (dC (.int 1000003))))
noncomputable def m__law_cell : Fn := run 2 g__law_cell
noncomputable def g__law_generator : DS := dSeq (dSet 2 (dCall m__law_cell [false, false] [] (dCons (dVar 0) (dCons (dVar 1) (dNil))))) (dRet (dList (dCons (dOp2 opMod (dCallB bInt (dCons (dCallB bMax2 (dCons (dOp2 opSub (dVar 2) (dOp2 opPow (dC (.int 10)) (dC (.int 18)))) (dCons (dC (.int 0)) (dNil)))) (dNil))) (dOp2 opPowW (dOp2 opPow (dC (.int 10)) (dC (.int 60))) (dC (.int 10)))) (dCons (dOp2 opMod (dCallB bInt (dCons (dVar 2) (dNil))) (dC (.int 2147483647))) (dCons (dOp2 opMul (dC (.int 1000)) (dVar 1)) (dNil))))))
noncomputable def m__law_generator : Fn := run 3 g__law_generator
noncomputable def g__law_pick : DS := dRet (dOp2 opIx (dVar 1) (dCall m__law_random [true, false] [] (dCons (dVar 0) (dCons (dCallB bLen (dCons (dVar 1) (dNil))) (dNil)))))
noncomputable def m__law_pick : Fn := run 2 g__law_pick
noncomputable def g__law_model : DS := dSeq (dAsgO 3 4 (dOp2 opAdd (dC (.int 1)) (dCall m__law_random [true, false] [] (dCons (dVar 0) (dCons (dVar 2) (dNil))))) (dList (dNil))) (dSeq (dFor (dIterA iRange1 (dCons (dVar 3) (dNil))) (DL.gName 5) (dSeq (dSet 6 (dLc (dIterA iRange1 (dCons (dOp2 opAdd (dVar 1) (dC (.int 1))) (dNil))) (DL.gName 7) (dTests) (dCall m__law_pick [true, false] [] (dCons (dVar 0) (dCons (dList (dCons (dC (.int 0)) (dCons (dC (.int 1)) (dCons (dC (.int 1)) (dCons (dC (.int 2)) (dCons (dC (.int 3)) (dCons (dC (.int 5)) (dNil)))))))) (dNil)))) [7])) (dSeq (dSet 6 (dIf (dTest (dOp2 opGt (dCallB bSum (dCons (dVar 6) (dNil))) (dC (.int 0)))) (dVar 6) (dOp2 opAdd (dList (dCons (dC (.int 1)) (dNil))) (dSlice opSlice (dVar 6) (dPart (dC (.int 1))) (dNoPart))))) (dAppend 4 (dTup (dCons (dVar 6) (dCons (dLc (dIterA iRange1 (dCons (dVar 1) (dNil))) (DL.gName 7) (dTests) (dIf (dTest (dOp2 opGt (dOp2 opIx (dVar 6) (dVar 7)) (dC (.int 0)))) (dCall m__law_random [true, false] [] (dCons (dVar 0) (dCons (dVar 3) (dNil)))) (dC .none)) [7]) (dNil)))))))) (dRet (dTup (dCons (dC (.str (Str.ofString "model"))) (dCons (dVar 1) (dCons (dVar 4) (dNil)))))))
noncomputable def m__law_model : Fn := run 8 g__law_model
noncomputable def g__law_setting : DS := dSeq (dSet 3 (dOp2 opAdd (dC (.int 1)) (dCall m__law_random [true, false] [] (dCons (dVar 0) (dCons (dVar 1) (dNil)))))) (dSeq (dPar [4, 5] (dCons (dCall m__law_model [true, false, false] [] (dCons (dVar 0) (dCons (dVar 3) (dCons (dC (.int 3)) (dNil))))) (dCons (dCall m__law_model [true, false, false] [] (dCons (dVar 0) (dCons (dVar 3) (dCons (dC (.int 3)) (dNil))))) (dNil)))) (dSeq (dIfS (dTest (dOp2 opEq (dCall m__law_random [true, false] [] (dCons (dVar 0) (dCons (dC (.int 6)) (dNil)))) (dC (.int 0)))) (dSet 5 (dVar 4)) (dNext)) (dRet (dTup (dCons (dVar 4) (dCons (dVar 5) (dCons (dOp2 opAdd (dC (.int 1)) (dCall m__law_random [true, false] [] (dCons (dVar 0) (dCons (dVar 2) (dNil))))) (dNil))))))))
noncomputable def m__law_setting : Fn := run 6 g__law_setting
noncomputable def g__law_is_between : DS := dRet (dAndV (dOp1 (bIsi "int") (dVar 0)) (dAndV (dNotV (dOp1 (bIsi "bool") (dVar 0))) (dChain opLe opLe (dVar 1) (dVar 0) (dVar 2))))
noncomputable def m__law_is_between : Fn := run 3 g__law_is_between
noncomputable def g__law_is_state : DS := dSeq (dIfS (dOr (dNot (dTest (dOp1 (bIsi "tuple") (dVar 0)))) (dOr (dTest (dOp2 opNe (dCallB bLen (dCons (dVar 0) (dNil))) (dC (.int 2)))) (dOr (dNot (dTest (dOp1 (bIsi "list") (dOp2 opIx (dVar 0) (dC (.int 0)))))) (dNot (dTest (dOp1 (bIsi "list") (dOp2 opIx (dVar 0) (dC (.int 1))))))))) (dRet (dC (.bool false))) (dNext)) (dSeq (dIfS (dOr (dTest (dOp2 opNe (dCallB bLen (dCons (dOp2 opIx (dVar 0) (dC (.int 0))) (dNil))) (dOp2 opAdd (dVar 1) (dC (.int 1))))) (dOr (dTest (dOp2 opNe (dCallB bLen (dCons (dOp2 opIx (dVar 0) (dC (.int 1))) (dNil))) (dVar 1))) (dTest (dOp2 opNe (dLc (dIter DL.iSeq (dOp2 opIx (dVar 0) (dC (.int 0)))) (DL.gName 5) (dNot (dTest (dCall m__law_is_between [false, false, false] [] (dCons (dVar 5) (dCons (dC (.int 0)) (dCons (dOp2 opPow (dC (.int 10)) (dC (.int 40))) (dNil))))))) (dVar 5) [5]) (dList (dNil)))))) (dRet (dC (.bool false))) (dNext)) (dSeq (dIfS (dTest (dOp2 opEq (dCallB bSum (dCons (dOp2 opIx (dVar 0) (dC (.int 0))) (dNil))) (dC (.int 0)))) (dRet (dC (.bool false))) (dNext)) (dSeq (dSet 3 (dLc (dIterA iRange1 (dCons (dVar 1) (dNil))) (DL.gName 4) (dIfT (dTest (dOp2 opEq (dOp2 opIx (dOp2 opIx (dVar 0) (dC (.int 0))) (dVar 4)) (dC (.int 0)))) (dTest (dOp2 opIsNot (dOp2 opIx (dOp2 opIx (dVar 0) (dC (.int 1))) (dVar 4)) (dC .none))) (dNot (dTest (dCall m__law_is_between [false, false, false] [] (dCons (dOp2 opIx (dOp2 opIx (dVar 0) (dC (.int 1))) (dVar 4)) (dCons (dC (.int 0)) (dCons (dOp2 opSub (dVar 2) (dC (.int 1))) (dNil)))))))) (dVar 4) [4])) (dRet (dOp2 opEq (dVar 3) (dList (dNil)))))))
noncomputable def m__law_is_state : Fn := run 6 g__law_is_state
noncomputable def g__law_is_model : DS := dSeq (dIfS (dOr (dNot (dTest (dOp1 (bIsi "tuple") (dVar 0)))) (dOr (dTest (dOp2 opNe (dCallB bLen (dCons (dVar 0) (dNil))) (dC (.int 3)))) (dOr (dNot (dTest (dOp1 (bIsi "str") (dOp2 opIx (dVar 0) (dC (.int 0)))))) (dTest (dOp2 opNe (dOp2 opIx (dVar 0) (dC (.int 0))) (dC (.str (Str.ofString "model")))))))) (dRet (dC (.bool false))) (dNext)) (dSeq (dIfS (dOr (dNot (dTest (dCall m__law_is_between [false, false, false] [] (dCons (dOp2 opIx (dVar 0) (dC (.int 1))) (dCons (dC (.int 1)) (dCons (dC (.int 40)) (dNil))))))) (dOr (dNot (dTest (dOp1 (bIsi "list") (dOp2 opIx (dVar 0) (dC (.int 2)))))) (dTest (dOp2 opEq (dOp2 opIx (dVar 0) (dC (.int 2))) (dList (dNil)))))) (dRet (dC (.bool false))) (dNext)) (dRet (dOp2 opEq (dLc (dIter DL.iSeq (dOp2 opIx (dVar 0) (dC (.int 2)))) (DL.gName 1) (dNot (dTest (dCall m__law_is_state [false, false, false] [] (dCons (dVar 1) (dCons (dOp2 opIx (dVar 0) (dC (.int 1))) (dCons (dCallB bLen (dCons (dOp2 opIx (dVar 0) (dC (.int 2))) (dNil))) (dNil))))))) (dVar 1) [1]) (dList (dNil)))))
noncomputable def m__law_is_model : Fn := run 2 g__law_is_model
noncomputable def g__law_is_setting : DS := dSeq (dIfS (dOr (dNot (dTest (dOp1 (bIsi "tuple") (dVar 0)))) (dOr (dTest (dOp2 opNe (dCallB bLen (dCons (dVar 0) (dNil))) (dC (.int 3)))) (dOr (dNot (dTest (dCall m__law_is_model [false] [] (dCons (dOp2 opIx (dVar 0) (dC (.int 0))) (dNil))))) (dNot (dTest (dCall m__law_is_model [false] [] (dCons (dOp2 opIx (dVar 0) (dC (.int 1))) (dNil)))))))) (dRet (dC (.bool false))) (dNext)) (dRet (dAndV (dOp2 opEq (dOp2 opIx (dOp2 opIx (dVar 0) (dC (.int 0))) (dC (.int 1))) (dOp2 opIx (dOp2 opIx (dVar 0) (dC (.int 1))) (dC (.int 1)))) (dAndV (dOp2 opLe (dOp2 opIx (dOp2 opIx (dVar 0) (dC (.int 0))) (dC (.int 1))) (dC (.int 4))) (dCall m__law_is_between [false, false, false] [] (dCons (dOp2 opIx (dVar 0) (dC (.int 2))) (dCons (dC (.int 1)) (dCons (dC (.int 4)) (dNil))))))))
noncomputable def m__law_is_setting : Fn := run 1 g__law_is_setting
noncomputable def g__law_bent_state : DS := dSeq (dAsg (DL.gTup 2 (DL.gCons (DL.gName 3) (DL.gCons (DL.gName 4) (DL.gNil)))) (dVar 1)) (dSeq (dPar [5, 6] (dCons (dCall m__law_random [true, false] [] (dCons (dVar 0) (dCons (dOp2 opAdd (dVar 2) (dC (.int 1))) (dNil)))) (dCons (dCall m__law_random [true, false] [] (dCons (dVar 0) (dCons (dVar 2) (dNil)))) (dNil)))) (dSeq (dSet 7 (dCall m__law_pick [true, false] [] (dCons (dVar 0) (dCons (dList (dCons (dC (.int 0)) (dCons (dC (.int 1)) (dCons (dOp1 opNeg (dC (.int 1))) (dCons (dC (.bool true)) (dCons (dC (.bool false)) (dCons (dC .none) (dCons (dC (.str (Str.ofString "1"))) (dCons (dC (.int 7)) (dNil)))))))))) (dNil))))) (dSeq (dSet 8 (dCall m__law_pick [true, false] [] (dCons (dVar 0) (dCons (dList (dCons (dC (.int 0)) (dCons (dC (.int 1)) (dCons (dC (.int 12)) (dCons (dOp1 opNeg (dC (.int 1))) (dCons (dC .none) (dCons (dC (.bool true)) (dCons (dC (.str (Str.ofString "0"))) (dNil))))))))) (dNil))))) (dSeq (dSet 9 (dList (dCons (dTup (dCons (dOp2 opAdd (dOp2 opAdd (dSlice opSlice (dVar 3) (dNoPart) (dPart (dVar 5))) (dList (dCons (dVar 7) (dNil)))) (dSlice opSlice (dVar 3) (dPart (dOp2 opAdd (dVar 5) (dC (.int 1)))) (dNoPart))) (dCons (dVar 4) (dNil)))) (dCons (dTup (dCons (dVar 3) (dCons (dOp2 opAdd (dOp2 opAdd (dSlice opSlice (dVar 4) (dNoPart) (dPart (dVar 6))) (dList (dCons (dVar 8) (dNil)))) (dSlice opSlice (dVar 4) (dPart (dOp2 opAdd (dVar 6) (dC (.int 1)))) (dNoPart))) (dNil)))) (dCons (dTup (dCons (dOp2 opAdd (dVar 3) (dList (dCons (dC (.int 0)) (dNil)))) (dCons (dVar 4) (dNil)))) (dCons (dTup (dCons (dVar 3) (dCons (dOp2 opAdd (dVar 4) (dList (dCons (dC .none) (dNil)))) (dNil)))) (dCons (dTup (dCons (dSlice opSlice (dVar 3) (dPart (dC (.int 1))) (dNoPart)) (dCons (dVar 4) (dNil)))) (dNil)))))))) (dSeq (dSet 9 (dOp2 opAdd (dVar 9) (dList (dCons (dTup (dCons (dCallB bTuple (dCons (dVar 3) (dNil))) (dCons (dVar 4) (dNil)))) (dCons (dTup (dCons (dVar 3) (dCons (dCallB bTuple (dCons (dVar 4) (dNil))) (dNil)))) (dCons (dList (dCons (dVar 3) (dCons (dVar 4) (dNil)))) (dCons (dTup (dCons (dVar 3) (dCons (dVar 4) (dCons (dC (.int 0)) (dNil))))) (dCons (dC .none) (dCons (dTup (dCons (dOp2 opMul (dList (dCons (dC (.int 0)) (dNil))) (dOp2 opAdd (dVar 2) (dC (.int 1)))) (dCons (dOp2 opMul (dList (dCons (dC .none) (dNil))) (dVar 2)) (dNil)))) (dNil)))))))))) (dRet (dCall m__law_pick [true, false] [] (dCons (dVar 0) (dCons (dVar 9) (dNil))))))))))
noncomputable def m__law_bent_state : Fn := run 10 g__law_bent_state
noncomputable def g__law_bent_model : DS := dSeq (dAsg (DL.gTup 3 (DL.gCons (DL.gName 2) (DL.gCons (DL.gName 3) (DL.gCons (DL.gName 4) (DL.gNil))))) (dVar 1)) (dSeq (dSet 5 (dCall m__law_random [true, false] [] (dCons (dVar 0) (dCons (dCallB bLen (dCons (dVar 4) (dNil))) (dNil))))) (dSeq (dSet 6 (dList (dCons (dTup (dCons (dC (.str (Str.ofString "table"))) (dCons (dVar 3) (dCons (dVar 4) (dNil))))) (dCons (dTup (dCons (dVar 2) (dCons (dOp2 opAdd (dVar 3) (dC (.int 1))) (dCons (dVar 4) (dNil))))) (dCons (dTup (dCons (dVar 2) (dCons (dC (.bool true)) (dCons (dVar 4) (dNil))))) (dCons (dTup (dCons (dVar 2) (dCons (dVar 3) (dCons (dCallB bTuple (dCons (dVar 4) (dNil))) (dNil))))) (dCons (dTup (dCons (dVar 2) (dCons (dVar 3) (dCons (dList (dNil)) (dNil))))) (dNil)))))))) (dSeq (dSet 6 (dOp2 opAdd (dVar 6) (dList (dCons (dTup (dCons (dVar 2) (dCons (dVar 3) (dNil)))) (dCons (dList (dCons (dVar 2) (dCons (dVar 3) (dCons (dVar 4) (dNil))))) (dCons (dC .none) (dCons (dTup (dCons (dVar 2) (dCons (dC (.int 0)) (dCons (dVar 4) (dNil))))) (dCons (dTup (dCons (dVar 2) (dCons (dOp2 opSub (dC (.int 0)) (dVar 3)) (dCons (dVar 4) (dNil))))) (dNil))))))))) (dSeq (dIfS (dTest (dOp2 opEq (dCall m__law_random [true, false] [] (dCons (dVar 0) (dCons (dC (.int 3)) (dNil)))) (dC (.int 0)))) (dRet (dCall m__law_pick [true, false] [] (dCons (dVar 0) (dCons (dVar 6) (dNil))))) (dNext)) (dRet (dTup (dCons (dVar 2) (dCons (dVar 3) (dCons (dOp2 opAdd (dOp2 opAdd (dSlice opSlice (dVar 4) (dNoPart) (dPart (dVar 5))) (dList (dCons (dCall m__law_bent_state [true, false, false] [] (dCons (dVar 0) (dCons (dOp2 opIx (dVar 4) (dVar 5)) (dCons (dVar 3) (dNil))))) (dNil)))) (dSlice opSlice (dVar 4) (dPart (dOp2 opAdd (dVar 5) (dC (.int 1)))) (dNoPart))) (dNil))))))))))
noncomputable def m__law_bent_model : Fn := run 7 g__law_bent_model
noncomputable def g__law_odd_setting : DS := dSeq (dAsg (DL.gTup 3 (DL.gCons (DL.gName 2) (DL.gCons (DL.gName 3) (DL.gCons (DL.gName 4) (DL.gNil))))) (dVar 1)) (dSeq (dAsg (DL.gTup 2 (DL.gCons (DL.gName 5) (DL.gCons (DL.gName 6) (DL.gNil)))) (dOp2 opIx (dOp2 opIx (dVar 2) (dC (.int 2))) (dC (.int 0)))) (dSeq (dSet 7 (dList (dCons (dC .none) (dCons (dList (dCons (dVar 2) (dCons (dVar 3) (dCons (dVar 4) (dNil))))) (dCons (dTup (dCons (dVar 2) (dCons (dVar 3) (dNil)))) (dCons (dTup (dCons (dVar 2) (dCons (dVar 3) (dCons (dVar 4) (dCons (dC (.int 0)) (dNil)))))) (dCons (dTup (dCons (dVar 2) (dCons (dVar 3) (dCons (dC (.int 0)) (dNil))))) (dCons (dTup (dCons (dVar 2) (dCons (dVar 3) (dCons (dC (.int 5)) (dNil))))) (dCons (dTup (dCons (dVar 2) (dCons (dVar 3) (dCons (dC (.bool true)) (dNil))))) (dNil)))))))))) (dSeq (dSet 7 (dOp2 opAdd (dVar 7) (dList (dCons (dTup (dCons (dVar 2) (dCons (dC .none) (dCons (dVar 4) (dNil))))) (dCons (dTup (dCons (dSlice opSliceT (dVar 3) (dNoPart) (dPart (dC (.int 2)))) (dCons (dVar 2) (dCons (dVar 4) (dNil))))) (dCons (dTup (dCons (dVar 2) (dCons (dVar 3) (dCons (dC .none) (dNil))))) (dNil))))))) (dSeq (dSet 7 (dOp2 opAdd (dVar 7) (dList (dCons (dTup (dCons (dOp2 opAddT (dTup (dCons (dC (.str (Str.ofString "Model"))) (dNil))) (dSlice opSliceT (dVar 2) (dPart (dC (.int 1))) (dNoPart))) (dCons (dVar 3) (dCons (dVar 4) (dNil))))) (dCons (dTup (dCons (dTup (dCons (dC (.str (Str.ofString "model"))) (dCons (dOp2 opIx (dVar 2) (dC (.int 1))) (dCons (dList (dNil)) (dNil))))) (dCons (dVar 3) (dCons (dVar 4) (dNil))))) (dCons (dTup (dCons (dVar 2) (dCons (dTup (dCons (dC (.str (Str.ofString "model"))) (dCons (dOp2 opAdd (dOp2 opIx (dVar 3) (dC (.int 1))) (dC (.int 1))) (dCons (dLc (dIter DL.iSeq (dOp2 opIx (dVar 3) (dC (.int 2)))) (DL.gName 8) (dTests) (dTup (dCons (dOp2 opAdd (dOp2 opIx (dVar 8) (dC (.int 0))) (dList (dCons (dC (.int 0)) (dNil)))) (dCons (dOp2 opAdd (dOp2 opIx (dVar 8) (dC (.int 1))) (dList (dCons (dC .none) (dNil)))) (dNil)))) [8]) (dNil))))) (dCons (dVar 4) (dNil))))) (dNil))))))) (dSeq (dSet 7 (dOp2 opAdd (dVar 7) (dList (dCons (dTup (dCons (dTup (dCons (dC (.str (Str.ofString "model"))) (dCons (dOp2 opIx (dVar 2) (dC (.int 1))) (dCons (dOp2 opAdd (dList (dCons (dTup (dCons (dOp2 opMul (dList (dCons (dC (.int 0)) (dNil))) (dCallB bLen (dCons (dVar 5) (dNil)))) (dCons (dOp2 opMul (dList (dCons (dC .none) (dNil))) (dOp2 opIx (dVar 2) (dC (.int 1)))) (dNil)))) (dNil))) (dSlice opSlice (dOp2 opIx (dVar 2) (dC (.int 2))) (dPart (dC (.int 1))) (dNoPart))) (dNil))))) (dCons (dVar 3) (dCons (dVar 4) (dNil))))) (dCons (dTup (dCons (dTup (dCons (dC (.str (Str.ofString "model"))) (dCons (dOp2 opIx (dVar 2) (dC (.int 1))) (dCons (dOp2 opAdd (dList (dCons (dTup (dCons (dOp2 opAdd (dVar 5) (dList (dCons (dC (.int 1)) (dNil)))) (dCons (dVar 6) (dNil)))) (dNil))) (dSlice opSlice (dOp2 opIx (dVar 2) (dC (.int 2))) (dPart (dC (.int 1))) (dNoPart))) (dNil))))) (dCons (dVar 3) (dCons (dVar 4) (dNil))))) (dNil)))))) (dSeq (dSet 7 (dOp2 opAdd (dVar 7) (dList (dCons (dTup (dCons (dVar 2) (dCons (dTup (dCons (dC (.str (Str.ofString "model"))) (dCons (dOp2 opIx (dVar 3) (dC (.int 1))) (dCons (dOp2 opAdd (dList (dCons (dTup (dCons (dOp2 opAdd (dSlice opSlice (dOp2 opIx (dOp2 opIx (dOp2 opIx (dVar 3) (dC (.int 2))) (dC (.int 0))) (dC (.int 0))) (dNoPart) (dPart (dOp1 opNeg (dC (.int 1))))) (dList (dCons (dOp1 opNeg (dC (.int 1))) (dNil)))) (dCons (dOp2 opIx (dOp2 opIx (dOp2 opIx (dVar 3) (dC (.int 2))) (dC (.int 0))) (dC (.int 1))) (dNil)))) (dNil))) (dSlice opSlice (dOp2 opIx (dVar 3) (dC (.int 2))) (dPart (dC (.int 1))) (dNoPart))) (dNil))))) (dCons (dVar 4) (dNil))))) (dCons (dC (.str (Str.ofString "setting"))) (dNil)))))) (dSeq (dSet 7 (dOp2 opAdd (dVar 7) (dList (dCons (dTup (dCons (dTup (dCons (dC (.str (Str.ofString "model"))) (dCons (dOp2 opIx (dVar 2) (dC (.int 1))) (dCons (dOp2 opAdd (dList (dCons (dTup (dCons (dVar 5) (dCons (dOp2 opMul (dList (dCons (dC (.int 99)) (dNil))) (dOp2 opIx (dVar 2) (dC (.int 1)))) (dNil)))) (dNil))) (dSlice opSlice (dOp2 opIx (dVar 2) (dC (.int 2))) (dPart (dC (.int 1))) (dNoPart))) (dNil))))) (dCons (dVar 3) (dCons (dVar 4) (dNil))))) (dNil))))) (dSeq (dSet 7 (dOp2 opAdd (dVar 7) (dList (dCons (dTup (dCons (dVar 2) (dCons (dTup (dCons (dC (.str (Str.ofString "model"))) (dCons (dOp2 opIx (dVar 3) (dC (.int 1))) (dCons (dOp2 opAdd (dOp2 opIx (dVar 3) (dC (.int 2))) (dList (dCons (dTup (dCons (dOp2 opMul (dList (dCons (dC (.int 0)) (dNil))) (dCallB bLen (dCons (dVar 5) (dNil)))) (dCons (dOp2 opMul (dList (dCons (dC .none) (dNil))) (dOp2 opIx (dVar 2) (dC (.int 1)))) (dNil)))) (dNil)))) (dNil))))) (dCons (dVar 4) (dNil))))) (dNil))))) (dRet (dCall m__law_pick [true, false] [] (dCons (dVar 0) (dCons (dVar 7) (dNil)))))))))))))
noncomputable def m__law_odd_setting : Fn := run 9 g__law_odd_setting
noncomputable def g_law : DS := dSeq (dSet 1 (dCall m__law_generator [false, false] [] (dCons (dVar 0) (dCons (dC (.int 0)) (dNil))))) (dSeq (dFor (dIterA iRange1 (dCons (dC (.int 6)) (dNil))) (DL.gName 2) (dSeq (dSet 3 (dCall m__law_setting [true, false, false] [] (dCons (dVar 1) (dCons (dC (.int 4)) (dCons (dC (.int 4)) (dNil)))))) (dSeq (dAsg (DL.gTup 3 (DL.gCons (DL.gName 4) (DL.gCons (DL.gName 5) (DL.gCons (DL.gName 6) (DL.gNil))))) (dVar 3)) (dSeq (dSet 7 (dCall m__law_model [true, false, false] [] (dCons (dVar 1) (dCons (dOp2 opAdd (dC (.int 1)) (dCall m__law_random [true, false] [] (dCons (dVar 1) (dCons (dC (.int 6)) (dNil))))) (dCons (dC (.int 3)) (dNil)))))) (dSeq (dSet 8 (dList (dCons (dVar 3) (dCons (dTup (dCons (dVar 4) (dCons (dVar 7) (dCons (dVar 6) (dNil))))) (dCons (dTup (dCons (dVar 7) (dCons (dVar 5) (dCons (dVar 6) (dNil))))) (dCons (dTup (dCons (dVar 7) (dCons (dVar 7) (dCons (dVar 6) (dNil))))) (dCons (dTup (dCons (dCall m__law_bent_model [true, false] [] (dCons (dVar 1) (dCons (dVar 4) (dNil)))) (dCons (dVar 5) (dCons (dVar 6) (dNil))))) (dCons (dTup (dCons (dVar 4) (dCons (dCall m__law_bent_model [true, false] [] (dCons (dVar 1) (dCons (dVar 5) (dNil)))) (dCons (dVar 6) (dNil))))) (dNil))))))))) (dSeq (dSet 8 (dOp2 opAdd (dVar 8) (dList (dCons (dTup (dCons (dVar 4) (dCons (dVar 5) (dCons (dCall m__law_pick [true, false] [] (dCons (dVar 1) (dCons (dList (dCons (dC (.int 0)) (dCons (dC (.int 5)) (dCons (dC (.bool true)) (dCons (dC .none) (dCons (dC (.str (Str.ofString "1"))) (dCons (dC (.int 4)) (dCons (dC (.int 1)) (dNil))))))))) (dNil)))) (dNil))))) (dCons (dCall m__law_odd_setting [true, false] [] (dCons (dVar 1) (dCons (dVar 3) (dNil)))) (dCons (dCallB bList (dCons (dVar 3) (dNil))) (dCons (dTup (dCons (dVar 4) (dCons (dVar 5) (dNil)))) (dNil)))))))) (dFor (dIter DL.iSeq (dVar 8)) (DL.gName 9) (dSeq (dPar [10, 11] (dCons (dCallB bRepr (dCons (dVar 9) (dNil))) (dCons (dCall m__law_is_setting [false] [] (dCons (dVar 9) (dNil))) (dNil)))) (dSeq (dSet 12 (dIf (dTest (dOp2 opEq (dOp2 opMod (dVar 2) (dC (.int 2))) (dC (.int 0)))) (dCall m_is_setting [false] [] (dCons (dVar 9) (dNil))) (dCallK m_is_setting 0 1 [0] [] dNil (dCons (dVar 9) (dNil))))) (dIfS (dOr (dIfT (dTest (dVar 11)) (dTest (dOp2 opIsNot (dVar 12) (dC (.bool true)))) (dTest (dOp2 opIsNot (dVar 12) (dC (.bool false))))) (dTest (dOp2 opNe (dCallB bRepr (dCons (dVar 9) (dNil))) (dVar 10)))) (dRet (dC (.bool false))) (dNext))))))))))) (dRet (dC (.bool true))))
noncomputable def m_law : Fn := run 13 g_law
end K43
end

section
set_option linter.all false
namespace K43
open PySem DL
/-! ## judges of data -/
def cnt : D → Bool
  | .int i => decide (0 ≤ i)
  | _ => false
def btw (lo hi : Int) : D → Bool
  | .int i => decide (lo ≤ i) && decide (i ≤ hi)
  | _ => false
theorem count_ok (x : D) (hx : ∀ k, x ≠ .dict k) (k : Int) : m_is_count [.d x, .d (.int k)] = some (.d (.bool (match x with | .int i => decide (k ≤ i) | _ => false)), []) := by
  cases x with
  | dict k => exact absurd rfl (hx k)
  | _ => simp [m_is_count, g_is_count, run_ap, startD]
theorem count0_ok (x : D) (hx : ∀ k, x ≠ .dict k) : m_is_count [.d x, .d (.int 0)] = some (.d (.bool (cnt x)), []) := by
  rw [count_ok x hx]
  cases x <;> rfl
theorem btw_ok (x : D) (hx : ∀ k, x ≠ .dict k) (lo hi : Int) : m_is_between [.d x, .d (.int lo), .d (.int hi)] = some (.d (.bool (btw lo hi x)), []) := by
  cases x with
  | dict k => exact absurd rfl (hx k)
  | int i =>
    by_cases h : lo ≤ i <;> simp [m_is_between, g_is_between, run_ap, startD, btw, h]
  | _ => simp [m_is_between, g_is_between, run_ap, startD, btw]
theorem lbtw_ok (x : D) (hx : ∀ k, x ≠ .dict k) (lo hi : Int) : m__law_is_between [.d x, .d (.int lo), .d (.int hi)] = some (.d (.bool (btw lo hi x)), []) := btw_ok x hx lo hi
/-- no dict, ints below 10 ^ 40, lists not too long, at most n deep -/
def Fit : Nat → D → Prop
  | n, .list xs => xs.length ≤ 1000 ∧ match n with
    | 0 => False
    | n + 1 => ∀ y ∈ xs, Fit n y
  | n, .tuple xs => xs.length ≤ 1000 ∧ match n with
    | 0 => False
    | n + 1 => ∀ y ∈ xs, Fit n y
  | _, .dict _ => False
  | _, .int i => i ≤ 10000000000000000000000000000000000000000
  | _, _ => True
theorem Fit.nd {n : Nat} {x : D} (h : Fit n x) : ∀ k, x ≠ .dict k := by
  rintro k rfl
  cases n <;> exact h
theorem counts_go {L : D} {n : Nat} : ∀ xs : List D, (∀ y ∈ xs, Fit n y) → lcGo (DL.gName 1) (dTests) (dCall m_is_count [false] [PyData.int 0] (dCons (dVar 1) (dNil))) [1] xs [some (.d L), none] = some (xs.map fun y => .bool (cnt y), [some (.d L), none])
  | [], _ => by simp [lcGo_nil]
  | x :: r, h => by
    have ih := counts_go (L := L) r fun y hy => h y (by simp [hy])
    rw [lcGo_cons]
    simp [count0_ok x (h x (by simp)).nd, ih]
theorem bools_map {α : Type} (f : α → Bool) : ∀ xs : List α, boolsOf (xs.map fun y => .bool (f y)) = some (xs.map f)
  | [] => rfl
  | x :: r => by simp [bools_map f r]
def areC : D → Bool
  | .list xs => xs.all cnt
  | _ => false
theorem le_size {n : Nat} (h : n ≤ 1000) : n ≤ sizeLine := by rw [DL.sizeLine_eq]; omega
theorem Fit.list {n : Nat} {xs : List D} (h : Fit n (.list xs)) : xs.length ≤ 1000 ∧ ∀ y ∈ xs, Fit (n - 1) y := by
  cases n with
  | zero => exact h.2.elim
  | succ n => exact h
theorem Fit.tup {n : Nat} {xs : List D} (h : Fit n (.tuple xs)) : xs.length ≤ 1000 ∧ ∀ y ∈ xs, Fit (n - 1) y := by
  cases n with
  | zero => exact h.2.elim
  | succ n => exact h
theorem counts_ok {n : Nat} {x : D} (h : Fit n x) : m_are_counts [.d x] = some (.d (.bool (areC x)), []) := by
  cases x with
  | dict k => exact absurd rfl (h.nd k)
  | list xs =>
    have g := counts_go (L := .list xs) xs h.list.2
    simp [m_are_counts, g_are_counts, run_ap, startD, le_size h.list.1, g, bools_map, areC, List.all_map]
  | _ => simp [m_are_counts, g_are_counts, run_ap, startD, areC]
def isum : List D → Int
  | [] => 0
  | .int i :: r => i + isum r
  | _ :: r => isum r
theorem ints_ok : ∀ xs : List D, xs.all cnt = true → ∃ is, intsOf xs = some is ∧ is.sum = isum xs
  | [], _ => ⟨[], rfl, rfl⟩
  | .int i :: r, h => by
    obtain ⟨is, h1, h2⟩ := ints_ok r (by simp at h; simpa using h.2)
    exact ⟨i :: is, by rw [intsOf, h1]; rfl, by simp [isum, h2]⟩
  | .none :: r, h => by simp [cnt] at h
  | .bool _ :: r, h => by simp [cnt] at h
  | .str _ :: r, h => by simp [cnt] at h
  | .list _ :: r, h => by simp [cnt] at h
  | .tuple _ :: r, h => by simp [cnt] at h
  | .dict _ :: r, h => by simp [cnt] at h
def isT : D → Bool
  | .list xs => xs.all cnt && decide (0 < isum xs)
  | _ => false
theorem table_ok {n : Nat} {x : D} (h : Fit n x) : m_is_table [.d x] = some (.d (.bool (isT x)), []) := by
  have hc := counts_ok h
  cases x with
  | dict k => exact absurd rfl (h.nd k)
  | list xs =>
    by_cases c : xs.all cnt = true
    · obtain ⟨is, h1, h2⟩ := ints_ok xs c
      simp only [areC, c] at hc
      simp [m_is_table, g_is_table, run_ap, startD, hc, h1, h2, isT, c]
    · have c' : xs.all cnt = false := by simpa using c
      simp only [areC, c'] at hc
      simp [m_is_table, g_is_table, run_ap, startD, hc, isT, c']
  | _ =>
    simp only [areC] at hc
    simp [m_is_table, g_is_table, run_ap, startD, hc, isT]
mutual
theorem fit_plain : ∀ (n : Nat) (x : D), Fit n x → x.plain = true ∧ x.depth ≤ n
  | n, .none, _ => by simp [PyData.plain, PyData.depth]
  | n, .bool _, _ => by simp [PyData.plain, PyData.depth]
  | n, .int _, _ => by simp [PyData.plain, PyData.depth]
  | n, .str _, _ => by simp [PyData.plain, PyData.depth]
  | 0, .list xs, h => h.2.elim
  | n + 1, .list xs, h => by
    obtain ⟨a, b⟩ := fit_plainAll n xs h.2
    simp [PyData.plain, PyData.depth, a, b]
  | 0, .tuple xs, h => h.2.elim
  | n + 1, .tuple xs, h => by
    obtain ⟨a, b⟩ := fit_plainAll n xs h.2
    simp [PyData.plain, PyData.depth, a, b]
  | n, .dict k, h => absurd rfl (h.nd k)
theorem fit_plainAll : ∀ (n : Nat) (xs : List D), (∀ y ∈ xs, Fit n y) → PyData.plainAll xs = true ∧ PyData.depthAll xs ≤ n
  | n, [], _ => by simp [PyData.plainAll, PyData.depthAll]
  | n, x :: r, h => by
    obtain ⟨a, b⟩ := fit_plain n x (h x (by simp))
    obtain ⟨c, d⟩ := fit_plainAll n r fun y hy => h y (by simp [hy])
    simp [PyData.plainAll, PyData.depthAll, a, c]
    omega
end
theorem Fit.flat {n : Nat} {x : D} (h : Fit n x) (hn : n ≤ 60) : flat x = true := by
  obtain ⟨a, b⟩ := fit_plain n x h
  simp [DL.flat, a]
  omega
theorem flat_list {n : Nat} {xs : List D} (h : ∀ y ∈ xs, Fit n y) (hn : n ≤ 60) : DL.flat (.list xs) = true := by
  obtain ⟨a, b⟩ := fit_plainAll n xs h
  simp [DL.flat, PyData.plain, PyData.depth, a]
  omega
theorem ne_list {xs : List D} (h : DL.flat (.list xs) = true) : opNe (.list xs) (.list []) = some (.d (.bool (!xs.isEmpty))) := by
  have h0 : DL.flat (.list []) = true := rfl
  cases xs <;> simp [opNe, h, h0, PyData.eqv, PyData.eqvAll]
theorem eq_list {xs : List D} (h : DL.flat (.list xs) = true) : opEq (.list xs) (.list []) = some (.d (.bool xs.isEmpty)) := by
  have h0 : DL.flat (.list []) = true := rfl
  cases xs <;> simp [opEq, h, h0, PyData.eqv, PyData.eqvAll]
def pairJ (states : Nat) : D → D → Bool
  | .int i, .none => decide (i ≤ 0)
  | .int i, .int j => !(i == 0) && (decide (0 ≤ j) && decide (j < states))
  | _, _ => false
def pairsJ (states : Nat) : List D → List D → Bool
  | x :: xs, y :: ys => pairJ states x y && pairsJ states xs ys
  | _, _ => true
def stateJ (many states : Nat) : D → Bool
  | .tuple [.list t, .list n] => t.all cnt && (decide (0 < isum t) && ((t.length == many + 1) && ((n.length == many) && pairsJ states t n)))
  | _ => false
theorem pairs_go {v t nx : D} {many states : Nat} : ∀ (xs ys : List D) (a b : Option SV), (a = none ∨ ∃ z, a = some (.d z)) → (b = none ∨ ∃ z, b = some (.d z)) → xs.all cnt = true → (∀ y ∈ ys, ∀ k, y ≠ .dict k) → ∃ st',
    forGo (DL.gTup 2 (DL.gCons (DL.gName 5) (DL.gCons (DL.gName 6) (DL.gNil)))) (dSeq (dIfS (dOr (dAnd (dTest (dOp2 opIs (dVar 6) (dC .none))) (dTest (dOp2 opGt (dVar 5) (dC (.int 0))))) (dAnd (dTest (dOp2 opIsNot (dVar 6) (dC .none))) (dTest (dOp2 opEq (dVar 5) (dC (.int 0)))))) (dRet (dC (.bool false))) (dNext)) (dIfS (dAnd (dTest (dOp2 opIsNot (dVar 6) (dC .none))) (dNot (dAnd (dTest (dCall m_is_count [false] [PyData.int 0] (dCons (dVar 6) (dNil)))) (dTest (dOp2 opLt (dVar 6) (dVar 2)))))) (dRet (dC (.bool false))) (dNext)))
      ((xs.zip ys).map fun p => .tuple [p.1, p.2]) [some (.d v), some (.d (.int (many : Nat))), some (.d (.int (states : Nat))), some (.d t), some (.d nx), a, b] = some (if pairsJ states xs ys = true then Fl.nx else Fl.rt (.d (.bool false)), st')
  | [], ys, a, b, ha, hb, hc, hd => ⟨_, by simp [forGo_nil, pairsJ]; rfl⟩
  | x :: xs, [], a, b, ha, hb, hc, hd => ⟨_, by simp [forGo_nil, pairsJ]; rfl⟩
  | x :: xs, y :: ys, a, b, ha, hb, hc, hd => by
    simp only [List.all_cons, Bool.and_eq_true] at hc
    obtain ⟨i, rfl, hi⟩ : ∃ i, x = .int i ∧ 0 ≤ i := by
      have := hc.1
      cases x <;> simp [cnt] at this
      exact ⟨_, rfl, this⟩
    obtain ⟨st', ih⟩ := pairs_go (v := v) (t := t) (nx := nx) (many := many) (states := states) xs ys (some (.d (.int i))) (some (.d y)) (.inr ⟨_, rfl⟩) (.inr ⟨_, rfl⟩) hc.2 fun z hz => hd z (by simp [hz])
    have hy := hd y (by simp)
    simp only [List.zip_cons_cons, List.map_cons, forGo_cons]
    have fin : ∀ (y' : D) (o : Option (Fl × DSt)) (w : DSt), o = some (if pairsJ states (.int i :: xs) (y' :: ys) = true then Fl.nx else Fl.rt (.d (.bool false)), w) → ∃ st' : DSt, o = some (if pairsJ states (.int i :: xs) (y' :: ys) = true then Fl.nx else Fl.rt (.d (.bool false)), st') := fun y' o w h => ⟨w, h⟩
    cases y with
    | dict k => exact absurd rfl (hy k)
    | none =>
      by_cases c : 0 < i
      · refine fin _ _ [some (.d v), some (.d (.int (many : Nat))), some (.d (.int (states : Nat))), some (.d t), some (.d nx), some (.d (.int i)), some (.d (.none))] ?_
        have c' : ¬ i ≤ 0 := by omega
        rcases ha with rfl | ⟨z, rfl⟩ <;> rcases hb with rfl | ⟨w, rfl⟩ <;> simp [pairsJ, pairJ, c, c']
      · refine fin _ _ st' ?_
        have c' : i ≤ 0 := by omega
        rcases ha with rfl | ⟨z, rfl⟩ <;> rcases hb with rfl | ⟨w, rfl⟩ <;> simp [pairsJ, pairJ, c, c', ih]
    | int j =>
      by_cases c : i = 0
      · refine fin _ _ [some (.d v), some (.d (.int (many : Nat))), some (.d (.int (states : Nat))), some (.d t), some (.d nx), some (.d (.int i)), some (.d (.int j))] ?_
        rcases ha with rfl | ⟨z, rfl⟩ <;> rcases hb with rfl | ⟨w, rfl⟩ <;> simp [pairsJ, pairJ, c]
      · have hk := count0_ok (.int j) (by simp)
        by_cases c1 : 0 ≤ j
        · by_cases c2 : j < states
          · refine fin _ _ st' ?_
            rcases ha with rfl | ⟨z, rfl⟩ <;> rcases hb with rfl | ⟨w, rfl⟩ <;> simp [pairsJ, pairJ, c, c1, c2, hk, cnt, ih]
          · refine fin _ _ [some (.d v), some (.d (.int (many : Nat))), some (.d (.int (states : Nat))), some (.d t), some (.d nx), some (.d (.int i)), some (.d (.int j))] ?_
            rcases ha with rfl | ⟨z, rfl⟩ <;> rcases hb with rfl | ⟨w, rfl⟩ <;> simp [pairsJ, pairJ, c, c1, c2, hk, cnt]
        · refine fin _ _ [some (.d v), some (.d (.int (many : Nat))), some (.d (.int (states : Nat))), some (.d t), some (.d nx), some (.d (.int i)), some (.d (.int j))] ?_
          rcases ha with rfl | ⟨z, rfl⟩ <;> rcases hb with rfl | ⟨w, rfl⟩ <;> simp [pairsJ, pairJ, c, c1, hk, cnt]
    | bool j =>
      have hk := count0_ok (.bool j) (by simp)
      refine fin _ _ [some (.d v), some (.d (.int (many : Nat))), some (.d (.int (states : Nat))), some (.d t), some (.d nx), some (.d (.int i)), some (.d (.bool j))] ?_
      by_cases c : i = 0 <;> rcases ha with rfl | ⟨z, rfl⟩ <;> rcases hb with rfl | ⟨w, rfl⟩ <;> simp [pairsJ, pairJ, c, hk, cnt]
    | str j =>
      have hk := count0_ok (.str j) (by simp)
      refine fin _ _ [some (.d v), some (.d (.int (many : Nat))), some (.d (.int (states : Nat))), some (.d t), some (.d nx), some (.d (.int i)), some (.d (.str j))] ?_
      by_cases c : i = 0 <;> rcases ha with rfl | ⟨z, rfl⟩ <;> rcases hb with rfl | ⟨w, rfl⟩ <;> simp [pairsJ, pairJ, c, hk, cnt]
    | list j =>
      have hk := count0_ok (.list j) (by simp)
      refine fin _ _ [some (.d v), some (.d (.int (many : Nat))), some (.d (.int (states : Nat))), some (.d t), some (.d nx), some (.d (.int i)), some (.d (.list j))] ?_
      by_cases c : i = 0 <;> rcases ha with rfl | ⟨z, rfl⟩ <;> rcases hb with rfl | ⟨w, rfl⟩ <;> simp [pairsJ, pairJ, c, hk, cnt]
    | tuple j =>
      have hk := count0_ok (.tuple j) (by simp)
      refine fin _ _ [some (.d v), some (.d (.int (many : Nat))), some (.d (.int (states : Nat))), some (.d t), some (.d nx), some (.d (.int i)), some (.d (.tuple j))] ?_
      by_cases c : i = 0 <;> rcases ha with rfl | ⟨z, rfl⟩ <;> rcases hb with rfl | ⟨w, rfl⟩ <;> simp [pairsJ, pairJ, c, hk, cnt]
theorem isT_list {x : D} (h : isT x = true) : ∃ t, x = .list t ∧ t.all cnt = true ∧ 0 < isum t := by
  cases x with
  | list t =>
    simp only [isT, Bool.and_eq_true, decide_eq_true_eq] at h
    exact ⟨t, rfl, h.1, h.2⟩
  | _ => simp [isT] at h
theorem state_ok {n : Nat} {x : D} (h : Fit n x) (many states : Nat) : m_is_state [.d x, .d (.int (many : Nat)), .d (.int (states : Nat))] = some (.d (.bool (stateJ many states x)), []) := by
  cases x with
  | dict k => exact absurd rfl (h.nd k)
  | tuple xs =>
    match xs, h with
    | [], h => simp [m_is_state, g_is_state, run_ap, startD, stateJ]
    | [a], h => simp [m_is_state, g_is_state, run_ap, startD, stateJ]
    | a :: b :: c :: r, h =>
      have e : ¬ ((r.length : Int) + 1 + 1 + 1 = 2) := by omega
      simp [m_is_state, g_is_state, run_ap, startD, stateJ, e]
    | [a, b], h =>
      have ha := h.tup.2 a (by simp)
      have hb := h.tup.2 b (by simp)
      have ht := table_ok ha
      by_cases hT : isT a = true
      · rw [hT] at ht
        obtain ⟨t, rfl, h1, h2⟩ := isT_list hT
        by_cases hl : t.length = many + 1
        · have hl' : (t.length : Int) = many + 1 := by omega
          cases b with
          | dict k => exact absurd rfl (hb.nd k)
          | list ns =>
            by_cases hn : ns.length = many
            · have hn' : (ns.length : Int) = many := by omega
              obtain ⟨st', e⟩ := pairs_go (v := .tuple [.list t, .list ns]) (t := .list t) (nx := .list ns) (many := many) (states := states) t ns none none (.inl rfl) (.inl rfl) h1 fun y hy => (hb.list.2 y hy).nd
              by_cases hp : pairsJ states t ns = true
              · simp [m_is_state, g_is_state, run_ap, startD, ht, hl', hn', e, hp, stateJ, h1, h2, hl, hn]
              · simp [m_is_state, g_is_state, run_ap, startD, ht, hl', hn', e, hp, stateJ, h1, h2, hl, hn]
            · have hn' : ¬ ((ns.length : Int) = many) := by omega
              simp [m_is_state, g_is_state, run_ap, startD, ht, hl', hn', stateJ, h1, h2, hl, hn]
          | _ => simp [m_is_state, g_is_state, run_ap, startD, ht, hl', stateJ, h1, h2, hl]
        · have hl' : ¬ ((t.length : Int) = many + 1) := by omega
          cases b <;> simp [m_is_state, g_is_state, run_ap, startD, ht, hl', stateJ, h1, h2, hl]
      · have hT' : isT a = false := by simpa using hT
        rw [hT'] at ht
        have hs : stateJ many states (.tuple [a, b]) = false := by
          cases a <;> cases b <;> simp [stateJ, isT] at hT' ⊢
          intro z1 z2
          have := hT' (by simpa using z1)
          omega
        rw [hs]
        simp [m_is_state, g_is_state, run_ap, startD, ht]
  | _ => simp [m_is_state, g_is_state, run_ap, startD, stateJ]
theorem pow40 : opPow (.int 10) (.int 40) = some (.d (.int 10000000000000000000000000000000000000000)) := by simp
theorem btw_cnt {n : Nat} {x : D} (h : Fit n x) : btw 0 10000000000000000000000000000000000000000 x = cnt x := by
  cases x with
  | int i =>
    have h' : i ≤ 10000000000000000000000000000000000000000 := by cases n <;> exact h
    simp [btw, cnt, h']
  | _ => rfl
theorem odd_go {v : D} {m s : D} {n : Nat} : ∀ xs : List D, (∀ y ∈ xs, Fit n y) →
    lcGo (DL.gName 5) (dNot (dTest (dCall m__law_is_between [false, false, false] [] (dCons (dVar 5) (dCons (dC (.int 0)) (dCons (dOp2 opPow (dC (.int 10)) (dC (.int 40))) (dNil))))))) (dVar 5) [5] xs [some (.d v), some (.d m), some (.d s), none, none, none] =
      some (xs.filter (fun y => !cnt y), [some (.d v), some (.d m), some (.d s), none, none, none])
  | [], _ => by simp [lcGo_nil]
  | x :: r, h => by
    have ih := odd_go (v := v) (m := m) (s := s) r fun y hy => h y (by simp [hy])
    have e := lbtw_ok x (h x (by simp)).nd 0 10000000000000000000000000000000000000000
    rw [btw_cnt (h x (by simp))] at e
    rw [lcGo_cons]
    by_cases c : cnt x = true
    · rw [c] at e
      simp [pow40, -opPow_ii, e, ih, c]
    · have c' : cnt x = false := by simpa using c
      rw [c'] at e
      simp [pow40, -opPow_ii, e, ih, c']
theorem bad_go {m s : D} {n states : Nat} {t ns : List D} (hc : t.all cnt = true) (hf : ∀ y ∈ ns, Fit n y) (hlen : ns.length ≤ t.length) (hs : s = .int (states : Nat)) : ∀ ks : List Nat, (∀ k ∈ ks, k < ns.length) →
    lcGo (DL.gName 4) (dIfT (dTest (dOp2 opEq (dOp2 opIx (dOp2 opIx (dVar 0) (dC (.int 0))) (dVar 4)) (dC (.int 0)))) (dTest (dOp2 opIsNot (dOp2 opIx (dOp2 opIx (dVar 0) (dC (.int 1))) (dVar 4)) (dC .none))) (dNot (dTest (dCall m__law_is_between [false, false, false] [] (dCons (dOp2 opIx (dOp2 opIx (dVar 0) (dC (.int 1))) (dVar 4)) (dCons (dC (.int 0)) (dCons (dOp2 opSub (dVar 2) (dC (.int 1))) (dNil)))))))) (dVar 4) [4]
      (ks.map fun k => .int (0 + (k : Nat))) [some (.d (.tuple [.list t, .list ns])), some (.d m), some (.d s), none, none, none] =
      some ((ks.filter fun k => !pairJ states (t.getD k .none) (ns.getD k .none)).map (fun k => .int (0 + (k : Nat))), [some (.d (.tuple [.list t, .list ns])), some (.d m), some (.d s), none, none, none])
  | [], _ => by simp [lcGo_nil]
  | k :: r, h => by
    have ih := bad_go (m := m) hc hf hlen hs r fun y hy => h y (by simp [hy])
    simp only [Int.zero_add] at ih
    have hk := h k (by simp)
    have hk2 : k < t.length := by omega
    have hk' : (k : Int) < ns.length := by omega
    have hk2' : (k : Int) < t.length := by omega
    have hy := hf ns[k] (List.getElem_mem hk)
    have hi : cnt t[k] = true := List.all_eq_true.mp hc _ (List.getElem_mem hk2)
    have g1 : t.getD k .none = t[k] := by simp [List.getD_eq_getElem?_getD, List.getElem?_eq_getElem hk2]
    have g2 : ns.getD k .none = ns[k] := by simp [List.getD_eq_getElem?_getD, List.getElem?_eq_getElem hk]
    rw [List.map_cons, lcGo_cons, List.filter_cons, g1, g2]
    generalize hx : t[k] = x at hi
    generalize hz : ns[k] = y at hy
    subst hs
    obtain ⟨i, rfl, hi0⟩ : ∃ i, x = .int i ∧ 0 ≤ i := by
      cases x <;> simp [cnt] at hi
      exact ⟨_, rfl, hi⟩
    have e := lbtw_ok y hy.nd 0 ((states : Int) - 1)
    by_cases c : i = 0
    · subst c
      cases y with
      | dict k => exact absurd rfl (hy.nd k)
      | _ => simp [hk, hk2, hk', hk2', hx, hz, pairJ, ih]
    · have c2 : ¬ i ≤ 0 := by omega
      cases y with
      | dict k => exact absurd rfl (hy.nd k)
      | int j =>
        by_cases c3 : 0 ≤ j
        · by_cases c4 : j < states
          · have c5 : j ≤ (states : Int) - 1 := by omega
            simp [hk, hk2, hk', hk2', hx, hz, pairJ, ih, c, e, btw, c3, c4, c5]
          · have c5 : ¬ j ≤ (states : Int) - 1 := by omega
            simp [hk, hk2, hk', hk2', hx, hz, pairJ, ih, c, e, btw, c3, c4, c5]
        · simp [hk, hk2, hk', hk2', hx, hz, pairJ, ih, c, e, btw, c3]
      | _ => simp [hk, hk2, hk', hk2', hx, hz, pairJ, ih, c, c2, e, btw]
theorem pairsJ_all {states : Nat} : ∀ (t ns : List D), ns.length ≤ t.length → pairsJ states t ns = (List.range ns.length).all fun k => pairJ states (t.getD k .none) (ns.getD k .none)
  | _, [], _ => by simp [pairsJ]
  | [], _ :: _, h => by simp at h
  | x :: t, y :: ns, h => by
    have ih := pairsJ_all (states := states) t ns (by simpa using h)
    rw [pairsJ, ih, List.length_cons, List.range_succ_eq_map, List.all_cons, List.all_map]
    rfl
theorem flat_ints : ∀ ks : List Nat, PyData.plainAll (ks.map fun k => .int (0 + (k : Nat))) = true ∧ PyData.depthAll (ks.map fun k => PyData.int (0 + (k : Nat))) = 0
  | [] => by simp [PyData.plainAll, PyData.depthAll]
  | k :: r => by
    obtain ⟨a, b⟩ := flat_ints r
    simp only [List.map_cons, PyData.plainAll, PyData.depthAll, PyData.plain, PyData.depth, a, b]
    decide
theorem eq_ints (ks : List Nat) : opEq (.list (ks.map fun k => .int (0 + (k : Nat)))) (.list []) = some (.d (.bool ks.isEmpty)) := by
  obtain ⟨a, b⟩ := flat_ints ks
  rw [eq_list (by simp only [DL.flat, PyData.plain, PyData.depth, a, b]; decide)]
  cases ks <;> rfl
theorem filter_empty {α : Type} (f : α → Bool) : ∀ xs : List α, (xs.filter fun y => !f y).isEmpty = xs.all f
  | [] => rfl
  | x :: r => by
    rw [List.filter_cons, List.all_cons, ← filter_empty f r]
    cases f x <;> simp
theorem isum_nonneg : ∀ xs : List D, xs.all cnt = true → 0 ≤ isum xs
  | [], _ => Int.le_refl _
  | x :: r, h => by
    simp only [List.all_cons, Bool.and_eq_true] at h
    have ih := isum_nonneg r h.2
    cases x <;> simp [cnt] at h
    simp only [isum]
    omega
theorem lstate_ok {n : Nat} {x : D} (h : Fit n x) (hn : n ≤ 60) (many states : Nat) : m__law_is_state [.d x, .d (.int (many : Nat)), .d (.int (states : Nat))] = some (.d (.bool (stateJ many states x)), []) := by
  cases x with
  | dict k => exact absurd rfl (h.nd k)
  | tuple xs =>
    match xs, h with
    | [], h => simp [m__law_is_state, g__law_is_state, run_ap, startD, stateJ]
    | [a], h => simp [m__law_is_state, g__law_is_state, run_ap, startD, stateJ]
    | a :: b :: c :: r, h =>
      have e : ¬ ((r.length : Int) + 1 + 1 + 1 = 2) := by omega
      simp [m__law_is_state, g__law_is_state, run_ap, startD, stateJ, e]
    | [a, b], h =>
      have ha := h.tup.2 a (by simp)
      have hb := h.tup.2 b (by simp)
      cases a with
      | dict k => exact absurd rfl (ha.nd k)
      | list t =>
        cases b with
        | dict k => exact absurd rfl (hb.nd k)
        | list ns =>
          by_cases hl : t.length = many + 1
          · have hl' : (t.length : Int) = many + 1 := by omega
            by_cases hns : ns.length = many
            · have hn' : (ns.length : Int) = many := by omega
              have o := odd_go (v := .tuple [.list t, .list ns]) (m := .int (many : Nat)) (s := .int (states : Nat)) t ha.list.2
              have ho := ne_list (xs := t.filter fun y => !cnt y) (flat_list (n := n - 1 - 1) (fun y hy => ha.list.2 y (List.mem_filter.mp hy).1) (by omega))
              rw [filter_empty] at ho
              have hsz : many + 1 ≤ 16777216 := by
                have := ha.list.1
                omega
              by_cases hc : t.all cnt = true
              · obtain ⟨is, i1, i2⟩ := ints_ok t hc
                have hp := isum_nonneg t hc
                rw [hc] at ho
                by_cases hz : isum t = 0
                · simp [m__law_is_state, g__law_is_state, run_ap, startD, stateJ, hl', hn', hl, hns, o, ho, hsz, DL.sizeLine_eq, i1, i2, hz]
                · have hpos : 0 < isum t := by omega
                  have bg := bad_go (m := .int (many : Nat)) (s := .int (states : Nat)) hc hb.list.2 (by omega) rfl (List.range ns.length) (fun k hk => List.mem_range.mp hk)
                  have eb := eq_ints ((List.range ns.length).filter fun k => !pairJ states (t.getD k .none) (ns.getD k .none))
                  rw [filter_empty, ← pairsJ_all t ns (by omega)] at eb
                  have hm1 : (many : Int) < 4611686018427387904 := by
                    have := hb.list.1
                    omega
                  have hm2 : (-4611686018427387904 : Int) ≤ many := by omega
                  have hr : iRange1 [.int (many : Nat)] = some ((List.range ns.length).map fun i => .int (0 + (i : Nat))) := by
                    rw [hns]
                    simp [hm1, hm2]
                  have hsz2 : ns.length ≤ 16777216 := by
                    have := hb.list.1
                    omega
                  rw [hns] at bg eb hr
                  simp only [Int.zero_add, List.getD_eq_getElem?_getD] at bg eb hr
                  have hsz3 : many ≤ 16777216 := by omega
                  simp [-iRange1_i, bg, eb, hsz3, m__law_is_state, g__law_is_state, run_ap, startD, stateJ, hl', hn', hl, hns, o, ho, hsz, DL.sizeLine_eq, i1, i2, hz, hr, hc, hpos]
              · have hc' : t.all cnt = false := by simpa using hc
                rw [hc'] at ho
                simp [m__law_is_state, g__law_is_state, run_ap, startD, stateJ, hl', hn', hl, hns, o, ho, hsz, DL.sizeLine_eq, hc']
            · have hn' : ¬ ((ns.length : Int) = many) := by omega
              simp [m__law_is_state, g__law_is_state, run_ap, startD, stateJ, hl', hn', hl, hns]
          · have hl' : ¬ ((t.length : Int) = many + 1) := by omega
            simp [m__law_is_state, g__law_is_state, run_ap, startD, stateJ, hl', hl]
        | _ => simp [m__law_is_state, g__law_is_state, run_ap, startD, stateJ]
      | _ => simp [m__law_is_state, g__law_is_state, run_ap, startD, stateJ]
  | _ => simp [m__law_is_state, g__law_is_state, run_ap, startD, stateJ]
theorem ne_str (a b : Str) : opNe (.str a) (.str b) = some (.d (.bool (!(a == b)))) := by
  simp [opNe, DL.flat, PyData.plain, PyData.depth, PyData.eqv]
def modelJ : D → Bool
  | .tuple [.str z, .int m, .list ss] => (z == Str.ofString "model") && (decide (1 ≤ m) && (decide (m ≤ 40) && (!ss.isEmpty && ss.all (stateJ m.toNat ss.length))))
  | _ => false
theorem states_go {z : Str} {m : Nat} {ss : List D} {n : Nat} : ∀ xs : List D, (∀ y ∈ xs, Fit n y) →
    lcGo (DL.gName 1) (dTests) (dCall m_is_state [false, false, false] [] (dCons (dVar 1) (dCons (dOp2 opIx (dVar 0) (dC (.int 1))) (dCons (dCallB bLen (dCons (dOp2 opIx (dVar 0) (dC (.int 2))) (dNil))) (dNil))))) [1] xs [some (.d (.tuple [.str z, .int (m : Nat), .list ss])), none] =
      some (xs.map fun y => .bool (stateJ m ss.length y), [some (.d (.tuple [.str z, .int (m : Nat), .list ss])), none])
  | [], _ => by simp [lcGo_nil]
  | x :: r, h => by
    have ih := states_go (z := z) (m := m) (ss := ss) r fun y hy => h y (by simp [hy])
    have e := state_ok (h x (by simp)) m ss.length
    rw [lcGo_cons]
    simp [e, ih]
theorem lstates_go {z : Str} {m : Nat} {ss : List D} {n : Nat} (hn : n ≤ 60) : ∀ xs : List D, (∀ y ∈ xs, Fit n y) →
    lcGo (DL.gName 1) (dNot (dTest (dCall m__law_is_state [false, false, false] [] (dCons (dVar 1) (dCons (dOp2 opIx (dVar 0) (dC (.int 1))) (dCons (dCallB bLen (dCons (dOp2 opIx (dVar 0) (dC (.int 2))) (dNil))) (dNil))))))) (dVar 1) [1] xs [some (.d (.tuple [.str z, .int (m : Nat), .list ss])), none] =
      some (xs.filter fun y => !stateJ m ss.length y, [some (.d (.tuple [.str z, .int (m : Nat), .list ss])), none])
  | [], _ => by simp [lcGo_nil]
  | x :: r, h => by
    have ih := lstates_go (z := z) (m := m) (ss := ss) hn r fun y hy => h y (by simp [hy])
    have e := lstate_ok (h x (by simp)) hn m ss.length
    rw [lcGo_cons]
    cases c : stateJ m ss.length x
    · rw [c] at e
      simp [e, ih, c]
    · rw [c] at e
      simp [e, ih, c]
theorem model_ok {n : Nat} {x : D} (h : Fit n x) (hn : n ≤ 60) : m_is_model [.d x] = some (.d (.bool (modelJ x)), []) ∧ m__law_is_model [.d x] = some (.d (.bool (modelJ x)), []) := by
  cases x with
  | dict k => exact absurd rfl (h.nd k)
  | tuple xs =>
    match xs, h with
    | [], h => constructor <;> simp [m_is_model, g_is_model, m__law_is_model, g__law_is_model, run_ap, startD, modelJ]
    | [a], h => constructor <;> simp [m_is_model, g_is_model, m__law_is_model, g__law_is_model, run_ap, startD, modelJ]
    | [a, b], h => constructor <;> simp [m_is_model, g_is_model, m__law_is_model, g__law_is_model, run_ap, startD, modelJ]
    | a :: b :: c :: d :: r, h =>
      have e : ¬ ((r.length : Int) + 1 + 1 + 1 + 1 = 3) := by omega
      constructor <;> simp [m_is_model, g_is_model, m__law_is_model, g__law_is_model, run_ap, startD, modelJ, e]
    | [a, b, c], h =>
      have hb := h.tup.2 b (by simp)
      have hc := h.tup.2 c (by simp)
      cases a with
      | dict k => exact absurd rfl ((h.tup.2 (.dict k) (by simp)).nd k)
      | str z =>
        by_cases hz : z = Str.ofString "model"
        · have q1 := count_ok b hb.nd 1
          have q2 := lbtw_ok b hb.nd 1 40
          cases b with
          | dict k => exact absurd rfl (hb.nd k)
          | int m =>
            by_cases m1 : 1 ≤ m
            · by_cases m2 : m ≤ 40
              · have m3 : ¬ 40 < m := by omega
                obtain ⟨k, rfl⟩ := Int.eq_ofNat_of_zero_le (show 0 ≤ m by omega)
                cases c with
                | dict k => exact absurd rfl (hc.nd k)
                | list ss =>
                  have ee := eq_list (flat_list hc.list.2 (by omega))
                  by_cases hs : ss = []
                  · subst hs
                    constructor <;> simp [m_is_model, g_is_model, m__law_is_model, g__law_is_model, run_ap, startD, modelJ, ne_str, hz, q1, q2, btw, m1, m2, m3, ee, DL.sizeLine_eq]
                  · have hs' : ss.isEmpty = false := by simp [hs]
                    rw [hs'] at ee
                    have g1 := states_go (z := z) (m := k) (ss := ss) ss hc.list.2
                    have g2 := lstates_go (z := z) (m := k) (ss := ss) (by omega) ss hc.list.2
                    have hf := eq_list (xs := ss.filter fun y => !stateJ k ss.length y) (flat_list (n := n - 1 - 1) (fun y hy => hc.list.2 y (List.mem_filter.mp hy).1) (by omega))
                    rw [filter_empty] at hf
                    have hsz : ss.length ≤ 16777216 := by
                      have := hc.list.1
                      omega
                    subst hz
                    constructor
                    · simp [m_is_model, g_is_model, run_ap, startD, modelJ, ne_str, q1, btw, m1, m2, m3, ee, DL.sizeLine_eq, g1, hsz, bools_map, hs]
                    · simp [m__law_is_model, g__law_is_model, run_ap, startD, modelJ, ne_str, q2, btw, m1, m2, m3, ee, DL.sizeLine_eq, g2, hsz, hf, hs]
                | _ => constructor <;> simp [m_is_model, g_is_model, m__law_is_model, g__law_is_model, run_ap, startD, modelJ, ne_str, hz, q1, q2, btw, m1, m2, m3]
              · have m3 : 40 < m := by omega
                constructor <;> cases c <;> simp [m_is_model, g_is_model, m__law_is_model, g__law_is_model, run_ap, startD, modelJ, ne_str, hz, q1, q2, btw, m1, m2, m3]
            · constructor <;> cases c <;> simp [m_is_model, g_is_model, m__law_is_model, g__law_is_model, run_ap, startD, modelJ, ne_str, hz, q1, q2, btw, m1]
          | _ => constructor <;> cases c <;> simp [m_is_model, g_is_model, m__law_is_model, g__law_is_model, run_ap, startD, modelJ, ne_str, hz, q1, q2, btw]
        · have hz' : (z == Str.ofString "model") = false := by simpa using hz
          constructor <;> cases b <;> cases c <;> simp [m_is_model, g_is_model, m__law_is_model, g__law_is_model, run_ap, startD, modelJ, ne_str, hz, hz']
      | _ => constructor <;> simp [m_is_model, g_is_model, m__law_is_model, g__law_is_model, run_ap, startD, modelJ]
  | _ => constructor <;> simp [m_is_model, g_is_model, m__law_is_model, g__law_is_model, run_ap, startD, modelJ]
def manyOf : D → Int
  | .tuple [_, .int m, _] => m
  | _ => 0
def settingJ : D → Bool
  | .tuple [g, s, i] => modelJ g && (modelJ s && ((manyOf g == manyOf s) && (decide (manyOf g ≤ 4) && btw 1 4 i)))
  | _ => false
theorem modelJ_form {x : D} (h : modelJ x = true) : ∃ z m ss, x = .tuple [.str z, .int m, .list ss] := by
  unfold modelJ at h
  split at h
  · exact ⟨_, _, _, rfl⟩
  · cases h
theorem setting_ok {n : Nat} {x : D} (h : Fit n x) (hn : n ≤ 60) : m_is_setting [.d x] = some (.d (.bool (settingJ x)), []) ∧ m__law_is_setting [.d x] = some (.d (.bool (settingJ x)), []) := by
  have lift : m_setting_let [.d x] = some (.d (.bool (settingJ x)), []) → m_is_setting [.d x] = some (.d (.bool (settingJ x)), []) := fun e => by
    simp [m_is_setting, g_is_setting, run_ap, startD, e]
  cases x with
  | dict k => exact absurd rfl (h.nd k)
  | tuple xs =>
    match xs, h, lift with
    | [], h, lift => exact ⟨lift (by simp [m_setting_let, g_setting_let, run_ap, startD, settingJ]), by simp [m__law_is_setting, g__law_is_setting, run_ap, startD, settingJ]⟩
    | [a], h, lift => exact ⟨lift (by simp [m_setting_let, g_setting_let, run_ap, startD, settingJ]), by simp [m__law_is_setting, g__law_is_setting, run_ap, startD, settingJ]⟩
    | [a, b], h, lift => exact ⟨lift (by simp [m_setting_let, g_setting_let, run_ap, startD, settingJ]), by simp [m__law_is_setting, g__law_is_setting, run_ap, startD, settingJ]⟩
    | a :: b :: c :: d :: r, h, lift =>
      have e : ¬ ((r.length : Int) + 1 + 1 + 1 + 1 = 3) := by omega
      exact ⟨lift (by simp [m_setting_let, g_setting_let, run_ap, startD, settingJ, e]), by simp [m__law_is_setting, g__law_is_setting, run_ap, startD, settingJ, e]⟩
    | [a, b, c], h, lift =>
      obtain ⟨ma, la⟩ := model_ok (h.tup.2 a (by simp)) (by omega)
      obtain ⟨mb, lb⟩ := model_ok (h.tup.2 b (by simp)) (by omega)
      have q1 := btw_ok c (h.tup.2 c (by simp)).nd 1 4
      have q2 := lbtw_ok c (h.tup.2 c (by simp)).nd 1 4
      cases ha : modelJ a with
      | false =>
        rw [ha] at ma la
        refine ⟨lift ?_, ?_⟩
        · cases hc : btw 1 4 c <;> rw [hc] at q1 <;> simp [m_setting_let, g_setting_let, run_ap, startD, settingJ, ma, q1, ha]
        · simp [m__law_is_setting, g__law_is_setting, run_ap, startD, settingJ, la, ha]
      | true =>
        cases hb : modelJ b with
        | false =>
          rw [ha] at ma la
          rw [hb] at mb lb
          refine ⟨lift ?_, ?_⟩
          · cases hc : btw 1 4 c <;> rw [hc] at q1 <;> simp [m_setting_let, g_setting_let, run_ap, startD, settingJ, ma, mb, q1, ha, hb]
          · simp [m__law_is_setting, g__law_is_setting, run_ap, startD, settingJ, la, lb, ha, hb]
        | true =>
          obtain ⟨z, m, ss, rfl⟩ := modelJ_form ha
          obtain ⟨z2, m2, ss2, rfl⟩ := modelJ_form hb
          rw [ha] at ma la
          rw [hb] at mb lb
          refine ⟨lift ?_, ?_⟩
          · by_cases e1 : m = m2
            · subst e1
              by_cases e2 : m ≤ 4 <;> cases hc : btw 1 4 c <;> rw [hc] at q1 <;> simp [m_setting_let, g_setting_let, run_ap, startD, settingJ, ma, mb, q1, ha, hb, hc, manyOf, e2]
            · cases hc : btw 1 4 c <;> rw [hc] at q1 <;> simp [m_setting_let, g_setting_let, run_ap, startD, settingJ, ma, mb, q1, ha, hb, hc, manyOf, e1]
          · by_cases e1 : m = m2
            · subst e1
              by_cases e2 : m ≤ 4 <;> cases hc : btw 1 4 c <;> rw [hc] at q2 <;> simp [m__law_is_setting, g__law_is_setting, run_ap, startD, settingJ, la, lb, q2, ha, hb, hc, manyOf, e2]
            · simp [m__law_is_setting, g__law_is_setting, run_ap, startD, settingJ, la, lb, ha, hb, manyOf, e1]
  | _ => exact ⟨lift (by simp [m_setting_let, g_setting_let, run_ap, startD, settingJ]), by simp [m__law_is_setting, g__law_is_setting, run_ap, startD, settingJ]⟩
/-! ## the generator -/
abbrev N (n : Nat) : D := .int (n : Int)
def Sm (k a : Nat) : Prop := a < 2 ^ k
theorem sm_of {a : Nat} (k : Nat) (h : a < 2 ^ k) : Sm k a := h
theorem Sm.mono {j k a : Nat} (h : Sm j a) (hjk : j ≤ k) : Sm k a := Nat.lt_of_lt_of_le h (Nat.pow_le_pow_right (by decide) hjk)
theorem Sm.le {k a b : Nat} (h : Sm k b) (hab : a ≤ b) : Sm k a := Nat.lt_of_le_of_lt hab h
theorem Sm.mul {j k a b : Nat} (h : Sm j a) (h' : Sm k b) : Sm (j + k) (a * b) := by
  unfold Sm at *
  rw [Nat.pow_add]
  exact Nat.mul_lt_mul_of_lt_of_le h (Nat.le_of_lt h') (Nat.two_pow_pos k)
theorem Sm.add {k a b : Nat} (h : Sm k a) (h' : Sm k b) : Sm (k + 1) (a + b) := by
  unfold Sm at *
  rw [Nat.pow_succ]
  omega
theorem Sm.log {k a : Nat} (h : Sm k a) : a.log2 ≤ k := by
  by_cases h0 : a = 0
  · subst h0; simp
  · exact Nat.le_of_lt ((Nat.log2_lt h0).2 h)
/-- a product of numbers that are not great -/
theorem mul_n {i j : Nat} (hi : Sm 1000 i) (hj : Sm 1000 j) : opMul (.int (i : Nat)) (.int (j : Nat)) = some (.d (.int ((i * j : Nat) : Int))) := by
  have h1 := hi.log
  have h2 := hj.log
  have h3 : i.log2 + j.log2 < 1000000 := by omega
  simp [h3]
theorem mul_in {i : Int} {j : Nat} (hi : Sm 1000 i.natAbs) (hj : Sm 1000 j) : opMul (.int i) (.int (j : Nat)) = some (.d (.int (i * j))) := by
  have h1 := hi.log
  have h2 := hj.log
  have h3 : i.natAbs.log2 + j.log2 < 1000000 := by omega
  simp [h3]
theorem log_lit {a : Nat} (k : Nat) (h : a < 2 ^ k) (hk : k ≤ 1000) : a.log2 ≤ 1000 := Nat.le_trans (Sm.log h) hk
theorem hash_ok (s i : Nat) (hs : s < 2147483647) (hi : Sm 40 i) : ∃ h : Nat, h < 2147483647 ∧ m__law_hash [.d (N s), .d (N i)] = some (.d (N h), []) := by
  have hs' : Sm 31 s := sm_of 31 (by omega)
  have l1 := hs'.log
  have l2 := hi.log
  have c1 : Nat.log2 1220147 ≤ 40 := (sm_of 40 (by decide)).log
  have c2 : Nat.log2 16777903 ≤ 40 := (sm_of 40 (by decide)).log
  have c3 : Nat.log2 223 ≤ 40 := (sm_of 40 (by decide)).log
  have c4 : Nat.log2 69019 ≤ 40 := (sm_of 40 (by decide)).log
  have c5 : Nat.log2 48271 ≤ 40 := (sm_of 40 (by decide)).log
  have l3 : (16777903 * i).log2 ≤ 80 := ((sm_of (a := 16777903) 40 (by decide)).mul hi).log
  obtain ⟨x, hx⟩ : ∃ x : Nat, x = (s * 1220147 + 16777903 * i * i + 223 * i + 97) % 2147483629 := ⟨_, rfl⟩
  have hx' : (((s : Int) * 1220147 + 16777903 * (i : Int) * (i : Int) + 223 * (i : Int) + 97) % 2147483629) = (x : Nat) := by
    rw [hx]
    simp
  have l4 : x.log2 ≤ 40 := (sm_of 40 (show x < 2 ^ 40 by rw [hx]; omega)).log
  obtain ⟨y, hy⟩ : ∃ y : Nat, y = (x * x + 69019 * i + 32416187) % 2147483587 := ⟨_, rfl⟩
  have hy' : (((x : Int) * (x : Int) + 69019 * (i : Int) + 32416187) % 2147483587) = (y : Nat) := by
    rw [hy]
    simp
  have l5 : y.log2 ≤ 40 := (sm_of 40 (show y < 2 ^ 40 by rw [hy]; omega)).log
  refine ⟨y * 48271 % 2147483647, Nat.mod_lt _ (by decide), ?_⟩
  have a1 : ((16777903 : Int) * i).natAbs.log2 ≤ 80 := by
    rw [show ((16777903 : Int) * i) = ((16777903 * i : Nat) : Int) by simp]
    exact l3
  have m1 : s.log2 + Nat.log2 1220147 < 1000000 := by omega
  have m2 : Nat.log2 16777903 + i.log2 < 1000000 := by omega
  have m3 : ((16777903 : Int) * i).natAbs.log2 + i.log2 < 1000000 := by omega
  have m4 : Nat.log2 223 + i.log2 < 1000000 := by omega
  have m5 : x.log2 + x.log2 < 1000000 := by omega
  have m6 : Nat.log2 69019 + i.log2 < 1000000 := by omega
  have m7 : y.log2 + Nat.log2 48271 < 1000000 := by omega
  simp [m__law_hash, g__law_hash, run_ap, startD, m1, m2, m3, m4, m5, m6, m7, hx', hy']
def gen (big seed cnt : Nat) : List D := [N big, N seed, N cnt]
def Gen (n : Nat) (P : List D) : Prop := ∃ big seed cnt, P = gen big seed cnt ∧ seed < 2147483647 ∧ cnt ≤ n
theorem bits_small {b : Nat} (h : Sm 100 b) : Builtin.Int.intBits (b : Int) ≤ 101 := by
  have h1 := h.log
  unfold Builtin.Int.intBits
  split
  · omega
  · simp
    omega
theorem turns_go {b : Nat} {big seed : Nat} (hs : seed < 2147483647) : ∀ (xs : List D) (cnt d j : Nat) (v : Option SV), (v = none ∨ ∃ y, v = some (.d y)) → cnt + xs.length ≤ 1000000 → Sm (40 + 40 * j) d → j + xs.length ≤ 10 →
    ∃ d' v', Sm 1000 d' ∧ forGo (DL.gName 3) (dSeq (dSetIx 0 (dC (.int 2)) (dOp2 opAdd (dOp2 opIx (dVar 0) (dC (.int 2))) (dC (.int 1)))) (dSet 2 (dOp2 opAdd (dOp2 opMul (dVar 2) (dC (.int 2147483587))) (dCall m__law_hash [false, false] [] (dCons (dOp2 opIx (dVar 0) (dC (.int 1))) (dCons (dOp2 opIx (dVar 0) (dC (.int 2))) (dNil))))))) xs [some (.lent (gen big seed cnt)), some (.d (N b)), some (.d (N d)), v] =
      some (.nx, [some (.lent (gen big seed (cnt + xs.length))), some (.d (N b)), some (.d (N d')), v'])
  | [], cnt, d, j, v, hv, hn, hd, hj => ⟨d, v, hd.mono (by simp at hj; omega), by simp [forGo_nil]⟩
  | x :: r, cnt, d, j, v, hv, hn, hd, hj => by
    simp only [List.length_cons] at hn hj
    obtain ⟨h, hh, e⟩ := hash_ok seed (cnt + 1) hs (sm_of 40 (by omega))
    have hd2 : Sm (40 + 40 * (j + 1)) (d * 2147483587 + h) := by
      have h1 : Sm (40 + 40 * j + 31) (d * 2147483587) := hd.mul (sm_of 31 (by omega))
      exact (h1.add ((sm_of (a := h) 31 (by omega)).mono (by omega))).mono (by omega)
    obtain ⟨d', v', h1, h2⟩ := turns_go (b := b) (big := big) hs r (cnt + 1) (d * 2147483587 + h) (j + 1) (some (.d x)) (.inr ⟨_, rfl⟩) (by omega) hd2 (by omega)
    have l1 := hd.log
    have l2 : Nat.log2 2147483587 ≤ 31 := (sm_of (a := 2147483587) 31 (by decide)).log
    have l3 : d.log2 + Nat.log2 2147483587 < 1000000 := by omega
    refine ⟨d', v', h1, ?_⟩
    simp only [gen, N, Int.natCast_add, Int.natCast_mul, Int.cast_ofNat_Int] at e h2 ⊢
    rw [forGo_cons]
    rw [show ((cnt : Int) + (((x :: r).length : Nat) : Int)) = ((cnt : Int) + 1) + (r.length : Nat) by simp; omega]
    rcases hv with rfl | ⟨z, rfl⟩ <;> simp [l3, e, h2]
theorem random_ok {n : Nat} {P : List D} (hn : n ≤ 900000) (hP : Gen n P) (b : Nat) (h0 : 0 < b) (h1 : Sm 100 b) :
    ∃ r P', r < b ∧ Gen (n + 5) P' ∧ m__law_random [.m P, .d (N b)] = some (.d (N r), [P']) := by
  obtain ⟨big, seed, cnt, rfl, hs, hc⟩ := hP
  have h0' : (0 : Int) < (b : Int) := by omega
  have hl : b.log2 < 9000 := Nat.lt_of_le_of_lt h1.log (by omega)
  by_cases hb : 0 < big
  · refine ⟨big % b, gen (big / b) seed cnt, Nat.mod_lt _ h0, ⟨_, _, _, rfl, hs, by omega⟩, ?_⟩
    simp [m__law_random, g__law_random, run_ap, startD, gen, hb, h0, h0', hl]
  · have hb' : big = 0 := by omega
    subst hb'
    have hbt := bits_small h1
    obtain ⟨t, ht, ht4⟩ : ∃ t : Nat, (1 : Int) + ((Builtin.Int.intBits (b : Int) : Nat) : Int) / 30 = (t : Nat) ∧ t ≤ 4 := by
      refine ⟨1 + Builtin.Int.intBits (b : Int) / 30, by simp, by omega⟩
    obtain ⟨d', v', hd', e⟩ := turns_go (b := b) (big := 0) hs ((List.range t).map fun i => .int (0 + (i : Nat))) cnt 0 0 none (.inl rfl) (by simp; omega) (sm_of _ (Nat.two_pow_pos _)) (by simp; omega)
    have l30 : Nat.log2 30 < 9000 := Nat.lt_of_le_of_lt (sm_of (a := 30) 5 (by decide)).log (by decide)
    have hr : iRange1 [.int (t : Nat)] = some ((List.range t).map fun i => .int (0 + (i : Nat))) := by
      have a1 : (t : Int) < 4611686018427387904 := by omega
      have a2 : (-4611686018427387904 : Int) ≤ t := by omega
      simp [a1, a2]
    refine ⟨d' % b, gen 0 seed (cnt + t), Nat.mod_lt _ h0, ⟨_, _, _, rfl, hs, by omega⟩, ?_⟩
    simp [gen, N] at e
    simp only [Int.zero_add] at hr
    simp [m__law_random, g__law_random, run_ap, startD, gen, N, h0, h0', l30, ht, hr, e, -iRange1_i]
theorem pick_ok {n : Nat} {P : List D} (hn : n ≤ 900000) (hP : Gen n P) (xs : List D) (h0 : 0 < xs.length) (h1 : xs.length ≤ 1000) :
    ∃ x P', x ∈ xs ∧ Gen (n + 5) P' ∧ m__law_pick [.m P, .d (.list xs)] = some (.d x, [P']) := by
  obtain ⟨r, P', hr, hP', h⟩ := random_ok hn hP xs.length h0 ((sm_of 10 (by omega)).mono (by decide))
  refine ⟨xs[r], P', List.getElem_mem hr, hP', ?_⟩
  have hr' : (r : Int) < (xs.length : Int) := by omega
  simp [m__law_pick, g__law_pick, run_ap, startD, h, hr, hr']
theorem ints_map : ∀ ns : List Int, intsOf (ns.map .int) = some ns
  | [] => rfl
  | n :: r => by
    rw [List.map_cons, intsOf, ints_map r]
    rfl
theorem cut1 (ns : List Int) : cutD (ns.map PyData.int) none (some 1) = (ns.take 1).map .int := by
  cases ns with
  | nil => rfl
  | cons n r => 
    have e : cutAt (n :: r).length (n :: r).length (some 1) = 1 := by
      show (if (1 : Int) < 0 then ((1 : Int) + ((n :: r).length : Int)).toNat else min (1 : Int).toNat (n :: r).length) = 1
      rw [if_neg (by decide), List.length_cons]
      show min 1 (r.length + 1) = 1
      omega
    show (((n :: r).map PyData.int).drop 0).take (cutAt ((n :: r).map PyData.int).length ((n :: r).map PyData.int).length (some 1) - 0) = _
    rw [List.length_map, e]
    simp
theorem cell_ok (ns : List Int) (k : Nat) : ∃ v, m__law_cell [.d (.list (ns.map .int)), .d (.int (k : Nat))] = some (.d (.int v), []) := by
  by_cases h : k < ns.length
  · have h' : (k : Int) < ns.length := by omega
    exact ⟨ns[k], by simp [m__law_cell, g__law_cell, run_ap, startD, h, h']⟩
  · have h' : ¬ ((k : Int) < ns.length) := by omega
    refine ⟨(ns.take 1).sum % 1000003, ?_⟩
    have e := cut1 ns
    simp only [List.map_take] at e
    have e2 := ints_map (ns.take 1)
    simp only [List.map_take] at e2
    simp [m__law_cell, g__law_cell, run_ap, startD, h', e, e2]
theorem pow60 : opPow (.int 10) (.int 60) = some (.d (.int 1000000000000000000000000000000000000000000000000000000000000)) := by simp
theorem pow18 : opPow (.int 10) (.int 18) = some (.d (.int 1000000000000000000)) := by simp
theorem pow600 : ∃ M : Nat, 0 < M ∧ opPowW (.int 1000000000000000000000000000000000000000000000000000000000000) (.int 10) = some (.d (.int (M : Nat))) := by
  have hb : Builtin.Int.intBits (1000000000000000000000000000000000000000000000000000000000000 : Int) ≤ 201 := by
    have h1 : Nat.log2 1000000000000000000000000000000000000000000000000000000000000 ≤ 200 := (sm_of 200 (by decide)).log
    unfold Builtin.Int.intBits
    split
    · omega
    · show Nat.log2 1000000000000000000000000000000000000000000000000000000000000 + 1 ≤ 201
      omega
  have hc : (0 : Int) ≤ 10 ∧ (Builtin.Int.intBits (1000000000000000000000000000000000000000000000000000000000000 : Int) : Int) * 10 ≤ 2 ^ 27 := by
    refine ⟨by decide, ?_⟩
    omega
  refine ⟨1000000000000000000000000000000000000000000000000000000000000 ^ 10, Nat.pow_pos (by decide), ?_⟩
  rw [opPowW_ii, if_pos hc]
  rfl
theorem generator_ok (ns : List Int) (k : Nat) (hk : k ≤ 100) : ∃ P, Gen (1000 * k) P ∧ m__law_generator [.d (.list (ns.map .int)), .d (.int (k : Nat))] = some (.own P, []) := by
  obtain ⟨v, h1⟩ := cell_ok ns k
  obtain ⟨M, hM, h2⟩ := pow600
  have hM' : (0 : Int) < (M : Int) := by omega
  obtain ⟨a, ha⟩ := Int.eq_ofNat_of_zero_le (Int.emod_nonneg (if v - 1000000000000000000 < 0 then 0 else v - 1000000000000000000) (show ((M : Nat) : Int) ≠ 0 by omega))
  obtain ⟨s, hs⟩ := Int.eq_ofNat_of_zero_le (Int.emod_nonneg v (show (2147483647 : Int) ≠ 0 by decide))
  have hs2 : s < 2147483647 := by
    have := Int.emod_lt_of_pos v (show (0 : Int) < 2147483647 by decide)
    omega
  have l1 : Nat.log2 1000 + k.log2 < 1000000 := by
    have h1 := (sm_of (a := 1000) 10 (by decide)).log
    have h2 := (sm_of (a := k) 10 (by omega)).log
    omega
  refine ⟨gen a s (1000 * k), ⟨_, _, _, rfl, hs2, Nat.le_refl _⟩, ?_⟩
  simp [m__law_generator, g__law_generator, run_ap, startD, h1, pow18, pow60, h2, -opPow_ii, -opPowW_ii, hM, hM', ha, hs, DL.sizeLine_eq, l1, gen]
mutual
def tame : D → Bool
  | .none => true
  | .bool _ => true
  | .int i => decide (i.natAbs ≤ 10000000000000000000000000000000000000000)
  | .str z => z.cps.toList.all fun c => decide (c < 16 ^ 8)
  | .list xs => tameAll xs
  | .tuple xs => tameAll xs
  | .dict _ => false
def tameAll : List D → Bool
  | [] => true
  | x :: r => tame x && tameAll r
end
theorem short_int {i : Int} (h : i.natAbs ≤ 10000000000000000000000000000000000000000) : i.natAbs.log2 < 190 ∧ (PyData.shown (.int i)).length ≤ 200 := by
  have h1 : i.natAbs.log2 ≤ 140 := (sm_of 140 (Nat.lt_of_le_of_lt h (by decide))).log
  have h2 : i.natAbs.log2 < 190 := by omega
  refine ⟨h2, ?_⟩
  show (Str.ofString (toString i)).length ≤ 200
  have e := int_text_length_le (a := i) (k := 190) (by decide) h2
  rw [ofString_length]
  omega
mutual
theorem tame_ok : ∀ x : D, tame x = true → x.hasDict = false ∧ x.showable = true ∧ x.leavesShort 200 = true
  | .none, _ => by simp [PyData.hasDict, PyData.showable, PyData.leavesShort]
  | .bool _, _ => by simp [PyData.hasDict, PyData.showable, PyData.leavesShort]
  | .int i, h => by
    obtain ⟨h1, h2⟩ := short_int (i := i) (by simpa [tame] using h)
    have h3 : i.natAbs.log2 < 1920 := by omega
    simp [PyData.hasDict, PyData.showable, PyData.leavesShort, h2, h3]
  | .str z, h => by
    simp only [tame] at h
    simp only [PyData.hasDict, PyData.showable, PyData.leavesShort]
    exact ⟨trivial, trivial, h⟩
  | .list xs, h => by
    obtain ⟨a, b, c⟩ := tame_okAll xs (by simpa [tame] using h)
    simp [PyData.hasDict, PyData.showable, PyData.leavesShort, a, b, c]
  | .tuple xs, h => by
    obtain ⟨a, b, c⟩ := tame_okAll xs (by simpa [tame] using h)
    simp [PyData.hasDict, PyData.showable, PyData.leavesShort, a, b, c]
  | .dict k, h => by simp [tame] at h
theorem tame_okAll : ∀ xs : List D, tameAll xs = true → PyData.hasDictAll xs = false ∧ PyData.showableAll xs = true ∧ PyData.leavesShortAll 200 xs = true
  | [], _ => by simp [PyData.hasDictAll, PyData.showableAll, PyData.leavesShortAll]
  | x :: r, h => by
    simp only [tameAll, Bool.and_eq_true] at h
    obtain ⟨a, b, c⟩ := tame_ok x h.1
    obtain ⟨d, e, f⟩ := tame_okAll r h.2
    simp [PyData.hasDictAll, PyData.showableAll, PyData.leavesShortAll, a, b, c, d, e, f]
end
theorem bulk_len : ∀ xs : List D, xs.length ≤ PyData.bulkAll xs
  | [] => Nat.zero_le _
  | x :: r => by
    have := bulk_len r
    simp only [PyData.bulkAll, List.length_cons]
    omega
theorem mem_of : ∀ (xs : List D) (y : D), y ∈ xs → tameAll xs = true → tame y = true ∧ y.depth ≤ PyData.depthAll xs ∧ y.bulk ≤ PyData.bulkAll xs
  | x :: r, y, hy, h => by
    simp only [tameAll, Bool.and_eq_true] at h
    simp only [PyData.depthAll, PyData.bulkAll]
    rcases List.mem_cons.mp hy with rfl | hy
    · exact ⟨h.1, by omega, by omega⟩
    · obtain ⟨a, b, c⟩ := mem_of r y hy h.2
      exact ⟨a, by omega, by omega⟩
theorem fit_of : ∀ (n : Nat) (x : D), tame x = true → x.depth ≤ n → x.bulk ≤ 1000 → Fit n x
  | n, .none, _, _, _ => by cases n <;> trivial
  | n, .bool _, _, _, _ => by cases n <;> trivial
  | n, .str _, _, _, _ => by cases n <;> trivial
  | n, .int i, h, _, _ => by
    have h : i.natAbs ≤ 10000000000000000000000000000000000000000 := by simpa [tame] using h
    have : i ≤ 10000000000000000000000000000000000000000 := by omega
    cases n <;> exact this
  | 0, .list xs, _, h, _ => by simp [PyData.depth] at h
  | 0, .tuple xs, _, h, _ => by simp [PyData.depth] at h
  | n + 1, .list xs, h, hd, hb => by
    simp only [PyData.depth, PyData.bulk, tame] at h hd hb
    have hl := bulk_len xs
    refine ⟨by omega, fun y hy => ?_⟩
    obtain ⟨a, b, c⟩ := mem_of xs y hy h
    exact fit_of n y a (by omega) (by omega)
  | n + 1, .tuple xs, h, hd, hb => by
    simp only [PyData.depth, PyData.bulk, tame] at h hd hb
    have hl := bulk_len xs
    refine ⟨by omega, fun y hy => ?_⟩
    obtain ⟨a, b, c⟩ := mem_of xs y hy h
    exact fit_of n y a (by omega) (by omega)
  | n, .dict k, h, _, _ => by simp [tame] at h
theorem repr_of (x : D) (h : tame x = true) (hd : x.depth ≤ 40) (hb : x.bulk ≤ 1000) : bRepr [x] = some (.d (.str x.shown)) := by
  obtain ⟨a, b, c⟩ := tame_ok x h
  have e := PyData.shown_le_bulk 200 (by decide) x c
  show (if _ then _ else _) = _
  rw [if_pos]
  refine ⟨a, b, hd, ?_⟩
  rw [DL.sizeLine_eq]
  have : (200 + 2) * x.bulk ≤ 202 * 1000 := Nat.mul_le_mul (by decide) hb
  omega
structure Vv (n k : Nat) (y : D) : Prop where
  t : tame y = true
  d : y.depth ≤ n
  b : y.bulk ≤ k
theorem Vv.mono {n k n' k' : Nat} {y : D} (h : Vv n k y) (hn : n ≤ n') (hk : k ≤ k') : Vv n' k' y := ⟨h.t, Nat.le_trans h.d hn, Nat.le_trans h.b hk⟩
theorem vv_all {n k : Nat} : ∀ xs : List D, (∀ y ∈ xs, Vv n k y) → tameAll xs = true ∧ PyData.depthAll xs ≤ n ∧ PyData.bulkAll xs ≤ xs.length * (k + 1)
  | [], _ => by simp [tameAll, PyData.depthAll, PyData.bulkAll]
  | x :: r, h => by
    obtain ⟨a, b, c⟩ := vv_all r fun y hy => h y (by simp [hy])
    have hx := h x (by simp)
    refine ⟨by simp [tameAll, a, hx.t], ?_, ?_⟩
    · have := hx.d
      simp only [PyData.depthAll]
      omega
    · have := hx.b
      simp only [PyData.bulkAll, List.length_cons, Nat.add_mul, Nat.one_mul]
      omega
theorem vv_list {n k w : Nat} {xs : List D} (h : ∀ y ∈ xs, Vv n k y) (hw : xs.length ≤ w) : Vv (n + 1) (w * (k + 1)) (.list xs) := by
  obtain ⟨a, b, c⟩ := vv_all xs h
  exact ⟨by simpa [tame] using a, by simp [PyData.depth]; omega, Nat.le_trans (by simpa [PyData.bulk] using c) (Nat.mul_le_mul_right _ hw)⟩
theorem vv_tuple {n k w : Nat} {xs : List D} (h : ∀ y ∈ xs, Vv n k y) (hw : xs.length ≤ w) : Vv (n + 1) (w * (k + 1)) (.tuple xs) := by
  obtain ⟨a, b, c⟩ := vv_all xs h
  exact ⟨by simpa [tame] using a, by simp [PyData.depth]; omega, Nat.le_trans (by simpa [PyData.bulk] using c) (Nat.mul_le_mul_right _ hw)⟩
theorem vv_none : Vv 0 0 .none := ⟨rfl, by simp [PyData.depth], by simp [PyData.bulk]⟩
theorem vv_bool (b) : Vv 0 0 (.bool b) := ⟨rfl, by simp [PyData.depth], by simp [PyData.bulk]⟩
theorem vv_int {i : Int} (h : i.natAbs ≤ 1000) : Vv 0 0 (.int i) := ⟨by simp [tame]; omega, by simp [PyData.depth], by simp [PyData.bulk]⟩
/-- a state of a right model -/
def StateF (many : Nat) (s : D) : Prop := ∃ t ns : List D, s = .tuple [.list t, .list ns] ∧ t.length = many + 1 ∧ ns.length = many ∧ (∀ y ∈ t, ∃ k : Nat, y = N k ∧ k ≤ 100) ∧ ∀ y ∈ ns, y = .none ∨ ∃ k : Nat, y = N k ∧ k ≤ 100
def ModelF (many : Nat) (x : D) : Prop := ∃ ss : List D, x = .tuple [.str (Str.ofString "model"), .int (many : Nat), .list ss] ∧ 1 ≤ ss.length ∧ ss.length ≤ 3 ∧ ∀ s ∈ ss, StateF many s
theorem StateF.vv {many : Nat} {s : D} (h : StateF many s) (hm : many ≤ 7) : Vv 2 20 s := by
  obtain ⟨t, ns, rfl, h1, h2, h3, h4⟩ := h
  have a : Vv 1 8 (.list t) := (vv_list (n := 0) (k := 0) (w := 8) (fun y hy => by
    obtain ⟨k, rfl, hk⟩ := h3 y hy
    exact vv_int (by omega)) (by omega)).mono (by decide) (by decide)
  have b : Vv 1 8 (.list ns) := (vv_list (n := 0) (k := 0) (w := 8) (fun y hy => by
    rcases h4 y hy with rfl | ⟨k, rfl, hk⟩
    · exact vv_none
    · exact vv_int (by omega)) (by omega)).mono (by decide) (by decide)
  exact (vv_tuple (n := 1) (k := 8) (w := 2) (fun y hy => by
    simp only [List.mem_cons, List.not_mem_nil, or_false] at hy
    rcases hy with rfl | rfl
    · exact a
    · exact b) (by simp)).mono (by decide) (by decide)
theorem picks_go {m mo c tn : D} {S : List D} {o6 : Option SV} : ∀ (xs : List D) (n : Nat) (P : List D), n + 5 * xs.length ≤ 900000 → Gen n P → ∃ (t P' : List D), t.length = xs.length ∧ (∀ y ∈ t, ∃ k : Nat, y = N k ∧ k ≤ 100) ∧ Gen (n + 5 * xs.length) P' ∧
    lcGo (DL.gName 7) (dTests) (dCall m__law_pick [true, false] [] (dCons (dVar 0) (dCons (dList (dCons (dC (.int 0)) (dCons (dC (.int 1)) (dCons (dC (.int 1)) (dCons (dC (.int 2)) (dCons (dC (.int 3)) (dCons (dC (.int 5)) (dNil)))))))) (dNil)))) [7] xs [some (.lent P), some (.d m), some (.d mo), some (.d c), some (.own S), some (.d tn), o6, none] =
      some (t, [some (.lent P'), some (.d m), some (.d mo), some (.d c), some (.own S), some (.d tn), o6, none])
  | [], n, P, hn, hP => ⟨[], P, rfl, fun y hy => by simp at hy, hP, by simp [lcGo_nil]⟩
  | x :: r, n, P, hn, hP => by
    simp only [List.length_cons] at hn
    obtain ⟨y, P1, hy, hP1, h1⟩ := pick_ok (by omega) hP [.int 0, .int 1, .int 1, .int 2, .int 3, .int 5] (by simp) (by simp)
    obtain ⟨k, rfl, hk⟩ : ∃ k : Nat, y = N k ∧ k ≤ 100 := by
      simp only [List.mem_cons, List.not_mem_nil, or_false] at hy
      rcases hy with rfl | rfl | rfl | rfl | rfl | rfl
      · exact ⟨0, rfl, by decide⟩
      · exact ⟨1, rfl, by decide⟩
      · exact ⟨1, rfl, by decide⟩
      · exact ⟨2, rfl, by decide⟩
      · exact ⟨3, rfl, by decide⟩
      · exact ⟨5, rfl, by decide⟩
    obtain ⟨t, P', hl, hf, hP', h⟩ := picks_go (m := m) (mo := mo) (c := c) (tn := tn) (S := S) (o6 := o6) r (n + 5) P1 (by omega) hP1
    refine ⟨N k :: t, P', by simp [hl], fun z hz => ?_, ?_, ?_⟩
    · rcases List.mem_cons.mp hz with rfl | hz
      · exact ⟨k, rfl, hk⟩
      · exact hf z hz
    · rw [List.length_cons, show n + 5 * (r.length + 1) = n + 5 + 5 * r.length by omega]
      exact hP'
    · rw [lcGo_cons]
      simp [h1, h, DL.sizeLine_eq]
theorem nexts_go {m mo tn : D} {cn : Nat} (hc : 0 < cn) (hc3 : cn ≤ 100) {S t : List D} {o6 : Option SV} (h6 : o6 = some (.d (.list t)) ∨ o6 = some (.own t)) (ht : ∀ y ∈ t, ∃ k : Nat, y = N k ∧ k ≤ 100) : ∀ (ks : List Nat) (n : Nat) (P : List D), (∀ k ∈ ks, k < t.length) → n + 5 * ks.length ≤ 900000 → Gen n P → ∃ (ns P' : List D), ns.length = ks.length ∧ (∀ y ∈ ns, y = .none ∨ ∃ k : Nat, y = N k ∧ k ≤ 100) ∧ Gen (n + 5 * ks.length) P' ∧
    lcGo (DL.gName 7) (dTests) (dIf (dTest (dOp2 opGt (dOp2 opIx (dVar 6) (dVar 7)) (dC (.int 0)))) (dCall m__law_random [true, false] [] (dCons (dVar 0) (dCons (dVar 3) (dNil)))) (dC .none)) [7] (ks.map fun k => .int (0 + (k : Nat))) [some (.lent P), some (.d m), some (.d mo), some (.d (N cn)), some (.own S), some (.d tn), o6, none] =
      some (ns, [some (.lent P'), some (.d m), some (.d mo), some (.d (N cn)), some (.own S), some (.d tn), o6, none])
  | [], n, P, hk, hn, hP => ⟨[], P, rfl, fun y hy => by simp at hy, hP, by simp [lcGo_nil]⟩
  | k :: r, n, P, hk, hn, hP => by
    simp only [List.length_cons] at hn
    have hk1 := hk k (by simp)
    have hk2 : (k : Int) < t.length := by omega
    obtain ⟨v, hv, hv2⟩ := ht t[k] (List.getElem_mem hk1)
    have grow : ∀ n', n' ≤ n + 5 → Gen n' P → Gen (n + 5) P := fun n' h ⟨a, b, c, d, e, f⟩ => ⟨a, b, c, d, e, by omega⟩
    by_cases hz : 0 < v
    · obtain ⟨w, P1, hw, hP1, h1⟩ := random_ok (by omega) hP cn hc (sm_of 10 (by omega) |>.mono (by decide))
      obtain ⟨ns, P', hl, hf, hP', h⟩ := nexts_go (m := m) (mo := mo) (tn := tn) hc hc3 (S := S) h6 ht r (n + 5) P1 (fun z hz => hk z (by simp [hz])) (by omega) hP1
      simp only [Int.zero_add] at h
      refine ⟨N w :: ns, P', by simp [hl], fun z hz => ?_, ?_, ?_⟩
      · rcases List.mem_cons.mp hz with rfl | hz
        · exact .inr ⟨w, rfl, by omega⟩
        · exact hf z hz
      · rw [List.length_cons, show n + 5 * (r.length + 1) = n + 5 + 5 * r.length by omega]
        exact hP'
      · rw [List.map_cons, lcGo_cons]
        rcases h6 with rfl | rfl <;> simp [hk1, hk2, hv, hz, h1, h]
    · obtain ⟨ns, P', hl, hf, hP', h⟩ := nexts_go (m := m) (mo := mo) (tn := tn) hc hc3 (S := S) h6 ht r (n + 5) P (fun z hz => hk z (by simp [hz])) (by omega) (grow n (by omega) hP)
      simp only [Int.zero_add] at h
      refine ⟨.none :: ns, P', by simp [hl], fun z hz => ?_, ?_, ?_⟩
      · rcases List.mem_cons.mp hz with rfl | hz
        · exact .inl rfl
        · exact hf z hz
      · rw [List.length_cons, show n + 5 * (r.length + 1) = n + 5 + 5 * r.length by omega]
        exact hP'
      · rw [List.map_cons, lcGo_cons]
        rcases h6 with rfl | rfl <;> simp [hk1, hk2, hv, hz, h]
theorem ints_small : ∀ t : List D, (∀ y ∈ t, ∃ k : Nat, y = N k ∧ k ≤ 100) → ∃ is, intsOf t = some is
  | [], _ => ⟨[], rfl⟩
  | y :: r, h => by
    obtain ⟨k, rfl, _⟩ := h y (by simp)
    obtain ⟨is, e⟩ := ints_small r fun z hz => h z (by simp [hz])
    exact ⟨_, by rw [intsOf, e]; rfl⟩
theorem range_n {t : Nat} (ht : t < 1000) : iRange1 [.int (t : Nat)] = some ((List.range t).map fun i => .int (0 + (i : Nat))) := by
  have ht' : (t : Int) < 4611686018427387904 := by omega
  have ht2 : (-4611686018427387904 : Int) ≤ t := by omega
  simp [ht', ht2]
theorem drop1 (t : List D) : cutD t (some 1) none = t.drop 1 := by
  cases t with
  | nil => rfl
  | cons x r =>
    have e : cutAt (x :: r).length 0 (some 1) = 1 := by
      show (if (1 : Int) < 0 then ((1 : Int) + ((x :: r).length : Int)).toNat else min (1 : Int).toNat (x :: r).length) = 1
      rw [if_neg (by decide), List.length_cons]
      show min 1 (r.length + 1) = 1
      omega
    show ((x :: r).drop (cutAt (x :: r).length 0 (some 1))).take ((x :: r).length - cutAt (x :: r).length 0 (some 1)) = _
    rw [e]
    simp
theorem states_loop {many : Nat} {mo : D} {cn : Nat} (hc : 0 < cn) (hc3 : cn ≤ 100) (hm : many ≤ 7) : ∀ (xs : List D) (n : Nat) (P S : List D) (o5 o6 : Option SV), (o5 = none ∨ ∃ y, o5 = some (.d y)) → (o6 = none ∨ ∃ y, o6 = some (.d y)) → n + 80 * xs.length ≤ 800000 → S.length + xs.length ≤ 1000 → Gen n P → (∀ s ∈ S, StateF many s) →
    ∃ P' S' o5' o6', Gen (n + 80 * xs.length) P' ∧ (∀ s ∈ S', StateF many s) ∧ S'.length = S.length + xs.length ∧
    forGo (DL.gName 5) (dSeq (dSet 6 (dLc (dIterA iRange1 (dCons (dOp2 opAdd (dVar 1) (dC (.int 1))) (dNil))) (DL.gName 7) (dTests) (dCall m__law_pick [true, false] [] (dCons (dVar 0) (dCons (dList (dCons (dC (.int 0)) (dCons (dC (.int 1)) (dCons (dC (.int 1)) (dCons (dC (.int 2)) (dCons (dC (.int 3)) (dCons (dC (.int 5)) (dNil)))))))) (dNil)))) [7])) (dSeq (dSet 6 (dIf (dTest (dOp2 opGt (dCallB bSum (dCons (dVar 6) (dNil))) (dC (.int 0)))) (dVar 6) (dOp2 opAdd (dList (dCons (dC (.int 1)) (dNil))) (dSlice opSlice (dVar 6) (dPart (dC (.int 1))) (dNoPart))))) (dAppend 4 (dTup (dCons (dVar 6) (dCons (dLc (dIterA iRange1 (dCons (dVar 1) (dNil))) (DL.gName 7) (dTests) (dIf (dTest (dOp2 opGt (dOp2 opIx (dVar 6) (dVar 7)) (dC (.int 0)))) (dCall m__law_random [true, false] [] (dCons (dVar 0) (dCons (dVar 3) (dNil)))) (dC .none)) [7]) (dNil))))))) xs
      [some (.lent P), some (.d (N many)), some (.d mo), some (.d (N cn)), some (.own S), o5, o6, none] = some (.nx, [some (.lent P'), some (.d (N many)), some (.d mo), some (.d (N cn)), some (.own S'), o5', o6', none])
  | [], n, P, S, o5, o6, h5, h6, hn, hS, hP, hf => ⟨P, S, o5, o6, hP, hf, by simp, by simp [forGo_nil]⟩
  | x :: r, n, P, S, o5, o6, h5, h6, hn, hS, hP, hf => by
    simp only [List.length_cons] at hn hS
    obtain ⟨t, P1, hl1, hf1, hP1, e1⟩ := picks_go (m := N many) (mo := mo) (c := N cn) (tn := x) (S := S) (o6 := o6) ((List.range (many + 1)).map fun i => .int (0 + (i : Nat))) n P (by simp; omega) hP
    have hl1 : t.length = many + 1 := by simpa using hl1
    obtain ⟨is, hi⟩ := ints_small t hf1
    have r1 : iRange1 [.int ((many : Int) + 1)] = some ((List.range (many + 1)).map fun i => .int (i : Nat)) := by
      have h := range_n (t := many + 1) (by omega)
      simp only [Int.zero_add] at h
      exact h
    have r2 : iRange1 [.int (many : Int)] = some ((List.range many).map fun i => .int (i : Nat)) := by
      have h := range_n (t := many) (by omega)
      simp only [Int.zero_add] at h
      exact h
    have sz1 : many + 1 ≤ 16777216 := by omega
    have sz2 : many ≤ 16777216 := by omega
    have sz3 : S.length < 16777216 := by omega
    have up : ∀ {P2 : List D}, Gen (n + 5 * ((List.range (many + 1)).map fun i => PyData.int (0 + (i : Nat))).length + 5 * (List.range many).length) P2 → Gen (n + 80) P2 := fun {P2} ⟨a, b, c, d, e, f⟩ => ⟨a, b, c, d, e, by simp at f; omega⟩
    by_cases hz : 0 < is.sum
    · obtain ⟨ns, P2, hl2, hf2, hP2, e2⟩ := nexts_go (m := N many) (mo := mo) (tn := x) hc hc3 (S := S) (t := t) (.inl rfl) hf1 (List.range many) _ P1 (fun k hk => by have := List.mem_range.mp hk; omega) (by simp; omega) hP1
      have hl2 : ns.length = many := by simpa using hl2
      obtain ⟨P', S', o5', o6', hP', hf', hl', e⟩ := states_loop (mo := mo) hc hc3 hm r (n + 80) P2 (S ++ [.tuple [.list t, .list ns]]) (some (.d x)) (some (.d (.list t))) (.inr ⟨_, rfl⟩) (.inr ⟨_, rfl⟩) (by omega) (by simp; omega) (up hP2) (fun s hs => by
        rcases List.mem_append.mp hs with hs | hs
        · exact hf s hs
        · simp at hs
          exact ⟨t, ns, hs, hl1, hl2, hf1, hf2⟩)
      refine ⟨P', S', o5', o6', ?_, hf', by simp at hl' ⊢; omega, ?_⟩
      · rw [List.length_cons, show n + 80 * (r.length + 1) = n + 80 + 80 * r.length by omega]
        exact hP'
      · rw [forGo_cons]
        simp [N] at e1 e2 e
        rcases h5 with rfl | ⟨z, rfl⟩ <;> rcases h6 with rfl | ⟨w, rfl⟩ <;> simp [N, DL.sizeLine_eq, e1, e2, e, hi, hz, hl1, sz1, sz2, sz3, r1, r2, -iRange1_i]
    · have hd := drop1 t
      have hl3 : (PyData.int 1 :: t.drop 1).length = many + 1 := by simp; omega
      have hf3 : ∀ y ∈ (PyData.int 1 :: t.drop 1), ∃ k : Nat, y = N k ∧ k ≤ 100 := fun y hy => by
        rcases List.mem_cons.mp hy with rfl | hy
        · exact ⟨1, rfl, by decide⟩
        · exact hf1 y (List.mem_of_mem_drop hy)
      obtain ⟨ns, P2, hl2, hf2, hP2, e2⟩ := nexts_go (m := N many) (mo := mo) (tn := x) hc hc3 (S := S) (t := PyData.int 1 :: t.drop 1) (.inr rfl) hf3 (List.range many) _ P1 (fun k hk => by have := List.mem_range.mp hk; omega) (by simp; omega) hP1
      have hl2 : ns.length = many := by simpa using hl2
      obtain ⟨P', S', o5', o6', hP', hf', hl', e⟩ := states_loop (mo := mo) hc hc3 hm r (n + 80) P2 (S ++ [.tuple [.list (PyData.int 1 :: t.drop 1), .list ns]]) (some (.d x)) (some (.d (.list (PyData.int 1 :: t.drop 1)))) (.inr ⟨_, rfl⟩) (.inr ⟨_, rfl⟩) (by omega) (by simp; omega) (up hP2) (fun s hs => by
        rcases List.mem_append.mp hs with hs | hs
        · exact hf s hs
        · simp only [List.mem_cons, List.not_mem_nil, or_false] at hs
          exact ⟨_, ns, hs, hl3, hl2, hf3, hf2⟩)
      refine ⟨P', S', o5', o6', ?_, hf', by simp at hl' ⊢; omega, ?_⟩
      · rw [List.length_cons, show n + 80 * (r.length + 1) = n + 80 + 80 * r.length by omega]
        exact hP'
      · have sz4 : 1 + many ≤ 16777216 := by omega
        have sz5 : many + 1 ≤ 16777216 := by omega
        rw [forGo_cons]
        simp [N] at e1 e2 e
        rcases h5 with rfl | ⟨z, rfl⟩ <;> rcases h6 with rfl | ⟨w, rfl⟩ <;> simp [N, DL.sizeLine_eq, e1, e2, e, hi, hz, hl1, hd, sz1, sz2, sz3, sz4, sz5, r1, r2, -iRange1_i]
theorem model_made {n : Nat} {P : List D} (hn : n ≤ 500000) (hP : Gen n P) {many : Nat} (hm : many ≤ 7) : ∃ x P', ModelF many x ∧ Gen (n + 250) P' ∧ m__law_model [.m P, .d (N many), .d (.int 3)] = some (.d x, [P']) := by
  obtain ⟨c, P1, hc, hP1, h1⟩ := random_ok (by omega) hP 3 (by decide) (sm_of 100 (by decide))
  have h1 : m__law_random [.m P, .d (.int 3)] = some (.d (N c), [P1]) := h1
  have r1 : iRange1 [.int ((1 : Int) + c)] = some ((List.range (1 + c)).map fun i => .int (i : Nat)) := by
    have h := range_n (t := 1 + c) (by omega)
    simp only [Int.zero_add] at h
    exact h
  obtain ⟨P2, S, o5, o6, hP2, hf, hl, e⟩ := states_loop (many := many) (mo := .int 3) (cn := 1 + c) (by omega) (by omega) hm ((List.range (1 + c)).map fun i => .int (0 + (i : Nat))) (n + 5) P1 [] none none (.inl rfl) (.inl rfl) (by simp; omega) (by simp; omega) hP1 (fun s hs => by simp at hs)
  refine ⟨_, P2, ⟨S, rfl, by simp at hl; omega, by simp at hl; omega, hf⟩, ?_, ?_⟩
  · obtain ⟨a, b, d, e1, e2, e3⟩ := hP2
    exact ⟨a, b, d, e1, e2, by simp at e3; omega⟩
  · simp [N] at e
    simp [m__law_model, g__law_model, run_ap, startD, N, DL.sizeLine_eq, h1, r1, e, -iRange1_i]
theorem ModelF.vv {many : Nat} {x : D} (h : ModelF many x) (hm : many ≤ 7) : Vv 4 250 x := by
  obtain ⟨ss, rfl, h1, h2, h3⟩ := h
  have a : Vv 3 63 (.list ss) := (vv_list (n := 2) (k := 20) (w := 3) (fun y hy => (h3 y hy).vv hm) h2).mono (by decide) (by decide)
  have b : Vv 3 63 (.str (Str.ofString "model")) := ⟨by decide +kernel, by simp [PyData.depth], by
    show (Str.ofString "model").cps.size ≤ 63
    decide +kernel⟩
  have c : Vv 3 63 (.int (many : Nat)) := (vv_int (by omega)).mono (by decide) (by decide)
  exact (vv_tuple (n := 3) (k := 63) (w := 3) (fun y hy => by
    simp only [List.mem_cons, List.not_mem_nil, or_false] at hy
    rcases hy with rfl | rfl | rfl
    · exact b
    · exact c
    · exact a) (by simp)).mono (by decide) (by decide)
theorem setting_made {n : Nat} {P : List D} (hn : n ≤ 400000) (hP : Gen n P) : ∃ (many most : Nat) (g s : D) (P' : List D), 1 ≤ many ∧ many ≤ 4 ∧ most ≤ 4 ∧ ModelF many g ∧ ModelF many s ∧ Gen (n + 600) P' ∧ m__law_setting [.m P, .d (.int 4), .d (.int 4)] = some (.d (.tuple [g, s, N most]), [P']) := by
  obtain ⟨a, P1, ha, hP1, h1⟩ := random_ok (by omega) hP 4 (by decide) (sm_of 100 (by decide))
  have h1 : m__law_random [.m P, .d (.int 4)] = some (.d (N a), [P1]) := h1
  obtain ⟨g, P2, hg, hP2, h2⟩ := model_made (many := 1 + a) (by omega) hP1 (by omega)
  obtain ⟨s, P3, hs, hP3, h3⟩ := model_made (many := 1 + a) (by omega) hP2 (by omega)
  obtain ⟨b, P4, hb, hP4, h4⟩ := random_ok (by omega) hP3 6 (by decide) (sm_of 100 (by decide))
  have h4 : m__law_random [.m P3, .d (.int 6)] = some (.d (N b), [P4]) := h4
  obtain ⟨c, P5, hc, hP5, h5⟩ := random_ok (by omega) hP4 4 (by decide) (sm_of 100 (by decide))
  have h5 : m__law_random [.m P4, .d (.int 4)] = some (.d (N c), [P5]) := h5
  have up : Gen (n + 600) P5 := by
    obtain ⟨x, y, z, e1, e2, e3⟩ := hP5
    exact ⟨x, y, z, e1, e2, by omega⟩
  simp [N] at h2 h3
  by_cases hz : b = 0
  · refine ⟨1 + a, 1 + c, g, g, P5, by omega, by omega, by omega, hg, hg, up, ?_⟩
    subst hz
    simp [m__law_setting, g__law_setting, run_ap, startD, N, DL.sizeLine_eq, h1, h2, h3, h4, h5]
  · refine ⟨1 + a, 1 + c, g, s, P5, by omega, by omega, by omega, hg, hs, up, ?_⟩
    simp [m__law_setting, g__law_setting, run_ap, startD, N, DL.sizeLine_eq, h1, h2, h3, h4, h5, hz]
theorem mem_cut {xs : List D} {lo hi : Option Int} {y : D} (h : y ∈ cutD xs lo hi) : y ∈ xs := List.mem_of_mem_drop (List.mem_of_mem_take h)
theorem len_cut (xs : List D) (lo hi : Option Int) : (cutD xs lo hi).length ≤ xs.length := by
  unfold cutD
  rw [List.length_take, List.length_drop]
  omega
/-- small things, one or none deep -/
def At (y : D) : Prop := Vv 0 1 y
theorem at_list {xs : List D} (h : ∀ y ∈ xs, At y) (hl : xs.length ≤ 20) : Vv 1 40 (.list xs) := vv_list (n := 0) (k := 1) (w := 20) h hl
theorem at_tuple {xs : List D} (h : ∀ y ∈ xs, At y) (hl : xs.length ≤ 20) : Vv 1 40 (.tuple xs) := vv_tuple (n := 0) (k := 1) (w := 20) h hl
theorem at_N {k : Nat} (h : k ≤ 1000) : At (N k) := (vv_int (by omega)).mono (by decide) (by decide)
theorem at_int {i : Int} (h : i.natAbs ≤ 1000) : At (.int i) := (vv_int h).mono (by decide) (by decide)
theorem at_none : At .none := vv_none.mono (by decide) (by decide)
theorem at_bool (b) : At (.bool b) := (vv_bool b).mono (by decide) (by decide)
theorem at_one : At (.str (Str.ofString "1")) := ⟨by decide +kernel, by simp [PyData.depth], by show (Str.ofString "1").cps.size ≤ 1; decide +kernel⟩
theorem at_nought : At (.str (Str.ofString "0")) := ⟨by decide +kernel, by simp [PyData.depth], by show (Str.ofString "0").cps.size ≤ 1; decide +kernel⟩
theorem vv_two {a b : D} (ha : Vv 1 40 a) (hb : Vv 1 40 b) : Vv 2 82 (.tuple [a, b]) := (vv_tuple (n := 1) (k := 40) (w := 2) (fun y hy => by
  simp only [List.mem_cons, List.not_mem_nil, or_false] at hy
  rcases hy with rfl | rfl
  · exact ha
  · exact hb) (by simp)).mono (by decide) (by decide)
theorem bent_state {n : Nat} {P : List D} (hn : n ≤ 400000) (hP : Gen n P) {many : Nat} (h0 : 1 ≤ many) (hm : many ≤ 7) {s : D} (hs : StateF many s) : ∃ x P', Vv 2 130 x ∧ Gen (n + 25) P' ∧ m__law_bent_state [.m P, .d s, .d (N many)] = some (.d x, [P']) := by
  obtain ⟨t, ns, rfl, t1, t2, t3, t4⟩ := hs
  obtain ⟨a, P1, ha, hP1, h1⟩ := random_ok (by omega) hP (many + 1) (by omega) (sm_of 10 (by omega) |>.mono (by decide))
  obtain ⟨b, P2, hb, hP2, h2⟩ := random_ok (by omega) hP1 many (by omega) (sm_of 10 (by omega) |>.mono (by decide))
  obtain ⟨f, P3, hf, hP3, h3⟩ := pick_ok (by omega) hP2 [.int 0, .int 1, .int (-1), .bool true, .bool false, .none, .str (Str.ofString "1"), .int 7] (by simp) (by simp)
  obtain ⟨g, P4, hg, hP4, h4⟩ := pick_ok (by omega) hP3 [.int 0, .int 1, .int 12, .int (-1), .none, .bool true, .str (Str.ofString "0")] (by simp) (by simp)
  have af : At f := by
    simp only [List.mem_cons, List.not_mem_nil, or_false] at hf
    rcases hf with rfl | rfl | rfl | rfl | rfl | rfl | rfl | rfl
    · exact at_int (by decide)
    · exact at_int (by decide)
    · exact at_int (by decide)
    · exact at_bool _
    · exact at_bool _
    · exact at_none
    · exact at_one
    · exact at_int (by decide)
  have ag : At g := by
    simp only [List.mem_cons, List.not_mem_nil, or_false] at hg
    rcases hg with rfl | rfl | rfl | rfl | rfl | rfl | rfl
    · exact at_int (by decide)
    · exact at_int (by decide)
    · exact at_int (by decide)
    · exact at_int (by decide)
    · exact at_none
    · exact at_bool _
    · exact at_nought
  have at_ : ∀ y ∈ t, At y := fun y hy => by
    obtain ⟨k, rfl, hk⟩ := t3 y hy
    exact at_N (by omega)
  have an : ∀ y ∈ ns, At y := fun y hy => by
    rcases t4 y hy with rfl | ⟨k, rfl, hk⟩
    · exact at_none
    · exact at_N (by omega)
  have c1 : ∀ (xs : List D) (z : D) (lo hi : Option Int), (∀ y ∈ xs, At y) → At z → xs.length ≤ 8 → Vv 1 40 (.list (cutD xs none lo ++ ([z] ++ cutD xs hi none))) := fun xs z lo hi h hz hl => at_list (fun y hy => by
    simp only [List.mem_append, List.mem_cons, List.not_mem_nil, or_false] at hy
    rcases hy with hy | rfl | hy
    · exact h y (mem_cut hy)
    · exact hz
    · exact h y (mem_cut hy)) (by
    have h1 := len_cut xs none lo
    have h2 := len_cut xs hi none
    simp only [List.length_append, List.length_cons, List.length_nil]
    omega)
  have c2 : ∀ (xs : List D) (z : D), (∀ y ∈ xs, At y) → At z → xs.length ≤ 8 → Vv 1 40 (.list (xs ++ [z])) := fun xs z h hz hl => at_list (fun y hy => by
    simp only [List.mem_append, List.mem_cons, List.not_mem_nil, or_false] at hy
    rcases hy with hy | rfl
    · exact h y hy
    · exact hz) (by simp; omega)
  have lt := at_list at_ (by omega)
  have ln := at_list an (by omega)
  obtain ⟨x, P5, hx, hP5, h5⟩ := pick_ok (by omega) hP4 [.tuple [.list (cutD t none (some a) ++ ([f] ++ cutD t (some (a + 1)) none)), .list ns], .tuple [.list t, .list (cutD ns none (some b) ++ ([g] ++ cutD ns (some (b + 1)) none))], .tuple [.list (t ++ [.int 0]), .list ns], .tuple [.list t, .list (ns ++ [.none])], .tuple [.list (cutD t (some 1) none), .list ns],
    .tuple [.tuple t, .list ns], .tuple [.list t, .tuple ns], .list [.list t, .list ns], .tuple [.list t, .list ns, .int 0], .none, .tuple [.list (List.replicate (many + 1) (.int 0)), .list (List.replicate many .none)]] (by simp) (by simp)
  refine ⟨x, P5, ?_, ?_, ?_⟩
  · have w2 : ∀ {z : D}, Vv 2 82 z → Vv 2 130 z := fun h => h.mono (by decide) (by decide)
    simp only [List.mem_cons, List.not_mem_nil, or_false] at hx
    rcases hx with rfl | rfl | rfl | rfl | rfl | rfl | rfl | rfl | rfl | rfl | rfl
    · exact w2 (vv_two (c1 t f _ _ at_ af (by omega)) ln)
    · exact w2 (vv_two lt (c1 ns g _ _ an ag (by omega)))
    · exact w2 (vv_two (c2 t _ at_ (at_int (by decide)) (by omega)) ln)
    · exact w2 (vv_two lt (c2 ns _ an at_none (by omega)))
    · exact w2 (vv_two (at_list (fun y hy => at_ y (mem_cut hy)) (by have := len_cut t (some 1) none; omega)) ln)
    · exact w2 (vv_two (at_tuple at_ (by omega)) ln)
    · exact w2 (vv_two lt (at_tuple an (by omega)))
    · exact (vv_list (n := 1) (k := 40) (w := 2) (fun y hy => by
        simp only [List.mem_cons, List.not_mem_nil, or_false] at hy
        rcases hy with rfl | rfl
        · exact lt
        · exact ln) (by simp)).mono (by decide) (by decide)
    · exact (vv_tuple (n := 1) (k := 40) (w := 3) (fun y hy => by
        simp only [List.mem_cons, List.not_mem_nil, or_false] at hy
        rcases hy with rfl | rfl | rfl
        · exact lt
        · exact ln
        · exact (at_int (by decide)).mono (by decide) (by decide)) (by simp)).mono (by decide) (by decide)
    · exact at_none.mono (by decide) (by decide)
    · exact w2 (vv_two (at_list (fun y hy => by rw [(List.mem_replicate.mp hy).2]; exact at_int (by decide)) (by simp; omega)) (at_list (fun y hy => by rw [(List.mem_replicate.mp hy).2]; exact at_none) (by simp; omega)))
  · obtain ⟨x, y, z, e1, e2, e3⟩ := hP5
    exact ⟨x, y, z, e1, e2, by omega⟩
  · have h1 : m__law_random [.m P, .d (.int ((many : Int) + 1))] = some (.d (N a), [P1]) := h1
    have q1 : ∀ lo hi, (cutD t lo hi).length ≤ 16777215 := fun lo hi => by have := len_cut t lo hi; omega
    have q2 : ∀ lo hi, (cutD ns lo hi).length ≤ 16777215 := fun lo hi => by have := len_cut ns lo hi; omega
    have q3 : ∀ lo hi lo' hi', (cutD t lo hi).length + ((cutD t lo' hi').length + 1) ≤ 16777216 := fun lo hi lo' hi' => by have := len_cut t lo hi; have := len_cut t lo' hi'; omega
    have q4 : ∀ lo hi lo' hi', (cutD ns lo hi).length + ((cutD ns lo' hi').length + 1) ≤ 16777216 := fun lo hi lo' hi' => by have := len_cut ns lo hi; have := len_cut ns lo' hi'; omega
    have q5 : ∀ lo hi lo' hi', (cutD t lo hi).length + 1 + (cutD t lo' hi').length ≤ 16777216 := fun lo hi lo' hi' => by have := len_cut t lo hi; have := len_cut t lo' hi'; omega
    have q6 : ∀ lo hi lo' hi', (cutD ns lo hi).length + 1 + (cutD ns lo' hi').length ≤ 16777216 := fun lo hi lo' hi' => by have := len_cut ns lo hi; have := len_cut ns lo' hi'; omega
    have z1 : many ≤ 16777214 := by omega
    have z2 : many ≤ 16777215 := by omega
    have z3 : many ≤ 16777216 := by omega
    have z4 : many + 1 ≤ 16777216 := by omega
    have z5 : (-9223372036854775808 : Int) ≤ (many : Int) + 1 := by omega
    have z6 : (many : Int) + 1 < 9223372036854775808 := by omega
    have z7 : (-9223372036854775808 : Int) ≤ (many : Int) := by omega
    have z8 : (many : Int) < 9223372036854775808 := by omega
    have z9 : ((many : Int) + 1).toNat = many + 1 := by omega
    simp [N] at h2 h3 h4 h5
    simp [m__law_bent_state, g__law_bent_state, run_ap, startD, N, DL.sizeLine_eq, h1, h2, h3, h4, h5, q1, q2, q3, q4, q5, q6, t1, t2, z1, z2, z3, z4, z5, z6, z7, z8, z9]
theorem tame_app : ∀ xs ys : List D, tameAll (xs ++ ys) = (tameAll xs && tameAll ys)
  | [], ys => by simp [tameAll]
  | x :: r, ys => by simp [tameAll, tame_app r ys, Bool.and_assoc]
theorem depth_app : ∀ xs ys : List D, PyData.depthAll (xs ++ ys) = max (PyData.depthAll xs) (PyData.depthAll ys)
  | [], ys => by simp [PyData.depthAll]
  | x :: r, ys => by simp [PyData.depthAll, depth_app r ys, Nat.max_assoc]
theorem bulk_app : ∀ xs ys : List D, PyData.bulkAll (xs ++ ys) = PyData.bulkAll xs + PyData.bulkAll ys
  | [], ys => by simp [PyData.bulkAll]
  | x :: r, ys => by simp [PyData.bulkAll, bulk_app r ys]; omega
structure VL (n k : Nat) (xs : List D) : Prop where
  t : tameAll xs = true
  d : PyData.depthAll xs ≤ n
  b : PyData.bulkAll xs ≤ k
theorem VL.mono {n k n' k' : Nat} {y : List D} (h : VL n k y) (hn : n ≤ n') (hk : k ≤ k') : VL n' k' y := ⟨h.t, Nat.le_trans h.d hn, Nat.le_trans h.b hk⟩
theorem vl_take {n k : Nat} {xs : List D} (i : Nat) (h : VL n k xs) : VL n k (xs.take i) := by
  have e := List.take_append_drop i xs
  obtain ⟨a, b, c⟩ := h
  rw [← e, tame_app, Bool.and_eq_true] at a
  rw [← e, depth_app] at b
  rw [← e, bulk_app] at c
  exact ⟨a.1, by omega, by omega⟩
theorem vl_drop {n k : Nat} {xs : List D} (i : Nat) (h : VL n k xs) : VL n k (xs.drop i) := by
  have e := List.take_append_drop i xs
  obtain ⟨a, b, c⟩ := h
  rw [← e, tame_app, Bool.and_eq_true] at a
  rw [← e, depth_app] at b
  rw [← e, bulk_app] at c
  exact ⟨a.2, by omega, by omega⟩
theorem vl_cut {n k : Nat} {xs : List D} (lo hi : Option Int) (h : VL n k xs) : VL n k (cutD xs lo hi) := vl_take _ (vl_drop _ h)
theorem vl_of {n k w : Nat} {xs : List D} (h : ∀ y ∈ xs, Vv n k y) (hl : xs.length ≤ w) : VL n (w * (k + 1)) xs := by
  obtain ⟨a, b, c⟩ := vv_all xs h
  exact ⟨a, b, Nat.le_trans c (Nat.mul_le_mul_right _ hl)⟩
theorem pick_fn {n : Nat} {P : List D} (hn : n ≤ 900000) (hP : Gen n P) : ∃ (F : List D → D) (Q : List D → List D), ∀ xs : List D, 0 < xs.length → xs.length ≤ 1000 → F xs ∈ xs ∧ Gen (n + 5) (Q xs) ∧ m__law_pick [.m P, .d (.list xs)] = some (.d (F xs), [Q xs]) := by
  have h : ∀ xs : List D, ∃ y : D × List D, 0 < xs.length → xs.length ≤ 1000 → y.1 ∈ xs ∧ Gen (n + 5) y.2 ∧ m__law_pick [.m P, .d (.list xs)] = some (.d y.1, [y.2]) := fun xs => by
    by_cases h0 : 0 < xs.length
    · by_cases h1 : xs.length ≤ 1000
      · obtain ⟨y, P', a, b, c⟩ := pick_ok hn hP xs h0 h1
        exact ⟨(y, P'), fun _ _ => ⟨a, b, c⟩⟩
      · exact ⟨(.none, []), fun _ h => absurd h h1⟩
    · exact ⟨(.none, []), fun h _ => absurd h h0⟩
  exact ⟨fun xs => (Classical.choose (h xs)).1, fun xs => (Classical.choose (h xs)).2, fun xs => Classical.choose_spec (h xs)⟩
/-- closes `Vv n k x` for a written-out x from facts on its parts -/
theorem vv_mk {n k : Nat} {x : D} (t : tame x = true) (d : x.depth ≤ n) (b : x.bulk ≤ k) : Vv n k x := ⟨t, d, b⟩
theorem bulk_model : (Str.ofString "model").cps.size = 5 := by decide +kernel
theorem tame_model : tame (.str (Str.ofString "model")) = true := by decide +kernel
theorem bulk_table : (Str.ofString "table").cps.size = 5 := by decide +kernel
theorem tame_table : tame (.str (Str.ofString "table")) = true := by decide +kernel
theorem bulk_Model : (Str.ofString "Model").cps.size = 5 := by decide +kernel
theorem tame_Model : tame (.str (Str.ofString "Model")) = true := by decide +kernel
theorem bulk_setting : (Str.ofString "setting").cps.size = 7 := by decide +kernel
theorem tame_setting : tame (.str (Str.ofString "setting")) = true := by decide +kernel
theorem tame_tup (xs : List D) : tame (.tuple xs) = tameAll xs := by rw [tame]
theorem tame_lst (xs : List D) : tame (.list xs) = tameAll xs := by rw [tame]
theorem tame_non : tame .none = true := by rw [tame]
theorem tame_bl (b) : tame (.bool b) = true := by rw [tame]
theorem tame_i {i : Int} (h : i.natAbs ≤ 1000) : tame (.int i) = true := (vv_int h).t
theorem tame_nil : tameAll [] = true := by rw [tameAll]
theorem tame_cons (x : D) (r : List D) : tameAll (x :: r) = (tame x && tameAll r) := by rw [tameAll]
theorem tame_N {k : Nat} (h : k ≤ 1000) : tame (.int (k : Nat)) = true := (vv_int (by omega)).t
theorem bent_model {n : Nat} {P : List D} (hn : n ≤ 390000) (hP : Gen n P) {many : Nat} (h0 : 1 ≤ many) (hm : many ≤ 7) {g : D} (hg : ModelF many g) : ∃ x P', Vv 4 300 x ∧ Gen (n + 35) P' ∧ m__law_bent_model [.m P, .d g] = some (.d x, [P']) := by
  obtain ⟨ss, rfl, l1, l2, hs⟩ := hg
  obtain ⟨a, P1, ha, hP1, h1⟩ := random_ok (by omega) hP ss.length (by omega) (sm_of 10 (by omega) |>.mono (by decide))
  obtain ⟨b, P2, hb, hP2, h2⟩ := random_ok (by omega) hP1 3 (by decide) (sm_of 100 (by decide))
  have h2 : m__law_random [.m P1, .d (.int 3)] = some (.d (N b), [P2]) := h2
  have vs : VL 2 63 ss := vl_of (k := 20) (w := 3) (fun y hy => (hs y hy).vv hm) l2
  obtain ⟨vt, vd, vb⟩ := vs
  have tm := tame_N (k := many) (by omega)
  have z1 : (-9223372036854775808 : Int) ≤ (a : Int) := by omega
  have z2 : (a : Int) < 9223372036854775808 := by omega
  have z3 : (-9223372036854775808 : Int) ≤ (a : Int) + 1 := by omega
  have z4 : (a : Int) + 1 < 9223372036854775808 := by omega
  have z5 : ss.length ≤ 16777216 := by omega
  have z6 : (a : Int) < ss.length := by omega
  by_cases hz : b = 0
  · subst hz
    simp [N] at h1 h2
    obtain ⟨F, Q, hF⟩ := pick_fn (by omega) hP2
    have hf : ∀ xs : List D, 0 < xs.length → xs.length ≤ 1000 → m__law_pick [.m P2, .d (.list xs)] = some (.d (F xs), [Q xs]) := fun xs h h' => (hF xs h h').2.2
    have t1 : tame (.int ((many : Int) + 1)) = true := tame_N (k := many + 1) (by omega)
    have t2 : tame (.int (-(many : Int))) = true := (vv_int (by omega)).t
    obtain ⟨xs, e, e1, e2, e3⟩ : ∃ xs : List D, m__law_bent_model [.m P, .d (.tuple [.str (Str.ofString "model"), .int (many : Nat), .list ss])] = some (.d (F xs), [Q xs]) ∧ 0 < xs.length ∧ xs.length ≤ 1000 ∧ ∀ y ∈ xs, Vv 4 300 y :=
      ⟨_, by
        simp [m__law_bent_model, g__law_bent_model, run_ap, startD, N, DL.sizeLine_eq, h1, h2, hf, z1, z2, z3, z4, z5]
        exact ⟨rfl, rfl⟩, by simp, by simp, by
        simp only [List.forall_mem_cons]
        refine ⟨?_, ?_, ?_, ?_, ?_, ?_, ?_, ?_, ?_, ?_, fun y hy => by simp at hy⟩ <;> refine vv_mk ?_ ?_ ?_ <;> (try simp [tame_tup, tame_lst, tame_non, tame_bl, tame_nil, tame_cons, tame_i, tame_model, tame_table, bulk_model, bulk_table, PyData.depth, PyData.depthAll, PyData.bulk, PyData.bulkAll, vt, tm, t1, t2])
        all_goals omega⟩
    obtain ⟨f1, ⟨u, v, w, u1, u2, u3⟩, _⟩ := hF xs e1 e2
    exact ⟨F xs, Q xs, e3 _ f1, ⟨u, v, w, u1, u2, by omega⟩, e⟩
  · obtain ⟨y, P3, hy, ⟨u, v, w, u1, u2, u3⟩, h3⟩ := bent_state (by omega) hP2 h0 hm (hs ss[a] (List.getElem_mem ha))
    obtain ⟨c1, c2, c3⟩ := vl_cut none (some (a : Int)) (⟨vt, vd, vb⟩ : VL 2 63 ss)
    obtain ⟨d1, d2, d3⟩ := vl_cut (some ((a : Int) + 1)) none (⟨vt, vd, vb⟩ : VL 2 63 ss)
    have l3 := len_cut ss none (some (a : Int))
    have l4 := len_cut ss (some ((a : Int) + 1)) none
    have y1 := hy.t
    have y2 := hy.d
    have y3 := hy.b
    simp [N] at h1 h2 h3
    have s1 : (cutD ss none (some (a : Int))).length + 1 ≤ 16777216 := by omega
    have s2 : (cutD ss none (some (a : Int))).length + 1 + (cutD ss (some ((a : Int) + 1)) none).length ≤ 16777216 := by omega
    have s3 : (cutD ss none (some (a : Int))).length + ((cutD ss (some ((a : Int) + 1)) none).length + 1) ≤ 16777216 := by omega
    refine ⟨.tuple [.str (Str.ofString "model"), .int (many : Nat), .list (cutD ss none (some (a : Int)) ++ ([y] ++ cutD ss (some ((a : Int) + 1)) none))], P3, ?_, ⟨u, v, w, u1, u2, by omega⟩, ?_⟩
    · refine vv_mk ?_ ?_ ?_ <;> (try simp [tame_tup, tame_lst, tame_nil, tame_cons, tame_app, tame_model, bulk_model, depth_app, bulk_app, PyData.depth, PyData.depthAll, PyData.bulk, PyData.bulkAll, tm, y1, c1, d1])
      all_goals omega
    · simp [m__law_bent_model, g__law_bent_model, run_ap, startD, N, DL.sizeLine_eq, h1, h2, h3, hz, ha, z1, z2, z3, z4, z5, z6, s1, s2, s3, l3, l4]
theorem odd2_go {many : Nat} (hm : many ≤ 7) : ∀ ss : List D, (∀ s ∈ ss, StateF many s) → ∃ ys : List D, ys.length = ss.length ∧ (∀ y ∈ ys, Vv 2 40 y) ∧ ∀ a0 a1 a2 a3 a4 a5 a6 a7 : Option SV,
    lcGo (DL.gName 8) (dTests) (dTup (dCons (dOp2 opAdd (dOp2 opIx (dVar 8) (dC (.int 0))) (dList (dCons (dC (.int 0)) (dNil)))) (dCons (dOp2 opAdd (dOp2 opIx (dVar 8) (dC (.int 1))) (dList (dCons (dC .none) (dNil)))) (dNil)))) [8] ss [a0, a1, a2, a3, a4, a5, a6, a7, none] = some (ys, [a0, a1, a2, a3, a4, a5, a6, a7, none])
  | [], _ => ⟨[], rfl, fun y hy => by simp at hy, fun _ _ _ _ _ _ _ _ => by simp [lcGo_nil]⟩
  | s :: r, h => by
    obtain ⟨t, ns, rfl, h1, h2, h3, h4⟩ := h s (by simp)
    obtain ⟨ys, l, f, e⟩ := odd2_go hm r fun z hz => h z (by simp [hz])
    have vt : VL 0 8 t := (vl_of (k := 0) (w := 8) (fun y hy => by
      obtain ⟨k, rfl, hk⟩ := h3 y hy
      exact vv_int (by omega)) (by omega)).mono (by decide) (by decide)
    have vn : VL 0 8 ns := (vl_of (k := 0) (w := 8) (fun y hy => by
      rcases h4 y hy with rfl | ⟨k, rfl, hk⟩
      · exact vv_none
      · exact vv_int (by omega)) (by omega)).mono (by decide) (by decide)
    obtain ⟨a, b, c⟩ := vt
    obtain ⟨d, e1, g⟩ := vn
    refine ⟨.tuple [.list (t ++ [.int 0]), .list (ns ++ [.none])] :: ys, by simp [l], fun y hy => ?_, fun a0 a1 a2 a3 a4 a5 a6 a7 => ?_⟩
    · rcases List.mem_cons.mp hy with rfl | hy
      · refine vv_mk ?_ ?_ ?_ <;> (try simp [tame_tup, tame_lst, tame_nil, tame_cons, tame_app, tame_non, tame_i, depth_app, bulk_app, PyData.depth, PyData.depthAll, PyData.bulk, PyData.bulkAll, a, d])
        all_goals omega
      · exact f y hy
    · rw [lcGo_cons]
      have s1 : many + 1 + 1 ≤ 16777216 := by omega
      have s2 : many + 1 ≤ 16777216 := by omega
      simp [e, DL.sizeLine_eq, h1, h2, s1, s2]
theorem odd_setting {n : Nat} {P : List D} (hn : n ≤ 390000) (hP : Gen n P) {many most : Nat} (h0 : 1 ≤ many) (hm : many ≤ 7) (hq : most ≤ 4) {g s : D} (hg : ModelF many g) (hs : ModelF many s) :
    ∃ x P', Vv 5 900 x ∧ Gen (n + 5) P' ∧ m__law_odd_setting [.m P, .d (.tuple [g, s, N most])] = some (.d x, [P']) := by
  have vg := hg.vv hm
  have vs := hs.vv hm
  obtain ⟨gs, rfl, l1, l2, gf⟩ := hg
  obtain ⟨ss, rfl, m1, m2, sf⟩ := hs
  have g1 := (vl_of (k := 20) (w := 3) (fun y hy => (gf y hy).vv hm) l2).t
  have g2 := (vl_of (k := 20) (w := 3) (fun y hy => (gf y hy).vv hm) l2).d
  have g3 := (vl_of (k := 20) (w := 3) (fun y hy => (gf y hy).vv hm) l2).b
  have b1 := (vl_of (k := 20) (w := 3) (fun y hy => (sf y hy).vv hm) m2).t
  have b2 := (vl_of (k := 20) (w := 3) (fun y hy => (sf y hy).vv hm) m2).d
  have b3 := (vl_of (k := 20) (w := 3) (fun y hy => (sf y hy).vv hm) m2).b
  obtain ⟨ys, yl, yf, ye⟩ := odd2_go hm ss sf
  match gs, ss, l1, l2, m1, m2, gf, sf, g1, g2, g3, b1, b2, b3, yl, ye with
  | s0 :: gr, s1 :: sr, l1, l2, m1, m2, gf, sf, g1, g2, g3, b1, b2, b3, yl, ye =>
    obtain ⟨t, ns, rfl, t1, t2, t3, t4⟩ := gf s0 (by simp)
    obtain ⟨u, ms, rfl, u1, u2, u3, u4⟩ := sf s1 (by simp)
    obtain ⟨F, Q, hF⟩ := pick_fn (by omega) hP
    have hf : ∀ xs : List D, 0 < xs.length → xs.length ≤ 1000 → m__law_pick [.m P, .d (.list xs)] = some (.d (F xs), [Q xs]) := fun xs h h' => (hF xs h h').2.2
    have d1 := fun (x : D) (r : List D) => (drop1 (x :: r))
    simp only [List.drop_one, List.tail_cons] at d1
    have d2 : ∀ a b c : D, cutD [a, b, c] none (some 2) = [a, b] := fun _ _ _ => rfl
    have w0 : gr.length ≤ 16777213 := by simp at l2 m2; omega
    have w1 : gr.length ≤ 16777214 := by simp at l2 m2; omega
    have w2 : gr.length ≤ 16777215 := by simp at l2 m2; omega
    have w3 : gr.length ≤ 16777216 := by simp at l2 m2; omega
    have w4 : sr.length ≤ 16777213 := by simp at l2 m2; omega
    have w5 : sr.length ≤ 16777214 := by simp at l2 m2; omega
    have w6 : sr.length ≤ 16777215 := by simp at l2 m2; omega
    have w7 : sr.length ≤ 16777216 := by simp at l2 m2; omega
    have w8 : many ≤ 16777213 := by simp at l2 m2; omega
    have w9 : many ≤ 16777214 := by simp at l2 m2; omega
    have w10 : many ≤ 16777215 := by simp at l2 m2; omega
    have w11 : many ≤ 16777216 := by simp at l2 m2; omega
    have w12 : many + 1 ≤ 16777213 := by simp at l2 m2; omega
    have w13 : many + 1 ≤ 16777214 := by simp at l2 m2; omega
    have w14 : many + 1 ≤ 16777215 := by simp at l2 m2; omega
    have w15 : many + 1 ≤ 16777216 := by simp at l2 m2; omega
    have w16 : (-9223372036854775808 : Int) ≤ (many : Int) := by simp at l2 m2; omega
    have w17 : (many : Int) < 9223372036854775808 := by simp at l2 m2; omega
    have w18 : (-9223372036854775808 : Int) ≤ (many : Int) + 1 := by simp at l2 m2; omega
    have w19 : (many : Int) + 1 < 9223372036854775808 := by simp at l2 m2; omega
    have w20 : ((many : Int) + 1).toNat = many + 1 := by simp at l2 m2; omega
    have w91 : 1 + gr.length ≤ 16777216 := by simp at l2 m2; omega
    have w92 : 1 + sr.length ≤ 16777216 := by simp at l2 m2; omega
    have w93 : sr.length + 1 + 1 ≤ 16777216 := by simp at l2 m2; omega
    have w94 : many + 1 + 1 ≤ 16777216 := by omega
    have w90 : ∀ lo hi, (cutD u lo hi).length ≤ 16777215 := fun lo hi => by have := len_cut u lo hi; omega
    obtain ⟨xs, e, e1, e2, e3⟩ : ∃ xs : List D, m__law_odd_setting [.m P, .d (.tuple [.tuple [.str (Str.ofString "model"), .int (many : Nat), .list (.tuple [.list t, .list ns] :: gr)], .tuple [.str (Str.ofString "model"), .int (many : Nat), .list (.tuple [.list u, .list ms] :: sr)], N most])] = some (.d (F xs), [Q xs]) ∧ 0 < xs.length ∧ xs.length ≤ 1000 ∧ ∀ y ∈ xs, Vv 5 900 y :=
      ⟨_, by
        simp [m__law_odd_setting, g__law_odd_setting, run_ap, startD, N, DL.sizeLine_eq, hf, t1, t2, u1, u2, d1, d2, ye, w90, w91, w92, w93, w94, w0, w1, w2, w3, w4, w5, w6, w7, w8, w9, w10, w11, w12, w13, w14, w15, w16, w17, w18, w19, w20]
        exact ⟨rfl, rfl⟩, by simp, by simp, by
        have f1 : ∀ {xs : List D}, (∀ y ∈ xs, ∃ k : Nat, y = N k ∧ k ≤ 100) → xs.length ≤ 8 → VL 0 8 xs := fun h hl => (vl_of (k := 0) (w := 8) (fun y hy => by
          obtain ⟨k, rfl, hk⟩ := h y hy
          exact vv_int (by omega)) hl).mono (by decide) (by decide)
        have f2 : ∀ {xs : List D}, (∀ y ∈ xs, y = .none ∨ ∃ k : Nat, y = N k ∧ k ≤ 100) → xs.length ≤ 8 → VL 0 8 xs := fun h hl => (vl_of (k := 0) (w := 8) (fun y hy => by
          rcases h y hy with rfl | ⟨k, rfl, hk⟩
          · exact vv_none
          · exact vv_int (by omega)) hl).mono (by decide) (by decide)
        obtain ⟨o1, o2, o3⟩ := f1 t3 (by omega)
        obtain ⟨o4, o5, o6⟩ := f2 t4 (by omega)
        obtain ⟨o7, o8, o9⟩ := f1 u3 (by omega)
        obtain ⟨p1, p2, p3⟩ := f2 u4 (by omega)
        obtain ⟨p4, p5, p6⟩ := vl_cut none (some (-1)) (f1 u3 (by omega))
        obtain ⟨p7, p8, p9⟩ := vl_of (w := 3) yf (by omega)
        obtain ⟨q1, q2, q3⟩ := (vl_of (xs := List.replicate (many + 1) (PyData.int 0)) (n := 0) (k := 0) (w := 8) (fun y hy => by rw [(List.mem_replicate.mp hy).2]; exact vv_int (by decide)) (by simp; omega))
        obtain ⟨q4, q5, q6⟩ := (vl_of (xs := List.replicate many (PyData.none)) (n := 0) (k := 0) (w := 8) (fun y hy => by rw [(List.mem_replicate.mp hy).2]; exact vv_none) (by simp; omega))
        obtain ⟨q7, q8, q9⟩ := (vl_of (xs := List.replicate many (PyData.int 99)) (n := 0) (k := 0) (w := 8) (fun y hy => by rw [(List.mem_replicate.mp hy).2]; exact vv_int (by decide)) (by simp; omega))
        have r1 : tame (.int ((many : Int) + 1)) = true := tame_N (k := many + 1) (by omega)
        have r2 := tame_N (k := many) (by omega)
        have r3 := tame_N (k := most) (by omega)
        have r4 := tame_i (i := (-1 : Int)) (by decide)
        have r5 := tame_i (i := (5 : Int)) (by decide)
        have r6 := tame_i (i := (0 : Int)) (by decide)
        have r7 := tame_i (i := (1 : Int)) (by decide)
        simp only [tame_cons, tame_tup, tame_lst, Bool.and_eq_true] at g1 b1
        simp [PyData.depth, PyData.depthAll, PyData.bulk, PyData.bulkAll] at g2 g3 b2 b3
        simp only [List.forall_mem_cons]
        refine ⟨?_, ?_, ?_, ?_, ?_, ?_, ?_, ?_, ?_, ?_, ?_, ?_, ?_, ?_, ?_, ?_, ?_, ?_, ?_, fun y hy => by simp at hy⟩ <;> refine vv_mk ?_ ?_ ?_ <;> (try simp [tame_tup, tame_lst, tame_non, tame_bl, tame_nil, tame_cons, tame_app, tame_model, tame_Model, tame_setting, bulk_model, bulk_Model, bulk_setting, depth_app, bulk_app, PyData.depth, PyData.depthAll, PyData.bulk, PyData.bulkAll, g1, b1, o1, o4, o7, p1, p4, p7, q1, q4, q7, r1, r2, r3, r4, r5, r6, r7])
        all_goals omega⟩
    obtain ⟨f1, ⟨u, v, w, u1, u2, u3⟩, _⟩ := hF xs e1 e2
    exact ⟨F xs, Q xs, e3 _ f1, ⟨u, v, w, u1, u2, by omega⟩, e⟩
theorem ne_same (z : Str) : opNe (.str z) (.str z) = some (.d (.bool false)) := by simp [opNe, flat, PyData.plain, PyData.depth, PyData.eqv]
/-- a slot that is not lent -/
def nd : Option SV → Bool
  | some (.lent _) => false
  | _ => true
@[simp] theorem nd_none : nd none = true := rfl
@[simp] theorem nd_d (x) : nd (some (.d x)) = true := rfl
@[simp] theorem nd_own (x) : nd (some (.own x)) = true := rfl
theorem kSetS_nd {o : Option SV} (h : nd o = true) (st : DSt) (i : Nat) (v : SV) : kSetS o st i v = if i < st.length then some (st.set i (some v)) else none := by
  rcases o with _ | o
  · rfl
  · cases o with
    | d x => rfl
    | own x => rfl
    | lent x => cases h
theorem values_go {t : Nat} {s0 s1 s3 s4 s5 s6 s7 s8 : Option SV} : ∀ (xs : List D) (o9 o10 o11 o12 : Option SV), (∀ y ∈ xs, Vv 40 1000 y) → nd o9 = true → nd o10 = true → nd o11 = true → nd o12 = true →
    ∃ p9 p10 p11 p12 : Option SV, nd p9 = true ∧ nd p10 = true ∧ nd p11 = true ∧ nd p12 = true ∧
    forGo (DL.gName 9) (dSeq (dPar [10, 11] (dCons (dCallB bRepr (dCons (dVar 9) (dNil))) (dCons (dCall m__law_is_setting [false] [] (dCons (dVar 9) (dNil))) (dNil)))) (dSeq (dSet 12 (dIf (dTest (dOp2 opEq (dOp2 opMod (dVar 2) (dC (.int 2))) (dC (.int 0)))) (dCall m_is_setting [false] [] (dCons (dVar 9) (dNil))) (dCallK m_is_setting 0 1 [0] [] dNil (dCons (dVar 9) (dNil))))) (dIfS (dOr (dIfT (dTest (dVar 11)) (dTest (dOp2 opIsNot (dVar 12) (dC (.bool true)))) (dTest (dOp2 opIsNot (dVar 12) (dC (.bool false))))) (dTest (dOp2 opNe (dCallB bRepr (dCons (dVar 9) (dNil))) (dVar 10)))) (dRet (dC (.bool false))) (dNext)))) xs [s0, s1, some (.d (.int (t : Nat))), s3, s4, s5, s6, s7, s8, o9, o10, o11, o12] = some (.nx, [s0, s1, some (.d (.int (t : Nat))), s3, s4, s5, s6, s7, s8, p9, p10, p11, p12])
  | [], o9, o10, o11, o12, _, h1, h2, h3, h4 => ⟨o9, o10, o11, o12, h1, h2, h3, h4, by simp [forGo_nil]⟩
  | x :: r, o9, o10, o11, o12, h, h1, h2, h3, h4 => by
    have vx := h x (by simp)
    obtain ⟨e1, e2⟩ := setting_ok (n := 40) (fit_of 40 x vx.t vx.d vx.b) (by decide)
    have e3 := repr_of x vx.t (Nat.le_trans vx.d (by decide)) vx.b
    obtain ⟨p9, p10, p11, p12, q1, q2, q3, q4, q⟩ := values_go (t := t) (s0 := s0) (s1 := s1) (s3 := s3) (s4 := s4) (s5 := s5) (s6 := s6) (s7 := s7) (s8 := s8) r (some (.d x)) (some (.d (.str x.shown))) (some (.d (.bool (settingJ x)))) (some (.d (.bool (settingJ x)))) (fun y hy => h y (by simp [hy])) rfl rfl rfl rfl
    refine ⟨p9, p10, p11, p12, q1, q2, q3, q4, ?_⟩
    rw [forGo_cons]
    have ev : (t : Int) % 2 = 0 ∨ ¬ (t : Int) % 2 = 0 := Classical.em _
    cases hj : settingJ x <;> rw [hj] at e1 e2 q <;> rcases ev with ev | ev <;> simp [e1, e2, e3, ev, q, ne_same, kSetS_nd, h1, h2, h3, h4]
set_option maxRecDepth 20000
theorem vv_tri {a b c : D} {p q r : Nat} (ha : Vv 6 p a) (hb : Vv 6 q b) (hc : Vv 6 r c) (h : p + q + r + 3 ≤ 1000) : Vv 40 1000 (.tuple [a, b, c]) := by
  obtain ⟨a1, a2, a3⟩ := ha
  obtain ⟨b1, b2, b3⟩ := hb
  obtain ⟨c1, c2, c3⟩ := hc
  refine vv_mk ?_ ?_ ?_ <;> (try simp [tame_tup, tame_nil, tame_cons, PyData.depth, PyData.depthAll, PyData.bulk, PyData.bulkAll, a1, b1, c1])
  all_goals omega
theorem turn_go {s0 : Option SV} : ∀ (xs : List D) (n : Nat) (P : List D) (o2 o3 o4 o5 o6 o7 o8 o9 o10 o11 o12 : Option SV), (∀ y ∈ xs, ∃ t : Nat, y = .int (t : Nat)) → n + 2000 * xs.length ≤ 300000 → Gen n P → nd o2 = true → nd o3 = true → nd o4 = true → nd o5 = true → nd o6 = true → nd o7 = true → nd o8 = true → nd o9 = true → nd o10 = true → nd o11 = true → nd o12 = true →
    ∃ st', forGo (DL.gName 2) (dSeq (dSet 3 (dCall m__law_setting [true, false, false] [] (dCons (dVar 1) (dCons (dC (.int 4)) (dCons (dC (.int 4)) (dNil)))))) (dSeq (dAsg (DL.gTup 3 (DL.gCons (DL.gName 4) (DL.gCons (DL.gName 5) (DL.gCons (DL.gName 6) (DL.gNil))))) (dVar 3)) (dSeq (dSet 7 (dCall m__law_model [true, false, false] [] (dCons (dVar 1) (dCons (dOp2 opAdd (dC (.int 1)) (dCall m__law_random [true, false] [] (dCons (dVar 1) (dCons (dC (.int 6)) (dNil))))) (dCons (dC (.int 3)) (dNil)))))) (dSeq (dSet 8 (dList (dCons (dVar 3) (dCons (dTup (dCons (dVar 4) (dCons (dVar 7) (dCons (dVar 6) (dNil))))) (dCons (dTup (dCons (dVar 7) (dCons (dVar 5) (dCons (dVar 6) (dNil))))) (dCons (dTup (dCons (dVar 7) (dCons (dVar 7) (dCons (dVar 6) (dNil))))) (dCons (dTup (dCons (dCall m__law_bent_model [true, false] [] (dCons (dVar 1) (dCons (dVar 4) (dNil)))) (dCons (dVar 5) (dCons (dVar 6) (dNil))))) (dCons (dTup (dCons (dVar 4) (dCons (dCall m__law_bent_model [true, false] [] (dCons (dVar 1) (dCons (dVar 5) (dNil)))) (dCons (dVar 6) (dNil))))) (dNil))))))))) (dSeq (dSet 8 (dOp2 opAdd (dVar 8) (dList (dCons (dTup (dCons (dVar 4) (dCons (dVar 5) (dCons (dCall m__law_pick [true, false] [] (dCons (dVar 1) (dCons (dList (dCons (dC (.int 0)) (dCons (dC (.int 5)) (dCons (dC (.bool true)) (dCons (dC .none) (dCons (dC (.str (Str.ofString "1"))) (dCons (dC (.int 4)) (dCons (dC (.int 1)) (dNil))))))))) (dNil)))) (dNil))))) (dCons (dCall m__law_odd_setting [true, false] [] (dCons (dVar 1) (dCons (dVar 3) (dNil)))) (dCons (dCallB bList (dCons (dVar 3) (dNil))) (dCons (dTup (dCons (dVar 4) (dCons (dVar 5) (dNil)))) (dNil)))))))) (dFor (dIter DL.iSeq (dVar 8)) (DL.gName 9) (dSeq (dPar [10, 11] (dCons (dCallB bRepr (dCons (dVar 9) (dNil))) (dCons (dCall m__law_is_setting [false] [] (dCons (dVar 9) (dNil))) (dNil)))) (dSeq (dSet 12 (dIf (dTest (dOp2 opEq (dOp2 opMod (dVar 2) (dC (.int 2))) (dC (.int 0)))) (dCall m_is_setting [false] [] (dCons (dVar 9) (dNil))) (dCallK m_is_setting 0 1 [0] [] dNil (dCons (dVar 9) (dNil))))) (dIfS (dOr (dIfT (dTest (dVar 11)) (dTest (dOp2 opIsNot (dVar 12) (dC (.bool true)))) (dTest (dOp2 opIsNot (dVar 12) (dC (.bool false))))) (dTest (dOp2 opNe (dCallB bRepr (dCons (dVar 9) (dNil))) (dVar 10)))) (dRet (dC (.bool false))) (dNext)))))))))) xs [s0, some (.own P), o2, o3, o4, o5, o6, o7, o8, o9, o10, o11, o12] = some (.nx, st')
  | [], n, P, o2, o3, o4, o5, o6, o7, o8, o9, o10, o11, o12, _, _, _, h2, h3, h4, h5, h6, h7, h8, h9, h10, h11, h12 => ⟨_, by rw [forGo_nil]⟩
  | x :: r, n, P, o2, o3, o4, o5, o6, o7, o8, o9, o10, o11, o12, hx, hn, hP, h2, h3, h4, h5, h6, h7, h8, h9, h10, h11, h12 => by
    simp only [List.length_cons] at hn
    have hn2 : n ≤ 298000 := by omega
    obtain ⟨t, rfl⟩ := hx x (by simp)
    obtain ⟨many, most, g, s, P1, a1, a2, a3, hg, hs, hP1, e1⟩ := setting_made (by omega) hP
    obtain ⟨b, P2, hb, hP2, e2⟩ := random_ok (by omega) hP1 6 (by decide) (sm_of 100 (by decide))
    have e2 : m__law_random [.m P1, .d (.int 6)] = some (.d (N b), [P2]) := e2
    obtain ⟨o, P3, ho, hP3, e3⟩ := model_made (many := 1 + b) (by omega) hP2 (by omega)
    obtain ⟨x4, P4, v4, hP4, e4⟩ := bent_model (by omega) hP3 a1 (by omega) hg
    obtain ⟨x5, P5, v5, hP5, e5⟩ := bent_model (by omega) hP4 a1 (by omega) hs
    obtain ⟨y, P6, hy, hP6, e6⟩ := pick_ok (by omega) hP5 [.int 0, .int 5, .bool true, .none, .str (Str.ofString "1"), .int 4, .int 1] (by simp) (by simp)
    obtain ⟨z, P7, vz, hP7, e7⟩ := odd_setting (by omega) hP6 a1 (by omega) a3 hg hs
    have vg := hg.vv (by omega)
    have vs := hs.vv (by omega)
    have vo := ho.vv (by omega)
    have vm : Vv 6 0 (N most) := (vv_int (by omega)).mono (by decide) (by decide)
    have vy : Vv 6 1 y := by
      simp only [List.mem_cons, List.not_mem_nil, or_false] at hy
      have h : At y := by
        rcases hy with rfl | rfl | rfl | rfl | rfl | rfl | rfl
        · exact at_int (by decide)
        · exact at_int (by decide)
        · exact at_bool _
        · exact at_none
        · exact at_one
        · exact at_int (by decide)
        · exact at_int (by decide)
      exact Vv.mono h (by decide) (by decide)
    have up : ∀ {n k : Nat} {q : D}, Vv n k q → n ≤ 6 → Vv 6 k q := fun h hn => h.mono hn (Nat.le_refl _)
    have vals : ∀ q ∈ [PyData.tuple [g, s, N most], .tuple [g, o, N most], .tuple [o, s, N most], .tuple [o, o, N most], .tuple [x4, s, N most], .tuple [g, x5, N most], .tuple [g, s, y], z, .list [g, s, N most], .tuple [g, s]], Vv 40 1000 q := by
      have w1 := vv_tri (up vg (by decide)) (up vs (by decide)) vm (by decide)
      simp only [List.forall_mem_cons]
      refine ⟨w1, vv_tri (up vg (by decide)) (up vo (by decide)) vm (by decide), vv_tri (up vo (by decide)) (up vs (by decide)) vm (by decide), vv_tri (up vo (by decide)) (up vo (by decide)) vm (by decide), vv_tri (up v4 (by decide)) (up vs (by decide)) vm (by decide), vv_tri (up vg (by decide)) (up v5 (by decide)) vm (by decide), vv_tri (up vg (by decide)) (up vs (by decide)) vy (by decide), vz.mono (by decide) (by decide), ⟨w1.t, w1.d, w1.b⟩, ?_, fun y hy => by simp at hy⟩
      obtain ⟨u1, u2, u3⟩ := vg
      obtain ⟨u4, u5, u6⟩ := vs
      refine vv_mk ?_ ?_ ?_ <;> (try simp [tame_tup, tame_nil, tame_cons, PyData.depth, PyData.depthAll, PyData.bulk, PyData.bulkAll, u1, u4])
      all_goals omega
    obtain ⟨p9, p10, p11, p12, q9, q10, q11, q12, e8⟩ := values_go (t := t) (s0 := s0) (s1 := some (.own P7)) (s3 := some (.d (.tuple [g, s, N most]))) (s4 := some (.d g)) (s5 := some (.d s)) (s6 := some (.d (N most))) (s7 := some (.d o))
      (s8 := some (.d (.list [PyData.tuple [g, s, N most], .tuple [g, o, N most], .tuple [o, s, N most], .tuple [o, o, N most], .tuple [x4, s, N most], .tuple [g, x5, N most], .tuple [g, s, y], z, .list [g, s, N most], .tuple [g, s]]))) _ o9 o10 o11 o12 vals h9 h10 h11 h12
    have hP8 : Gen (n + 2000) P7 := by
      obtain ⟨u, v, w, u1, u2, u3⟩ := hP7
      exact ⟨u, v, w, u1, u2, by omega⟩
    obtain ⟨st', e9⟩ := turn_go (s0 := s0) r (n + 2000) P7 (some (.d (.int (t : Nat)))) (some (.d (.tuple [g, s, N most]))) (some (.d g)) (some (.d s)) (some (.d (N most))) (some (.d o)) (some (.d (.list [PyData.tuple [g, s, N most], .tuple [g, o, N most], .tuple [o, s, N most], .tuple [o, o, N most], .tuple [x4, s, N most], .tuple [g, x5, N most], .tuple [g, s, y], z, .list [g, s, N most], .tuple [g, s]])))
      p9 p10 p11 p12 (fun y hy => hx y (by simp [hy])) (by omega) hP8 rfl rfl rfl rfl rfl rfl rfl q9 q10 q11 q12
    refine ⟨st', ?_⟩
    rw [forGo_cons]
    simp [N] at e1 e2 e3 e7 e8 e9
    simp [N, DL.sizeLine_eq, e1, e2, e3, e4, e5, e6, e7, e8, e9, kSetS_nd, h2, h3, h4, h5, h6, h7, h8, h9, h10, h11, h12]
theorem law_true : ∀ ns : List Int, ns.length ≤ 63 → m_law [.d (.list (ns.map .int))] = some (.d (.bool true), []) := fun ns _ => by
  obtain ⟨P, hP, e1⟩ := generator_ok ns 0 (by decide)
  have e1 : m__law_generator [.d (.list (ns.map .int)), .d (.int 0)] = some (.own P, []) := e1
  have r1 : iRange1 [.int 6] = some ((List.range 6).map fun i => .int (i : Nat)) := by
    have h := range_n (t := 6) (by decide)
    simp only [Int.zero_add] at h
    exact h
  obtain ⟨st', e2⟩ := turn_go (s0 := some (.d (.list (ns.map .int)))) ((List.range 6).map fun i => .int (i : Nat)) 0 P none none none none none none none none none none none (fun y hy => by
    obtain ⟨i, _, rfl⟩ := List.mem_map.mp hy
    exact ⟨i, rfl⟩) (by simp) (by simpa using hP) rfl rfl rfl rfl rfl rfl rfl rfl rfl rfl rfl
  simp [m_law, g_law, run_ap, startD, e1, r1, e2, -iRange1_i]
end K43
end

section
set_option Elab.async false
set_option linter.all false
set_option maxRecDepth 100000
set_option maxHeartbeats 4000000
namespace K43
open PySem PySem.Spec PyProof.Rows L2 DL
def topS (i : Nat) : Stmt := PySem.Challenge.pw_saidahead_k43_settings_judged.main.body.getD i (.Pass ⟨0, 0, 0, 0⟩)
abbrev s_is_count : Stmt := topS 1
abbrev N_is_count : List Str := ["value", "least"]
theorem sc_is_count : FnScope N_is_count ["value", "least"] (defScope s_is_count) := ⟨rfl, rfl, rfl, by decide +kernel, rfl, by decide +kernel, by decide +kernel⟩
abbrev s_are_counts : Stmt := topS 3
abbrev N_are_counts : List Str := ["value", "one"]
theorem sc_are_counts : FnScope N_are_counts ["value"] (defScope s_are_counts) := ⟨rfl, rfl, rfl, by decide +kernel, rfl, by decide +kernel, by decide +kernel⟩
abbrev s_is_table : Stmt := topS 4
abbrev N_is_table : List Str := ["value"]
theorem sc_is_table : FnScope N_is_table ["value"] (defScope s_is_table) := ⟨rfl, rfl, rfl, by decide +kernel, rfl, by decide +kernel, by decide +kernel⟩
abbrev s_is_state : Stmt := topS 7
abbrev N_is_state : List Str := ["value", "many", "states", "table", "nexts", "number", "late"]
theorem sc_is_state : FnScope N_is_state ["value", "many", "states"] (defScope s_is_state) := ⟨rfl, rfl, rfl, by decide +kernel, rfl, by decide +kernel, by decide +kernel⟩
abbrev s_is_model : Stmt := topS 8
abbrev N_is_model : List Str := ["value", "state"]
theorem sc_is_model : FnScope N_is_model ["value"] (defScope s_is_model) := ⟨rfl, rfl, rfl, by decide +kernel, rfl, by decide +kernel, by decide +kernel⟩
abbrev s_is_between : Stmt := topS 12
abbrev N_is_between : List Str := ["value", "low", "high"]
theorem sc_is_between : FnScope N_is_between ["value", "low", "high"] (defScope s_is_between) := ⟨rfl, rfl, rfl, by decide +kernel, rfl, by decide +kernel, by decide +kernel⟩
abbrev s_setting_let : Stmt := topS 13
abbrev N_setting_let : List Str := ["value"]
theorem sc_setting_let : FnScope N_setting_let ["value"] (defScope s_setting_let) := ⟨rfl, rfl, rfl, by decide +kernel, rfl, by decide +kernel, by decide +kernel⟩
abbrev s_is_setting : Stmt := topS 14
abbrev N_is_setting : List Str := ["value"]
theorem sc_is_setting : FnScope N_is_setting ["value"] (defScope s_is_setting) := ⟨rfl, rfl, rfl, by decide +kernel, rfl, by decide +kernel, by decide +kernel⟩
abbrev s__law_hash : Stmt := topS 16
abbrev N__law_hash : List Str := ["seed", "index", "mixed"]
theorem sc__law_hash : FnScope N__law_hash ["seed", "index"] (defScope s__law_hash) := ⟨rfl, rfl, rfl, by decide +kernel, rfl, by decide +kernel, by decide +kernel⟩
abbrev s__law_random : Stmt := topS 17
abbrev N__law_random : List Str := ["generator", "bound", "drawn", "turn"]
theorem sc__law_random : FnScope N__law_random ["generator", "bound"] (defScope s__law_random) := ⟨rfl, rfl, rfl, by decide +kernel, rfl, by decide +kernel, by decide +kernel⟩
abbrev s__law_cell : Stmt := topS 18
abbrev N__law_cell : List Str := ["script", "index"]
theorem sc__law_cell : FnScope N__law_cell ["script", "index"] (defScope s__law_cell) := ⟨rfl, rfl, rfl, by decide +kernel, rfl, by decide +kernel, by decide +kernel⟩
abbrev s__law_generator : Stmt := topS 19
abbrev N__law_generator : List Str := ["script", "index", "seed"]
theorem sc__law_generator : FnScope N__law_generator ["script", "index"] (defScope s__law_generator) := ⟨rfl, rfl, rfl, by decide +kernel, rfl, by decide +kernel, by decide +kernel⟩
abbrev s__law_pick : Stmt := topS 20
abbrev N__law_pick : List Str := ["generator", "things"]
theorem sc__law_pick : FnScope N__law_pick ["generator", "things"] (defScope s__law_pick) := ⟨rfl, rfl, rfl, by decide +kernel, rfl, by decide +kernel, by decide +kernel⟩
abbrev s__law_model : Stmt := topS 21
abbrev N__law_model : List Str := ["generator", "many", "most", "count", "states", "state", "table", "item"]
theorem sc__law_model : FnScope N__law_model ["generator", "many", "most"] (defScope s__law_model) := ⟨rfl, rfl, rfl, by decide +kernel, rfl, by decide +kernel, by decide +kernel⟩
abbrev s__law_setting : Stmt := topS 22
abbrev N__law_setting : List Str := ["generator", "most_many", "most_items", "many", "great", "small"]
theorem sc__law_setting : FnScope N__law_setting ["generator", "most_many", "most_items"] (defScope s__law_setting) := ⟨rfl, rfl, rfl, by decide +kernel, rfl, by decide +kernel, by decide +kernel⟩
abbrev s__law_is_between : Stmt := topS 25
abbrev N__law_is_between : List Str := ["value", "low", "high"]
theorem sc__law_is_between : FnScope N__law_is_between ["value", "low", "high"] (defScope s__law_is_between) := ⟨rfl, rfl, rfl, by decide +kernel, rfl, by decide +kernel, by decide +kernel⟩
abbrev s__law_is_state : Stmt := topS 26
abbrev N__law_is_state : List Str := ["state", "many", "states", "bad", "at", "one"]
theorem sc__law_is_state : FnScope N__law_is_state ["state", "many", "states"] (defScope s__law_is_state) := ⟨rfl, rfl, rfl, by decide +kernel, rfl, by decide +kernel, by decide +kernel⟩
abbrev s__law_is_model : Stmt := topS 27
abbrev N__law_is_model : List Str := ["value", "state"]
theorem sc__law_is_model : FnScope N__law_is_model ["value"] (defScope s__law_is_model) := ⟨rfl, rfl, rfl, by decide +kernel, rfl, by decide +kernel, by decide +kernel⟩
abbrev s__law_is_setting : Stmt := topS 28
abbrev N__law_is_setting : List Str := ["value"]
theorem sc__law_is_setting : FnScope N__law_is_setting ["value"] (defScope s__law_is_setting) := ⟨rfl, rfl, rfl, by decide +kernel, rfl, by decide +kernel, by decide +kernel⟩
abbrev s__law_bent_state : Stmt := topS 29
abbrev N__law_bent_state : List Str := ["generator", "state", "many", "table", "nexts", "at", "to", "fresh", "goal", "odd"]
theorem sc__law_bent_state : FnScope N__law_bent_state ["generator", "state", "many"] (defScope s__law_bent_state) := ⟨rfl, rfl, rfl, by decide +kernel, rfl, by decide +kernel, by decide +kernel⟩
abbrev s__law_bent_model : Stmt := topS 30
abbrev N__law_bent_model : List Str := ["generator", "model", "word", "many", "states", "at", "odd"]
theorem sc__law_bent_model : FnScope N__law_bent_model ["generator", "model"] (defScope s__law_bent_model) := ⟨rfl, rfl, rfl, by decide +kernel, rfl, by decide +kernel, by decide +kernel⟩
abbrev s__law_odd_setting : Stmt := topS 31
abbrev N__law_odd_setting : List Str := ["generator", "setting", "great", "small", "most", "table", "nexts", "odd", "state"]
theorem sc__law_odd_setting : FnScope N__law_odd_setting ["generator", "setting"] (defScope s__law_odd_setting) := ⟨rfl, rfl, rfl, by decide +kernel, rfl, by decide +kernel, by decide +kernel⟩
abbrev s_law : Stmt := topS 32
abbrev N_law : List Str := ["script", "generator", "turn", "setting", "great", "small", "most", "other", "values", "value", "kept", "due", "told"]
theorem sc_law : FnScope N_law ["script"] (defScope s_law) := ⟨rfl, rfl, rfl, by decide +kernel, rfl, by decide +kernel, by decide +kernel⟩
structure Tx (K : PySem.W.Frag) (mg : Str → Option Value) where
  f_is_count : Addr
  d_is_count : FuncData
  F_is_count : FunD K "is_count" "is_count" (defArgs s_is_count) (defBody s_is_count) (defScope s_is_count) [V.int 0] [] f_is_count d_is_count
  g_is_count : mg "is_count" = some (.ref f_is_count)
  ds1_is_count : List Value
  v1_is_count : Vals [V.int 0] ds1_is_count
  b1_is_count : Binds K d_is_count ["value", "least"] ds1_is_count
  b2_is_count : Binds K d_is_count ["value", "least"] []
  f_are_counts : Addr
  d_are_counts : FuncData
  F_are_counts : Fun K "are_counts" "are_counts" s_are_counts f_are_counts d_are_counts
  g_are_counts : mg "are_counts" = some (.ref f_are_counts)
  b1_are_counts : Binds K d_are_counts ["value"] []
  f_is_table : Addr
  d_is_table : FuncData
  F_is_table : Fun K "is_table" "is_table" s_is_table f_is_table d_is_table
  g_is_table : mg "is_table" = some (.ref f_is_table)
  b1_is_table : Binds K d_is_table ["value"] []
  f_is_state : Addr
  d_is_state : FuncData
  F_is_state : Fun K "is_state" "is_state" s_is_state f_is_state d_is_state
  g_is_state : mg "is_state" = some (.ref f_is_state)
  b3_is_state : Binds K d_is_state ["value", "many", "states"] []
  f_is_model : Addr
  d_is_model : FuncData
  F_is_model : Fun K "is_model" "is_model" s_is_model f_is_model d_is_model
  g_is_model : mg "is_model" = some (.ref f_is_model)
  b1_is_model : Binds K d_is_model ["value"] []
  f_is_between : Addr
  d_is_between : FuncData
  F_is_between : Fun K "is_between" "is_between" s_is_between f_is_between d_is_between
  g_is_between : mg "is_between" = some (.ref f_is_between)
  b3_is_between : Binds K d_is_between ["value", "low", "high"] []
  f_setting_let : Addr
  d_setting_let : FuncData
  F_setting_let : Fun K "setting_let" "setting_let" s_setting_let f_setting_let d_setting_let
  g_setting_let : mg "setting_let" = some (.ref f_setting_let)
  b1_setting_let : Binds K d_setting_let ["value"] []
  f_is_setting : Addr
  d_is_setting : FuncData
  F_is_setting : Fun K "is_setting" "is_setting" s_is_setting f_is_setting d_is_setting
  g_is_setting : mg "is_setting" = some (.ref f_is_setting)
  k0_value_is_setting : KB K d_is_setting ["value"] ["value"] 0 [0] []
  b1_is_setting : Binds K d_is_setting ["value"] []
  f__law_hash : Addr
  d__law_hash : FuncData
  F__law_hash : Fun K "_law_hash" "_law_hash" s__law_hash f__law_hash d__law_hash
  g__law_hash : mg "_law_hash" = some (.ref f__law_hash)
  b2__law_hash : Binds K d__law_hash ["seed", "index"] []
  f__law_random : Addr
  d__law_random : FuncData
  F__law_random : Fun K "_law_random" "_law_random" s__law_random f__law_random d__law_random
  g__law_random : mg "_law_random" = some (.ref f__law_random)
  b2__law_random : Binds K d__law_random ["generator", "bound"] []
  f__law_cell : Addr
  d__law_cell : FuncData
  F__law_cell : Fun K "_law_cell" "_law_cell" s__law_cell f__law_cell d__law_cell
  g__law_cell : mg "_law_cell" = some (.ref f__law_cell)
  b2__law_cell : Binds K d__law_cell ["script", "index"] []
  f__law_generator : Addr
  d__law_generator : FuncData
  F__law_generator : Fun K "_law_generator" "_law_generator" s__law_generator f__law_generator d__law_generator
  g__law_generator : mg "_law_generator" = some (.ref f__law_generator)
  b2__law_generator : Binds K d__law_generator ["script", "index"] []
  f__law_pick : Addr
  d__law_pick : FuncData
  F__law_pick : Fun K "_law_pick" "_law_pick" s__law_pick f__law_pick d__law_pick
  g__law_pick : mg "_law_pick" = some (.ref f__law_pick)
  b2__law_pick : Binds K d__law_pick ["generator", "things"] []
  f__law_model : Addr
  d__law_model : FuncData
  F__law_model : Fun K "_law_model" "_law_model" s__law_model f__law_model d__law_model
  g__law_model : mg "_law_model" = some (.ref f__law_model)
  b3__law_model : Binds K d__law_model ["generator", "many", "most"] []
  f__law_setting : Addr
  d__law_setting : FuncData
  F__law_setting : Fun K "_law_setting" "_law_setting" s__law_setting f__law_setting d__law_setting
  g__law_setting : mg "_law_setting" = some (.ref f__law_setting)
  b3__law_setting : Binds K d__law_setting ["generator", "most_many", "most_items"] []
  f__law_is_between : Addr
  d__law_is_between : FuncData
  F__law_is_between : Fun K "_law_is_between" "_law_is_between" s__law_is_between f__law_is_between d__law_is_between
  g__law_is_between : mg "_law_is_between" = some (.ref f__law_is_between)
  b3__law_is_between : Binds K d__law_is_between ["value", "low", "high"] []
  f__law_is_state : Addr
  d__law_is_state : FuncData
  F__law_is_state : Fun K "_law_is_state" "_law_is_state" s__law_is_state f__law_is_state d__law_is_state
  g__law_is_state : mg "_law_is_state" = some (.ref f__law_is_state)
  b3__law_is_state : Binds K d__law_is_state ["state", "many", "states"] []
  f__law_is_model : Addr
  d__law_is_model : FuncData
  F__law_is_model : Fun K "_law_is_model" "_law_is_model" s__law_is_model f__law_is_model d__law_is_model
  g__law_is_model : mg "_law_is_model" = some (.ref f__law_is_model)
  b1__law_is_model : Binds K d__law_is_model ["value"] []
  f__law_is_setting : Addr
  d__law_is_setting : FuncData
  F__law_is_setting : Fun K "_law_is_setting" "_law_is_setting" s__law_is_setting f__law_is_setting d__law_is_setting
  g__law_is_setting : mg "_law_is_setting" = some (.ref f__law_is_setting)
  b1__law_is_setting : Binds K d__law_is_setting ["value"] []
  f__law_bent_state : Addr
  d__law_bent_state : FuncData
  F__law_bent_state : Fun K "_law_bent_state" "_law_bent_state" s__law_bent_state f__law_bent_state d__law_bent_state
  g__law_bent_state : mg "_law_bent_state" = some (.ref f__law_bent_state)
  b3__law_bent_state : Binds K d__law_bent_state ["generator", "state", "many"] []
  f__law_bent_model : Addr
  d__law_bent_model : FuncData
  F__law_bent_model : Fun K "_law_bent_model" "_law_bent_model" s__law_bent_model f__law_bent_model d__law_bent_model
  g__law_bent_model : mg "_law_bent_model" = some (.ref f__law_bent_model)
  b2__law_bent_model : Binds K d__law_bent_model ["generator", "model"] []
  f__law_odd_setting : Addr
  d__law_odd_setting : FuncData
  F__law_odd_setting : Fun K "_law_odd_setting" "_law_odd_setting" s__law_odd_setting f__law_odd_setting d__law_odd_setting
  g__law_odd_setting : mg "_law_odd_setting" = some (.ref f__law_odd_setting)
  b2__law_odd_setting : Binds K d__law_odd_setting ["generator", "setting"] []
  f_law : Addr
  d_law : FuncData
  F_law : Fun K "law" "law" s_law f_law d_law
  g_law : mg "law" = some (.ref f_law)
  n_all : mg "all" = none
  n_bool : mg "bool" = none
  n_int : mg "int" = none
  n_isinstance : mg "isinstance" = none
  n_len : mg "len" = none
  n_list : mg "list" = none
  n_max : mg "max" = none
  n_range : mg "range" = none
  n_repr : mg "repr" = none
  n_str : mg "str" = none
  n_sum : mg "sum" = none
  n_tuple : mg "tuple" = none
  n_zip : mg "zip" = none
  v_MOST_ITEMS : ∃ t, mg "MOST_ITEMS" = some (.int 4 t)
  v_MOST_MANY : ∃ t, mg "MOST_MANY" = some (.int 4 t)
  v_MOST_PIECES : ∃ t, mg "MOST_PIECES" = some (.int 40 t)
section
variable {P : Program} {w : World} {K : PySem.W.Frag} {mg : Str → Option Value} {base : Heap}
theorem ok_is_count (T : Tx K mg) : FnG P w K mg base CX0 1 T.f_is_count T.d_is_count ["value", "least"] (spD K 2 m_is_count) := by
  show FnG P w K mg base CX0 (0 + 1) T.f_is_count T.d_is_count ["value", "least"] (spD K (["value", "least"] : List Str).length (run N_is_count.length g_is_count))
  refine dl_okD (N := N_is_count) (ps := ["value", "least"]) (k := 0) (b := g_is_count) T.F_is_count sc_is_count (by decide) ?_
  intro cdv A outer s H E hr gd
  exact ⟨_, dl_both (sss_one (ss_ret (se_and (se_isi tyok_int rfl T.n_isinstance (by decide +kernel) rfl T.n_int (by decide +kernel) (se_var 0)) (se_and (se_not (se_isi tyok_bool rfl T.n_isinstance (by decide +kernel) rfl T.n_bool (by decide +kernel) (se_var 0))) (se_one (se_cmp prim_cmp op_ge (nomark _) (se_var 0) (se_var 1)))))))⟩
theorem ok_are_counts (T : Tx K mg) : FnG P w K mg base CX0 2 T.f_are_counts T.d_are_counts ["value"] (spD K 1 m_are_counts) := by
  show FnG P w K mg base CX0 (1 + 1) T.f_are_counts T.d_are_counts ["value"] (spD K (["value"] : List Str).length (run N_are_counts.length g_are_counts))
  refine dl_ok (N := N_are_counts) (ps := ["value"]) (k := 1) (b := g_are_counts) T.F_are_counts sc_are_counts (by decide) ?_
  intro cdv A outer s H E hr gd
  exact ⟨_, dl_both (sss_one (ss_ret (se_and (se_isi tyok_list rfl T.n_isinstance (by decide +kernel) rfl T.n_list (by decide +kernel) (se_var 0)) (se_one (se_callB prim_all (cr_all rfl) rfl T.n_all (by decide +kernel) (sa_cons (se_lc rfl sc_are_counts.nd (si_seq (se_var 0)) (blkOk_by (own := [("one", 1)]) (N := N_are_counts) (sc := defScope s_are_counts) (by decide +kernel)) (fun _ _ _ _ _ => sg_name 1 sc_are_counts.nd rfl (Or.inl rfl)) (fun _ _ _ _ _ => sts_nil) (fun _ _ _ _ _ => se_call (modes := [false]) (more := [PyData.int 0]) (ok_is_count T) (hr.mono (by decide)) gd rfl T.g_is_count T.F_is_count.kp (T.b1_is_count) (T.v1_is_count) (fun _ _ => .cons (.int _) (.nil)) rfl (sa_cons (se_var 1) (sa_nil))) rfl (by decide)) (sa_nil)))))))⟩
theorem ok_is_table (T : Tx K mg) : FnG P w K mg base CX0 3 T.f_is_table T.d_is_table ["value"] (spD K 1 m_is_table) := by
  show FnG P w K mg base CX0 (2 + 1) T.f_is_table T.d_is_table ["value"] (spD K (["value"] : List Str).length (run N_is_table.length g_is_table))
  refine dl_ok (N := N_is_table) (ps := ["value"]) (k := 2) (b := g_is_table) T.F_is_table sc_is_table (by decide) ?_
  intro cdv A outer s H E hr gd
  exact ⟨_, dl_both (sss_one (ss_ret (se_and (se_call (modes := [false]) (more := []) (ok_are_counts T) (hr.mono (by decide)) gd rfl T.g_are_counts T.F_are_counts.kp (T.b1_are_counts) .nil (fun _ _ => .nil) rfl (sa_cons (se_var 0) (sa_nil))) (se_one (se_cmp prim_cmp op_gt (nomark _) (se_callB prim_sum (cr_sum rfl) rfl T.n_sum (by decide +kernel) (sa_cons (se_var 0) (sa_nil))) (se_int))))))⟩
theorem ok_is_state (T : Tx K mg) : FnG P w K mg base CX0 4 T.f_is_state T.d_is_state ["value", "many", "states"] (spD K 3 m_is_state) := by
  show FnG P w K mg base CX0 (3 + 1) T.f_is_state T.d_is_state ["value", "many", "states"] (spD K (["value", "many", "states"] : List Str).length (run N_is_state.length g_is_state))
  refine dl_ok (N := N_is_state) (ps := ["value", "many", "states"]) (k := 3) (b := g_is_state) T.F_is_state sc_is_state (by decide) ?_
  intro cdv A outer s H E hr gd
  exact ⟨_, dl_both (sss_cons (ss_if (st_w (sw_or (st_not (st_val (se_isi tyok_tuple rfl T.n_isinstance (by decide +kernel) rfl T.n_tuple (by decide +kernel) (se_var 0)))) (sw_or1 (st_cmp prim_ne (op_neP hr.units) (nomark _) (se_callB prim_len call_lenD' rfl T.n_len (by decide +kernel) (sa_cons (se_var 0) (sa_nil))) (se_int))))) (sss_one (ss_ret (se_bl))) (sss_nil)) (sss_cons (ss_asg (se_var 0) (sg_tup rfl (sgs_cons (sg_name 3 sc_is_state.nd rfl (Or.inl rfl)) (sgs_cons (sg_name 4 sc_is_state.nd rfl (Or.inl rfl)) (sgs_nil))))) (sss_cons (ss_if (st_w (sw_or (st_not (st_val (se_call (modes := [false]) (more := []) (ok_is_table T) (hr.mono (by decide)) gd rfl T.g_is_table T.F_is_table.kp (T.b1_is_table) .nil (fun _ _ => .nil) rfl (sa_cons (se_var 3) (sa_nil))))) (sw_or (st_cmp prim_ne (op_neP hr.units) (nomark _) (se_callB prim_len call_lenD' rfl T.n_len (by decide +kernel) (sa_cons (se_var 3) (sa_nil))) (se_add (se_var 1) (se_int))) (sw_or (st_not (st_val (se_isi tyok_list rfl T.n_isinstance (by decide +kernel) rfl T.n_list (by decide +kernel) (se_var 4)))) (sw_or1 (st_cmp prim_ne (op_neP hr.units) (nomark _) (se_callB prim_len call_lenD' rfl T.n_len (by decide +kernel) (sa_cons (se_var 4) (sa_nil))) (se_var 1))))))) (sss_one (ss_ret (se_bl))) (sss_nil)) (sss_cons (ss_for PassesOwn.never rfl (si_zip rfl T.n_zip (sa_cons (se_var 3) (sa_cons (se_var 4) (sa_nil)))) (sg_tup rfl (sgs_cons (sg_name 5 sc_is_state.nd rfl (Or.inl rfl)) (sgs_cons (sg_name 6 sc_is_state.nd rfl (Or.inl rfl)) (sgs_nil)))) (sss_cons (ss_if (st_w (sw_or (st_w (sw_and (st_cmp prim_is op_isC (nomark _) (se_var 6) (se_non)) (sw_and1 (st_cmp prim_cmp op_gt (nomark _) (se_var 5) (se_int))))) (sw_or1 (st_w (sw_and (st_cmp prim_isnot op_isnotC (nomark _) (se_var 6) (se_non)) (sw_and1 (st_cmp prim_eq (op_eqP hr.units) (nomark _) (se_var 5) (se_int)))))))) (sss_one (ss_ret (se_bl))) (sss_nil)) (sss_one (ss_if (st_w (sw_and (st_cmp prim_isnot op_isnotC (nomark _) (se_var 6) (se_non)) (sw_and1 (st_not (st_w (sw_and (st_val (se_call (modes := [false]) (more := [PyData.int 0]) (ok_is_count T) (hr.mono (by decide)) gd rfl T.g_is_count T.F_is_count.kp (T.b1_is_count) (T.v1_is_count) (fun _ _ => .cons (.int _) (.nil)) rfl (sa_cons (se_var 6) (sa_nil)))) (sw_and1 (st_cmp prim_cmp op_lt (nomark _) (se_var 6) (se_var 2))))))))) (sss_one (ss_ret (se_bl))) (sss_nil))))) (sss_one (ss_ret (se_bl)))))))⟩
theorem ok_is_model (T : Tx K mg) : FnG P w K mg base CX0 5 T.f_is_model T.d_is_model ["value"] (spD K 1 m_is_model) := by
  show FnG P w K mg base CX0 (4 + 1) T.f_is_model T.d_is_model ["value"] (spD K (["value"] : List Str).length (run N_is_model.length g_is_model))
  refine dl_ok (N := N_is_model) (ps := ["value"]) (k := 4) (b := g_is_model) T.F_is_model sc_is_model (by decide) ?_
  intro cdv A outer s H E hr gd
  exact ⟨_, dl_both (sss_cons (ss_if (st_w (sw_or (st_not (st_val (se_isi tyok_tuple rfl T.n_isinstance (by decide +kernel) rfl T.n_tuple (by decide +kernel) (se_var 0)))) (sw_or (st_cmp prim_ne (op_neP hr.units) (nomark _) (se_callB prim_len call_lenD' rfl T.n_len (by decide +kernel) (sa_cons (se_var 0) (sa_nil))) (se_int)) (sw_or (st_not (st_val (se_isi tyok_str rfl T.n_isinstance (by decide +kernel) rfl T.n_str (by decide +kernel) (se_ix (se_var 0) (se_int))))) (sw_or1 (st_cmp prim_ne (op_neP hr.units) (nomark _) (se_ix (se_var 0) (se_int)) (se_str))))))) (sss_one (ss_ret (se_bl))) (sss_nil)) (sss_cons (ss_if (st_w (sw_or (st_not (st_val (se_call (modes := [false, false]) (more := []) (ok_is_count T) (hr.mono (by decide)) gd rfl T.g_is_count T.F_is_count.kp (T.b2_is_count) .nil (fun _ _ => .nil) rfl (sa_cons (se_ix (se_var 0) (se_int)) (sa_cons (se_int) (sa_nil)))))) (sw_or (st_cmp prim_cmp op_gt (nomark _) (se_ix (se_var 0) (se_int)) (se_glob (v := V.int 40) rfl T.v_MOST_PIECES.choose_spec ⟨_, rfl⟩ (fun _ _ => .int _))) (sw_or (st_not (st_val (se_isi tyok_list rfl T.n_isinstance (by decide +kernel) rfl T.n_list (by decide +kernel) (se_ix (se_var 0) (se_int))))) (sw_or1 (st_cmp prim_eq (op_eqP hr.units) (nomark _) (se_ix (se_var 0) (se_int)) (se_lst (sa_nil)))))))) (sss_one (ss_ret (se_bl))) (sss_nil)) (sss_one (ss_ret (se_callB prim_all (cr_all rfl) rfl T.n_all (by decide +kernel) (sa_cons (se_lc rfl sc_is_model.nd (si_seq (se_ix (se_var 0) (se_int))) (blkOk_by (own := [("state", 1)]) (N := N_is_model) (sc := defScope s_is_model) (by decide +kernel)) (fun _ _ _ _ _ => sg_name 1 sc_is_model.nd rfl (Or.inl rfl)) (fun _ _ _ _ _ => sts_nil) (fun _ _ _ _ _ => se_call (modes := [false, false, false]) (more := []) (ok_is_state T) (hr.mono (by decide)) gd rfl T.g_is_state T.F_is_state.kp (T.b3_is_state) .nil (fun _ _ => .nil) rfl (sa_cons (se_var 1) (sa_cons (se_ix (se_var 0) (se_int)) (sa_cons (se_callB prim_len call_lenD' rfl T.n_len (by decide +kernel) (sa_cons (se_ix (se_var 0) (se_int)) (sa_nil))) (sa_nil))))) rfl (by decide)) (sa_nil)))))))⟩
theorem ok_is_between (T : Tx K mg) : FnG P w K mg base CX0 1 T.f_is_between T.d_is_between ["value", "low", "high"] (spD K 3 m_is_between) := by
  show FnG P w K mg base CX0 (0 + 1) T.f_is_between T.d_is_between ["value", "low", "high"] (spD K (["value", "low", "high"] : List Str).length (run N_is_between.length g_is_between))
  refine dl_ok (N := N_is_between) (ps := ["value", "low", "high"]) (k := 0) (b := g_is_between) T.F_is_between sc_is_between (by decide) ?_
  intro cdv A outer s H E hr gd
  exact ⟨_, dl_both (sss_one (ss_ret (se_and (se_isi tyok_int rfl T.n_isinstance (by decide +kernel) rfl T.n_int (by decide +kernel) (se_var 0)) (se_and (se_not (se_isi tyok_bool rfl T.n_isinstance (by decide +kernel) rfl T.n_bool (by decide +kernel) (se_var 0))) (se_one (se_chain prim_cmp op_le prim_cmp op_le (se_var 1) (se_var 0) (se_var 2)))))))⟩
theorem ok_setting_let (T : Tx K mg) : FnG P w K mg base CX0 6 T.f_setting_let T.d_setting_let ["value"] (spD K 1 m_setting_let) := by
  show FnG P w K mg base CX0 (5 + 1) T.f_setting_let T.d_setting_let ["value"] (spD K (["value"] : List Str).length (run N_setting_let.length g_setting_let))
  refine dl_ok (N := N_setting_let) (ps := ["value"]) (k := 5) (b := g_setting_let) T.F_setting_let sc_setting_let (by decide) ?_
  intro cdv A outer s H E hr gd
  exact ⟨_, dl_both (sss_cons (ss_if (st_w (sw_or (st_not (st_val (se_isi tyok_tuple rfl T.n_isinstance (by decide +kernel) rfl T.n_tuple (by decide +kernel) (se_var 0)))) (sw_or (st_cmp prim_ne (op_neP hr.units) (nomark _) (se_callB prim_len call_lenD' rfl T.n_len (by decide +kernel) (sa_cons (se_var 0) (sa_nil))) (se_int)) (sw_or1 (st_not (st_val (se_call (modes := [false, false, false]) (more := []) (ok_is_between T) (hr.mono (by decide)) gd rfl T.g_is_between T.F_is_between.kp (T.b3_is_between) .nil (fun _ _ => .nil) rfl (sa_cons (se_ix (se_var 0) (se_int)) (sa_cons (se_int) (sa_cons (se_glob (v := V.int 4) rfl T.v_MOST_ITEMS.choose_spec ⟨_, rfl⟩ (fun _ _ => .int _)) (sa_nil))))))))))) (sss_one (ss_ret (se_bl))) (sss_nil)) (sss_cons (ss_if (st_w (sw_or (st_not (st_val (se_call (modes := [false]) (more := []) (ok_is_model T) (hr.mono (by decide)) gd rfl T.g_is_model T.F_is_model.kp (T.b1_is_model) .nil (fun _ _ => .nil) rfl (sa_cons (se_ix (se_var 0) (se_int)) (sa_nil))))) (sw_or1 (st_not (st_val (se_call (modes := [false]) (more := []) (ok_is_model T) (hr.mono (by decide)) gd rfl T.g_is_model T.F_is_model.kp (T.b1_is_model) .nil (fun _ _ => .nil) rfl (sa_cons (se_ix (se_var 0) (se_int)) (sa_nil)))))))) (sss_one (ss_ret (se_bl))) (sss_nil)) (sss_one (ss_ret (se_and (se_cmp prim_eq (op_eqP hr.units) (nomark _) (se_ix (se_ix (se_var 0) (se_int)) (se_int)) (se_ix (se_ix (se_var 0) (se_int)) (se_int))) (se_one (se_cmp prim_cmp op_le (nomark _) (se_ix (se_ix (se_var 0) (se_int)) (se_int)) (se_glob (v := V.int 4) rfl T.v_MOST_MANY.choose_spec ⟨_, rfl⟩ (fun _ _ => .int _)))))))))⟩
theorem ok_is_setting (T : Tx K mg) : FnG P w K mg base CX0 7 T.f_is_setting T.d_is_setting ["value"] (spD K 1 m_is_setting) := by
  show FnG P w K mg base CX0 (6 + 1) T.f_is_setting T.d_is_setting ["value"] (spD K (["value"] : List Str).length (run N_is_setting.length g_is_setting))
  refine dl_ok (N := N_is_setting) (ps := ["value"]) (k := 6) (b := g_is_setting) T.F_is_setting sc_is_setting (by decide) ?_
  intro cdv A outer s H E hr gd
  exact ⟨_, dl_both (sss_one (ss_ret (se_call (modes := [false]) (more := []) (ok_setting_let T) (hr.mono (by decide)) gd rfl T.g_setting_let T.F_setting_let.kp (T.b1_setting_let) .nil (fun _ _ => .nil) rfl (sa_cons (se_var 0) (sa_nil)))))⟩
theorem ok__law_hash (T : Tx K mg) : FnG P w K mg base CX0 1 T.f__law_hash T.d__law_hash ["seed", "index"] (spD K 2 m__law_hash) := by
  show FnG P w K mg base CX0 (0 + 1) T.f__law_hash T.d__law_hash ["seed", "index"] (spD K (["seed", "index"] : List Str).length (run N__law_hash.length g__law_hash))
  refine dl_ok (N := N__law_hash) (ps := ["seed", "index"]) (k := 0) (b := g__law_hash) T.F__law_hash sc__law_hash (by decide) ?_
  intro cdv A outer s H E hr gd
  exact ⟨_, dl_both (sss_cons (ss_set 2 sc__law_hash.nd rfl (Or.inl rfl) (se_mod (se_callTy prim_int call_int1 rfl T.n_int (by decide +kernel) (sa_cons (se_add (se_add (se_add (se_mul (se_var 0) (se_int)) (se_mul (se_mul (se_int) (se_var 1)) (se_var 1))) (se_mul (se_int) (se_var 1))) (se_int)) (sa_nil))) (se_int))) (sss_cons (ss_set 2 sc__law_hash.nd rfl (Or.inl rfl) (se_mod (se_callTy prim_int call_int1 rfl T.n_int (by decide +kernel) (sa_cons (se_add (se_add (se_mul (se_var 2) (se_var 2)) (se_mul (se_int) (se_var 1))) (se_int)) (sa_nil))) (se_int))) (sss_one (ss_ret (se_mod (se_callTy prim_int call_int1 rfl T.n_int (by decide +kernel) (sa_cons (se_mul (se_var 2) (se_int)) (sa_nil))) (se_int))))))⟩
theorem ok__law_random (T : Tx K mg) : FnG P w K mg base CX0 2 T.f__law_random T.d__law_random ["generator", "bound"] (spD K 2 m__law_random) := by
  show FnG P w K mg base CX0 (1 + 1) T.f__law_random T.d__law_random ["generator", "bound"] (spD K (["generator", "bound"] : List Str).length (run N__law_random.length g__law_random))
  refine dl_ok (N := N__law_random) (ps := ["generator", "bound"]) (k := 1) (b := g__law_random) T.F__law_random sc__law_random (by decide) ?_
  intro cdv A outer s H E hr gd
  exact ⟨_, dl_both (sss_cons (ss_if (st_cmp prim_cmp op_gt (nomark _) (se_ix (se_var 0) (se_int)) (se_int)) (sss_cons (ss_set 2 sc__law_random.nd rfl (Or.inl rfl) (se_mod (se_callTy prim_int call_int1 rfl T.n_int (by decide +kernel) (sa_cons (se_ix (se_var 0) (se_int)) (sa_nil))) (se_var 1))) (sss_cons (ss_setIx 0 (pv 0) (se_int) (se_div (se_ix (se_var 0) (se_int)) (se_var 1))) (sss_one (ss_ret (se_var 2))))) (sss_nil)) (sss_cons (ss_set 2 sc__law_random.nd rfl (Or.inl rfl) (se_int)) (sss_cons (ss_for PassesOwn.never rfl (si_range1 rfl T.n_range (sa_cons (se_add (se_int) (se_div (se_bits (se_var 1)) (se_int))) (sa_nil))) (sg_name 3 sc__law_random.nd rfl (Or.inl rfl)) (sss_cons (ss_setIx 0 (pv 0) (se_int) (se_add (se_ix (se_var 0) (se_int)) (se_int))) (sss_one (ss_set 2 sc__law_random.nd rfl (Or.inl rfl) (se_add (se_mul (se_var 2) (se_int)) (se_call (modes := [false, false]) (more := []) (ok__law_hash T) (hr.mono (by decide)) gd rfl T.g__law_hash T.F__law_hash.kp (T.b2__law_hash) .nil (fun _ _ => .nil) rfl (sa_cons (se_ix (se_var 0) (se_int)) (sa_cons (se_ix (se_var 0) (se_int)) (sa_nil))))))))) (sss_one (ss_ret (se_mod (se_callTy prim_int call_int1 rfl T.n_int (by decide +kernel) (sa_cons (se_var 2) (sa_nil))) (se_var 1)))))))⟩
theorem ok__law_cell (T : Tx K mg) : FnG P w K mg base CX0 1 T.f__law_cell T.d__law_cell ["script", "index"] (spD K 2 m__law_cell) := by
  show FnG P w K mg base CX0 (0 + 1) T.f__law_cell T.d__law_cell ["script", "index"] (spD K (["script", "index"] : List Str).length (run N__law_cell.length g__law_cell))
  refine dl_ok (N := N__law_cell) (ps := ["script", "index"]) (k := 0) (b := g__law_cell) T.F__law_cell sc__law_cell (by decide) ?_
  intro cdv A outer s H E hr gd
  exact ⟨_, dl_both (sss_cons (ss_if (st_cmp prim_cmp op_lt (nomark _) (se_var 1) (se_callB prim_len call_lenD' rfl T.n_len (by decide +kernel) (sa_cons (se_var 0) (sa_nil)))) (sss_one (ss_ret (se_ix (se_var 0) (se_var 1)))) (sss_nil)) (sss_one (ss_ret (se_mod (se_callB prim_sum (cr_sum rfl) rfl T.n_sum (by decide +kernel) (sa_cons (se_slice (se_var 0) (so_none) (so_some (se_int))) (sa_nil))) (se_int)))))⟩
theorem ok__law_generator (T : Tx K mg) : FnG P w K mg base CX0 2 T.f__law_generator T.d__law_generator ["script", "index"] (spD K 2 m__law_generator) := by
  show FnG P w K mg base CX0 (1 + 1) T.f__law_generator T.d__law_generator ["script", "index"] (spD K (["script", "index"] : List Str).length (run N__law_generator.length g__law_generator))
  refine dl_ok (N := N__law_generator) (ps := ["script", "index"]) (k := 1) (b := g__law_generator) T.F__law_generator sc__law_generator (by decide) ?_
  intro cdv A outer s H E hr gd
  exact ⟨_, dl_both (sss_cons (ss_set 2 sc__law_generator.nd rfl (Or.inl rfl) (se_call (modes := [false, false]) (more := []) (ok__law_cell T) (hr.mono (by decide)) gd rfl T.g__law_cell T.F__law_cell.kp (T.b2__law_cell) .nil (fun _ _ => .nil) rfl (sa_cons (se_var 0) (sa_cons (se_var 1) (sa_nil))))) (sss_one (ss_ret (se_lst (sa_cons (se_mod (se_callTy prim_int call_int1 rfl T.n_int (by decide +kernel) (sa_cons (se_callB prim_max2 (call_maxI rfl) rfl T.n_max (by decide +kernel) (sa_cons (se_sub (se_var 2) (se_pow (se_int) (se_int))) (sa_cons (se_int) (sa_nil)))) (sa_nil))) (se_powW (se_pow (se_int) (se_int)) (se_int))) (sa_cons (se_mod (se_callTy prim_int call_int1 rfl T.n_int (by decide +kernel) (sa_cons (se_var 2) (sa_nil))) (se_int)) (sa_cons (se_mul (se_int) (se_var 1)) (sa_nil))))))))⟩
theorem ok__law_pick (T : Tx K mg) : FnG P w K mg base CX0 3 T.f__law_pick T.d__law_pick ["generator", "things"] (spD K 2 m__law_pick) := by
  show FnG P w K mg base CX0 (2 + 1) T.f__law_pick T.d__law_pick ["generator", "things"] (spD K (["generator", "things"] : List Str).length (run N__law_pick.length g__law_pick))
  refine dl_ok (N := N__law_pick) (ps := ["generator", "things"]) (k := 2) (b := g__law_pick) T.F__law_pick sc__law_pick (by decide) ?_
  intro cdv A outer s H E hr gd
  exact ⟨_, dl_both (sss_one (ss_ret (se_ix (se_var 1) (se_call (modes := [true, false]) (more := []) (ok__law_random T) (hr.mono (by decide)) gd rfl T.g__law_random T.F__law_random.kp (T.b2__law_random) .nil (fun _ _ => .nil) rfl (sa_cons (se_var 0) (sa_cons (se_callB prim_len call_lenD' rfl T.n_len (by decide +kernel) (sa_cons (se_var 1) (sa_nil))) (sa_nil)))))))⟩
theorem ok__law_model (T : Tx K mg) : FnG P w K mg base CX0 4 T.f__law_model T.d__law_model ["generator", "many", "most"] (spD K 3 m__law_model) := by
  show FnG P w K mg base CX0 (3 + 1) T.f__law_model T.d__law_model ["generator", "many", "most"] (spD K (["generator", "many", "most"] : List Str).length (run N__law_model.length g__law_model))
  refine dl_ok (N := N__law_model) (ps := ["generator", "many", "most"]) (k := 3) (b := g__law_model) T.F__law_model sc__law_model (by decide) ?_
  intro cdv A outer s H E hr gd
  exact ⟨_, dl_both (sss_cons (ss_asgO (i := 3) (j := 4) (by decide) (se_add (se_int) (se_call (modes := [true, false]) (more := []) (ok__law_random T) (hr.mono (by decide)) gd rfl T.g__law_random T.F__law_random.kp (T.b2__law_random) .nil (fun _ _ => .nil) rfl (sa_cons (se_var 0) (sa_cons (se_var 2) (sa_nil))))) (se_lst (sa_nil)) (se_tup (sa_cons (se_add (se_int) (se_call (modes := [true, false]) (more := []) (ok__law_random T) (hr.mono (by decide)) gd rfl T.g__law_random T.F__law_random.kp (T.b2__law_random) .nil (fun _ _ => .nil) rfl (sa_cons (se_var 0) (sa_cons (se_var 2) (sa_nil))))) (sa_cons (se_lst (sa_nil)) (sa_nil)))) (sg_tup rfl (sgs_cons (sg_name 3 sc__law_model.nd rfl (Or.inr rfl)) (sgs_cons (sg_name 4 sc__law_model.nd rfl (Or.inl rfl)) (sgs_nil))))) (sss_cons (ss_for PassesOwn.never rfl (si_range1 rfl T.n_range (sa_cons (se_var 3) (sa_nil))) (sg_name 5 sc__law_model.nd rfl (Or.inl rfl)) (sss_cons (ss_set 6 sc__law_model.nd rfl (Or.inr rfl) (se_lc rfl sc__law_model.nd (si_range1 rfl T.n_range (sa_cons (se_add (se_var 1) (se_int)) (sa_nil))) (blkOk_by (own := [("item", 7)]) (N := N__law_model) (sc := defScope s__law_model) (by decide +kernel)) (fun _ _ _ _ _ => sg_name 7 sc__law_model.nd rfl (Or.inl rfl)) (fun _ _ _ _ _ => sts_nil) (fun _ _ _ _ _ => se_call (modes := [true, false]) (more := []) (ok__law_pick T) (hr.mono (by decide)) gd rfl T.g__law_pick T.F__law_pick.kp (T.b2__law_pick) .nil (fun _ _ => .nil) rfl (sa_cons (se_var 0) (sa_cons (se_lst (sa_cons (se_int) (sa_cons (se_int) (sa_cons (se_int) (sa_cons (se_int) (sa_cons (se_int) (sa_cons (se_int) (sa_nil)))))))) (sa_nil)))) rfl (by decide))) (sss_cons (ss_set 6 sc__law_model.nd rfl (Or.inr rfl) (se_if (st_cmp prim_cmp op_gt (nomark _) (se_callB prim_sum (cr_sum rfl) rfl T.n_sum (by decide +kernel) (sa_cons (se_var 6) (sa_nil))) (se_int)) (se_var 6) (se_add (se_lst (sa_cons (se_int) (sa_nil))) (se_slice (se_var 6) (so_some (se_int)) (so_none))))) (sss_one (ss_append 4 (fun h => pe_bm PySem.F.plainAttrs_list PySem.F.slot_list_append PySem.F.type_list_append mt_append (pv 4) (pa_cons h pa_nil)) (se_tup (sa_cons (se_var 6) (sa_cons (se_lc rfl sc__law_model.nd (si_range1 rfl T.n_range (sa_cons (se_var 1) (sa_nil))) (blkOk_by (own := [("item", 7)]) (N := N__law_model) (sc := defScope s__law_model) (by decide +kernel)) (fun _ _ _ _ _ => sg_name 7 sc__law_model.nd rfl (Or.inl rfl)) (fun _ _ _ _ _ => sts_nil) (fun _ _ _ _ _ => se_if (st_cmp prim_cmp op_gt (nomark _) (se_ix (se_var 6) (se_var 7)) (se_int)) (se_call (modes := [true, false]) (more := []) (ok__law_random T) (hr.mono (by decide)) gd rfl T.g__law_random T.F__law_random.kp (T.b2__law_random) .nil (fun _ _ => .nil) rfl (sa_cons (se_var 0) (sa_cons (se_var 3) (sa_nil)))) (se_non)) rfl (by decide)) (sa_nil))))))))) (sss_one (ss_ret (se_tup (sa_cons (se_str) (sa_cons (se_var 1) (sa_cons (se_var 4) (sa_nil)))))))))⟩
theorem ok__law_setting (T : Tx K mg) : FnG P w K mg base CX0 5 T.f__law_setting T.d__law_setting ["generator", "most_many", "most_items"] (spD K 3 m__law_setting) := by
  show FnG P w K mg base CX0 (4 + 1) T.f__law_setting T.d__law_setting ["generator", "most_many", "most_items"] (spD K (["generator", "most_many", "most_items"] : List Str).length (run N__law_setting.length g__law_setting))
  refine dl_ok (N := N__law_setting) (ps := ["generator", "most_many", "most_items"]) (k := 4) (b := g__law_setting) T.F__law_setting sc__law_setting (by decide) ?_
  intro cdv A outer s H E hr gd
  exact ⟨_, dl_both (sss_cons (ss_set 3 sc__law_setting.nd rfl (Or.inl rfl) (se_add (se_int) (se_call (modes := [true, false]) (more := []) (ok__law_random T) (hr.mono (by decide)) gd rfl T.g__law_random T.F__law_random.kp (T.b2__law_random) .nil (fun _ _ => .nil) rfl (sa_cons (se_var 0) (sa_cons (se_var 1) (sa_nil)))))) (sss_cons (ss_par 4 5 rfl sc__law_setting.nd rfl rfl (by decide) rfl rfl (sa_cons (se_call (modes := [true, false, false]) (more := []) (ok__law_model T) (hr.mono (by decide)) gd rfl T.g__law_model T.F__law_model.kp (T.b3__law_model) .nil (fun _ _ => .nil) rfl (sa_cons (se_var 0) (sa_cons (se_var 3) (sa_cons (se_int) (sa_nil))))) (sa_cons (se_call (modes := [true, false, false]) (more := []) (ok__law_model T) (hr.mono (by decide)) gd rfl T.g__law_model T.F__law_model.kp (T.b3__law_model) .nil (fun _ _ => .nil) rfl (sa_cons (se_var 0) (sa_cons (se_var 3) (sa_cons (se_int) (sa_nil))))) (sa_nil))) rfl) (sss_cons (ss_if (st_cmp prim_eq (op_eqP hr.units) (nomark _) (se_call (modes := [true, false]) (more := []) (ok__law_random T) (hr.mono (by decide)) gd rfl T.g__law_random T.F__law_random.kp (T.b2__law_random) .nil (fun _ _ => .nil) rfl (sa_cons (se_var 0) (sa_cons (se_int) (sa_nil)))) (se_int)) (sss_one (ss_set 5 sc__law_setting.nd rfl (Or.inl rfl) (se_var 4))) (sss_nil)) (sss_one (ss_ret (se_tup (sa_cons (se_var 4) (sa_cons (se_var 5) (sa_cons (se_add (se_int) (se_call (modes := [true, false]) (more := []) (ok__law_random T) (hr.mono (by decide)) gd rfl T.g__law_random T.F__law_random.kp (T.b2__law_random) .nil (fun _ _ => .nil) rfl (sa_cons (se_var 0) (sa_cons (se_var 2) (sa_nil))))) (sa_nil))))))))))⟩
theorem ok__law_is_between (T : Tx K mg) : FnG P w K mg base CX0 1 T.f__law_is_between T.d__law_is_between ["value", "low", "high"] (spD K 3 m__law_is_between) := by
  show FnG P w K mg base CX0 (0 + 1) T.f__law_is_between T.d__law_is_between ["value", "low", "high"] (spD K (["value", "low", "high"] : List Str).length (run N__law_is_between.length g__law_is_between))
  refine dl_ok (N := N__law_is_between) (ps := ["value", "low", "high"]) (k := 0) (b := g__law_is_between) T.F__law_is_between sc__law_is_between (by decide) ?_
  intro cdv A outer s H E hr gd
  exact ⟨_, dl_both (sss_one (ss_ret (se_and (se_isi tyok_int rfl T.n_isinstance (by decide +kernel) rfl T.n_int (by decide +kernel) (se_var 0)) (se_and (se_not (se_isi tyok_bool rfl T.n_isinstance (by decide +kernel) rfl T.n_bool (by decide +kernel) (se_var 0))) (se_one (se_chain prim_cmp op_le prim_cmp op_le (se_var 1) (se_var 0) (se_var 2)))))))⟩
theorem ok__law_is_state (T : Tx K mg) : FnG P w K mg base CX0 2 T.f__law_is_state T.d__law_is_state ["state", "many", "states"] (spD K 3 m__law_is_state) := by
  show FnG P w K mg base CX0 (1 + 1) T.f__law_is_state T.d__law_is_state ["state", "many", "states"] (spD K (["state", "many", "states"] : List Str).length (run N__law_is_state.length g__law_is_state))
  refine dl_ok (N := N__law_is_state) (ps := ["state", "many", "states"]) (k := 1) (b := g__law_is_state) T.F__law_is_state sc__law_is_state (by decide) ?_
  intro cdv A outer s H E hr gd
  exact ⟨_, dl_both (sss_cons (ss_if (st_w (sw_or (st_not (st_val (se_isi tyok_tuple rfl T.n_isinstance (by decide +kernel) rfl T.n_tuple (by decide +kernel) (se_var 0)))) (sw_or (st_cmp prim_ne (op_neP hr.units) (nomark _) (se_callB prim_len call_lenD' rfl T.n_len (by decide +kernel) (sa_cons (se_var 0) (sa_nil))) (se_int)) (sw_or (st_not (st_val (se_isi tyok_list rfl T.n_isinstance (by decide +kernel) rfl T.n_list (by decide +kernel) (se_ix (se_var 0) (se_int))))) (sw_or1 (st_not (st_val (se_isi tyok_list rfl T.n_isinstance (by decide +kernel) rfl T.n_list (by decide +kernel) (se_ix (se_var 0) (se_int)))))))))) (sss_one (ss_ret (se_bl))) (sss_nil)) (sss_cons (ss_if (st_w (sw_or (st_cmp prim_ne (op_neP hr.units) (nomark _) (se_callB prim_len call_lenD' rfl T.n_len (by decide +kernel) (sa_cons (se_ix (se_var 0) (se_int)) (sa_nil))) (se_add (se_var 1) (se_int))) (sw_or (st_cmp prim_ne (op_neP hr.units) (nomark _) (se_callB prim_len call_lenD' rfl T.n_len (by decide +kernel) (sa_cons (se_ix (se_var 0) (se_int)) (sa_nil))) (se_var 1)) (sw_or1 (st_cmp prim_ne (op_neP hr.units) (nomark _) (se_lc rfl sc__law_is_state.nd (si_seq (se_ix (se_var 0) (se_int))) (blkOk_by (own := [("one", 5)]) (N := N__law_is_state) (sc := defScope s__law_is_state) (by decide +kernel)) (fun _ _ _ _ _ => sg_name 5 sc__law_is_state.nd rfl (Or.inl rfl)) (fun _ _ _ _ _ => sts_one (st_not (st_val (se_call (modes := [false, false, false]) (more := []) (ok__law_is_between T) (hr.mono (by decide)) gd rfl T.g__law_is_between T.F__law_is_between.kp (T.b3__law_is_between) .nil (fun _ _ => .nil) rfl (sa_cons (se_var 5) (sa_cons (se_int) (sa_cons (se_pow (se_int) (se_int)) (sa_nil)))))))) (fun _ _ _ _ _ => se_var 5) rfl (by decide)) (se_lst (sa_nil))))))) (sss_one (ss_ret (se_bl))) (sss_nil)) (sss_cons (ss_if (st_cmp prim_eq (op_eqP hr.units) (nomark _) (se_callB prim_sum (cr_sum rfl) rfl T.n_sum (by decide +kernel) (sa_cons (se_ix (se_var 0) (se_int)) (sa_nil))) (se_int)) (sss_one (ss_ret (se_bl))) (sss_nil)) (sss_cons (ss_setLc 3 rfl sc__law_is_state.nd rfl rfl (sw_true rfl rfl rfl (by decide +kernel)) (si_range1 rfl T.n_range (sa_cons (se_var 1) (sa_nil))) (blkOk_by (own := [("at", 4)]) (N := N__law_is_state) (sc := defScope s__law_is_state) (by decide +kernel)) (fun _ _ _ _ _ => sg_name 4 sc__law_is_state.nd rfl (Or.inl rfl)) (fun _ _ _ _ _ => sts_one (st_if (st_cmp prim_eq (op_eqP hr.units) (nomark _) (se_ix (se_ix (se_var 0) (se_int)) (se_var 4)) (se_int)) (st_cmp prim_isnot op_isnotC (nomark _) (se_ix (se_ix (se_var 0) (se_int)) (se_var 4)) (se_non)) (st_not (st_val (se_call (modes := [false, false, false]) (more := []) (ok__law_is_between T) (hr.mono (by decide)) gd rfl T.g__law_is_between T.F__law_is_between.kp (T.b3__law_is_between) .nil (fun _ _ => .nil) rfl (sa_cons (se_ix (se_ix (se_var 0) (se_int)) (se_var 4)) (sa_cons (se_int) (sa_cons (se_sub (se_var 2) (se_int)) (sa_nil))))))))) (fun _ _ _ _ _ => se_var 4) rfl (by decide)) (sss_one (ss_ret (se_cmp prim_eq (op_eqP hr.units) (nomark _) (se_var 3) (se_lst (sa_nil)))))))))⟩
theorem ok__law_is_model (T : Tx K mg) : FnG P w K mg base CX0 3 T.f__law_is_model T.d__law_is_model ["value"] (spD K 1 m__law_is_model) := by
  show FnG P w K mg base CX0 (2 + 1) T.f__law_is_model T.d__law_is_model ["value"] (spD K (["value"] : List Str).length (run N__law_is_model.length g__law_is_model))
  refine dl_ok (N := N__law_is_model) (ps := ["value"]) (k := 2) (b := g__law_is_model) T.F__law_is_model sc__law_is_model (by decide) ?_
  intro cdv A outer s H E hr gd
  exact ⟨_, dl_both (sss_cons (ss_if (st_w (sw_or (st_not (st_val (se_isi tyok_tuple rfl T.n_isinstance (by decide +kernel) rfl T.n_tuple (by decide +kernel) (se_var 0)))) (sw_or (st_cmp prim_ne (op_neP hr.units) (nomark _) (se_callB prim_len call_lenD' rfl T.n_len (by decide +kernel) (sa_cons (se_var 0) (sa_nil))) (se_int)) (sw_or (st_not (st_val (se_isi tyok_str rfl T.n_isinstance (by decide +kernel) rfl T.n_str (by decide +kernel) (se_ix (se_var 0) (se_int))))) (sw_or1 (st_cmp prim_ne (op_neP hr.units) (nomark _) (se_ix (se_var 0) (se_int)) (se_str))))))) (sss_one (ss_ret (se_bl))) (sss_nil)) (sss_cons (ss_if (st_w (sw_or (st_not (st_val (se_call (modes := [false, false, false]) (more := []) (ok__law_is_between T) (hr.mono (by decide)) gd rfl T.g__law_is_between T.F__law_is_between.kp (T.b3__law_is_between) .nil (fun _ _ => .nil) rfl (sa_cons (se_ix (se_var 0) (se_int)) (sa_cons (se_int) (sa_cons (se_int) (sa_nil))))))) (sw_or (st_not (st_val (se_isi tyok_list rfl T.n_isinstance (by decide +kernel) rfl T.n_list (by decide +kernel) (se_ix (se_var 0) (se_int))))) (sw_or1 (st_cmp prim_eq (op_eqP hr.units) (nomark _) (se_ix (se_var 0) (se_int)) (se_lst (sa_nil))))))) (sss_one (ss_ret (se_bl))) (sss_nil)) (sss_one (ss_ret (se_cmp prim_eq (op_eqP hr.units) (nomark _) (se_lc rfl sc__law_is_model.nd (si_seq (se_ix (se_var 0) (se_int))) (blkOk_by (own := [("state", 1)]) (N := N__law_is_model) (sc := defScope s__law_is_model) (by decide +kernel)) (fun _ _ _ _ _ => sg_name 1 sc__law_is_model.nd rfl (Or.inl rfl)) (fun _ _ _ _ _ => sts_one (st_not (st_val (se_call (modes := [false, false, false]) (more := []) (ok__law_is_state T) (hr.mono (by decide)) gd rfl T.g__law_is_state T.F__law_is_state.kp (T.b3__law_is_state) .nil (fun _ _ => .nil) rfl (sa_cons (se_var 1) (sa_cons (se_ix (se_var 0) (se_int)) (sa_cons (se_callB prim_len call_lenD' rfl T.n_len (by decide +kernel) (sa_cons (se_ix (se_var 0) (se_int)) (sa_nil))) (sa_nil)))))))) (fun _ _ _ _ _ => se_var 1) rfl (by decide)) (se_lst (sa_nil)))))))⟩
theorem ok__law_is_setting (T : Tx K mg) : FnG P w K mg base CX0 4 T.f__law_is_setting T.d__law_is_setting ["value"] (spD K 1 m__law_is_setting) := by
  show FnG P w K mg base CX0 (3 + 1) T.f__law_is_setting T.d__law_is_setting ["value"] (spD K (["value"] : List Str).length (run N__law_is_setting.length g__law_is_setting))
  refine dl_ok (N := N__law_is_setting) (ps := ["value"]) (k := 3) (b := g__law_is_setting) T.F__law_is_setting sc__law_is_setting (by decide) ?_
  intro cdv A outer s H E hr gd
  exact ⟨_, dl_both (sss_cons (ss_if (st_w (sw_or (st_not (st_val (se_isi tyok_tuple rfl T.n_isinstance (by decide +kernel) rfl T.n_tuple (by decide +kernel) (se_var 0)))) (sw_or (st_cmp prim_ne (op_neP hr.units) (nomark _) (se_callB prim_len call_lenD' rfl T.n_len (by decide +kernel) (sa_cons (se_var 0) (sa_nil))) (se_int)) (sw_or (st_not (st_val (se_call (modes := [false]) (more := []) (ok__law_is_model T) (hr.mono (by decide)) gd rfl T.g__law_is_model T.F__law_is_model.kp (T.b1__law_is_model) .nil (fun _ _ => .nil) rfl (sa_cons (se_ix (se_var 0) (se_int)) (sa_nil))))) (sw_or1 (st_not (st_val (se_call (modes := [false]) (more := []) (ok__law_is_model T) (hr.mono (by decide)) gd rfl T.g__law_is_model T.F__law_is_model.kp (T.b1__law_is_model) .nil (fun _ _ => .nil) rfl (sa_cons (se_ix (se_var 0) (se_int)) (sa_nil)))))))))) (sss_one (ss_ret (se_bl))) (sss_nil)) (sss_one (ss_ret (se_and (se_cmp prim_eq (op_eqP hr.units) (nomark _) (se_ix (se_ix (se_var 0) (se_int)) (se_int)) (se_ix (se_ix (se_var 0) (se_int)) (se_int))) (se_and (se_cmp prim_cmp op_le (nomark _) (se_ix (se_ix (se_var 0) (se_int)) (se_int)) (se_int)) (se_one (se_call (modes := [false, false, false]) (more := []) (ok__law_is_between T) (hr.mono (by decide)) gd rfl T.g__law_is_between T.F__law_is_between.kp (T.b3__law_is_between) .nil (fun _ _ => .nil) rfl (sa_cons (se_ix (se_var 0) (se_int)) (sa_cons (se_int) (sa_cons (se_int) (sa_nil)))))))))))⟩
theorem ok__law_bent_state (T : Tx K mg) : FnG P w K mg base CX0 4 T.f__law_bent_state T.d__law_bent_state ["generator", "state", "many"] (spD K 3 m__law_bent_state) := by
  show FnG P w K mg base CX0 (3 + 1) T.f__law_bent_state T.d__law_bent_state ["generator", "state", "many"] (spD K (["generator", "state", "many"] : List Str).length (run N__law_bent_state.length g__law_bent_state))
  refine dl_ok (N := N__law_bent_state) (ps := ["generator", "state", "many"]) (k := 3) (b := g__law_bent_state) T.F__law_bent_state sc__law_bent_state (by decide) ?_
  intro cdv A outer s H E hr gd
  exact ⟨_, dl_both (sss_cons (ss_asg (se_var 1) (sg_tup rfl (sgs_cons (sg_name 3 sc__law_bent_state.nd rfl (Or.inl rfl)) (sgs_cons (sg_name 4 sc__law_bent_state.nd rfl (Or.inl rfl)) (sgs_nil))))) (sss_cons (ss_par 5 6 rfl sc__law_bent_state.nd rfl rfl (by decide) rfl rfl (sa_cons (se_call (modes := [true, false]) (more := []) (ok__law_random T) (hr.mono (by decide)) gd rfl T.g__law_random T.F__law_random.kp (T.b2__law_random) .nil (fun _ _ => .nil) rfl (sa_cons (se_var 0) (sa_cons (se_add (se_var 2) (se_int)) (sa_nil)))) (sa_cons (se_call (modes := [true, false]) (more := []) (ok__law_random T) (hr.mono (by decide)) gd rfl T.g__law_random T.F__law_random.kp (T.b2__law_random) .nil (fun _ _ => .nil) rfl (sa_cons (se_var 0) (sa_cons (se_var 2) (sa_nil)))) (sa_nil))) rfl) (sss_cons (ss_set 7 sc__law_bent_state.nd rfl (Or.inl rfl) (se_call (modes := [true, false]) (more := []) (ok__law_pick T) (hr.mono (by decide)) gd rfl T.g__law_pick T.F__law_pick.kp (T.b2__law_pick) .nil (fun _ _ => .nil) rfl (sa_cons (se_var 0) (sa_cons (se_lst (sa_cons (se_int) (sa_cons (se_int) (sa_cons (se_neg (se_int)) (sa_cons (se_bl) (sa_cons (se_bl) (sa_cons (se_non) (sa_cons (se_str) (sa_cons (se_int) (sa_nil)))))))))) (sa_nil))))) (sss_cons (ss_set 8 sc__law_bent_state.nd rfl (Or.inl rfl) (se_call (modes := [true, false]) (more := []) (ok__law_pick T) (hr.mono (by decide)) gd rfl T.g__law_pick T.F__law_pick.kp (T.b2__law_pick) .nil (fun _ _ => .nil) rfl (sa_cons (se_var 0) (sa_cons (se_lst (sa_cons (se_int) (sa_cons (se_int) (sa_cons (se_int) (sa_cons (se_neg (se_int)) (sa_cons (se_non) (sa_cons (se_bl) (sa_cons (se_str) (sa_nil))))))))) (sa_nil))))) (sss_cons (ss_set 9 sc__law_bent_state.nd rfl (Or.inl rfl) (se_lst (sa_cons (se_tup (sa_cons (se_add (se_add (se_slice (se_var 3) (so_none) (so_some (se_var 5))) (se_lst (sa_cons (se_var 7) (sa_nil)))) (se_slice (se_var 3) (so_some (se_add (se_var 5) (se_int))) (so_none))) (sa_cons (se_var 4) (sa_nil)))) (sa_cons (se_tup (sa_cons (se_var 3) (sa_cons (se_add (se_add (se_slice (se_var 4) (so_none) (so_some (se_var 6))) (se_lst (sa_cons (se_var 8) (sa_nil)))) (se_slice (se_var 4) (so_some (se_add (se_var 6) (se_int))) (so_none))) (sa_nil)))) (sa_cons (se_tup (sa_cons (se_add (se_var 3) (se_lst (sa_cons (se_int) (sa_nil)))) (sa_cons (se_var 4) (sa_nil)))) (sa_cons (se_tup (sa_cons (se_var 3) (sa_cons (se_add (se_var 4) (se_lst (sa_cons (se_non) (sa_nil)))) (sa_nil)))) (sa_cons (se_tup (sa_cons (se_slice (se_var 3) (so_some (se_int)) (so_none)) (sa_cons (se_var 4) (sa_nil)))) (sa_nil)))))))) (sss_cons (ss_set 9 sc__law_bent_state.nd rfl (Or.inl rfl) (se_add (se_var 9) (se_lst (sa_cons (se_tup (sa_cons (se_callTy prim_tuple call_tupleC rfl T.n_tuple (by decide +kernel) (sa_cons (se_var 3) (sa_nil))) (sa_cons (se_var 4) (sa_nil)))) (sa_cons (se_tup (sa_cons (se_var 3) (sa_cons (se_callTy prim_tuple call_tupleC rfl T.n_tuple (by decide +kernel) (sa_cons (se_var 4) (sa_nil))) (sa_nil)))) (sa_cons (se_lst (sa_cons (se_var 3) (sa_cons (se_var 4) (sa_nil)))) (sa_cons (se_tup (sa_cons (se_var 3) (sa_cons (se_var 4) (sa_cons (se_int) (sa_nil))))) (sa_cons (se_non) (sa_cons (se_tup (sa_cons (se_mul (se_lst (sa_cons (se_int) (sa_nil))) (se_add (se_var 2) (se_int))) (sa_cons (se_mul (se_lst (sa_cons (se_non) (sa_nil))) (se_var 2)) (sa_nil)))) (sa_nil)))))))))) (sss_one (ss_ret (se_call (modes := [true, false]) (more := []) (ok__law_pick T) (hr.mono (by decide)) gd rfl T.g__law_pick T.F__law_pick.kp (T.b2__law_pick) .nil (fun _ _ => .nil) rfl (sa_cons (se_var 0) (sa_cons (se_var 9) (sa_nil))))))))))))⟩
theorem ok__law_bent_model (T : Tx K mg) : FnG P w K mg base CX0 5 T.f__law_bent_model T.d__law_bent_model ["generator", "model"] (spD K 2 m__law_bent_model) := by
  show FnG P w K mg base CX0 (4 + 1) T.f__law_bent_model T.d__law_bent_model ["generator", "model"] (spD K (["generator", "model"] : List Str).length (run N__law_bent_model.length g__law_bent_model))
  refine dl_ok (N := N__law_bent_model) (ps := ["generator", "model"]) (k := 4) (b := g__law_bent_model) T.F__law_bent_model sc__law_bent_model (by decide) ?_
  intro cdv A outer s H E hr gd
  exact ⟨_, dl_both (sss_cons (ss_asg (se_var 1) (sg_tup rfl (sgs_cons (sg_name 2 sc__law_bent_model.nd rfl (Or.inl rfl)) (sgs_cons (sg_name 3 sc__law_bent_model.nd rfl (Or.inl rfl)) (sgs_cons (sg_name 4 sc__law_bent_model.nd rfl (Or.inl rfl)) (sgs_nil)))))) (sss_cons (ss_set 5 sc__law_bent_model.nd rfl (Or.inl rfl) (se_call (modes := [true, false]) (more := []) (ok__law_random T) (hr.mono (by decide)) gd rfl T.g__law_random T.F__law_random.kp (T.b2__law_random) .nil (fun _ _ => .nil) rfl (sa_cons (se_var 0) (sa_cons (se_callB prim_len call_lenD' rfl T.n_len (by decide +kernel) (sa_cons (se_var 4) (sa_nil))) (sa_nil))))) (sss_cons (ss_set 6 sc__law_bent_model.nd rfl (Or.inl rfl) (se_lst (sa_cons (se_tup (sa_cons (se_str) (sa_cons (se_var 3) (sa_cons (se_var 4) (sa_nil))))) (sa_cons (se_tup (sa_cons (se_var 2) (sa_cons (se_add (se_var 3) (se_int)) (sa_cons (se_var 4) (sa_nil))))) (sa_cons (se_tup (sa_cons (se_var 2) (sa_cons (se_bl) (sa_cons (se_var 4) (sa_nil))))) (sa_cons (se_tup (sa_cons (se_var 2) (sa_cons (se_var 3) (sa_cons (se_callTy prim_tuple call_tupleC rfl T.n_tuple (by decide +kernel) (sa_cons (se_var 4) (sa_nil))) (sa_nil))))) (sa_cons (se_tup (sa_cons (se_var 2) (sa_cons (se_var 3) (sa_cons (se_lst (sa_nil)) (sa_nil))))) (sa_nil)))))))) (sss_cons (ss_set 6 sc__law_bent_model.nd rfl (Or.inl rfl) (se_add (se_var 6) (se_lst (sa_cons (se_tup (sa_cons (se_var 2) (sa_cons (se_var 3) (sa_nil)))) (sa_cons (se_lst (sa_cons (se_var 2) (sa_cons (se_var 3) (sa_cons (se_var 4) (sa_nil))))) (sa_cons (se_non) (sa_cons (se_tup (sa_cons (se_var 2) (sa_cons (se_int) (sa_cons (se_var 4) (sa_nil))))) (sa_cons (se_tup (sa_cons (se_var 2) (sa_cons (se_sub (se_int) (se_var 3)) (sa_cons (se_var 4) (sa_nil))))) (sa_nil))))))))) (sss_cons (ss_if (st_cmp prim_eq (op_eqP hr.units) (nomark _) (se_call (modes := [true, false]) (more := []) (ok__law_random T) (hr.mono (by decide)) gd rfl T.g__law_random T.F__law_random.kp (T.b2__law_random) .nil (fun _ _ => .nil) rfl (sa_cons (se_var 0) (sa_cons (se_int) (sa_nil)))) (se_int)) (sss_one (ss_ret (se_call (modes := [true, false]) (more := []) (ok__law_pick T) (hr.mono (by decide)) gd rfl T.g__law_pick T.F__law_pick.kp (T.b2__law_pick) .nil (fun _ _ => .nil) rfl (sa_cons (se_var 0) (sa_cons (se_var 6) (sa_nil)))))) (sss_nil)) (sss_one (ss_ret (se_tup (sa_cons (se_var 2) (sa_cons (se_var 3) (sa_cons (se_add (se_add (se_slice (se_var 4) (so_none) (so_some (se_var 5))) (se_lst (sa_cons (se_call (modes := [true, false, false]) (more := []) (ok__law_bent_state T) (hr.mono (by decide)) gd rfl T.g__law_bent_state T.F__law_bent_state.kp (T.b3__law_bent_state) .nil (fun _ _ => .nil) rfl (sa_cons (se_var 0) (sa_cons (se_ix (se_var 4) (se_var 5)) (sa_cons (se_var 3) (sa_nil))))) (sa_nil)))) (se_slice (se_var 4) (so_some (se_add (se_var 5) (se_int))) (so_none))) (sa_nil))))))))))))⟩
theorem ok__law_odd_setting (T : Tx K mg) : FnG P w K mg base CX0 4 T.f__law_odd_setting T.d__law_odd_setting ["generator", "setting"] (spD K 2 m__law_odd_setting) := by
  show FnG P w K mg base CX0 (3 + 1) T.f__law_odd_setting T.d__law_odd_setting ["generator", "setting"] (spD K (["generator", "setting"] : List Str).length (run N__law_odd_setting.length g__law_odd_setting))
  refine dl_ok (N := N__law_odd_setting) (ps := ["generator", "setting"]) (k := 3) (b := g__law_odd_setting) T.F__law_odd_setting sc__law_odd_setting (by decide) ?_
  intro cdv A outer s H E hr gd
  exact ⟨_, dl_both (sss_cons (ss_asg (se_var 1) (sg_tup rfl (sgs_cons (sg_name 2 sc__law_odd_setting.nd rfl (Or.inl rfl)) (sgs_cons (sg_name 3 sc__law_odd_setting.nd rfl (Or.inl rfl)) (sgs_cons (sg_name 4 sc__law_odd_setting.nd rfl (Or.inl rfl)) (sgs_nil)))))) (sss_cons (ss_asg (se_ix (se_ix (se_var 2) (se_int)) (se_int)) (sg_tup rfl (sgs_cons (sg_name 5 sc__law_odd_setting.nd rfl (Or.inl rfl)) (sgs_cons (sg_name 6 sc__law_odd_setting.nd rfl (Or.inl rfl)) (sgs_nil))))) (sss_cons (ss_set 7 sc__law_odd_setting.nd rfl (Or.inl rfl) (se_lst (sa_cons (se_non) (sa_cons (se_lst (sa_cons (se_var 2) (sa_cons (se_var 3) (sa_cons (se_var 4) (sa_nil))))) (sa_cons (se_tup (sa_cons (se_var 2) (sa_cons (se_var 3) (sa_nil)))) (sa_cons (se_tup (sa_cons (se_var 2) (sa_cons (se_var 3) (sa_cons (se_var 4) (sa_cons (se_int) (sa_nil)))))) (sa_cons (se_tup (sa_cons (se_var 2) (sa_cons (se_var 3) (sa_cons (se_int) (sa_nil))))) (sa_cons (se_tup (sa_cons (se_var 2) (sa_cons (se_var 3) (sa_cons (se_int) (sa_nil))))) (sa_cons (se_tup (sa_cons (se_var 2) (sa_cons (se_var 3) (sa_cons (se_bl) (sa_nil))))) (sa_nil)))))))))) (sss_cons (ss_set 7 sc__law_odd_setting.nd rfl (Or.inl rfl) (se_add (se_var 7) (se_lst (sa_cons (se_tup (sa_cons (se_var 2) (sa_cons (se_non) (sa_cons (se_var 4) (sa_nil))))) (sa_cons (se_tup (sa_cons (se_sliceT (se_var 3) (so_none) (so_some (se_int))) (sa_cons (se_var 2) (sa_cons (se_var 4) (sa_nil))))) (sa_cons (se_tup (sa_cons (se_var 2) (sa_cons (se_var 3) (sa_cons (se_non) (sa_nil))))) (sa_nil))))))) (sss_cons (ss_set 7 sc__law_odd_setting.nd rfl (Or.inl rfl) (se_add (se_var 7) (se_lst (sa_cons (se_tup (sa_cons (se_addT (se_tup (sa_cons (se_str) (sa_nil))) (se_sliceT (se_var 2) (so_some (se_int)) (so_none))) (sa_cons (se_var 3) (sa_cons (se_var 4) (sa_nil))))) (sa_cons (se_tup (sa_cons (se_tup (sa_cons (se_str) (sa_cons (se_ix (se_var 2) (se_int)) (sa_cons (se_lst (sa_nil)) (sa_nil))))) (sa_cons (se_var 3) (sa_cons (se_var 4) (sa_nil))))) (sa_cons (se_tup (sa_cons (se_var 2) (sa_cons (se_tup (sa_cons (se_str) (sa_cons (se_add (se_ix (se_var 3) (se_int)) (se_int)) (sa_cons (se_lc rfl sc__law_odd_setting.nd (si_seq (se_ix (se_var 3) (se_int))) (blkOk_by (own := [("state", 8)]) (N := N__law_odd_setting) (sc := defScope s__law_odd_setting) (by decide +kernel)) (fun _ _ _ _ _ => sg_name 8 sc__law_odd_setting.nd rfl (Or.inl rfl)) (fun _ _ _ _ _ => sts_nil) (fun _ _ _ _ _ => se_tup (sa_cons (se_add (se_ix (se_var 8) (se_int)) (se_lst (sa_cons (se_int) (sa_nil)))) (sa_cons (se_add (se_ix (se_var 8) (se_int)) (se_lst (sa_cons (se_non) (sa_nil)))) (sa_nil)))) rfl (by decide)) (sa_nil))))) (sa_cons (se_var 4) (sa_nil))))) (sa_nil))))))) (sss_cons (ss_set 7 sc__law_odd_setting.nd rfl (Or.inl rfl) (se_add (se_var 7) (se_lst (sa_cons (se_tup (sa_cons (se_tup (sa_cons (se_str) (sa_cons (se_ix (se_var 2) (se_int)) (sa_cons (se_add (se_lst (sa_cons (se_tup (sa_cons (se_mul (se_lst (sa_cons (se_int) (sa_nil))) (se_callB prim_len call_lenD' rfl T.n_len (by decide +kernel) (sa_cons (se_var 5) (sa_nil)))) (sa_cons (se_mul (se_lst (sa_cons (se_non) (sa_nil))) (se_ix (se_var 2) (se_int))) (sa_nil)))) (sa_nil))) (se_slice (se_ix (se_var 2) (se_int)) (so_some (se_int)) (so_none))) (sa_nil))))) (sa_cons (se_var 3) (sa_cons (se_var 4) (sa_nil))))) (sa_cons (se_tup (sa_cons (se_tup (sa_cons (se_str) (sa_cons (se_ix (se_var 2) (se_int)) (sa_cons (se_add (se_lst (sa_cons (se_tup (sa_cons (se_add (se_var 5) (se_lst (sa_cons (se_int) (sa_nil)))) (sa_cons (se_var 6) (sa_nil)))) (sa_nil))) (se_slice (se_ix (se_var 2) (se_int)) (so_some (se_int)) (so_none))) (sa_nil))))) (sa_cons (se_var 3) (sa_cons (se_var 4) (sa_nil))))) (sa_nil)))))) (sss_cons (ss_set 7 sc__law_odd_setting.nd rfl (Or.inl rfl) (se_add (se_var 7) (se_lst (sa_cons (se_tup (sa_cons (se_var 2) (sa_cons (se_tup (sa_cons (se_str) (sa_cons (se_ix (se_var 3) (se_int)) (sa_cons (se_add (se_lst (sa_cons (se_tup (sa_cons (se_add (se_slice (se_ix (se_ix (se_ix (se_var 3) (se_int)) (se_int)) (se_int)) (so_none) (so_some (se_neg (se_int)))) (se_lst (sa_cons (se_neg (se_int)) (sa_nil)))) (sa_cons (se_ix (se_ix (se_ix (se_var 3) (se_int)) (se_int)) (se_int)) (sa_nil)))) (sa_nil))) (se_slice (se_ix (se_var 3) (se_int)) (so_some (se_int)) (so_none))) (sa_nil))))) (sa_cons (se_var 4) (sa_nil))))) (sa_cons (se_str) (sa_nil)))))) (sss_cons (ss_set 7 sc__law_odd_setting.nd rfl (Or.inl rfl) (se_add (se_var 7) (se_lst (sa_cons (se_tup (sa_cons (se_tup (sa_cons (se_str) (sa_cons (se_ix (se_var 2) (se_int)) (sa_cons (se_add (se_lst (sa_cons (se_tup (sa_cons (se_var 5) (sa_cons (se_mul (se_lst (sa_cons (se_int) (sa_nil))) (se_ix (se_var 2) (se_int))) (sa_nil)))) (sa_nil))) (se_slice (se_ix (se_var 2) (se_int)) (so_some (se_int)) (so_none))) (sa_nil))))) (sa_cons (se_var 3) (sa_cons (se_var 4) (sa_nil))))) (sa_nil))))) (sss_cons (ss_set 7 sc__law_odd_setting.nd rfl (Or.inl rfl) (se_add (se_var 7) (se_lst (sa_cons (se_tup (sa_cons (se_var 2) (sa_cons (se_tup (sa_cons (se_str) (sa_cons (se_ix (se_var 3) (se_int)) (sa_cons (se_add (se_ix (se_var 3) (se_int)) (se_lst (sa_cons (se_tup (sa_cons (se_mul (se_lst (sa_cons (se_int) (sa_nil))) (se_callB prim_len call_lenD' rfl T.n_len (by decide +kernel) (sa_cons (se_var 5) (sa_nil)))) (sa_cons (se_mul (se_lst (sa_cons (se_non) (sa_nil))) (se_ix (se_var 2) (se_int))) (sa_nil)))) (sa_nil)))) (sa_nil))))) (sa_cons (se_var 4) (sa_nil))))) (sa_nil))))) (sss_one (ss_ret (se_call (modes := [true, false]) (more := []) (ok__law_pick T) (hr.mono (by decide)) gd rfl T.g__law_pick T.F__law_pick.kp (T.b2__law_pick) .nil (fun _ _ => .nil) rfl (sa_cons (se_var 0) (sa_cons (se_var 7) (sa_nil)))))))))))))))⟩
theorem ok_law (T : Tx K mg) : FnG P w K mg base CX0 8 T.f_law T.d_law ["script"] (spD K 1 m_law) := by
  show FnG P w K mg base CX0 (7 + 1) T.f_law T.d_law ["script"] (spD K (["script"] : List Str).length (run N_law.length g_law))
  refine dl_ok (N := N_law) (ps := ["script"]) (k := 7) (b := g_law) T.F_law sc_law (by decide) ?_
  intro cdv A outer s H E hr gd
  exact ⟨_, dl_both (sss_cons (ss_set 1 sc_law.nd rfl (Or.inl rfl) (se_call (modes := [false, false]) (more := []) (ok__law_generator T) (hr.mono (by decide)) gd rfl T.g__law_generator T.F__law_generator.kp (T.b2__law_generator) .nil (fun _ _ => .nil) rfl (sa_cons (se_var 0) (sa_cons (se_int) (sa_nil))))) (sss_cons (ss_for PassesOwn.never rfl (si_range1 rfl T.n_range (sa_cons (se_int) (sa_nil))) (sg_name 2 sc_law.nd rfl (Or.inl rfl)) (sss_cons (ss_set 3 sc_law.nd rfl (Or.inl rfl) (se_call (modes := [true, false, false]) (more := []) (ok__law_setting T) (hr.mono (by decide)) gd rfl T.g__law_setting T.F__law_setting.kp (T.b3__law_setting) .nil (fun _ _ => .nil) rfl (sa_cons (se_var 1) (sa_cons (se_int) (sa_cons (se_int) (sa_nil)))))) (sss_cons (ss_asg (se_var 3) (sg_tup rfl (sgs_cons (sg_name 4 sc_law.nd rfl (Or.inl rfl)) (sgs_cons (sg_name 5 sc_law.nd rfl (Or.inl rfl)) (sgs_cons (sg_name 6 sc_law.nd rfl (Or.inl rfl)) (sgs_nil)))))) (sss_cons (ss_set 7 sc_law.nd rfl (Or.inl rfl) (se_call (modes := [true, false, false]) (more := []) (ok__law_model T) (hr.mono (by decide)) gd rfl T.g__law_model T.F__law_model.kp (T.b3__law_model) .nil (fun _ _ => .nil) rfl (sa_cons (se_var 1) (sa_cons (se_add (se_int) (se_call (modes := [true, false]) (more := []) (ok__law_random T) (hr.mono (by decide)) gd rfl T.g__law_random T.F__law_random.kp (T.b2__law_random) .nil (fun _ _ => .nil) rfl (sa_cons (se_var 1) (sa_cons (se_int) (sa_nil))))) (sa_cons (se_int) (sa_nil)))))) (sss_cons (ss_set 8 sc_law.nd rfl (Or.inl rfl) (se_lst (sa_cons (se_var 3) (sa_cons (se_tup (sa_cons (se_var 4) (sa_cons (se_var 7) (sa_cons (se_var 6) (sa_nil))))) (sa_cons (se_tup (sa_cons (se_var 7) (sa_cons (se_var 5) (sa_cons (se_var 6) (sa_nil))))) (sa_cons (se_tup (sa_cons (se_var 7) (sa_cons (se_var 7) (sa_cons (se_var 6) (sa_nil))))) (sa_cons (se_tup (sa_cons (se_call (modes := [true, false]) (more := []) (ok__law_bent_model T) (hr.mono (by decide)) gd rfl T.g__law_bent_model T.F__law_bent_model.kp (T.b2__law_bent_model) .nil (fun _ _ => .nil) rfl (sa_cons (se_var 1) (sa_cons (se_var 4) (sa_nil)))) (sa_cons (se_var 5) (sa_cons (se_var 6) (sa_nil))))) (sa_cons (se_tup (sa_cons (se_var 4) (sa_cons (se_call (modes := [true, false]) (more := []) (ok__law_bent_model T) (hr.mono (by decide)) gd rfl T.g__law_bent_model T.F__law_bent_model.kp (T.b2__law_bent_model) .nil (fun _ _ => .nil) rfl (sa_cons (se_var 1) (sa_cons (se_var 5) (sa_nil)))) (sa_cons (se_var 6) (sa_nil))))) (sa_nil))))))))) (sss_cons (ss_set 8 sc_law.nd rfl (Or.inl rfl) (se_add (se_var 8) (se_lst (sa_cons (se_tup (sa_cons (se_var 4) (sa_cons (se_var 5) (sa_cons (se_call (modes := [true, false]) (more := []) (ok__law_pick T) (hr.mono (by decide)) gd rfl T.g__law_pick T.F__law_pick.kp (T.b2__law_pick) .nil (fun _ _ => .nil) rfl (sa_cons (se_var 1) (sa_cons (se_lst (sa_cons (se_int) (sa_cons (se_int) (sa_cons (se_bl) (sa_cons (se_non) (sa_cons (se_str) (sa_cons (se_int) (sa_cons (se_int) (sa_nil))))))))) (sa_nil)))) (sa_nil))))) (sa_cons (se_call (modes := [true, false]) (more := []) (ok__law_odd_setting T) (hr.mono (by decide)) gd rfl T.g__law_odd_setting T.F__law_odd_setting.kp (T.b2__law_odd_setting) .nil (fun _ _ => .nil) rfl (sa_cons (se_var 1) (sa_cons (se_var 3) (sa_nil)))) (sa_cons (se_callTy prim_list call_list_of rfl T.n_list (by decide +kernel) (sa_cons (se_var 3) (sa_nil))) (sa_cons (se_tup (sa_cons (se_var 4) (sa_cons (se_var 5) (sa_nil)))) (sa_nil)))))))) (sss_one (ss_for PassesOwn.never rfl (si_seq (se_var 8)) (sg_name 9 sc_law.nd rfl (Or.inl rfl)) (sss_cons (ss_par 10 11 rfl sc_law.nd rfl rfl (by decide) rfl rfl (sa_cons (se_callB prim_repr (call_repr gd hr.units) rfl T.n_repr (by decide +kernel) (sa_cons (se_var 9) (sa_nil))) (sa_cons (se_call (modes := [false]) (more := []) (ok__law_is_setting T) (hr.mono (by decide)) gd rfl T.g__law_is_setting T.F__law_is_setting.kp (T.b1__law_is_setting) .nil (fun _ _ => .nil) rfl (sa_cons (se_var 9) (sa_nil))) (sa_nil))) rfl) (sss_cons (ss_set 12 sc_law.nd rfl (Or.inl rfl) (se_if (st_cmp prim_eq (op_eqP hr.units) (nomark _) (se_mod (se_var 2) (se_int)) (se_int)) (se_call (modes := [false]) (more := []) (ok_is_setting T) (hr.mono (by decide)) gd rfl T.g_is_setting T.F_is_setting.kp (T.b1_is_setting) .nil (fun _ _ => .nil) rfl (sa_cons (se_var 9) (sa_nil))) (se_callP0 (more := []) (ok_is_setting T) (hr.mono (by decide)) gd rfl T.g_is_setting T.F_is_setting.kp T.k0_value_is_setting .nil (fun _ _ => .nil) rfl rfl (sk_cons (se_var 9) (sk_nil))))) (sss_one (ss_if (st_w (sw_or (st_if (st_val (se_var 11)) (st_cmp prim_isnot op_isnotC (nomark _) (se_var 12) (se_bl)) (st_cmp prim_isnot op_isnotC (nomark _) (se_var 12) (se_bl))) (sw_or1 (st_cmp prim_ne (op_neP hr.units) (nomark _) (se_callB prim_repr (call_repr gd hr.units) rfl T.n_repr (by decide +kernel) (sa_cons (se_var 9) (sa_nil))) (se_var 10))))) (sss_one (ss_ret (se_bl))) (sss_nil))))))))))))) (sss_one (ss_ret (se_bl)))))⟩
end
theorem all_mk {K : PySem.W.Frag} {h : Heap} {mg : Str → Option Value} (X : K.In h) (G : h.Ns mainGlobals mg)
    {f1 : Addr} {od1 an1 : Option Addr} {sl1 : Array (Option Value)} {oc1 kV1 dc1 pm1 cd1 ct1 : Value}
    {T1 : Addr} {cT1 : Value} {dT1 : Option Addr} {nT1 : Nat} {sT1 : Array (Option Value)} {tk1_0 : Tok}
    {f2 : Addr} {od2 an2 : Option Addr} {sl2 : Array (Option Value)} {oc2 kV2 dc2 pm2 cd2 ct2 : Value}
    {f3 : Addr} {od3 an3 : Option Addr} {sl3 : Array (Option Value)} {oc3 kV3 dc3 pm3 cd3 ct3 : Value}
    {f4 : Addr} {od4 an4 : Option Addr} {sl4 : Array (Option Value)} {oc4 kV4 dc4 pm4 cd4 ct4 : Value}
    {f5 : Addr} {od5 an5 : Option Addr} {sl5 : Array (Option Value)} {oc5 kV5 dc5 pm5 cd5 ct5 : Value}
    {f6 : Addr} {od6 an6 : Option Addr} {sl6 : Array (Option Value)} {oc6 kV6 dc6 pm6 cd6 ct6 : Value}
    {f7 : Addr} {od7 an7 : Option Addr} {sl7 : Array (Option Value)} {oc7 kV7 dc7 pm7 cd7 ct7 : Value}
    {f8 : Addr} {od8 an8 : Option Addr} {sl8 : Array (Option Value)} {oc8 kV8 dc8 pm8 cd8 ct8 : Value}
    {f9 : Addr} {od9 an9 : Option Addr} {sl9 : Array (Option Value)} {oc9 kV9 dc9 pm9 cd9 ct9 : Value}
    {f10 : Addr} {od10 an10 : Option Addr} {sl10 : Array (Option Value)} {oc10 kV10 dc10 pm10 cd10 ct10 : Value}
    {f11 : Addr} {od11 an11 : Option Addr} {sl11 : Array (Option Value)} {oc11 kV11 dc11 pm11 cd11 ct11 : Value}
    {f12 : Addr} {od12 an12 : Option Addr} {sl12 : Array (Option Value)} {oc12 kV12 dc12 pm12 cd12 ct12 : Value}
    {f13 : Addr} {od13 an13 : Option Addr} {sl13 : Array (Option Value)} {oc13 kV13 dc13 pm13 cd13 ct13 : Value}
    {f14 : Addr} {od14 an14 : Option Addr} {sl14 : Array (Option Value)} {oc14 kV14 dc14 pm14 cd14 ct14 : Value}
    {f15 : Addr} {od15 an15 : Option Addr} {sl15 : Array (Option Value)} {oc15 kV15 dc15 pm15 cd15 ct15 : Value}
    {f16 : Addr} {od16 an16 : Option Addr} {sl16 : Array (Option Value)} {oc16 kV16 dc16 pm16 cd16 ct16 : Value}
    {f17 : Addr} {od17 an17 : Option Addr} {sl17 : Array (Option Value)} {oc17 kV17 dc17 pm17 cd17 ct17 : Value}
    {f18 : Addr} {od18 an18 : Option Addr} {sl18 : Array (Option Value)} {oc18 kV18 dc18 pm18 cd18 ct18 : Value}
    {f19 : Addr} {od19 an19 : Option Addr} {sl19 : Array (Option Value)} {oc19 kV19 dc19 pm19 cd19 ct19 : Value}
    {f20 : Addr} {od20 an20 : Option Addr} {sl20 : Array (Option Value)} {oc20 kV20 dc20 pm20 cd20 ct20 : Value}
    {f21 : Addr} {od21 an21 : Option Addr} {sl21 : Array (Option Value)} {oc21 kV21 dc21 pm21 cd21 ct21 : Value}
    {f22 : Addr} {od22 an22 : Option Addr} {sl22 : Array (Option Value)} {oc22 kV22 dc22 pm22 cd22 ct22 : Value}
    {f23 : Addr} {od23 an23 : Option Addr} {sl23 : Array (Option Value)} {oc23 kV23 dc23 pm23 cd23 ct23 : Value}
    {yt_MOST_ITEMS : Tok}
    {yt_MOST_MANY : Tok}
    {yt_MOST_PIECES : Tok}
    (a1 : PySem.W.nsIn K mainGlobals "is_count" = some (some (.ref f1)))
    (l1 : K.lookup f1 = some ⟨oc1, od1, .func (PySem.W.fnOf "is_count" "is_count" (defArgs s_is_count) (defBody s_is_count) (defScope s_is_count) (.ref T1) kV1 dc1 pm1 an1 cd1 ct1), sl1⟩)
    (t1 : K.lookup T1 = some ⟨cT1, dT1, .seq (List.toArray [.int 0 tk1_0]) nT1, sT1⟩)
    (c1 : PySem.W.codeIn K cd1 "is_count" = true)
    (k1 : PySem.W.keepIn K (.ref f1) = true)
    (a2 : PySem.W.nsIn K mainGlobals "are_counts" = some (some (.ref f2)))
    (l2 : K.lookup f2 = some ⟨oc2, od2, .func (PySem.W.fnOf "are_counts" "are_counts" (defArgs s_are_counts) (defBody s_are_counts) (defScope s_are_counts) .none kV2 dc2 pm2 an2 cd2 ct2), sl2⟩)
    (c2 : PySem.W.codeIn K cd2 "are_counts" = true)
    (k2 : PySem.W.keepIn K (.ref f2) = true)
    (a3 : PySem.W.nsIn K mainGlobals "is_table" = some (some (.ref f3)))
    (l3 : K.lookup f3 = some ⟨oc3, od3, .func (PySem.W.fnOf "is_table" "is_table" (defArgs s_is_table) (defBody s_is_table) (defScope s_is_table) .none kV3 dc3 pm3 an3 cd3 ct3), sl3⟩)
    (c3 : PySem.W.codeIn K cd3 "is_table" = true)
    (k3 : PySem.W.keepIn K (.ref f3) = true)
    (a4 : PySem.W.nsIn K mainGlobals "is_state" = some (some (.ref f4)))
    (l4 : K.lookup f4 = some ⟨oc4, od4, .func (PySem.W.fnOf "is_state" "is_state" (defArgs s_is_state) (defBody s_is_state) (defScope s_is_state) .none kV4 dc4 pm4 an4 cd4 ct4), sl4⟩)
    (c4 : PySem.W.codeIn K cd4 "is_state" = true)
    (k4 : PySem.W.keepIn K (.ref f4) = true)
    (a5 : PySem.W.nsIn K mainGlobals "is_model" = some (some (.ref f5)))
    (l5 : K.lookup f5 = some ⟨oc5, od5, .func (PySem.W.fnOf "is_model" "is_model" (defArgs s_is_model) (defBody s_is_model) (defScope s_is_model) .none kV5 dc5 pm5 an5 cd5 ct5), sl5⟩)
    (c5 : PySem.W.codeIn K cd5 "is_model" = true)
    (k5 : PySem.W.keepIn K (.ref f5) = true)
    (a6 : PySem.W.nsIn K mainGlobals "is_between" = some (some (.ref f6)))
    (l6 : K.lookup f6 = some ⟨oc6, od6, .func (PySem.W.fnOf "is_between" "is_between" (defArgs s_is_between) (defBody s_is_between) (defScope s_is_between) .none kV6 dc6 pm6 an6 cd6 ct6), sl6⟩)
    (c6 : PySem.W.codeIn K cd6 "is_between" = true)
    (k6 : PySem.W.keepIn K (.ref f6) = true)
    (a7 : PySem.W.nsIn K mainGlobals "setting_let" = some (some (.ref f7)))
    (l7 : K.lookup f7 = some ⟨oc7, od7, .func (PySem.W.fnOf "setting_let" "setting_let" (defArgs s_setting_let) (defBody s_setting_let) (defScope s_setting_let) .none kV7 dc7 pm7 an7 cd7 ct7), sl7⟩)
    (c7 : PySem.W.codeIn K cd7 "setting_let" = true)
    (k7 : PySem.W.keepIn K (.ref f7) = true)
    (a8 : PySem.W.nsIn K mainGlobals "is_setting" = some (some (.ref f8)))
    (l8 : K.lookup f8 = some ⟨oc8, od8, .func (PySem.W.fnOf "is_setting" "is_setting" (defArgs s_is_setting) (defBody s_is_setting) (defScope s_is_setting) .none kV8 dc8 pm8 an8 cd8 ct8), sl8⟩)
    (c8 : PySem.W.codeIn K cd8 "is_setting" = true)
    (k8 : PySem.W.keepIn K (.ref f8) = true)
    (a9 : PySem.W.nsIn K mainGlobals "_law_hash" = some (some (.ref f9)))
    (l9 : K.lookup f9 = some ⟨oc9, od9, .func (PySem.W.fnOf "_law_hash" "_law_hash" (defArgs s__law_hash) (defBody s__law_hash) (defScope s__law_hash) .none kV9 dc9 pm9 an9 cd9 ct9), sl9⟩)
    (c9 : PySem.W.codeIn K cd9 "_law_hash" = true)
    (k9 : PySem.W.keepIn K (.ref f9) = true)
    (a10 : PySem.W.nsIn K mainGlobals "_law_random" = some (some (.ref f10)))
    (l10 : K.lookup f10 = some ⟨oc10, od10, .func (PySem.W.fnOf "_law_random" "_law_random" (defArgs s__law_random) (defBody s__law_random) (defScope s__law_random) .none kV10 dc10 pm10 an10 cd10 ct10), sl10⟩)
    (c10 : PySem.W.codeIn K cd10 "_law_random" = true)
    (k10 : PySem.W.keepIn K (.ref f10) = true)
    (a11 : PySem.W.nsIn K mainGlobals "_law_cell" = some (some (.ref f11)))
    (l11 : K.lookup f11 = some ⟨oc11, od11, .func (PySem.W.fnOf "_law_cell" "_law_cell" (defArgs s__law_cell) (defBody s__law_cell) (defScope s__law_cell) .none kV11 dc11 pm11 an11 cd11 ct11), sl11⟩)
    (c11 : PySem.W.codeIn K cd11 "_law_cell" = true)
    (k11 : PySem.W.keepIn K (.ref f11) = true)
    (a12 : PySem.W.nsIn K mainGlobals "_law_generator" = some (some (.ref f12)))
    (l12 : K.lookup f12 = some ⟨oc12, od12, .func (PySem.W.fnOf "_law_generator" "_law_generator" (defArgs s__law_generator) (defBody s__law_generator) (defScope s__law_generator) .none kV12 dc12 pm12 an12 cd12 ct12), sl12⟩)
    (c12 : PySem.W.codeIn K cd12 "_law_generator" = true)
    (k12 : PySem.W.keepIn K (.ref f12) = true)
    (a13 : PySem.W.nsIn K mainGlobals "_law_pick" = some (some (.ref f13)))
    (l13 : K.lookup f13 = some ⟨oc13, od13, .func (PySem.W.fnOf "_law_pick" "_law_pick" (defArgs s__law_pick) (defBody s__law_pick) (defScope s__law_pick) .none kV13 dc13 pm13 an13 cd13 ct13), sl13⟩)
    (c13 : PySem.W.codeIn K cd13 "_law_pick" = true)
    (k13 : PySem.W.keepIn K (.ref f13) = true)
    (a14 : PySem.W.nsIn K mainGlobals "_law_model" = some (some (.ref f14)))
    (l14 : K.lookup f14 = some ⟨oc14, od14, .func (PySem.W.fnOf "_law_model" "_law_model" (defArgs s__law_model) (defBody s__law_model) (defScope s__law_model) .none kV14 dc14 pm14 an14 cd14 ct14), sl14⟩)
    (c14 : PySem.W.codeIn K cd14 "_law_model" = true)
    (k14 : PySem.W.keepIn K (.ref f14) = true)
    (a15 : PySem.W.nsIn K mainGlobals "_law_setting" = some (some (.ref f15)))
    (l15 : K.lookup f15 = some ⟨oc15, od15, .func (PySem.W.fnOf "_law_setting" "_law_setting" (defArgs s__law_setting) (defBody s__law_setting) (defScope s__law_setting) .none kV15 dc15 pm15 an15 cd15 ct15), sl15⟩)
    (c15 : PySem.W.codeIn K cd15 "_law_setting" = true)
    (k15 : PySem.W.keepIn K (.ref f15) = true)
    (a16 : PySem.W.nsIn K mainGlobals "_law_is_between" = some (some (.ref f16)))
    (l16 : K.lookup f16 = some ⟨oc16, od16, .func (PySem.W.fnOf "_law_is_between" "_law_is_between" (defArgs s__law_is_between) (defBody s__law_is_between) (defScope s__law_is_between) .none kV16 dc16 pm16 an16 cd16 ct16), sl16⟩)
    (c16 : PySem.W.codeIn K cd16 "_law_is_between" = true)
    (k16 : PySem.W.keepIn K (.ref f16) = true)
    (a17 : PySem.W.nsIn K mainGlobals "_law_is_state" = some (some (.ref f17)))
    (l17 : K.lookup f17 = some ⟨oc17, od17, .func (PySem.W.fnOf "_law_is_state" "_law_is_state" (defArgs s__law_is_state) (defBody s__law_is_state) (defScope s__law_is_state) .none kV17 dc17 pm17 an17 cd17 ct17), sl17⟩)
    (c17 : PySem.W.codeIn K cd17 "_law_is_state" = true)
    (k17 : PySem.W.keepIn K (.ref f17) = true)
    (a18 : PySem.W.nsIn K mainGlobals "_law_is_model" = some (some (.ref f18)))
    (l18 : K.lookup f18 = some ⟨oc18, od18, .func (PySem.W.fnOf "_law_is_model" "_law_is_model" (defArgs s__law_is_model) (defBody s__law_is_model) (defScope s__law_is_model) .none kV18 dc18 pm18 an18 cd18 ct18), sl18⟩)
    (c18 : PySem.W.codeIn K cd18 "_law_is_model" = true)
    (k18 : PySem.W.keepIn K (.ref f18) = true)
    (a19 : PySem.W.nsIn K mainGlobals "_law_is_setting" = some (some (.ref f19)))
    (l19 : K.lookup f19 = some ⟨oc19, od19, .func (PySem.W.fnOf "_law_is_setting" "_law_is_setting" (defArgs s__law_is_setting) (defBody s__law_is_setting) (defScope s__law_is_setting) .none kV19 dc19 pm19 an19 cd19 ct19), sl19⟩)
    (c19 : PySem.W.codeIn K cd19 "_law_is_setting" = true)
    (k19 : PySem.W.keepIn K (.ref f19) = true)
    (a20 : PySem.W.nsIn K mainGlobals "_law_bent_state" = some (some (.ref f20)))
    (l20 : K.lookup f20 = some ⟨oc20, od20, .func (PySem.W.fnOf "_law_bent_state" "_law_bent_state" (defArgs s__law_bent_state) (defBody s__law_bent_state) (defScope s__law_bent_state) .none kV20 dc20 pm20 an20 cd20 ct20), sl20⟩)
    (c20 : PySem.W.codeIn K cd20 "_law_bent_state" = true)
    (k20 : PySem.W.keepIn K (.ref f20) = true)
    (a21 : PySem.W.nsIn K mainGlobals "_law_bent_model" = some (some (.ref f21)))
    (l21 : K.lookup f21 = some ⟨oc21, od21, .func (PySem.W.fnOf "_law_bent_model" "_law_bent_model" (defArgs s__law_bent_model) (defBody s__law_bent_model) (defScope s__law_bent_model) .none kV21 dc21 pm21 an21 cd21 ct21), sl21⟩)
    (c21 : PySem.W.codeIn K cd21 "_law_bent_model" = true)
    (k21 : PySem.W.keepIn K (.ref f21) = true)
    (a22 : PySem.W.nsIn K mainGlobals "_law_odd_setting" = some (some (.ref f22)))
    (l22 : K.lookup f22 = some ⟨oc22, od22, .func (PySem.W.fnOf "_law_odd_setting" "_law_odd_setting" (defArgs s__law_odd_setting) (defBody s__law_odd_setting) (defScope s__law_odd_setting) .none kV22 dc22 pm22 an22 cd22 ct22), sl22⟩)
    (c22 : PySem.W.codeIn K cd22 "_law_odd_setting" = true)
    (k22 : PySem.W.keepIn K (.ref f22) = true)
    (a23 : PySem.W.nsIn K mainGlobals "law" = some (some (.ref f23)))
    (l23 : K.lookup f23 = some ⟨oc23, od23, .func (PySem.W.fnOf "law" "law" (defArgs s_law) (defBody s_law) (defScope s_law) .none kV23 dc23 pm23 an23 cd23 ct23), sl23⟩)
    (c23 : PySem.W.codeIn K cd23 "law" = true)
    (k23 : PySem.W.keepIn K (.ref f23) = true)
    (z_all : PySem.W.nsIn K mainGlobals "all" = some none)
    (z_bool : PySem.W.nsIn K mainGlobals "bool" = some none)
    (z_int : PySem.W.nsIn K mainGlobals "int" = some none)
    (z_isinstance : PySem.W.nsIn K mainGlobals "isinstance" = some none)
    (z_len : PySem.W.nsIn K mainGlobals "len" = some none)
    (z_list : PySem.W.nsIn K mainGlobals "list" = some none)
    (z_max : PySem.W.nsIn K mainGlobals "max" = some none)
    (z_range : PySem.W.nsIn K mainGlobals "range" = some none)
    (z_repr : PySem.W.nsIn K mainGlobals "repr" = some none)
    (z_str : PySem.W.nsIn K mainGlobals "str" = some none)
    (z_sum : PySem.W.nsIn K mainGlobals "sum" = some none)
    (z_tuple : PySem.W.nsIn K mainGlobals "tuple" = some none)
    (z_zip : PySem.W.nsIn K mainGlobals "zip" = some none)
    (y_MOST_ITEMS : PySem.W.nsIn K mainGlobals "MOST_ITEMS" = some (some (.int 4 yt_MOST_ITEMS)))
    (y_MOST_MANY : PySem.W.nsIn K mainGlobals "MOST_MANY" = some (some (.int 4 yt_MOST_MANY)))
    (y_MOST_PIECES : PySem.W.nsIn K mainGlobals "MOST_PIECES" = some (some (.int 40 yt_MOST_PIECES))) : ∃ T : Tx K mg, ∃ (kV dc pm : Value) (an : Option Addr) (cd ct : Value), T.d_law = PySem.W.fnOf "law" "law" (defArgs s_law) (defBody s_law) (defScope s_law) .none kV dc pm an cd ct := by
  have F1 := funD_mk (st := s_is_count) (dvs := [V.int 0]) l1 c1 k1 t1 (by simp) (.cons (show RelV _ _ from ⟨_, rfl⟩) (.nil))
  have F2 := fun_mk (st := s_are_counts) l2 c2 k2
  have F3 := fun_mk (st := s_is_table) l3 c3 k3
  have F4 := fun_mk (st := s_is_state) l4 c4 k4
  have F5 := fun_mk (st := s_is_model) l5 c5 k5
  have F6 := fun_mk (st := s_is_between) l6 c6 k6
  have F7 := fun_mk (st := s_setting_let) l7 c7 k7
  have F8 := fun_mk (st := s_is_setting) l8 c8 k8
  have F9 := fun_mk (st := s__law_hash) l9 c9 k9
  have F10 := fun_mk (st := s__law_random) l10 c10 k10
  have F11 := fun_mk (st := s__law_cell) l11 c11 k11
  have F12 := fun_mk (st := s__law_generator) l12 c12 k12
  have F13 := fun_mk (st := s__law_pick) l13 c13 k13
  have F14 := fun_mk (st := s__law_model) l14 c14 k14
  have F15 := fun_mk (st := s__law_setting) l15 c15 k15
  have F16 := fun_mk (st := s__law_is_between) l16 c16 k16
  have F17 := fun_mk (st := s__law_is_state) l17 c17 k17
  have F18 := fun_mk (st := s__law_is_model) l18 c18 k18
  have F19 := fun_mk (st := s__law_is_setting) l19 c19 k19
  have F20 := fun_mk (st := s__law_bent_state) l20 c20 k20
  have F21 := fun_mk (st := s__law_bent_model) l21 c21 k21
  have F22 := fun_mk (st := s__law_odd_setting) l22 c22 k22
  have F23 := fun_mk (st := s_law) l23 c23 k23
  exact ⟨{
    f_is_count := f1
    d_is_count := _
    F_is_count := F1
    g_is_count := PySem.W.mg_of X G a1
    ds1_is_count := [.int 0 tk1_0]
    v1_is_count := .cons (show RelV _ _ from ⟨_, rfl⟩) (.nil)
    b1_is_count := funD_b (T := T1) (its := [.int 0 tk1_0]) t1 1 rfl rfl fun us hl => match us, hl with | [_], _ => ⟨_, rfl, rfl⟩
    b2_is_count := funD_b (T := T1) (its := [.int 0 tk1_0]) t1 2 rfl rfl fun us hl => match us, hl with | [_, _], _ => ⟨_, rfl, rfl⟩
    f_are_counts := f2
    d_are_counts := _
    F_are_counts := F2
    g_are_counts := PySem.W.mg_of X G a2
    b1_are_counts := fun_b F2 fun _ _ _ _ _ _ us hl => match us, hl with | [_], _ => rfl
    f_is_table := f3
    d_is_table := _
    F_is_table := F3
    g_is_table := PySem.W.mg_of X G a3
    b1_is_table := fun_b F3 fun _ _ _ _ _ _ us hl => match us, hl with | [_], _ => rfl
    f_is_state := f4
    d_is_state := _
    F_is_state := F4
    g_is_state := PySem.W.mg_of X G a4
    b3_is_state := fun_b F4 fun _ _ _ _ _ _ us hl => match us, hl with | [_, _, _], _ => rfl
    f_is_model := f5
    d_is_model := _
    F_is_model := F5
    g_is_model := PySem.W.mg_of X G a5
    b1_is_model := fun_b F5 fun _ _ _ _ _ _ us hl => match us, hl with | [_], _ => rfl
    f_is_between := f6
    d_is_between := _
    F_is_between := F6
    g_is_between := PySem.W.mg_of X G a6
    b3_is_between := fun_b F6 fun _ _ _ _ _ _ us hl => match us, hl with | [_, _, _], _ => rfl
    f_setting_let := f7
    d_setting_let := _
    F_setting_let := F7
    g_setting_let := PySem.W.mg_of X G a7
    b1_setting_let := fun_b F7 fun _ _ _ _ _ _ us hl => match us, hl with | [_], _ => rfl
    f_is_setting := f8
    d_is_setting := _
    F_is_setting := F8
    g_is_setting := PySem.W.mg_of X G a8
    k0_value_is_setting := fun_kb F8 fun _ _ _ _ _ _ us ws h1 h2 => match us, ws, h1, h2 with | [], [_], _, _ => rfl
    b1_is_setting := fun_b F8 fun _ _ _ _ _ _ us hl => match us, hl with | [_], _ => rfl
    f__law_hash := f9
    d__law_hash := _
    F__law_hash := F9
    g__law_hash := PySem.W.mg_of X G a9
    b2__law_hash := fun_b F9 fun _ _ _ _ _ _ us hl => match us, hl with | [_, _], _ => rfl
    f__law_random := f10
    d__law_random := _
    F__law_random := F10
    g__law_random := PySem.W.mg_of X G a10
    b2__law_random := fun_b F10 fun _ _ _ _ _ _ us hl => match us, hl with | [_, _], _ => rfl
    f__law_cell := f11
    d__law_cell := _
    F__law_cell := F11
    g__law_cell := PySem.W.mg_of X G a11
    b2__law_cell := fun_b F11 fun _ _ _ _ _ _ us hl => match us, hl with | [_, _], _ => rfl
    f__law_generator := f12
    d__law_generator := _
    F__law_generator := F12
    g__law_generator := PySem.W.mg_of X G a12
    b2__law_generator := fun_b F12 fun _ _ _ _ _ _ us hl => match us, hl with | [_, _], _ => rfl
    f__law_pick := f13
    d__law_pick := _
    F__law_pick := F13
    g__law_pick := PySem.W.mg_of X G a13
    b2__law_pick := fun_b F13 fun _ _ _ _ _ _ us hl => match us, hl with | [_, _], _ => rfl
    f__law_model := f14
    d__law_model := _
    F__law_model := F14
    g__law_model := PySem.W.mg_of X G a14
    b3__law_model := fun_b F14 fun _ _ _ _ _ _ us hl => match us, hl with | [_, _, _], _ => rfl
    f__law_setting := f15
    d__law_setting := _
    F__law_setting := F15
    g__law_setting := PySem.W.mg_of X G a15
    b3__law_setting := fun_b F15 fun _ _ _ _ _ _ us hl => match us, hl with | [_, _, _], _ => rfl
    f__law_is_between := f16
    d__law_is_between := _
    F__law_is_between := F16
    g__law_is_between := PySem.W.mg_of X G a16
    b3__law_is_between := fun_b F16 fun _ _ _ _ _ _ us hl => match us, hl with | [_, _, _], _ => rfl
    f__law_is_state := f17
    d__law_is_state := _
    F__law_is_state := F17
    g__law_is_state := PySem.W.mg_of X G a17
    b3__law_is_state := fun_b F17 fun _ _ _ _ _ _ us hl => match us, hl with | [_, _, _], _ => rfl
    f__law_is_model := f18
    d__law_is_model := _
    F__law_is_model := F18
    g__law_is_model := PySem.W.mg_of X G a18
    b1__law_is_model := fun_b F18 fun _ _ _ _ _ _ us hl => match us, hl with | [_], _ => rfl
    f__law_is_setting := f19
    d__law_is_setting := _
    F__law_is_setting := F19
    g__law_is_setting := PySem.W.mg_of X G a19
    b1__law_is_setting := fun_b F19 fun _ _ _ _ _ _ us hl => match us, hl with | [_], _ => rfl
    f__law_bent_state := f20
    d__law_bent_state := _
    F__law_bent_state := F20
    g__law_bent_state := PySem.W.mg_of X G a20
    b3__law_bent_state := fun_b F20 fun _ _ _ _ _ _ us hl => match us, hl with | [_, _, _], _ => rfl
    f__law_bent_model := f21
    d__law_bent_model := _
    F__law_bent_model := F21
    g__law_bent_model := PySem.W.mg_of X G a21
    b2__law_bent_model := fun_b F21 fun _ _ _ _ _ _ us hl => match us, hl with | [_, _], _ => rfl
    f__law_odd_setting := f22
    d__law_odd_setting := _
    F__law_odd_setting := F22
    g__law_odd_setting := PySem.W.mg_of X G a22
    b2__law_odd_setting := fun_b F22 fun _ _ _ _ _ _ us hl => match us, hl with | [_, _], _ => rfl
    f_law := f23
    d_law := _
    F_law := F23
    g_law := PySem.W.mg_of X G a23
    n_all := PySem.W.mg_none_of X G z_all
    n_bool := PySem.W.mg_none_of X G z_bool
    n_int := PySem.W.mg_none_of X G z_int
    n_isinstance := PySem.W.mg_none_of X G z_isinstance
    n_len := PySem.W.mg_none_of X G z_len
    n_list := PySem.W.mg_none_of X G z_list
    n_max := PySem.W.mg_none_of X G z_max
    n_range := PySem.W.mg_none_of X G z_range
    n_repr := PySem.W.mg_none_of X G z_repr
    n_str := PySem.W.mg_none_of X G z_str
    n_sum := PySem.W.mg_none_of X G z_sum
    n_tuple := PySem.W.mg_none_of X G z_tuple
    n_zip := PySem.W.mg_none_of X G z_zip
    v_MOST_ITEMS := ⟨_, PySem.W.mg_of X G y_MOST_ITEMS⟩
    v_MOST_MANY := ⟨_, PySem.W.mg_of X G y_MOST_MANY⟩
    v_MOST_PIECES := ⟨_, PySem.W.mg_of X G y_MOST_PIECES⟩ }, _, _, _, _, _, _, rfl⟩
end K43
end

set_option Elab.async false
set_option linter.all false
namespace K43
open PySem PySem.Spec PyProof.Rows L2 DL
theorem walk {l : PySem.W.OpenLaw} {q : Program} {loose : List Str} {XP : (Str → Option Value) → Heap → Prop} {YP : World → Heap → Prop} {d : DefRec} {K : Params → PySem.W.Frag} (hn : l.most = some 63) (hdf : d.params.defaults = []) (hname : d.name = "law")
    (hY : ∀ (w : World) (h : Heap), YP w h → (K w.params).In h)
    (F : ∀ (w : World) (mg : Str → Option Value) (h : Heap), (K w.params).In h → h.Ns mainGlobals mg → ∃ T : Tx (K w.params) mg, ∃ (kV dc pm : Value) (an : Option Addr) (cd ct : Value), T.d_law = PySem.W.fnOf "law" "law" (defArgs s_law) (defBody s_law) (defScope s_law) .none kV dc pm an cd ct) :
    PySem.W.WalkO q loose XP YP l.row.toRowW d [] (fun f vs => PySem.call f vs) := by
  refine walkG (n := 63) (lv := 8) (x := "script") (sp := fun K => spD K 1 m_law) hn (by decide) hdf ⟨rfl, by decide, by decide⟩ hY (fun w mg fa h hK hG hfa => ?_) (fun K H a ns hl only sq => ?_)
  · obtain ⟨T, kV, dc, pm, an, cd, ct, hT⟩ := F w mg h hK hG
    rw [hname] at hfa
    have e := hfa.symm.trans T.g_law
    cases e
    exact ⟨T.d_law, fun s u => by rw [hT]; exact .of_eq rfl, fun base _ _ => ok_law T⟩
  · exact law_want only sq hl law_true
end K43
open PySem PySem.W PyProof.Rows in
set_option maxRecDepth 100000 in
set_option maxHeartbeats 0 in
theorem PySem.Challenge.cw_saidahead_k43_settings_judged_holds : PySem.Challenge.rw_saidahead_k43_settings_judged.Holds := by
  w_on; o_law; k_head; (case hw => w_witness2)
  k_fill
  refine K43.walk (l := PySem.Challenge.rw_saidahead_k43_settings_judged) rfl rfl rfl (fun w h Y => PySem.W.kIn_of Y) ?F
  case F =>
    intro w mg h KX G
    refine' K43.all_mk KX G ?a1 ?l1 ?t1 ?c1 ?k1 ?a2 ?l2 ?c2 ?k2 ?a3 ?l3 ?c3 ?k3 ?a4 ?l4 ?c4 ?k4 ?a5 ?l5 ?c5 ?k5 ?a6 ?l6 ?c6 ?k6 ?a7 ?l7 ?c7 ?k7 ?a8 ?l8 ?c8 ?k8 ?a9 ?l9 ?c9 ?k9 ?a10 ?l10 ?c10 ?k10 ?a11 ?l11 ?c11 ?k11 ?a12 ?l12 ?c12 ?k12 ?a13 ?l13 ?c13 ?k13 ?a14 ?l14 ?c14 ?k14 ?a15 ?l15 ?c15 ?k15 ?a16 ?l16 ?c16 ?k16 ?a17 ?l17 ?c17 ?k17 ?a18 ?l18 ?c18 ?k18 ?a19 ?l19 ?c19 ?k19 ?a20 ?l20 ?c20 ?k20 ?a21 ?l21 ?c21 ?k21 ?a22 ?l22 ?c22 ?k22 ?a23 ?l23 ?c23 ?k23 ?z_all ?z_bool ?z_int ?z_isinstance ?z_len ?z_list ?z_max ?z_range ?z_repr ?z_str ?z_sum ?z_tuple ?z_zip ?y_MOST_ITEMS ?y_MOST_MANY ?y_MOST_PIECES
    (case a1 => k_is)
    (case l1 => k_is)
    (case t1 => k_is)
    (case c1 => k_is)
    (case k1 => k_is)
    (case a2 => k_is)
    (case l2 => k_is)
    (case c2 => k_is)
    (case k2 => k_is)
    (case a3 => k_is)
    (case l3 => k_is)
    (case c3 => k_is)
    (case k3 => k_is)
    (case a4 => k_is)
    (case l4 => k_is)
    (case c4 => k_is)
    (case k4 => k_is)
    (case a5 => k_is)
    (case l5 => k_is)
    (case c5 => k_is)
    (case k5 => k_is)
    (case a6 => k_is)
    (case l6 => k_is)
    (case c6 => k_is)
    (case k6 => k_is)
    (case a7 => k_is)
    (case l7 => k_is)
    (case c7 => k_is)
    (case k7 => k_is)
    (case a8 => k_is)
    (case l8 => k_is)
    (case c8 => k_is)
    (case k8 => k_is)
    (case a9 => k_is)
    (case l9 => k_is)
    (case c9 => k_is)
    (case k9 => k_is)
    (case a10 => k_is)
    (case l10 => k_is)
    (case c10 => k_is)
    (case k10 => k_is)
    (case a11 => k_is)
    (case l11 => k_is)
    (case c11 => k_is)
    (case k11 => k_is)
    (case a12 => k_is)
    (case l12 => k_is)
    (case c12 => k_is)
    (case k12 => k_is)
    (case a13 => k_is)
    (case l13 => k_is)
    (case c13 => k_is)
    (case k13 => k_is)
    (case a14 => k_is)
    (case l14 => k_is)
    (case c14 => k_is)
    (case k14 => k_is)
    (case a15 => k_is)
    (case l15 => k_is)
    (case c15 => k_is)
    (case k15 => k_is)
    (case a16 => k_is)
    (case l16 => k_is)
    (case c16 => k_is)
    (case k16 => k_is)
    (case a17 => k_is)
    (case l17 => k_is)
    (case c17 => k_is)
    (case k17 => k_is)
    (case a18 => k_is)
    (case l18 => k_is)
    (case c18 => k_is)
    (case k18 => k_is)
    (case a19 => k_is)
    (case l19 => k_is)
    (case c19 => k_is)
    (case k19 => k_is)
    (case a20 => k_is)
    (case l20 => k_is)
    (case c20 => k_is)
    (case k20 => k_is)
    (case a21 => k_is)
    (case l21 => k_is)
    (case c21 => k_is)
    (case k21 => k_is)
    (case a22 => k_is)
    (case l22 => k_is)
    (case c22 => k_is)
    (case k22 => k_is)
    (case a23 => k_is)
    (case l23 => k_is)
    (case c23 => k_is)
    (case k23 => k_is)
    (case z_all => k_is)
    (case z_bool => k_is)
    (case z_int => k_is)
    (case z_isinstance => k_is)
    (case z_len => k_is)
    (case z_list => k_is)
    (case z_max => k_is)
    (case z_range => k_is)
    (case z_repr => k_is)
    (case z_str => k_is)
    (case z_sum => k_is)
    (case z_tuple => k_is)
    (case z_zip => k_is)
    (case y_MOST_ITEMS => k_is)
    (case y_MOST_MANY => k_is)
    (case y_MOST_PIECES => k_is)
