import PyProof.Rows.All
import KE.DataEq
import KE.SortData
import Wide.All
import OpenK.AllK
import Wide.FinOn
import HandS.ForMost
import HandS.IsInst
import HandS.Wide
import HandS.Style
import HandS.Zip
import HandS.Walk
import HandS.Deep
import HandS.Defaults
import HandS.WideBits
import HandS.TupAny
import HandS.Conv
import HandS.SetFor
import PyProof.ReprBulk
import PyProof.FitsInt
import PySem.Challenge.RW_saidahead_k33_whole_chains
section
set_option linter.all false
/-! DLcore: the data layer, plain: values as data, the meaning of a def's body as a function of slots. -/
namespace DL
open PySem
abbrev D := PyData

/-- what a slot holds: data that nobody changes any more, a list of one's own, a list lent by the caller to be changed -/
inductive SV where
  | d (x : D) | own (xs : List D) | lent (xs : List D)
abbrev DSt := List (Option SV)
/-- an expression's value: data, a new list, the list in a slot -/
inductive Rv where
  | d (x : D) | tmp (xs : List D) | sl (i : Nat)
/-- what a def hands back -/
inductive Rt where
  | d (x : D) | own (xs : List D)
/-- what a def is handed -/
inductive Ar where
  | d (x : D) | m (xs : List D)
inductive Fl where
  | nx | bk | ct | rt (r : Rt)
abbrev DE := DSt → Option (Rv × DSt)
abbrev DT := DSt → Option (Bool × DSt)
abbrev DA := DSt → Option (List Rv × DSt)
abbrev DO := DSt → Option (Option Int × DSt)
abbrev DS := DSt → Option (Fl × DSt)
/-- a walked thing: its items -/
abbrev DI := DSt → Option (List D × DSt)
/-- a target: the item is stored -/
abbrev DG := D → DSt → Option DSt
abbrev Fn := List Ar → Option (Rt × List (List D))

def lookS : Option SV → Option D
  | some (.d x) => some x
  | some (.own xs) => some (.list xs)
  | some (.lent xs) => some (.list xs)
  | none => none
def look (st : DSt) : Rv → Option D
  | .d x => some x
  | .tmp xs => some (.list xs)
  | .sl i => lookS (st.getD i none)
def looks (st : DSt) : List Rv → Option (List D)
  | [] => some []
  | r :: rs => (look st r).bind fun x => (looks st rs).bind fun xs => some (x :: xs)
/-- a value given away: it is changed no more -/
def toD (st : DSt) : Rv → Option (D × DSt)
  | .d x => some (x, st)
  | .tmp xs => some (.list xs, st)
  | .sl i => match st.getD i none with
    | some (.d x) => some (x, st)
    | some (.own xs) => some (.list xs, st.set i (some (.d (.list xs))))
    | _ => none
def toDs (st : DSt) : List Rv → Option (List D × DSt)
  | [] => some ([], st)
  | r :: rs => (toD st r).bind fun p => (toDs p.2 rs).bind fun q => some (p.1 :: q.1, q.2)

/-! ### expressions -/
def dVar (i : Nat) : DE := fun st => match st.getD i none with
  | some (.d x) => some (.d x, st)
  | some (.own _) => some (.sl i, st)
  | some (.lent _) => some (.sl i, st)
  | none => none
def dC (x : D) : DE := fun st => some (.d x, st)
def dNil : DA := fun st => some ([], st)
def dCons (f : DE) (g : DA) : DA := fun st => (f st).bind fun p => (g p.2).bind fun q => some (p.1 :: q.1, q.2)
def dOp2 (op : D → D → Option Rv) (f g : DE) : DE := fun st => (f st).bind fun p => (g p.2).bind fun q =>
  (look q.2 p.1).bind fun x => (look q.2 q.1).bind fun y => (op x y).bind fun z => some (z, q.2)
def dOp1 (op : D → Option Rv) (f : DE) : DE := fun st => (f st).bind fun p => (look p.2 p.1).bind fun x => (op x).bind fun z => some (z, p.2)
def dCallB (op : List D → Option Rv) (f : DA) : DE := fun st => (f st).bind fun p => (looks p.2 p.1).bind fun xs => (op xs).bind fun z => some (z, p.2)
def dSlice (op : D → Option Int → Option Int → Option Rv) (f : DE) (lo hi : DO) : DE := fun st => (f st).bind fun p => (lo p.2).bind fun l => (hi l.2).bind fun h =>
  (look h.2 p.1).bind fun x => (op x l.1 h.1).bind fun z => some (z, h.2)
def dNoPart : DO := fun st => some (none, st)
def dPart (f : DE) : DO := fun st => (f st).bind fun p => match look p.2 p.1 with
  | some (.int i) => some (some i, p.2)
  | _ => none
def dList (f : DA) : DE := fun st => (f st).bind fun p => (toDs p.2 p.1).bind fun q => if q.1.length ≤ sizeLine then some (.tmp q.1, q.2) else none
def dTup (f : DA) : DE := fun st => (f st).bind fun p => (toDs p.2 p.1).bind fun q => if q.1.length ≤ sizeLine then some (.d (.tuple q.1), q.2) else none
def asB : D → Option Bool
  | .bool b => some b
  | _ => none
/-- a test whose value is a bool -/
def dTest (f : DE) : DT := fun st => (f st).bind fun p => match look p.2 p.1 with
  | some (.bool b) => some (b, p.2)
  | _ => none
def dNot (f : DT) : DT := fun st => (f st).bind fun p => some (!p.1, p.2)
def dAnd (f g : DT) : DT := fun st => (f st).bind fun p => if p.1 = true then g p.2 else some (false, p.2)
def dOr (f g : DT) : DT := fun st => (f st).bind fun p => if p.1 = true then some (true, p.2) else g p.2
/-- as values: all but the last are bools -/
def dAndV (f g : DE) : DE := fun st => (f st).bind fun p => match look p.2 p.1 with
  | some (.bool b) => if b = true then g p.2 else some (.d (.bool false), p.2)
  | _ => none
def dOrV (f g : DE) : DE := fun st => (f st).bind fun p => match look p.2 p.1 with
  | some (.bool b) => if b = true then some (.d (.bool true), p.2) else g p.2
  | _ => none
def dNotV (f : DE) : DE := fun st => (f st).bind fun p => match look p.2 p.1 with
  | some (.bool b) => some (.d (.bool (!b)), p.2)
  | _ => none
def dIf (t : DT) (f g : DE) : DE := fun st => (t st).bind fun p => if p.1 = true then f p.2 else g p.2

/-! ### calls of defs -/
/-- data arguments are given away; lent ones are slots -/
def marsh (st : DSt) : List (Rv × Bool) → Option (List (Sum D Nat) × DSt)
  | [] => some ([], st)
  | (r, false) :: rs => (toD st r).bind fun p => (marsh p.2 rs).bind fun q => some (.inl p.1 :: q.1, q.2)
  | (.sl i, true) :: rs => (marsh st rs).bind fun q => some (.inr i :: q.1, q.2)
  | (_, true) :: _ => none
def lentAt (st : DSt) : Sum D Nat → Option Ar
  | .inl x => some (.d x)
  | .inr i => match st.getD i none with
    | some (.own xs) => some (.m xs)
    | some (.lent xs) => some (.m xs)
    | _ => none
def lents (st : DSt) : List (Sum D Nat) → Option (List Ar)
  | [] => some []
  | a :: r => (lentAt st a).bind fun x => (lents st r).bind fun xs => some (x :: xs)
def lentIx : List (Sum D Nat) → List Nat
  | [] => []
  | .inl _ :: r => lentIx r
  | .inr i :: r => i :: lentIx r
def putBack (st : DSt) : List Nat → List (List D) → Option DSt
  | [], [] => some st
  | i :: is, xs :: r => match st.getD i none with
    | some (.own _) => putBack (st.set i (some (.own xs))) is r
    | some (.lent _) => putBack (st.set i (some (.lent xs))) is r
    | _ => none
  | _, _ => none
def rvOf : Rt → Rv
  | .d x => .d x
  | .own xs => .tmp xs
/-- f(e, ..): modes: which arguments are lent; more: the defaults -/
def dCall (g : Fn) (modes : List Bool) (more : List D) (f : DA) : DE := fun st => (f st).bind fun p =>
  (marsh p.2 (p.1.zip modes)).bind fun q => if (lentIx q.1).length ≤ 1 ∧ p.1.length = modes.length then
    (lents q.2 q.1).bind fun as => (g (as ++ more.map Ar.d)).bind fun r => (putBack q.2 (lentIx q.1) r.2).bind fun st' => some (rvOf r.1, st')
  else none
def permute {α : Type} (perm : List Nat) (xs : List α) : List α := perm.filterMap fun i => xs[i]?
/-- f(e, .., k = v, ..): n positional ones, m named ones, more: the defaults; perm brings them to the parameters' order; none is lent -/
def dCallK (g : Fn) (n m : Nat) (perm : List Nat) (more : List D) (f f2 : DA) : DE := fun st => (f st).bind fun p => (f2 p.2).bind fun p2 =>
  (toDs p2.2 (p.1 ++ p2.1)).bind fun q => if p.1.length = n ∧ p2.1.length = m then
    (g ((permute perm (q.1 ++ more)).map Ar.d)).bind fun r => some (rvOf r.1, q.2)
  else none

/-! ### walked things -/
def dIter (op : D → Option (List D)) (f : DE) : DI := fun st => (f st).bind fun p => (toD p.2 p.1).bind fun q => (op q.1).bind fun xs => some (xs, q.2)
def dIterA (op : List D → Option (List D)) (f : DA) : DI := fun st => (f st).bind fun p => (toDs p.2 p.1).bind fun q => (op q.1).bind fun xs => some (xs, q.2)

/-! ### targets -/
def setS (st : DSt) (i : Nat) (v : SV) : Option DSt := match st.getD i none with
  | some (.lent _) => none
  | _ => if i < st.length then some (st.set i (some v)) else none
def gName (i : Nat) : DG := fun x st => setS st i (.d x)
abbrev DGs := List D → DSt → Option DSt
def gNil : DGs := fun xs st => match xs with
  | [] => some st
  | _ => none
def gCons (g : DG) (h : DGs) : DGs := fun xs st => match xs with
  | x :: r => (g x st).bind fun st' => h r st'
  | _ => none
def gTup (n : Nat) (h : DGs) : DG := fun x st => match x with
  | .tuple xs => if xs.length = n then h xs st else none
  | _ => none

/-! ### comprehensions -/
def wipeD (st : DSt) : List Nat → DSt
  | [] => st
  | v :: vs => (wipeD st vs).set v none
/-- the block's own slots are empty ahead; a turn: the target, the tests, the element -/
def lcGo (g : DG) (t : DT) (e : DE) (vs : List Nat) : List D → DSt → Option (List D × DSt)
  | [], st => some ([], st)
  | x :: xs, st => (g x st).bind fun s1 => (t s1).bind fun p => if p.1 = true then
      (e p.2).bind fun q => (toD q.2 q.1).bind fun r => (lcGo g t e vs xs (wipeD r.2 vs)).bind fun w => some (r.1 :: w.1, w.2)
    else lcGo g t e vs xs (wipeD p.2 vs)
/-- the slots as they stood ahead -/
def refill (s0 st : DSt) : List Nat → DSt
  | [] => st
  | v :: vs => (refill s0 st vs).set v (s0.getD v none)
def dLc (it : DI) (g : DG) (t : DT) (e : DE) (vs : List Nat) : DE := fun st => (it st).bind fun p =>
  if p.1.length ≤ sizeLine ∧ vs.all (fun i => match p.2.getD i none with | none => true | some (.d _) => true | _ => false) = true then
    (lcGo g t e vs p.1 (wipeD p.2 vs)).bind fun q => some (.tmp q.1, refill p.2 q.2 vs)
  else none
def dTests : DT := fun st => some (true, st)
def dTests1 (t : DT) : DT := t

/-! ### statements -/
def dNext : DS := fun st => some (.nx, st)
def dSeq (f g : DS) : DS := fun st => (f st).bind fun p => match p.1 with
  | .nx => g p.2
  | _ => some p
def dBreak : DS := fun st => some (.bk, st)
def dCont : DS := fun st => some (.ct, st)
def dNever : DS := fun _ => none
/-- x = e -/
def dSet (i : Nat) (f : DE) : DS := fun st => (f st).bind fun p => match p.1 with
  | .tmp xs => (setS p.2 i (.own xs)).bind fun s => some (.nx, s)
  | r => (toD p.2 r).bind fun q => (setS q.2 i (.d q.1)).bind fun s => some (.nx, s)
/-- target = e, a tuple of targets -/
def dAsg (g : DG) (f : DE) : DS := fun st => (f st).bind fun p => (toD p.2 p.1).bind fun q => (g q.1 q.2).bind fun s => some (.nx, s)
/-- a, b = e1, e2: no tuple -/
def dPar (is : List Nat) (f : DA) : DS := fun st => (f st).bind fun p => (toDs p.2 p.1).bind fun q => (parGo is q.1 q.2).bind fun s => some (.nx, s)
where parGo : List Nat → List D → DSt → Option DSt
  | [], [], st => some st
  | i :: is, x :: xs, st => (setS st i (.d x)).bind fun s => parGo is xs s
  | _, _, _ => none
/-- x op= e -/
def dAug (op : D → D → Option Rv) (i : Nat) (f : DE) : DS := fun st => (dVar i st).bind fun v => (f v.2).bind fun p =>
  match v.1 with
  | .d x => (look p.2 p.1).bind fun y => match op x y with
    | some (.d z) => (setS p.2 i (.d z)).bind fun s => some (.nx, s)
    | _ => none
  | _ => none
/-- a list at a slot is changed -/
def putL (st : DSt) (i : Nat) (xs : List D) : Option DSt := match st.getD i none with
  | some (.own _) => some (st.set i (some (.own xs)))
  | some (.lent _) => some (st.set i (some (.lent xs)))
  | _ => none
def getL (st : DSt) (i : Nat) : Option (List D) := match st.getD i none with
  | some (.own xs) => some xs
  | some (.lent xs) => some xs
  | _ => none
/-- xs.append(e) -/
def dAppend (i : Nat) (f : DE) : DS := fun st => (getL st i).bind fun _ => (f st).bind fun p => (toD p.2 p.1).bind fun q => (getL q.2 i).bind fun xs =>
  if xs.length < sizeLine then (putL q.2 i (xs ++ [q.1])).bind fun s => some (.nx, s) else none
def ixAt {α : Type} (xs : List α) (i : Int) : Option Nat := if 0 ≤ i then (if i < xs.length then some i.toNat else none) else if -(xs.length : Int) ≤ i then some (i + xs.length).toNat else none
/-- xs[k] = e -/
def dSetIx (i : Nat) (k f : DE) : DS := fun st => (f st).bind fun p => (toD p.2 p.1).bind fun q => (getL q.2 i).bind fun _ => (k q.2).bind fun r => match look r.2 r.1 with
  | some (.int j) => (getL r.2 i).bind fun xs => (ixAt xs j).bind fun n => (putL r.2 i (xs.set n q.1)).bind fun s => some (.nx, s)
  | _ => none
/-- xs[k] op= e -/
def dAugIx (op : D → D → Option Rv) (i : Nat) (k f : DE) : DS := fun st => (getL st i).bind fun _ => (k st).bind fun r => match look r.2 r.1 with
  | some (.int j) => (getL r.2 i).bind fun xs => (ixAt xs j).bind fun n => (xs[n]?).bind fun x => (f r.2).bind fun p => (look p.2 p.1).bind fun y =>
    match op x y with
    | some (.d z) => (getL p.2 i).bind fun ys => (ixAt ys j).bind fun n' => (putL p.2 i (ys.set n' z)).bind fun s => some (.nx, s)
    | _ => none
  | _ => none
def dDrop (f : DE) : DS := fun st => (f st).bind fun p => some (.nx, p.2)
def dRet (f : DE) : DS := fun st => (f st).bind fun p => match p.1 with
  | .d x => some (.rt (.d x), p.2)
  | .tmp xs => some (.rt (.own xs), p.2)
  | .sl i => match p.2.getD i none with
    | some (.d x) => some (.rt (.d x), p.2)
    | some (.own xs) => some (.rt (.own xs), p.2.set i none)
    | _ => none
def dRetN : DS := fun st => some (.rt (.d .none), st)
def dIfS (t : DT) (f g : DS) : DS := fun st => (t st).bind fun p => if p.1 = true then f p.2 else g p.2
def forGo (g : DG) (b : DS) : List D → DSt → Option (Fl × DSt)
  | [], st => some (.nx, st)
  | x :: xs, st => (g x st).bind fun s => (b s).bind fun p => match p.1 with
    | .nx => forGo g b xs p.2
    | .ct => forGo g b xs p.2
    | .bk => some (.nx, p.2)
    | .rt r => some (.rt r, p.2)
def dFor (it : DI) (g : DG) (b : DS) : DS := fun st => (it st).bind fun p => forGo g b p.1 p.2
def whileN (t : DT) (b : DS) : Nat → DSt → Option (Fl × DSt)
  | 0, _ => none
  | n + 1, st => (t st).bind fun q => if q.1 = true then (b q.2).bind fun p => match p.1 with
      | .nx => whileN t b n p.2
      | .ct => whileN t b n p.2
      | .bk => some (.nx, p.2)
      | .rt r => some (.rt r, p.2)
    else some (.nx, q.2)
open Classical in
noncomputable def dWhile (t : DT) (b : DS) : DS := fun st => if h : ∃ n r, whileN t b n st = some r then some (choose (choose_spec h)) else none

/-! ### a def -/
def arS : Ar → SV
  | .d x => .d x
  | .m xs => .lent xs
def startD (n : Nat) (as : List Ar) : DSt := as.map (fun a => some (arS a)) ++ List.replicate (n - as.length) none
/-- the lent lists behind the run -/
def outsGo (st : DSt) : List Ar → Nat → Option (List (List D))
  | [], _ => some []
  | .d _ :: r, i => outsGo st r (i + 1)
  | .m _ :: r, i => match st.getD i none with
    | some (.lent xs) => (outsGo st r (i + 1)).bind fun o => some (xs :: o)
    | _ => none
def run (n : Nat) (b : DS) : Fn := fun as => (b (startD n as)).bind fun p => (outsGo p.2 as 0).bind fun o => match p.1 with
  | .nx => some (.d .none, o)
  | .rt r => some (r, o)
  | _ => none

/-! ### what the operators make -/
def opAdd : D → D → Option Rv
  | .int i, .int j => some (.d (.int (i + j)))
  | .str a, .str b => if a.length + b.length ≤ sizeLine then some (.d (.str (a ++ b))) else none
  | .list xs, .list ys => if xs.length + ys.length ≤ sizeLine then some (.tmp (xs ++ ys)) else none
  | _, _ => none
/-- in place -/
def opAddI : D → D → Option Rv
  | .int i, .int j => some (.d (.int (i + j)))
  | _, _ => none
def opSub : D → D → Option Rv
  | .int i, .int j => some (.d (.int (i - j)))
  | _, _ => none
def opMul : D → D → Option Rv
  | .int i, .int j => if i.natAbs.log2 + j.natAbs.log2 < 1000000 then some (.d (.int (i * j))) else none
  | .list xs, .int k => if -(2 ^ 63) ≤ k ∧ k < 2 ^ 63 ∧ xs.length * k.toNat ≤ sizeLine then some (.tmp (List.replicate k.toNat xs).flatten) else none
  | _, _ => none
def opDiv : D → D → Option Rv
  | .int i, .int j => if 0 < j ∧ j.natAbs.log2 < 9000 then some (.d (.int (i / j))) else none
  | _, _ => none
def opMod : D → D → Option Rv
  | .int i, .int j => if 0 < j then some (.d (.int (i % j))) else none
  | _, _ => none
def opPow : D → D → Option Rv
  | .int i, .int j => if 0 ≤ j ∧ j ≤ 1000000 ∧ i.natAbs < 2 ^ 64 then some (.d (.int (i ^ j.toNat))) else none
  | _, _ => none
def opNeg : D → Option Rv
  | .int i => some (.d (.int (-i)))
  | _ => none
def opCmp (p : Int → Int → Bool) : D → D → Option Rv
  | .int i, .int j => some (.d (.bool (p i j)))
  | _, _ => none
def opLt : D → D → Option Rv := opCmp fun i j => decide (i < j)
def opLe : D → D → Option Rv := opCmp fun i j => decide (i ≤ j)
def opGt : D → D → Option Rv := opCmp fun i j => decide (j < i)
def opGe : D → D → Option Rv := opCmp fun i j => decide (j ≤ i)
/-- no dict within, not too deep: what == takes -/
def flat (x : D) : Bool := x.plain && decide (x.depth ≤ 64)
def opEq (x y : D) : Option Rv := if flat x = true ∧ flat y = true then some (.d (.bool (PyData.eqv x y))) else none
def opNe (x y : D) : Option Rv := if flat x = true ∧ flat y = true then some (.d (.bool (!PyData.eqv x y))) else none
/-- is, with None or a bool at the right -/
def isV : D → D → Option Bool
  | .none, .none => some true
  | _, .none => some false
  | .bool a, .bool b => some (a == b)
  | _, .bool _ => some false
  | _, _ => none
def opIs (x y : D) : Option Rv := (isV x y).bind fun b => some (.d (.bool b))
def opIsNot (x y : D) : Option Rv := (isV x y).bind fun b => some (.d (.bool (!b)))
def atomD : D → Bool
  | .none => true
  | .bool _ => true
  | .int _ => true
  | .str _ => true
  | _ => false
/-- x in ys, all of them atoms -/
def opInB (x : D) : D → Option Bool
  | .list ys => if atomD x = true ∧ ys.all atomD = true then some (ys.any fun y => PyData.eqv y x) else none
  | .tuple ys => if atomD x = true ∧ ys.all atomD = true then some (ys.any fun y => PyData.eqv y x) else none
  | _ => none
def opIn (x y : D) : Option Rv := (opInB x y).bind fun b => some (.d (.bool b))
def opNotIn (x y : D) : Option Rv := (opInB x y).bind fun b => some (.d (.bool (!b)))
def opIx : D → D → Option Rv
  | .list xs, .int i => (ixAt xs i).bind fun n => (xs[n]?).bind fun x => some (.d x)
  | .tuple xs, .int i => (ixAt xs i).bind fun n => (xs[n]?).bind fun x => some (.d x)
  | .str z, .int i => if z.length ≤ sizeLine then (ixAt z.cps.toList i).bind fun n => (z.cps.toList[n]?).bind fun c => some (.d (.str ⟨#[c]⟩)) else none
  | _, _ => none
def cutAt (n d : Nat) : Option Int → Nat
  | none => d
  | some v => if v < 0 then (v + (n : Int)).toNat else min v.toNat n
def cutD {α : Type} (xs : List α) (lo hi : Option Int) : List α := (xs.drop (cutAt xs.length 0 lo)).take (cutAt xs.length xs.length hi - cutAt xs.length 0 lo)
def opSlice : D → Option Int → Option Int → Option Rv
  | .list xs, lo, hi => some (.tmp (cutD xs lo hi))
  | _, _, _ => none
def opRev : D → Option Rv
  | .list xs => some (.tmp xs.reverse)
  | _ => none

/-! ### built-in calls -/
def bLen : List D → Option Rv
  | [.list xs] => some (.d (.int xs.length))
  | [.tuple xs] => some (.d (.int xs.length))
  | [.str z] => if z.length ≤ sizeLine then some (.d (.int z.length)) else none
  | _ => none
def bInt : List D → Option Rv
  | [.int i] => some (.d (.int i))
  | [.bool b] => some (.d (.int (if b then 1 else 0)))
  | _ => none
def bStr : List D → Option Rv
  | [.int i] => if i.natAbs.log2 < 1920 then some (.d (.str (Str.ofString (toString i)))) else none
  | _ => none
def dictRepr : D → Option Rv
  | .dict [] => some (.d (.str (PyData.shown (.dict []))))
  | _ => none
def bRepr : List D → Option Rv
  | [x] => if x.hasDict = false ∧ x.showable = true ∧ x.depth ≤ 40 ∧ x.shown.length ≤ sizeLine then some (.d (.str x.shown)) else dictRepr x
  | _ => none
def boolsOf : List D → Option (List Bool)
  | [] => some []
  | .bool b :: r => (boolsOf r).bind fun bs => some (b :: bs)
  | _ => none
def intsOf : List D → Option (List Int)
  | [] => some []
  | .int i :: r => (intsOf r).bind fun is => some (i :: is)
  | _ => none
def bAll : List D → Option Rv
  | [.list xs] => (boolsOf xs).bind fun bs => some (.d (.bool (bs.all id)))
  | _ => none
def bAny : List D → Option Rv
  | [.list xs] => (boolsOf xs).bind fun bs => some (.d (.bool (bs.any id)))
  | _ => none
def bSum : List D → Option Rv
  | [.list xs] => (intsOf xs).bind fun is => some (.d (.int is.sum))
  | _ => none
def bList : List D → Option Rv
  | [.list xs] => some (.tmp xs)
  | [.tuple xs] => some (.tmp xs)
  | _ => none
/-- the built-in types of data -/
def tyName : D → String
  | .none => "NoneType"
  | .bool _ => "bool"
  | .int _ => "int"
  | .str _ => "str"
  | .list _ => "list"
  | .tuple _ => "tuple"
  | .dict _ => "dict"
def isTy (x : D) (T : String) : Bool := tyName x == T || (T == "int" && tyName x == "bool")
def bIsi (T : String) (x : D) : Option Rv := some (.d (.bool (isTy x T)))
def bIsi2 (T U : String) (x : D) : Option Rv := some (.d (.bool (isTy x T || isTy x U)))
/-- range -/
def iRange1 : List D → Option (List D)
  | [.int n] => if -(2 ^ 62) ≤ n ∧ n < 2 ^ 62 then some ((List.range n.toNat).map fun i => .int (0 + (i : Nat))) else none
  | _ => none
def iRange2 : List D → Option (List D)
  | [.int a, .int b] => if -(2 ^ 62) ≤ a ∧ a < 2 ^ 62 ∧ -(2 ^ 62) ≤ b ∧ b < 2 ^ 62 then some ((List.range (b - a).toNat).map fun i => .int (a + (i : Nat))) else none
  | _ => none
def iList : D → Option (List D)
  | .list xs => some xs
  | _ => none
def iTup : D → Option (List D)
  | .tuple xs => some xs
  | _ => none
def iSeq : D → Option (List D)
  | .list xs => some xs
  | .tuple xs => some xs
  | _ => none
def iZip : List D → Option (List D)
  | [.list xs, .list ys] => some ((xs.zip ys).map fun p => .tuple [p.1, p.2])
  | [.tuple xs, .tuple ys] => some ((xs.zip ys).map fun p => .tuple [p.1, p.2])
  | _ => none
def iEnum : List D → Option (List D)
  | [.list xs] => some (xs.zipIdx.map fun p => .tuple [.int (p.2 : Nat), p.1])
  | _ => none
/-! ### further ones -/
/-- a op b op' c -/
def dChain (op op' : D → D → Option Rv) (f g h : DE) : DE := fun st => (f st).bind fun p => (g p.2).bind fun q => (look q.2 p.1).bind fun x => (look q.2 q.1).bind fun y => (op x y).bind fun z => match z with
  | .d (.bool true) => (h q.2).bind fun w => (look w.2 q.1).bind fun y' => (look w.2 w.1).bind fun u => (op' y' u).bind fun z' => some (z', w.2)
  | .d (.bool false) => some (.d (.bool false), q.2)
  | _ => none
def bMax2 : List D → Option Rv
  | [.int i, .int j] => some (.d (.int (if j > i then j else i)))
  | _ => none
def bMin2 : List D → Option Rv
  | [.int i, .int j] => some (.d (.int (if j < i then j else i)))
  | _ => none
/-- n.bit_length() -/
def opBits : D → Option Rv
  | .int i => some (.d (.int (Builtin.Int.intBits i : Nat)))
  | _ => none
def opAddT : D → D → Option Rv
  | .tuple xs, .tuple ys => if xs.length + ys.length ≤ sizeLine then some (.d (.tuple (xs ++ ys))) else none
  | _, _ => none
def opSliceT : D → Option Int → Option Int → Option Rv
  | .tuple xs, lo, hi => some (.d (.tuple (cutD xs lo hi)))
  | _, _, _ => none
def bTuple : List D → Option Rv
  | [.list xs] => some (.d (.tuple xs))
  | [.tuple xs] => some (.d (.tuple xs))
  | _ => none
/-- every list of one's own or of the caller's, looked at as data -/
def fz : Option SV → Option SV
  | some (.d x) => some (.d x)
  | some (.own xs) => some (.d (.list xs))
  | some (.lent xs) => some (.d (.list xs))
  | none => none
def freeze (st : DSt) : DSt := st.map fz
/-- the lists are handed on for this expression alone; what comes is an atom -/
def dBorrow (f : DE) : DE := fun st => (f (freeze st)).bind fun p => match p.1 with
  | .d x => if atomD x = true then some (.d x, st) else none
  | _ => none
def dBorrowT (f : DT) : DT := fun st => (f (freeze st)).bind fun p => some (p.1, st)
/-- i ** j, any base -/
def opPowW : D → D → Option Rv
  | .int i, .int j => if 0 ≤ j ∧ (Builtin.Int.intBits i : Int) * j ≤ 2 ^ 27 then some (.d (.int (i ^ j.toNat))) else none
  | _, _ => none
def dIfT (t f g : DT) : DT := fun st => (t st).bind fun p => if p.1 = true then f p.2 else g p.2
/-- x, ys = e, e2: e2 gives a new list, which becomes one's own -/
def dAsgO (i j : Nat) (f g : DE) : DS := fun st => (f st).bind fun p => (g p.2).bind fun q => match p.1, q.1 with
  | .d x, .tmp ys => (setS q.2 j (.own ys)).bind fun s => (setS s i (.d x)).bind fun s' => some (.nx, s')
  | _, _ => none
/-- {} -/
def dDict0 : DE := fun st => some (.d (.dict []), st)
def maxOf : List Int → Option Int
  | [] => none
  | x :: r => some (match maxOf r with | some m => if x > m then x else m | none => x)
def minOf : List Int → Option Int
  | [] => none
  | x :: r => some (match minOf r with | some m => if x < m then x else m | none => x)
/-- max(xs), min(xs) of ints -/
def bMaxL : List D → Option Rv
  | [.list xs] => (intsOf xs).bind fun is => (maxOf is).bind fun m => some (.d (.int m))
  | _ => none
def bMinL : List D → Option Rv
  | [.list xs] => (intsOf xs).bind fun is => (minOf is).bind fun m => some (.d (.int m))
  | _ => none
/-- f(e, ..): the first argument is a new list, lent for this call alone -/
def dCallT (g : Fn) (n : Nat) (more : List D) (f : DE) (h : DA) : DE := fun st => (f st).bind fun p => match p.1 with
  | .tmp xs => (h p.2).bind fun q => (toDs q.2 q.1).bind fun w => if q.1.length = n then
      (g (.m xs :: (w.1 ++ more).map Ar.d)).bind fun r => some (rvOf r.1, w.2)
    else none
  | _ => none
/-- ys, x, .. = e, e2, ..: the first one gives a new list, which becomes one's own -/
def dParS (i : Nat) (is : List Nat) (f : DE) (h : DA) : DS := fun st => (f st).bind fun p => match p.1 with
  | .tmp xs => (h p.2).bind fun q => (toDs q.2 q.1).bind fun w => (setS w.2 i (.own xs)).bind fun s => (dPar.parGo is w.1 s).bind fun s' => some (.nx, s')
  | _ => none
/-- what sorted takes: data of one shape -/
def headed : D → Bool
  | .tuple (_ :: _) => true
  | _ => false
def other : D → Bool
  | .none => false
  | .tuple _ => false
  | _ => true
def sortable (xs : List D) : Bool := xs.all (fun d => xs.all fun d' => PySem.W.alike d d') && (xs.all headed || xs.all other) && xs.all (fun d => !d.hasDict && decide (d.depth ≤ 30))
noncomputable def sortD (xs : List D) : List D := xs.mergeSort (PySem.W.dataLe false id)
noncomputable def bSorted : List D → Option Rv
  | [.list xs] => if sortable xs = true then some (.tmp (sortD xs)) else none
  | _ => none
/-- x, ys, z.. = e, e2, e3..: e2 gives a new list, which becomes one's own; e gives data -/
def dParQ (i j : Nat) (is : List Nat) (f g : DE) (h : DA) : DS := fun st => (f st).bind fun p => (g p.2).bind fun q => match p.1, q.1 with
  | .d x, .tmp ys => (h q.2).bind fun u => (toDs u.2 u.1).bind fun w => (setS w.2 i (.d x)).bind fun s1 => (setS s1 j (.own ys)).bind fun s => (dPar.parGo is w.1 s).bind fun s' => some (.nx, s')
  | _, _ => none
/-- list(range(n)) -/
def dListR (f : DE) : DE := fun st => (f st).bind fun p => match look p.2 p.1 with
  | some (.int n) => if n ≤ 16777216 ∧ -(2 ^ 62) ≤ n then some (.tmp ((List.range n.toNat).map fun i => .int (0 + (i : Nat))), p.2) else none
  | _ => none
def removeI (k : Int) : List Int → Option (List Int)
  | [] => none
  | x :: r => if x = k then some r else (removeI k r).bind fun s => some (x :: s)
/-- xs.remove(e), ints -/
def dRemove (i : Nat) (f : DE) : DS := fun st => (getL st i).bind fun _ => (f st).bind fun p => (toD p.2 p.1).bind fun q => match q.1 with
  | .int k => (getL q.2 i).bind fun xs => (intsOf xs).bind fun is => (removeI k is).bind fun r => (putL q.2 i (r.map .int)).bind fun s => some (.nx, s)
  | _ => none
open Classical in
/-- for x in ys: .., ys a list of one's own that the body leaves alone -/
noncomputable def forGoB (i : Nat) (full : List D) (g : DG) (b : DS) : List D → DSt → Option (Fl × DSt)
  | [], st => if getL st i = some full then some (.nx, st) else none
  | x :: xs, st => if getL st i = some full then (g x st).bind fun s => (b s).bind fun p => match p.1 with
      | .nx => forGoB i full g b xs p.2
      | _ => none
    else none
noncomputable def dForB (i : Nat) (g : DG) (b : DS) : DS := fun st => (getL st i).bind fun xs => forGoB i xs g b xs st
/-- xs, ys, z.. = e, e2, e3..: both give new lists -/
def dParW (i j : Nat) (is : List Nat) (f g : DE) (h : DA) : DS := fun st => (f st).bind fun p => (g p.2).bind fun q => match p.1, q.1 with
  | .tmp xs, .tmp ys => (h q.2).bind fun u => (toDs u.2 u.1).bind fun w => (setS w.2 i (.own xs)).bind fun s1 => (setS s1 j (.own ys)).bind fun s => (dPar.parGo is w.1 s).bind fun s' => some (.nx, s')
  | _, _ => none
end DL
end

section
set_option Elab.async false
set_option linter.all false
set_option maxRecDepth 100000
set_option maxHeartbeats 1000000
/-! DLsnd: the data layer over the hand layer: a reading is met by what the plain function of slots says. -/
namespace DL
open PySem PySem.Spec PyProof.Rows L2

/-! ### data in the heap -/
/-- a list that nobody changes: given away (F), locked, or of the written part -/
def FL (K : PySem.W.Frag) (F : Addr → Prop) (H : Hp) (a : Addr) (xs : List V) : Prop :=
  (F a ∧ H a = some (.lst xs)) ∨ (∃ o, H a = some (.frz o (.lst xs))) ∨ SqL K (fun _ => none) a xs
theorem sqK {K : PySem.W.Frag} {H : Hp} {a : Addr} {xs : List V} (h : SqL K (fun _ => none) a xs) : SqL K H a xs := by
  rcases h with (h | ⟨o, h⟩) | h
  · cases h
  · cases h
  · exact .inr h
theorem FL.sql {K : PySem.W.Frag} {F : Addr → Prop} {H : Hp} {a : Addr} {xs : List V} (h : FL K F H a xs) : SqL K H a xs := by
  rcases h with ⟨_, h⟩ | ⟨o, h⟩ | h
  · exact .inl (.inl h)
  · exact .inl (.inr ⟨o, h⟩)
  · exact sqK h
/-- what never changes, once it is there: a tuple; an empty dict -/
def STD (K : PySem.W.Frag) (H : Hp) (a : Addr) : Option (List V) → Prop
  | some xs => SqT K H a xs
  | none => H a = some (.dK [])
mutual
inductive Rp (K : PySem.W.Frag) (F : Addr → Prop) (H : Hp) : V → PyData → Prop
  | non : Rp K F H .non .none
  | bl (b : Bool) : Rp K F H (.bl b) (.bool b)
  | int (i : Int) : Rp K F H (.int i) (.int i)
  | str (x : Str) : Rp K F H (.str x) (.str x)
  | lst {a : Addr} {xs : List V} {ds : List PyData} : FL K F H a xs → RpAll K F H xs ds → Rp K F H (.ref a) (.list ds)
  | tup {a : Addr} {xs : List V} {ds : List PyData} : SqT K H a xs → RpAll K F H xs ds → Rp K F H (.ref a) (.tuple ds)
  | dic {a : Addr} : H a = some (.dK []) → Rp K F H (.ref a) (.dict [])
inductive RpAll (K : PySem.W.Frag) (F : Addr → Prop) (H : Hp) : List V → List PyData → Prop
  | nil : RpAll K F H [] []
  | cons {v : V} {vs : List V} {d : PyData} {ds : List PyData} : Rp K F H v d → RpAll K F H vs ds → RpAll K F H (v :: vs) (d :: ds)
end
section
variable {K : PySem.W.Frag} {F F' : Addr → Prop} {H H' : Hp}
mutual
theorem Rp.mono (h1 : ∀ a xs, FL K F H a xs → FL K F' H' a xs) (h2 : ∀ a xs, STD K H a xs → STD K H' a xs) : ∀ {v : V} {d : PyData}, Rp K F H v d → Rp K F' H' v d
  | _, _, .non => .non
  | _, _, .bl b => .bl b
  | _, _, .int i => .int i
  | _, _, .str x => .str x
  | _, _, .lst h hs => .lst (h1 _ _ h) (RpAll.mono h1 h2 hs)
  | _, _, .tup h hs => .tup (h2 _ (some _) h) (RpAll.mono h1 h2 hs)
  | _, _, .dic h => .dic (h2 _ none h)
theorem RpAll.mono (h1 : ∀ a xs, FL K F H a xs → FL K F' H' a xs) (h2 : ∀ a xs, STD K H a xs → STD K H' a xs) : ∀ {vs : List V} {ds : List PyData}, RpAll K F H vs ds → RpAll K F' H' vs ds
  | _, _, .nil => .nil
  | _, _, .cons a b => .cons (Rp.mono h1 h2 a) (RpAll.mono h1 h2 b)
end
mutual
theorem Rp.dp : ∀ {v : V} {d : PyData}, Rp K F H v d → d.hasDict = false → Dp K H v d
  | _, _, .non, _ => .non
  | _, _, .bl b, _ => .bl b
  | _, _, .int i, _ => .int i
  | _, _, .str x, _ => .str x
  | _, _, .lst h hs, n => .lst h.sql (RpAll.dp hs (by simpa [PyData.hasDict] using n))
  | _, _, .tup h hs, n => .tup h (RpAll.dp hs (by simpa [PyData.hasDict] using n))
  | _, _, .dic _, n => by simp [PyData.hasDict] at n
theorem RpAll.dp : ∀ {vs : List V} {ds : List PyData}, RpAll K F H vs ds → PyData.hasDictAll ds = false → DpAll K H vs ds
  | _, _, .nil, _ => .nil
  | _, _, .cons a b, n => .cons (Rp.dp a (by simp only [PyData.hasDictAll, Bool.or_eq_false_iff] at n; exact n.1)) (RpAll.dp b (by simp only [PyData.hasDictAll, Bool.or_eq_false_iff] at n; exact n.2))
end
theorem RpAll.length : ∀ {vs : List V} {ds : List PyData}, RpAll K F H vs ds → vs.length = ds.length
  | _, _, .nil => rfl
  | _, _, .cons _ b => congrArg (· + 1) (RpAll.length b)
theorem RpAll.get : ∀ {vs : List V} {ds : List PyData} {i : Nat} {d : PyData}, RpAll K F H vs ds → ds[i]? = some d → ∃ v, vs[i]? = some v ∧ Rp K F H v d
  | _, _, _, _, .nil, e => by simp at e
  | _, _, 0, _, .cons a _, e => by
    simp at e
    subst e
    exact ⟨_, rfl, a⟩
  | _, _, i + 1, _, .cons _ b, e => by
    obtain ⟨v, h1, h2⟩ := RpAll.get (i := i) b (by simpa using e)
    exact ⟨v, by simpa using h1, h2⟩
theorem RpAll.got : ∀ {vs : List V} {ds : List PyData} {i : Nat} {v : V}, RpAll K F H vs ds → vs[i]? = some v → ∃ d, ds[i]? = some d ∧ Rp K F H v d
  | _, _, _, _, .nil, e => by simp at e
  | _, _, 0, _, .cons a _, e => by
    simp at e
    subst e
    exact ⟨_, rfl, a⟩
  | _, _, i + 1, _, .cons _ b, e => by
    obtain ⟨v, h1, h2⟩ := RpAll.got (i := i) b (by simpa using e)
    exact ⟨v, by simpa using h1, h2⟩
theorem RpAll.append : ∀ {vs ws : List V} {ds es : List PyData}, RpAll K F H vs ds → RpAll K F H ws es → RpAll K F H (vs ++ ws) (ds ++ es)
  | _, _, _, _, .nil, h => h
  | _, _, _, _, .cons a b, h => .cons a (RpAll.append b h)
theorem RpAll.drop : ∀ {vs : List V} {ds : List PyData} (n : Nat), RpAll K F H vs ds → RpAll K F H (vs.drop n) (ds.drop n)
  | _, _, 0, h => h
  | _, _, _ + 1, .nil => .nil
  | _, _, n + 1, .cons _ b => RpAll.drop n b
theorem RpAll.take : ∀ {vs : List V} {ds : List PyData} (n : Nat), RpAll K F H vs ds → RpAll K F H (vs.take n) (ds.take n)
  | _, _, 0, _ => .nil
  | _, _, _ + 1, .nil => .nil
  | _, _, n + 1, .cons a b => .cons a (RpAll.take n b)
theorem RpAll.set {x : V} {d : PyData} (r : Rp K F H x d) : ∀ {vs : List V} {ds : List PyData} (i : Nat), RpAll K F H vs ds → RpAll K F H (vs.set i x) (ds.set i d)
  | _, _, _, .nil => .nil
  | _, _, 0, .cons _ b => .cons r b
  | _, _, i + 1, .cons a b => .cons a (RpAll.set r i b)
theorem RpAll.reverse {vs : List V} {ds : List PyData} (h : RpAll K F H vs ds) : RpAll K F H vs.reverse ds.reverse := by
  induction h using RpAll.rec (motive_1 := fun _ _ _ => True) with
  | non | bl | int | str | lst | tup | dic => trivial
  | nil => exact .nil
  | cons a b iha ihb => rw [List.reverse_cons, List.reverse_cons]; exact ihb.append (.cons a .nil)
theorem RpAll.rep {vs : List V} {ds : List PyData} (h : RpAll K F H vs ds) : ∀ k : Nat, RpAll K F H (List.replicate k vs).flatten (List.replicate k ds).flatten
  | 0 => .nil
  | k + 1 => by
    rw [List.replicate_succ, List.replicate_succ, List.flatten_cons, List.flatten_cons]
    exact h.append (h.rep k)
theorem RpAll.snoc {vs : List V} {ds : List PyData} {v : V} {d : PyData} (h : RpAll K F H vs ds) (r : Rp K F H v d) : RpAll K F H (vs ++ [v]) (ds ++ [d]) := h.append (.cons r .nil)
end
theorem sqT_up {K : PySem.W.Frag} {H H' : Hp} (h : ∀ b u, H b = some u → (∀ xs, u ≠ .lst xs) → H' b = some u) {a : Addr} {xs : List V} (q : SqT K H a xs) : SqT K H' a xs := by
  rcases q with (q | ⟨o, q⟩) | q
  · exact .inl (.inl (h _ _ q fun _ z => by cases z))
  · exact .inl (.inr ⟨o, h _ _ q fun _ z => by cases z⟩)
  · exact .inr q

theorem stD_up {K : PySem.W.Frag} {H H' : Hp} (h : ∀ b u, H b = some u → (∀ xs, u ≠ .lst xs) → H' b = some u) {a : Addr} : ∀ {o : Option (List V)}, STD K H a o → STD K H' a o
  | some _, q => sqT_up h q
  | none, q => h _ _ q fun _ z => by cases z

/-! ### the slots and the heap -/
def IsOwn (st : DSt) (i : Nat) : Prop := ∃ xs, st.getD i none = some (.own xs) ∨ st.getD i none = some (.lent xs)
def OwnAt (st : DSt) (σ : L2.St) (p : Addr) : Prop := ∃ i, IsOwn st i ∧ σ[i]? = some (some (.ref p))
/-- H0: the heap at the def's entry; M: where the lent lists are -/
structure Sim (K : PySem.W.Frag) (H0 : Hp) (M : Nat → Option Addr) (st : DSt) (σ : L2.St) (F : Addr → Prop) (H : Hp) : Prop where
  len : σ.length = st.length
  dat : ∀ i x, st.getD i none = some (.d x) → ∃ v, σ[i]? = some (some v) ∧ Rp K F H v x
  own : ∀ i xs, st.getD i none = some (.own xs) → ∃ p vs, σ[i]? = some (some (.ref p)) ∧ H p = some (.lst vs) ∧ RpAll K F H vs xs ∧ ¬ F p ∧ H0 p = none
  lent : ∀ i xs, st.getD i none = some (.lent xs) → ∃ p vs, M i = some p ∧ σ[i]? = some (some (.ref p)) ∧ H p = some (.lst vs) ∧ RpAll K F H vs xs ∧ ¬ F p
  lentE : ∀ i p, M i = some p → ∃ xs, st.getD i none = some (.lent xs)
  lent0 : ∀ i p, M i = some p → H0 p ≠ none
  inj : ∀ i j p, IsOwn st i → IsOwn st j → σ[i]? = some (some (.ref p)) → σ[j]? = some (some (.ref p)) → i = j
  frz : ∀ a, F a → ∃ xs, H a = some (.lst xs)
  base : ∀ b u, H0 b = some u → (∀ i, M i ≠ some b) → H b = some u
/-- from one point of an expression to a later one -/
structure Ext (st : DSt) (σ : L2.St) (F : Addr → Prop) (H : Hp) (st' : DSt) (F' : Addr → Prop) (H' : Hp) : Prop where
  sub : ∀ a, F a → F' a
  new : ∀ a, F' a → F a ∨ H a = none ∨ OwnAt st σ a
  keep : ∀ b u, H b = some u → ¬ OwnAt st σ b → H' b = some u
  live : ∀ b, H b ≠ none → H' b ≠ none
  own : ∀ i, IsOwn st' i → IsOwn st i
section
variable {K : PySem.W.Frag} {H0 : Hp} {M : Nat → Option Addr} {st st' st2 : DSt} {σ : L2.St} {F F' F2 : Addr → Prop} {H H' H2 Hb : Hp}
theorem Ext.refl : Ext st σ F H st F H := ⟨fun _ h => h, fun _ h => .inl h, fun _ _ h _ => h, fun _ h => h, fun _ h => h⟩
theorem Sim.atOwn (S : Sim K H0 M st σ F H) {p : Addr} (o : OwnAt st σ p) : (∃ vs, H p = some (.lst vs)) ∧ ¬ F p := by
  obtain ⟨i, ⟨xs, h | h⟩, e⟩ := o
  · obtain ⟨q, vs, e1, e2, _, nf, _⟩ := S.own i xs h
    rw [e] at e1
    cases e1
    exact ⟨⟨vs, e2⟩, nf⟩
  · obtain ⟨q, vs, _, e1, e2, _, nf⟩ := S.lent i xs h
    rw [e] at e1
    cases e1
    exact ⟨⟨vs, e2⟩, nf⟩
theorem OwnAt.imp (o : ∀ i, IsOwn st' i → IsOwn st i) {p : Addr} (h : OwnAt st' σ p) : OwnAt st σ p := let ⟨i, h1, h2⟩ := h; ⟨i, o i h1, h2⟩
theorem Ext.trans (a : Ext st σ F H st' F' H') (b : Ext st' σ F' H' st2 F2 H2) : Ext st σ F H st2 F2 H2 where
  sub := fun c h => b.sub c (a.sub c h)
  new := fun c h => by
    rcases b.new c h with h | h | h
    · exact a.new c h
    · refine .inr (.inl ?_)
      apply Classical.byContradiction
      intro z
      exact a.live c z h
    · exact .inr (.inr (h.imp a.own))
  keep := fun c u h n => b.keep c u (a.keep c u h n) fun z => n (z.imp a.own)
  live := fun c h => b.live c (a.live c h)
  own := fun i h => a.own i (b.own i h)
theorem Ext.fl (S : Sim K H0 M st σ F H) (E : Ext st σ F H st' F' H') {a : Addr} {xs : List V} (h : FL K F H a xs) : FL K F' H' a xs := by
  rcases h with ⟨f, h⟩ | ⟨o, h⟩ | h
  · exact .inl ⟨E.sub _ f, E.keep _ _ h fun z => (S.atOwn z).2 f⟩
  · refine .inr (.inl ⟨o, E.keep _ _ h fun z => ?_⟩)
    obtain ⟨⟨vs, e⟩, _⟩ := S.atOwn z
    rw [h] at e
    cases e
  · exact .inr (.inr h)
theorem Ext.sqt (S : Sim K H0 M st σ F H) (E : Ext st σ F H st' F' H') {a : Addr} {xs : List V} (h : SqT K H a xs) : SqT K H' a xs :=
  sqT_up (fun b u e nl => E.keep b u e fun z => by
    obtain ⟨⟨vs, e'⟩, _⟩ := S.atOwn z
    rw [e] at e'
    cases e'
    exact nl vs rfl) h
theorem Ext.std (S : Sim K H0 M st σ F H) (E : Ext st σ F H st' F' H') {a : Addr} {o : Option (List V)} (h : STD K H a o) : STD K H' a o :=
  stD_up (fun b u e nl => E.keep b u e fun z => by
    obtain ⟨⟨vs, e'⟩, _⟩ := S.atOwn z
    rw [e] at e'
    cases e'
    exact nl vs rfl) h
theorem Ext.rp (S : Sim K H0 M st σ F H) (E : Ext st σ F H st' F' H') {v : V} {x : PyData} (h : Rp K F H v x) : Rp K F' H' v x := h.mono (fun _ _ => E.fl S) fun _ _ => E.std S
theorem Ext.rpAll (S : Sim K H0 M st σ F H) (E : Ext st σ F H st' F' H') {vs : List V} {xs : List PyData} (h : RpAll K F H vs xs) : RpAll K F' H' vs xs := h.mono (fun _ _ => E.fl S) fun _ _ => E.std S
theorem Sim.fresh0 (S : Sim K H0 M st σ F H) {p : Addr} (h : H p = none) : H0 p = none := by
  cases e : H0 p with
  | none => rfl
  | some u =>
    exfalso
    by_cases m : ∃ i, M i = some p
    · obtain ⟨i, m⟩ := m
      obtain ⟨xs, q⟩ := S.lentE i p m
      obtain ⟨p', vs, m', _, e2, _⟩ := S.lent i xs q
      rw [m] at m'
      cases m'
      rw [h] at e2
      cases e2
    · have := S.base p u e fun i z => m ⟨i, z⟩
      rw [h] at this
      cases this
/-- the heap grew -/
theorem Rp.grow (s : Same H H') {v : V} {x : PyData} (h : Rp K F H v x) : Rp K F H' v x :=
  h.mono (fun a xs h => h.elim (fun h => .inl ⟨h.1, s _ _ h.2⟩) fun h => h.elim (fun ⟨o, h⟩ => .inr (.inl ⟨o, s _ _ h⟩)) fun h => .inr (.inr h)) fun a xs h => stD_up (fun b u e _ => s b u e) h
theorem RpAll.grow (s : Same H H') {v : List V} {x : List PyData} (h : RpAll K F H v x) : RpAll K F H' v x :=
  h.mono (fun a xs h => h.elim (fun h => .inl ⟨h.1, s _ _ h.2⟩) fun h => h.elim (fun ⟨o, h⟩ => .inr (.inl ⟨o, s _ _ h⟩)) fun h => .inr (.inr h)) fun a xs h => stD_up (fun b u e _ => s b u e) h
theorem Rp.more (s : ∀ a, F a → F' a) {v : V} {x : PyData} (h : Rp K F H v x) : Rp K F' H v x :=
  h.mono (fun a xs h => h.elim (fun h => .inl ⟨s _ h.1, h.2⟩) .inr) fun _ _ h => h
theorem RpAll.more (s : ∀ a, F a → F' a) {v : List V} {x : List PyData} (h : RpAll K F H v x) : RpAll K F' H v x :=
  h.mono (fun a xs h => h.elim (fun h => .inl ⟨s _ h.1, h.2⟩) .inr) fun _ _ h => h
theorem Sim.grow (S : Sim K H0 M st σ F H) (s : Same H H') : Sim K H0 M st σ F H' where
  len := S.len
  dat := fun i x h => let ⟨v, e, r⟩ := S.dat i x h; ⟨v, e, r.grow s⟩
  own := fun i xs h => let ⟨p, vs, e1, e2, r, n, z⟩ := S.own i xs h; ⟨p, vs, e1, s _ _ e2, r.grow s, n, z⟩
  lent := fun i xs h => let ⟨p, vs, m, e1, e2, r, n⟩ := S.lent i xs h; ⟨p, vs, m, e1, s _ _ e2, r.grow s, n⟩
  lentE := S.lentE
  lent0 := S.lent0
  inj := S.inj
  frz := fun a h => let ⟨xs, e⟩ := S.frz a h; ⟨xs, s _ _ e⟩
  base := fun b u h n => s _ _ (S.base b u h n)
theorem Ext.grow (s : Same H H') : Ext st σ F H st F H' :=
  ⟨fun _ h => h, fun _ h => .inl h, fun _ _ h _ => s _ _ h, fun b h => by
    cases e : H b with
    | none => exact absurd e h
    | some u => rw [s _ _ e]; exact fun z => (by cases z), fun _ h => h⟩
/-- more is given away -/
theorem Sim.more (S : Sim K H0 M st σ F H) (s : ∀ a, F a → F' a) (f : ∀ a, F' a → ∃ xs, H a = some (.lst xs)) (no : ∀ a, F' a → ¬ OwnAt st σ a) : Sim K H0 M st σ F' H where
  len := S.len
  dat := fun i x h => let ⟨v, e, r⟩ := S.dat i x h; ⟨v, e, r.more s⟩
  own := fun i xs h => let ⟨p, vs, e1, e2, r, n, z⟩ := S.own i xs h; ⟨p, vs, e1, e2, r.more s, fun q => no p q ⟨i, ⟨xs, .inl h⟩, e1⟩, z⟩
  lent := fun i xs h => let ⟨p, vs, m, e1, e2, r, n⟩ := S.lent i xs h; ⟨p, vs, m, e1, e2, r.more s, fun q => no p q ⟨i, ⟨xs, .inr h⟩, e1⟩⟩
  lentE := S.lentE
  lent0 := S.lent0
  inj := S.inj
  frz := f
  base := S.base
theorem getD_set {st : DSt} {i j : Nat} {x : Option SV} (hi : i < st.length) : (st.set i x).getD j none = if i = j then x else st.getD j none := by
  rw [List.getD_eq_getElem?_getD, List.getD_eq_getElem?_getD, List.getElem?_set]
  by_cases h : i = j
  · subst h
    simp [hi]
  · simp [h]
theorem getD_lt {st : DSt} {i : Nat} {x : SV} (h : st.getD i none = some x) : i < st.length := by
  apply Classical.byContradiction
  intro n
  rw [List.getD_eq_getElem?_getD, List.getElem?_eq_none (by omega)] at h
  cases h
/-- a slot's list is given away -/
theorem Sim.give (S : Sim K H0 M st σ F H) {i : Nat} {xs : List D} {p : Addr} (h : st.getD i none = some (.own xs)) (e : σ[i]? = some (some (.ref p))) :
    Sim K H0 M (st.set i (some (.d (.list xs)))) σ (fun a => F a ∨ a = p) H ∧ Rp K (fun a => F a ∨ a = p) H (.ref p) (.list xs) ∧ (∀ j, IsOwn (st.set i (some (.d (.list xs)))) j → IsOwn st j) := by
  have hi := getD_lt h
  obtain ⟨q, vs, e1, e2, r, nf, z⟩ := S.own i xs h
  rw [e] at e1
  cases e1
  have sub : ∀ a, F a → (F a ∨ a = p) := fun _ => .inl
  have rr : Rp K (fun a => F a ∨ a = p) H (.ref p) (.list xs) := .lst (.inl ⟨.inr rfl, e2⟩) (r.more sub)
  have own : ∀ j, IsOwn (st.set i (some (.d (.list xs)))) j → IsOwn st j ∧ j ≠ i := fun j ⟨ys, hj⟩ => by
    rw [getD_set hi] at hj
    by_cases ij : i = j
    · rw [if_pos ij] at hj
      rcases hj with hj | hj <;> cases hj
    · rw [if_neg ij] at hj
      exact ⟨⟨ys, hj⟩, fun z => ij z.symm⟩
  refine ⟨⟨by rw [List.length_set]; exact S.len, fun j x hj => ?_, fun j ys hj => ?_, fun j ys hj => ?_, fun j q m => ?_, S.lent0, fun j k q a b => S.inj j k q (own j a).1 (own k b).1, fun a ha => ?_, S.base⟩, rr, fun j hj => (own j hj).1⟩
  · rw [getD_set hi] at hj
    by_cases ij : i = j
    · subst ij
      rw [if_pos rfl] at hj
      cases hj
      exact ⟨_, e, rr⟩
    · rw [if_neg ij] at hj
      obtain ⟨v, a, b⟩ := S.dat j x hj
      exact ⟨v, a, b.more sub⟩
  · have oj := own j ⟨ys, .inl hj⟩
    rw [getD_set hi, if_neg fun z => oj.2 z.symm] at hj
    obtain ⟨q, ws, a, b, c, d, f⟩ := S.own j ys hj
    refine ⟨q, ws, a, b, c.more sub, ?_, f⟩
    rintro (z | z)
    · exact d z
    · subst z
      exact oj.2 (S.inj j i q oj.1 ⟨xs, .inl h⟩ a e)
  · have oj := own j ⟨ys, .inr hj⟩
    rw [getD_set hi, if_neg fun z => oj.2 z.symm] at hj
    obtain ⟨q, ws, m, a, b, c, d⟩ := S.lent j ys hj
    refine ⟨q, ws, m, a, b, c.more sub, ?_⟩
    rintro (z | z)
    · exact d z
    · subst z
      exact oj.2 (S.inj j i q oj.1 ⟨xs, .inl h⟩ a e)
  · obtain ⟨ys, hj⟩ := S.lentE j q m
    refine ⟨ys, ?_⟩
    rw [getD_set hi, if_neg, hj]
    rintro rfl
    rw [h] at hj
    cases hj
  · rcases ha with ha | rfl
    · exact S.frz a ha
    · exact ⟨vs, e2⟩
end

/-! ### values -/
/-- Hb: the heap ahead of the expression -/
def RvOk (K : PySem.W.Frag) (F : Addr → Prop) (H : Hp) (st : DSt) (σ : L2.St) (Hb : Hp) : Rv → V → Prop
  | .d x, v => Rp K F H v x
  | .tmp xs, v => ∃ p vs, v = .ref p ∧ H p = some (.lst vs) ∧ RpAll K F H vs xs ∧ ¬ F p ∧ ¬ OwnAt st σ p ∧ Hb p = none
  | .sl i, v => σ[i]? = some (some v)
/-- .. of which it is not told that no other one has it -/
def RvW (K : PySem.W.Frag) (F : Addr → Prop) (H : Hp) (st : DSt) (σ : L2.St) (Hb : Hp) : Rv → V → Prop
  | .d x, v => Rp K F H v x
  | .tmp xs, v => ∃ p vs, v = .ref p ∧ H p = some (.lst vs) ∧ RpAll K F H vs xs ∧ ¬ OwnAt st σ p ∧ Hb p = none
  | .sl i, v => σ[i]? = some (some v)
inductive RvWs (K : PySem.W.Frag) (F : Addr → Prop) (H : Hp) (st : DSt) (σ : L2.St) (Hb : Hp) : List Rv → List V → Prop
  | nil : RvWs K F H st σ Hb [] []
  | cons {r : Rv} {v : V} {rs : List Rv} {vs : List V} : RvW K F H st σ Hb r v → RvWs K F H st σ Hb rs vs → RvWs K F H st σ Hb (r :: rs) (v :: vs)
/-- what may be looked at -/
def Pk (K : PySem.W.Frag) (F : Addr → Prop) (H : Hp) (v : V) (x : PyData) : Prop :=
  Rp K F H v x ∨ ∃ p vs xs, v = .ref p ∧ x = .list xs ∧ H p = some (.lst vs) ∧ RpAll K F H vs xs
inductive PkAll (K : PySem.W.Frag) (F : Addr → Prop) (H : Hp) : List V → List PyData → Prop
  | nil : PkAll K F H [] []
  | cons {v : V} {x : PyData} {vs : List V} {xs : List PyData} : Pk K F H v x → PkAll K F H vs xs → PkAll K F H (v :: vs) (x :: xs)
section
variable {K : PySem.W.Frag} {H0 : Hp} {M : Nat → Option Addr} {st st' st2 : DSt} {σ : L2.St} {F F' F2 : Addr → Prop} {H H' H2 Hb Hc : Hp} {v : V} {r : Rv} {x : PyData}
theorem RvOk.weak (h : RvOk K F H st σ Hb r v) : RvW K F H st σ Hb r v := by
  cases r with
  | d x => exact h
  | tmp xs => obtain ⟨p, vs, a, b, c, _, d, e⟩ := h; exact ⟨p, vs, a, b, c, d, e⟩
  | sl i => exact h
theorem RvW.birth (h : RvW K F H st σ Hb r v) (l : ∀ b, Hc b ≠ none → Hb b ≠ none) : RvW K F H st σ Hc r v := by
  cases r with
  | d x => exact h
  | tmp xs =>
    obtain ⟨p, vs, a, b, c, d, e⟩ := h
    exact ⟨p, vs, a, b, c, d, Classical.byContradiction fun z => l p z e⟩
  | sl i => exact h
theorem RvOk.birth (h : RvOk K F H st σ Hb r v) (l : ∀ b, Hc b ≠ none → Hb b ≠ none) : RvOk K F H st σ Hc r v := by
  cases r with
  | d x => exact h
  | tmp xs =>
    obtain ⟨p, vs, a, b, c, f, d, e⟩ := h
    exact ⟨p, vs, a, b, c, f, d, Classical.byContradiction fun z => l p z e⟩
  | sl i => exact h
/-- slots stay filled -/
def Fill (_ _ : DSt) : Prop := True
theorem RvW.ext (S : Sim K H0 M st σ F H) (E : Ext st σ F H st' F' H') (f : Fill st st') (h : RvW K F H st σ Hb r v) : RvW K F' H' st' σ Hb r v := by
  cases r with
  | d x => exact E.rp S h
  | tmp xs =>
    obtain ⟨p, vs, a, b, c, d, e⟩ := h
    exact ⟨p, vs, a, E.keep _ _ b d, E.rpAll S c, fun z => d (z.imp E.own), e⟩
  | sl i => exact h
theorem RvOk.ext (S : Sim K H0 M st σ F H) (E : Ext st σ F H st' F' H') (f : Fill st st') (h : RvOk K F H st σ Hb r v) : RvOk K F' H' st' σ Hb r v := by
  cases r with
  | d x => exact E.rp S h
  | tmp xs =>
    obtain ⟨p, vs, a, b, c, nf, d, e⟩ := h
    refine ⟨p, vs, a, E.keep _ _ b d, E.rpAll S c, fun z => ?_, fun z => d (z.imp E.own), e⟩
    rcases E.new p z with z | z | z
    · exact nf z
    · rw [b] at z; cases z
    · exact d z
  | sl i => exact h
theorem look_ok (S : Sim K H0 M st σ F H) (h : RvW K F H st σ Hb r v) (e : look st r = some x) : Pk K F H v x := by
  cases r with
  | d y => cases e; exact .inl h
  | tmp xs =>
    obtain ⟨p, vs, a, b, c, _⟩ := h
    cases e
    exact .inr ⟨p, vs, xs, a, rfl, b, c⟩
  | sl i =>
    have h : σ[i]? = some (some v) := h
    have e : lookS (st.getD i none) = some x := e
    cases q : st.getD i none with
    | none => rw [q] at e; cases e
    | some s =>
      rw [q] at e
      cases s with
      | d y =>
        cases e
        obtain ⟨w, e1, r1⟩ := S.dat i _ q
        rw [h] at e1
        cases e1
        exact .inl r1
      | own xs =>
        cases e
        obtain ⟨p, vs, e1, e2, r1, _⟩ := S.own i xs q
        rw [h] at e1
        cases e1
        exact .inr ⟨p, vs, xs, rfl, rfl, e2, r1⟩
      | lent xs =>
        cases e
        obtain ⟨p, vs, _, e1, e2, r1, _⟩ := S.lent i xs q
        rw [h] at e1
        cases e1
        exact .inr ⟨p, vs, xs, rfl, rfl, e2, r1⟩
theorem looks_ok (S : Sim K H0 M st σ F H) : ∀ {rs : List Rv} {vs : List V} {xs : List D}, RvWs K F H st σ Hb rs vs → looks st rs = some xs → PkAll K F H vs xs
  | [], _, xs, .nil, e => by cases e; exact .nil
  | r :: rs, _, xs, .cons h t, e => by
    have e : ((look st r).bind fun x => (looks st rs).bind fun xs => some (x :: xs)) = some xs := e
    cases q : look st r with
    | none => rw [q] at e; cases e
    | some x =>
      rw [q] at e
      cases q2 : looks st rs with
      | none => rw [q2] at e; cases e
      | some ys =>
        rw [q2] at e
        cases e
        exact .cons (look_ok S h q) (looks_ok S t q2)
theorem Fill.refl : Fill st st := trivial
theorem Fill.trans (_ : Fill st st') (_ : Fill st' st2) : Fill st st2 := trivial
theorem Fill.set {i : Nat} {s : SV} (_ : i < st.length) : Fill st (st.set i (some s)) := trivial
/-- a value given away; the way from the expression's beginning goes on to here -/
theorem toD_ok {sts : DSt} {Fs : Addr → Prop} (S : Sim K H0 M st σ F H) (E : Ext sts σ Fs Hb st F H) (h : RvW K F H st σ Hb r v) (e : toD st r = some (x, st')) :
    ∃ F', Sim K H0 M st' σ F' H ∧ Ext sts σ Fs Hb st' F' H ∧ Rp K F' H v x ∧ (∀ a, F a → F' a) ∧ (∀ i, IsOwn st' i → IsOwn st i) ∧ Fill st st' := by
  cases r with
  | d y =>
    cases e
    exact ⟨F, S, E, h, fun _ h => h, fun _ h => h, .refl⟩
  | tmp xs =>
    cases e
    obtain ⟨p, vs, rfl, b, c, d, f⟩ := h
    have sub : ∀ a, F a → (F a ∨ a = p) := fun _ => .inl
    refine ⟨fun a => F a ∨ a = p, S.more sub ?_ ?_, ⟨fun a z => .inl (E.sub a z), ?_, E.keep, E.live, E.own⟩, .lst (.inl ⟨.inr rfl, b⟩) (c.more sub), sub, fun _ h => h, .refl⟩
    · rintro a (z | rfl)
      · exact S.frz a z
      · exact ⟨vs, b⟩
    · rintro a (z | rfl)
      · exact fun o => (S.atOwn o).2 z
      · exact d
    · rintro a (z | rfl)
      · exact E.new a z
      · exact .inr (.inl f)
  | sl i =>
    have h : σ[i]? = some (some v) := h
    have e : (match st.getD i none with
      | some (.d x) => some (x, st)
      | some (.own xs) => some (.list xs, st.set i (some (.d (.list xs))))
      | _ => none) = some (x, st') := e
    cases q : st.getD i none with
    | none => rw [q] at e; cases e
    | some s =>
      rw [q] at e
      cases s with
      | d y =>
        cases e
        obtain ⟨w, e1, r1⟩ := S.dat i _ q
        rw [h] at e1
        cases e1
        exact ⟨F, S, E, r1, fun _ h => h, fun _ h => h, .refl⟩
      | own xs =>
        cases e
        obtain ⟨p, vs, e1, e2, _⟩ := S.own i xs q
        rw [h] at e1
        cases e1
        obtain ⟨S', rr, o⟩ := S.give q h
        have own1 : OwnAt st σ p := ⟨i, ⟨xs, .inl q⟩, h⟩
        refine ⟨fun a => F a ∨ a = p, S', ⟨fun a z => .inl (E.sub a z), ?_, E.keep, E.live, fun j z => E.own j (o j z)⟩, rr, fun _ => .inl, o, .set (getD_lt q)⟩
        rintro a (z | rfl)
        · exact E.new a z
        · exact .inr (.inr (own1.imp E.own))
      | lent xs => cases e
theorem RvWs.to {F' : Addr → Prop} (s : ∀ a, F a → F' a) (o : ∀ i, IsOwn st' i → IsOwn st i) (f : Fill st st') : ∀ {rs : List Rv} {vs : List V}, RvWs K F H st σ Hb rs vs → RvWs K F' H st' σ Hb rs vs
  | _, _, .nil => .nil
  | r :: rs, _, .cons h t => by
    refine .cons ?_ (RvWs.to s o f t)
    cases r with
    | d x => exact Rp.more s h
    | tmp xs =>
      obtain ⟨p, vs, a, b, c, d, e⟩ := h
      exact ⟨p, vs, a, b, c.more s, fun z => d (z.imp o), e⟩
    | sl i => exact h
theorem RvWs.ext (S : Sim K H0 M st σ F H) (E : Ext st σ F H st' F' H') (f : Fill st st') : ∀ {rs : List Rv} {vs : List V}, RvWs K F H st σ Hb rs vs → RvWs K F' H' st' σ Hb rs vs
  | _, _, .nil => .nil
  | _, _, .cons h t => .cons (h.ext S E f) (RvWs.ext S E f t)
theorem RvWs.birth (l : ∀ b, Hc b ≠ none → Hb b ≠ none) : ∀ {rs : List Rv} {vs : List V}, RvWs K F H st σ Hb rs vs → RvWs K F H st σ Hc rs vs
  | _, _, .nil => .nil
  | _, _, .cons h t => .cons (h.birth l) (RvWs.birth l t)
theorem toDs_ok {sts : DSt} {Fs : Addr → Prop} : ∀ {rs : List Rv} {vs : List V} {xs : List D} {st st' : DSt} {F : Addr → Prop}, Sim K H0 M st σ F H → Ext sts σ Fs Hb st F H → RvWs K F H st σ Hb rs vs → toDs st rs = some (xs, st') →
    ∃ F', Sim K H0 M st' σ F' H ∧ Ext sts σ Fs Hb st' F' H ∧ RpAll K F' H vs xs ∧ (∀ a, F a → F' a) ∧ (∀ i, IsOwn st' i → IsOwn st i) ∧ Fill st st'
  | [], _, xs, st, st', F, S, E, .nil, e => by
    cases e
    exact ⟨F, S, E, .nil, fun _ h => h, fun _ h => h, .refl⟩
  | r :: rs, _, xs, st, st', F, S, E, .cons h t, e => by
    have e : ((toD st r).bind fun p => (toDs p.2 rs).bind fun q => some (p.1 :: q.1, q.2)) = some (xs, st') := e
    cases q : toD st r with
    | none => rw [q] at e; cases e
    | some p =>
      rw [q] at e
      cases q2 : toDs p.2 rs with
      | none =>
        have e : ((toDs p.2 rs).bind fun q => some (p.1 :: q.1, q.2)) = some (xs, st') := e
        rw [q2] at e
        cases e
      | some w =>
        have e : ((toDs p.2 rs).bind fun q => some (p.1 :: q.1, q.2)) = some (xs, st') := e
        rw [q2] at e
        cases e
        obtain ⟨F1, S1, E1, r1, s1, o1, f1⟩ := toD_ok S E h q
        obtain ⟨F2, S2, E2, r2, s2, o2, f2⟩ := toDs_ok S1 E1 (t.to s1 o1 f1) q2
        exact ⟨F2, S2, E2, .cons (r1.more s2) r2, fun a z => s2 a (s1 a z), fun i z => o1 i (o2 i z), f1.trans f2⟩
end
end DL
end

section
set_option Elab.async false
set_option linter.all false
set_option maxRecDepth 100000
set_option maxHeartbeats 1000000
/-! DLsnd2: readings of expressions and tests. -/
namespace DL
open PySem PySem.Spec PyProof.Rows L2
def SndE (K : PySem.W.Frag) (t : TE) (f : DE) : Prop := ∀ (H0 : Hp) (M : Nat → Option Addr) (st : DSt) (σ : L2.St) (F : Addr → Prop) (H : Hp) (r : Rv) (st' : DSt) (Q : VK), Sim K H0 M st σ F H → f st = some (r, st') →
  (∀ v F' H', Sim K H0 M st' σ F' H' → Ext st σ F H st' F' H' → Fill st st' → RvOk K F' H' st' σ H r v → Q v H') → t σ H Q
def SndT (K : PySem.W.Frag) (t : TT) (f : DT) : Prop := ∀ (H0 : Hp) (M : Nat → Option Addr) (st : DSt) (σ : L2.St) (F : Addr → Prop) (H : Hp) (b : Bool) (st' : DSt) (Q : Bool → Hp → Prop), Sim K H0 M st σ F H → f st = some (b, st') →
  (∀ F' H', Sim K H0 M st' σ F' H' → Ext st σ F H st' F' H' → Fill st st' → Q b H') → t σ H Q
def SndA (K : PySem.W.Frag) (t : TA) (f : DA) : Prop := ∀ (H0 : Hp) (M : Nat → Option Addr) (st : DSt) (σ : L2.St) (F : Addr → Prop) (H : Hp) (rs : List Rv) (st' : DSt) (Q : List V → Hp → Prop), Sim K H0 M st σ F H → f st = some (rs, st') →
  (∀ vs F' H', Sim K H0 M st' σ F' H' → Ext st σ F H st' F' H' → Fill st st' → RvWs K F' H' st' σ H rs vs → Q vs H') → t σ H Q
def SndO (K : PySem.W.Frag) (t : TO) (f : DO) : Prop := ∀ (H0 : Hp) (M : Nat → Option Addr) (st : DSt) (σ : L2.St) (F : Addr → Prop) (H : Hp) (o : Option Int) (st' : DSt) (Q : Option Int → Hp → Prop), Sim K H0 M st σ F H → f st = some (o, st') →
  (∀ F' H', Sim K H0 M st' σ F' H' → Ext st σ F H st' F' H' → Fill st st' → Q o H') → t σ H Q
/-- what an operation makes -/
def NewOk (K : PySem.W.Frag) (F : Addr → Prop) (H H' : Hp) (v : V) : Rv → Prop
  | .d x => Rp K F H' v x
  | .tmp xs => ∃ p vs, v = .ref p ∧ H p = none ∧ H' p = some (.lst vs) ∧ RpAll K F H' vs xs
  | .sl _ => False
def Prim2 (K : PySem.W.Frag) (r : R2) (op : D → D → Option Rv) : Prop := ∀ (F : Addr → Prop) (H : Hp) (v w : V) (x y : D) (z : Rv) (Q : VK), Pk K F H v x → Pk K F H w y → op x y = some z →
  (∀ v' H', Same H H' → NewOk K F H H' v' z → Q v' H') → r v w H Q
def Prim1 (K : PySem.W.Frag) (r : V → Hp → VK → Prop) (op : D → Option Rv) : Prop := ∀ (F : Addr → Prop) (H : Hp) (v : V) (x : D) (z : Rv) (Q : VK), Pk K F H v x → op x = some z →
  (∀ v' H', Same H H' → NewOk K F H H' v' z → Q v' H') → r v H Q
def PrimN (K : PySem.W.Frag) (r : List V → Hp → VK → Prop) (op : List D → Option Rv) : Prop := ∀ (F : Addr → Prop) (H : Hp) (vs : List V) (xs : List D) (z : Rv) (Q : VK), PkAll K F H vs xs → op xs = some z →
  (∀ v' H', Same H H' → NewOk K F H H' v' z → Q v' H') → r vs H Q
def PrimS (K : PySem.W.Frag) (r : V → Option Int → Option Int → Hp → VK → Prop) (op : D → Option Int → Option Int → Option Rv) : Prop := ∀ (F : Addr → Prop) (H : Hp) (v : V) (x : D) (lo hi : Option Int) (z : Rv) (Q : VK), Pk K F H v x → op x lo hi = some z →
  (∀ v' H', Same H H' → NewOk K F H H' v' z → Q v' H') → r v lo hi H Q
section
variable {K : PySem.W.Frag} {H0 : Hp} {M : Nat → Option Addr} {st st' st2 : DSt} {σ : L2.St} {F F' F2 : Addr → Prop} {H H' H2 H3 Hb Hc : Hp} {v w : V} {r : Rv} {x : PyData}
theorem bs {α β : Type} {o : Option α} {f : α → Option β} {r : β} (h : (o.bind f) = some r) : ∃ x, o = some x ∧ f x = some r := by
  cases o with
  | none => cases h
  | some x => exact ⟨x, rfl, h⟩
theorem fin_new {z : Rv} (S2 : Sim K H0 M st2 σ F2 H2) (E : Ext st σ F H st2 F2 H2) (s : Same H2 H3) (n : NewOk K F2 H2 H3 v z) : Sim K H0 M st2 σ F2 H3 ∧ Ext st σ F H st2 F2 H3 ∧ RvOk K F2 H3 st2 σ H z v := by
  refine ⟨S2.grow s, E.trans (.grow s), ?_⟩
  cases z with
  | d x => exact n
  | tmp xs =>
    obtain ⟨p, vs, a, b, c, d⟩ := n
    refine ⟨p, vs, a, c, d, fun z => ?_, fun z => ?_, Classical.byContradiction fun z => E.live p z b⟩
    · obtain ⟨ys, e⟩ := S2.frz p z
      rw [b] at e
      cases e
    · obtain ⟨⟨ys, e⟩, _⟩ := S2.atOwn z
      rw [b] at e
      cases e
  | sl i => exact n.elim

/-! ### names, constants -/
theorem snd_var {i : Nat} : SndE K (tVar i) (dVar i) := by
  intro H0 M st σ F H r st' Q S e q
  have e : (match st.getD i none with
    | some (.d x) => some (.d x, st)
    | some (.own _) => some (.sl i, st)
    | some (.lent _) => some (.sl i, st)
    | none => none) = some (r, st') := e
  cases g : st.getD i none with
  | none => rw [g] at e; cases e
  | some s =>
    rw [g] at e
    cases s with
    | d x =>
      cases e
      obtain ⟨v, e1, r1⟩ := S.dat i x g
      exact ⟨v, e1, q v F H S .refl .refl r1⟩
    | own xs =>
      cases e
      obtain ⟨p, vs, e1, _⟩ := S.own i xs g
      exact ⟨_, e1, q _ F H S .refl .refl e1⟩
    | lent xs =>
      cases e
      obtain ⟨p, vs, _, e1, _⟩ := S.lent i xs g
      exact ⟨_, e1, q _ F H S .refl .refl e1⟩
theorem snd_c {v : V} {x : D} (h : ∀ (F : Addr → Prop) (H : Hp), Rp K F H v x) : SndE K (tC v) (dC x) := by
  intro H0 M st σ F H r st' Q S e q
  cases e
  exact q v F H S .refl .refl (h F H)

/-! ### argument lists -/
theorem snd_nil : SndA K tNil dNil := by
  intro H0 M st σ F H rs st' Q S e q
  cases e
  exact q [] F H S .refl .refl .nil
theorem snd_cons {ta : TE} {tr : TA} {f : DE} {g : DA} (a : SndE K ta f) (b : SndA K tr g) : SndA K (tCons ta tr) (dCons f g) := by
  intro H0 M st σ F H rs st' Q S e q
  obtain ⟨p, e1, e⟩ := bs e
  obtain ⟨w, e2, e⟩ := bs e
  cases e
  refine a H0 M st σ F H p.1 p.2 _ S e1 fun v F1 H1 S1 E1 f1 r1 => ?_
  refine b H0 M p.2 σ F1 H1 w.1 w.2 _ S1 e2 fun vs F2 H2 S2 E2 f2 r2 => ?_
  exact q (v :: vs) F2 H2 S2 (E1.trans E2) (f1.trans f2) (.cons (r1.weak.ext S1 E2 f2) (r2.birth E1.live))

/-! ### operators -/
theorem snd_op2 {r : R2} {op : D → D → Option Rv} {ta tb : TE} {f g : DE} (h : Prim2 K r op) (a : SndE K ta f) (b : SndE K tb g) : SndE K (tOp r ta tb) (dOp2 op f g) := by
  intro H0 M st σ F H z st' Q S e q
  obtain ⟨p, e1, e⟩ := bs e
  obtain ⟨w, e2, e⟩ := bs e
  obtain ⟨x, e3, e⟩ := bs e
  obtain ⟨y, e4, e⟩ := bs e
  obtain ⟨u, e5, e⟩ := bs e
  cases e
  refine a H0 M st σ F H p.1 p.2 _ S e1 fun v F1 H1 S1 E1 f1 r1 => ?_
  refine b H0 M p.2 σ F1 H1 w.1 w.2 _ S1 e2 fun v2 F2 H2 S2 E2 f2 r2 => ?_
  refine h F2 H2 v v2 x y z Q (look_ok S2 (r1.weak.ext S1 E2 f2) e3) (look_ok S2 r2.weak e4) e5 fun v' H' s n => ?_
  obtain ⟨S3, E3, r3⟩ := fin_new S2 (E1.trans E2) s n
  exact q v' F2 H' S3 E3 (f1.trans f2) r3
theorem snd_op1 {r : V → Hp → VK → Prop} {op : D → Option Rv} {ta : TE} {f : DE} (h : Prim1 K r op) (a : SndE K ta f) : SndE K (tUn r ta) (dOp1 op f) := by
  intro H0 M st σ F H z st' Q S e q
  obtain ⟨p, e1, e⟩ := bs e
  obtain ⟨x, e3, e⟩ := bs e
  obtain ⟨u, e5, e⟩ := bs e
  cases e
  refine a H0 M st σ F H p.1 p.2 _ S e1 fun v F1 H1 S1 E1 f1 r1 => ?_
  refine h F1 H1 v x z Q (look_ok S1 r1.weak e3) e5 fun v' H' s n => ?_
  obtain ⟨S3, E3, r3⟩ := fin_new S1 E1 s n
  exact q v' F1 H' S3 E3 f1 r3
theorem snd_callB {r : List V → Hp → VK → Prop} {op : List D → Option Rv} {t : TA} {f : DA} (h : PrimN K r op) (a : SndA K t f) : SndE K (tCB r t) (dCallB op f) := by
  intro H0 M st σ F H z st' Q S e q
  obtain ⟨p, e1, e⟩ := bs e
  obtain ⟨xs, e3, e⟩ := bs e
  obtain ⟨u, e5, e⟩ := bs e
  cases e
  refine a H0 M st σ F H p.1 p.2 _ S e1 fun vs F1 H1 S1 E1 f1 r1 => ?_
  refine h F1 H1 vs xs z Q (looks_ok S1 r1 e3) e5 fun v' H' s n => ?_
  obtain ⟨S3, E3, r3⟩ := fin_new S1 E1 s n
  exact q v' F1 H' S3 E3 f1 r3
theorem snd_nopart : SndO K tNoPart dNoPart := by
  intro H0 M st σ F H o st' Q S e q
  cases e
  exact q F H S .refl .refl
theorem snd_part {t : TE} {f : DE} (a : SndE K t f) : SndO K (tPart t) (dPart f) := by
  intro H0 M st σ F H o st' Q S e q
  obtain ⟨p, e1, e⟩ := bs e
  refine a H0 M st σ F H p.1 p.2 _ S e1 fun v F1 H1 S1 E1 f1 r1 => ?_
  cases g : look p.2 p.1 with
  | none => rw [g] at e; cases e
  | some x =>
    rw [g] at e
    cases x with
    | int i =>
      cases e
      have k := look_ok S1 r1.weak g
      rcases k with k | ⟨_, _, _, _, k, _⟩
      · cases k
        exact ⟨i, rfl, q F1 H1 S1 E1 f1⟩
      · cases k
    | _ => cases e
theorem snd_slice {r : V → Option Int → Option Int → Hp → VK → Prop} {op : D → Option Int → Option Int → Option Rv} {te : TE} {tl th : TO} {f : DE} {fl fh : DO} (h : PrimS K r op) (a : SndE K te f) (b : SndO K tl fl) (c : SndO K th fh) :
    SndE K (tSl r te tl th) (dSlice op f fl fh) := by
  intro H0 M st σ F H z st' Q S e q
  obtain ⟨p, e1, e⟩ := bs e
  obtain ⟨l, e2, e⟩ := bs e
  obtain ⟨u, e3, e⟩ := bs e
  obtain ⟨x, e4, e⟩ := bs e
  obtain ⟨y, e5, e⟩ := bs e
  cases e
  refine a H0 M st σ F H p.1 p.2 _ S e1 fun v F1 H1 S1 E1 f1 r1 => ?_
  refine b H0 M p.2 σ F1 H1 l.1 l.2 _ S1 e2 fun F2 H2 S2 E2 f2 => ?_
  refine c H0 M l.2 σ F2 H2 u.1 u.2 _ S2 e3 fun F3 H3 S3 E3 f3 => ?_
  refine h F3 H3 v x l.1 u.1 z Q (look_ok S3 ((r1.weak.ext S1 E2 f2).ext S2 E3 f3) e4) e5 fun v' H' s n => ?_
  obtain ⟨S4, E4, r4⟩ := fin_new S3 ((E1.trans E2).trans E3) s n
  exact q v' F3 H' S4 E4 ((f1.trans f2).trans f3) r4
theorem same_upd {H : Hp} {p : Addr} {o : HO} (h : H p = none) : Same H (upd H p o) := fun b x e => by
  rw [upd_ne (ne_of_none e h)]
  exact e
theorem snd_list {t : TA} {f : DA} (a : SndA K t f) : SndE K (tLst t) (dList f) := by
  intro H0 M st σ F H z st' Q S e q
  obtain ⟨p, e1, e⟩ := bs e
  obtain ⟨w, e2, e⟩ := bs e
  refine a H0 M st σ F H p.1 p.2 _ S e1 fun vs F1 H1 S1 E1 f1 r1 => ?_
  obtain ⟨F2, S2, E2, rr, _, _, f2⟩ := toDs_ok S1 E1 r1 e2
  by_cases hz : w.1.length ≤ sizeLine
  · rw [if_pos hz] at e
    cases e
    refine ⟨by rw [rr.length]; exact hz, fun p hp => ?_⟩
    obtain ⟨S3, E3, r3⟩ := fin_new (z := .tmp w.1) S2 E2 (same_upd hp) ⟨p, vs, rfl, hp, upd_same, rr.grow (same_upd hp)⟩
    exact q _ F2 _ S3 E3 (f1.trans f2) r3
  · rw [if_neg hz] at e
    cases e
theorem snd_tup {t : TA} {f : DA} (a : SndA K t f) : SndE K (tTup t) (dTup f) := by
  intro H0 M st σ F H z st' Q S e q
  obtain ⟨p, e1, e⟩ := bs e
  obtain ⟨w, e2, e⟩ := bs e
  refine a H0 M st σ F H p.1 p.2 _ S e1 fun vs F1 H1 S1 E1 f1 r1 => ?_
  obtain ⟨F2, S2, E2, rr, _, _, f2⟩ := toDs_ok S1 E1 r1 e2
  by_cases hz : w.1.length ≤ sizeLine
  · rw [if_pos hz] at e
    cases e
    refine ⟨by rw [rr.length]; exact hz, fun p hp => ?_⟩
    obtain ⟨S3, E3, r3⟩ := fin_new (z := .d (.tuple w.1)) S2 E2 (same_upd hp) (show Rp K F2 _ (.ref p) _ from .tup (SqT.of upd_same) (rr.grow (same_upd hp)))
    exact q _ F2 _ S3 E3 (f1.trans f2) r3
  · rw [if_neg hz] at e
    cases e

/-! ### tests -/
theorem look_bool (S : Sim K H0 M st σ F H) (h : RvW K F H st σ Hb r v) {b : Bool} (e : look st r = some (.bool b)) : v = .bl b := by
  rcases look_ok S h e with k | ⟨_, _, _, _, k, _⟩
  · cases k
    rfl
  · cases k
theorem snd_test {t : TE} {f : DE} (a : SndE K t f) : SndT K (tB t) (dTest f) := by
  intro H0 M st σ F H b st' Q S e q
  obtain ⟨p, e1, e⟩ := bs e
  refine a H0 M st σ F H p.1 p.2 _ S e1 fun v F1 H1 S1 E1 f1 r1 => ?_
  cases g : look p.2 p.1 with
  | none => rw [g] at e; cases e
  | some x =>
    rw [g] at e
    cases x with
    | bool c =>
      cases e
      exact ⟨b, look_bool S1 r1.weak g, q F1 H1 S1 E1 f1⟩
    | _ => cases e
theorem snd_testC {t : TE} {f : DE} (a : SndE K t f) : SndT K (tTest t) (dTest f) := snd_test a
theorem snd_not {t : TT} {f : DT} (a : SndT K t f) : SndT K (tNot t) (dNot f) := by
  intro H0 M st σ F H b st' Q S e q
  obtain ⟨p, e1, e⟩ := bs e
  cases e
  exact a H0 M st σ F H p.1 p.2 _ S e1 fun F1 H1 S1 E1 f1 => q F1 H1 S1 E1 f1
theorem snd_and {t u : TT} {f g : DT} (a : SndT K t f) (b : SndT K u g) : SndT K (tAnd t u) (dAnd f g) := by
  intro H0 M st σ F H k st' Q S e q
  obtain ⟨p, e1, e⟩ := bs e
  refine a H0 M st σ F H p.1 p.2 _ S e1 fun F1 H1 S1 E1 f1 => ?_
  by_cases c : p.1 = true
  · rw [if_pos c] at e
    rw [if_pos c]
    exact b H0 M p.2 σ F1 H1 k st' _ S1 e fun F2 H2 S2 E2 f2 => q F2 H2 S2 (E1.trans E2) (f1.trans f2)
  · rw [if_neg c] at e
    rw [if_neg c]
    cases e
    exact q F1 H1 S1 E1 f1
theorem snd_or {t u : TT} {f g : DT} (a : SndT K t f) (b : SndT K u g) : SndT K (tOr t u) (dOr f g) := by
  intro H0 M st σ F H k st' Q S e q
  obtain ⟨p, e1, e⟩ := bs e
  refine a H0 M st σ F H p.1 p.2 _ S e1 fun F1 H1 S1 E1 f1 => ?_
  by_cases c : p.1 = true
  · rw [if_pos c] at e
    rw [if_pos c]
    cases e
    exact q F1 H1 S1 E1 f1
  · rw [if_neg c] at e
    rw [if_neg c]
    exact b H0 M p.2 σ F1 H1 k st' _ S1 e fun F2 H2 S2 E2 f2 => q F2 H2 S2 (E1.trans E2) (f1.trans f2)
theorem snd_andV {t u : TE} {f g : DE} (a : SndE K t f) (b : SndE K u g) : SndE K (tAndV t u) (dAndV f g) := by
  intro H0 M st σ F H k st' Q S e q
  obtain ⟨p, e1, e⟩ := bs e
  refine a H0 M st σ F H p.1 p.2 _ S e1 fun v F1 H1 S1 E1 f1 r1 => ?_
  cases g' : look p.2 p.1 with
  | none => rw [g'] at e; cases e
  | some x =>
    rw [g'] at e
    cases x with
    | bool c =>
      refine ⟨c, look_bool S1 r1.weak g', ?_⟩
      cases c with
      | true =>
        rw [if_pos rfl]
        have e : g p.2 = some (k, st') := e
        exact b H0 M p.2 σ F1 H1 k st' _ S1 e fun v F2 H2 S2 E2 f2 r2 => q v F2 H2 S2 (E1.trans E2) (f1.trans f2) (r2.birth E1.live)
      | false =>
        rw [if_neg Bool.false_ne_true]
        have e : some (Rv.d (.bool false), p.2) = some (k, st') := e
        cases e
        exact q _ F1 H1 S1 E1 f1 (.bl false)
    | _ => cases e
theorem snd_orV {t u : TE} {f g : DE} (a : SndE K t f) (b : SndE K u g) : SndE K (tOrV t u) (dOrV f g) := by
  intro H0 M st σ F H k st' Q S e q
  obtain ⟨p, e1, e⟩ := bs e
  refine a H0 M st σ F H p.1 p.2 _ S e1 fun v F1 H1 S1 E1 f1 r1 => ?_
  cases g' : look p.2 p.1 with
  | none => rw [g'] at e; cases e
  | some x =>
    rw [g'] at e
    cases x with
    | bool c =>
      refine ⟨c, look_bool S1 r1.weak g', ?_⟩
      cases c with
      | false =>
        rw [if_neg Bool.false_ne_true]
        have e : g p.2 = some (k, st') := e
        exact b H0 M p.2 σ F1 H1 k st' _ S1 e fun v F2 H2 S2 E2 f2 r2 => q v F2 H2 S2 (E1.trans E2) (f1.trans f2) (r2.birth E1.live)
      | true =>
        rw [if_pos rfl]
        have e : some (Rv.d (.bool true), p.2) = some (k, st') := e
        cases e
        exact q _ F1 H1 S1 E1 f1 (.bl true)
    | _ => cases e
theorem snd_notV {t : TE} {f : DE} (a : SndE K t f) : SndE K (tNotV t) (dNotV f) := by
  intro H0 M st σ F H k st' Q S e q
  obtain ⟨p, e1, e⟩ := bs e
  refine a H0 M st σ F H p.1 p.2 _ S e1 fun v F1 H1 S1 E1 f1 r1 => ?_
  cases g' : look p.2 p.1 with
  | none => rw [g'] at e; cases e
  | some x =>
    rw [g'] at e
    cases x with
    | bool c =>
      cases e
      exact ⟨c, look_bool S1 r1.weak g', q _ F1 H1 S1 E1 f1 (.bl _)⟩
    | _ => cases e
theorem snd_if {t : TT} {ta tb : TE} {c : DT} {f g : DE} (a : SndT K t c) (b : SndE K ta f) (d : SndE K tb g) : SndE K (tIf t ta tb) (dIf c f g) := by
  intro H0 M st σ F H k st' Q S e q
  obtain ⟨p, e1, e⟩ := bs e
  refine a H0 M st σ F H p.1 p.2 _ S e1 fun F1 H1 S1 E1 f1 => ?_
  by_cases h : p.1 = true
  · rw [if_pos h] at e
    rw [if_pos h]
    exact b H0 M p.2 σ F1 H1 k st' _ S1 e fun v F2 H2 S2 E2 f2 r2 => q v F2 H2 S2 (E1.trans E2) (f1.trans f2) (r2.birth E1.live)
  · rw [if_neg h] at e
    rw [if_neg h]
    exact d H0 M p.2 σ F1 H1 k st' _ S1 e fun v F2 H2 S2 E2 f2 r2 => q v F2 H2 S2 (E1.trans E2) (f1.trans f2) (r2.birth E1.live)
end

/-! ### what the operators' readings ask -/
section
variable {K : PySem.W.Frag} {F : Addr → Prop} {H : Hp} {v : V}
theorem Pk.int {i : Int} (h : Pk K F H v (.int i)) : v = .int i := by
  rcases h with k | ⟨_, _, _, _, k, _⟩
  · cases k; rfl
  · cases k
theorem Pk.bl {i : Bool} (h : Pk K F H v (.bool i)) : v = .bl i := by
  rcases h with k | ⟨_, _, _, _, k, _⟩
  · cases k; rfl
  · cases k
theorem Pk.str {i : Str} (h : Pk K F H v (.str i)) : v = .str i := by
  rcases h with k | ⟨_, _, _, _, k, _⟩
  · cases k; rfl
  · cases k
theorem Pk.non (h : Pk K F H v .none) : v = .non := by
  rcases h with k | ⟨_, _, _, _, k, _⟩
  · cases k; rfl
  · cases k
theorem Pk.list {xs : List D} (h : Pk K F H v (.list xs)) : ∃ p vs, v = .ref p ∧ SqL K H p vs ∧ RpAll K F H vs xs := by
  rcases h with k | ⟨p, vs, ys, rfl, k, e, r⟩
  · cases k with
    | lst a b => exact ⟨_, _, rfl, a.sql, b⟩
  · cases k
    exact ⟨p, vs, rfl, SqL.of e, r⟩
theorem Pk.tup {xs : List D} (h : Pk K F H v (.tuple xs)) : ∃ p vs, v = .ref p ∧ SqT K H p vs ∧ RpAll K F H vs xs := by
  rcases h with k | ⟨p, vs, ys, rfl, k, e, r⟩
  · cases k with
    | tup a b => exact ⟨_, _, rfl, a, b⟩
  · cases k
theorem Pk.dp {x : D} (h : Pk K F H v x) (n : x.hasDict = false) : Dp K H v x := by
  rcases h with k | ⟨p, vs, ys, rfl, k, e, r⟩
  · exact k.dp n
  · subst k
    exact .lst (SqL.of e) (r.dp (by simpa [PyData.hasDict] using n))
theorem Same.rfl' : Same H H := fun _ _ h => h
theorem p_int2 {g : Int → Int → V} {gd : Int → Int → Option Rv} {C : Int → Int → Prop} (h : ∀ i j z, gd i j = some z → C i j ∧ ∀ (F : Addr → Prop) (H : Hp), NewOk K F H H (g i j) z) :
    Prim2 K (rI C g) fun x y => match x, y with | .int i, .int j => gd i j | _, _ => none := by
  intro F H v w x y z Q a b e q
  cases x with
  | int i =>
    cases y with
    | int j =>
      obtain ⟨c, n⟩ := h i j z e
      exact ⟨i, j, a.int, b.int, c, q _ H Same.rfl' (n F H)⟩
    | _ => cases e
  | _ => cases e
theorem prim_sub : Prim2 K (rI0 fun i j => .int (i - j)) opSub := by
  intro F H v w x y z Q a b e q
  cases x <;> cases y <;> try (cases e; done)
  cases e
  exact ⟨_, _, a.int, b.int, q _ H Same.rfl' (.int _)⟩
theorem prim_div : Prim2 K (rI CDivW fun i j => .int (i / j)) opDiv := by
  intro F H v w x y z Q a b e q
  cases x <;> cases y <;> try (cases e; done)
  rename_i i j
  have e : (if 0 < j ∧ j.natAbs.log2 < 9000 then some (Rv.d (.int (i / j))) else none) = some z := e
  by_cases c : 0 < j ∧ j.natAbs.log2 < 9000
  · rw [if_pos c] at e
    cases e
    exact ⟨_, _, a.int, b.int, c, q _ H Same.rfl' (.int _)⟩
  · rw [if_neg c] at e
    cases e
theorem prim_mod : Prim2 K (rI (fun _ j => 0 < j) fun i j => .int (i % j)) opMod := by
  intro F H v w x y z Q a b e q
  cases x <;> cases y <;> try (cases e; done)
  rename_i i j
  have e : (if 0 < j then some (Rv.d (.int (i % j))) else none) = some z := e
  by_cases c : 0 < j
  · rw [if_pos c] at e
    cases e
    exact ⟨_, _, a.int, b.int, c, q _ H Same.rfl' (.int _)⟩
  · rw [if_neg c] at e
    cases e
theorem prim_pow : Prim2 K (rI CPow fun i j => .int (i ^ j.toNat)) opPow := by
  intro F H v w x y z Q a b e q
  cases x <;> cases y <;> try (cases e; done)
  rename_i i j
  have e : (if 0 ≤ j ∧ j ≤ 1000000 ∧ i.natAbs < 2 ^ 64 then some (Rv.d (.int (i ^ j.toNat))) else none) = some z := e
  by_cases c : 0 ≤ j ∧ j ≤ 1000000 ∧ i.natAbs < 2 ^ 64
  · rw [if_pos c] at e
    cases e
    exact ⟨_, _, a.int, b.int, c, q _ H Same.rfl' (.int _)⟩
  · rw [if_neg c] at e
    cases e
theorem prim_cmp {p : Int → Int → Bool} : Prim2 K (rI0 fun i j => .bl (p i j)) (opCmp p) := by
  intro F H v w x y z Q a b e q
  cases x <;> cases y <;> try (cases e; done)
  cases e
  exact ⟨_, _, a.int, b.int, q _ H Same.rfl' (.bl _)⟩
theorem prim_neg : Prim1 K (rU fun i => .int (-i)) opNeg := by
  intro F H v x z Q a e q
  cases x <;> try (cases e; done)
  cases e
  exact ⟨_, a.int, q _ H Same.rfl' (.int _)⟩
theorem flat_plain {x : PyData} (h : flat x = true) : x.plain = true := by
  unfold flat at h
  exact (Bool.and_eq_true _ _ ▸ h).1
theorem flat_depth {x : PyData} (h : flat x = true) : x.depth ≤ 64 := by
  unfold flat at h
  exact of_decide_eq_true (Bool.and_eq_true _ _ ▸ h).2
mutual
theorem plain_noDict : ∀ x : PyData, x.plain = true → x.hasDict = false
  | .none, _ => rfl
  | .bool _, _ => rfl
  | .int _, _ => rfl
  | .str _, _ => rfl
  | .list xs, h => by
    simp only [PyData.plain] at h
    simp only [PyData.hasDict]
    exact plain_noDictAll xs h
  | .tuple xs, h => by
    simp only [PyData.plain] at h
    simp only [PyData.hasDict]
    exact plain_noDictAll xs h
  | .dict _, h => by simp [PyData.plain] at h
theorem plain_noDictAll : ∀ xs : List PyData, PyData.plainAll xs = true → PyData.hasDictAll xs = false
  | [], _ => rfl
  | x :: xs, h => by
    simp only [PyData.plainAll, Bool.and_eq_true] at h
    simp only [PyData.hasDictAll, Bool.or_eq_false_iff]
    exact ⟨plain_noDict x h.1, plain_noDictAll xs h.2⟩
end
theorem flat_noDict {x : PyData} (h : flat x = true) : x.hasDict = false := plain_noDict x (flat_plain h)
def rEqP (K : PySem.W.Frag) : R2 := fun x y H Q => ∃ d e, Dp K H x d ∧ Dp K H y e ∧ flat d = true ∧ flat e = true ∧ Q (.bl (PyData.eqv d e)) H
def rNeP (K : PySem.W.Frag) : R2 := fun x y H Q => ∃ d e, Dp K H x d ∧ Dp K H y e ∧ flat d = true ∧ flat e = true ∧ Q (.bl (!PyData.eqv d e)) H
theorem op_eqP {X : Cx} (hu : X.A.units + 64 < cLine) : OpR X (compareOp .Eq) (rEqP X.K) := by
  intro pins s σ H x y v u Q I rx ry h
  obtain ⟨d, e, hd, he, sd, se, q⟩ := h
  obtain ⟨as, r1⟩ := Dp.reads I d x v hd rx
  obtain ⟨bs, r2⟩ := Dp.reads I e y u he ry
  have h1 := flat_depth sd
  exact SeqAt.eq_plain r1 r2 (flat_plain sd) (flat_plain se) (by omega) ⟨.bl _, H, I, rfl, q⟩
theorem op_neP {X : Cx} (hu : X.A.units + 64 < cLine) : OpR X (compareOp .NotEq) (rNeP X.K) := by
  intro pins s σ H x y v u Q I rx ry h
  obtain ⟨d, e, hd, he, sd, se, q⟩ := h
  obtain ⟨as, r1⟩ := Dp.reads I d x v hd rx
  obtain ⟨bs, r2⟩ := Dp.reads I e y u he ry
  have h1 := flat_depth sd
  exact SeqAt.ne_plain r1 r2 (flat_plain sd) (flat_plain se) (by omega) ⟨.bl _, H, I, rfl, q⟩
theorem prim_eq : Prim2 K (rEqP K) opEq := by
  intro F H v w x y z Q a b e q
  have e : (if flat x = true ∧ flat y = true then some (Rv.d (.bool (PyData.eqv x y))) else none) = some z := e
  by_cases c : flat x = true ∧ flat y = true
  · rw [if_pos c] at e
    cases e
    exact ⟨x, y, a.dp (flat_noDict c.1), b.dp (flat_noDict c.2), c.1, c.2, q _ H Same.rfl' (.bl _)⟩
  · rw [if_neg c] at e
    cases e
theorem prim_ne : Prim2 K (rNeP K) opNe := by
  intro F H v w x y z Q a b e q
  have e : (if flat x = true ∧ flat y = true then some (Rv.d (.bool (!PyData.eqv x y))) else none) = some z := e
  by_cases c : flat x = true ∧ flat y = true
  · rw [if_pos c] at e
    cases e
    exact ⟨x, y, a.dp (flat_noDict c.1), b.dp (flat_noDict c.2), c.1, c.2, q _ H Same.rfl' (.bl _)⟩
  · rw [if_neg c] at e
    cases e
end
end DL
end

section
set_option Elab.async false
set_option linter.all false
set_option maxRecDepth 100000
set_option maxHeartbeats 1000000
/-! DLsnd3: readings of statements, loops, comprehensions, calls. -/
namespace DL
open PySem PySem.Spec PyProof.Rows L2
/-- from one point of a def's run to a later one -/
structure FExt (K : PySem.W.Frag) (H0 : Hp) (F : Addr → Prop) (H : Hp) (F' : Addr → Prop) (H' : Hp) : Prop where
  sub : ∀ a, F a → F' a
  new : ∀ a, F' a → F a ∨ H0 a = none
  fl : ∀ a xs, FL K F H a xs → FL K F' H' a xs
  tup : ∀ a xs, STD K H a xs → STD K H' a xs
def RtOk (K : PySem.W.Frag) (H0 : Hp) (F : Addr → Prop) (H : Hp) : Rt → V → Prop
  | .d x, v => Rp K F H v x
  | .own xs, v => ∃ p vs, v = .ref p ∧ H p = some (.lst vs) ∧ RpAll K F H vs xs ∧ ¬ F p ∧ H0 p = none
def FlOk (K : PySem.W.Frag) (H0 : Hp) (M : Nat → Option Addr) (F : Addr → Prop) (H : Hp) (st' : DSt) (E : Ends) : Fl → Prop
  | .nx => ∀ σ' F' H', Sim K H0 M st' σ' F' H' → FExt K H0 F H F' H' → E.nx σ' H'
  | .bk => ∀ σ' F' H', Sim K H0 M st' σ' F' H' → FExt K H0 F H F' H' → E.bk σ' H'
  | .ct => ∀ σ' F' H', Sim K H0 M st' σ' F' H' → FExt K H0 F H F' H' → E.ct σ' H'
  | .rt r => ∀ v σ' F' H', Sim K H0 M st' σ' F' H' → FExt K H0 F H F' H' → RtOk K H0 F' H' r v → E.rt v H'
def SndS (K : PySem.W.Frag) (t : TS) (g : DS) : Prop := ∀ (H0 : Hp) (M : Nat → Option Addr) (st : DSt) (σ : L2.St) (F : Addr → Prop) (H : Hp) (fl : Fl) (st' : DSt) (E : Ends), Sim K H0 M st σ F H → g st = some (fl, st') →
  FlOk K H0 M F H st' E fl → t E σ H
def SndG (K : PySem.W.Frag) (is : List Nat) (tg : TG) (g : DG) : Prop := ∀ (H0 : Hp) (M : Nat → Option Addr) (st : DSt) (σ : L2.St) (F : Addr → Prop) (H : Hp) (x : D) (v : V) (st' : DSt) (Q : L2.St → Hp → Prop), Sim K H0 M st σ F H → Rp K F H v x → g x st = some st' →
  (∀ σ', Sim K H0 M st' σ' F H → (σ'.length = σ.length ∧ ∀ j, j ∉ is → σ'[j]? = σ[j]?) → (∀ j, IsOwn st' j → IsOwn st j ∧ j ∉ is) → Q σ' H) → tg v σ H Q
def SndGs (K : PySem.W.Frag) (is : List Nat) (tg : TGs) (g : DGs) : Prop := ∀ (H0 : Hp) (M : Nat → Option Addr) (st : DSt) (σ : L2.St) (F : Addr → Prop) (H : Hp) (xs : List D) (vs : List V) (st' : DSt) (Q : L2.St → Hp → Prop), Sim K H0 M st σ F H → RpAll K F H vs xs → g xs st = some st' →
  (∀ σ', Sim K H0 M st' σ' F H → (σ'.length = σ.length ∧ ∀ j, j ∉ is → σ'[j]? = σ[j]?) → (∀ j, IsOwn st' j → IsOwn st j ∧ j ∉ is) → Q σ' H) → tg vs σ H Q
section
variable {K : PySem.W.Frag} {H0 : Hp} {M : Nat → Option Addr} {st st' st2 : DSt} {σ σ' : L2.St} {F F' F2 : Addr → Prop} {H H' H2 H3 Hb Hc : Hp} {v w : V} {r : Rv} {x : PyData} {fl : Fl} {E : Ends}
theorem FExt.refl : FExt K H0 F H F H := ⟨fun _ h => h, fun _ h => .inl h, fun _ _ h => h, fun _ _ h => h⟩
theorem FExt.trans (a : FExt K H0 F H F' H') (b : FExt K H0 F' H' F2 H2) : FExt K H0 F H F2 H2 :=
  ⟨fun c h => b.sub c (a.sub c h), fun c h => (b.new c h).elim (a.new c) .inr, fun c xs h => b.fl c xs (a.fl c xs h), fun c xs h => b.tup c xs (a.tup c xs h)⟩
theorem FExt.rp (E : FExt K H0 F H F' H') (h : Rp K F H v x) : Rp K F' H' v x := h.mono E.fl E.tup
theorem FExt.rpAll (E : FExt K H0 F H F' H') {vs : List V} {xs : List D} (h : RpAll K F H vs xs) : RpAll K F' H' vs xs := h.mono E.fl E.tup
theorem Ext.fext (S : Sim K H0 M st σ F H) (S' : Sim K H0 M st' σ F' H') (E : Ext st σ F H st' F' H') : FExt K H0 F H F' H' := by
  refine ⟨E.sub, fun a h => ?_, fun a xs h => E.fl S h, fun a xs h => E.std S h⟩
  rcases E.new a h with z | z | ⟨i, ⟨xs, z⟩, e⟩
  · exact .inl z
  · exact .inr (S.fresh0 z)
  · rcases z with z | z
    · obtain ⟨p, vs, e1, _, _, _, e2⟩ := S.own i xs z
      rw [e] at e1
      cases e1
      exact .inr e2
    · obtain ⟨p, vs, m, e1, _⟩ := S.lent i xs z
      rw [e] at e1
      cases e1
      obtain ⟨ys, z'⟩ := S'.lentE i _ m
      obtain ⟨p', vs', m', _, _, _, nf⟩ := S'.lent i ys z'
      rw [m] at m'
      cases m'
      exact absurd h nf
theorem FlOk.from (e : FExt K H0 F H F' H') (h : FlOk K H0 M F H st' E fl) : FlOk K H0 M F' H' st' E fl := by
  cases fl with
  | nx => exact fun σ1 F1 H1 S1 e1 => h σ1 F1 H1 S1 (e.trans e1)
  | bk => exact fun σ1 F1 H1 S1 e1 => h σ1 F1 H1 S1 (e.trans e1)
  | ct => exact fun σ1 F1 H1 S1 e1 => h σ1 F1 H1 S1 (e.trans e1)
  | rt r => exact fun v σ1 F1 H1 S1 e1 => h v σ1 F1 H1 S1 (e.trans e1)

/-! ### slots stored -/
theorem σget {i j : Nat} {o : Option V} (hi : i < σ.length) : (σ.set i o)[j]? = if i = j then some o else σ[j]? := by
  rw [List.getElem?_set]
  by_cases h : i = j
  · subst h
    simp [hi]
  · simp [h]
theorem Sim.setD (S : Sim K H0 M st σ F H) {i : Nat} (hi : i < st.length) (nl : ∀ xs, st.getD i none ≠ some (.lent xs)) (r : Rp K F H v x) : Sim K H0 M (st.set i (some (.d x))) (σ.set i (some v)) F H := by
  have hσ : i < σ.length := by rw [S.len]; exact hi
  have own : ∀ j, IsOwn (st.set i (some (.d x))) j → IsOwn st j ∧ i ≠ j := fun j ⟨ys, hj⟩ => by
    rw [getD_set hi] at hj
    by_cases ij : i = j
    · rw [if_pos ij] at hj
      rcases hj with hj | hj <;> cases hj
    · rw [if_neg ij] at hj
      exact ⟨⟨ys, hj⟩, ij⟩
  refine ⟨by rw [List.length_set, List.length_set]; exact S.len, fun j y hj => ?_, fun j ys hj => ?_, fun j ys hj => ?_, fun j q m => ?_, S.lent0, fun j k q a b e1 e2 => ?_, S.frz, S.base⟩
  · rw [getD_set hi] at hj
    rw [σget hσ]
    by_cases ij : i = j
    · rw [if_pos ij] at hj
      cases hj
      exact ⟨v, if_pos ij, r⟩
    · rw [if_neg ij] at hj
      rw [if_neg ij]
      exact S.dat j y hj
  · obtain ⟨_, ij⟩ := own j ⟨ys, .inl hj⟩
    rw [getD_set hi, if_neg ij] at hj
    rw [σget hσ, if_neg ij]
    exact S.own j ys hj
  · obtain ⟨_, ij⟩ := own j ⟨ys, .inr hj⟩
    rw [getD_set hi, if_neg ij] at hj
    rw [σget hσ, if_neg ij]
    exact S.lent j ys hj
  · obtain ⟨ys, h⟩ := S.lentE j q m
    refine ⟨ys, ?_⟩
    rw [getD_set hi, if_neg, h]
    rintro rfl
    exact nl ys h
  · obtain ⟨a, ij⟩ := own j a
    obtain ⟨b, ik⟩ := own k b
    rw [σget hσ, if_neg ij] at e1
    rw [σget hσ, if_neg ik] at e2
    exact S.inj j k q a b e1 e2
theorem Sim.setOwn (S : Sim K H0 M st σ F H) {i : Nat} {p : Addr} {vs : List V} {xs : List D} (hi : i < st.length) (nl : ∀ xs, st.getD i none ≠ some (.lent xs)) (hp : H p = some (.lst vs)) (r : RpAll K F H vs xs) (nf : ¬ F p) (no : ¬ OwnAt st σ p) (h0 : H0 p = none) :
    Sim K H0 M (st.set i (some (.own xs))) (σ.set i (some (.ref p))) F H := by
  have hσ : i < σ.length := by rw [S.len]; exact hi
  have own : ∀ j, i ≠ j → IsOwn (st.set i (some (.own xs))) j → IsOwn st j := fun j ij ⟨ys, hj⟩ => by
    rw [getD_set hi, if_neg ij] at hj
    exact ⟨ys, hj⟩
  refine ⟨by rw [List.length_set, List.length_set]; exact S.len, fun j y hj => ?_, fun j ys hj => ?_, fun j ys hj => ?_, fun j q m => ?_, S.lent0, fun j k q a b e1 e2 => ?_, S.frz, S.base⟩
  · rw [getD_set hi] at hj
    rw [σget hσ]
    by_cases ij : i = j
    · rw [if_pos ij] at hj
      cases hj
    · rw [if_neg ij] at hj
      rw [if_neg ij]
      exact S.dat j y hj
  · rw [getD_set hi] at hj
    rw [σget hσ]
    by_cases ij : i = j
    · rw [if_pos ij] at hj
      cases hj
      exact ⟨p, vs, if_pos ij, hp, r, nf, h0⟩
    · rw [if_neg ij] at hj
      rw [if_neg ij]
      exact S.own j ys hj
  · rw [getD_set hi] at hj
    rw [σget hσ]
    by_cases ij : i = j
    · rw [if_pos ij] at hj
      cases hj
    · rw [if_neg ij] at hj
      rw [if_neg ij]
      exact S.lent j ys hj
  · obtain ⟨ys, h⟩ := S.lentE j q m
    refine ⟨ys, ?_⟩
    rw [getD_set hi, if_neg, h]
    rintro rfl
    exact nl ys h
  · rw [σget hσ] at e1 e2
    by_cases ij : i = j
    · by_cases ik : i = k
      · exact ij.symm.trans ik
      · rw [if_pos ij] at e1
        rw [if_neg ik] at e2
        cases e1
        exact absurd ⟨k, own k ik b, e2⟩ no
    · by_cases ik : i = k
      · rw [if_neg ij] at e1
        rw [if_pos ik] at e2
        cases e2
        exact absurd ⟨j, own j ij a, e1⟩ no
      · rw [if_neg ij] at e1
        rw [if_neg ik] at e2
        exact S.inj j k q (own j ij a) (own k ik b) e1 e2
theorem setS_ok {i : Nat} {s : SV} (e : setS st i s = some st') : i < st.length ∧ (∀ xs, st.getD i none ≠ some (.lent xs)) ∧ st' = st.set i (some s) := by
  have go : ∀ {o : Option DSt}, o = (if i < st.length then some (st.set i (some s)) else none) → o = some st' → i < st.length ∧ st' = st.set i (some s) := fun h h' => by
    rw [h] at h'
    by_cases c : i < st.length
    · rw [if_pos c] at h'
      cases h'
      exact ⟨c, rfl⟩
    · rw [if_neg c] at h'
      cases h'
  unfold setS at e
  cases q : st.getD i none with
  | none =>
    rw [q] at e
    obtain ⟨a, b⟩ := go rfl e
    exact ⟨a, fun xs z => (by cases z), b⟩
  | some t =>
    rw [q] at e
    cases t with
    | lent ys => cases e
    | d y =>
      obtain ⟨a, b⟩ := go rfl e
      exact ⟨a, fun xs z => (by cases z), b⟩
    | own ys =>
      obtain ⟨a, b⟩ := go rfl e
      exact ⟨a, fun xs z => (by cases z), b⟩

/-! ### targets -/
theorem snd_gname {i : Nat} : SndG K [i] (L2.gName i) (gName i) := by
  intro H0 M st σ F H x v st' Q S r e q
  obtain ⟨hi, nl, rfl⟩ := setS_ok e
  refine q _ (S.setD hi nl r) ⟨List.length_set, fun j hj => ?_⟩ fun j ⟨ys, hj⟩ => ?_
  · rw [List.getElem?_set_ne]
    rintro rfl
    exact hj (by simp)
  · rw [getD_set hi] at hj
    by_cases ij : i = j
    · rw [if_pos ij] at hj
      rcases hj with hj | hj <;> cases hj
    · rw [if_neg ij] at hj
      exact ⟨⟨ys, hj⟩, fun z => ij (List.mem_singleton.mp z).symm⟩
theorem snd_gnil : SndGs K [] L2.gNil gNil := by
  intro H0 M st σ F H xs vs st' Q S r e q
  cases r with
  | nil => cases e; exact ⟨rfl, q _ S ⟨rfl, fun _ _ => rfl⟩ fun j h => ⟨h, by simp⟩⟩
  | cons _ _ => cases e
theorem snd_gcons {is js : List Nat} {t : TG} {u : TGs} {g : DG} {h : DGs} (a : SndG K is t g) (b : SndGs K js u h) : SndGs K (is ++ js) (L2.gCons t u) (gCons g h) := by
  intro H0 M st σ F H xs vs st' Q S r e q
  cases r with
  | nil => cases e
  | @cons v vs d ds r1 r2 =>
    obtain ⟨s1, e1, e2⟩ := bs e
    refine ⟨v, vs, rfl, a H0 M st σ F H d v s1 _ S r1 e1 fun σ1 S1 f1 g1 => ?_⟩
    refine b H0 M s1 σ1 F H ds vs st' _ S1 r2 e2 fun σ2 S2 f2 g2 => q σ2 S2 ⟨f2.1.trans f1.1, fun j hj => ?_⟩ fun j h => ?_
    · rw [List.mem_append] at hj
      exact (f2.2 j fun z => hj (.inr z)).trans (f1.2 j fun z => hj (.inl z))
    · obtain ⟨h2, n2⟩ := g2 j h
      obtain ⟨h1, n1⟩ := g1 j h2
      refine ⟨h1, fun z => ?_⟩
      rcases List.mem_append.mp z with z | z
      · exact n1 z
      · exact n2 z
theorem snd_gtup {is : List Nat} {n : Nat} {t : TGs} {h : DGs} (a : SndGs K is t h) : SndG K is (L2.gTup K n t) (gTup n h) := by
  intro H0 M st σ F H x v st' Q S r e q
  cases x with
  | tuple xs =>
    have e : (if xs.length = n then h xs st else none) = some st' := e
    by_cases c : xs.length = n
    · rw [if_pos c] at e
      cases r with
      | @tup p vs ds hs ha => exact ⟨p, vs, rfl, hs, ha.length.trans c, a H0 M st σ F H xs vs st' Q S ha e q⟩
    · rw [if_neg c] at e
      cases e
  | _ => cases e

/-! ### statements -/
theorem snd_next : SndS K tNext dNext := by
  intro H0 M st σ F H fl st' E S e q
  cases e
  exact q σ F H S .refl
theorem snd_break : SndS K tBreak dBreak := by
  intro H0 M st σ F H fl st' E S e q
  cases e
  exact q σ F H S .refl
theorem snd_cont : SndS K tCont dCont := by
  intro H0 M st σ F H fl st' E S e q
  cases e
  exact q σ F H S .refl
theorem snd_never {t : TS} : SndS K t dNever := by
  intro H0 M st σ F H fl st' E S e q
  cases e
theorem snd_seq {t u : TS} {f g : DS} (a : SndS K t f) (b : SndS K u g) : SndS K (tSeq t u) (dSeq f g) := by
  intro H0 M st σ F H fl st' E S e q
  obtain ⟨p, e1, e⟩ := bs e
  obtain ⟨f1, s1⟩ := p
  refine a H0 M st σ F H f1 s1 _ S e1 ?_
  cases f1 with
  | nx => exact fun σ1 F1 H1 S1 x1 => b H0 M s1 σ1 F1 H1 fl st' E S1 e (q.from x1)
  | bk => cases e; exact q
  | ct => cases e; exact q
  | rt r => cases e; exact q
theorem snd_set {i : Nat} {t : TE} {f : DE} (a : SndE K t f) : SndS K (tAsg t (L2.gName i)) (dSet i f) := by
  intro H0 M st σ F H fl st' E S e q
  obtain ⟨p, e1, e⟩ := bs e
  obtain ⟨r, s1⟩ := p
  refine a H0 M st σ F H r s1 _ S e1 fun v F1 H1 S1 E1 f1 r1 => ?_
  have fin : ∀ {F2 : Addr → Prop} {s2 : DSt} {x : D}, Sim K H0 M s2 σ F2 H1 → Ext st σ F H s2 F2 H1 → Rp K F2 H1 v x → ((setS s2 i (.d x)).bind fun s => some (Fl.nx, s)) = some (fl, st') → E.nx (σ.set i (some v)) H1 := fun {F2 s2 x} S2 E2 r2 e2 => by
    obtain ⟨s, e3, e4⟩ := bs e2
    cases e4
    obtain ⟨hi, nl, rfl⟩ := setS_ok e3
    have S3 := S2.setD hi nl r2
    exact q _ F2 H1 S3 (E2.fext S S2)
  cases r with
  | tmp xs =>
    have e : ((setS s1 i (.own xs)).bind fun s => some (Fl.nx, s)) = some (fl, st') := e
    obtain ⟨s, e3, e4⟩ := bs e
    cases e4
    obtain ⟨hi, nl, rfl⟩ := setS_ok e3
    obtain ⟨p, vs, rfl, b, c, nf, no, h0⟩ := r1
    exact q _ F1 H1 (S1.setOwn hi nl b c nf no (S.fresh0 h0)) (E1.fext S S1)
  | d x =>
    have e : ((toD s1 (.d x)).bind fun q => (setS q.2 i (.d q.1)).bind fun s => some (Fl.nx, s)) = some (fl, st') := e
    exact fin S1 E1 r1 e
  | sl j =>
    have e : ((toD s1 (.sl j)).bind fun q => (setS q.2 i (.d q.1)).bind fun s => some (Fl.nx, s)) = some (fl, st') := e
    obtain ⟨p, e2, e3⟩ := bs e
    obtain ⟨F2, S2, E2, r2, _⟩ := toD_ok S1 E1 (RvOk.weak r1) e2
    exact fin S2 E2 r2 e3
theorem snd_asg {is : List Nat} {t : TE} {tg : TG} {f : DE} {g : DG} (a : SndE K t f) (b : SndG K is tg g) : SndS K (tAsg t tg) (dAsg g f) := by
  intro H0 M st σ F H fl st' E S e q
  obtain ⟨p, e1, e⟩ := bs e
  obtain ⟨w, e2, e⟩ := bs e
  obtain ⟨s, e3, e⟩ := bs e
  cases e
  refine a H0 M st σ F H p.1 p.2 _ S e1 fun v F1 H1 S1 E1 f1 r1 => ?_
  obtain ⟨F2, S2, E2, r2, _⟩ := toD_ok S1 E1 r1.weak e2
  exact b H0 M w.2 σ F2 H1 w.1 v st' _ S2 r2 e3 fun σ' S3 _ _ => q σ' F2 H1 S3 (E2.fext S S2)
theorem snd_par2 {i j : Nat} {t : TA} {f : DA} (a : SndA K t f) : SndS K (tPar i j t) (dPar [i, j] f) := by
  intro H0 M st σ F H fl st' E S e q
  obtain ⟨p, e1, e⟩ := bs e
  obtain ⟨w, e2, e⟩ := bs e
  obtain ⟨s, e3, e⟩ := bs e
  cases e
  refine a H0 M st σ F H p.1 p.2 _ S e1 fun vs F1 H1 S1 E1 f1 r1 => ?_
  obtain ⟨F2, S2, E2, rr, _⟩ := toDs_ok S1 E1 r1 e2
  obtain ⟨ws, s2⟩ := w
  match ws, vs, rr, e3 with
  | [x, y], [v1, v2], .cons r1 (.cons r2 .nil), e3 =>
    obtain ⟨s3, e4, e5⟩ := bs e3
    obtain ⟨hi, nl, rfl⟩ := setS_ok e4
    obtain ⟨s4, e6, e7⟩ := bs e5
    obtain ⟨hj, nl2, rfl⟩ := setS_ok e6
    cases e7
    exact ⟨v1, v2, rfl, q _ F2 H1 ((S2.setD hi nl r1).setD hj nl2 r2) (E2.fext S S2)⟩
  | [], _, _, e3 => cases e3
  | [x], _, _, e3 =>
    obtain ⟨s3, e4, e5⟩ := bs e3
    cases e5
  | x :: y :: z :: r, _, _, e3 =>
    obtain ⟨s3, e4, e5⟩ := bs e3
    obtain ⟨s4, e6, e7⟩ := bs e5
    cases e7
theorem snd_par3 {i j l : Nat} {t : TA} {f : DA} (a : SndA K t f) : SndS K (tPar3 i j l t) (dPar [i, j, l] f) := by
  intro H0 M st σ F H fl st' E S e q
  obtain ⟨p, e1, e⟩ := bs e
  obtain ⟨w, e2, e⟩ := bs e
  obtain ⟨s, e3, e⟩ := bs e
  cases e
  refine a H0 M st σ F H p.1 p.2 _ S e1 fun vs F1 H1 S1 E1 f1 r1 => ?_
  obtain ⟨F2, S2, E2, rr, _⟩ := toDs_ok S1 E1 r1 e2
  obtain ⟨ws, s2⟩ := w
  match ws, vs, rr, e3 with
  | [x, y, z], [v1, v2, v3], .cons r1 (.cons r2 (.cons r3 .nil)), e3 =>
    obtain ⟨s3, e4, e5⟩ := bs e3
    obtain ⟨hi, nl, rfl⟩ := setS_ok e4
    obtain ⟨s4, e6, e7⟩ := bs e5
    obtain ⟨hj, nl2, rfl⟩ := setS_ok e6
    obtain ⟨s5, e8, e9⟩ := bs e7
    obtain ⟨hl, nl3, rfl⟩ := setS_ok e8
    cases e9
    exact ⟨v1, v2, v3, rfl, q _ F2 H1 (((S2.setD hi nl r1).setD hj nl2 r2).setD hl nl3 r3) (E2.fext S S2)⟩
  | [], _, _, e3 => cases e3
  | [x], _, _, e3 =>
    obtain ⟨s3, e4, e5⟩ := bs e3
    cases e5
  | [x, y], _, _, e3 =>
    obtain ⟨s3, e4, e5⟩ := bs e3
    obtain ⟨s4, e6, e7⟩ := bs e5
    cases e7
  | x :: y :: z :: u :: r, _, _, e3 =>
    obtain ⟨s3, e4, e5⟩ := bs e3
    obtain ⟨s4, e6, e7⟩ := bs e5
    obtain ⟨s5, e8, e9⟩ := bs e7
    cases e9
theorem snd_drop {t : TE} {f : DE} (a : SndE K t f) : SndS K (tDrop t) (dDrop f) := by
  intro H0 M st σ F H fl st' E S e q
  obtain ⟨p, e1, e⟩ := bs e
  cases e
  exact a H0 M st σ F H p.1 p.2 _ S e1 fun v F1 H1 S1 E1 f1 r1 => q σ F1 H1 S1 (E1.fext S S1)
theorem Sim.forget (S : Sim K H0 M st σ F H) {i : Nat} (nl : ∀ xs, st.getD i none ≠ some (.lent xs)) : Sim K H0 M (st.set i none) σ F H := by
  by_cases hi : i < st.length
  · have own : ∀ j, IsOwn (st.set i none) j → IsOwn st j := fun j ⟨ys, hj⟩ => by
      rw [getD_set hi] at hj
      by_cases ij : i = j
      · rw [if_pos ij] at hj
        rcases hj with hj | hj <;> cases hj
      · rw [if_neg ij] at hj
        exact ⟨ys, hj⟩
    have back : ∀ j s, (st.set i none).getD j none = some s → st.getD j none = some s := fun j s hj => by
      rw [getD_set hi] at hj
      by_cases ij : i = j
      · rw [if_pos ij] at hj
        cases hj
      · rw [if_neg ij] at hj
        exact hj
    refine ⟨by rw [List.length_set]; exact S.len, fun j y hj => S.dat j y (back j _ hj), fun j ys hj => S.own j ys (back j _ hj), fun j ys hj => S.lent j ys (back j _ hj), fun j q m => ?_, S.lent0, fun j k q a b => S.inj j k q (own j a) (own k b), S.frz, S.base⟩
    obtain ⟨ys, h⟩ := S.lentE j q m
    refine ⟨ys, ?_⟩
    rw [getD_set hi, if_neg, h]
    rintro rfl
    exact nl ys h
  · rw [List.set_eq_of_length_le (by omega)]
    exact S
theorem snd_ret {t : TE} {f : DE} (a : SndE K t f) : SndS K (tRet t) (dRet f) := by
  intro H0 M st σ F H fl st' E S e q
  obtain ⟨p, e1, e⟩ := bs e
  obtain ⟨r, s1⟩ := p
  refine a H0 M st σ F H r s1 _ S e1 fun v F1 H1 S1 E1 f1 r1 => ?_
  cases r with
  | d x => cases e; exact q v σ F1 H1 S1 (E1.fext S S1) r1
  | tmp xs =>
    cases e
    obtain ⟨p, vs, rfl, b, c, nf, no, h0⟩ := r1
    exact q _ σ F1 H1 S1 (E1.fext S S1) ⟨p, vs, rfl, b, c, nf, S.fresh0 h0⟩
  | sl i =>
    have r1 : σ[i]? = some (some v) := r1
    have e : (match s1.getD i none with
      | some (.d x) => some (Fl.rt (.d x), s1)
      | some (.own xs) => some (Fl.rt (.own xs), s1.set i none)
      | _ => none) = some (fl, st') := e
    cases g : s1.getD i none with
    | none => rw [g] at e; cases e
    | some s =>
      rw [g] at e
      cases s with
      | d x =>
        cases e
        obtain ⟨v', e1, r2⟩ := S1.dat i x g
        rw [r1] at e1
        cases e1
        exact q v σ F1 H1 S1 (E1.fext S S1) r2
      | own xs =>
        cases e
        obtain ⟨p, vs, e1, e2, r2, nf, h0⟩ := S1.own i xs g
        rw [r1] at e1
        cases e1
        exact q _ σ F1 H1 (S1.forget fun ys z => by rw [g] at z; cases z) (E1.fext S S1) ⟨p, vs, rfl, e2, r2, nf, h0⟩
      | lent xs => cases e
theorem snd_retN : SndS K tRetN dRetN := by
  intro H0 M st σ F H fl st' E S e q
  cases e
  exact q .non σ F H S .refl .non
theorem snd_ifS {t : TT} {u w : TS} {c : DT} {f g : DS} (a : SndT K t c) (b : SndS K u f) (d : SndS K w g) : SndS K (tIfS t u w) (dIfS c f g) := by
  intro H0 M st σ F H fl st' E S e q
  obtain ⟨p, e1, e⟩ := bs e
  refine a H0 M st σ F H p.1 p.2 _ S e1 fun F1 H1 S1 E1 f1 => ?_
  by_cases h : p.1 = true
  · rw [if_pos h] at e
    rw [if_pos h]
    exact b H0 M p.2 σ F1 H1 fl st' E S1 e (q.from (E1.fext S S1))
  · rw [if_neg h] at e
    rw [if_neg h]
    exact d H0 M p.2 σ F1 H1 fl st' E S1 e (q.from (E1.fext S S1))

/-! ### changing a list of one's own -/
theorem getL_ok {i : Nat} {xs : List D} (S : Sim K H0 M st σ F H) (e : getL st i = some xs) : ∃ p vs, σ[i]? = some (some (.ref p)) ∧ H p = some (.lst vs) ∧ RpAll K F H vs xs ∧ IsOwn st i := by
  unfold getL at e
  cases g : st.getD i none with
  | none => rw [g] at e; cases e
  | some s =>
    rw [g] at e
    cases s with
    | d x => cases e
    | own ys =>
      cases e
      obtain ⟨p, vs, a, b, c, _⟩ := S.own i _ g
      exact ⟨p, vs, a, b, c, _, .inl g⟩
    | lent ys =>
      cases e
      obtain ⟨p, vs, _, a, b, c, _⟩ := S.lent i _ g
      exact ⟨p, vs, a, b, c, _, .inr g⟩
/-- the list at slot i is another one now -/
theorem Sim.put (S : Sim K H0 M st σ F H) {i : Nat} {p : Addr} {vs : List V} {xs : List D} (o : IsOwn st i) (e : σ[i]? = some (some (.ref p))) (r : RpAll K F H vs xs) (pu : putL st i xs = some st') : Sim K H0 M st' σ F (upd H p (.lst vs)) ∧ FExt K H0 F H F (upd H p (.lst vs)) := by
  have at_ : OwnAt st σ p := ⟨i, o, e⟩
  obtain ⟨⟨old, hp⟩, nf⟩ := S.atOwn at_
  have flk : ∀ a ys, FL K F H a ys → FL K F (upd H p (.lst vs)) a ys := fun a ys h => by
    rcases h with ⟨f, h⟩ | ⟨ob, h⟩ | h
    · exact .inl ⟨f, by rw [upd_ne (by rintro rfl; exact nf f)]; exact h⟩
    · exact .inr (.inl ⟨ob, by rw [upd_ne (by rintro rfl; rw [hp] at h; cases h)]; exact h⟩)
    · exact .inr (.inr h)
  have sqk : ∀ a ys, STD K H a ys → STD K (upd H p (.lst vs)) a ys := fun a ys h => stD_up (fun b u e1 nl => by
    rw [upd_ne]
    · exact e1
    · rintro rfl
      rw [hp] at e1
      cases e1
      exact nl _ rfl) h
  refine ⟨?_, ⟨fun _ h => h, fun _ h => .inl h, flk, sqk⟩⟩
  have hi : i < st.length := by
    obtain ⟨ys, h | h⟩ := o
    · exact getD_lt h
    · exact getD_lt h
  -- the slots
  have sp : (∃ ys, st.getD i none = some (.own ys) ∧ st' = st.set i (some (.own xs))) ∨ (∃ ys, st.getD i none = some (.lent ys) ∧ st' = st.set i (some (.lent xs))) := by
    unfold putL at pu
    obtain ⟨ys, h | h⟩ := o
    · rw [h] at pu
      cases pu
      exact .inl ⟨ys, h, rfl⟩
    · rw [h] at pu
      cases pu
      exact .inr ⟨ys, h, rfl⟩
  have other : ∀ j, i ≠ j → st'.getD j none = st.getD j none := fun j ij => by
    rcases sp with ⟨ys, _, rfl⟩ | ⟨ys, _, rfl⟩
    · rw [getD_set hi, if_neg ij]
    · rw [getD_set hi, if_neg ij]
  have len : st'.length = st.length := by
    rcases sp with ⟨ys, _, rfl⟩ | ⟨ys, _, rfl⟩ <;> rw [List.length_set]
  have own : ∀ j, IsOwn st' j → IsOwn st j := fun j h => by
    by_cases ij : i = j
    · subst ij
      exact o
    · obtain ⟨ys, h⟩ := h
      rw [other j ij] at h
      exact ⟨ys, h⟩
  have pne : ∀ {j q}, i ≠ j → IsOwn st j → σ[j]? = some (some (.ref q)) → q ≠ p := fun {j q} ij oj ej z => by
    subst z
    exact ij (S.inj i j q o oj e ej)
  refine ⟨S.len.trans len.symm, fun j y hj => ?_, fun j ys hj => ?_, fun j ys hj => ?_, fun j q m => ?_, S.lent0, fun j k q a b => S.inj j k q (own j a) (own k b), fun a h => ?_, fun b u h n => ?_⟩
  · have ij : i ≠ j := by
      rintro rfl
      rcases sp with ⟨_, _, rfl⟩ | ⟨_, _, rfl⟩
      · rw [getD_set hi, if_pos rfl] at hj; cases hj
      · rw [getD_set hi, if_pos rfl] at hj; cases hj
    rw [other j ij] at hj
    obtain ⟨v, a, b⟩ := S.dat j y hj
    exact ⟨v, a, b.mono flk sqk⟩
  · by_cases ij : i = j
    · subst ij
      rcases sp with ⟨zs, g, rfl⟩ | ⟨_, _, rfl⟩
      · rw [getD_set hi, if_pos rfl] at hj
        cases hj
        obtain ⟨q, ws, a, b, c, d, f⟩ := S.own i zs g
        rw [e] at a
        cases a
        exact ⟨p, vs, e, upd_same, r.mono flk sqk, d, f⟩
      · rw [getD_set hi, if_pos rfl] at hj; cases hj
    · rw [other j ij] at hj
      obtain ⟨q, ws, a, b, c, d, f⟩ := S.own j ys hj
      exact ⟨q, ws, a, by rw [upd_ne (pne ij ⟨ys, .inl hj⟩ a)]; exact b, c.mono flk sqk, d, f⟩
  · by_cases ij : i = j
    · subst ij
      rcases sp with ⟨_, _, rfl⟩ | ⟨zs, g, rfl⟩
      · rw [getD_set hi, if_pos rfl] at hj; cases hj
      · rw [getD_set hi, if_pos rfl] at hj
        cases hj
        obtain ⟨q, ws, m, a, b, c, d⟩ := S.lent i zs g
        rw [e] at a
        cases a
        exact ⟨p, vs, m, e, upd_same, r.mono flk sqk, d⟩
    · rw [other j ij] at hj
      obtain ⟨q, ws, m, a, b, c, d⟩ := S.lent j ys hj
      exact ⟨q, ws, m, a, by rw [upd_ne (pne ij ⟨ys, .inr hj⟩ a)]; exact b, c.mono flk sqk, d⟩
  · obtain ⟨ys, h⟩ := S.lentE j q m
    by_cases ij : i = j
    · subst ij
      rcases sp with ⟨_, g, _⟩ | ⟨_, _, rfl⟩
      · rw [h] at g; cases g
      · exact ⟨xs, by rw [getD_set hi, if_pos rfl]⟩
    · exact ⟨ys, by rw [other j ij]; exact h⟩
  · by_cases ap : a = p
    · subst ap
      exact absurd h nf
    · rw [upd_ne ap]
      exact S.frz a h
  · by_cases bp : b = p
    · subst bp
      rcases sp with ⟨ys, g, _⟩ | ⟨ys, g, _⟩
      · obtain ⟨q, ws, a, _, _, _, f⟩ := S.own i ys g
        rw [e] at a
        cases a
        rw [h] at f
        cases f
      · obtain ⟨q, ws, m, a, _⟩ := S.lent i ys g
        rw [e] at a
        cases a
        exact absurd m (n i)
    · rw [upd_ne bp]
      exact S.base b u h n
/-- xs.append(e) -/
theorem snd_append {i : Nat} {te : TE} {f : DE} (a : SndE K te f) : SndS K (tDrop (tBM K "list" rAppend (tVar i) (tCons te tNil))) (dAppend i f) := by
  intro H0 M st σ F H fl st' E S e q
  obtain ⟨zs, e0, e⟩ := bs e
  obtain ⟨p, e1, e⟩ := bs e
  obtain ⟨w, e2, e⟩ := bs e
  obtain ⟨xs, e3, e⟩ := bs e
  have e : (if xs.length < sizeLine then (putL w.2 i (xs ++ [w.1])).bind fun s => some (Fl.nx, s) else none) = some (fl, st') := e
  by_cases c : xs.length < sizeLine
  · rw [if_pos c] at e
    obtain ⟨s, e4, e⟩ := bs e
    cases e
    obtain ⟨p0, vs0, a1, a2, _⟩ := getL_ok S e0
    refine ⟨.ref p0, a1, .inl ⟨rfl, _, SqL.of a2⟩, ?_⟩
    refine a H0 M st σ F H p.1 p.2 _ S e1 fun v F1 H1 S1 E1 f1 r1 => ?_
    obtain ⟨F2, S2, E2, r2, _⟩ := toD_ok S1 E1 r1.weak e2
    obtain ⟨p1, vs, b1, b2, b3, o⟩ := getL_ok S2 e3
    rw [a1] at b1
    cases b1
    obtain ⟨S3, E3⟩ := S2.put o a1 (b3.snoc r2) e4
    exact ⟨p0, vs, v, rfl, rfl, b2, by rw [b3.length]; exact c, q σ F2 _ S3 ((E2.fext S S2).trans E3)⟩
  · rw [if_neg c] at e
    cases e
end
end DL
end

section
set_option Elab.async false
set_option linter.all false
set_option maxRecDepth 100000
set_option maxHeartbeats 1000000
/-! DLsnd4: stores into lists, loops, comprehensions. -/
namespace DL
open PySem PySem.Spec PyProof.Rows L2
section
variable {K : PySem.W.Frag} {H0 : Hp} {M : Nat → Option Addr} {st st' st2 : DSt} {σ σ' : L2.St} {F F' F2 : Addr → Prop} {H H' H2 H3 Hb Hc : Hp} {v w : V} {r : Rv} {x : PyData} {fl : Fl} {E : Ends}
theorem ixAt_eq {α : Type} (xs : List α) (i : Int) : ixAt xs i = ixN xs.length i := rfl
/-- xs[k] = e -/
theorem snd_setIx {i : Nat} {tk te : TE} {k f : DE} (b : SndE K tk k) (a : SndE K te f) : SndS K (tAsg te (gSub (tVar i) tk rSetL)) (dSetIx i k f) := by
  intro H0 M st σ F H fl st' E S e q
  obtain ⟨p, e1, e⟩ := bs e
  obtain ⟨w, e2, e⟩ := bs e
  obtain ⟨zs, e0, e⟩ := bs e
  obtain ⟨u, e3, e⟩ := bs e
  refine a H0 M st σ F H p.1 p.2 _ S e1 fun v F1 H1 S1 E1 f1 r1 => ?_
  obtain ⟨F2, S2, E2, r2, _⟩ := toD_ok S1 E1 r1.weak e2
  obtain ⟨p0, vs0, a1, a2, _⟩ := getL_ok S2 e0
  refine ⟨.ref p0, a1, ?_⟩
  refine b H0 M w.2 σ F2 H1 u.1 u.2 _ S2 e3 fun v3 F3 H3 S3 E3 f3 r3 => ?_
  cases g : look u.2 u.1 with
  | none => rw [g] at e; cases e
  | some y =>
    rw [g] at e
    cases y with
    | int j =>
      have e : ((getL u.2 i).bind fun xs => (ixAt xs j).bind fun n => (putL u.2 i (xs.set n w.1)).bind fun s => some (Fl.nx, s)) = some (fl, st') := e
      obtain ⟨xs, e4, e⟩ := bs e
      obtain ⟨n, e5, e⟩ := bs e
      obtain ⟨s, e6, e⟩ := bs e
      cases e
      obtain ⟨p1, vs, b1, b2, b3, o⟩ := getL_ok S3 e4
      rw [a1] at b1
      cases b1
      have kv := (look_ok S3 r3.weak g).int
      obtain ⟨S4, E4⟩ := S3.put o a1 (b3.set (E3.rp S2 r2) n) e6
      refine ⟨p0, vs, j, n, rfl, kv, b2, ?_, q σ F3 _ S4 (((E2.fext S S2).trans (E3.fext S2 S3)).trans E4)⟩
      rw [b3.length, ← ixAt_eq]
      exact e5
    | _ => cases e
/-- xs[k] op= e -/
theorem snd_augIx {i : Nat} {tk te : TE} {k f : DE} {tip : TIp} {op : D → D → Option Rv} (hp : Prim2 K tip op) (b : SndE K tk k) (a : SndE K te f) : SndS K (tAugS (tVar i) tk te (rIxL K) tip rSetL) (dAugIx op i k f) := by
  intro H0 M st σ F H fl st' E S e q
  obtain ⟨zs, e0, e⟩ := bs e
  obtain ⟨u, e3, e⟩ := bs e
  obtain ⟨p0, vs0, a1, a2, _⟩ := getL_ok S e0
  refine ⟨.ref p0, a1, ?_⟩
  refine b H0 M st σ F H u.1 u.2 _ S e3 fun v3 F3 H3 S3 E3 f3 r3 => ?_
  cases g : look u.2 u.1 with
  | none => rw [g] at e; cases e
  | some y =>
    rw [g] at e
    cases y with
    | int j =>
      have e : ((getL u.2 i).bind fun xs => (ixAt xs j).bind fun n => (xs[n]?).bind fun x => (f u.2).bind fun p => (look p.2 p.1).bind fun y =>
        match op x y with
        | some (.d z) => (getL p.2 i).bind fun ys => (ixAt ys j).bind fun n' => (putL p.2 i (ys.set n' z)).bind fun s => some (Fl.nx, s)
        | _ => none) = some (fl, st') := e
      obtain ⟨xs, e4, e⟩ := bs e
      obtain ⟨n, e5, e⟩ := bs e
      obtain ⟨x, e6, e⟩ := bs e
      obtain ⟨p, e7, e⟩ := bs e
      obtain ⟨y, e8, e⟩ := bs e
      obtain ⟨p1, vs, b1, b2, b3, o⟩ := getL_ok S3 e4
      rw [a1] at b1
      cases b1
      have kv := (look_ok S3 r3.weak g).int
      obtain ⟨vx, gx, rx⟩ := b3.get e6
      refine ⟨p0, vs, j, vx, rfl, kv, SqL.of b2, ?_, ?_⟩
      · show (ixN vs.length j).bind (fun n => vs[n]?) = some vx
        rw [b3.length, ← ixAt_eq, e5]
        exact gx
      · refine a H0 M u.2 σ F3 H3 p.1 p.2 _ S3 e7 fun v4 F4 H4 S4 E4 f4 r4 => ?_
        cases z : op x y with
        | none => rw [z] at e; cases e
        | some rv =>
          rw [z] at e
          cases rv with
          | d zd =>
            have e : ((getL p.2 i).bind fun ys => (ixAt ys j).bind fun n' => (putL p.2 i (ys.set n' zd)).bind fun s => some (Fl.nx, s)) = some (fl, st') := e
            obtain ⟨ys, e9, e⟩ := bs e
            obtain ⟨n', e10, e⟩ := bs e
            obtain ⟨s, e11, e⟩ := bs e
            cases e
            refine hp F4 H4 vx v4 x y (.d zd) _ (.inl (E4.rp S3 rx)) (look_ok S4 r4.weak e8) z fun v5 H5 s5 n5 => ?_
            obtain ⟨S5, E5, r5⟩ := fin_new (z := .d zd) S4 (E3.trans E4) s5 n5
            obtain ⟨p2, ws, c1, c2, c3, o'⟩ := getL_ok S5 e9
            rw [a1] at c1
            cases c1
            obtain ⟨S6, E6⟩ := S5.put o' a1 (c3.set r5 n') e11
            refine ⟨p0, ws, j, n', rfl, kv, c2, ?_, q σ F4 _ S6 ((E5.fext S S5).trans E6)⟩
            rw [c3.length, ← ixAt_eq]
            exact e10
          | tmp _ => cases e
          | sl _ => cases e
    | _ => cases e
/-- x op= e -/
theorem snd_aug {i : Nat} {te : TE} {f : DE} {tip : TIp} {op : D → D → Option Rv} (hp : Prim2 K tip op) (a : SndE K te f) : SndS K (tAug i te tip) (dAug op i f) := by
  intro H0 M st σ F H fl st' E S e q
  obtain ⟨⟨rv, s0⟩, e1, e⟩ := bs e
  obtain ⟨p, e2, e⟩ := bs e
  have hv : s0 = st ∧ (∀ x, rv = .d x → ∃ w, σ[i]? = some (some w) ∧ Rp K F H w x) := by
    have e1 : (match st.getD i none with
      | some (.d x) => some (Rv.d x, st)
      | some (.own _) => some (.sl i, st)
      | some (.lent _) => some (.sl i, st)
      | none => none) = some (rv, s0) := e1
    cases g : st.getD i none with
    | none => rw [g] at e1; cases e1
    | some s =>
      rw [g] at e1
      cases s with
      | d x =>
        cases e1
        exact ⟨rfl, fun y h => by cases h; exact S.dat i x g⟩
      | own xs => cases e1; exact ⟨rfl, fun y h => by cases h⟩
      | lent xs => cases e1; exact ⟨rfl, fun y h => by cases h⟩
  obtain ⟨hs, hv⟩ := hv
  have e2' : f s0 = some p := e2
  rw [hs] at e2'
  cases rv with
  | d x =>
    have e : ((look p.2 p.1).bind fun y => match op x y with
      | some (.d z) => (setS p.2 i (.d z)).bind fun s => some (Fl.nx, s)
      | _ => none) = some (fl, st') := e
    obtain ⟨y, e3, e⟩ := bs e
    obtain ⟨w, a1, rw'⟩ := hv x rfl
    refine ⟨w, a1, ?_⟩
    refine a H0 M st σ F H p.1 p.2 _ S e2' fun v1 F1 H1 S1 E1 f1 r1 => ?_
    cases z : op x y with
    | none => rw [z] at e; cases e
    | some ru =>
      rw [z] at e
      cases ru with
      | d zd =>
        have e : ((setS p.2 i (.d zd)).bind fun s => some (Fl.nx, s)) = some (fl, st') := e
        obtain ⟨s, e4, e⟩ := bs e
        cases e
        obtain ⟨hi, nl, rfl⟩ := setS_ok e4
        refine hp F1 H1 w v1 x y (.d zd) _ (.inl (E1.rp S rw')) (look_ok S1 r1.weak e3) z fun v5 H5 s5 n5 => ?_
        obtain ⟨S5, E5, r5⟩ := fin_new (z := .d zd) S1 E1 s5 n5
        exact q _ F1 H5 (S5.setD hi nl r5) (E5.fext S S5)
      | tmp _ => cases e
      | sl _ => cases e
  | tmp _ => cases e
  | sl _ => cases e

/-! ### walked things -/
/-- while this holds of the heap the walk goes on -/
def Gd (K : PySem.W.Frag) (F1 : Addr → Prop) (H1 : Hp) (H : Hp) : Prop := (∀ a xs, FL K F1 H1 a xs → SqL K H a xs) ∧ ∀ a xs, STD K H1 a xs → STD K H a xs
structure WalkD (K : PySem.W.Frag) (J : It) (ds : List D) (F1 : Addr → Prop) (H1 : Hp) : Prop where
  goes : ∀ i H, i < ds.length → Gd K F1 H1 H → J.go i H
  stops : ∀ H, Gd K F1 H1 H → J.stop ds.length H
  yields : ∀ i H x H' (F : Addr → Prop), i < ds.length → Gd K F1 H1 H → (∀ v d, Rp K F1 H1 v d → Rp K F H v d) → J.yld i H x H' → Same H H' ∧ ∃ d, ds[i]? = some d ∧ Rp K F H' x d
theorem FExt.gd (e : FExt K H0 F H F' H') : Gd K F H H' := ⟨fun a xs h => (e.fl a xs h).sql, e.tup⟩
def SndI (K : PySem.W.Frag) (wi : TI) (f : DI) : Prop := ∀ (H0 : Hp) (M : Nat → Option Addr) (st : DSt) (σ : L2.St) (F : Addr → Prop) (H : Hp) (ds : List D) (st' : DSt) (R : It → Hp → Prop), Sim K H0 M st σ F H → f st = some (ds, st') →
  (∀ J F' H', Sim K H0 M st' σ F' H' → Ext st σ F H st' F' H' → WalkD K J ds F' H' → R J H') → wi σ H R
theorem snd_for {is : List Nat} {wi : TI} {tg : TG} {tb : TS} {it : DI} {g : DG} {b : DS} (a : SndI K wi it) (c : SndG K is tg g) (d : SndS K tb b) : SndS K (tFor wi tg tb) (dFor it g b) := by
  intro H0 M st σ F H fl st' E S e q
  obtain ⟨p, e1, e⟩ := bs e
  refine a H0 M st σ F H p.1 p.2 _ S e1 fun J F1 H1 S1 E1 W => ?_
  have x1 := E1.fext S S1
  refine ⟨fun i m σ' H' => i + m = p.1.length ∧ ∃ s' F', Sim K H0 M s' σ' F' H' ∧ FExt K H0 F1 H1 F' H' ∧ forGo g b (p.1.drop i) s' = some (fl, st'), ⟨p.1.length, by simp, p.2, F1, S1, .refl, e⟩, ?_⟩
  rintro i m σ' H' ⟨him, s', F', S', x', e'⟩
  by_cases hi : i < p.1.length
  · refine .inr ⟨W.goes i H' hi x'.gd, fun σ2 H2 => ∃ s2 F2, Sim K H0 M s2 σ2 F2 H2 ∧ FExt K H0 F1 H1 F2 H2 ∧ forGo g b (p.1.drop (i + 1)) s2 = some (fl, st'), fun σ2 H2 ⟨s2, F2, h1, h2, h3⟩ => ⟨m - 1, by omega, by omega, s2, F2, h1, h2, h3⟩, fun x H2 y => ?_⟩
    obtain ⟨sm, dd, gd, rx⟩ := W.yields i H' x H2 F' hi x'.gd (fun v d h => x'.rp h) y
    have hdrop : p.1.drop i = dd :: p.1.drop (i + 1) := by
      obtain ⟨h, e⟩ := List.getElem?_eq_some_iff.mp gd
      rw [List.drop_eq_getElem_cons h, e]
    rw [hdrop] at e'
    obtain ⟨s3, e3, e'⟩ := bs e'
    obtain ⟨w, e4, e'⟩ := bs e'
    have S2 := S'.grow sm
    have x2 : FExt K H0 F1 H1 F' H2 := x'.trans ((Ext.grow sm).fext S' S2)
    refine c H0 M s' σ' F' H2 dd x s3 _ S2 rx e3 fun σ3 S3 _ _ => ?_
    refine d H0 M s3 σ3 F' H2 w.1 w.2 _ S3 e4 ?_
    obtain ⟨wf, ws⟩ := w
    cases wf with
    | nx => exact fun σ4 F4 H4 S4 x4 => ⟨ws, F4, S4, x2.trans x4, e'⟩
    | ct => exact fun σ4 F4 H4 S4 x4 => ⟨ws, F4, S4, x2.trans x4, e'⟩
    | bk =>
      cases e'
      exact fun σ4 F4 H4 S4 x4 => q σ4 F4 H4 S4 (x1.trans (x2.trans x4))
    | rt r =>
      cases e'
      exact fun v σ4 F4 H4 S4 x4 r4 => q v σ4 F4 H4 S4 (x1.trans (x2.trans x4)) r4
  · have hl : i = p.1.length := by omega
    subst hl
    rw [List.drop_length] at e'
    cases e'
    exact .inl ⟨W.stops H' x'.gd, q σ' F' H' S' (x1.trans x')⟩
theorem snd_while {tt : TT} {tb : TS} {t : DT} {b : DS} (a : SndT K tt t) (d : SndS K tb b) : SndS K (tWhile tt tb) (dWhile t b) := by
  intro H0 M st σ F H fl st' E S e q
  have hex : ∃ n, whileN t b n st = some (fl, st') := by
    unfold dWhile at e
    by_cases h : ∃ n r, whileN t b n st = some r
    · rw [dif_pos h] at e
      have := Classical.choose_spec (Classical.choose_spec h)
      exact ⟨Classical.choose h, by rw [this]; exact e⟩
    · rw [dif_neg h] at e
      cases e
  obtain ⟨n, e⟩ := hex
  refine ⟨fun m σ' H' => ∃ s' F', Sim K H0 M s' σ' F' H' ∧ FExt K H0 F H F' H' ∧ whileN t b m s' = some (fl, st'), ⟨n, st, F, S, .refl, e⟩, ?_⟩
  rintro m σ' H' ⟨s', F', S', x', e'⟩
  cases m with
  | zero => cases e'
  | succ m =>
    obtain ⟨u, e1, e'⟩ := bs e'
    refine a H0 M s' σ' F' H' u.1 u.2 _ S' e1 fun F1 H1 S1 E1 f1 => ?_
    have x1 := x'.trans (E1.fext S' S1)
    by_cases c : u.1 = true
    · rw [if_pos c] at e'
      rw [if_pos c]
      obtain ⟨w, e2, e'⟩ := bs e'
      refine ⟨fun σ2 H2 => ∃ s2 F2, Sim K H0 M s2 σ2 F2 H2 ∧ FExt K H0 F H F2 H2 ∧ whileN t b m s2 = some (fl, st'), fun σ2 H2 h => ⟨m, Nat.lt_succ_self m, h⟩, ?_⟩
      refine d H0 M u.2 σ' F1 H1 w.1 w.2 _ S1 e2 ?_
      obtain ⟨wf, ws⟩ := w
      cases wf with
      | nx => exact fun σ4 F4 H4 S4 x4 => ⟨ws, F4, S4, x1.trans x4, e'⟩
      | ct => exact fun σ4 F4 H4 S4 x4 => ⟨ws, F4, S4, x1.trans x4, e'⟩
      | bk =>
        cases e'
        exact fun σ4 F4 H4 S4 x4 => q σ4 F4 H4 S4 (x1.trans x4)
      | rt r =>
        cases e'
        exact fun v σ4 F4 H4 S4 x4 r4 => q v σ4 F4 H4 S4 (x1.trans x4) r4
    · rw [if_neg c] at e'
      rw [if_neg c]
      cases e'
      exact q σ' F1 H1 S1 x1

/-! ### comprehensions -/
theorem wipeD_len (s : DSt) : ∀ vs : List Nat, (wipeD s vs).length = s.length
  | [] => rfl
  | v :: vs => by unfold wipeD; rw [List.length_set, wipeD_len s vs]
theorem wipe_get (s : L2.St) : ∀ (vs : List Nat) (j : Nat), j ∉ vs → (wipe s vs)[j]? = s[j]?
  | [], _, _ => rfl
  | v :: vs, j, h => by
    unfold wipe
    rw [List.getElem?_set_ne (by rintro rfl; exact h (by simp))]
    exact wipe_get s vs j fun z => h (by simp [z])
theorem wipe_in (s : L2.St) : ∀ (vs : List Nat) (j : Nat), j ∈ vs → j < s.length → (wipe s vs)[j]? = some none
  | [], _, h, _ => by simp at h
  | v :: vs, j, h, hl => by
    unfold wipe
    by_cases e : v = j
    · subst e
      rw [List.getElem?_set_self (by rw [wipe_length]; exact hl)]
    · rw [List.getElem?_set_ne e]
      refine wipe_in s vs j ?_ hl
      rcases List.mem_cons.mp h with z | z
      · exact absurd z.symm e
      · exact z
theorem wipe_ext {s s' : L2.St} {vs : List Nat} (hl : s.length = s'.length) (h : ∀ j, j ∉ vs → s'[j]? = s[j]?) : wipe s' vs = wipe s vs := by
  apply List.ext_getElem?
  intro j
  by_cases hj : j ∈ vs
  · by_cases hlt : j < s.length
    · rw [wipe_in s vs j hj hlt, wipe_in s' vs j hj (by omega)]
    · rw [List.getElem?_eq_none (by rw [wipe_length]; omega), List.getElem?_eq_none (by rw [wipe_length]; omega)]
  · rw [wipe_get s vs j hj, wipe_get s' vs j hj]
    exact h j hj
theorem wipeD_get (s : DSt) : ∀ (vs : List Nat) (j : Nat), (wipeD s vs).getD j none = if j ∈ vs then none else s.getD j none
  | [], j => by simp [wipeD]
  | v :: vs, j => by
    unfold wipeD
    rw [List.getD_eq_getElem?_getD, List.getElem?_set]
    have ih := wipeD_get s vs j
    by_cases e : v = j
    · subst e
      rw [if_pos rfl, if_pos List.mem_cons_self]
      split <;> rfl
    · rw [if_neg e, ← List.getD_eq_getElem?_getD, ih]
      by_cases h : j ∈ vs
      · rw [if_pos h, if_pos (List.mem_cons_of_mem _ h)]
      · rw [if_neg h, if_neg]
        intro z
        rcases List.mem_cons.mp z with z | z
        · exact e z.symm
        · exact h z
/-- the block's slots are empty -/
theorem Sim.wipe (S : Sim K H0 M st σ F H) {vs : List Nat} (no : ∀ j ∈ vs, ∀ xs, st.getD j none ≠ some (.lent xs)) : Sim K H0 M (wipeD st vs) (wipe σ vs) F H := by
  have back : ∀ j s, (wipeD st vs).getD j none = some s → st.getD j none = some s ∧ j ∉ vs := fun j s h => by
    rw [wipeD_get] at h
    by_cases c : j ∈ vs
    · rw [if_pos c] at h; cases h
    · rw [if_neg c] at h; exact ⟨h, c⟩
  have own : ∀ j, IsOwn (wipeD st vs) j → IsOwn st j ∧ j ∉ vs := fun j ⟨xs, h⟩ => by
    rcases h with h | h
    · exact ⟨⟨xs, .inl (back j _ h).1⟩, (back j _ h).2⟩
    · exact ⟨⟨xs, .inr (back j _ h).1⟩, (back j _ h).2⟩
  refine ⟨by rw [wipe_length, wipeD_len]; exact S.len, fun j x h => ?_, fun j x h => ?_, fun j x h => ?_, fun j p m => ?_, S.lent0, fun j k p a b e1 e2 => ?_, S.frz, S.base⟩
  · obtain ⟨h, c⟩ := back j _ h
    rw [wipe_get σ vs j c]
    exact S.dat j x h
  · obtain ⟨h, c⟩ := back j _ h
    rw [wipe_get σ vs j c]
    exact S.own j x h
  · obtain ⟨h, c⟩ := back j _ h
    rw [wipe_get σ vs j c]
    exact S.lent j x h
  · obtain ⟨xs, h⟩ := S.lentE j p m
    refine ⟨xs, ?_⟩
    rw [wipeD_get, if_neg, h]
    intro z
    exact no j z xs h
  · obtain ⟨a, ca⟩ := own j a
    obtain ⟨b, cb⟩ := own k b
    rw [wipe_get σ vs j ca] at e1
    rw [wipe_get σ vs k cb] at e2
    exact S.inj j k p a b e1 e2
theorem Sim.unwipe {vs : List Nat} (S : Sim K H0 M st (L2.wipe σ vs) F H) (em : ∀ j ∈ vs, st.getD j none = none) : Sim K H0 M st σ F H := by
  have out : ∀ j s, st.getD j none = some s → j ∉ vs := fun j s h z => by
    rw [em j z] at h
    cases h
  have own : ∀ j, IsOwn st j → j ∉ vs := fun j ⟨xs, h⟩ => by
    rcases h with h | h <;> exact out j _ h
  refine ⟨by rw [← wipe_length σ vs]; exact S.len, fun j x h => ?_, fun j x h => ?_, fun j x h => ?_, S.lentE, S.lent0, fun j k p a b e1 e2 => ?_, S.frz, S.base⟩
  · have := S.dat j x h
    rw [wipe_get σ vs j (out j _ h)] at this
    exact this
  · have := S.own j x h
    rw [wipe_get σ vs j (out j _ h)] at this
    exact this
  · have := S.lent j x h
    rw [wipe_get σ vs j (out j _ h)] at this
    exact this
  · rw [← wipe_get σ vs j (own j a)] at e1
    rw [← wipe_get σ vs k (own k b)] at e2
    exact S.inj j k p a b e1 e2
theorem Ext.trans' {σ' : L2.St} (a : Ext st σ F H st' F' H') (o : ∀ p, OwnAt st' σ' p → OwnAt st σ p) (b : Ext st' σ' F' H' st2 F2 H2) : Ext st σ F H st2 F2 H2 where
  sub := fun c h => b.sub c (a.sub c h)
  new := fun c h => by
    rcases b.new c h with h | h | h
    · exact a.new c h
    · refine .inr (.inl ?_)
      apply Classical.byContradiction
      intro z
      exact a.live c z h
    · exact .inr (.inr (o c h))
  keep := fun c u h n => b.keep c u (a.keep c u h n) fun z => n (o c z)
  live := fun c h => b.live c (a.live c h)
  own := fun i h => a.own i (b.own i h)
/-- a list that nobody of us has is another one now -/
theorem FL.upd {D : Addr} {old ys : List V} (hD : H D = some (.lst old)) (nf : ¬ F D) {a : Addr} {xs : List V} (h : FL K F H a xs) : FL K F (upd H D (.lst ys)) a xs := by
  rcases h with ⟨f, h⟩ | ⟨ob, h⟩ | h
  · exact .inl ⟨f, by rw [upd_ne (by rintro rfl; exact nf f)]; exact h⟩
  · exact .inr (.inl ⟨ob, by rw [upd_ne (by rintro rfl; rw [hD] at h; cases h)]; exact h⟩)
  · exact .inr (.inr h)
theorem stD_upd {D : Addr} {old ys : List V} (hD : H D = some (.lst old)) {a : Addr} {xs : Option (List V)} (h : STD K H a xs) : STD K (upd H D (.lst ys)) a xs := stD_up (fun b u e1 nl => by
    rw [upd_ne]
    · exact e1
    · rintro rfl
      rw [hD] at e1
      cases e1
      exact nl _ rfl) h
theorem Sim.updFree (S : Sim K H0 M st σ F H) {D : Addr} {old ys : List V} (hD : H D = some (.lst old)) (nf : ¬ F D) (no : ¬ OwnAt st σ D) (h0 : H0 D = none) : Sim K H0 M st σ F (L2.upd H D (.lst ys)) := by
  have mono : ∀ {v : V} {x : PyData}, Rp K F H v x → Rp K F (L2.upd H D (.lst ys)) v x := fun r => r.mono (fun _ _ h => h.upd hD nf) fun _ _ h => stD_upd hD h
  have monoA : ∀ {v : List V} {x : List PyData}, RpAll K F H v x → RpAll K F (L2.upd H D (.lst ys)) v x := fun r => r.mono (fun _ _ h => h.upd hD nf) fun _ _ h => stD_upd hD h
  have ne : ∀ {i p}, IsOwn st i → σ[i]? = some (some (.ref p)) → p ≠ D := fun {i p} o e z => by
    subst z
    exact no ⟨i, o, e⟩
  refine ⟨S.len, fun j x h => ?_, fun j x h => ?_, fun j x h => ?_, S.lentE, S.lent0, S.inj, fun a h => ?_, fun b u h n => ?_⟩
  · obtain ⟨v, a, b⟩ := S.dat j x h
    exact ⟨v, a, mono b⟩
  · obtain ⟨p, vs, a, b, c, d, f⟩ := S.own j x h
    exact ⟨p, vs, a, by rw [upd_ne (ne ⟨x, .inl h⟩ a)]; exact b, monoA c, d, f⟩
  · obtain ⟨p, vs, m, a, b, c, d⟩ := S.lent j x h
    exact ⟨p, vs, m, a, by rw [upd_ne (ne ⟨x, .inr h⟩ a)]; exact b, monoA c, d⟩
  · rw [upd_ne (by rintro rfl; exact nf h)]
    exact S.frz a h
  · rw [upd_ne (by rintro rfl; rw [h0] at h; cases h)]
    exact S.base b u h n
theorem refill_len (s0 s : DSt) : ∀ vs : List Nat, (refill s0 s vs).length = s.length
  | [] => rfl
  | v :: vs => by unfold refill; rw [List.length_set, refill_len s0 s vs]
theorem refill_get (s0 s : DSt) : ∀ (vs : List Nat) (j : Nat), (refill s0 s vs).getD j none = if j ∈ vs ∧ j < s.length then s0.getD j none else s.getD j none
  | [], j => by simp [refill]
  | v :: vs, j => by
    unfold refill
    rw [List.getD_eq_getElem?_getD, List.getElem?_set, refill_len]
    have ih := refill_get s0 s vs j
    by_cases e : v = j
    · subst e
      rw [if_pos rfl]
      by_cases h : v < s.length
      · rw [if_pos h, if_pos ⟨List.mem_cons_self, h⟩]
        rfl
      · rw [if_neg h, if_neg fun z => h z.2, List.getD_eq_getElem?_getD, List.getElem?_eq_none (by omega)]
    · rw [if_neg e, ← List.getD_eq_getElem?_getD, ih]
      by_cases h : j ∈ vs ∧ j < s.length
      · rw [if_pos h, if_pos ⟨List.mem_cons_of_mem _ h.1, h.2⟩]
      · rw [if_neg h, if_neg]
        rintro ⟨z, z2⟩
        rcases List.mem_cons.mp z with z | z
        · exact e z.symm
        · exact h ⟨z, z2⟩
/-- the block's slots hold again what they held -/
theorem Sim.refill {s0 : DSt} {vs : List Nat} (S : Sim K H0 M st σ F H) (em : ∀ j ∈ vs, st.getD j none = none) (old : ∀ j ∈ vs, ∀ s, s0.getD j none = some s → ∃ x v, s = .d x ∧ σ[j]? = some (some v) ∧ Rp K F H v x) : Sim K H0 M (DL.refill s0 st vs) σ F H ∧ ∀ i, IsOwn (DL.refill s0 st vs) i → IsOwn st i := by
  have new : ∀ j s, (DL.refill s0 st vs).getD j none = some s → (st.getD j none = some s) ∨ (∃ x v, s = .d x ∧ σ[j]? = some (some v) ∧ Rp K F H v x) := fun j s h => by
    rw [refill_get] at h
    by_cases c : j ∈ vs ∧ j < st.length
    · rw [if_pos c] at h
      exact .inr (old j c.1 s h)
    · rw [if_neg c] at h
      exact .inl h
  have own : ∀ i, IsOwn (DL.refill s0 st vs) i → IsOwn st i := fun i ⟨xs, h⟩ => by
    rcases h with h | h
    · rcases new i _ h with z | ⟨x, v, z, _⟩
      · exact ⟨xs, .inl z⟩
      · cases z
    · rcases new i _ h with z | ⟨x, v, z, _⟩
      · exact ⟨xs, .inr z⟩
      · cases z
  refine ⟨⟨S.len.trans (refill_len s0 st vs).symm, fun i x h => ?_, fun i x h => ?_, fun i x h => ?_, fun i p m => ?_, S.lent0, fun i j p a b => S.inj i j p (own i a) (own j b), S.frz, S.base⟩, own⟩
  · rcases new i _ h with z | ⟨y, v, z, z2, z3⟩
    · exact S.dat i x z
    · cases z
      exact ⟨v, z2, z3⟩
  · rcases new i _ h with z | ⟨y, v, z, _⟩
    · exact S.own i x z
    · cases z
  · rcases new i _ h with z | ⟨y, v, z, _⟩
    · exact S.lent i x z
    · cases z
  · obtain ⟨xs, h⟩ := S.lentE i p m
    refine ⟨xs, ?_⟩
    rw [refill_get, if_neg, h]
    rintro ⟨z, _⟩
    rw [em i z] at h
    cases h
theorem snd_lc {is vs : List Nat} {wi : TI} {tg : TG} {tt : TT} {te : TE} {it : DI} {g : DG} {t : DT} {f : DE} (a : SndI K wi it) (c : SndG K is tg g) (b : SndT K tt t) (d : SndE K te f) (hsub : ∀ j ∈ is, j ∈ vs) : SndE K (tLc wi tg tt te vs) (dLc it g t f vs) := by
  intro H0 M st σ F H r st' Q S e q
  obtain ⟨⟨ds, s1⟩, e1, e⟩ := bs e
  refine a H0 M st σ F H ds s1 _ S e1 fun J F1 H1 S1 E1 W => ?_
  intro D hD
  have e : (if ds.length ≤ sizeLine ∧ vs.all (fun i => match s1.getD i none with | none => true | some (.d _) => true | _ => false) = true then
    (lcGo g t f vs ds (wipeD s1 vs)).bind fun q => some (Rv.tmp q.1, refill s1 q.2 vs) else none) = some (r, st') := e
  by_cases cd : ds.length ≤ sizeLine ∧ vs.all (fun i => match s1.getD i none with | none => true | some (.d _) => true | _ => false) = true
  · rw [if_pos cd] at e
    obtain ⟨⟨tot, sE⟩, e2, e⟩ := bs e
    cases e
    obtain ⟨hlen, hall⟩ := cd
    have nl1 : ∀ j ∈ vs, ∀ xs, s1.getD j none ≠ some (.lent xs) := fun j hj xs z => by
      have := List.all_eq_true.mp hall j hj
      rw [z] at this
      cases this
    have nM : ∀ j ∈ vs, M j = none := fun j hj => by
      cases m : M j with
      | none => rfl
      | some p =>
        obtain ⟨xs, z⟩ := S1.lentE j p m
        exact absurd z (nl1 j hj xs)
    have nlent : ∀ {s2 : DSt} {σ2 : L2.St} {F2 : Addr → Prop} {H2 : Hp}, Sim K H0 M s2 σ2 F2 H2 → ∀ j ∈ vs, ∀ xs, s2.getD j none ≠ some (.lent xs) := fun S2 j hj xs z => by
      obtain ⟨p, _, m, _⟩ := S2.lent j xs z
      rw [nM j hj] at m
      cases m
    have hD0 : H D = none := Classical.byContradiction fun z => E1.live D z hD
    have h00 : H0 D = none := S.fresh0 hD0
    have gr : Same H1 (upd H1 D (.lst [])) := same_upd hD
    have Sw : Sim K H0 M (wipeD s1 vs) (L2.wipe σ vs) F1 (upd H1 D (.lst [])) := (S1.wipe nl1).grow gr
    have ownw : ∀ i, IsOwn (wipeD s1 vs) i → IsOwn s1 i := fun i ⟨xs, h⟩ => by
      rw [wipeD_get] at h
      by_cases c : i ∈ vs
      · rw [if_pos c] at h
        rcases h with h | h <;> cases h
      · rw [if_neg c] at h
        exact ⟨xs, h⟩
    have Ew : Ext st σ F H (wipeD s1 vs) F1 (upd H1 D (.lst [])) := by
      have := E1.trans (Ext.grow (st := s1) (σ := σ) (F := F1) gr)
      exact ⟨this.sub, this.new, this.keep, this.live, fun i h => this.own i (ownw i h)⟩
    -- wiped slots are slots
    have back : ∀ {s2 : DSt}, (∀ i, IsOwn s2 i → IsOwn st i) → ∀ p, OwnAt s2 (L2.wipe σ vs) p → OwnAt st σ p := fun {s2} o p ⟨i, h1, h2⟩ => ⟨i, o i h1, (wipe_some h2).1⟩
    refine ⟨fun i m Hc => i + m = ds.length ∧ ∃ (s2 : DSt) (F2 : Addr → Prop) (av : List V) (ad rest : List PyData), Sim K H0 M s2 (L2.wipe σ vs) F2 Hc ∧ FExt K H0 F1 H1 F2 Hc ∧ Ext st σ F H s2 F2 Hc ∧ Hc D = some (.lst av) ∧ RpAll K F2 Hc av ad ∧ ¬ F2 D ∧ ¬ OwnAt s2 (L2.wipe σ vs) D ∧
      (∀ j ∈ vs, s2.getD j none = none) ∧ lcGo g t f vs (ds.drop i) s2 = some (rest, sE) ∧ ad ++ rest = tot ∧ ad.length ≤ i, ⟨ds.length, by simp, wipeD s1 vs, F1, [], [], tot, Sw, ?_, Ew, upd_same, .nil, ?_, ?_, ?_, e2, rfl, Nat.le_refl _⟩, ?_⟩
    · exact (Ext.grow (st := s1) (σ := σ) (F := F1) gr).fext S1 (S1.grow gr)
    · intro z
      obtain ⟨ys, e⟩ := S1.frz D z
      rw [hD] at e
      cases e
    · rintro ⟨i, h1, h2⟩
      obtain ⟨⟨ys, e⟩, _⟩ := S1.atOwn ⟨i, ownw i h1, (wipe_some h2).1⟩
      rw [hD] at e
      cases e
    · intro j hj
      rw [wipeD_get, if_pos hj]
    · rintro i m Hc ⟨him, s2, F2, av, ad, rest, S2, x2, E2, hDc, rA, nfD, noD, em, e3, htot, hal⟩
      by_cases hi : i < ds.length
      · refine .inr ⟨W.goes i Hc hi x2.gd, fun Hn => ∃ (s2 : DSt) (F2 : Addr → Prop) (av : List V) (ad rest : List PyData), Sim K H0 M s2 (L2.wipe σ vs) F2 Hn ∧ FExt K H0 F1 H1 F2 Hn ∧ Ext st σ F H s2 F2 Hn ∧ Hn D = some (.lst av) ∧ RpAll K F2 Hn av ad ∧ ¬ F2 D ∧ ¬ OwnAt s2 (L2.wipe σ vs) D ∧
          (∀ j ∈ vs, s2.getD j none = none) ∧ lcGo g t f vs (ds.drop (i + 1)) s2 = some (rest, sE) ∧ ad ++ rest = tot ∧ ad.length ≤ i + 1, fun Hn h => ⟨m - 1, by omega, by omega, h⟩, fun x H3 y => ?_⟩
        obtain ⟨sm, dd, gd, rx⟩ := W.yields i Hc x H3 F2 hi x2.gd (fun v d h => x2.rp h) y
        have hdrop : ds.drop i = dd :: ds.drop (i + 1) := by
          obtain ⟨h, e⟩ := List.getElem?_eq_some_iff.mp gd
          rw [List.drop_eq_getElem_cons h, e]
        rw [hdrop] at e3
        obtain ⟨s3, e4, e3⟩ := bs e3
        obtain ⟨⟨kb, s4⟩, e5, e3⟩ := bs e3
        have S3 := S2.grow sm
        have E3 : Ext st σ F H s2 F2 H3 := E2.trans' (back E2.own) (Ext.grow sm)
        have x3 : FExt K H0 F1 H1 F2 H3 := x2.trans ((Ext.grow sm).fext S2 S3)
        refine c H0 M s2 (L2.wipe σ vs) F2 H3 dd x s3 _ S3 rx e4 fun σ3 S4 same3 own3 => ?_
        have wk : L2.wipe σ3 vs = L2.wipe (L2.wipe σ vs) vs := wipe_ext same3.1.symm fun j hj => same3.2 j fun z => hj (hsub j z)
        have ww : L2.wipe (L2.wipe σ vs) vs = L2.wipe σ vs := wipe_ext (wipe_length σ vs).symm fun j hj => wipe_get σ vs j hj
        have wσ : L2.wipe σ3 vs = L2.wipe σ vs := wk.trans ww
        refine ⟨wσ, ?_⟩
        -- from the target's slots back
        have o3 : ∀ p, OwnAt s3 σ3 p → OwnAt s2 (L2.wipe σ vs) p := fun p ⟨i, h1, h2⟩ => by
          obtain ⟨h3, h4⟩ := own3 i h1
          exact ⟨i, h3, by rw [← same3.2 i h4]; exact h2⟩
        have o3' : ∀ p, OwnAt s3 σ3 p → OwnAt st σ p := fun p h => back E2.own p (o3 p h)
        have E4 : Ext st σ F H s3 F2 H3 := ⟨E3.sub, E3.new, E3.keep, E3.live, fun i h => E2.own i (own3 i h).1⟩
        have hD3 : H3 D = some (.lst av) := sm _ _ hDc
        have noD3 : ¬ OwnAt s3 σ3 D := fun z => noD (o3 D z)
        refine b H0 M s3 σ3 F2 H3 kb s4 _ S4 e5 fun F5 H5 S5 E5 _ => ?_
        have x5 := x3.trans (E5.fext S4 S5)
        have E5' : Ext st σ F H s4 F5 H5 := E4.trans' o3' E5
        have hD5 : H5 D = some (.lst av) := E5.keep _ _ hD3 noD3
        have o5 : ∀ p, OwnAt s4 σ3 p → OwnAt s3 σ3 p := fun p z => z.imp E5.own
        have nfD5 : ¬ F5 D := fun z => by
          rcases E5.new D z with z | z | z
          · exact nfD z
          · rw [hD3] at z; cases z
          · exact noD3 z
        have rA5 : RpAll K F5 H5 av ad := E5.rpAll S4 (rA.grow sm)
        -- the turn's end
        have fin : ∀ {s6 : DSt} {F6 : Addr → Prop} {H6 : Hp} {av' : List V} {ad' rest' : List PyData}, Sim K H0 M s6 σ3 F6 H6 → FExt K H0 F1 H1 F6 H6 → Ext st σ F H s6 F6 H6 → H6 D = some (.lst av') → RpAll K F6 H6 av' ad' → ¬ F6 D → ¬ OwnAt s6 σ3 D →
            lcGo g t f vs (ds.drop (i + 1)) (wipeD s6 vs) = some (rest', sE) → ad' ++ rest' = tot → ad'.length ≤ i + 1 →
            ∃ (s2 : DSt) (F2 : Addr → Prop) (av : List V) (ad rest : List PyData), Sim K H0 M s2 (L2.wipe σ vs) F2 H6 ∧ FExt K H0 F1 H1 F2 H6 ∧ Ext st σ F H s2 F2 H6 ∧ H6 D = some (.lst av) ∧ RpAll K F2 H6 av ad ∧ ¬ F2 D ∧ ¬ OwnAt s2 (L2.wipe σ vs) D ∧
              (∀ j ∈ vs, s2.getD j none = none) ∧ lcGo g t f vs (ds.drop (i + 1)) s2 = some (rest, sE) ∧ ad ++ rest = tot ∧ ad.length ≤ i + 1 := fun {s6 F6 H6 av' ad' rest'} S6 x6 E6 hD6 rA6 nf6 no6 e6 t6 l6 => by
          have ow : ∀ i, IsOwn (wipeD s6 vs) i → IsOwn s6 i := fun i ⟨xs, h⟩ => by
            rw [wipeD_get] at h
            by_cases c : i ∈ vs
            · rw [if_pos c] at h
              rcases h with h | h <;> cases h
            · rw [if_neg c] at h
              exact ⟨xs, h⟩
          have Sw6 := S6.wipe (nlent S6)
          rw [wσ] at Sw6
          refine ⟨wipeD s6 vs, F6, av', ad', rest', Sw6, x6, ⟨E6.sub, E6.new, E6.keep, E6.live, fun i h => E6.own i (ow i h)⟩, hD6, rA6, nf6, ?_, fun j hj => by rw [wipeD_get, if_pos hj], e6, t6, l6⟩
          rintro ⟨i, h1, h2⟩
          rw [← wσ] at h2
          exact no6 ⟨i, ow i h1, (wipe_some h2).1⟩
        by_cases hb : kb = true
        · subst hb
          rw [if_pos rfl] at e3
          rw [if_pos rfl]
          obtain ⟨⟨rv, s6⟩, e6, e3⟩ := bs e3
          obtain ⟨⟨yd, s7⟩, e7, e3⟩ := bs e3
          obtain ⟨⟨rest', sE'⟩, e8, e3⟩ := bs e3
          cases e3
          refine d H0 M s4 σ3 F5 H5 rv s6 _ S5 e6 fun yv F6 H6 S6 E6 _ r6 => ?_
          obtain ⟨F7, S7, E7, r7, sub7, own7, _⟩ := toD_ok S6 E6 r6.weak e7
          have no5 : ¬ OwnAt s4 σ3 D := fun z => noD3 (o5 D z)
          have hD7 : H6 D = some (.lst av) := E7.keep _ _ hD5 no5
          have nfD7 : ¬ F7 D := fun z => by
            rcases E7.new D z with z | z | z
            · exact nfD5 z
            · rw [hD5] at z; cases z
            · exact no5 z
          have no7 : ¬ OwnAt s7 σ3 D := fun z => no5 (z.imp E7.own)
          refine ⟨av, hD7, ?_, ?_⟩
          · rw [rA5.length]
            exact Nat.lt_of_lt_of_le (Nat.lt_of_le_of_lt hal hi) hlen
          · have S8 := S7.updFree (ys := av ++ [yv]) hD7 nfD7 no7 h00
            have up1 : ∀ a xs, FL K F7 H6 a xs → FL K F7 (upd H6 D (.lst (av ++ [yv]))) a xs := fun _ _ h => h.upd hD7 nfD7
            have up2 : ∀ a xs, STD K H6 a xs → STD K (upd H6 D (.lst (av ++ [yv]))) a xs := fun _ _ h => stD_upd hD7 h
            have E8 : Ext st σ F H s7 F7 (upd H6 D (.lst (av ++ [yv]))) := by
              have e9 := E5'.trans' (fun p z => o3' p (o5 p z)) E7
              refine ⟨e9.sub, e9.new, fun b u h n => ?_, fun b h => ?_, e9.own⟩
              · rw [upd_ne (by rintro rfl; rw [hD0] at h; cases h)]
                exact e9.keep b u h n
              · by_cases bd : b = D
                · subst bd
                  exact absurd hD0 h
                · rw [upd_ne bd]
                  exact e9.live b h
            exact fin (av' := av ++ [yv]) (ad' := ad ++ [yd]) (rest' := rest') S8 ((x5.trans (E7.fext S5 S7)).trans ⟨fun _ h => h, fun _ h => .inl h, up1, up2⟩) E8 upd_same
              ((RpAll.mono up1 up2 (E7.rpAll S5 rA5)).snoc (r7.mono up1 up2)) nfD7 no7 e8 (by rw [List.append_assoc]; exact htot) (by rw [List.length_append, List.length_singleton]; omega)
        · rw [if_neg hb] at e3
          rw [if_neg hb]
          exact fin S5 x5 E5' hD5 rA5 nfD5 (fun z => noD3 (o5 D z)) e3 htot (Nat.le_succ_of_le hal)
      · have hl : i = ds.length := by omega
        subst hl
        rw [List.drop_length] at e3
        cases e3
        rw [List.append_nil] at htot
        subst htot
        have S5 := S2.unwipe em
        obtain ⟨S6, own6⟩ := S5.refill (s0 := s1) em fun j hj s hs => by
          have hd := List.all_eq_true.mp hall j hj
          rw [hs] at hd
          cases s with
          | d x =>
            obtain ⟨v, e1, e2⟩ := S1.dat j x hs
            exact ⟨x, v, rfl, e1, x2.rp e2⟩
          | own xs => cases hd
          | lent xs => cases hd
        refine .inl ⟨W.stops Hc x2.gd, q _ F2 Hc S6 ⟨E2.sub, E2.new, E2.keep, E2.live, fun i h => E2.own i (own6 i h)⟩ trivial ⟨D, av, rfl, hDc, rA, nfD, fun z => ?_, hD0⟩⟩
        obtain ⟨i, h1, h2⟩ := z
        have h1 := own6 i h1
        refine noD ⟨i, h1, ?_⟩
        rw [wipe_get σ vs i]
        · exact h2
        · intro z
          obtain ⟨xs, h1⟩ := h1
          rw [em i z] at h1
          rcases h1 with h1 | h1 <;> cases h1
  · rw [if_neg cd] at e
    cases e
end
end DL
end

section
set_option Elab.async false
set_option linter.all false
set_option maxRecDepth 100000
set_option maxHeartbeats 1000000
/-! DLfn: defs that run where no repr is under way (repr asks for that): their promises, calls, the law's own end. -/
namespace DL
open PySem PySem.Spec PyProof.Rows L2
/-- a def's promise, where no guard stands around -/
structure FnG (P : Program) (w : World) (K : PySem.W.Frag) (mg : Str → Option Value) (base : Heap) (CX : CXT) (lv : Nat) (f : Addr) (fd : FuncData) (ps : List Str) (sp : Sp) : Prop where
  many : ∀ vs H Q E, sp vs H Q E → vs.length = ps.length
  go : ∀ (A : Around) (out : List Env) (s : Shared) (H : Hp) (args : Args) (us : List Value) (vs : List V) (Q : VK) (E : XK), Room lv A → A.guards = some [] → Env0 P w K mg base A out s H → BindsTo s fd args (ps.zip us) → Vals vs us → sp vs H Q E →
    codeAny (model P w) A (.call (.ref f) args) (CR CX out P w H s Q E) s
section
variable {P : Program} {w : World} {K : PySem.W.Frag} {mg : Str → Option Value} {base : Heap} {CX : CXT}
theorem FnG.mono {i j : Nat} {f : Addr} {fd : FuncData} {ps : List Str} {sp : Sp} (g : FnG P w K mg base CX i f fd ps sp) (h : i ≤ j) : FnG P w K mg base CX j f fd ps sp :=
  ⟨g.many, fun A out s H args us vs Q E room => g.go A out s H args us vs Q E (room.mono h)⟩
theorem FnG.imp {i : Nat} {f : Addr} {fd : FuncData} {ps : List Str} {sp sp' : Sp} (g : FnG P w K mg base CX i f fd ps sp) (h : ∀ vs H Q E, sp' vs H Q E → sp vs H Q E) : FnG P w K mg base CX i f fd ps sp' :=
  ⟨fun vs H Q E z => g.many vs H Q E (h _ _ _ _ z), fun A out s H args us vs Q E room gd env bd vl z => g.go A out s H args us vs Q E room gd env bd vl (h _ _ _ _ z)⟩
/-- from the body -/
theorem fnG_of {lv : Nat} {f : Addr} {nm ql : Str} {prm : Arguments} {bd : List Stmt} {sc : Scope} {dV kV dc pm cdv ct oc : Value} {an od : Option Addr} {osl : Array (Option Value)} {N ps : List Str} {sp : Sp}
    (at_ : K.lookup f = some ⟨oc, od, .func (PySem.W.fnOf nm ql prm bd sc dV kV dc pm an cdv ct), osl⟩) (isc : PySem.W.codeIn K cdv ql = true) (S : FnScope N ps sc) (many : ∀ vs H Q E, sp vs H Q E → vs.length = ps.length)
    (body : ∀ (A : Around) (out : List Env) (s : Shared) (H : Hp) (vs : List V) (Q : VK) (E : XK), Room lv (A.deeper (envOfC ql sc s.heap.objs.size f cdv)) → (A.deeper (envOfC ql sc s.heap.objs.size f cdv)).guards = some [] → sp vs H Q E →
      ∃ t, PSs (cxOf CX P w K mg base N ql sc f cdv A out s H E) bd t ∧ t { nx := fun _ H' => Q .non H', rt := Q } (L2.start N vs) H) :
    FnG P w K mg base CX (lv + 1) f (PySem.W.fnOf nm ql prm bd sc dV kV dc pm an cdv ct) ps sp := by
  refine ⟨many, fun A out s H args us vs Q E room gd env bnd vals want => ?_⟩
  have vlen := many _ _ _ _ want
  have kept : ∀ b o, base.get? b = some o → s.heap.get? b = some o := fun b o z => (env.bs b o z).1
  have inK : K.In s.heap := env.mod.kin.keeps kept
  have places : ∀ y ∈ ps.zip us, sc.names.lookup y.1 = some .local ∨ (sc.names.lookup y.1 = some .cell ∧ ((cellsFrom (s.heap.objs.size + 1) sc.names []).lookup y.1).isSome = true) := by
    rintro ⟨nm', v'⟩ hy
    rcases S.par nm' (List.of_mem_zip hy).1 with z | z
    · exact .inl z
    · exact .inr ⟨z, PySem.W.cellsFrom_some _ _ _ (.inl z)⟩
  refine codeAny_call_function room.depth (inK _ _ at_) rfl S.co S.gen rfl (PySem.W.codeRec_of inK isc) (bnd _ _ _ _ ?_)
  refine wpAny_newFunctionEnv_cells S.kind places fun env' he st1 x => ?_
  subst he
  refine ⟨(env.mod.nolimit.keeps kept).keeps x.toInCall.keep, codeAny_func ?_⟩
  obtain ⟨t, pt, qt⟩ := body A out s H vs Q E (room.deeper _) gd want
  have J : Inv (cxOf CX P w K mg base N ql sc f cdv A out s H E) [] (L2.start N vs) H st1 := inv_start S room.hd env vlen vals x
  refine wpAny_mono (pt.run [] st1 (L2.start N vs) H _ J qt) (fun fl st2 z => ?_) fun e st2 z => z
  cases fl with
  | ret u =>
    obtain ⟨v, σ', H', J', rv, z⟩ := z
    exact ⟨v, H', J'.os, J'.bare, J'.base, J'.hok, rv, z⟩
  | next =>
    obtain ⟨σ', H', J', z⟩ := z
    exact ⟨.non, H', J'.os, J'.bare, J'.base, J'.hok, rfl, z⟩
  | brk =>
    obtain ⟨_, _, _, z⟩ := z
    exact z.elim
  | cont =>
    obtain ⟨_, _, _, z⟩ := z
    exact z.elim
end
section
variable {X : Cx} {CX : CXT} {lv n : Nat} {f : Addr} {fd : FuncData} {ps ks : List Str} {sp : Sp} {dvs : List V} {ds : List Value} {E : XK} {x : Str} {p pos : Pos} {e : Expr} {es : List Expr} {kws : List Keyword} {t tk : TA} {perm : List Nat}
/-- a callee's end is the caller's -/
theorem callG {pins : List (Addr × Obj)} {σ : L2.St} {H : Hp} {s : Shared} {Q : VK} {us : List Value} {kw : List (Str × Value)} {full : List Value} {vs : List V} (g : FnG X.prog X.w X.K X.mg X.base CX lv f fd ps sp) (room : Room lv X.A) (gd : X.A.guards = some []) (pa : Passes CX X E)
    (I : Inv X pins σ H s) (bnd : BindsTo s fd ⟨us, kw⟩ (ps.zip full)) (r : Vals vs full) (want : sp vs H Q E) : wpAny (model X.prog X.w) X.A (call (.ref f) us kw) (EP X pins σ Q) X.xe s := by
  refine wpAny_call (codeAny_mono (g.go X.A X.stack s H ⟨us, kw⟩ full vs Q E room gd I.env0 bnd r want) fun res s' z => ?_)
  match res, z with
  | .error er, z => exact pa pins σ H s er s' I z
  | .ok (.ret u), z => exact I.after z
  | .ok .next, z => exact z.elim
  | .ok .brk, z => exact z.elim
  | .ok .cont, z => exact z.elim
theorem pe_callG (g : FnG X.prog X.w X.K X.mg X.base CX lv f fd ps sp) (room : Room lv X.A) (gd : X.A.guards = some []) (hg : Gl X x) (hm : X.mg x = some (.ref f)) (kp : PySem.W.keepIn X.K (.ref f) = true) (hb : Binds X.K fd ps ds) (hd : Vals dvs ds) (pa : Passes CX X E)
    (ha : PA X (e :: es) t) (h1 : (x == ("__debug__" : Str)) = false := by decide) (h2 : starEach (e :: es) X.env = (false, eval e X.env) :: starEach es X.env := by rfl) (h3 : (backTo pos (starEach es X.env)).any (·.1) = false := by rfl) :
    PE X (.Call (.Name x p) (e :: es) [] pos) (tCall sp dvs E t) := by
  constructor
  intro pins s σ H Q I want
  refine wpAny_Call_Name_kw (ld_glob I hg hm ?_ h1)
  refine PySem.W.callWith_K (h₀ := X.base) I.ok.mod.kin kp ?_ h2 h3
  refine thn (ha.run pos pins s σ H _ I want) ?_
  rintro us s1 ⟨vs, H1, I1, r, z⟩
  have r2 : Vals (vs ++ dvs) (us ++ ds) := r.append hd
  have l2 : (us ++ ds).length = ps.length := r2.length.symm.trans (g.many _ _ _ _ z)
  exact ⟨I1.kIn, callG g room gd pa I1 (hb s1 us I1.kIn l2) r2 z⟩
theorem pe_call0G (g : FnG X.prog X.w X.K X.mg X.base CX lv f fd ps sp) (room : Room lv X.A) (gd : X.A.guards = some []) (hg : Gl X x) (hm : X.mg x = some (.ref f)) (kp : PySem.W.keepIn X.K (.ref f) = true) (hb : Binds X.K fd ps ds) (hd : Vals dvs ds) (pa : Passes CX X E)
    (h1 : (x == ("__debug__" : Str)) = false := by decide) : PE X (.Call (.Name x p) [] [] pos) (tCall sp dvs E tNil) := by
  constructor
  intro pins s σ H Q I want
  refine wpAny_Call_Name_kw (ld_glob I hg hm ?_ h1)
  have r2 : Vals ([] ++ dvs) ([] ++ ds) := hd
  have l2 : (([] : List Value) ++ ds).length = ps.length := r2.length.symm.trans (g.many _ _ _ _ want)
  exact PySem.W.callWith_K0 I.kIn kp (callG g room gd pa I (hb s [] I.kIn l2) r2 want)

/-! ### calls with names -/
theorem permute_cons {α : Type} (k : Nat) (perm : List Nat) (xs : List α) : permute (k :: perm) xs = match xs[k]? with | some x => x :: permute perm xs | none => permute perm xs := by
  unfold permute
  rw [List.filterMap_cons]
  cases xs[k]? <;> rfl
theorem Vals.permute {vs : List V} {us : List Value} (h : Vals vs us) : ∀ perm : List Nat, Vals (DL.permute perm vs) (DL.permute perm us)
  | [] => .nil
  | k :: perm => by
    rw [permute_cons, permute_cons]
    cases q : vs[k]? with
    | none =>
      rw [Vals.none_of h q]
      exact Vals.permute h perm
    | some x =>
      obtain ⟨v, e, r⟩ := Vals.get h q
      rw [e]
      exact .cons r (Vals.permute h perm)
def KB (K : PySem.W.Frag) (fd : FuncData) (ps ks : List Str) (n : Nat) (perm : List Nat) (ds : List Value) : Prop :=
  ∀ (s : Shared) (us ws : List Value), K.In s.heap → us.length = n → ws.length = ks.length → BindsTo s fd ⟨us, ks.zip ws⟩ (ps.zip (permute perm (us ++ ws ++ ds)))
def tCallP (n m : Nat) (perm : List Nat) (dvs : List V) (sp : Sp) (E : XK) (t tk : TA) : TE := fun σ H Q => t σ H fun vs H1 => tk σ H1 fun zs H2 => vs.length = n ∧ zs.length = m ∧ sp (permute perm (vs ++ zs ++ dvs)) H2 Q E
theorem pe_callP (g : FnG X.prog X.w X.K X.mg X.base CX lv f fd ps sp) (room : Room lv X.A) (gd : X.A.guards = some []) (hg : Gl X x) (hm : X.mg x = some (.ref f)) (kp : PySem.W.keepIn X.K (.ref f) = true) (hb : KB X.K fd ps ks n perm ds) (hd : Vals dvs ds) (pa : Passes CX X E)
    (ha : PA X (e :: es) t) (hkw : PK X kws tk) (k1 : (backToKw pos (keywordEach kws X.env)).all (·.1.isSome) = true := by rfl) (k2 : (backToKw pos (keywordEach kws X.env)).filterMap (·.1) = ks := by rfl)
    (h1 : (x == ("__debug__" : Str)) = false := by decide) (h2 : starEach (e :: es) X.env = (false, eval e X.env) :: starEach es X.env := by rfl)
    (h3 : ((backTo pos (starEach (e :: es) X.env)).any (·.1) || (backToKw pos (keywordEach kws X.env)).any (·.1.isNone)) = false := by rfl) :
    PE X (.Call (.Name x p) (e :: es) kws pos) (tCallP n ks.length perm dvs sp E t tk) := by
  constructor
  intro pins s σ H Q I want
  refine wpAny_Call_Name_kw (ld_glob I hg hm ?_ h1)
  refine PySem.W.callWith_KW (h₀ := X.base) I.ok.mod.kin kp k1 (thn (ha.run pos pins s σ H _ I want) ?_) h3 h2
  rintro us s1 ⟨vs, H1, I1, r, z⟩
  refine thn (hkw.run pos pins s1 σ H1 _ I1 z) ?_
  rintro ws s2 ⟨zs, H2, I2, rz, l1, l2, z2⟩
  refine ⟨I2.kIn, ?_⟩
  rw [k2]
  exact callG g room gd pa I2 (hb s2 us ws I2.kIn (r.length.symm.trans l1) (rz.length.symm.trans l2)) (Vals.permute (Vals.append (Vals.append r rz) hd) perm) z2
theorem pe_callP0 (g : FnG X.prog X.w X.K X.mg X.base CX lv f fd ps sp) (room : Room lv X.A) (gd : X.A.guards = some []) (hg : Gl X x) (hm : X.mg x = some (.ref f)) (kp : PySem.W.keepIn X.K (.ref f) = true) (hb : KB X.K fd ps ks 0 perm ds) (hd : Vals dvs ds) (pa : Passes CX X E)
    (hkw : PK X kws tk) (k1 : (backToKw pos (keywordEach kws X.env)).all (·.1.isSome) = true := by rfl) (k2 : (backToKw pos (keywordEach kws X.env)).filterMap (·.1) = ks := by rfl)
    (h1 : (x == ("__debug__" : Str)) = false := by decide)
    (h3 : ((backTo pos (starEach [] X.env)).any (·.1) || (backToKw pos (keywordEach kws X.env)).any (·.1.isNone)) = false := by rfl) :
    PE X (.Call (.Name x p) [] kws pos) (tCallP 0 ks.length perm dvs sp E tNil tk) := by
  constructor
  intro pins s σ H Q I want
  refine wpAny_Call_Name_kw (ld_glob I hg hm ?_ h1)
  refine PySem.W.callWith_KW0 (h₀ := X.base) I.ok.mod.kin kp k1 (thn (hkw.run pos pins s σ H _ I want) ?_) h3
  rintro ws s2 ⟨zs, H2, I2, rz, l1, l2, z2⟩
  refine ⟨I2.kIn, ?_⟩
  rw [k2]
  exact callG g room gd pa I2 (hb s2 [] ws I2.kIn rfl (rz.length.symm.trans l2)) (Vals.permute (Vals.append (Vals.append .nil rz) hd) perm) z2
end

/-! ### the law's own end -/
section
variable {P : Program} {w : World} {K : PySem.W.Frag} {mg mb : Str → Option Value}
/-- the script's heap: nothing is told but the script, which is locked; or nothing at all -/
theorem lawG {lv : Nat} {fa a : Addr} {fd : FuncData} {x : Str} {sp : Sp} {s1 : Shared} {us : List Value} {ns : List Int}
    (inK : K.In s1.heap) (nsG : s1.heap.Ns mainGlobals mg) (nsB : s1.heap.Ns builtinsNs mb) (blt : ∀ y : Str, y ≠ "__name__" → mb y = bootBuiltins y) (noLim : s1.heap.NoLimit) (gens : s1.gens = #[])
    (scr : s1.heap.get? a = some { cls := .type "list", data := .seq us.toArray }) (isI : IntsAre us ns) (short : ns.length ≤ sizeLine) (room : Room lv callerA)
    (g : ∀ base : Heap, K.In base → base.Ns mainGlobals mg → FnG P w K mg base CX0 lv fa fd [x] sp) (bnd : ∀ (s : Shared) (u : Value), BindsTo s fd ⟨[u], []⟩ [(x, u)])
    (want : ∀ H : Hp, Only H → SqL K H a (ns.map V.int) → sp [.ref a] H (fun v _ => v = .bl true) fun _ _ _ => False) :
    codeAny (model P w) callerA (.call (.ref fa) ⟨[.ref a], []⟩) (fun r s' => r = .ok (.ret (.bool true)) ∧ OldK s1.heap s'.heap ∧ s'.os = s1.os ∧ AllBare s'.gens) s1 := by
  have vals : Vals (ns.map V.int) us := vals_ints isI
  have ulen : us.length = ns.length := isI.length
  -- both shapes of the told heap at once
  have both : ∀ H : Hp, Only H → SqL K H a (ns.map V.int) → HOk P w H s1.heap → (∀ b u, H b = some u → b = a ∧ K.lookup b = none) →
      codeAny (model P w) callerA (.call (.ref fa) ⟨[.ref a], []⟩) (fun r s' => r = .ok (.ret (.bool true)) ∧ OldK s1.heap s'.heap ∧ s'.os = s1.os ∧ AllBare s'.gens) s1 := by
    intro H only sq hok told
    have keepK : K.In (hidT s1.heap H) := by
      intro b o hb
      refine hidT_get (inK b o hb) ?_
      cases q : H b with
      | none => rfl
      | some u =>
        obtain ⟨_, z⟩ := told b u q
        rw [z] at hb
        cases hb
    have keepNs : ∀ {b : Addr} {m : Str → Option Value}, s1.heap.Ns b m → (hidT s1.heap H).Ns b m := by
      rintro b m ⟨o, es, ep, h1, h2, h3⟩
      refine ⟨o, es, ep, hidT_get h1 ?_, h2, h3⟩
      cases q : H b with
      | none => rfl
      | some u =>
        obtain ⟨z, _⟩ := told b u q
        subst z
        rw [scr] at h1
        cases h1
        cases (show Data.seq us.toArray _ = Data.dict es ep from h2)
    have md : Mod K mg (hidT s1.heap H) := by
      obtain ⟨mc, c1, c2⟩ := noLim
      exact ⟨keepK, keepNs nsG, ⟨mb, keepNs nsB, blt⟩, mc, keepNs c1, c2⟩
    have env : Env0 P w K mg (hidT s1.heap H) callerA [] s1 H :=
      ⟨rfl, md, fun b o hb => of_hidT hb, Nat.le_of_eq (hidT_size _ _), trivial, fun b hb => absurd (show b ∈ ([] : List Addr) from hb) List.not_mem_nil, hok, .of_eq gens⟩
    refine codeAny_mono ((g _ keepK (keepNs nsG)).go callerA [] s1 H ⟨[.ref a], []⟩ [.ref a] [.ref a] _ _ room rfl env (bnd s1 (.ref a)) (.cons rfl .nil) (want H only sq)) fun r s' z => ?_
    match r, z with
    | .error er, z => exact False.elim z
    | .ok .next, z => exact False.elim z
    | .ok .brk, z => exact False.elim z
    | .ok .cont, z => exact False.elim z
    | .ok (.ret u), z =>
      obtain ⟨v, H', os, bare, un, hok', rv, isT⟩ := z
      have isT : v = .bl true := isT
      subst isT
      cases (show u = Value.bool true from rv)
      refine ⟨rfl, OldK.of_keep fun b o hb => ?_, os, bare⟩
      cases q : H b with
      | none => exact un.keep b o hb q (fun c => absurd (show b ∈ ([] : List Addr) from c) List.not_mem_nil) List.not_mem_nil
      | some u =>
        rcases only b with c | ⟨ob, zs, c⟩
        · rw [q] at c
          cases c
        · obtain ⟨o1, _⟩ := hok b _ c
          obtain ⟨o2, _⟩ := hok' b _ (un.frzs b ob _ c)
          rw [hb] at o1
          cases o1
          exact o2
  cases inMod : K.lookup a with
  | some o =>
    have same := inK a o inMod
    rw [scr] at same
    cases same
    refine both (fun _ => none) (fun _ => .inl rfl) (.inr ⟨_, us.toArray, _, inMod, rfl, rfl, rfl, ?_, vals⟩) (fun b u c => nomatch c) fun b u c => nomatch c
    rw [List.size_toArray, ulen]
    exact short
  | none =>
    refine both (fun b => if b = a then some (.frz { cls := .type "list", data := .seq us.toArray } (.lst (ns.map V.int))) else none) (fun b => ?_) (.inl (.inr ⟨_, if_pos rfl⟩)) (fun b u c => ?_) fun b u c => ?_
    · by_cases ba : b = a
      · exact .inr ⟨_, _, if_pos ba⟩
      · exact .inl (if_neg ba)
    · by_cases ba : b = a
      · subst ba
        have c := (if_pos rfl).symm.trans c
        cases c
        exact ⟨scr, by rw [List.length_map]; exact short, us, _, vals, scr⟩
      · have c := (if_neg ba).symm.trans c
        cases c
    · by_cases ba : b = a
      · subst ba
        exact ⟨rfl, inMod⟩
      · have c := (if_neg ba).symm.trans c
        cases c
/-- the goal that the head leaves -/
theorem walkG {l : PySem.W.OpenLaw} {n lv : Nat} {q : Program} {loose : List Str} {XP : (Str → Option Value) → Heap → Prop} {YP : World → Heap → Prop} {d : DefRec} {KK : Params → PySem.W.Frag} {sp : PySem.W.Frag → Sp} {x : Str}
    (most : l.most = some n) (fits : n ≤ sizeLine) (noDef : d.params.defaults = []) (room : Room lv callerA) (isK : ∀ (w : World) (h : Heap), YP w h → (KK w.params).In h)
    (g : ∀ (w : World) (mg : Str → Option Value) (fa : Addr) (h : Heap), (KK w.params).In h → h.Ns mainGlobals mg → mg d.name = some (.ref fa) →
      ∃ fd : FuncData, (∀ (s : Shared) (u : Value), BindsTo s fd ⟨[u], []⟩ [(x, u)]) ∧ ∀ base : Heap, (KK w.params).In base → base.Ns mainGlobals mg → FnG l.prog w (KK w.params) mg base CX0 lv fa fd [x] (sp (KK w.params)))
    (want : ∀ (K : PySem.W.Frag) (H : Hp) (a : Addr) (ns : List Int), ns.length ≤ n → Only H → SqL K H a (ns.map V.int) → sp K [.ref a] H (fun v _ => v = .bl true) fun _ _ _ => False) :
    PySem.W.WalkO q loose XP YP l.row.toRowW d [] (fun f vs => PySem.call f vs) := by
  refine Att.attach_call most noDef ?_
  intro w s0 s1 mg mb fa o pm cd doc a us ns G Y ho hd hcd hmg hobj isI hlen gens
  have inK := isK w _ Y
  obtain ⟨fd, bnd, gb⟩ := g w mg fa _ inK G.T.g hmg
  exact lawG inK G.T.g G.T.b G.T.builtins G.T.nolimit gens hobj isI (Nat.le_trans hlen fits) room gb bnd fun H only sq => want _ H a ns hlen only sq
end
end DL
end

section
set_option Elab.async false
set_option linter.all false
set_option maxRecDepth 100000
set_option maxHeartbeats 1000000
/-! DLsnd5: promises of defs, calls. -/
namespace DL
open PySem PySem.Spec PyProof.Rows L2
def ArOk (K : PySem.W.Frag) (F : Addr → Prop) (H : Hp) (v : V) : Ar → Prop
  | .d x => Rp K F H v x
  | .m xs => ∃ p vs, v = .ref p ∧ H p = some (.lst vs) ∧ RpAll K F H vs xs ∧ ¬ F p
/-- the lent lists' addresses, by the arguments' places -/
def lentP (vs : List V) (as : List Ar) (i : Nat) : Option Addr := match as[i]?, vs[i]? with
  | some (.m _), some (.ref p) => some p
  | _, _ => none
/-- THE PROMISE of a def whose plain function is g -/
def spD (K : PySem.W.Frag) (n : Nat) (g : Fn) : Sp := fun vs H Q _ => ∃ (F : Addr → Prop) (as : List Ar) (r : Rt) (outs : List (List D)),
  vs.length = n ∧ Paired (ArOk K F H) vs as ∧ (∀ a, F a → ∃ xs, H a = some (.lst xs)) ∧ (∀ i j p, lentP vs as i = some p → lentP vs as j = some p → i = j) ∧ g as = some (r, outs) ∧
  ∀ v F' H', (∀ a, F a → F' a) → (∀ a, F' a → F a ∨ H a = none) → (∀ a, F' a → ∃ xs, H' a = some (.lst xs)) → (∀ b u, H b = some u → (∀ i, lentP vs as i ≠ some b) → H' b = some u) →
    (∀ i p, lentP vs as i = some p → ¬ F' p) →
    (∃ st, outsGo st as 0 = some outs ∧ ∀ i p, lentP vs as i = some p → ∃ xs ws, st.getD i none = some (.lent xs) ∧ H' p = some (.lst ws) ∧ RpAll K F' H' ws xs) →
    (∀ a xs, FL K F H a xs → FL K F' H' a xs) → (∀ a xs, STD K H a xs → STD K H' a xs) →
    RtOk K H F' H' r v → Q v H'
theorem Paired.at {α β : Type} {R : α → β → Prop} : ∀ {l : List α} {m : List β} {i : Nat} {b : β}, Paired R l m → m[i]? = some b → ∃ a, l[i]? = some a ∧ R a b
  | _, _, _, _, .nil, e => by simp at e
  | _, _, 0, _, .cons a _, e => by
    simp at e
    subst e
    exact ⟨_, rfl, a⟩
  | _, _, i + 1, _, .cons _ b, e => by
    obtain ⟨v, h1, h2⟩ := Paired.at (i := i) b (by simpa using e)
    exact ⟨v, by simpa using h1, h2⟩
theorem startD_get {n : Nat} {as : List Ar} {i : Nat} {s : SV} (h : (startD n as).getD i none = some s) : ∃ a, as[i]? = some a ∧ s = arS a := by
  unfold startD at h
  rw [List.getD_eq_getElem?_getD] at h
  by_cases hi : i < as.length
  · rw [List.getElem?_append_left (by rw [List.length_map]; exact hi), List.getElem?_map, List.getElem?_eq_getElem hi] at h
    exact ⟨as[i], List.getElem?_eq_getElem hi, (Option.some.inj h).symm⟩
  · rw [List.getElem?_append_right (by rw [List.length_map]; omega), List.getElem?_replicate] at h
    split at h <;> cases h
theorem startD_at {n : Nat} {as : List Ar} {i : Nat} {a : Ar} (h : as[i]? = some a) : (startD n as).getD i none = some (arS a) := by
  obtain ⟨hi, e⟩ := List.getElem?_eq_some_iff.mp h
  unfold startD
  rw [List.getD_eq_getElem?_getD, List.getElem?_append_left (by rw [List.length_map]; exact hi), List.getElem?_map, h]
  rfl
theorem start_at {N : List Str} {vs : List V} {i : Nat} {v : V} (h : vs[i]? = some v) : (L2.start N vs)[i]? = some (some v) := by
  obtain ⟨hi, e⟩ := List.getElem?_eq_some_iff.mp h
  unfold L2.start
  rw [List.getElem?_append_left (by rw [List.length_map]; exact hi), List.getElem?_map, h]
  rfl
section
variable {P : Program} {w : World} {K : PySem.W.Frag} {mg : Str → Option Value} {base : Heap}
/-- a def's body, read by a plain function, keeps the promise -/
theorem dl_body {n : Nat} {N : List Str} {b : DS} {t : TS} {vs : List V} {H : Hp} {Q : VK} {E : XK} (hN : n ≤ N.length) (s : SndS K t b) (h : spD K n (run N.length b) vs H Q E) : t { nx := fun _ H' => Q .non H', rt := Q } (L2.start N vs) H := by
  obtain ⟨F, as, r, outs, hl, pr, hF, hinj, hg, q⟩ := h
  obtain ⟨⟨fl, st'⟩, e1, e⟩ := bs hg
  obtain ⟨o, e2, e⟩ := bs e
  have hl2 : as.length = n := by rw [← Paired.length pr]; exact hl
  have lp : ∀ {i xs}, as[i]? = some (Ar.m xs) → ∃ p ws, lentP vs as i = some p ∧ vs[i]? = some (.ref p) ∧ H p = some (.lst ws) ∧ RpAll K F H ws xs ∧ ¬ F p := fun {i xs} ha => by
    obtain ⟨v, hv, p, ws, rfl, h1, h2, h3⟩ := Paired.at pr ha
    exact ⟨p, ws, by unfold lentP; rw [ha, hv], hv, h1, h2, h3⟩
  have lp' : ∀ {i p}, lentP vs as i = some p → ∃ xs, as[i]? = some (Ar.m xs) := fun {i p} h => by
    unfold lentP at h
    cases ha : as[i]? with
    | none => rw [ha] at h; cases h
    | some a =>
      rw [ha] at h
      cases a with
      | d x => cases h
      | m xs => exact ⟨xs, rfl⟩
  have S : Sim K H (lentP vs as) (startD N.length as) (L2.start N vs) F H := by
    refine ⟨?_, fun i x h => ?_, fun i x h => ?_, fun i x h => ?_, fun i p h => ?_, fun i p h => ?_, fun i j p a b e1 e2 => ?_, hF, fun b u h _ => h⟩
    · unfold L2.start startD
      rw [List.length_append, List.length_append, List.length_map, List.length_map, List.length_replicate, List.length_replicate, Paired.length pr]
    · obtain ⟨a, ha, hs⟩ := startD_get h
      cases a with
      | d y =>
        cases hs
        obtain ⟨v, hv, rv⟩ := Paired.at pr ha
        exact ⟨v, start_at hv, rv⟩
      | m y => cases hs
    · obtain ⟨a, ha, hs⟩ := startD_get h
      cases a <;> cases hs
    · obtain ⟨a, ha, hs⟩ := startD_get h
      cases a with
      | d y => cases hs
      | m y =>
        cases hs
        obtain ⟨p, ws, h1, h2, h3, h4, h5⟩ := lp ha
        exact ⟨p, ws, h1, start_at h2, h3, h4, h5⟩
    · obtain ⟨xs, ha⟩ := lp' h
      exact ⟨xs, startD_at ha⟩
    · obtain ⟨xs, ha⟩ := lp' h
      obtain ⟨p', ws, h1, h2, h3, _⟩ := lp ha
      rw [h] at h1
      cases h1
      rw [h3]
      exact fun z => by cases z
    · have own : ∀ k, IsOwn (startD N.length as) k → (L2.start N vs)[k]? = some (some (.ref p)) → lentP vs as k = some p := fun k ⟨xs, o⟩ e => by
        rcases o with o | o
        · obtain ⟨a, ha, hs⟩ := startD_get o
          cases a <;> cases hs
        · obtain ⟨a, ha, hs⟩ := startD_get o
          cases a with
          | d y => cases hs
          | m y =>
            obtain ⟨p', ws, h1, h2, _⟩ := lp ha
            rw [start_at h2] at e
            cases e
            exact h1
      exact hinj i j p (own i a e1) (own j b e2)
  have post : ∀ {σ' : L2.St} {F' : Addr → Prop} {H' : Hp} {v : V} {r' : Rt}, Sim K H (lentP vs as) st' σ' F' H' → FExt K H F H F' H' → RtOk K H F' H' r' v → r' = r → o = outs → Q v H' := fun {σ' F' H' v r'} S' x' rt e3 e4 => by
    subst e3
    subst e4
    refine q v F' H' x'.sub x'.new S'.frz S'.base (fun i p h => ?_) ⟨st', e2, fun i p h => ?_⟩ x'.fl x'.tup rt
    · obtain ⟨xs, h1⟩ := S'.lentE i p h
      obtain ⟨p', ws, m, _, _, _, nf⟩ := S'.lent i xs h1
      rw [h] at m
      cases m
      exact nf
    · obtain ⟨xs, h1⟩ := S'.lentE i p h
      obtain ⟨p', ws, m, _, h2, h3, _⟩ := S'.lent i xs h1
      rw [h] at m
      cases m
      exact ⟨xs, ws, h1, h2, h3⟩
  refine s H (lentP vs as) (startD N.length as) (L2.start N vs) F H fl st' _ S e1 ?_
  cases fl with
  | nx =>
    cases e
    exact fun σ' F' H' S' x' => post S' x' (r' := .d .none) .non rfl rfl
  | bk => cases e
  | ct => cases e
  | rt r' =>
    cases e
    exact fun v σ' F' H' S' x' rt => post S' x' rt rfl rfl
/-- THE RULE: a def by its body's reading -/
theorem dl_ok {x qual : Str} {st : Stmt} {f : Addr} {fd : FuncData} {N ps : List Str} {k : Nat} {b : DS} (F : Fun K x qual st f fd) (S : FnScope N ps (defScope st)) (hN : ps.length ≤ N.length)
    (hbody : ∀ (cdv : Value) (A : Around) (outer : List Env) (s : Shared) (H : Hp) (E : XK), Room k (A.deeper (envOfC qual (defScope st) s.heap.objs.size f cdv)) → (A.deeper (envOfC qual (defScope st) s.heap.objs.size f cdv)).guards = some [] →
      ∃ t, PSs (cxOf CX0 P w K mg base N qual (defScope st) f cdv A outer s H E).nox (defBody st) t ∧ SndS K t b) : FnG P w K mg base CX0 (k + 1) f fd ps (spD K ps.length (run N.length b)) := by
  obtain ⟨oc, od, kV, doc, pm, an, cdv, ct, osl, rfl, lk, isc⟩ := F.ex
  refine fnG_of lk isc S (fun vs H Q E h => let ⟨_, _, _, _, hl, _⟩ := h; hl) fun A outer s H vs Q E hr gd h => ?_
  obtain ⟨t, h1, h2⟩ := hbody cdv A outer s H E hr gd
  exact ⟨t, h1.nox, dl_body hN h2 h⟩
/-- .. for a def with defaults -/
theorem dl_okD {x qual : Str} {params : Arguments} {body : List Stmt} {scope : Scope} {dvs : List V} {kws : List (Str × V)} {f : Addr} {fd : FuncData} {N ps : List Str} {k : Nat} {b : DS} (F : FunD K x qual params body scope dvs kws f fd) (S : FnScope N ps scope) (hN : ps.length ≤ N.length)
    (hbody : ∀ (cdv : Value) (A : Around) (outer : List Env) (s : Shared) (H : Hp) (E : XK), Room k (A.deeper (envOfC qual scope s.heap.objs.size f cdv)) → (A.deeper (envOfC qual scope s.heap.objs.size f cdv)).guards = some [] →
      ∃ t, PSs (cxOf CX0 P w K mg base N qual scope f cdv A outer s H E).nox body t ∧ SndS K t b) : FnG P w K mg base CX0 (k + 1) f fd ps (spD K ps.length (run N.length b)) := by
  obtain ⟨oc, od, dV, kV, doc, pm, an, cdv, ct, osl, rfl, lk, isc, _, _⟩ := F.ex
  refine fnG_of lk isc S (fun vs H Q E h => let ⟨_, _, _, _, hl, _⟩ := h; hl) fun A outer s H vs Q E hr gd h => ?_
  obtain ⟨t, h1, h2⟩ := hbody cdv A outer s H E hr gd
  exact ⟨t, h1.nox, dl_body hN h2 h⟩
end

/-! ### calls -/
section
variable {K : PySem.W.Frag} {H0 : Hp} {M : Nat → Option Addr} {st st' st2 : DSt} {σ : L2.St} {F F' F2 : Addr → Prop} {H H' H2 H3 Hb Hc : Hp} {v w : V} {r : Rv} {x : PyData}
/-- what the arguments are behind the giving away -/
def AtOk (K : PySem.W.Frag) (F : Addr → Prop) (H : Hp) (σ : L2.St) (v : V) : Sum D Nat → Prop
  | .inl x => Rp K F H v x
  | .inr i => σ[i]? = some (some v)
theorem marsh_ok {sts : DSt} {Fs : Addr → Prop} : ∀ {rs : List Rv} {ms : List Bool} {vs : List V} {as : List (Sum D Nat)} {st st' : DSt} {F : Addr → Prop}, rs.length = ms.length → Sim K H0 M st σ F H → Ext sts σ Fs Hb st F H → RvWs K F H st σ Hb rs vs → marsh st (rs.zip ms) = some (as, st') →
    ∃ F', Sim K H0 M st' σ F' H ∧ Ext sts σ Fs Hb st' F' H ∧ Paired (AtOk K F' H σ) vs as ∧ (∀ a, F a → F' a)
  | [], [], _, as, st, st', F, hl, S, E, .nil, e => by
    cases e
    exact ⟨F, S, E, .nil, fun _ h => h⟩
  | r :: rs, false :: ms, _, as, st, st', F, hl, S, E, .cons h t, e => by
    have e : ((toD st r).bind fun p => (marsh p.2 (rs.zip ms)).bind fun q => some (Sum.inl p.1 :: q.1, q.2)) = some (as, st') := by
      have : (r :: rs).zip (false :: ms) = (r, false) :: rs.zip ms := rfl
      rw [this] at e
      exact e
    obtain ⟨p, e1, e⟩ := bs e
    obtain ⟨q, e2, e⟩ := bs e
    cases e
    obtain ⟨F1, S1, E1, r1, s1, o1, f1⟩ := toD_ok S E h e1
    obtain ⟨F2, S2, E2, r2, s2⟩ := marsh_ok (by simpa using hl) S1 E1 (t.to s1 o1 f1) e2
    exact ⟨F2, S2, E2, .cons (Rp.more s2 r1) r2, fun a z => s2 a (s1 a z)⟩
  | .sl i :: rs, true :: ms, _, as, st, st', F, hl, S, E, .cons h t, e => by
    have e : ((marsh st (rs.zip ms)).bind fun q => some (Sum.inr i :: q.1, q.2)) = some (as, st') := by
      have : (Rv.sl i :: rs).zip (true :: ms) = (Rv.sl i, true) :: rs.zip ms := rfl
      rw [this] at e
      exact e
    obtain ⟨q, e2, e⟩ := bs e
    cases e
    obtain ⟨F2, S2, E2, r2, s2⟩ := marsh_ok (by simpa using hl) S E t e2
    exact ⟨F2, S2, E2, .cons h r2, s2⟩
  | .d x :: rs, true :: ms, _, as, st, st', F, hl, S, E, _, e => by cases e
  | .tmp x :: rs, true :: ms, _, as, st, st', F, hl, S, E, _, e => by cases e
theorem lents_ok (S : Sim K H0 M st σ F H) : ∀ {vs : List V} {as : List (Sum D Nat)} {bs' : List Ar}, Paired (AtOk K F H σ) vs as → lents st as = some bs' →
    Paired (ArOk K F H) vs bs' ∧ ∀ i p, lentP vs bs' i = some p → ∃ j, as[i]? = some (.inr j) ∧ IsOwn st j ∧ σ[j]? = some (some (.ref p))
  | [], [], bs', .nil, e => by
    cases e
    exact ⟨.nil, fun i p h => by unfold lentP at h; simp at h⟩
  | v :: vs, a :: as, bs', .cons h t, e => by
    obtain ⟨x, e1, e⟩ := bs e
    obtain ⟨xs, e2, e⟩ := bs e
    cases e
    obtain ⟨p1, p2⟩ := lents_ok S t e2
    have hx : ArOk K F H v x ∧ ∀ p, (match some x, some v with | some (.m _), some (.ref p) => some p | _, _ => (none : Option Addr)) = some p → ∃ j, a = .inr j ∧ IsOwn st j ∧ σ[j]? = some (some (.ref p)) := by
      cases a with
      | inl y =>
        cases e1
        exact ⟨h, fun p z => by cases z⟩
      | inr j =>
        have h : σ[j]? = some (some v) := h
        have e1 : (match st.getD j none with
          | some (.own xs) => some (Ar.m xs)
          | some (.lent xs) => some (.m xs)
          | _ => none) = some x := e1
        cases g : st.getD j none with
        | none => rw [g] at e1; cases e1
        | some s =>
          rw [g] at e1
          cases s with
          | d y => cases e1
          | own ys =>
            cases e1
            obtain ⟨p, ws, a1, a2, a3, a4, _⟩ := S.own j ys g
            rw [h] at a1
            cases a1
            exact ⟨⟨p, ws, rfl, a2, a3, a4⟩, fun p' z => by cases z; exact ⟨j, rfl, ⟨ys, .inl g⟩, h⟩⟩
          | lent ys =>
            cases e1
            obtain ⟨p, ws, _, a1, a2, a3, a4⟩ := S.lent j ys g
            rw [h] at a1
            cases a1
            exact ⟨⟨p, ws, rfl, a2, a3, a4⟩, fun p' z => by cases z; exact ⟨j, rfl, ⟨ys, .inr g⟩, h⟩⟩
    refine ⟨.cons hx.1 p1, fun i p h => ?_⟩
    cases i with
    | zero =>
      obtain ⟨j, h1, h2, h3⟩ := hx.2 p h
      exact ⟨j, by rw [h1]; rfl, h2, h3⟩
    | succ i =>
      obtain ⟨j, h1, h2, h3⟩ := p2 i p h
      exact ⟨j, by simpa using h1, h2, h3⟩
theorem lentIx_mem : ∀ {as : List (Sum D Nat)} {i j : Nat}, as[i]? = some (.inr j) → j ∈ lentIx as
  | [], i, j, h => by simp at h
  | a :: as, 0, j, h => by
    simp at h
    subst h
    exact List.mem_cons_self
  | a :: as, i + 1, j, h => by
    have := lentIx_mem (as := as) (i := i) (j := j) (by simpa using h)
    cases a with
    | inl x => exact this
    | inr x => exact List.mem_cons_of_mem _ this
theorem lentIx_one : ∀ {as : List (Sum D Nat)} {i i' j j' : Nat}, (lentIx as).length ≤ 1 → as[i]? = some (.inr j) → as[i']? = some (.inr j') → i = i'
  | [], i, i', j, j', _, h, _ => by simp at h
  | a :: as, 0, 0, j, j', _, _, _ => rfl
  | a :: as, 0, i' + 1, j, j', hl, h, h' => by
    simp at h
    subst h
    have := lentIx_mem (as := as) (i := i') (j := j') (by simpa using h')
    have hl : (lentIx as).length + 1 ≤ 1 := hl
    cases q : lentIx as with
    | nil => rw [q] at this; simp at this
    | cons c d => rw [q] at hl; simp at hl
  | a :: as, i + 1, 0, j, j', hl, h', h => by
    simp at h
    subst h
    have := lentIx_mem (as := as) (i := i) (j := j) (by simpa using h')
    have hl : (lentIx as).length + 1 ≤ 1 := hl
    cases q : lentIx as with
    | nil => rw [q] at this; simp at this
    | cons c d => rw [q] at hl; simp at hl
  | a :: as, i + 1, i' + 1, j, j', hl, h, h' => by
    have hl2 : (lentIx as).length ≤ 1 := by
      cases a with
      | inl x => exact hl
      | inr x =>
        have hl : (lentIx as).length + 1 ≤ 1 := hl
        omega
    exact congrArg (· + 1) (lentIx_one hl2 (by simpa using h) (by simpa using h'))
/-- what outsGo gathers, and putBack lays down, of one lent list -/
theorem outs_one : ∀ {as : List Ar} {k i : Nat} {s : DSt} {outs : List (List D)} {xs ys : List D}, outsGo s as k = some outs → as[i]? = some (Ar.m xs) → (∀ j zs, as[j]? = some (.m zs) → j = i) → s.getD (k + i) none = some (.lent ys) → outs = [ys]
  | [], k, i, s, outs, xs, ys, e, h, u, g => by simp at h
  | .d x :: as, k, 0, s, outs, xs, ys, e, h, u, g => by simp at h
  | .d x :: as, k, i + 1, s, outs, xs, ys, e, h, u, g => outs_one (as := as) (k := k + 1) (i := i) e (by simpa using h) (fun j zs hj => by have := u (j + 1) zs (by simpa using hj); omega) (by rw [show k + 1 + i = k + (i + 1) by omega]; exact g)
  | .m x :: as, k, i + 1, s, outs, xs, ys, e, h, u, g => by
    have := u 0 x rfl
    omega
  | .m x :: as, k, 0, s, outs, xs, ys, e, h, u, g => by
    have e : (match s.getD k none with
      | some (.lent xs) => (outsGo s as (k + 1)).bind fun o => some (xs :: o)
      | _ => none) = some outs := e
    rw [show s.getD k none = some (.lent ys) from g] at e
    obtain ⟨o, e1, e2⟩ := bs e
    cases e2
    have : o = [] := by
      have non : ∀ (as : List Ar) (k : Nat) (o : List (List D)), (∀ (j : Nat) (zs : List D), as[j]? ≠ some (Ar.m zs)) → outsGo s as k = some o → o = [] := by
        intro as
        induction as with
        | nil => intro k o _ e; cases e; rfl
        | cons a as ih =>
          intro k o n e
          cases a with
          | d x => exact ih (k + 1) o (fun j zs h => n (j + 1) zs (by simpa using h)) e
          | m x => exact absurd rfl (n 0 x)
      exact non as (k + 1) o (fun j zs h => by have := u (j + 1) zs (by simpa using h); omega) e1
    rw [this]
theorem lents_len : ∀ {as : List (Sum D Nat)} {bs' : List Ar} {i : Nat} {xs : List D}, lents st as = some bs' → bs'[i]? = some (Ar.m xs) → ∃ j, as[i]? = some (.inr j)
  | [], bs', i, xs, e, h => by cases e; simp at h
  | a :: as, bs', i, xs, e, h => by
    obtain ⟨x, e1, e⟩ := bs e
    obtain ⟨ys, e2, e⟩ := bs e
    cases e
    cases i with
    | zero =>
      simp at h
      subst h
      cases a with
      | inl y => cases e1
      | inr j => exact ⟨j, rfl⟩
    | succ i =>
      obtain ⟨j, q⟩ := lents_len e2 (by simpa using h)
      exact ⟨j, by simpa using q⟩
/-- the state behind a call -/
theorem after_call {sts : DSt} {Fs : Addr → Prop} {vs : List V} {as : List (Sum D Nat)} {bs' : List Ar} {perm : List Nat} {dvs : List V} {more : List D} {outs : List (List D)} {rt : Rt}
    (S : Sim K H0 M st σ F H) (E : Ext sts σ Fs Hb st F H) (pa : Paired (AtOk K F H σ) vs as) (le : lents st as = some bs') (one : (lentIx as).length ≤ 1) (pb : putBack st (lentIx as) outs = some st')
    {vs2 : List V} {as2 : List Ar}
    (hl : ∀ i p, lentP vs2 as2 i = some p → ∃ j, lentIx as = [j] ∧ IsOwn st j ∧ σ[j]? = some (some (.ref p)) ∧ ∃ xs, as2[i]? = some (Ar.m xs))
    (hm : ∀ (i : Nat) (xs : List D), as2[i]? = some (Ar.m xs) → ∃ p, lentP vs2 as2 i = some p) (hu : ∀ (i j : Nat) (xs ys : List D), as2[i]? = some (Ar.m xs) → as2[j]? = some (Ar.m ys) → i = j) (hx : ∀ j, lentIx as = [j] → ∃ (i : Nat) (xs : List D), as2[i]? = some (Ar.m xs))
    (f1 : ∀ a, F a → F' a) (f2 : ∀ a, F' a → F a ∨ H a = none) (f3 : ∀ a, F' a → ∃ xs, H' a = some (.lst xs)) (f4 : ∀ b u, H b = some u → (∀ i, lentP vs2 as2 i ≠ some b) → H' b = some u)
    (f5 : ∀ i p, lentP vs2 as2 i = some p → ¬ F' p) (f6 : ∃ so, outsGo so as2 0 = some outs ∧ ∀ i p, lentP vs2 as2 i = some p → ∃ xs ws, so.getD i none = some (.lent xs) ∧ H' p = some (.lst ws) ∧ RpAll K F' H' ws xs)
    (f7 : ∀ a xs, FL K F H a xs → FL K F' H' a xs) (f8 : ∀ a xs, STD K H a xs → STD K H' a xs) (f9 : RtOk K H F' H' rt v) :
    Sim K H0 M st' σ F' H' ∧ Ext sts σ Fs Hb st' F' H' ∧ RvOk K F' H' st' σ Hb (rvOf rt) v := by
  have rp : ∀ {v : V} {x : PyData}, Rp K F H v x → Rp K F' H' v x := fun r => r.mono f7 f8
  have rpA : ∀ {v : List V} {x : List PyData}, RpAll K F H v x → RpAll K F' H' v x := fun r => r.mono f7 f8
  have nF : ∀ {p}, (∃ u, H p = some u) → ¬ F p → ¬ F' p := fun ⟨u, h⟩ n z => by
    rcases f2 _ z with z | z
    · exact n z
    · rw [h] at z; cases z
  have lentOwn : ∀ i p, lentP vs2 as2 i = some p → OwnAt st σ p := fun i p h => let ⟨j, _, h2, h3, _⟩ := hl i p h; ⟨j, h2, h3⟩
  -- st' by its slots
  have desc : (∀ j, j ∉ lentIx as → st'.getD j none = st.getD j none) ∧ st'.length = st.length ∧
      (∀ j, lentIx as = [j] → ∃ i p xs ws, lentP vs2 as2 i = some p ∧ σ[j]? = some (some (.ref p)) ∧ H' p = some (.lst ws) ∧ RpAll K F' H' ws xs ∧ ((∃ ys, st.getD j none = some (.own ys) ∧ st'.getD j none = some (.own xs)) ∨ (∃ ys, st.getD j none = some (.lent ys) ∧ st'.getD j none = some (.lent xs)))) := by
    obtain ⟨so, o1, o2⟩ := f6
    cases q : lentIx as with
    | nil =>
      rw [q] at pb
      have : outs = [] := by
        cases outs with
        | nil => rfl
        | cons a b => cases pb
      rw [this] at pb
      cases pb
      exact ⟨fun _ _ => rfl, rfl, fun j z => by cases z⟩
    | cons j rest =>
      have hr : rest = [] := by
        rw [q] at one
        cases rest with
        | nil => rfl
        | cons a b => simp at one
      subst hr
      obtain ⟨i, xs0, hi⟩ := hx j q
      obtain ⟨p, hp⟩ := hm i xs0 hi
      obtain ⟨xs, ws, g1, g2, g3⟩ := o2 i p hp
      have ho : outs = [xs] := outs_one o1 hi (fun j' zs h => hu j' i zs xs0 h hi) (by rw [Nat.zero_add]; exact g1)
      subst ho
      rw [q] at pb
      obtain ⟨j2, q2, own2, σ2, _⟩ := hl i p hp
      rw [q] at q2
      cases q2
      have pb : (match st.getD j none with
        | some (.own _) => putBack (st.set j (some (.own xs))) [] []
        | some (.lent _) => putBack (st.set j (some (.lent xs))) [] []
        | _ => none) = some st' := pb
      have hj : j < st.length := by
        obtain ⟨ys, h | h⟩ := own2
        · exact getD_lt h
        · exact getD_lt h
      cases g : st.getD j none with
      | none => rw [g] at pb; cases pb
      | some s =>
        rw [g] at pb
        cases s with
        | d y => cases pb
        | own ys =>
          cases pb
          refine ⟨fun k hk => by rw [getD_set hj, if_neg fun z => hk (by simp [z])], List.length_set, fun k hk => ?_⟩
          cases hk
          exact ⟨i, p, xs, ws, hp, σ2, g2, g3, .inl ⟨ys, g, by rw [getD_set hj, if_pos rfl]⟩⟩
        | lent ys =>
          cases pb
          refine ⟨fun k hk => by rw [getD_set hj, if_neg fun z => hk (by simp [z])], List.length_set, fun k hk => ?_⟩
          cases hk
          exact ⟨i, p, xs, ws, hp, σ2, g2, g3, .inr ⟨ys, g, by rw [getD_set hj, if_pos rfl]⟩⟩
  obtain ⟨d1, d2, d3⟩ := desc
  have isj : ∀ {j}, j ∈ lentIx as → lentIx as = [j] := fun {j} h => by
    cases q : lentIx as with
    | nil => rw [q] at h; simp at h
    | cons a b =>
      rw [q] at one h
      cases b with
      | nil => simp at h; rw [h]
      | cons c d => simp at one
  have own : ∀ j, IsOwn st' j → IsOwn st j := fun j h => by
    by_cases c : j ∈ lentIx as
    · obtain ⟨i, p, xs, ws, _, _, _, _, h1 | h1⟩ := d3 j (isj c)
      · obtain ⟨ys, h1, _⟩ := h1; exact ⟨ys, .inl h1⟩
      · obtain ⟨ys, h1, _⟩ := h1; exact ⟨ys, .inr h1⟩
    · obtain ⟨xs, h⟩ := h
      rw [d1 j c] at h
      exact ⟨xs, h⟩
  have notLent : ∀ {j p}, j ∉ lentIx as → IsOwn st j → σ[j]? = some (some (.ref p)) → ∀ i, lentP vs2 as2 i ≠ some p := fun {j p} hj oj ej i z => by
    obtain ⟨j2, q2, own2, σ2, _⟩ := hl i p z
    have := S.inj j j2 p oj own2 ej σ2
    subst this
    exact hj (by rw [q2]; simp)
  have S' : Sim K H0 M st' σ F' H' := by
    refine ⟨S.len.trans d2.symm, fun j x h => ?_, fun j x h => ?_, fun j x h => ?_, fun j p m => ?_, S.lent0, fun j k p a b => S.inj j k p (own j a) (own k b), f3, fun b u h n => ?_⟩
    · by_cases c : j ∈ lentIx as
      · obtain ⟨i, p, xs, ws, _, _, _, _, h1 | h1⟩ := d3 j (isj c)
        · obtain ⟨ys, _, h1⟩ := h1; rw [h] at h1; cases h1
        · obtain ⟨ys, _, h1⟩ := h1; rw [h] at h1; cases h1
      · rw [d1 j c] at h
        obtain ⟨v, a, b⟩ := S.dat j x h
        exact ⟨v, a, rp b⟩
    · by_cases c : j ∈ lentIx as
      · obtain ⟨i, p, xs, ws, lp, σj, hp, rr, h1 | h1⟩ := d3 j (isj c)
        · obtain ⟨ys, g, h1⟩ := h1
          rw [h] at h1
          cases h1
          obtain ⟨p', _, e1, _, _, _, h0⟩ := S.own j ys g
          rw [σj] at e1
          cases e1
          exact ⟨p, ws, σj, hp, rr, f5 i p lp, h0⟩
        · obtain ⟨ys, _, h1⟩ := h1; rw [h] at h1; cases h1
      · rw [d1 j c] at h
        obtain ⟨p, ws, a, b, cc, dd, ee⟩ := S.own j x h
        exact ⟨p, ws, a, f4 _ _ b (notLent c ⟨x, .inl h⟩ a), rpA cc, nF ⟨_, b⟩ dd, ee⟩
    · by_cases c : j ∈ lentIx as
      · obtain ⟨i, p, xs, ws, lp, σj, hp, rr, h1 | h1⟩ := d3 j (isj c)
        · obtain ⟨ys, _, h1⟩ := h1; rw [h] at h1; cases h1
        · obtain ⟨ys, g, h1⟩ := h1
          rw [h] at h1
          cases h1
          obtain ⟨p', _, m, e1, _⟩ := S.lent j ys g
          rw [σj] at e1
          cases e1
          exact ⟨p, ws, m, σj, hp, rr, f5 i p lp⟩
      · rw [d1 j c] at h
        obtain ⟨p, ws, m, a, b, cc, dd⟩ := S.lent j x h
        exact ⟨p, ws, m, a, f4 _ _ b (notLent c ⟨x, .inr h⟩ a), rpA cc, nF ⟨_, b⟩ dd⟩
    · obtain ⟨ys, h⟩ := S.lentE j p m
      by_cases c : j ∈ lentIx as
      · obtain ⟨i, p', xs, ws, lp, σj, hp, rr, h1 | h1⟩ := d3 j (isj c)
        · obtain ⟨zs, g, _⟩ := h1; rw [h] at g; cases g
        · obtain ⟨zs, _, h1⟩ := h1; exact ⟨xs, h1⟩
      · exact ⟨ys, by rw [d1 j c]; exact h⟩
    · refine f4 _ _ (S.base b u h n) fun i z => ?_
      obtain ⟨j, _, ⟨ys, g | g⟩, σj, _⟩ := hl i b z
      · obtain ⟨p', _, e1, _, _, _, h0⟩ := S.own j ys g
        rw [σj] at e1
        cases e1
        rw [h] at h0
        cases h0
      · obtain ⟨p', _, m, e1, _⟩ := S.lent j ys g
        rw [σj] at e1
        cases e1
        exact n j m
  have E' : Ext st σ F H st' F' H' := by
    refine ⟨f1, fun a h => ?_, fun b u h n => f4 b u h fun i z => n (lentOwn i b z), fun b h => ?_, own⟩
    · rcases f2 a h with z | z
      · exact .inl z
      · exact .inr (.inl z)
    · cases q : H b with
      | none => exact absurd q h
      | some u =>
        by_cases c : ∃ i, lentP vs2 as2 i = some b
        · obtain ⟨i, c⟩ := c
          obtain ⟨so, _, o2⟩ := f6
          obtain ⟨_, ws, _, g, _⟩ := o2 i b c
          rw [g]
          exact fun z => by cases z
        · rw [f4 b u q fun i z => c ⟨i, z⟩]
          exact fun z => by cases z
  refine ⟨S', E.trans E', ?_⟩
  cases rt with
  | d x => exact f9
  | own xs =>
    obtain ⟨p, ws, e1, e2, e3, e4, e5⟩ := f9
    refine ⟨p, ws, e1, e2, e3, e4, fun z => ?_, Classical.byContradiction fun z => E.live p z e5⟩
    obtain ⟨⟨ys, h⟩, _⟩ := S.atOwn (z.imp own)
    rw [e5] at h
    cases h
end
end DL
end

section
set_option Elab.async false
set_option linter.all false
set_option maxRecDepth 100000
set_option maxHeartbeats 1000000
/-! DLsnd6: the calls' readings; walked things; what the operators and built-ins ask. -/
namespace DL
open PySem PySem.Spec PyProof.Rows L2
section
variable {K : PySem.W.Frag} {H0 : Hp} {M : Nat → Option Addr} {st st' st2 : DSt} {σ : L2.St} {F F' F2 : Addr → Prop} {H H' H2 H3 Hb Hc : Hp} {v w : V} {r : Rv} {x : PyData}
theorem RvWs.length : ∀ {rs : List Rv} {vs : List V}, RvWs K F H st σ Hb rs vs → rs.length = vs.length
  | _, _, .nil => rfl
  | _, _, .cons _ t => congrArg (· + 1) (RvWs.length t)
theorem RvWs.app : ∀ {rs ss : List Rv} {vs ws : List V}, RvWs K F H st σ Hb rs vs → RvWs K F H st σ Hb ss ws → RvWs K F H st σ Hb (rs ++ ss) (vs ++ ws)
  | _, _, _, _, .nil, h => h
  | _, _, _, _, .cons a t, h => .cons a (RvWs.app t h)
theorem paired_app {α β : Type} {R : α → β → Prop} : ∀ {a b : List α} {c d : List β}, Paired R a c → Paired R b d → Paired R (a ++ b) (c ++ d)
  | _, _, _, _, .nil, h => h
  | _, _, _, _, .cons x y, h => .cons x (paired_app y h)
theorem arD : ∀ {vs : List V} {xs : List PyData}, RpAll K F H vs xs → Paired (ArOk K F H) vs (xs.map Ar.d)
  | _, _, .nil => .nil
  | _, _, .cons a b => .cons a (arD b)
theorem lentP_app {vs dvs : List V} {as : List Ar} {more : List PyData} (hl : vs.length = as.length) {i : Nat} {p : Addr} (h : lentP (vs ++ dvs) (as ++ more.map Ar.d) i = some p) : lentP vs as i = some p := by
  by_cases hi : i < as.length
  · unfold lentP at h ⊢
    rw [List.getElem?_append_left hi, List.getElem?_append_left (by omega)] at h
    exact h
  · unfold lentP at h
    rw [List.getElem?_append_right (by omega), List.getElem?_map] at h
    cases q : more[i - as.length]? with
    | none => rw [q] at h; cases h
    | some y => rw [q] at h; cases h
theorem mAt_app {as : List Ar} {more : List PyData} {i : Nat} {xs : List PyData} (h : (as ++ more.map Ar.d)[i]? = some (Ar.m xs)) : as[i]? = some (Ar.m xs) := by
  by_cases hi : i < as.length
  · rw [List.getElem?_append_left hi] at h
    exact h
  · rw [List.getElem?_append_right (by omega), List.getElem?_map] at h
    cases q : more[i - as.length]? with
    | none => rw [q] at h; cases h
    | some y => rw [q] at h; cases h
theorem constD {dvs : List V} {more : List PyData} (hd : ∀ (F : Addr → Prop) (H : Hp), RpAll K F H dvs more) : more.length = dvs.length := ((hd (fun _ => False) (fun _ => none)).length).symm
/-- f(e, ..) -/
theorem snd_call {g : Fn} {n : Nat} {modes : List Bool} {dvs : List V} {more : List PyData} {E : XK} {t : TA} {f : DA} (hd : ∀ (F : Addr → Prop) (H : Hp), RpAll K F H dvs more) (hn : modes.length + more.length = n) (a : SndA K t f) : SndE K (tCall (spD K n g) dvs E t) (dCall g modes more f) := by
  intro H0 M st σ F H r st' Q S e q
  obtain ⟨⟨rs, s1⟩, e1, e⟩ := bs e
  obtain ⟨⟨as, s2⟩, e2, e⟩ := bs e
  refine a H0 M st σ F H rs s1 _ S e1 fun vs F1 H1 S1 E1 f1 r1 => ?_
  by_cases c : (lentIx as).length ≤ 1 ∧ rs.length = modes.length
  · rw [if_pos c] at e
    obtain ⟨one, hlen⟩ := c
    obtain ⟨bs', e3, e⟩ := bs e
    obtain ⟨⟨rt, outs⟩, e4, e⟩ := bs e
    obtain ⟨s3, e5, e⟩ := bs e
    cases e
    obtain ⟨F2, S2, E2, pa, sub2⟩ := marsh_ok hlen S1 E1 r1 e2
    obtain ⟨pb1, pb2⟩ := lents_ok S2 pa e3
    have lb : vs.length = bs'.length := Paired.length pb1
    have lv : vs.length = modes.length := by rw [← r1.length, hlen]
    have pat : ∀ i p, lentP (vs ++ dvs) (bs' ++ more.map Ar.d) i = some p → ∃ j, lentIx as = [j] ∧ IsOwn s2 j ∧ σ[j]? = some (some (.ref p)) ∧ ∃ xs, (bs' ++ more.map Ar.d)[i]? = some (Ar.m xs) := fun i p h => by
      have h' := lentP_app lb h
      obtain ⟨j, h1, h2, h3⟩ := pb2 i p h'
      refine ⟨j, ?_, h2, h3, ?_⟩
      · have := lentIx_mem h1
        cases q : lentIx as with
        | nil => rw [q] at this; simp at this
        | cons a b =>
          rw [q] at one this
          cases b with
          | nil => simp at this; rw [this]
          | cons c d => simp at one
      · unfold lentP at h
        cases z : (bs' ++ more.map Ar.d)[i]? with
        | none => rw [z] at h; cases h
        | some y =>
          rw [z] at h
          cases y with
          | d y => cases h
          | m y => exact ⟨y, rfl⟩
    have mat : ∀ (i : Nat) (xs : List PyData), (bs' ++ more.map Ar.d)[i]? = some (Ar.m xs) → ∃ p, lentP (vs ++ dvs) (bs' ++ more.map Ar.d) i = some p := fun i xs h => by
      have h' := mAt_app h
      obtain ⟨v, hv, p, ws, rfl, _⟩ := Paired.at pb1 h'
      refine ⟨p, ?_⟩
      unfold lentP
      obtain ⟨hi, _⟩ := List.getElem?_eq_some_iff.mp hv
      rw [h, List.getElem?_append_left hi, hv]
    have uniq : ∀ (i j : Nat) (xs ys : List PyData), (bs' ++ more.map Ar.d)[i]? = some (Ar.m xs) → (bs' ++ more.map Ar.d)[j]? = some (Ar.m ys) → i = j := fun i j xs ys h h' => by
      obtain ⟨k, hk⟩ := lents_len e3 (mAt_app h)
      obtain ⟨l, hl⟩ := lents_len e3 (mAt_app h')
      exact lentIx_one one hk hl
    have ex : ∀ j, lentIx as = [j] → ∃ (i : Nat) (xs : List PyData), (bs' ++ more.map Ar.d)[i]? = some (Ar.m xs) := fun j hj => by
      have find : ∀ (as : List (Sum PyData Nat)) (bs' : List Ar) (j : Nat), j ∈ lentIx as → lents s2 as = some bs' → ∃ (i : Nat) (xs : List PyData), bs'[i]? = some (Ar.m xs) := by
        intro as
        induction as with
        | nil => intro bs' j h _; simp [lentIx] at h
        | cons a as ih =>
          intro bs' j h e
          obtain ⟨x, e1, e⟩ := bs e
          obtain ⟨ys, e2, e⟩ := bs e
          cases e
          cases a with
          | inl y =>
            obtain ⟨i, xs, h1⟩ := ih ys j h e2
            exact ⟨i + 1, xs, by simpa using h1⟩
          | inr k =>
            have e1 : (match s2.getD k none with
              | some (.own xs) => some (Ar.m xs)
              | some (.lent xs) => some (.m xs)
              | _ => none) = some x := e1
            cases g : s2.getD k none with
            | none => rw [g] at e1; cases e1
            | some s =>
              rw [g] at e1
              cases s with
              | d y => cases e1
              | own ys => cases e1; exact ⟨0, ys, rfl⟩
              | lent ys => cases e1; exact ⟨0, ys, rfl⟩
      obtain ⟨i, xs, h⟩ := find as bs' j (by rw [hj]; simp) e3
      obtain ⟨hi, _⟩ := List.getElem?_eq_some_iff.mp h
      exact ⟨i, xs, by rw [List.getElem?_append_left hi]; exact h⟩
    refine ⟨F2, bs' ++ more.map Ar.d, rt, outs, ?_, paired_app pb1 (arD (hd F2 H1)), S2.frz, fun i j p h h' => ?_, e4, fun v F' H' g1 g2 g3 g4 g5 g6 g7 g8 g9 => ?_⟩
    · rw [List.length_append, lv, ← constD hd]
      exact hn
    · obtain ⟨_, _, _, _, xs, h1⟩ := pat i p h
      obtain ⟨_, _, _, _, ys, h2⟩ := pat j p h'
      exact uniq i j xs ys h1 h2
    · obtain ⟨S3, E3, R3⟩ := after_call (perm := []) (dvs := []) (more := []) S2 E2 pa e3 one e5 pat mat uniq ex g1 g2 g3 g4 g5 g6 g7 g8 g9
      exact q v F' H' S3 E3 trivial R3
  · rw [if_neg c] at e
    cases e

/-! ### calls with names -/
theorem RpAll.permute {vs : List V} {xs : List PyData} (h : RpAll K F H vs xs) : ∀ perm : List Nat, RpAll K F H (DL.permute perm vs) (DL.permute perm xs)
  | [] => .nil
  | k :: perm => by
    rw [permute_cons, permute_cons]
    cases q : xs[k]? with
    | none =>
      have : vs[k]? = none := by
        rw [List.getElem?_eq_none_iff] at q ⊢
        rw [h.length]
        exact q
      rw [this]
      exact h.permute perm
    | some x =>
      obtain ⟨v, e, r⟩ := h.get q
      rw [e]
      exact .cons r (h.permute perm)
end
section
variable {K : PySem.W.Frag} {H0 : Hp} {M : Nat → Option Addr} {st st' st2 : DSt} {σ : L2.St} {F F' F2 : Addr → Prop} {H H' H2 H3 Hb Hc : Hp} {v w : V} {r : Rv} {x : PyData}
theorem lentP_d {vs : List V} {xs : List PyData} {i : Nat} : lentP vs (xs.map Ar.d) i = none := by
  unfold lentP
  rw [List.getElem?_map]
  cases q : xs[i]? with
  | none => rfl
  | some y => rfl
theorem snd_callP {g : Fn} {n m l : Nat} {perm : List Nat} {dvs : List V} {more : List PyData} {E : XK} {t tk : TA} {f f2 : DA} (hd : ∀ (F : Addr → Prop) (H : Hp), RpAll K F H dvs more) (hl : (permute perm (List.replicate (n + m + more.length) ())).length = l) (a : SndA K t f) (b : SndA K tk f2) :
    SndE K (tCallP n m perm dvs (spD K l g) E t tk) (dCallK g n m perm more f f2) := by
  intro H0 M st σ F H r st' Q S e q
  obtain ⟨⟨rs, s1⟩, e1, e⟩ := bs e
  obtain ⟨⟨rs2, s2⟩, e2, e⟩ := bs e
  obtain ⟨⟨xs, s3⟩, e3, e⟩ := bs e
  refine a H0 M st σ F H rs s1 _ S e1 fun vs F1 H1 S1 E1 f1 r1 => ?_
  refine b H0 M s1 σ F1 H1 rs2 s2 _ S1 e2 fun zs F2 H2 S2 E2 f2 r2 => ?_
  by_cases c : rs.length = n ∧ rs2.length = m
  · rw [if_pos c] at e
    obtain ⟨⟨rt, outs⟩, e4, e⟩ := bs e
    cases e
    obtain ⟨F3, S3, E3, rr, _⟩ := toDs_ok S2 (E1.trans E2) ((r1.ext S1 E2 trivial).app (r2.birth E1.live)) e3
    have l1 : vs.length = n := by rw [← r1.length]; exact c.1
    have l2 : zs.length = m := by rw [← r2.length]; exact c.2
    have pr : RpAll K F3 H2 (permute perm (vs ++ zs ++ dvs)) (permute perm (xs ++ more)) := (rr.append (hd F3 H2)).permute perm
    refine ⟨l1, l2, F3, (permute perm (xs ++ more)).map Ar.d, rt, outs, ?_, arD pr, S3.frz, fun i j p h _ => ?_, e4, fun v F' H' g1 g2 g3 g4 g5 g6 g7 g8 g9 => ?_⟩
    · have : ∀ {α β : Type} (perm : List Nat) (a : List α) (b : List β), a.length = b.length → (permute perm a).length = (permute perm b).length := by
        intro α β perm a b h
        induction perm with
        | nil => rfl
        | cons k perm ih =>
          rw [permute_cons, permute_cons]
          by_cases hk : k < a.length
          · rw [List.getElem?_eq_getElem hk, List.getElem?_eq_getElem (by omega)]
            exact congrArg (· + 1) ih
          · rw [List.getElem?_eq_none (by omega), List.getElem?_eq_none (by omega)]
            exact ih
      rw [this perm (vs ++ zs ++ dvs) (List.replicate (n + m + more.length) ()) (by rw [List.length_append, List.length_append, List.length_replicate, l1, l2, constD hd])]
      exact hl
    · rw [lentP_d] at h
      cases h
    · obtain ⟨so, o1, o2⟩ := g6
      have ho : outs = [] := by
        have non : ∀ (ys : List PyData) (k : Nat) (o : List (List PyData)), outsGo so (ys.map Ar.d) k = some o → o = [] := by
          intro ys
          induction ys with
          | nil => intro k o e; cases e; rfl
          | cons a ys ih => intro k o e; exact ih (k + 1) o e
        exact non _ _ _ o1
      subst ho
      obtain ⟨S4, E4, R4⟩ := after_call (perm := []) (dvs := []) (more := []) (vs := []) (as := []) (bs' := []) (outs := []) (st' := s3) S3 E3 .nil rfl (Nat.zero_le _) rfl
        (fun i p h => by rw [lentP_d] at h; cases h) (fun i ys h => by rw [List.getElem?_map] at h; cases z : (permute perm (xs ++ more))[i]? <;> rw [z] at h <;> cases h) (fun i j ys zs h => by rw [List.getElem?_map] at h; cases z : (permute perm (xs ++ more))[i]? <;> rw [z] at h <;> cases h)
        (fun j h => by cases h) g1 g2 g3 g4 g5 ⟨so, o1, o2⟩ g7 g8 g9
      exact q v F' H' S4 E4 trivial R4
  · rw [if_neg c] at e
    cases e
end

/-! ### walked things -/
section
variable {K : PySem.W.Frag} {F1 : Addr → Prop} {H1 : Hp} {a b : Addr} {vs ws : List V} {xs ys : List PyData}
theorem wd_list (h : FL K F1 H1 a vs) (r : RpAll K F1 H1 vs xs) : WalkD K (Itl K a) xs F1 H1 where
  goes := fun i H hi g => by
    obtain ⟨d, e⟩ : ∃ d, xs[i]? = some d := ⟨xs[i], List.getElem?_eq_getElem hi⟩
    obtain ⟨v, e1, _⟩ := r.get e
    exact ⟨vs, v, g.1 _ _ h, e1⟩
  stops := fun H g => ⟨vs, g.1 _ _ h, by rw [r.length]; exact Nat.le_refl _⟩
  yields := fun i H x H' F hi g mono y => by
    obtain ⟨e, y⟩ := y
    subst e
    have := y vs (g.1 _ _ h)
    obtain ⟨d, e1, r1⟩ := r.got this
    exact ⟨fun _ _ z => z, d, e1, mono _ _ r1⟩
theorem wd_tup (h : SqT K H1 a vs) (r : RpAll K F1 H1 vs xs) : WalkD K (Itt K a) xs F1 H1 where
  goes := fun i H hi g => by
    obtain ⟨d, e⟩ : ∃ d, xs[i]? = some d := ⟨xs[i], List.getElem?_eq_getElem hi⟩
    obtain ⟨v, e1, _⟩ := r.get e
    exact ⟨vs, v, g.2 _ (some _) h, e1⟩
  stops := fun H g => ⟨vs, g.2 _ (some _) h, by rw [r.length]; exact Nat.le_refl _⟩
  yields := fun i H x H' F hi g mono y => by
    obtain ⟨e, y⟩ := y
    subst e
    have := y vs (g.2 _ (some _) h)
    obtain ⟨d, e1, r1⟩ := r.got this
    exact ⟨fun _ _ z => z, d, e1, mono _ _ r1⟩
theorem wd_range {lo : Int} {n : Nat} : WalkD K (Itr lo n) ((List.range n).map fun i => PyData.int (lo + (i : Nat))) F1 H1 where
  goes := fun i H hi g => by
    rw [List.length_map, List.length_range] at hi
    exact hi
  stops := fun H g => by
    rw [List.length_map, List.length_range]
    exact Nat.le_refl _
  yields := fun i H x H' F hi g mono y => by
    rw [List.length_map, List.length_range] at hi
    obtain ⟨e, y⟩ := y
    subst e
    subst y
    exact ⟨fun _ _ z => z, _, by rw [List.getElem?_map, List.getElem?_range hi]; rfl, .int _⟩
theorem wd_zip (h : FL K F1 H1 a vs) (r : RpAll K F1 H1 vs xs) (h2 : FL K F1 H1 b ws) (r2 : RpAll K F1 H1 ws ys) : WalkD K (Itz K a b) ((xs.zip ys).map fun p => PyData.tuple [p.1, p.2]) F1 H1 where
  goes := fun i H hi g => by
    rw [List.length_map, List.length_zip] at hi
    obtain ⟨v, e1, _⟩ := r.get (List.getElem?_eq_getElem (show i < xs.length by omega))
    obtain ⟨w, e2, _⟩ := r2.get (List.getElem?_eq_getElem (show i < ys.length by omega))
    exact ⟨vs, ws, v, w, g.1 _ _ h, g.1 _ _ h2, e1, e2⟩
  stops := fun H g => by
    rw [List.length_map, List.length_zip]
    refine ⟨vs, ws, g.1 _ _ h, g.1 _ _ h2, ?_⟩
    rw [r.length, r2.length]
    omega
  yields := fun i H x H' F hi g mono y => by
    rw [List.length_map, List.length_zip] at hi
    obtain ⟨T, v, w, h3, h4, h5, h6, h7⟩ := y
    subst h3 h5
    obtain ⟨d, e1, q1⟩ := r.got (h6 _ (g.1 _ _ h))
    obtain ⟨d2, e2, q2⟩ := r2.got (h7 _ (g.1 _ _ h2))
    refine ⟨same_upd h4, .tuple [d, d2], ?_, .tup (SqT.of upd_same) (.cons ((mono _ _ q1).grow (same_upd h4)) (.cons ((mono _ _ q2).grow (same_upd h4)) .nil))⟩
    rw [List.getElem?_map, show (xs.zip ys)[i]? = some (d, d2) from List.getElem?_zip_eq_some.mpr ⟨e1, e2⟩]
    rfl
theorem wd_zipT (h : SqT K H1 a vs) (r : RpAll K F1 H1 vs xs) (h2 : SqT K H1 b ws) (r2 : RpAll K F1 H1 ws ys) : WalkD K (RZ.ItzT K a b) ((xs.zip ys).map fun p => PyData.tuple [p.1, p.2]) F1 H1 where
  goes := fun i H hi g => by
    rw [List.length_map, List.length_zip] at hi
    obtain ⟨v, e1, _⟩ := r.get (List.getElem?_eq_getElem (show i < xs.length by omega))
    obtain ⟨w, e2, _⟩ := r2.get (List.getElem?_eq_getElem (show i < ys.length by omega))
    exact ⟨vs, ws, v, w, g.2 _ (some _) h, g.2 _ (some _) h2, e1, e2⟩
  stops := fun H g => by
    rw [List.length_map, List.length_zip]
    refine ⟨vs, ws, g.2 _ (some _) h, g.2 _ (some _) h2, ?_⟩
    rw [r.length, r2.length]
    omega
  yields := fun i H x H' F hi g mono y => by
    rw [List.length_map, List.length_zip] at hi
    obtain ⟨T, v, w, h3, h4, h5, h6, h7⟩ := y
    subst h3 h5
    obtain ⟨d, e1, q1⟩ := r.got (h6 _ (g.2 _ (some _) h))
    obtain ⟨d2, e2, q2⟩ := r2.got (h7 _ (g.2 _ (some _) h2))
    refine ⟨same_upd h4, .tuple [d, d2], ?_, .tup (SqT.of upd_same) (.cons ((mono _ _ q1).grow (same_upd h4)) (.cons ((mono _ _ q2).grow (same_upd h4)) .nil))⟩
    rw [List.getElem?_map, show (xs.zip ys)[i]? = some (d, d2) from List.getElem?_zip_eq_some.mpr ⟨e1, e2⟩]
    rfl
theorem wd_enum (h : FL K F1 H1 a vs) (r : RpAll K F1 H1 vs xs) : WalkD K (Ite K a) (xs.zipIdx.map fun p => PyData.tuple [.int (p.2 : Nat), p.1]) F1 H1 where
  goes := fun i H hi g => by
    rw [List.length_map, List.length_zipIdx] at hi
    obtain ⟨v, e1, _⟩ := r.get (List.getElem?_eq_getElem hi)
    exact ⟨vs, v, g.1 _ _ h, e1⟩
  stops := fun H g => by
    rw [List.length_map, List.length_zipIdx]
    exact ⟨vs, g.1 _ _ h, by rw [r.length]; exact Nat.le_refl _⟩
  yields := fun i H x H' F hi g mono y => by
    rw [List.length_map, List.length_zipIdx] at hi
    obtain ⟨T, v, h3, h4, h5, h6⟩ := y
    subst h3 h5
    obtain ⟨d, e1, q1⟩ := r.got (h6 _ (g.1 _ _ h))
    refine ⟨same_upd h4, .tuple [.int (i : Nat), d], ?_, .tup (SqT.of upd_same) (.cons (.int _) (.cons ((mono _ _ q1).grow (same_upd h4)) .nil))⟩
    rw [List.getElem?_map, List.getElem?_zipIdx, e1]
    simp
end
section
variable {K : PySem.W.Frag}
theorem snd_ilist {t : TE} {f : DE} (a : SndE K t f) : SndI K (L2.iList K t) (dIter DL.iList f) := by
  intro H0 M st σ F H ds st' R S e q
  obtain ⟨p, e1, e⟩ := bs e
  obtain ⟨⟨y, s2⟩, e2, e⟩ := bs e
  obtain ⟨zs, e3, e⟩ := bs e
  cases e
  refine a H0 M st σ F H p.1 p.2 _ S e1 fun v F1 H1 S1 E1 f1 r1 => ?_
  obtain ⟨F2, S2, E2, r2, _⟩ := toD_ok S1 E1 r1.weak e2
  cases y <;> try (cases e3; done)
  cases e3
  cases r2 with
  | lst h hs => exact ⟨_, rfl, ⟨_, h.sql⟩, q _ F2 H1 S2 E2 (wd_list h hs)⟩
theorem snd_itup {t : TE} {f : DE} (a : SndE K t f) : SndI K (L2.iTup K t) (dIter DL.iTup f) := by
  intro H0 M st σ F H ds st' R S e q
  obtain ⟨p, e1, e⟩ := bs e
  obtain ⟨⟨y, s2⟩, e2, e⟩ := bs e
  obtain ⟨zs, e3, e⟩ := bs e
  cases e
  refine a H0 M st σ F H p.1 p.2 _ S e1 fun v F1 H1 S1 E1 f1 r1 => ?_
  obtain ⟨F2, S2, E2, r2, _⟩ := toD_ok S1 E1 r1.weak e2
  cases y <;> try (cases e3; done)
  cases e3
  cases r2 with
  | tup h hs => exact ⟨_, rfl, ⟨_, h⟩, q _ F2 H1 S2 E2 (wd_tup h hs)⟩
theorem snd_irange1 {t : TA} {f : DA} (a : SndA K t f) : SndI K (iRng1 t) (dIterA iRange1 f) := by
  intro H0 M st σ F H ds st' R S e q
  obtain ⟨p, e1, e⟩ := bs e
  obtain ⟨⟨ys, s2⟩, e2, e⟩ := bs e
  obtain ⟨zs, e3, e⟩ := bs e
  cases e
  refine a H0 M st σ F H p.1 p.2 _ S e1 fun vs F1 H1 S1 E1 f1 r1 => ?_
  obtain ⟨F2, S2, E2, rr, _⟩ := toDs_ok S1 E1 r1 e2
  match ys, vs, rr, e3 with
  | [.int n], [_], .cons (.int _) .nil, e3 =>
    have e3 : (if -(2 ^ 62) ≤ n ∧ n < 2 ^ 62 then some ((List.range n.toNat).map fun i => PyData.int (0 + (i : Nat))) else none) = some ds := e3
    by_cases c : -(2 ^ 62) ≤ n ∧ n < 2 ^ 62
    · rw [if_pos c] at e3
      cases e3
      exact ⟨n, rfl, c.1, c.2, q _ F2 H1 S2 E2 wd_range⟩
    · rw [if_neg c] at e3
      cases e3
theorem snd_irange2 {t : TA} {f : DA} (a : SndA K t f) : SndI K (iRng2 t) (dIterA iRange2 f) := by
  intro H0 M st σ F H ds st' R S e q
  obtain ⟨p, e1, e⟩ := bs e
  obtain ⟨⟨ys, s2⟩, e2, e⟩ := bs e
  obtain ⟨zs, e3, e⟩ := bs e
  cases e
  refine a H0 M st σ F H p.1 p.2 _ S e1 fun vs F1 H1 S1 E1 f1 r1 => ?_
  obtain ⟨F2, S2, E2, rr, _⟩ := toDs_ok S1 E1 r1 e2
  match ys, vs, rr, e3 with
  | [.int m, .int n], [_, _], .cons (.int _) (.cons (.int _) .nil), e3 =>
    have e3 : (if -(2 ^ 62) ≤ m ∧ m < 2 ^ 62 ∧ -(2 ^ 62) ≤ n ∧ n < 2 ^ 62 then some ((List.range (n - m).toNat).map fun i => PyData.int (m + (i : Nat))) else none) = some ds := e3
    by_cases c : -(2 ^ 62) ≤ m ∧ m < 2 ^ 62 ∧ -(2 ^ 62) ≤ n ∧ n < 2 ^ 62
    · rw [if_pos c] at e3
      cases e3
      exact ⟨m, n, rfl, c, q _ F2 H1 S2 E2 wd_range⟩
    · rw [if_neg c] at e3
      cases e3
theorem snd_izip {t : TA} {f : DA} (a : SndA K t f) : SndI K (RZ.iZipA K t) (dIterA DL.iZip f) := by
  intro H0 M st σ F H ds st' R S e q
  obtain ⟨p, e1, e⟩ := bs e
  obtain ⟨⟨ys, s2⟩, e2, e⟩ := bs e
  obtain ⟨zs, e3, e⟩ := bs e
  cases e
  refine a H0 M st σ F H p.1 p.2 _ S e1 fun vs F1 H1 S1 E1 f1 r1 => ?_
  obtain ⟨F2, S2, E2, rr, _⟩ := toDs_ok S1 E1 r1 e2
  match ys, vs, rr, e3 with
  | [.list m, .list n], [_, _], .cons (.lst h1 r1) (.cons (.lst h2 r2) .nil), e3 =>
    cases e3
    exact ⟨_, _, _, _, rfl, .inl ⟨h1.sql, h2.sql, q _ F2 H1 S2 E2 (wd_zip h1 r1 h2 r2)⟩⟩
  | [.tuple m, .tuple n], [_, _], .cons (.tup h1 r1) (.cons (.tup h2 r2) .nil), e3 =>
    cases e3
    exact ⟨_, _, _, _, rfl, .inr ⟨h1, h2, q _ F2 H1 S2 E2 (wd_zipT h1 r1 h2 r2)⟩⟩
theorem snd_ienum {t : TA} {f : DA} (a : SndA K t f) : SndI K (L2.iEnum K t) (dIterA DL.iEnum f) := by
  intro H0 M st σ F H ds st' R S e q
  obtain ⟨p, e1, e⟩ := bs e
  obtain ⟨⟨ys, s2⟩, e2, e⟩ := bs e
  obtain ⟨zs, e3, e⟩ := bs e
  cases e
  refine a H0 M st σ F H p.1 p.2 _ S e1 fun vs F1 H1 S1 E1 f1 r1 => ?_
  obtain ⟨F2, S2, E2, rr, _⟩ := toDs_ok S1 E1 r1 e2
  match ys, vs, rr, e3 with
  | [.list m], [_], .cons (.lst h1 r1) .nil, e3 =>
    cases e3
    exact ⟨_, _, rfl, h1.sql, q _ F2 H1 S2 E2 (wd_enum h1 r1)⟩
end
end DL
end

section
set_option Elab.async false
set_option linter.all false
set_option maxRecDepth 100000
set_option maxHeartbeats 1000000
/-! DLprim: what operators and built-ins ask and make, over data. -/
namespace DL
open PySem PySem.Spec PyProof.Rows L2

/-! ### rules of one's own -/
section
variable {X : Cx}
/-- list + list, whatever stands behind them -/
def rCatS (K : PySem.W.Frag) : R2 := fun x y H Q => ∃ l b xs zs, x = .ref l ∧ y = .ref b ∧ SqL K H l xs ∧ SqL K H b zs ∧ xs.length + zs.length ≤ sizeLine ∧ ∀ p, H p = none → Q (.ref p) (upd H p (.lst (xs ++ zs)))
theorem op_catS : OpR X (binaryOp .Add) (rCatS X.K) := by
  intro pins s σ H x y v u Q I rx ry h
  obtain ⟨l, b, xs, zs, rfl, rfl, hl, hb, hz, q⟩ := h
  cases rx
  cases ry
  obtain ⟨its, r, ⟨⟨c1, d1, t1, s1⟩, n, g1, g2, _, g3⟩, _⟩ := I.list hl
  obtain ⟨its2, r2, ⟨⟨c2, d2, t2, s2⟩, m, k1, k2, _, k3⟩, _⟩ := I.list hb
  simp only at g2 g3 k2 k3
  subst g2 g3 k2 k3
  have z1 := r.length
  have z2 := r2.length
  refine concat_meets ⟨_, g1, rfl⟩ ⟨_, k1, rfl⟩ noFill_list_add seq_list_add PySem.F.slot_list_add PySem.F.entry_list_add (PySem.F.args_list_add_2 _ _) (list_addW l b its.toArray its2.toArray n m d1 d2 s1 s2 (by rw [List.size_toArray, List.size_toArray]; omega)) ⟨g1, k1, ?_⟩
  have ea : its.toArray ++ its2.toArray = (its ++ its2).toArray := by simp
  rw [ea]
  exact ⟨.ref s.heap.objs.size, _, I.lnew (t' := s.toks) (r.append r2) (by rw [List.length_append]; exact hz), rfl, q _ I.fresh⟩
/-- list * int -/
def rRepS (K : PySem.W.Frag) : R2 := fun x y H Q => ∃ l k xs, x = .ref l ∧ y = .int k ∧ SqL K H l xs ∧ -(2 ^ 63) ≤ k ∧ k < 2 ^ 63 ∧ xs.length * k.toNat ≤ sizeLine ∧ ∀ p, H p = none → Q (.ref p) (upd H p (.lst (List.replicate k.toNat xs).flatten))
theorem op_repS : OpR X (binaryOp .Mult) (rRepS X.K) := by
  intro pins s σ H x y v u Q I rx ry h
  obtain ⟨l, k, xs, rfl, rfl, hl, h1, h2, hz, q⟩ := h
  cases rx
  obtain ⟨t, rfl⟩ := ry
  obtain ⟨its, r, ⟨⟨c1, d1, t1, s1⟩, n, g1, g2, _, g3⟩, _⟩ := I.list hl
  simp only at g2 g3
  subst g2 g3
  have z1 := r.length
  have cap : its.toArray.size * k.toNat ≤ sizeLine := by rw [List.size_toArray, ← z1]; exact hz
  have c1 : ¬ (!Builtin.List.listFitsIndex k) = true := by
    rw [fitsIndex_both h1 h2]
    exact Bool.false_ne_true
  have c2 : ¬ its.toArray.size * k.toNat > (2 ^ 63 - 1) / 8 := by
    have big : (sizeLine : Nat) ≤ (2 ^ 63 - 1) / 8 := by decide
    omega
  have c3 : ¬ Builtin.List.listTooLong (its.toArray.size * k.toNat) = true := by
    rw [notLongL cap]
    exact Bool.false_ne_true
  have joined : List.foldl (fun x1 x2 => x1 ++ x2) #[] (List.replicate (if its.toArray.isEmpty = true then 0 else k.toNat) its.toArray) = (List.replicate k.toNat its).flatten.toArray := by
    have all : ∀ j : Nat, List.foldl (fun x1 x2 => x1 ++ x2) #[] (List.replicate j its.toArray) = (List.replicate j its).flatten.toArray := fun j => by
      have z := foldl_rep its j []
      rw [List.nil_append] at z
      exact z
    rw [all]
    cases its with
    | nil => simp
    | cons a b => rw [if_neg (by simp)]
  have len : (List.replicate k.toNat xs).flatten.length ≤ sizeLine := by
    rw [PyProof.Rows.lm_len_rep_flat, Nat.mul_comm]
    exact hz
  refine wpAny_binaryOp_repeat_ref (T := "list") (U := "int") (by decide) ⟨_, g1, rfl⟩ (fun s' => typeIs_int s' k t) noFill_list_mul PySem.F.fills_int_mul PySem.F.slot_int_rmul repeat_list PySem.F.slot_int_index.lookup ?_
  refine call_meets PySem.F.slot_int_rmul (typeIs_int s k t) PySem.F.entry_int_rmul (PySem.F.args_int_rmul_2 _ _) (lm_int_rmul_list_any k t l its.toArray n d1 s1) ⟨g1, rfl, ⟨_, g1, rfl⟩, ?_⟩
  refine call_meets PySem.F.slot_list_mul ⟨_, g1, rfl⟩ PySem.F.entry_list_mul (PySem.F.args_list_mul_2 _ _) (lm_list_mul_any l its.toArray n d1 s1 k t c1 c2 c3) ⟨g1, ?_⟩
  rw [joined]
  exact ⟨.ref s.heap.objs.size, _, I.lnew (t' := s.toks) (r.rep k.toNat) len, rfl, q _ I.fresh⟩
/-- is, with None or a bool at the right -/
def plainV : V → Bool
  | .non => true
  | .bl _ => true
  | .int _ => true
  | .str _ => true
  | .ref _ => true
  | _ => false
def eqConst : V → V → Bool
  | .non, .non => true
  | .bl a, .bl b => a == b
  | _, _ => false
def constV : V → Bool
  | .non => true
  | .bl _ => true
  | _ => false
def rIsC (neg : Bool) : R2 := fun x y H Q => plainV x = true ∧ constV y = true ∧ Q (.bl (if neg then !eqConst x y else eqConst x y)) H
theorem is_plain {x y : V} {v u : Value} (rx : RelV x v) (ry : RelV y u) (p : plainV x = true) (c : constV y = true) : plainIs v u = true ∧ (v == u) = eqConst x y := by
  cases y with
  | non =>
    cases (show u = Value.none from ry)
    cases x with
    | non => cases (show v = Value.none from rx); exact ⟨rfl, rfl⟩
    | bl a => cases (show v = Value.bool a from rx); exact ⟨rfl, rfl⟩
    | int i => obtain ⟨t, rfl⟩ := rx; exact ⟨rfl, rfl⟩
    | str i => obtain ⟨t, rfl⟩ := rx; exact ⟨rfl, rfl⟩
    | ref a => cases (show v = Value.ref a from rx); exact ⟨rfl, rfl⟩
    | _ => cases p
  | bl b =>
    cases (show u = Value.bool b from ry)
    cases x with
    | non => cases (show v = Value.none from rx); exact ⟨rfl, rfl⟩
    | bl a =>
      cases (show v = Value.bool a from rx)
      refine ⟨rfl, ?_⟩
      show (Value.bool a == Value.bool b) = (a == b)
      cases a <;> cases b <;> rfl
    | int i => obtain ⟨t, rfl⟩ := rx; exact ⟨rfl, rfl⟩
    | str i => obtain ⟨t, rfl⟩ := rx; exact ⟨rfl, rfl⟩
    | ref a => cases (show v = Value.ref a from rx); exact ⟨rfl, rfl⟩
    | _ => cases p
  | _ => cases c
theorem op_isC : OpR X (compareOp .Is) (rIsC false) := by
  intro pins s σ H x y v u Q I rx ry h
  obtain ⟨p, c, q⟩ := h
  obtain ⟨h1, h2⟩ := is_plain rx ry p c
  exact wpAny_is_plain h1 ⟨.bl (eqConst x y), H, I, by rw [h2]; rfl, q⟩
theorem op_isnotC : OpR X (compareOp .IsNot) (rIsC true) := by
  intro pins s σ H x y v u Q I rx ry h
  obtain ⟨p, c, q⟩ := h
  obtain ⟨h1, h2⟩ := is_plain rx ry p c
  exact wpAny_isNot_plain h1 ⟨.bl (!eqConst x y), H, I, by rw [h2]; rfl, q⟩
/-- repr of a list or a tuple -/
def rRepr (K : PySem.W.Frag) : List V → Hp → VK → Prop := fun xs H Q => (∃ a, xs = [.ref a] ∧ H a = some (.dK []) ∧ Q (.str (PyData.shown (.dict []))) H) ∨ ∃ (a : V) (d : PyData), xs = [a] ∧ Dp K H a d ∧ d.hasDict = false ∧ d.showable = true ∧ d.depth ≤ 40 ∧ d.shown.length ≤ sizeLine ∧ Q (.str d.shown) H
theorem call_repr (gd : X.A.guards = some []) (hu : X.A.units + 64 < cLine) : CallR X (.builtin "repr") (rRepr X.K) := by
  intro pins s σ H xs us Q I r h
  rcases h with ⟨a, rfl, ea, q⟩ | ⟨a, d, rfl, hd, h1, h2, h3, h4, q⟩
  · rw [Vals.ref1 r]
    obtain ⟨_, hm, vs, kv, o, es, ep, g1, g2, g3, _, g5, _⟩ := dk_of I.hok ea
    have ev : vs = [] := by
      cases kv
      rfl
    subst ev
    have ee : es.toList = [] := List.length_eq_zero_iff.mp (Pairs.length g5)
    have rd : Reads s.heap (.ref a) (.dict []) (a :: [] ++ []) := Reads.dict g1 g2.1 g3 (by rw [ee]; exact .nil) (by rw [ee]; exact .nil)
    refine repr_of_reads' rd (by simp [PyData.showable, PyData.showableKv]) (fun _ z => ?_) gd (by simp [PyData.depth, PyData.depthKv]; omega) (fun _ _ e => e) (fun h' u tk hk => ?_) ?_
    · simp at z
      subst z
      simp at hm
    · exact ⟨.str (PyData.shown _), H, I.kept (t' := tk) hk, ⟨_, rfl⟩, q⟩
    · show (PyData.shown (.dict [])).length ≤ sizeLine
      rw [sizeLine_eq]
      decide +kernel
  cases r with
  | cons r rr =>
    cases rr
    obtain ⟨as, rd⟩ := Dp.reads I d _ _ hd r
    cases hd with
    | non =>
      cases (show _ = Value.none from r)
      exact P.repr_of_none ⟨.str (PyData.shown .none), H, I.tok _, ⟨_, rfl⟩, q⟩
    | bl b =>
      cases (show _ = Value.bool b from r)
      exact P.repr_of_bool ⟨.str (PyData.shown (.bool b)), H, I.tok _, ⟨_, rfl⟩, q⟩
    | int i =>
      obtain ⟨t, rfl⟩ := r
      exact P.repr_of_int (of_decide_eq_true (by simpa only [PyData.showable] using h2)) ⟨.str (PyData.shown (.int i)), H, I.tok _, ⟨_, rfl⟩, q⟩
    | str x =>
      obtain ⟨t, rfl⟩ := r
      exact P.repr_of_str ⟨.str (PyData.shown (.str x)), H, I.tok _, ⟨_, rfl⟩, q⟩ h4
    | lst _ _ =>
      cases (show _ = Value.ref _ from r)
      refine repr_of_reads' rd h2 (PyData.noDict_hsm h1) gd (by omega) (fun _ _ e => e) (fun h' u tk hk => ?_) h4
      exact ⟨.str (PyData.shown _), H, I.kept (t' := tk) hk, ⟨_, rfl⟩, q⟩
    | tup _ _ =>
      cases (show _ = Value.ref _ from r)
      refine repr_of_reads' rd h2 (PyData.noDict_hsm h1) gd (by omega) (fun _ _ e => e) (fun h' u tk hk => ?_) h4
      exact ⟨.str (PyData.shown _), H, I.kept (t' := tk) hk, ⟨_, rfl⟩, q⟩
end

/-! ### over data -/
section
variable {K : PySem.W.Frag} {F : Addr → Prop} {H : Hp} {v : V}
theorem new_tmp {p : Addr} {vs : List V} {xs : List PyData} (hp : H p = none) (r : RpAll K F H vs xs) : Same H (upd H p (.lst vs)) ∧ NewOk K F H (upd H p (.lst vs)) (.ref p) (.tmp xs) :=
  ⟨same_upd hp, p, vs, rfl, hp, upd_same, r.grow (same_upd hp)⟩
def rAddD (K : PySem.W.Frag) : R2 := fun x y H Q => (∃ i j, x = .int i ∧ y = .int j ∧ Q (.int (i + j)) H) ∨ (∃ i j, x = .str i ∧ y = .str j ∧ i.length + j.length ≤ sizeLine ∧ Q (.str (i ++ j)) H) ∨ rCatS K x y H Q
theorem op_addD {X : Cx} : OpR X (binaryOp .Add) (rAddD X.K) := op_add.or (op_add_str.or op_catS)
theorem prim_add : Prim2 K (rAddD K) opAdd := by
  intro F H v w x y z Q a b e q
  cases x <;> cases y <;> try (cases e; done)
  · cases e
    exact .inl ⟨_, _, a.int, b.int, q _ H Same.rfl' (.int _)⟩
  · rename_i i j
    have e : (if i.length + j.length ≤ sizeLine then some (Rv.d (.str (i ++ j))) else none) = some z := e
    by_cases c : i.length + j.length ≤ sizeLine
    · rw [if_pos c] at e
      cases e
      exact .inr (.inl ⟨_, _, a.str, b.str, c, q _ H Same.rfl' (.str _)⟩)
    · rw [if_neg c] at e
      cases e
  · rename_i i j
    have e : (if i.length + j.length ≤ sizeLine then some (Rv.tmp (i ++ j)) else none) = some z := e
    by_cases c : i.length + j.length ≤ sizeLine
    · rw [if_pos c] at e
      cases e
      obtain ⟨p, vs, rfl, h1, r1⟩ := a.list
      obtain ⟨p2, vs2, rfl, h2, r2⟩ := b.list
      refine .inr (.inr ⟨p, p2, vs, vs2, rfl, rfl, h1, h2, by rw [r1.length, r2.length]; exact c, fun p hp => ?_⟩)
      obtain ⟨s, n⟩ := new_tmp hp (r1.append r2)
      exact q _ _ s n
    · rw [if_neg c] at e
      cases e
def rMulD (K : PySem.W.Frag) : R2 := fun x y H Q => (∃ i j, x = .int i ∧ y = .int j ∧ CMulW i j ∧ Q (.int (i * j)) H) ∨ rRepS K x y H Q
theorem op_mulD {X : Cx} : OpR X (binaryOp .Mult) (rMulD X.K) := op_mulW.or op_repS
theorem prim_mul : Prim2 K (rMulD K) opMul := by
  intro F H v w x y z Q a b e q
  cases x <;> cases y <;> try (cases e; done)
  · rename_i i j
    have e : (if i.natAbs.log2 + j.natAbs.log2 < 1000000 then some (Rv.d (.int (i * j))) else none) = some z := e
    by_cases c : i.natAbs.log2 + j.natAbs.log2 < 1000000
    · rw [if_pos c] at e
      cases e
      exact .inl ⟨_, _, a.int, b.int, c, q _ H Same.rfl' (.int _)⟩
    · rw [if_neg c] at e
      cases e
  · rename_i xs k
    have e : (if -(2 ^ 63) ≤ k ∧ k < 2 ^ 63 ∧ xs.length * k.toNat ≤ sizeLine then some (Rv.tmp (List.replicate k.toNat xs).flatten) else none) = some z := e
    by_cases c : -(2 ^ 63) ≤ k ∧ k < 2 ^ 63 ∧ xs.length * k.toNat ≤ sizeLine
    · rw [if_pos c] at e
      cases e
      obtain ⟨p, vs, rfl, h1, r1⟩ := a.list
      refine .inr ⟨p, k, vs, rfl, b.int, h1, c.1, c.2.1, by rw [r1.length]; exact c.2.2, fun p hp => ?_⟩
      obtain ⟨s, n⟩ := new_tmp hp (r1.rep k.toNat)
      exact q _ _ s n
    · rw [if_neg c] at e
      cases e
theorem Pk.plain {x : D} (h : Pk K F H v x) (y : D) (b : Bool) (e : isV x y = some b) {w : V} (h2 : Pk K F H w y) : plainV v = true ∧ constV w = true ∧ eqConst v w = b := by
  have pl : plainV v = true := by
    rcases h with k | ⟨p, vs, xs, rfl, _⟩
    · cases k <;> rfl
    · rfl
  cases y with
  | none =>
    have := h2.non
    subst this
    refine ⟨pl, rfl, ?_⟩
    cases x with
    | none => have := h.non; subst this; cases e; rfl
    | bool c => have := h.bl; subst this; cases e; rfl
    | int c => have := h.int; subst this; cases e; rfl
    | str c => have := h.str; subst this; cases e; rfl
    | list c => obtain ⟨p, vs, rfl, _⟩ := h.list; cases e; rfl
    | tuple c => obtain ⟨p, vs, rfl, _⟩ := h.tup; cases e; rfl
    | dict c =>
      rcases h with k | ⟨_, _, _, _, k, _⟩
      · cases k; cases e; rfl
      · cases k
  | bool d =>
    have := h2.bl
    subst this
    refine ⟨pl, rfl, ?_⟩
    cases x with
    | none => have := h.non; subst this; cases e; rfl
    | bool c => have := h.bl; subst this; cases e; rfl
    | int c => have := h.int; subst this; cases e; rfl
    | str c => have := h.str; subst this; cases e; rfl
    | list c => obtain ⟨p, vs, rfl, _⟩ := h.list; cases e; rfl
    | tuple c => obtain ⟨p, vs, rfl, _⟩ := h.tup; cases e; rfl
    | dict c =>
      rcases h with k | ⟨_, _, _, _, k, _⟩
      · cases k; cases e; rfl
      · cases k
  | _ => cases x <;> cases e
theorem prim_is : Prim2 K (rIsC false) opIs := by
  intro F H v w x y z Q a b e q
  obtain ⟨c, e1, e2⟩ := bs e
  cases e2
  obtain ⟨h1, h2, h3⟩ := a.plain y c e1 b
  refine ⟨h1, h2, ?_⟩
  subst h3
  exact q _ H Same.rfl' (.bl _)
theorem prim_isnot : Prim2 K (rIsC true) opIsNot := by
  intro F H v w x y z Q a b e q
  obtain ⟨c, e1, e2⟩ := bs e
  cases e2
  obtain ⟨h1, h2, h3⟩ := a.plain y c e1 b
  refine ⟨h1, h2, ?_⟩
  subst h3
  exact q _ H Same.rfl' (.bl _)
theorem prim_ix : Prim2 K (rIx K) opIx := by
  intro F H v w x y z Q a b e q
  cases x <;> cases y <;> try (cases e; done)
  · rename_i s i
    have e : (if s.length ≤ sizeLine then (ixAt s.cps.toList i).bind fun n => (s.cps.toList[n]?).bind fun c => some (Rv.d (.str ⟨#[c]⟩)) else none) = some z := e
    by_cases c : s.length ≤ sizeLine
    · rw [if_pos c] at e
      obtain ⟨n, e1, e⟩ := bs e
      obtain ⟨ch, e2, e⟩ := bs e
      cases e
      refine .inr (.inr ⟨s, i, ch, a.str, b.int, c, ?_, q _ H Same.rfl' (.str _)⟩)
      show (ixN s.cps.toList.length i).bind (fun j => s.cps.toList[j]?) = some ch
      rw [← ixAt_eq, e1]
      exact e2
    · rw [if_neg c] at e
      cases e
  · rename_i xs i
    obtain ⟨n, e1, e⟩ := bs e
    obtain ⟨y, e2, e⟩ := bs e
    cases e
    obtain ⟨p, vs, rfl, h1, r1⟩ := a.list
    obtain ⟨vy, g1, g2⟩ := r1.get e2
    refine .inl ⟨p, vs, i, vy, rfl, b.int, h1, ?_, q _ H Same.rfl' g2⟩
    show (ixN vs.length i).bind (fun j => vs[j]?) = some vy
    rw [r1.length, ← ixAt_eq, e1]
    exact g1
  · rename_i xs i
    obtain ⟨n, e1, e⟩ := bs e
    obtain ⟨y, e2, e⟩ := bs e
    cases e
    obtain ⟨p, vs, rfl, h1, r1⟩ := a.tup
    obtain ⟨vy, g1, g2⟩ := r1.get e2
    refine .inr (.inl ⟨p, vs, i, vy, rfl, b.int, h1, ?_, q _ H Same.rfl' g2⟩)
    show (ixN vs.length i).bind (fun j => vs[j]?) = some vy
    rw [r1.length, ← ixAt_eq, e1]
    exact g1
theorem cut_eq (n d : Nat) (o : Option Int) : cutAt n d o = HT.sIx n d o := rfl
theorem prim_slice : PrimS K (rSlL K) opSlice := by
  intro F H v x lo hi z Q a e q
  cases x <;> try (cases e; done)
  rename_i ys
  cases e
  obtain ⟨p, vs, rfl, h1, r1⟩ := a.list
  refine ⟨p, vs, rfl, h1, fun p hp => ?_⟩
  have r2 : RpAll K F H (cutV vs lo hi) (cutD ys lo hi) := by
    unfold cutV cutD
    rw [r1.length]
    exact (r1.drop _).take _
  obtain ⟨s, n⟩ := new_tmp hp r2
  exact q _ _ s n
theorem snd_rev {t : TE} {f : DE} (a : SndE K t f) : SndE K (tRevL K t) (dOp1 opRev f) := by
  refine snd_op1 (r := fun x H1 Q => ∃ a xs, x = .ref a ∧ SqL K H1 a xs ∧ ∀ p, H1 p = none → Q (.ref p) (upd H1 p (.lst xs.reverse))) ?_ a
  intro F H v x z Q a e q
  cases x <;> try (cases e; done)
  cases e
  obtain ⟨p, vs, rfl, h1, r1⟩ := a.list
  refine ⟨p, vs, rfl, h1, fun p hp => ?_⟩
  obtain ⟨s, n⟩ := new_tmp hp r1.reverse
  exact q _ _ s n

/-! ### built-in calls -/
theorem PkAll.one {vs : List V} {x : D} (h : PkAll K F H vs [x]) : ∃ v, vs = [v] ∧ Pk K F H v x := by
  cases h with
  | cons a t => cases t; exact ⟨_, rfl, a⟩
def rLenD (K : PySem.W.Frag) : List V → Hp → VK → Prop := fun xs H Q => (∃ p ys, xs = [.ref p] ∧ (SqL K H p ys ∨ SqT K H p ys) ∧ Q (.int ys.length) H) ∨ ∃ z, xs = [.str z] ∧ z.length ≤ sizeLine ∧ Q (.int z.length) H
theorem call_lenD' {X : Cx} : CallR X (.builtin "len") (rLenD X.K) := call_len_seq.or call_len_str
theorem prim_len : PrimN K (rLenD K) bLen := by
  intro F H vs xs z Q a e q
  match xs, a, e with
  | [.list ys], a, e =>
    cases e
    obtain ⟨v, rfl, a'⟩ := a.one
    obtain ⟨p, vs, rfl, h1, r1⟩ := a'.list
    refine .inl ⟨p, vs, rfl, .inl h1, ?_⟩
    rw [r1.length]
    exact q _ H Same.rfl' (.int _)
  | [.tuple ys], a, e =>
    cases e
    obtain ⟨v, rfl, a'⟩ := a.one
    obtain ⟨p, vs, rfl, h1, r1⟩ := a'.tup
    refine .inl ⟨p, vs, rfl, .inr h1, ?_⟩
    rw [r1.length]
    exact q _ H Same.rfl' (.int _)
  | [.str s], a, e =>
    have e : (if s.length ≤ sizeLine then some (Rv.d (.int s.length)) else none) = some z := e
    obtain ⟨v, rfl, a'⟩ := a.one
    by_cases c : s.length ≤ sizeLine
    · rw [if_pos c] at e
      cases e
      have := a'.str
      subst this
      exact .inr ⟨s, rfl, c, q _ H Same.rfl' (.int _)⟩
    · rw [if_neg c] at e
      cases e
def rIntD : List V → Hp → VK → Prop := fun xs H Q => (∃ i, xs = [.int i] ∧ Q (.int i) H) ∨ ∃ k, xs = [.bl k] ∧ Q (.int (if k then 1 else 0)) H
theorem prim_int : PrimN K rIntD bInt := by
  intro F H vs xs z Q a e q
  match xs, a, e with
  | [.int i], a, e =>
    cases e
    obtain ⟨v, rfl, a'⟩ := a.one
    have := a'.int
    subst this
    exact .inl ⟨i, rfl, q _ H Same.rfl' (.int _)⟩
  | [.bool b], a, e =>
    cases e
    obtain ⟨v, rfl, a'⟩ := a.one
    have := a'.bl
    subst this
    exact .inr ⟨b, rfl, q _ H Same.rfl' (.int _)⟩
def rStrD : List V → Hp → VK → Prop := fun xs H Q => ∃ i : Int, xs = [.int i] ∧ i.natAbs.log2 < 1920 ∧ Q (.str (toString i)) H
theorem prim_str : PrimN K rStrD bStr := by
  intro F H vs xs z Q a e q
  match xs, a, e with
  | [.int i], a, e =>
    have e : (if i.natAbs.log2 < 1920 then some (Rv.d (.str (Str.ofString (toString i)))) else none) = some z := e
    obtain ⟨v, rfl, a'⟩ := a.one
    by_cases c : i.natAbs.log2 < 1920
    · rw [if_pos c] at e
      cases e
      have := a'.int
      subst this
      exact ⟨i, rfl, c, q _ H Same.rfl' (.str _)⟩
    · rw [if_neg c] at e
      cases e
theorem prim_repr : PrimN K (rRepr K) bRepr := by
  intro F H vs xs z Q a e q
  match xs, a, e with
  | [x], a, e =>
    have e : (if x.hasDict = false ∧ x.showable = true ∧ x.depth ≤ 40 ∧ x.shown.length ≤ sizeLine then some (Rv.d (.str x.shown)) else dictRepr x) = some z := e
    obtain ⟨v, rfl, a'⟩ := a.one
    by_cases c : x.hasDict = false ∧ x.showable = true ∧ x.depth ≤ 40 ∧ x.shown.length ≤ sizeLine
    · rw [if_pos c] at e
      cases e
      exact .inr ⟨v, x, rfl, a'.dp c.1, c.1, c.2.1, c.2.2.1, c.2.2.2, q _ H Same.rfl' (.str _)⟩
    · rw [if_neg c] at e
      match x, a', e with
      | .dict [], a', e =>
        cases e
        rcases a' with k | ⟨_, _, _, _, k, _⟩
        · cases k with
          | dic h => exact .inl ⟨_, rfl, h, q _ H Same.rfl' (.str _)⟩
        · cases k
theorem bools_ok : ∀ {vs : List V} {xs : List PyData} {bs' : List Bool}, RpAll K F H vs xs → boolsOf xs = some bs' → vs = bs'.map V.bl
  | _, [], _, .nil, e => by cases e; rfl
  | _, .bool b :: xs, _, .cons a t, e => by
    obtain ⟨cs, e1, e2⟩ := bs e
    cases e2
    cases a
    rw [bools_ok t e1]
    rfl
theorem ints_ok : ∀ {vs : List V} {xs : List PyData} {is : List Int}, RpAll K F H vs xs → intsOf xs = some is → vs = is.map V.int
  | _, [], _, .nil, e => by cases e; rfl
  | _, .int b :: xs, _, .cons a t, e => by
    obtain ⟨cs, e1, e2⟩ := bs e
    cases e2
    cases a
    rw [ints_ok t e1]
    rfl
theorem prim_all : PrimN K (rAll K) bAll := by
  intro F H vs xs z Q a e q
  match xs, a, e with
  | [.list ys], a, e =>
    obtain ⟨cs, e1, e2⟩ := bs e
    cases e2
    obtain ⟨v, rfl, a'⟩ := a.one
    obtain ⟨p, ws, rfl, h1, r1⟩ := a'.list
    have := bools_ok r1 e1
    subst this
    exact ⟨p, cs, rfl, h1, q _ H Same.rfl' (.bl _)⟩
theorem prim_any : PrimN K (rAny K) bAny := by
  intro F H vs xs z Q a e q
  match xs, a, e with
  | [.list ys], a, e =>
    obtain ⟨cs, e1, e2⟩ := bs e
    cases e2
    obtain ⟨v, rfl, a'⟩ := a.one
    obtain ⟨p, ws, rfl, h1, r1⟩ := a'.list
    have := bools_ok r1 e1
    subst this
    exact ⟨p, cs, rfl, h1, q _ H Same.rfl' (.bl _)⟩
theorem prim_sum : PrimN K (rSum K) bSum := by
  intro F H vs xs z Q a e q
  match xs, a, e with
  | [.list ys], a, e =>
    obtain ⟨cs, e1, e2⟩ := bs e
    cases e2
    obtain ⟨v, rfl, a'⟩ := a.one
    obtain ⟨p, ws, rfl, h1, r1⟩ := a'.list
    have := ints_ok r1 e1
    subst this
    exact ⟨p, cs, rfl, h1, q _ H Same.rfl' (.int _)⟩
def rListD (K : PySem.W.Frag) : List V → Hp → VK → Prop := fun xs H Q => ∃ p ys, xs = [.ref p] ∧ (SqL K H p ys ∨ SqT K H p ys) ∧ ∀ l, H l = none → Q (.ref l) (upd H l (.lst ys))
theorem prim_list : PrimN K (rListD K) bList := by
  intro F H vs xs z Q a e q
  match xs, a, e with
  | [.list ys], a, e =>
    cases e
    obtain ⟨v, rfl, a'⟩ := a.one
    obtain ⟨p, ws, rfl, h1, r1⟩ := a'.list
    refine ⟨p, ws, rfl, .inl h1, fun p hp => ?_⟩
    obtain ⟨s, n⟩ := new_tmp hp r1
    exact q _ _ s n
  | [.tuple ys], a, e =>
    cases e
    obtain ⟨v, rfl, a'⟩ := a.one
    obtain ⟨p, ws, rfl, h1, r1⟩ := a'.tup
    refine ⟨p, ws, rfl, .inr h1, fun p hp => ?_⟩
    obtain ⟨s, n⟩ := new_tmp hp r1
    exact q _ _ s n
/-! isinstance -/
theorem Pk.ty {x : D} (h : Pk K F H v x) : TyX K H v (.type (tyName x)) := by
  have sq : ∀ {a xs}, SqL K H a xs → TyX K H (.ref a) (.type "list") := fun {a xs} s => by
    rcases s with (s | ⟨o, s⟩) | ⟨o, its, n, s, c, _⟩
    · exact .base (.lst s)
    · exact .base (.frz s)
    · exact .kList s c
  have st : ∀ {a xs}, SqT K H a xs → TyX K H (.ref a) (.type "tuple") := fun {a xs} s => by
    rcases s with (s | ⟨o, s⟩) | ⟨o, its, n, s, c, _⟩
    · exact .base (.tup s)
    · exact .fTuple s
    · exact .kTuple s c
  cases x with
  | none => have := h.non; subst this; exact .base .non
  | bool c => have := h.bl; subst this; exact .base (.bl c)
  | int c => have := h.int; subst this; exact .base (.int c)
  | str c => have := h.str; subst this; exact .base (.str c)
  | list c => obtain ⟨p, vs, rfl, h1, _⟩ := h.list; exact sq h1
  | tuple c => obtain ⟨p, vs, rfl, h1, _⟩ := h.tup; exact st h1
  | dict c =>
    rcases h with k | ⟨_, _, _, _, k, _⟩
    · cases k with
      | dic h => exact .base (.dK h)
    · cases k
end
end DL
end

section
set_option Elab.async false
set_option linter.all false
set_option maxRecDepth 100000
set_option maxHeartbeats 1000000
/-! DLrul: rules: a piece of syntax, its reading, its plain function, at once. -/
namespace DL
open PySem PySem.Spec PyProof.Rows L2
/-! ### isinstance -/
def tyNames : List String := ["NoneType", "bool", "int", "str", "list", "tuple", "dict"]
def TyOkc (T : String) : Prop := ∀ n ∈ tyNames, kitB n T = some (n == T || (T == "int" && n == "bool"))
theorem tyName_mem (x : D) : tyName x ∈ tyNames := by
  cases x <;> simp [tyName, tyNames]
section
variable {K : PySem.W.Frag}
theorem kit_at {T : String} (hT : TyOkc T) (x : D) : PySem.W.kitOne K (.type (tyName x)) (.type T) = some (isTy x T) := kit_ty (hT _ (tyName_mem x))
theorem snd_isi {T : String} {t : TE} {f : DE} (hT : TyOkc T) (a : SndE K t f) : SndE K (tCB (rIsi K) (tCons t (tCons (tC (.ty T)) tNil))) (dOp1 (bIsi T) f) := by
  intro H0 M st σ F H z st' Q S e q
  obtain ⟨p, e1, e⟩ := bs e
  obtain ⟨x, e3, e⟩ := bs e
  obtain ⟨u, e5, e⟩ := bs e
  cases e
  refine a H0 M st σ F H p.1 p.2 _ S e1 fun v F1 H1 S1 E1 f1 r1 => ?_
  have pk := look_ok S1 r1.weak e3
  have ez : z = .d (.bool (isTy x T)) := by
    exact (Option.some.inj e5).symm
  subst ez
  exact ⟨v, .ty T, .type (tyName x), .type T, isTy x T, rfl, .ty T, pk.ty, kit_at hT x, q _ F1 H1 S1 E1 f1 (.bl _)⟩
theorem snd_isi2 {T U : String} {t : TE} {f : DE} (hT : TyOkc T) (hU : TyOkc U) (a : SndE K t f) : SndE K (tCB (rIsiT K) (tCons t (tCons (tTup (tCons (tC (.ty T)) (tCons (tC (.ty U)) tNil))) tNil))) (dOp1 (bIsi2 T U) f) := by
  intro H0 M st σ F H z st' Q S e q
  obtain ⟨p, e1, e⟩ := bs e
  obtain ⟨x, e3, e⟩ := bs e
  obtain ⟨u, e5, e⟩ := bs e
  cases e
  refine a H0 M st σ F H p.1 p.2 _ S e1 fun v F1 H1 S1 E1 f1 r1 => ?_
  have ez : z = .d (.bool (isTy x T || isTy x U)) := by
    exact (Option.some.inj e5).symm
  subst ez
  refine ⟨by show 2 ≤ sizeLine; decide, fun tp hp => ?_⟩
  have S2 := S1.grow (same_upd (o := .tup [.ty T, .ty U]) hp)
  have E2 := E1.trans (Ext.grow (st := p.2) (σ := σ) (F := F1) (same_upd (o := .tup [.ty T, .ty U]) hp))
  have pk : Pk K F1 (upd H1 tp (.tup [.ty T, .ty U])) v x := look_ok S2 (r1.weak.ext S1 (Ext.grow (same_upd hp)) trivial) e3
  refine ⟨v, tp, [.ty T, .ty U], .type (tyName x), [.type T, .type U], isTy x T || isTy x U, rfl, upd_same, .cons (.ty T) (.cons (.ty U) .nil), pk.ty, ?_, q _ F1 _ S2 E2 trivial (.bl _)⟩
  refine kitAny_cons (kit_at hT x) (fun h => ?_) (fun h => by rw [h]; rfl)
  refine kitAny_cons (kit_at hU x) (fun h2 => ?_) (fun h2 => by rw [h, h2]; rfl)
  rw [h, h2]
  exact kitAny_nil
end
theorem tyok_int : TyOkc "int" := by unfold TyOkc tyNames; decide +kernel
theorem tyok_bool : TyOkc "bool" := by unfold TyOkc tyNames; decide +kernel
theorem tyok_str : TyOkc "str" := by unfold TyOkc tyNames; decide +kernel
theorem tyok_list : TyOkc "list" := by unfold TyOkc tyNames; decide +kernel
theorem tyok_tuple : TyOkc "tuple" := by unfold TyOkc tyNames; decide +kernel

/-! ### operators in place -/
section
variable {K : PySem.W.Frag} {X : Cx}
theorem prim_addI : Prim2 K (ipI fun i j => i + j) opAddI := by
  intro F H v w x y z Q a b e q
  cases x <;> cases y <;> try (cases e; done)
  cases e
  exact ⟨_, _, a.int, b.int, q _ H Same.rfl' (.int _)⟩
theorem pget_list : PGet X (rIxL X.K) := by
  intro pins s σ H x y v u Q I rx ry h
  obtain ⟨p, xs, i, z, rfl, rfl, hq, he, q⟩ := h
  cases rx
  obtain ⟨t, rfl⟩ := ry
  obtain ⟨its, r, pl, hz⟩ := I.list hq
  obtain ⟨j, h1, h2, h3, h4, h5⟩ := atI_get he
  obtain ⟨w, ew, rw'⟩ := r.get h2
  have hl := r.length
  have hn := line63
  have fin : EP X pins σ Q w s := ⟨z, H, I, rw', q⟩
  by_cases h0 : 0 ≤ i
  · have hj : i.toNat = j := by
      rw [seqIndex_of h0 h5] at h1
      exact Option.some.inj h1
    exact wpAny_getItem_list pl.isList h0 (by omega) (by rw [hj]; simpa using ew) fin
  · have hj : (i + (its.toArray.size : Int)).toNat = j := by
      rw [seqIndex_neg (by omega) h4] at h1
      rw [List.size_toArray, ← hl]
      exact Option.some.inj h1
    exact wpAny_getItem_list_neg pl.isList (by omega) (by rw [List.size_toArray] <;> omega) (by omega) (by rw [hj]; simpa using ew) fin
end

/-! ### the judgements -/
structure SE (K : PySem.W.Frag) (X : Cx) (e : Expr) (t : TE) (f : DE) : Prop where
  pe : PE X e t
  sn : SndE K t f
structure ST (K : PySem.W.Frag) (X : Cx) (e : Expr) (t : TT) (f : DT) : Prop where
  pe : PT X e t
  sn : SndT K t f
structure SW (K : PySem.W.Frag) (X : Cx) (e : Expr) (t : TT) (f : DT) : Prop where
  pe : PW X e t
  sn : SndT K t f
structure SA (K : PySem.W.Frag) (X : Cx) (es : List Expr) (t : TA) (f : DA) : Prop where
  pe : PA X es t
  sn : SndA K t f
structure SK (K : PySem.W.Frag) (X : Cx) (ks : List Keyword) (t : TA) (f : DA) : Prop where
  pe : PK X ks t
  sn : SndA K t f
structure SO (K : PySem.W.Frag) (X : Cx) (e : Option Expr) (t : TO) (f : DO) : Prop where
  pe : PO X e t
  sn : SndO K t f
structure SS (K : PySem.W.Frag) (X : Cx) (s : Stmt) (t : TS) (f : DS) : Prop where
  pe : PS X s t
  sn : SndS K t f
structure SSs (K : PySem.W.Frag) (X : Cx) (s : List Stmt) (t : TS) (f : DS) : Prop where
  pe : PSs X s t
  sn : SndS K t f
structure SG (K : PySem.W.Frag) (X : Cx) (e : Expr) (is : List Nat) (t : TG) (f : DG) : Prop where
  pe : PG X e t
  sn : SndG K is t f
structure SGs (K : PySem.W.Frag) (X : Cx) (es : List Expr) (is : List Nat) (t : TGs) (f : DGs) : Prop where
  pe : PGs X es t
  sn : SndGs K is t f
structure SI (K : PySem.W.Frag) (X : Cx) (tg it : Expr) (w : TI) (f : DI) : Prop where
  pe : PI X tg it w
  sn : SndI K w f
section
variable {K : PySem.W.Frag} {X : Cx} {a b c e : Expr} {es : List Expr} {ta tb tc te : TE} {f g h : DE} {pos p : Pos} {x : Str}
theorem se_var (i : Nat) (hN : X.N[i]? = some x := by rfl) (hv : Vis X.env.scope x := by first | exact Or.inl rfl | exact Or.inr (Or.inl rfl) | exact Or.inr (Or.inr rfl)) (hd : (x == ("__debug__" : Str)) = false := by decide)
    (hcd : (x == ("__classdict__" : Str)) = false := by decide) : SE K X (.Name x pos) (tVar i) (dVar i) := ⟨pe_var hN hv hd hcd, snd_var⟩
theorem se_int {i j} : SE K X (.Constant (.int i) j pos) (tC (.int i)) (dC (.int i)) := ⟨pe_int, snd_c fun _ _ => .int _⟩
theorem se_bl {i j} : SE K X (.Constant (.bool i) j pos) (tC (.bl i)) (dC (.bool i)) := ⟨pe_bl, snd_c fun _ _ => .bl _⟩
theorem se_non {j} : SE K X (.Constant .none j pos) (tC .non) (dC .none) := ⟨pe_non, snd_c fun _ _ => .non⟩
theorem se_str {s j} : SE K X (.Constant (.str s) j pos) (tC (.str s)) (dC (.str s)) := ⟨pe_str, snd_c fun _ _ => .str _⟩
/-- a module's constant -/
theorem se_glob {v : V} {u : Value} {d : PyData} (hg : Gl X x) (hm : X.mg x = some u) (r : RelV v u) (hd : ∀ (F : Addr → Prop) (H : Hp), Rp K F H v d) (h1 : (x == ("__debug__" : Str)) = false := by decide) : SE K X (.Name x pos) (tC v) (dC d) := ⟨pe_glob hg hm r h1, snd_c hd⟩
theorem se_op {op : Operator} {r : R2} {o : D → D → Option Rv} (hp : Prim2 K r o) (ho : OpR X (binaryOp op) r) (ha : SE K X a ta f) (hb : SE K X b tb g) : SE K X (.BinOp a op b pos) (tOp r ta tb) (dOp2 o f g) := ⟨pe_op ho ha.pe hb.pe, snd_op2 hp ha.sn hb.sn⟩
theorem se_add (ha : SE K X a ta f) (hb : SE K X b tb g) (hK : X.K = K := by rfl) : SE K X (.BinOp a .Add b pos) (tOp (rAddD K) ta tb) (dOp2 opAdd f g) := by
  subst hK
  exact se_op prim_add op_addD ha hb
theorem se_sub (ha : SE K X a ta f) (hb : SE K X b tb g) : SE K X (.BinOp a .Sub b pos) (tOp (rI0 fun i j => .int (i - j)) ta tb) (dOp2 opSub f g) := se_op prim_sub op_sub ha hb
theorem se_mul (ha : SE K X a ta f) (hb : SE K X b tb g) (hK : X.K = K := by rfl) : SE K X (.BinOp a .Mult b pos) (tOp (rMulD K) ta tb) (dOp2 opMul f g) := by
  subst hK
  exact se_op prim_mul op_mulD ha hb
theorem se_div (ha : SE K X a ta f) (hb : SE K X b tb g) : SE K X (.BinOp a .FloorDiv b pos) (tOp (rI CDivW fun i j => .int (i / j)) ta tb) (dOp2 opDiv f g) := se_op prim_div op_fdivW ha hb
theorem se_mod (ha : SE K X a ta f) (hb : SE K X b tb g) : SE K X (.BinOp a .Mod b pos) (tOp (rI (fun _ j => 0 < j) fun i j => .int (i % j)) ta tb) (dOp2 opMod f g) := se_op prim_mod op_mod ha hb
theorem se_pow (ha : SE K X a ta f) (hb : SE K X b tb g) : SE K X (.BinOp a .Pow b pos) (tOp (rI CPow fun i j => .int (i ^ j.toNat)) ta tb) (dOp2 opPow f g) := se_op prim_pow op_pow ha hb
theorem se_neg (ha : SE K X a ta f) : SE K X (.UnaryOp .USub a pos) (tUn (rU fun i => .int (-i)) ta) (dOp1 opNeg f) := ⟨pe_un un_neg ha.pe, snd_op1 prim_neg ha.sn⟩
theorem se_cmp {op : CmpOp} {r : R2} {o : D → D → Option Rv} (hp : Prim2 K r o) (ho : OpR X (compareOp op) r) (hm : behindInMarks op b = false) (ha : SE K X a ta f) (hb : SE K X b tb g) : SE K X (.Compare a [op] [b] pos) (tOp r ta tb) (dOp2 o f g) := ⟨pe_cmpR ho ha.pe hb.pe hm, snd_op2 hp ha.sn hb.sn⟩
theorem st_cmp {op : CmpOp} {r : R2} {o : D → D → Option Rv} (hp : Prim2 K r o) (ho : OpR X (compareOp op) r) (hm : behindInMarks op b = false) (ha : SE K X a ta f) (hb : SE K X b tb g) : ST K X (.Compare a [op] [b] pos) (tTest (tOp r ta tb)) (dTest (dOp2 o f g)) := ⟨pt_cmpR ho ha.pe hb.pe hm, snd_testC (snd_op2 hp ha.sn hb.sn)⟩
/-- an expression that gives a bool, as a test -/
theorem st_val (ha : SE K X a ta f) (he : ∀ whole, isTrue a X.env whole = (do let v ← whole; standAt a.pos; holding [v] (truthy v)) := by intro _; rfl) : ST K X a (tB ta) (dTest f) := ⟨pt_val ha.pe he, snd_test ha.sn⟩
variable {t u : TT} {ft gt : DT}
theorem st_not (ha : ST K X a t ft) : ST K X (.UnaryOp .Not a pos) (tNot t) (dNot ft) := ⟨pt_not ha.pe, snd_not ha.sn⟩
theorem sw_and1 (ha : ST K X a t ft) : SW K X (.BoolOp .And [a] pos) t ft := ⟨pw_and1 ha.pe, ha.sn⟩
theorem sw_or1 (ha : ST K X a t ft) : SW K X (.BoolOp .Or [a] pos) t ft := ⟨pw_or1 ha.pe, ha.sn⟩
theorem sw_and {r : List Expr} (ha : ST K X a t ft) (hb : SW K X (.BoolOp .And (b :: r) pos) u gt) : SW K X (.BoolOp .And (a :: b :: r) pos) (tAnd t u) (dAnd ft gt) := ⟨pw_and ha.pe hb.pe, snd_and ha.sn hb.sn⟩
theorem sw_or {r : List Expr} (ha : ST K X a t ft) (hb : SW K X (.BoolOp .Or (b :: r) pos) u gt) : SW K X (.BoolOp .Or (a :: b :: r) pos) (tOr t u) (dOr ft gt) := ⟨pw_or ha.pe hb.pe, snd_or ha.sn hb.sn⟩
theorem st_w (ha : SW K X a t ft) : ST K X a t ft := ⟨ha.pe.pt, ha.sn⟩
theorem se_one {op} (ha : SE K X a ta f) : SE K X (.BoolOp op [a] pos) ta f := ⟨pe_one ha.pe, ha.sn⟩
theorem se_and {r : List Expr} (ha : SE K X a ta f) (hb : SE K X (.BoolOp .And (b :: r) pos) tb g) : SE K X (.BoolOp .And (a :: b :: r) pos) (tAndV ta tb) (dAndV f g) := ⟨pe_and ha.pe hb.pe, snd_andV ha.sn hb.sn⟩
theorem se_or {r : List Expr} (ha : SE K X a ta f) (hb : SE K X (.BoolOp .Or (b :: r) pos) tb g) : SE K X (.BoolOp .Or (a :: b :: r) pos) (tOrV ta tb) (dOrV f g) := ⟨pe_or ha.pe hb.pe, snd_orV ha.sn hb.sn⟩
theorem se_not (ha : SE K X a ta f) : SE K X (.UnaryOp .Not a pos) (tNotV ta) (dNotV f) := ⟨pe_not ha.pe, snd_notV ha.sn⟩
theorem se_if (hc : ST K X c t ft) (ha : SE K X a ta f) (hb : SE K X b tb g) : SE K X (.IfExp c a b pos) (tIf t ta tb) (dIf ft f g) := ⟨pe_ifExp hc.pe ha.pe hb.pe, snd_if hc.sn ha.sn hb.sn⟩
/-! lists of arguments -/
variable {tr tk : TA} {fr fk : DA}
theorem sa_nil : SA K X [] tNil dNil := ⟨pa_nil, snd_nil⟩
theorem sa_cons (ha : SE K X e te f) (hr : SA K X es tr fr) (hs : starEach (e :: es) X.env = (false, eval e X.env) :: starEach es X.env := by rfl) : SA K X (e :: es) (tCons te tr) (dCons f fr) := ⟨pa_cons ha.pe hr.pe hs, snd_cons ha.sn hr.sn⟩
theorem sk_nil : SK K X [] tNil dNil := ⟨pk_nil, snd_nil⟩
theorem sk_cons {nm : Option Str} {kpos : Pos} {kws : List Keyword} (ha : SE K X e te f) (hr : SK K X kws tr fr) : SK K X (⟨nm, e, kpos⟩ :: kws) (tCons te tr) (dCons f fr) := ⟨pk_cons ha.pe hr.pe, snd_cons ha.sn hr.sn⟩
theorem se_tup {k} (h : SA K X es tr fr) : SE K X (.Tuple es k pos) (tTup tr) (dTup fr) := ⟨pe_tup h.pe, snd_tup h.sn⟩
theorem se_lst (h : SA K X es tr fr) : SE K X (.List es pos) (tLst tr) (dList fr) := ⟨pe_lst h.pe, snd_list h.sn⟩
/-! subscripts -/
theorem se_ix (ha : SE K X a ta f) (hb : SE K X b tb g) (hs : PlainIx b := by intro _ _; rfl) (hK : X.K = K := by rfl) : SE K X (.Subscript a b pos) (tOp (rIx K) ta tb) (dOp2 opIx f g) := by
  subst hK
  exact ⟨pe_ix ix_seq ha.pe hb.pe hs, snd_op2 prim_ix ha.sn hb.sn⟩
theorem so_none : SO K X none tNoPart dNoPart := ⟨po_none, snd_nopart⟩
theorem so_some (ha : SE K X a ta f) : SO K X (some a) (tPart ta) (dPart f) := ⟨po_some ha.pe, snd_part ha.sn⟩
theorem se_slice {lo hi : Option Expr} {p2 : Pos} {tl th : TO} {fl fh : DO} (ha : SE K X a ta f) (hl : SO K X lo tl fl) (hh : SO K X hi th fh) (hK : X.K = K := by rfl) : SE K X (.Subscript a (.Slice lo hi none p2) pos) (tSl (rSlL K) ta tl th) (dSlice opSlice f fl fh) := by
  subst hK
  exact ⟨pe_slice sl_list ha.pe hl.pe hh.pe, snd_slice prim_slice ha.sn hl.sn hh.sn⟩
theorem se_rev {k : Nat} {p1 p2 p3 : Pos} (ha : SE K X a ta f) (hK : X.K = K := by rfl) : SE K X (.Subscript a (.Slice none none (some (.UnaryOp .USub (.Constant (.int 1) k p1) p2)) p3) pos) (tRevL K ta) (dOp1 opRev f) := by
  subst hK
  exact ⟨pe_revL ha.pe, snd_rev ha.sn⟩
/-! calls of built-ins -/
theorem se_callB {id : String} {r : List V → Hp → VK → Prop} {o : List D → Option Rv} (hp : PrimN K r o) (hc : CallR X (.builtin id) r) (hg : Gl X x) (hm : X.mg x = none) (hv : bootBuiltins x = some (.builtin id)) (ha : SA K X (e :: es) tr fr) (hn : x ≠ "__name__" := by decide) (hdb : (x == ("__debug__" : Str)) = false := by decide)
    (he : starEach (e :: es) X.env = (false, eval e X.env) :: starEach es X.env := by rfl) (hpl : (backTo pos (starEach es X.env)).any (·.1) = false := by rfl) : SE K X (.Call (.Name x p) (e :: es) [] pos) (tCB r tr) (dCallB o fr) := ⟨pe_callB hc hg hm hv ha.pe hn hdb he hpl, snd_callB hp ha.sn⟩
theorem se_callTy {T : String} {r : List V → Hp → VK → Prop} {o : List D → Option Rv} (hp : PrimN K r o) (hc : CallR X (.type T) r) (hg : Gl X x) (hm : X.mg x = none) (hv : bootBuiltins x = some (.type T)) (ha : SA K X (e :: es) tr fr) (hn : x ≠ "__name__" := by decide) (hdb : (x == ("__debug__" : Str)) = false := by decide)
    (he : starEach (e :: es) X.env = (false, eval e X.env) :: starEach es X.env := by rfl) (hpl : (backTo pos (starEach es X.env)).any (·.1) = false := by rfl) : SE K X (.Call (.Name x p) (e :: es) [] pos) (tCB r tr) (dCallB o fr) := ⟨pe_callTy hc hg hm hv ha.pe hn hdb he hpl, snd_callB hp ha.sn⟩
/-- isinstance(e, T) -/
theorem se_isi {T : String} {y : Str} {p2 : Pos} (hT : TyOkc T) (hg : Gl X "isinstance") (hm : X.mg "isinstance" = none) (hb : bootBuiltins "isinstance" = some (.builtin "isinstance")) (hg2 : Gl X y) (hm2 : X.mg y = none) (hb2 : bootBuiltins y = some (.type T)) (ha : SE K X a ta f) (hn : y ≠ "__name__" := by decide) (hd : (y == ("__debug__" : Str)) = false := by decide)
    (h1 : starEach [a, .Name y p2] X.env = (false, eval a X.env) :: starEach [.Name y p2] X.env := by rfl) (h2 : starEach [.Name y p2] X.env = (false, eval (.Name y p2) X.env) :: starEach [] X.env := by rfl) (h3 : (backTo pos (starEach [.Name y p2] X.env)).any (·.1) = false := by rfl) (hK : X.K = K := by rfl) :
    SE K X (.Call (.Name "isinstance" p) [a, .Name y p2] [] pos) (tCB (rIsi K) (tCons ta (tCons (tC (.ty T)) tNil))) (dOp1 (bIsi T) f) := by
  subst hK
  exact ⟨pe_callB call_isi hg hm hb (pa_cons ha.pe (pa_cons (pe_bltn (v := .ty T) hg2 hm2 hb2 rfl hn hd) pa_nil h2) h1) (by decide) (by decide) h1 h3, snd_isi hT ha.sn⟩
/-- isinstance(e, (T, U)) -/
theorem se_isi2 {T U : String} {y z : Str} {p2 p3 p4 : Pos} {k} (hT : TyOkc T) (hU : TyOkc U) (hg : Gl X "isinstance") (hm : X.mg "isinstance" = none) (hb : bootBuiltins "isinstance" = some (.builtin "isinstance")) (hg2 : Gl X y) (hm2 : X.mg y = none) (hb2 : bootBuiltins y = some (.type T)) (hg3 : Gl X z) (hm3 : X.mg z = none) (hb3 : bootBuiltins z = some (.type U)) (ha : SE K X a ta f)
    (hn : y ≠ "__name__" := by decide) (hd : (y == ("__debug__" : Str)) = false := by decide) (hn' : z ≠ "__name__" := by decide) (hd' : (z == ("__debug__" : Str)) = false := by decide)
    (h1 : starEach [a, .Tuple [.Name y p2, .Name z p3] k p4] X.env = (false, eval a X.env) :: starEach [.Tuple [.Name y p2, .Name z p3] k p4] X.env := by rfl) (h2 : starEach [.Tuple [.Name y p2, .Name z p3] k p4] X.env = (false, eval (.Tuple [.Name y p2, .Name z p3] k p4) X.env) :: starEach [] X.env := by rfl) (h3 : (backTo pos (starEach [.Tuple [.Name y p2, .Name z p3] k p4] X.env)).any (·.1) = false := by rfl)
    (h4 : starEach [.Name y p2, .Name z p3] X.env = (false, eval (.Name y p2) X.env) :: starEach [.Name z p3] X.env := by rfl) (h5 : starEach [.Name z p3] X.env = (false, eval (.Name z p3) X.env) :: starEach [] X.env := by rfl) (hK : X.K = K := by rfl) :
    SE K X (.Call (.Name "isinstance" p) [a, .Tuple [.Name y p2, .Name z p3] k p4] [] pos) (tCB (rIsiT K) (tCons ta (tCons (tTup (tCons (tC (.ty T)) (tCons (tC (.ty U)) tNil))) tNil))) (dOp1 (bIsi2 T U) f) := by
  subst hK
  exact ⟨pe_callB call_isiT hg hm hb (pa_cons ha.pe (pa_cons (pe_tup (pa_cons (pe_bltn (v := .ty T) hg2 hm2 hb2 rfl hn hd) (pa_cons (pe_bltn (v := .ty U) hg3 hm3 hb3 rfl hn' hd') pa_nil h5) h4)) pa_nil h2) h1) (by decide) (by decide) h1 h3, snd_isi2 hT hU ha.sn⟩
/-! calls of defs -/
theorem se_call {lv n : Nat} {fa : Addr} {fd : FuncData} {ps : List Str} {G : Fn} {ds : List Value} {dvs : List V} {modes : List Bool} {more : List PyData} (F : FnG X.prog X.w X.K X.mg X.base CX0 lv fa fd ps (spD K n G)) (hr : Room lv X.A) (gd : X.A.guards = some []) (hg : Gl X x) (hm : X.mg x = some (.ref fa)) (kp : PySem.W.keepIn X.K (.ref fa) = true) (hb : Binds X.K fd ps ds) (hd : Vals dvs ds)
    (hdd : ∀ (F : Addr → Prop) (H : Hp), RpAll K F H dvs more) (hn : modes.length + more.length = n) (ha : SA K X (e :: es) tr fr) (h1 : (x == ("__debug__" : Str)) = false := by decide) (h2 : starEach (e :: es) X.env = (false, eval e X.env) :: starEach es X.env := by rfl) (h3 : (backTo pos (starEach es X.env)).any (·.1) = false := by rfl) (hK : X.K = K := by rfl) :
    SE K X (.Call (.Name x p) (e :: es) [] pos) (tCall (spD K n G) dvs E0 tr) (dCall G modes more fr) := by
  subst hK
  exact ⟨pe_callG F hr gd hg hm kp hb hd pass0 ha.pe h1 h2 h3, snd_call hdd hn ha.sn⟩
theorem se_call0 {lv n : Nat} {fa : Addr} {fd : FuncData} {ps : List Str} {G : Fn} {ds : List Value} {dvs : List V} {more : List PyData} (F : FnG X.prog X.w X.K X.mg X.base CX0 lv fa fd ps (spD K n G)) (hr : Room lv X.A) (gd : X.A.guards = some []) (hg : Gl X x) (hm : X.mg x = some (.ref fa)) (kp : PySem.W.keepIn X.K (.ref fa) = true) (hb : Binds X.K fd ps ds) (hd : Vals dvs ds)
    (hdd : ∀ (F : Addr → Prop) (H : Hp), RpAll K F H dvs more) (hn : ([] : List Bool).length + more.length = n) (h1 : (x == ("__debug__" : Str)) = false := by decide) (hK : X.K = K := by rfl) :
    SE K X (.Call (.Name x p) [] [] pos) (tCall (spD K n G) dvs E0 tNil) (dCall G [] more dNil) := by
  subst hK
  exact ⟨pe_call0G F hr gd hg hm kp hb hd pass0 h1, snd_call hdd hn snd_nil⟩
theorem se_callP {lv l n : Nat} {fa : Addr} {fd : FuncData} {ps ks : List Str} {G : Fn} {ds : List Value} {dvs : List V} {perm : List Nat} {more : List PyData} {kws : List Keyword} {m : Nat} (F : FnG X.prog X.w X.K X.mg X.base CX0 lv fa fd ps (spD K l G)) (hr : Room lv X.A) (gd : X.A.guards = some []) (hg : Gl X x) (hm : X.mg x = some (.ref fa)) (kp : PySem.W.keepIn X.K (.ref fa) = true) (hb : KB X.K fd ps ks n perm ds) (hd : Vals dvs ds)
    (hdd : ∀ (F : Addr → Prop) (H : Hp), RpAll K F H dvs more) (hm : ks.length = m) (hl : (permute perm (List.replicate (n + m + more.length) ())).length = l) (ha : SA K X (e :: es) tr fr) (hk : SK K X kws tk fk) (k1 : (backToKw pos (keywordEach kws X.env)).all (·.1.isSome) = true := by rfl) (k2 : (backToKw pos (keywordEach kws X.env)).filterMap (·.1) = ks := by rfl)
    (h1 : (x == ("__debug__" : Str)) = false := by decide) (h2 : starEach (e :: es) X.env = (false, eval e X.env) :: starEach es X.env := by rfl) (h3 : ((backTo pos (starEach (e :: es) X.env)).any (·.1) || (backToKw pos (keywordEach kws X.env)).any (·.1.isNone)) = false := by rfl) (hK : X.K = K := by rfl) :
    SE K X (.Call (.Name x p) (e :: es) kws pos) (tCallP n m perm dvs (spD K l G) E0 tr tk) (dCallK G n m perm more fr fk) := by
  subst hK hm
  exact ⟨pe_callP F hr gd hg hm kp hb hd pass0 ha.pe hk.pe k1 k2 h1 h2 h3, snd_callP hdd hl ha.sn hk.sn⟩
theorem se_callP0 {lv l : Nat} {fa : Addr} {fd : FuncData} {ps ks : List Str} {G : Fn} {ds : List Value} {dvs : List V} {perm : List Nat} {more : List PyData} {kws : List Keyword} {m : Nat} (F : FnG X.prog X.w X.K X.mg X.base CX0 lv fa fd ps (spD K l G)) (hr : Room lv X.A) (gd : X.A.guards = some []) (hg : Gl X x) (hm : X.mg x = some (.ref fa)) (kp : PySem.W.keepIn X.K (.ref fa) = true) (hb : KB X.K fd ps ks 0 perm ds) (hd : Vals dvs ds)
    (hdd : ∀ (F : Addr → Prop) (H : Hp), RpAll K F H dvs more) (hm : ks.length = m) (hl : (permute perm (List.replicate (0 + m + more.length) ())).length = l) (hk : SK K X kws tk fk) (k1 : (backToKw pos (keywordEach kws X.env)).all (·.1.isSome) = true := by rfl) (k2 : (backToKw pos (keywordEach kws X.env)).filterMap (·.1) = ks := by rfl)
    (h1 : (x == ("__debug__" : Str)) = false := by decide) (h3 : ((backTo pos (starEach [] X.env)).any (·.1) || (backToKw pos (keywordEach kws X.env)).any (·.1.isNone)) = false := by rfl) (hK : X.K = K := by rfl) :
    SE K X (.Call (.Name x p) [] kws pos) (tCallP 0 m perm dvs (spD K l G) E0 tNil tk) (dCallK G 0 m perm more dNil fk) := by
  subst hK hm
  exact ⟨pe_callP0 F hr gd hg hm kp hb hd pass0 hk.pe k1 k2 h1 h3, snd_callP hdd hl snd_nil hk.sn⟩
/-! walked things -/
variable {tg : Expr}
theorem si_list (ha : SE K X a ta f) (hK : X.K = K := by rfl) : SI K X tg a (L2.iList K ta) (dIter DL.iList f) := by
  subst hK
  exact ⟨pi_list ha.pe, snd_ilist ha.sn⟩
theorem si_tup (ha : SE K X a ta f) (hK : X.K = K := by rfl) : SI K X tg a (L2.iTup K ta) (dIter DL.iTup f) := by
  subst hK
  exact ⟨pi_tup ha.pe, snd_itup ha.sn⟩
def iSeqT (K : PySem.W.Frag) (tl : TE) : TI := fun σ H R => tl σ H fun x H1 => ∃ a, x = .ref a ∧ (((∃ xs, SqL K H1 a xs) ∧ R (Itl K a) H1) ∨ ((∃ xs, SqT K H1 a xs) ∧ R (Itt K a) H1))
theorem pi_seq {l : Expr} {tl : TE} (hl : PE X l tl) : PI X tg l (iSeqT X.K tl) := by
  refine ⟨fun pins s σ H R I h => ?_⟩
  refine thn (hl.run pins s σ H _ I h) fun v s1 ⟨x, H1, I1, r1, q1⟩ => ?_
  obtain ⟨a, e, q1⟩ := q1
  subst e
  cases r1
  rcases q1 with ⟨⟨xs, hq⟩, q⟩ | ⟨⟨xs, hq⟩, q⟩
  · obtain ⟨its, rv, p, hz⟩ := I1.list hq
    refine wpAny_pyIter_list p.isList ?_
    refine ⟨s1.heap.objs.size, [s1.heap.objs.size], _, _, H1, rfl, I1.kept (t' := s1.toks) fun b o e => Heap.get?_push_of_some _ e, turn_list a _, ⟨_, Heap.get?_push_size _ rfl, rfl, rfl⟩, fun b hb => ?_, q⟩
    have e : b = s1.heap.objs.size := by simpa using hb
    subst e
    exact I1.fpOk (Nat.le_refl _) (I1.hok.fresh (Nat.le_refl _))
  · obtain ⟨its, rv, p, hz⟩ := I1.tuple hq
    refine wpAny_pyIter_tuple (show s1.heap.IsTuple a its.toArray from p) ?_
    refine ⟨s1.heap.objs.size, [s1.heap.objs.size], _, _, H1, rfl, I1.kept (t' := s1.toks) fun b o e => Heap.get?_push_of_some _ e, turn_tuple a _, ⟨_, Heap.get?_push_size _ rfl, rfl, rfl⟩, fun b hb => ?_, q⟩
    have e : b = s1.heap.objs.size := by simpa using hb
    subst e
    exact I1.fpOk (Nat.le_refl _) (I1.hok.fresh (Nat.le_refl _))
theorem snd_iseq {t : TE} {f : DE} (a : SndE K t f) : SndI K (iSeqT K t) (dIter DL.iSeq f) := by
  intro H0 M st σ F H ds st' R S e q
  obtain ⟨p, e1, e⟩ := bs e
  obtain ⟨⟨y, s2⟩, e2, e⟩ := bs e
  obtain ⟨zs, e3, e⟩ := bs e
  cases e
  refine a H0 M st σ F H p.1 p.2 _ S e1 fun v F1 H1 S1 E1 f1 r1 => ?_
  obtain ⟨F2, S2, E2, r2, _⟩ := toD_ok S1 E1 r1.weak e2
  cases y <;> try (cases e3; done)
  · cases e3
    cases r2 with
    | lst h hs => exact ⟨_, rfl, .inl ⟨⟨_, h.sql⟩, q _ F2 H1 S2 E2 (wd_list h hs)⟩⟩
  · cases e3
    cases r2 with
    | tup h hs => exact ⟨_, rfl, .inr ⟨⟨_, h⟩, q _ F2 H1 S2 E2 (wd_tup h hs)⟩⟩
theorem si_seq (ha : SE K X a ta f) (hK : X.K = K := by rfl) : SI K X tg a (iSeqT K ta) (dIter DL.iSeq f) := by
  subst hK
  exact ⟨pi_seq ha.pe, snd_iseq ha.sn⟩
theorem si_range1 (hg : Gl X "range") (hm : X.mg "range" = none) (ha : SA K X [a] tr fr) (hs : starEach [a] X.env = [(false, eval a X.env)] := by rfl) : SI K X tg (.Call (.Name "range" p) [a] [] pos) (iRng1 tr) (dIterA iRange1 fr) := ⟨pi_range1 hg hm ha.pe hs, snd_irange1 ha.sn⟩
theorem si_range2 (hg : Gl X "range") (hm : X.mg "range" = none) (ha : SA K X [a, b] tr fr) (hs : starEach [a, b] X.env = [(false, eval a X.env), (false, eval b X.env)] := by rfl) (hs2 : starEach [b] X.env = [(false, eval b X.env)] := by rfl) : SI K X tg (.Call (.Name "range" p) [a, b] [] pos) (iRng2 tr) (dIterA iRange2 fr) := ⟨pi_range2 hg hm ha.pe hs hs2, snd_irange2 ha.sn⟩
theorem si_zip {tpos : Pos} {elts : List Expr} {kk : Nat} (hg : Gl X "zip") (hm : X.mg "zip" = none) (ha : SA K X [a, b] tr fr) (hs : starEach [a, b] X.env = (false, eval a X.env) :: starEach [b] X.env := by rfl) (hpl : (backTo pos (starEach [b] X.env)).any (·.1) = false := by rfl) (hK : X.K = K := by rfl) :
    SI K X (.Tuple elts kk tpos) (.Call (.Name "zip" p) [a, b] [] pos) (RZ.iZipA K tr) (dIterA DL.iZip fr) := by
  subst hK
  exact ⟨RZ.pi_zipA hg hm ha.pe hs hpl, snd_izip ha.sn⟩
theorem si_enum {tpos : Pos} {elts : List Expr} {kk : Nat} (hg : Gl X "enumerate") (hm : X.mg "enumerate" = none) (ha : SA K X [a] tr fr) (hs : starEach [a] X.env = [(false, eval a X.env)] := by rfl) (hK : X.K = K := by rfl) :
    SI K X (.Tuple elts kk tpos) (.Call (.Name "enumerate" p) [a] [] pos) (L2.iEnum K tr) (dIterA DL.iEnum fr) := by
  subst hK
  exact ⟨pi_enum hg hm ha.pe hs, snd_ienum ha.sn⟩
/-! targets -/
theorem sg_name (i : Nat) (hN : X.N.Nodup) (hi : X.N[i]? = some x) (hx : Loc X.env.scope x) (hf : X.fn x = true ∨ X.env.scope.names.lookup x = some .local := by first | exact .inl rfl | exact .inr rfl | assumption) : SG K X (.Name x pos) [i] (L2.gName i) (DL.gName i) := ⟨pg_name hN hi hx hf, snd_gname⟩
theorem sgs_nil : SGs K X [] [] L2.gNil DL.gNil := ⟨pgs_nil, snd_gnil⟩
theorem sgs_cons {is js : List Nat} {t : TG} {u : TGs} {dg : DG} {dh : DGs} (h1 : SG K X e is t dg) (h2 : SGs K X es js u dh) (hs : (assignEach (e :: es) X.env).map (·.2) = assign e X.env :: (assignEach es X.env).map (·.2) := by rfl) : SGs K X (e :: es) (is ++ js) (L2.gCons t u) (DL.gCons dg dh) := ⟨pgs_cons h1.pe h2.pe hs, snd_gcons h1.sn h2.sn⟩
theorem sg_tup {is : List Nat} {k : Nat} {t : TGs} {dh : DGs} {n : Nat} (hc : X.calm = true) (h : SGs K X es is t dh) (hn : (assignEach es X.env).length = n := by rfl) (hst : (assignEach es X.env).findIdx? (·.1) = none := by rfl) (hK : X.K = K := by rfl) : SG K X (.Tuple es k pos) is (L2.gTup K n t) (DL.gTup n dh) := by
  subst hK
  exact ⟨pg_tup hc h.pe hn hst, snd_gtup h.sn⟩
/-! comprehensions -/
structure STs (K : PySem.W.Frag) (X : Cx) (es : List Expr) (t : TT) (f : DT) : Prop where
  pe : PTs X es t
  sn : SndT K t f
theorem snd_yes : SndT K tYes dTests := by
  intro H0 M st σ F H b st' Q S e q
  cases e
  exact q F H S .refl trivial
theorem sts_nil : STs K X [] tYes dTests := ⟨pts_nil, snd_yes⟩
theorem sts_one (h : ST K X a t ft) : STs K X [a] t ft := ⟨pts_one h.pe, h.sn⟩
theorem se_lc {elt tgt iter : Expr} {ifs : List Expr} {scope : Scope} {own : List (Str × Nat)} {is vs : List Nat} {wi : TI} {tgr : TG} {tt : TT} {teL : TE} {it : DI} {dg : DG} {dt : DT} {de : DE} (hc : X.calm = true) (hN : X.N.Nodup) (hi : SI K X tgt iter wi it) (ok : BlkOk X.N X.env.scope scope own)
    (hg : ∀ (s : Shared) (H : Hp) (C : Addr) (cl : List (Str × Addr)) (fp : List Addr), SG K (X.blk s H scope (compEnvC scope cl C X.env) fp) tgt is tgr dg) (ht : ∀ (s : Shared) (H : Hp) (C : Addr) (cl : List (Str × Addr)) (fp : List Addr), STs K (X.blk s H scope (compEnvC scope cl C X.env) fp) ifs tt dt)
    (he : ∀ (s : Shared) (H : Hp) (C : Addr) (cl : List (Str × Addr)) (fp : List Addr), SE K (X.blk s H scope (compEnvC scope cl C X.env) fp) elt teL de) (hvs : own.map (·.2) = vs) (hsub : ∀ j ∈ is, j ∈ vs) (hs : ∀ x, foldedSetIterable iter X.env x = pure x := by intro _; rfl) (hK : X.K = K := by rfl) :
    SE K X (.ListComp elt [⟨tgt, iter, ifs, 0⟩] scope pos) (tLc wi tgr tt teL vs) (dLc it dg dt de vs) := by
  subst hK
  subst hvs
  exact
  ⟨pe_lc hc hN hi.pe ok (fun s H C cl fp => (hg s H C cl fp).pe) (fun s H C cl fp => (ht s H C cl fp).pe) (fun s H C cl fp => (he s H C cl fp).pe) hs,
    snd_lc hi.sn (hg {} (fun _ => none) 0 [] []).sn (ht {} (fun _ => none) 0 [] []).sn (he {} (fun _ => none) 0 [] []).sn hsub⟩
/-! statements -/
variable {st : Stmt} {rest : List Stmt} {ts us : TS} {fs gs : DS}
theorem sss_nil : SSs K X [] tNext dNext := ⟨pss_nil, snd_next⟩
theorem sss_cons (h1 : SS K X st ts fs) (h2 : SSs K X rest us gs) : SSs K X (st :: rest) (tSeq ts us) (dSeq fs gs) := ⟨pss_cons h1.pe h2.pe, snd_seq h1.sn h2.sn⟩
theorem sss_one (h1 : SS K X st ts fs) : SSs K X [st] ts fs := ⟨pss_one h1.pe, h1.sn⟩
theorem sss_never {sts : List Stmt} : SSs K X sts tNever dNever := ⟨pss_never, snd_never⟩
theorem ss_never : SS K X st tNever dNever := ⟨ps_never, snd_never⟩
theorem ss_pass : SS K X (.Pass pos) tNext dNext := ⟨ps_pass, snd_next⟩
theorem ss_break : SS K X (.Break pos) tBreak dBreak := ⟨ps_break, snd_break⟩
theorem ss_continue : SS K X (.Continue pos) tCont dCont := ⟨ps_continue, snd_cont⟩
theorem ss_set (i : Nat) {pos' : Pos} (hN : X.N.Nodup) (hi : X.N[i]? = some x) (hx : Loc X.env.scope x) (he : SE K X e te f) (hs : swapsWith e (some (.Name x pos')) pos.line X.env = pure false := by rfl) (hf : X.fn x = true ∨ X.env.scope.names.lookup x = some .local := by first | exact .inl rfl | exact .inr rfl | assumption) :
    SS K X (.Assign [.Name x pos'] e pos) (tAsg te (L2.gName i)) (dSet i f) := ⟨ps_set hN hi hx he.pe hs hf, snd_set he.sn⟩
theorem ss_setLc (i : Nat) {py lpos : Pos} {elt tgt iter : Expr} {ifs : List Expr} {scope : Scope} {own : List (Str × Nat)} {is vs : List Nat} {wi : TI} {tgr : TG} {tt : TT} {teL : TE} {it : DI} {dg : DG} {dt : DT} {de : DE} (hc : X.calm = true) (hN : X.N.Nodup) (hy : X.N[i]? = some x) (hyl : X.env.scope.names.lookup x = some .local)
    (hsw : swapsWith (.ListComp elt [⟨tgt, iter, ifs, 0⟩] scope lpos) (some (.Name x py)) pos.line X.env = pure true) (hi : SI K X tgt iter wi it) (ok : BlkOk X.N X.env.scope scope own)
    (hg : ∀ (s : Shared) (H : Hp) (C : Addr) (cl : List (Str × Addr)) (fp : List Addr), SG K (X.blk s H scope (compEnvC scope cl C X.env) fp) tgt is tgr dg) (ht : ∀ (s : Shared) (H : Hp) (C : Addr) (cl : List (Str × Addr)) (fp : List Addr), STs K (X.blk s H scope (compEnvC scope cl C X.env) fp) ifs tt dt)
    (he : ∀ (s : Shared) (H : Hp) (C : Addr) (cl : List (Str × Addr)) (fp : List Addr), SE K (X.blk s H scope (compEnvC scope cl C X.env) fp) elt teL de) (hvs : own.map (·.2) = vs) (hsub : ∀ j ∈ is, j ∈ vs) (hs : ∀ x, foldedSetIterable iter X.env x = pure x := by intro _; rfl) (hK : X.K = K := by rfl) :
    SS K X (.Assign [.Name x py] (.ListComp elt [⟨tgt, iter, ifs, 0⟩] scope lpos) pos) (tAsg (tLc wi tgr tt teL vs) (L2.gName i)) (dSet i (dLc it dg dt de vs)) := by
  subst hK
  subst hvs
  exact
  ⟨ps_setLc hc hN hy hyl hsw hi.pe ok (fun s H C cl fp => (hg s H C cl fp).pe) (fun s H C cl fp => (ht s H C cl fp).pe) (fun s H C cl fp => (he s H C cl fp).pe) hs,
    snd_set (snd_lc hi.sn (hg {} (fun _ => none) 0 [] []).sn (ht {} (fun _ => none) 0 [] []).sn (he {} (fun _ => none) 0 [] []).sn hsub)⟩
theorem ss_asg {is : List Nat} {tgr : TG} {dg : DG} (he : SE K X e te f) (hg : SG K X tg is tgr dg) (hs : swapsWithSole [tg] e pos.line X.env = pure false := by rfl) (hw : swappedStores [tg] e X.env = pure none := by rfl) (h1 : (assignEach [tg] X.env).map (·.2) = [assign tg X.env] := by rfl) :
    SS K X (.Assign [tg] e pos) (tAsg te tgr) (dAsg dg f) := ⟨ps_asg he.pe hg.pe hs hw h1, snd_asg he.sn hg.sn⟩
theorem ss_par (i j : Nat) {y : Str} {px py pt : Pos} {kt k2 pt2} (hc : X.calm = true) (hN : X.N.Nodup) (hi : X.N[i]? = some x) (hj : X.N[j]? = some y) (hij : i ≠ j) (hx : X.env.scope.names.lookup x = some .local) (hy : X.env.scope.names.lookup y = some .local) (ha : SA K X [a, b] tr fr)
    (hw : swappedStores [.Tuple [.Name x px, .Name y py] kt pt] (.Tuple [a, b] k2 pt2) X.env = pure (some [x, y])) (hs : swapsWithSole [.Tuple [.Name x px, .Name y py] kt pt] (.Tuple [a, b] k2 pt2) pos.line X.env = pure false := by rfl) :
    SS K X (.Assign [.Tuple [.Name x px, .Name y py] kt pt] (.Tuple [a, b] k2 pt2) pos) (tPar i j tr) (dPar [i, j] fr) := ⟨ps_par hc hN hi hj hij hx hy ha.pe hw hs, snd_par2 ha.sn⟩
theorem ss_par3 (i j l : Nat) {y z : Str} {px py pz pt : Pos} {kt k2 pt2} (hc : X.calm = true) (hN : X.N.Nodup) (hi : X.N[i]? = some x) (hj : X.N[j]? = some y) (hl : X.N[l]? = some z) (hij : i ≠ j) (hil : i ≠ l) (hjl : j ≠ l) (hx : X.env.scope.names.lookup x = some .local) (hy : X.env.scope.names.lookup y = some .local) (hz : X.env.scope.names.lookup z = some .local) (ha : SA K X [a, b, c] tr fr)
    (hw : swappedStores [.Tuple [.Name x px, .Name y py, .Name z pz] kt pt] (.Tuple [a, b, c] k2 pt2) X.env = pure (some [x, y, z])) (hs : swapsWithSole [.Tuple [.Name x px, .Name y py, .Name z pz] kt pt] (.Tuple [a, b, c] k2 pt2) pos.line X.env = pure false := by rfl) :
    SS K X (.Assign [.Tuple [.Name x px, .Name y py, .Name z pz] kt pt] (.Tuple [a, b, c] k2 pt2) pos) (tPar3 i j l tr) (dPar [i, j, l] fr) := ⟨ps_par3 hc hN hi hj hl hij hil hjl hx hy hz ha.pe hw hs, snd_par3 ha.sn⟩
theorem ss_augAdd (i : Nat) {pos' : Pos} (hN : X.N.Nodup) (hi : X.N[i]? = some x) (hx : Loc X.env.scope x) (he : SE K X e te f) (hf : X.fn x = true ∨ X.env.scope.names.lookup x = some .local := by first | exact .inl rfl | exact .inr rfl | assumption) : SS K X (.AugAssign (.Name x pos') .Add e pos) (tAug i te (ipI fun i j => i + j)) (dAug opAddI i f) :=
  ⟨ps_aug hN hi hx he.pe ip_add hf, snd_aug prim_addI he.sn⟩
theorem ss_augSub (i : Nat) {pos' : Pos} (hN : X.N.Nodup) (hi : X.N[i]? = some x) (hx : Loc X.env.scope x) (he : SE K X e te f) (hf : X.fn x = true ∨ X.env.scope.names.lookup x = some .local := by first | exact .inl rfl | exact .inr rfl | assumption) : SS K X (.AugAssign (.Name x pos') .Sub e pos) (tAug i te (ipI fun i j => i - j)) (dAug opSub i f) :=
  ⟨ps_aug hN hi hx he.pe ip_sub hf, snd_aug prim_sub he.sn⟩
theorem ss_append (i : Nat) {call : Expr} (hp : PE X e te → PE X call (tBM K "list" rAppend (tVar i) (tCons te tNil))) (he : SE K X e te f) (hs : swapsWith call none pos.line X.env = pure false := by rfl) (hK : X.K = K := by rfl) :
    SS K X (.Expr call pos) (tDrop (tBM K "list" rAppend (tVar i) (tCons te tNil))) (dAppend i f) := by
  subst hK
  exact ⟨ps_expr (hp he.pe) hs, snd_append he.sn⟩
theorem ss_setIx (i : Nat) {p2 : Pos} {o : Expr} (hv : PE X o (tVar i)) (hk : SE K X b tb g) (he : SE K X e te f)
    (ha : ∀ v, assign (.Subscript o b p2) X.env v = (do
      let ov ← holding [v] (eval o X.env)
      let iv ← holding [v, ov] (eval b X.env)
      standAt p2
      holding [v, ov, iv] (setItem ov iv v)
      release [v, ov, iv] []) := by intro _; rfl)
    (hs : swapsWithSole [.Subscript o b p2] e pos.line X.env = pure false := by rfl) (hw : swappedStores [.Subscript o b p2] e X.env = pure none := by rfl) (h1 : (assignEach [.Subscript o b p2] X.env).map (·.2) = [assign (.Subscript o b p2) X.env] := by rfl) (hK : X.K = K := by rfl) :
    SS K X (.Assign [.Subscript o b p2] e pos) (tAsg te (gSub (tVar i) tb rSetL)) (dSetIx i g f) := by
  subst hK
  exact ⟨ps_asg he.pe (pg_sub hv hk.pe set_list ha) hs hw h1, snd_setIx hk.sn he.sn⟩
theorem ss_augIx (i : Nat) {p2 : Pos} {o : Expr} {op : Operator} {tip : TIp} {oo : D → D → Option Rv} (hpr : Prim2 K tip oo) (hp : PIp X op tip) (hv : PE X o (tVar i)) (hk : SE K X b tb g) (he : SE K X e te f) (ha : ∀ ov iv new, augStore b ov iv new = (do holding [new, ov, iv] (setItem ov iv new); release [new, ov, iv] []; pure .next) := by intros; rfl) (hK : X.K = K := by rfl) :
    SS K X (.AugAssign (.Subscript o b p2) op e pos) (tAugS (tVar i) tb te (rIxL K) tip rSetL) (dAugIx oo i g f) := by
  subst hK
  exact ⟨ps_augS hv hk.pe pget_list he.pe hp set_list ha, snd_augIx hpr hk.sn he.sn⟩
theorem ss_drop (he : SE K X e te f) (hs : swapsWith e none pos.line X.env = pure false := by rfl) : SS K X (.Expr e pos) (tDrop te) (dDrop f) := ⟨ps_expr he.pe hs, snd_drop he.sn⟩
theorem ss_ret (he : SE K X e te f) : SS K X (.Return (some e) pos) (tRet te) (dRet f) := ⟨ps_ret he.pe, snd_ret he.sn⟩
theorem ss_retN : SS K X (.Return none pos) tRetN dRetN := ⟨ps_retN, snd_retN⟩
theorem ss_if {s1 s2 : List Stmt} (hc : ST K X c t ft) (h1 : SSs K X s1 ts fs) (h2 : SSs K X s2 us gs) : SS K X (.If c s1 s2 pos) (tIfS t ts us) (dIfS ft fs gs) := ⟨ps_if hc.pe h1.pe h2.pe, snd_ifS hc.sn h1.sn h2.sn⟩
theorem ss_for {is : List Nat} {iter : Expr} {body : List Stmt} {wi : TI} {it : DI} {tgr : TG} {dg : DG} (hp : PassesOwn (model X.prog X.w) X.A X.env X.xe) (hc : X.calm = true) (hi : SI K X tg iter wi it) (hg : SG K X tg is tgr dg) (hb : SSs K X body ts fs) (hs : ∀ x, foldedSetIterable iter X.env x = pure x := by intro _; rfl) :
    SS K X (.For tg iter body [] pos) (tFor wi tgr ts) (dFor it dg fs) := ⟨ps_for hp hc hi.pe hg.pe hb.pe hs, snd_for hi.sn hg.sn hb.sn⟩
theorem ss_while {body : List Stmt} (hp : PassesOwn (model X.prog X.w) X.A X.env X.xe) (hc : ST K X c t ft) (hb : SSs K X body ts fs) : SS K X (.While c body [] pos) (tWhile t ts) (dWhile ft fs) := ⟨ps_while hp hc.pe hb.pe, snd_while hc.sn hb.sn⟩
end
end DL
end

section
set_option Elab.async false
set_option linter.all false
set_option maxRecDepth 100000
set_option maxHeartbeats 1000000
/-! DLmore: further rules: a op b op' c; max; bit_length; tuples' sums and parts; tuple(x); lists lent for one expression. -/
namespace DL
open PySem PySem.Spec PyProof.Rows L2
section
variable {K : PySem.W.Frag}
theorem snd_chain {r r' : R2} {op op' : D → D → Option Rv} {ta tb tc : TE} {f g h : DE} (hp : Prim2 K r op) (hp' : Prim2 K r' op') (a : SndE K ta f) (b : SndE K tb g) (c : SndE K tc h) : SndE K (tChain r r' ta tb tc) (dChain op op' f g h) := by
  intro H0 M st σ F H z st' Q S e q
  obtain ⟨p, e1, e⟩ := bs e
  obtain ⟨w, e2, e⟩ := bs e
  obtain ⟨x, e3, e⟩ := bs e
  obtain ⟨y, e4, e⟩ := bs e
  obtain ⟨u, e5, e⟩ := bs e
  refine a H0 M st σ F H p.1 p.2 _ S e1 fun v F1 H1 S1 E1 f1 r1 => ?_
  refine b H0 M p.2 σ F1 H1 w.1 w.2 _ S1 e2 fun v2 F2 H2 S2 E2 f2 r2 => ?_
  refine hp F2 H2 v v2 x y u _ (look_ok S2 (r1.weak.ext S1 E2 f2) e3) (look_ok S2 r2.weak e4) e5 fun v' H' s n => ?_
  obtain ⟨S3, E3, r3⟩ := fin_new S2 (E1.trans E2) s n
  obtain ⟨_, E3', _⟩ := fin_new S2 Ext.refl s n
  match u, e, n, r3 with
  | .d (.bool false), e, n, r3 =>
    cases e
    have hv : v' = .bl false := by cases n; rfl
    subst hv
    exact ⟨false, rfl, q _ F2 H' S3 E3 (f1.trans f2) (.bl _)⟩
  | .d (.bool true), e, n, r3 =>
    have hv : v' = .bl true := by cases n; rfl
    subst hv
    obtain ⟨w3, e6, e⟩ := bs e
    obtain ⟨y2, e7, e⟩ := bs e
    obtain ⟨u2, e8, e⟩ := bs e
    obtain ⟨z2, e9, e⟩ := bs e
    cases e
    refine ⟨true, rfl, ?_⟩
    refine c H0 M w.2 σ F2 H' w3.1 w3.2 _ S3 e6 fun v3 F4 H4 S4 E4 f4 r4 => ?_
    refine hp' F4 H4 v2 v3 y2 u2 z Q (look_ok S4 ((r2.weak.ext S2 E3' trivial).ext S3 E4 f4) e7) (look_ok S4 r4.weak e8) e9 fun v4 H5 s5 n5 => ?_
    obtain ⟨S5, E5, r5⟩ := fin_new S4 (E3.trans E4) s5 n5
    exact q v4 F4 H5 S5 E5 trivial r5
  | .d .none, e, _, _ => cases e
  | .d (.int _), e, _, _ => cases e
  | .d (.str _), e, _, _ => cases e
  | .d (.list _), e, _, _ => cases e
  | .d (.tuple _), e, _, _ => cases e
  | .d (.dict _), e, _, _ => cases e
  | .tmp _, e, _, _ => cases e
  | .sl _, e, _, _ => cases e
theorem freeze_getD (st : DSt) (i : Nat) : (freeze st).getD i none = fz (st.getD i none) := by
  unfold freeze
  rw [List.getD_eq_getElem?_getD, List.getD_eq_getElem?_getD, List.getElem?_map]
  cases st[i]? with
  | none => rfl
  | some o => rfl
theorem fz_own {o : Option SV} {xs : List D} : fz o ≠ some (.own xs) := by
  rcases o with _ | o
  · exact fun h => by cases h
  · cases o <;> exact fun h => by cases h
theorem fz_lent {o : Option SV} {xs : List D} : fz o ≠ some (.lent xs) := by
  rcases o with _ | o
  · exact fun h => by cases h
  · cases o <;> exact fun h => by cases h
theorem freeze_own {st : DSt} {i : Nat} : ¬ IsOwn (freeze st) i := by
  rintro ⟨xs, h | h⟩
  · rw [freeze_getD] at h
    exact fz_own h
  · rw [freeze_getD] at h
    exact fz_lent h
theorem Sim.freeze {H0 : Hp} {M : Nat → Option Addr} {st : DSt} {σ : L2.St} {F : Addr → Prop} {H : Hp} (S : Sim K H0 M st σ F H) : Sim K (fun _ => none) (fun _ => none) (freeze st) σ (fun a => F a ∨ OwnAt st σ a) H where
  len := by
    unfold DL.freeze
    rw [List.length_map]
    exact S.len
  dat := fun i x h => by
    rw [freeze_getD] at h
    have up : ∀ {a : Addr} {xs : List V}, FL K F H a xs → FL K (fun a => F a ∨ OwnAt st σ a) H a xs := fun {a xs} h => by
      rcases h with ⟨f, h⟩ | h
      · exact .inl ⟨.inl f, h⟩
      · exact .inr h
    cases e : st.getD i none with
    | none => rw [e] at h; cases h
    | some o =>
      rw [e] at h
      cases o with
      | d y =>
        cases h
        obtain ⟨v, h1, h2⟩ := S.dat i x e
        exact ⟨v, h1, h2.mono (fun _ _ => up) fun _ _ z => z⟩
      | own xs =>
        cases h
        obtain ⟨p, vs, h1, h2, h3, _⟩ := S.own i xs e
        exact ⟨.ref p, h1, .lst (.inl ⟨.inr ⟨i, ⟨xs, .inl e⟩, h1⟩, h2⟩) (h3.mono (fun _ _ => up) fun _ _ z => z)⟩
      | lent xs =>
        cases h
        obtain ⟨p, vs, _, h1, h2, h3, _⟩ := S.lent i xs e
        exact ⟨.ref p, h1, .lst (.inl ⟨.inr ⟨i, ⟨xs, .inr e⟩, h1⟩, h2⟩) (h3.mono (fun _ _ => up) fun _ _ z => z)⟩
  own := fun i xs h => absurd ⟨xs, .inl h⟩ freeze_own
  lent := fun i xs h => absurd ⟨xs, .inr h⟩ freeze_own
  lentE := fun _ _ h => by cases h
  lent0 := fun _ _ h => by cases h
  inj := fun i _ _ h => absurd h freeze_own
  frz := fun a h => by
    rcases h with h | h
    · exact S.frz a h
    · exact (S.atOwn h).1
  base := fun _ _ h => by cases h
theorem freeze_same {st : DSt} {σ : L2.St} {F F' : Addr → Prop} {H H' : Hp} {st' : DSt} (E : Ext (freeze st) σ F H st' F' H') : Same H H' := fun b u h => E.keep b u h fun ⟨i, o, _⟩ => freeze_own o
theorem snd_borrow {t : TE} {f : DE} (a : SndE K t f) : SndE K t (dBorrow f) := by
  intro H0 M st σ F H r st' Q S e q
  obtain ⟨p, e1, e⟩ := bs e
  refine a _ _ (freeze st) σ _ H p.1 p.2 _ S.freeze e1 fun v F' H' S' E' f' r' => ?_
  have s := freeze_same E'
  rcases p with ⟨pr, ps⟩
  cases pr with
  | d x =>
    have e : (if atomD x = true then some (Rv.d x, st) else none) = some (r, st') := e
    by_cases c : atomD x = true
    · rw [if_pos c] at e
      cases e
      refine q v F H' (S.grow s) (.grow s) trivial ?_
      have r2 : Rp K F' H' v x := r'
      show Rp K F H' v x
      cases r2 with
      | non => exact .non
      | bl b => exact .bl b
      | int i => exact .int i
      | str z => exact .str z
      | lst _ _ => cases c
      | tup _ _ => cases c
      | dic _ => cases c
    · rw [if_neg c] at e
      cases e
  | tmp _ => cases e
  | sl _ => cases e
theorem snd_borrowT {t : TT} {f : DT} (a : SndT K t f) : SndT K t (dBorrowT f) := by
  intro H0 M st σ F H r st' Q S e q
  obtain ⟨p, e1, e⟩ := bs e
  cases e
  refine a _ _ (freeze st) σ _ H p.1 p.2 _ S.freeze e1 fun F' H' S' E' f' => ?_
  have s := freeze_same E'
  exact q F H' (S.grow s) (.grow s) trivial
def rMaxI : List V → Hp → VK → Prop := fun xs H Q => ∃ i j : Int, xs = [.int i, .int j] ∧ Q (.int (if j > i then j else i)) H
theorem call_maxI {X : Cx} (hc : X.calm = true) : CallR X (.builtin "max") rMaxI := call_max2 hc
theorem prim_max2 : PrimN K rMaxI bMax2 := by
  intro F H vs xs z Q a e q
  match xs, a, e with
  | [.int i, .int j], .cons a (.cons b .nil), e =>
    cases e
    have h1 := a.int
    have h2 := b.int
    subst h1 h2
    exact ⟨i, j, rfl, q _ H Same.rfl' (.int _)⟩
theorem snd_bits {t : TE} {f : DE} (a : SndE K t f) : SndE K (tBits t) (dOp1 opBits f) := by
  refine snd_op1 (r := fun x H1 Q => ∃ i, x = .int i ∧ Q (.int (Builtin.Int.intBits i : Nat)) H1) ?_ a
  intro F H v x z Q a e q
  cases x <;> try (cases e; done)
  cases e
  exact ⟨_, a.int, q _ H Same.rfl' (.int _)⟩
theorem prim_addT : Prim2 K (rCatA K) opAddT := by
  intro F H v w x y z Q a b e q
  cases x <;> cases y <;> try (cases e; done)
  rename_i i j
  have e : (if i.length + j.length ≤ sizeLine then some (Rv.d (.tuple (i ++ j))) else none) = some z := e
  by_cases c : i.length + j.length ≤ sizeLine
  · rw [if_pos c] at e
    cases e
    obtain ⟨p, vs, rfl, h1, r1⟩ := a.tup
    obtain ⟨p2, vs2, rfl, h2, r2⟩ := b.tup
    refine ⟨p, p2, vs, vs2, rfl, rfl, h1, h2, by rw [r1.length, r2.length]; exact c, fun hz => ?_, fun h0 hz => ?_, fun _ _ p hp => ?_⟩
    · subst hz
      cases r1
      exact q _ H Same.rfl' (.tup h2 r2)
    · subst hz
      cases r2
      refine q _ H Same.rfl' ?_
      show Rp K F H _ (.tuple (i ++ []))
      rw [List.append_nil]
      exact .tup h1 r1
    · exact q _ _ (same_upd hp) (.tup (SqT.of upd_same) ((r1.append r2).grow (same_upd hp)))
  · rw [if_neg c] at e
    cases e
theorem cutV_whole {xs : List V} {lo hi : Option Int} (h : HT.sIx xs.length 0 lo = 0 ∧ HT.sIx xs.length xs.length hi = xs.length) : cutV xs lo hi = xs := by
  unfold cutV
  rw [h.1, h.2]
  simp
theorem prim_sliceT : PrimS K (rSlA K) opSliceT := by
  intro F H v x lo hi z Q a e q
  cases x <;> try (cases e; done)
  rename_i ys
  cases e
  obtain ⟨p, vs, rfl, h1, r1⟩ := a.tup
  have r2 : RpAll K F H (cutV vs lo hi) (cutD ys lo hi) := by
    unfold cutV cutD
    rw [r1.length]
    exact (r1.drop _).take _
  refine ⟨p, vs, rfl, h1, fun hw => ?_, fun hw p hp => ?_⟩
  · rw [cutV_whole hw] at r2
    exact q _ H Same.rfl' (.tup h1 r2)
  · exact q _ _ (same_upd hp) (.tup (SqT.of upd_same) (r2.grow (same_upd hp)))
def CPowW (i j : Int) : Prop := 0 ≤ j ∧ (Builtin.Int.intBits i : Int) * j ≤ 2 ^ 27
theorem op_powW {X : Cx} : OpR X (binaryOp .Pow) (rI CPowW fun i j => .int (i ^ j.toNat)) := opI fun _ _ _ _ _ _ _ hc q => pow_int hc.1 hc.2 q
theorem prim_powW : Prim2 K (rI CPowW fun i j => .int (i ^ j.toNat)) opPowW := by
  intro F H v w x y z Q a b e q
  cases x <;> cases y <;> try (cases e; done)
  rename_i i j
  have e : (if 0 ≤ j ∧ (Builtin.Int.intBits i : Int) * j ≤ 2 ^ 27 then some (Rv.d (.int (i ^ j.toNat))) else none) = some z := e
  by_cases c : 0 ≤ j ∧ (Builtin.Int.intBits i : Int) * j ≤ 2 ^ 27
  · rw [if_pos c] at e
    cases e
    exact ⟨_, _, a.int, b.int, c, q _ H Same.rfl' (.int _)⟩
  · rw [if_neg c] at e
    cases e
def tIfT (t u w : TT) : TT := fun σ H Q => t σ H fun d H1 => if d = true then u σ H1 Q else w σ H1 Q
theorem pt_ifExp {X : Cx} {c a b : Expr} {pos : Pos} {t u w : TT} (hc : PT X c t) (ha : PT X a u) (hb : PT X b w) : PT X (.IfExp c a b pos) (tIfT t u w) := by
  refine ⟨fun pins s σ H Q I h => ?_⟩
  refine PyProof.Rows.isTrue_IfExp (thn (hc.run pins s σ H _ I h) fun d s1 ⟨H1, I1, q1⟩ => ?_)
  cases d with
  | true => exact ha.run pins s1 σ H1 Q I1 q1
  | false => exact hb.run pins s1 σ H1 Q I1 q1
theorem snd_ifT {t u w : TT} {c f g : DT} (a : SndT K t c) (b : SndT K u f) (d : SndT K w g) : SndT K (tIfT t u w) (dIfT c f g) := by
  intro H0 M st σ F H k st' Q S e q
  obtain ⟨p, e1, e⟩ := bs e
  refine a H0 M st σ F H p.1 p.2 _ S e1 fun F1 H1 S1 E1 f1 => ?_
  by_cases h : p.1 = true
  · rw [if_pos h] at e
    rw [if_pos h]
    exact b H0 M p.2 σ F1 H1 k st' _ S1 e fun F2 H2 S2 E2 f2 => q F2 H2 S2 (E1.trans E2) (f1.trans f2)
  · rw [if_neg h] at e
    rw [if_neg h]
    exact d H0 M p.2 σ F1 H1 k st' _ S1 e fun F2 H2 S2 E2 f2 => q F2 H2 S2 (E1.trans E2) (f1.trans f2)
theorem snd_asgO {i j : Nat} (hij : i ≠ j) {ta tb : TE} {f g : DE} (a : SndE K ta f) (b : SndE K tb g) :
    SndS K (tAsg (tTup (tCons ta (tCons tb tNil))) (L2.gTup K 2 (L2.gCons (L2.gName i) (L2.gCons (L2.gName j) L2.gNil)))) (dAsgO i j f g) := by
  intro H0 M st σ F H fl st' E S e q
  obtain ⟨p, e1, e⟩ := bs e
  obtain ⟨w, e2, e⟩ := bs e
  refine a H0 M st σ F H p.1 p.2 _ S e1 fun v1 F1 H1 S1 E1 f1 r1 => ?_
  refine b H0 M p.2 σ F1 H1 w.1 w.2 _ S1 e2 fun v2 F2 H2 S2 E2 f2 r2 => ?_
  refine ⟨by rw [sizeLine_eq]; simp, fun T hT => ⟨T, [v1, v2], rfl, SqT.of upd_same, rfl, v1, [v2], rfl, v2, [], rfl, ?_⟩⟩
  have same := same_upd (o := HO.tup [v1, v2]) hT
  rcases p with ⟨p1, ps⟩
  rcases w with ⟨w1, ws⟩
  match p1, w1, e, r1, r2 with
  | .d x, .tmp ys, e, r1, r2 =>
    have e : ((setS ws j (.own ys)).bind fun s => (setS s i (.d x)).bind fun s' => some (Fl.nx, s')) = some (fl, st') := e
    obtain ⟨s, e3, e⟩ := bs e
    obtain ⟨s2, e4, e⟩ := bs e
    cases e
    obtain ⟨hj, nl, rfl⟩ := setS_ok e3
    obtain ⟨hi, nl2, rfl⟩ := setS_ok e4
    obtain ⟨pa, vs, rfl, hb, hc, nf, no, h0⟩ := r2
    have S3 := S2.grow same
    have S4 := S3.setOwn hj nl (same _ _ hb) (hc.grow same) nf no (S1.fresh0 h0)
    have rp : Rp K F2 H2 v1 x := E2.rp S1 r1
    have S5 := S4.setD hi nl2 (rp.grow same)
    have E3 : Ext st σ F H ws F2 _ := (E1.trans E2).trans (.grow same)
    have := q _ F2 _ S5 (E3.fext S S3)
    rw [List.set_comm _ _ (Ne.symm hij)] at this
    exact ⟨rfl, this⟩
  | .tmp _, _, e, _, _ => cases e
  | .sl _, _, e, _, _ => cases e
  | .d _, .d _, e, _, _ => cases e
  | .d _, .sl _, e, _, _ => cases e
def rTupleC (K : PySem.W.Frag) : List V → Hp → VK → Prop := fun vs H Q => ∃ x, vs = [x] ∧ kTup K x H Q
theorem call_tupleC {X : Cx} : CallR X (.type "tuple") (rTupleC X.K) := by
  intro pins s σ H xs us Q I r h
  obtain ⟨x, rfl, q⟩ := h
  cases r with
  | cons r rr =>
    cases rr
    exact rl_tuple pins s σ H x _ Q I r q
theorem prim_tuple : PrimN K (rTupleC K) bTuple := by
  intro F H vs xs z Q a e q
  match xs, a, e with
  | [.list ys], .cons a .nil, e =>
    cases e
    obtain ⟨p, vs, rfl, h1, r1⟩ := a.list
    exact ⟨_, rfl, .inl ⟨p, vs, rfl, h1, fun p hp => q _ _ (same_upd hp) (.tup (SqT.of upd_same) (r1.grow (same_upd hp)))⟩⟩
  | [.tuple ys], .cons a .nil, e =>
    cases e
    obtain ⟨p, vs, rfl, h1, r1⟩ := a.tup
    exact ⟨_, rfl, .inr ⟨p, vs, rfl, h1, q _ H Same.rfl' (.tup h1 r1)⟩⟩
theorem snd_dict0 : SndE K tDNewK dDict0 := by
  intro H0 M st σ F H r st' Q S e q
  cases e
  intro p hp
  have same := same_upd (o := HO.dK []) hp
  exact q (.ref p) F _ (S.grow same) (.grow same) trivial (show Rp K F _ (.ref p) (.dict []) from .dic upd_same)
theorem maxOf_ok : ∀ {is : List Int} {m : Int}, maxOf is = some m → m ∈ is ∧ ∀ y ∈ is, y ≤ m
  | [], m, h => by cases h
  | x :: r, m, h => by
    unfold maxOf at h
    cases e : maxOf r with
    | none =>
      rw [e] at h
      cases h
      cases r with
      | nil => simp
      | cons a b => unfold maxOf at e; cases e
    | some k =>
      rw [e] at h
      obtain ⟨h1, h2⟩ := maxOf_ok e
      have h : (if x > k then x else k) = m := Option.some.inj h
      by_cases c : x > k
      · rw [if_pos c] at h
        subst h
        refine ⟨by simp, fun y hy => ?_⟩
        rcases List.mem_cons.mp hy with rfl | hy
        · omega
        · have := h2 y hy
          omega
      · rw [if_neg c] at h
        subst h
        refine ⟨by simp [h1], fun y hy => ?_⟩
        rcases List.mem_cons.mp hy with rfl | hy
        · omega
        · exact h2 y hy
theorem minOf_ok : ∀ {is : List Int} {m : Int}, minOf is = some m → m ∈ is ∧ ∀ y ∈ is, m ≤ y
  | [], m, h => by cases h
  | x :: r, m, h => by
    unfold minOf at h
    cases e : minOf r with
    | none =>
      rw [e] at h
      cases h
      cases r with
      | nil => simp
      | cons a b => unfold minOf at e; cases e
    | some k =>
      rw [e] at h
      obtain ⟨h1, h2⟩ := minOf_ok e
      have h : (if x < k then x else k) = m := Option.some.inj h
      by_cases c : x < k
      · rw [if_pos c] at h
        subst h
        refine ⟨by simp, fun y hy => ?_⟩
        rcases List.mem_cons.mp hy with rfl | hy
        · omega
        · have := h2 y hy
          omega
      · rw [if_neg c] at h
        subst h
        refine ⟨by simp [h1], fun y hy => ?_⟩
        rcases List.mem_cons.mp hy with rfl | hy
        · omega
        · exact h2 y hy
theorem prim_maxL : PrimN K (rMax K) bMaxL := by
  intro F H vs xs z Q a e q
  match xs, a, e with
  | [.list ys], a, e =>
    obtain ⟨is, e1, e⟩ := bs e
    obtain ⟨m, e2, e⟩ := bs e
    cases e
    obtain ⟨v, rfl, a'⟩ := a.one
    obtain ⟨p, ws, rfl, h1, r1⟩ := a'.list
    obtain ⟨m1, m2⟩ := maxOf_ok e2
    rw [ints_ok r1 e1] at h1
    refine ⟨p, is, rfl, h1, List.length_pos_of_mem m1, fun k k1 k2 => ?_⟩
    have : k = m := by
      have := k2 m m1
      have := m2 k k1
      omega
    subst this
    exact q _ H Same.rfl' (.int _)
theorem prim_minL : PrimN K (rMin K) bMinL := by
  intro F H vs xs z Q a e q
  match xs, a, e with
  | [.list ys], a, e =>
    obtain ⟨is, e1, e⟩ := bs e
    obtain ⟨m, e2, e⟩ := bs e
    cases e
    obtain ⟨v, rfl, a'⟩ := a.one
    obtain ⟨p, ws, rfl, h1, r1⟩ := a'.list
    obtain ⟨m1, m2⟩ := minOf_ok e2
    rw [ints_ok r1 e1] at h1
    refine ⟨p, is, rfl, h1, List.length_pos_of_mem m1, fun k k1 k2 => ?_⟩
    have : k = m := by
      have := k2 m m1
      have := m2 k k1
      omega
    subst this
    exact q _ H Same.rfl' (.int _)
theorem lentP_one {p : Addr} {xs : List D} {vs : List V} {as : List D} {i : Nat} {q : Addr} (h : lentP (.ref p :: vs) (Ar.m xs :: as.map Ar.d) i = some q) : i = 0 ∧ q = p := by
  cases i with
  | zero => cases h; exact ⟨rfl, rfl⟩
  | succ i =>
    have h : lentP vs (as.map Ar.d) i = some q := h
    rw [lentP_d] at h
    cases h
/-- f(e, ..), the first argument a new list that is lent -/
theorem snd_callT {g : Fn} {n l : Nat} {dvs : List V} {more : List PyData} {E : XK} {te : TE} {t : TA} {f : DE} {h : DA} (hd : ∀ (F : Addr → Prop) (H : Hp), RpAll K F H dvs more) (hn : n + 1 + more.length = l) (a : SndE K te f) (b : SndA K t h) :
    SndE K (tCall (spD K l g) dvs E (tCons te t)) (dCallT g n more f h) := by
  intro H0 M st σ F H r st' Q S e q
  obtain ⟨⟨p0, s1⟩, e1, e⟩ := bs e
  match p0, e1, e with
  | .tmp xs, e1, e =>
    obtain ⟨⟨rs, s2⟩, e2, e⟩ := bs e
    obtain ⟨⟨ds, s3⟩, e3, e⟩ := bs e
    refine a H0 M st σ F H (.tmp xs) s1 _ S e1 fun v F1 H1 S1 E1 f1 r1 => ?_
    refine b H0 M s1 σ F1 H1 rs s2 _ S1 e2 fun vs F2 H2 S2 E2 f2 r2 => ?_
    by_cases c : rs.length = n
    · rw [if_pos c] at e
      obtain ⟨⟨rt, outs⟩, e4, e⟩ := bs e
      cases e
      obtain ⟨p, ws, rfl, hp, hr, nf, no, h0⟩ := r1
      obtain ⟨F3, S3, E3, rr, _⟩ := toDs_ok S2 E2 r2 e3
      have nf3 : ¬ F3 p := fun z => by
        rcases E3.new p z with z | z | z
        · exact nf z
        · rw [hp] at z; cases z
        · exact no z
      have hp3 : H2 p = some (.lst ws) := E3.keep _ _ hp no
      have hr3 : RpAll K F3 H2 ws xs := E3.rpAll S1 hr
      have no3 : ¬ OwnAt s3 σ p := fun z => no (z.imp E3.own)
      have h00 : H0 p = none := S.fresh0 h0
      refine ⟨F3, .m xs :: (ds ++ more).map Ar.d, rt, outs, ?_, .cons ⟨p, ws, rfl, hp3, hr3, nf3⟩ (arD (rr.append (hd F3 H2))), S3.frz, fun i j p1 h h' => by rw [(lentP_one h).1, (lentP_one h').1], e4, fun v F' H' g1 g2 g3 g4 g5 g6 g7 g8 g9 => ?_⟩
      · have l1 : vs.length = n := by rw [← r2.length]; exact c
        show (V.ref p :: (vs ++ dvs)).length = l
        rw [List.length_cons, List.length_append, l1, ← constD hd]
        omega
      have keep : ∀ b u, H2 b = some u → b ≠ p → H' b = some u := fun b u hb ne => g4 b u hb fun i z => ne (lentP_one z).2
      obtain ⟨so, _, o2⟩ := g6
      obtain ⟨zs, us, _, hp', _⟩ := o2 0 p rfl
      have notp : ∀ {q}, OwnAt s3 σ q → q ≠ p := fun {q} o z => no3 (z ▸ o)
      have S4 : Sim K H0 M s3 σ F' H' := by
        refine ⟨S3.len, fun j x h => ?_, fun j x h => ?_, fun j x h => ?_, S3.lentE, S3.lent0, S3.inj, g3, fun b u h n => ?_⟩
        · obtain ⟨w, a1, a2⟩ := S3.dat j x h
          exact ⟨w, a1, a2.mono g7 g8⟩
        · obtain ⟨p1, w1, a1, a2, a3, a4, a5⟩ := S3.own j x h
          have ne := notp ⟨j, ⟨x, .inl h⟩, a1⟩
          refine ⟨p1, w1, a1, keep _ _ a2 ne, a3.mono g7 g8, fun z => ?_, a5⟩
          rcases g2 _ z with z | z
          · exact a4 z
          · rw [a2] at z; cases z
        · obtain ⟨p1, w1, m, a1, a2, a3, a4⟩ := S3.lent j x h
          have ne := notp ⟨j, ⟨x, .inr h⟩, a1⟩
          refine ⟨p1, w1, m, a1, keep _ _ a2 ne, a3.mono g7 g8, fun z => ?_⟩
          rcases g2 _ z with z | z
          · exact a4 z
          · rw [a2] at z; cases z
        · refine keep _ _ (S3.base b u h n) fun z => ?_
          subst z
          rw [h00] at h
          cases h
      have E5 := E1.trans E3
      have E4 : Ext st σ F H s3 F' H' := by
        refine ⟨fun a h => g1 a (E5.sub a h), fun a h => ?_, fun b u h n => ?_, fun b h => ?_, E5.own⟩
        · rcases g2 a h with z | z
          · exact E5.new a z
          · refine .inr (.inl (Classical.byContradiction fun y => E5.live a y z))
        · refine keep b u (E5.keep b u h n) fun z => ?_
          subst z
          rw [h0] at h
          cases h
        · by_cases z : b = p
          · subst z
            rw [hp']
            exact fun z => by cases z
          · cases y : H2 b with
            | none => exact absurd y (E5.live b h)
            | some u =>
              rw [keep b u y z]
              exact fun z => by cases z
      refine q v F' H' S4 E4 trivial ?_
      cases rt with
      | d x => exact g9
      | own xs =>
        obtain ⟨p1, w1, a1, a2, a3, a4, a5⟩ := g9
        refine ⟨p1, w1, a1, a2, a3, a4, fun z => ?_, Classical.byContradiction fun z => E5.live p1 z a5⟩
        obtain ⟨⟨ys, h⟩, _⟩ := S3.atOwn z
        rw [a5] at h
        cases h
    · rw [if_neg c] at e
      cases e
  | .d _, _, e => cases e
  | .sl _, _, e => cases e
/-- ys, x = e, e2 and ys, x, y = e, e2, e3: ys becomes one's own -/
theorem parS_core {i : Nat} {is : List Nat} {te : TE} {t : TA} {f : DE} {h : DA} (a : SndE K te f) (b : SndA K t h) {H0 : Hp} {M : Nat → Option Addr} {st : DSt} {σ : L2.St} {F : Addr → Prop} {H : Hp} {fl : Fl} {st' : DSt} {E : Ends} (S : Sim K H0 M st σ F H) (e : dParS i is f h st = some (fl, st')) (q : FlOk K H0 M F H st' E fl)
    {R : List V → Hp → Prop} (fin : ∀ v vs σ' H', vs.length = is.length → σ' = (is.zip vs).foldl (fun s x => s.set x.1 (some x.2)) (σ.set i (some v)) → E.nx σ' H' → R (v :: vs) H') : tCons te t σ H R := by
  obtain ⟨⟨p0, s1⟩, e1, e⟩ := bs e
  match p0, e1, e with
  | .tmp xs, e1, e =>
    obtain ⟨⟨rs, s2⟩, e2, e⟩ := bs e
    obtain ⟨⟨ds, s3⟩, e3, e⟩ := bs e
    obtain ⟨s4, e4, e⟩ := bs e
    obtain ⟨s5, e5, e⟩ := bs e
    cases e
    refine a H0 M st σ F H (.tmp xs) s1 _ S e1 fun v F1 H1 S1 E1 f1 r1 => ?_
    refine b H0 M s1 σ F1 H1 rs s2 _ S1 e2 fun vs F2 H2 S2 E2 f2 r2 => ?_
    obtain ⟨p, ws, rfl, hp, hr, nf, no, h0⟩ := r1
    obtain ⟨F3, S3, E3, rr, _⟩ := toDs_ok S2 E2 r2 e3
    have nf3 : ¬ F3 p := fun z => by
      rcases E3.new p z with z | z | z
      · exact nf z
      · rw [hp] at z; cases z
      · exact no z
    have no3 : ¬ OwnAt s3 σ p := fun z => no (z.imp E3.own)
    obtain ⟨hi, nl, rfl⟩ := setS_ok e4
    have S4 := S3.setOwn hi nl (E3.keep _ _ hp no) (E3.rpAll S1 hr) nf3 no3 (S.fresh0 h0)
    have fe := (E1.trans E3).fext S S3
    have go : ∀ (js : List Nat) (us : List V) (ys : List D) (sa : DSt) (σa : L2.St), RpAll K F3 H2 us ys → Sim K H0 M sa σa F3 H2 → dPar.parGo js ys sa = some st' → us.length = js.length ∧ Sim K H0 M st' ((js.zip us).foldl (fun s x => s.set x.1 (some x.2)) σa) F3 H2 := by
      intro js
      induction js with
      | nil =>
        intro us ys sa σa r s e
        cases r with
        | nil => cases e; exact ⟨rfl, s⟩
        | cons _ _ => cases e
      | cons j js ih =>
        intro us ys sa σa r s e
        cases r with
        | nil => cases e
        | cons r1 r2 =>
          obtain ⟨sb, e6, e7⟩ := bs e
          obtain ⟨hj, nl2, rfl⟩ := setS_ok e6
          obtain ⟨l, z⟩ := ih _ _ _ _ r2 (s.setD hj nl2 r1) e7
          exact ⟨congrArg (· + 1) l, z⟩
    obtain ⟨l, S5⟩ := go is vs ds _ _ rr S4 e5
    exact fin _ _ _ _ l rfl (q _ F3 H2 S5 fe)
  | .d _, _, e => cases e
  | .sl _, _, e => cases e
theorem snd_parS2 {i j : Nat} {te : TE} {t : TA} {f : DE} {h : DA} (a : SndE K te f) (b : SndA K t h) : SndS K (tPar i j (tCons te t)) (dParS i [j] f h) := by
  intro H0 M st σ F H fl st' E S e q
  have hfl : fl = .nx := by
    obtain ⟨⟨p0, s1⟩, e1, e⟩ := bs e
    match p0, e1, e with
    | .tmp xs, e1, e =>
      obtain ⟨_, _, e⟩ := bs e
      obtain ⟨_, _, e⟩ := bs e
      obtain ⟨_, _, e⟩ := bs e
      obtain ⟨_, _, e⟩ := bs e
      cases e
      rfl
    | .d _, _, e => cases e
    | .sl _, _, e => cases e
  subst hfl
  refine parS_core a b S e q fun v vs σ' H' l es z => ?_
  match vs, l, es with
  | [w], _, es =>
    subst es
    exact ⟨v, w, rfl, z⟩
theorem snd_parS3 {i j k : Nat} {te : TE} {t : TA} {f : DE} {h : DA} (a : SndE K te f) (b : SndA K t h) : SndS K (tPar3 i j k (tCons te t)) (dParS i [j, k] f h) := by
  intro H0 M st σ F H fl st' E S e q
  have hfl : fl = .nx := by
    obtain ⟨⟨p0, s1⟩, e1, e⟩ := bs e
    match p0, e1, e with
    | .tmp xs, e1, e =>
      obtain ⟨_, _, e⟩ := bs e
      obtain ⟨_, _, e⟩ := bs e
      obtain ⟨_, _, e⟩ := bs e
      obtain ⟨_, _, e⟩ := bs e
      cases e
      rfl
    | .d _, _, e => cases e
    | .sl _, _, e => cases e
  subst hfl
  refine parS_core a b S e q fun v vs σ' H' l es z => ?_
  match vs, l, es with
  | [w, u], _, es =>
    subst es
    exact ⟨v, w, u, rfl, z⟩
end
/-! rules -/
section
variable {K : PySem.W.Frag} {X : Cx} {a b c e o : Expr} {es : List Expr} {ta tb tc : TE} {f g h : DE} {pos p apos : Pos} {x : Str}
theorem se_chain {op op' : CmpOp} {r r' : R2} {o o' : D → D → Option Rv} (hp : Prim2 K r o) (ho : OpR X (compareOp op) r) (hp' : Prim2 K r' o') (ho' : OpR X (compareOp op') r') (ha : SE K X a ta f) (hb : SE K X b tb g) (hc : SE K X c tc h)
    (hm : lastMarks [op, op'] [b, c] = false := by with_unfolding_all rfl) : SE K X (.Compare a [op, op'] [b, c] pos) (tChain r r' ta tb tc) (dChain o o' f g h) := ⟨pe_chain ho ho' ha.pe hb.pe hc.pe hm, snd_chain hp hp' ha.sn hb.sn hc.sn⟩
theorem st_chain {op op' : CmpOp} {r r' : R2} {o o' : D → D → Option Rv} (hp : Prim2 K r o) (ho : OpR X (compareOp op) r) (hp' : Prim2 K r' o') (ho' : OpR X (compareOp op') r') (ha : SE K X a ta f) (hb : SE K X b tb g) (hc : SE K X c tc h)
    (hm : lastMarks [op, op'] [b, c] = false := by with_unfolding_all rfl) : ST K X (.Compare a [op, op'] [b, c] pos) (tTest (tChain r r' ta tb tc)) (dTest (dChain o o' f g h)) := ⟨pt_chain ho ho' ha.pe hb.pe hc.pe hm, snd_testC (snd_chain hp hp' ha.sn hb.sn hc.sn)⟩
theorem se_powW (ha : SE K X a ta f) (hb : SE K X b tb g) : SE K X (.BinOp a .Pow b pos) (tOp (rI CPowW fun i j => .int (i ^ j.toNat)) ta tb) (dOp2 opPowW f g) := se_op prim_powW op_powW ha hb
theorem st_if {t u w : TT} {dt du dw : DT} (hc : ST K X c t dt) (ha : ST K X a u du) (hb : ST K X b w dw) : ST K X (.IfExp c a b pos) (tIfT t u w) (dIfT dt du dw) := ⟨pt_ifExp hc.pe ha.pe hb.pe, snd_ifT hc.sn ha.sn hb.sn⟩
theorem se_borrow (ha : SE K X a ta f) : SE K X a ta (dBorrow f) := ⟨ha.pe, snd_borrow ha.sn⟩
theorem st_borrow {t : TT} {ft : DT} (ha : ST K X a t ft) : ST K X a t (dBorrowT ft) := ⟨ha.pe, snd_borrowT ha.sn⟩
theorem se_bits (ha : SE K X o ta f) (hbase : attributeBase o "bit_length" X.env (eval o X.env) = eval o X.env := by rfl) (hline : (apos.endLine == pos.line) = true := by rfl) : SE K X (.Call (.Attribute o "bit_length" apos) [] [] pos) (tBits ta) (dOp1 opBits f) := ⟨pe_bits ha.pe hbase hline, snd_bits ha.sn⟩
theorem se_addT (ha : SE K X a ta f) (hb : SE K X b tb g) (hK : X.K = K := by rfl) : SE K X (.BinOp a .Add b pos) (tOp (rCatA K) ta tb) (dOp2 opAddT f g) := by
  subst hK
  exact se_op prim_addT op_catA ha hb
theorem se_sliceT {lo hi : Option Expr} {p2 : Pos} {tl th : TO} {fl fh : DO} (ha : SE K X a ta f) (hl : SO K X lo tl fl) (hh : SO K X hi th fh) (hK : X.K = K := by rfl) : SE K X (.Subscript a (.Slice lo hi none p2) pos) (tSl (rSlA K) ta tl th) (dSlice opSliceT f fl fh) := by
  subst hK
  exact ⟨pe_slice sl_tupA ha.pe hl.pe hh.pe, snd_slice prim_sliceT ha.sn hl.sn hh.sn⟩
theorem ss_asgO {i j k2 : Nat} {tg : Expr} {pt2 : Pos} {dv : DE} {is : List Nat} {dg : DG} (hij : i ≠ j) (ha : SE K X a ta f) (hb : SE K X b tb g) (he : SE K X (.Tuple [a, b] k2 pt2) (tTup (tCons ta (tCons tb tNil))) dv) (hg : SG K X tg is (L2.gTup K 2 (L2.gCons (L2.gName i) (L2.gCons (L2.gName j) L2.gNil))) dg)
    (hs : swapsWithSole [tg] (.Tuple [a, b] k2 pt2) pos.line X.env = pure false := by rfl) (hw : swappedStores [tg] (.Tuple [a, b] k2 pt2) X.env = pure none := by rfl) (h1 : (assignEach [tg] X.env).map (·.2) = [assign tg X.env] := by rfl) :
    SS K X (.Assign [tg] (.Tuple [a, b] k2 pt2) pos) (tAsg (tTup (tCons ta (tCons tb tNil))) (L2.gTup K 2 (L2.gCons (L2.gName i) (L2.gCons (L2.gName j) L2.gNil)))) (dAsgO i j f g) := ⟨ps_asg he.pe hg.pe hs hw h1, snd_asgO hij ha.sn hb.sn⟩
theorem se_dict0 : SE K X (.Dict [] [] pos) tDNewK dDict0 := ⟨pe_dnewK, snd_dict0⟩
theorem se_callT {lv n l : Nat} {fa : Addr} {fd : FuncData} {ps : List Str} {G : Fn} {ds : List Value} {dvs : List V} {more : List PyData} {tr : TA} {fr : DA} (F : FnG X.prog X.w X.K X.mg X.base CX0 lv fa fd ps (spD K l G)) (hr : Room lv X.A) (gd : X.A.guards = some []) (hg : Gl X x) (hm : X.mg x = some (.ref fa)) (kp : PySem.W.keepIn X.K (.ref fa) = true) (hb : Binds X.K fd ps ds) (hd : Vals dvs ds)
    (hdd : ∀ (F : Addr → Prop) (H : Hp), RpAll K F H dvs more) (hn : n + 1 + more.length = l) (ha : SE K X e ta f) (hes : SA K X es tr fr) (h1 : (x == ("__debug__" : Str)) = false := by decide) (h2 : starEach (e :: es) X.env = (false, eval e X.env) :: starEach es X.env := by rfl) (h3 : (backTo pos (starEach es X.env)).any (·.1) = false := by rfl) (hK : X.K = K := by rfl) :
    SE K X (.Call (.Name x p) (e :: es) [] pos) (tCall (spD K l G) dvs E0 (tCons ta tr)) (dCallT G n more f fr) := by
  subst hK
  exact ⟨pe_callG F hr gd hg hm kp hb hd pass0 (sa_cons ha hes h2).pe h1 h2 h3, snd_callT hdd hn ha.sn hes.sn⟩
theorem ss_parS2 (i j : Nat) {y : Str} {px py pt : Pos} {kt k2 pt2} {tr : TA} {fr : DA} (hc : X.calm = true) (hN : X.N.Nodup) (hi : X.N[i]? = some x) (hj : X.N[j]? = some y) (hij : i ≠ j) (hx : X.env.scope.names.lookup x = some .local) (hy : X.env.scope.names.lookup y = some .local) (ha : SE K X a ta f) (hb : SA K X [b] tr fr)
    (hw : swappedStores [.Tuple [.Name x px, .Name y py] kt pt] (.Tuple [a, b] k2 pt2) X.env = pure (some [x, y])) (h2 : starEach (a :: [b]) X.env = (false, eval a X.env) :: starEach [b] X.env := by rfl) (hs : swapsWithSole [.Tuple [.Name x px, .Name y py] kt pt] (.Tuple [a, b] k2 pt2) pos.line X.env = pure false := by rfl) :
    SS K X (.Assign [.Tuple [.Name x px, .Name y py] kt pt] (.Tuple [a, b] k2 pt2) pos) (tPar i j (tCons ta tr)) (dParS i [j] f fr) := ⟨ps_par hc hN hi hj hij hx hy (sa_cons ha hb h2).pe hw hs, snd_parS2 ha.sn hb.sn⟩
theorem ss_parS3 (i j l : Nat) {y z : Str} {px py pz pt : Pos} {kt k2 pt2} {tr : TA} {fr : DA} (hc : X.calm = true) (hN : X.N.Nodup) (hi : X.N[i]? = some x) (hj : X.N[j]? = some y) (hl : X.N[l]? = some z) (hij : i ≠ j) (hil : i ≠ l) (hjl : j ≠ l) (hx : X.env.scope.names.lookup x = some .local) (hy : X.env.scope.names.lookup y = some .local) (hz : X.env.scope.names.lookup z = some .local) (ha : SE K X a ta f) (hb : SA K X [b, c] tr fr)
    (hw : swappedStores [.Tuple [.Name x px, .Name y py, .Name z pz] kt pt] (.Tuple [a, b, c] k2 pt2) X.env = pure (some [x, y, z])) (h2 : starEach (a :: [b, c]) X.env = (false, eval a X.env) :: starEach [b, c] X.env := by rfl) (hs : swapsWithSole [.Tuple [.Name x px, .Name y py, .Name z pz] kt pt] (.Tuple [a, b, c] k2 pt2) pos.line X.env = pure false := by rfl) :
    SS K X (.Assign [.Tuple [.Name x px, .Name y py, .Name z pz] kt pt] (.Tuple [a, b, c] k2 pt2) pos) (tPar3 i j l (tCons ta tr)) (dParS i [j, l] f fr) := ⟨ps_par3 hc hN hi hj hl hij hil hjl hx hy hz (sa_cons ha hb h2).pe hw hs, snd_parS3 ha.sn hb.sn⟩
end
end DL
end

section
set_option Elab.async false
set_option linter.all false
set_option maxRecDepth 100000
set_option maxHeartbeats 1000000
/-! DLsort: sorted of data; in; min. -/
namespace DL
open PySem PySem.Spec PyProof.Rows L2
section
variable {X : Cx} {pins : List (Addr × Obj)} {σ : L2.St} {H : Hp} {s : Shared}
def rSortedD (K : PySem.W.Frag) : List V → Hp → VK → Prop := fun vs H Q => ∃ (a : Addr) (xs : List V) (ds : List PyData), vs = [V.ref a] ∧ SqL K H a xs ∧ DpAll K H xs ds ∧ PySem.W.AllAlike ds ∧ PySem.W.Sortable ds ∧ (∀ d ∈ ds, d.depth ≤ 30) ∧
  ∀ p, H p = none → Q (.ref p) (upd H p (.lst (((xs.zip ds).mergeSort (PySem.W.dataLe false (fun b => b.2))).map (·.1))))
theorem zip_each {K : PySem.W.Frag} : ∀ {xs : List V} {its : List Value} {ds : List PyData}, Vals xs its → DpAll K H xs ds → PySem.W.EachIs (fun (v : Value) (b : V × PyData) => RelV b.1 v ∧ Dp K H b.1 b.2) its (xs.zip ds)
  | [], _, _, .nil, .nil => .nil
  | _ :: _, _, _, .cons r t, .cons d e => .cons ⟨r, d⟩ (zip_each t e)
theorem each_vals : ∀ {out : List Value} {bs : List (V × PyData)}, PySem.W.EachIs (fun (v : Value) (b : V × PyData) => RelV b.1 v ∧ True) out bs → Vals (bs.map (·.1)) out
  | _, _, .nil => .nil
  | _, _, .cons h t => .cons h.1 (each_vals t)
theorem dpAll_len {K : PySem.W.Frag} : ∀ {xs : List V} {ds : List PyData}, DpAll K H xs ds → xs.length = ds.length
  | _, _, .nil => rfl
  | _, _, .cons _ t => congrArg (· + 1) (dpAll_len t)
theorem cr_sortedD (hu : X.A.units + 64 < cLine) : CallR X (.builtin "sorted") (rSortedD X.K) := by
  intro pins s σ H vs us Q I r h
  obtain ⟨a, xs, ds, rfl, hs, hd, hal, hk, hdep, q⟩ := h
  obtain ⟨its, rv, hl, hz⟩ := I.list hs
  rw [Vals.ref1 r]
  have ez := zip_each rv hd
  have es : (xs.zip ds).map (fun b => b.2) = ds := List.map_snd_zip (by rw [dpAll_len hd]; exact Nat.le_refl _)
  have e : PySem.W.EachIs (fun (v : Value) (b : V × PyData) => RelV b.1 v ∧ True) its (xs.zip ds) := ez.mono fun _ _ h => ⟨h.1, trivial⟩
  have er : PySem.W.EachIs (fun (v : Value) (b : V × PyData) => ∃ as, Reads s.heap v b.2 as) its (xs.zip ds) := ez.mono fun _ _ h => Dp.reads I _ _ _ h.2 h.1
  have lz : (xs.zip ds).length ≤ sizeLine := by
    rw [List.length_zip, dpAll_len hd]
    have := dpAll_len hd
    omega
  refine PySem.W.sorted_data (enc := fun (b : V × PyData) => b.2) hl.isList e er (by rw [es]; exact hal) (by rw [es]; exact hk) lz (fun b hb => ?_) fun out ho eo => ?_
  · have := hdep b.2 (List.of_mem_zip hb).2
    omega
  · obtain ⟨n, hn⟩ := PyProof.Rows.sortedAll_at s.heap its out.toArray
    refine ⟨.ref (s.heap.objs.size + 1), upd H (s.heap.objs.size + 1) (.lst (((xs.zip ds).mergeSort (PySem.W.dataLe false (fun b => b.2))).map (·.1))), I.laid (t' := s.toks) (fun b o e => PyProof.Rows.sortedAll_old e) (Nat.le_succ _) ⟨?_, out, n, each_vals eo, hn⟩, rfl, q _ (I.hok.fresh (Nat.le_succ _))⟩
    rw [List.length_map, List.length_mergeSort]
    exact lz
end
section
variable {K : PySem.W.Frag}
theorem rpAll_of {F : Addr → Prop} {H : Hp} : ∀ {l : List (V × PyData)}, (∀ p ∈ l, Rp K F H p.1 p.2) → RpAll K F H (l.map (·.1)) (l.map (·.2))
  | [], _ => .nil
  | p :: r, h => .cons (h p List.mem_cons_self) (rpAll_of fun q hq => h q (List.mem_cons_of_mem _ hq))
theorem RpAll.zip {F : Addr → Prop} {H : Hp} : ∀ {vs : List V} {ds : List PyData}, RpAll K F H vs ds → ∀ p ∈ vs.zip ds, Rp K F H p.1 p.2
  | _, _, .nil, p, hp => by simp at hp
  | _, _, .cons a b, p, hp => by
    rw [List.zip_cons_cons] at hp
    rcases List.mem_cons.mp hp with rfl | hp
    · exact a
    · exact RpAll.zip b p hp
theorem noDict_all : ∀ {xs : List PyData}, (∀ d ∈ xs, d.hasDict = false) → PyData.hasDictAll xs = false
  | [], _ => rfl
  | x :: r, h => by
    simp only [PyData.hasDictAll, Bool.or_eq_false_iff]
    exact ⟨h x List.mem_cons_self, noDict_all fun d hd => h d (List.mem_cons_of_mem _ hd)⟩
theorem prim_sorted : PrimN K (rSortedD K) bSorted := by
  intro F H vs xs z Q a e q
  match xs, a, e with
  | [.list ys], a, e =>
    have e : (if sortable ys = true then some (Rv.tmp (sortD ys)) else none) = some z := e
    by_cases c : sortable ys = true
    · rw [if_pos c] at e
      cases e
      obtain ⟨v, rfl, a'⟩ := a.one
      obtain ⟨p, ws, rfl, h1, r1⟩ := a'.list
      simp only [sortable, Bool.and_eq_true, Bool.or_eq_true, List.all_eq_true, Bool.not_eq_true', decide_eq_true_eq] at c
      obtain ⟨⟨c1, c2⟩, c3⟩ := c
      have es : (ws.zip ys).map (·.2) = ys := List.map_snd_zip (by rw [r1.length]; exact Nat.le_refl _)
      refine ⟨p, ws, ys, rfl, h1, r1.dp (noDict_all fun d hd => (c3 d hd).1), fun d hd d' hd' => c1 d hd d' hd', ?_, fun d hd => (c3 d hd).2, fun l hl => ?_⟩
      · rcases c2 with c2 | c2
        · refine .inl fun d hd => ?_
          have := c2 d hd
          unfold headed at this
          split at this
          · exact ⟨_, _, rfl⟩
          · cases this
        · refine .inr fun d hd => ?_
          have := c2 d hd
          unfold other at this
          split at this
          · cases this
          · cases this
          · rename_i h2 h3
            exact ⟨h2, h3⟩
      · have rr : RpAll K F H (((ws.zip ys).mergeSort (PySem.W.dataLe false (fun b => b.2))).map (·.1)) (((ws.zip ys).mergeSort (PySem.W.dataLe false (fun b => b.2))).map (·.2)) := rpAll_of fun p hp => r1.zip p (List.mem_mergeSort.mp hp)
        have em : ((ws.zip ys).mergeSort (PySem.W.dataLe false (fun b => b.2))).map (·.2) = sortD ys := by
          unfold sortD
          rw [List.map_mergeSort (r := PySem.W.dataLe false (fun b : V × PyData => b.2)) (s := PySem.W.dataLe false id) (f := fun b : V × PyData => b.2) (l := ws.zip ys) (fun a _ b _ => rfl), es]
        rw [em] at rr
        obtain ⟨s, n⟩ := new_tmp hl rr
        exact q _ _ s n
    · rw [if_neg c] at e
      cases e
theorem atom_V {F : Addr → Prop} {H : Hp} {v : V} {x : PyData} (h : Rp K F H v x) (c : atomD x = true) : flatV v = true := by
  cases h <;> first | rfl | cases c
theorem atom_eq {F : Addr → Prop} {H : Hp} {v w : V} {x y : PyData} (h : Rp K F H v x) (h' : Rp K F H w y) (c : atomD x = true) (c' : atomD y = true) : eqV v w = PyData.eqv x y := by
  cases h <;> first | (cases c; done) | (cases h' <;> first | (cases c'; done) | simp [eqV, PyData.eqv])
theorem atoms_V {F : Addr → Prop} {H : Hp} : ∀ {vs : List V} {xs : List PyData}, RpAll K F H vs xs → xs.all atomD = true → vs.all flatV = true
  | _, _, .nil, _ => rfl
  | _, _, .cons a b, c => by
    rw [List.all_cons, Bool.and_eq_true] at c ⊢
    exact ⟨atom_V a c.1, atoms_V b c.2⟩
theorem atoms_in {F : Addr → Prop} {H : Hp} {w : V} {y : PyData} (h : Rp K F H w y) (c : atomD y = true) : ∀ {vs : List V} {xs : List PyData}, RpAll K F H vs xs → xs.all atomD = true → inV w vs = xs.any fun x => PyData.eqv x y
  | _, _, .nil, _ => rfl
  | _, _, .cons a b, d => by
    rw [List.all_cons, Bool.and_eq_true] at d
    have := atoms_in h c b d.2
    unfold inV at this ⊢
    rw [List.any_cons, List.any_cons, this, atom_eq a h d.1 c]
theorem Pk.atom {F : Addr → Prop} {H : Hp} {v : V} {x : PyData} (h : Pk K F H v x) (c : atomD x = true) : Rp K F H v x := by
  rcases h with k | ⟨_, _, _, _, k, _⟩
  · exact k
  · subst k
    cases c
theorem in_core {F : Addr → Prop} {H : Hp} {v w : V} {x y : PyData} {b : Bool} (a : Pk K F H v x) (a' : Pk K F H w y) (e : opInB x y = some b) : ∃ p xs, w = .ref p ∧ (SqL K H p xs ∨ SqT K H p xs) ∧ flatV v = true ∧ xs.all flatV = true ∧ inV v xs = b := by
  cases y with
  | list ys =>
    have e : (if atomD x = true ∧ ys.all atomD = true then some (ys.any fun y => PyData.eqv y x) else none) = some b := e
    by_cases c : atomD x = true ∧ ys.all atomD = true
    · rw [if_pos c] at e
      obtain ⟨p, ws, rfl, h1, r1⟩ := a'.list
      have ax := a.atom c.1
      exact ⟨p, ws, rfl, .inl h1, atom_V ax c.1, atoms_V r1 c.2, (atoms_in ax c.1 r1 c.2).trans (Option.some.inj e)⟩
    · rw [if_neg c] at e
      cases e
  | tuple ys =>
    have e : (if atomD x = true ∧ ys.all atomD = true then some (ys.any fun y => PyData.eqv y x) else none) = some b := e
    by_cases c : atomD x = true ∧ ys.all atomD = true
    · rw [if_pos c] at e
      obtain ⟨p, ws, rfl, h1, r1⟩ := a'.tup
      have ax := a.atom c.1
      exact ⟨p, ws, rfl, .inr h1, atom_V ax c.1, atoms_V r1 c.2, (atoms_in ax c.1 r1 c.2).trans (Option.some.inj e)⟩
    · rw [if_neg c] at e
      cases e
  | _ => cases e
theorem prim_inA : Prim2 K (rIn K false) opIn := by
  intro F H v w x y z Q a b e q
  obtain ⟨c, e1, e2⟩ := bs e
  cases e2
  obtain ⟨p, xs, h1, h2, h3, h4, h5⟩ := in_core a b e1
  refine ⟨p, xs, h1, h2, h3, h4, ?_⟩
  rw [if_neg (by decide), h5]
  exact q _ H Same.rfl' (.bl _)
theorem prim_notinA : Prim2 K (rIn K true) opNotIn := by
  intro F H v w x y z Q a b e q
  obtain ⟨c, e1, e2⟩ := bs e
  cases e2
  obtain ⟨p, xs, h1, h2, h3, h4, h5⟩ := in_core a b e1
  refine ⟨p, xs, h1, h2, h3, h4, ?_⟩
  rw [if_pos rfl, h5]
  exact q _ H Same.rfl' (.bl _)
def rMinI : List V → Hp → VK → Prop := fun xs H Q => ∃ i j : Int, xs = [.int i, .int j] ∧ Q (.int (if j < i then j else i)) H
theorem call_minI {X : Cx} (hc : X.calm = true) : CallR X (.builtin "min") rMinI := call_min2 hc
theorem prim_min2 : PrimN K rMinI bMin2 := by
  intro F H vs xs z Q a e q
  match xs, a, e with
  | [.int i, .int j], .cons a (.cons b .nil), e =>
    cases e
    have h1 := a.int
    have h2 := b.int
    subst h1 h2
    exact ⟨i, j, rfl, q _ H Same.rfl' (.int _)⟩
theorem parQ_core {i j : Nat} {is : List Nat} {ta te : TE} {t : TA} {f g : DE} {h : DA} (a : SndE K ta f) (a2 : SndE K te g) (b : SndA K t h) {H0 : Hp} {M : Nat → Option Addr} {st : DSt} {σ : L2.St} {F : Addr → Prop} {H : Hp} {fl : Fl} {st' : DSt} {E : Ends} (S : Sim K H0 M st σ F H) (e : dParQ i j is f g h st = some (fl, st')) (q : fl = .nx → FlOk K H0 M F H st' E .nx)
    {R : List V → Hp → Prop} (fin : ∀ u v vs σ' H', vs.length = is.length → σ' = (is.zip vs).foldl (fun s x => s.set x.1 (some x.2)) ((σ.set i (some u)).set j (some v)) → E.nx σ' H' → R (u :: v :: vs) H') : tCons ta (tCons te t) σ H R := by
  obtain ⟨⟨p0, s1⟩, e1, e⟩ := bs e
  obtain ⟨⟨q0, s2⟩, e2, e⟩ := bs e
  match p0, q0, e1, e2, e with
  | .d x, .tmp xs, e1, e2, e =>
    obtain ⟨⟨rs, s3⟩, e3, e⟩ := bs e
    obtain ⟨⟨ds, s4⟩, e4, e⟩ := bs e
    obtain ⟨s5, e5, e⟩ := bs e
    obtain ⟨s6, e6, e⟩ := bs e
    obtain ⟨s7, e7, e⟩ := bs e
    cases e
    refine a H0 M st σ F H (.d x) s1 _ S e1 fun u F1 H1 S1 E1 f1 r1 => ?_
    refine a2 H0 M s1 σ F1 H1 (.tmp xs) s2 _ S1 e2 fun v F2 H2 S2 E2 f2 r2 => ?_
    refine b H0 M s2 σ F2 H2 rs s3 _ S2 e3 fun vs F3 H3 S3 E3 f3 r3 => ?_
    obtain ⟨p, ws, rfl, hp, hr, nf, no, h0⟩ := r2
    have r1 : Rp K F1 H1 u x := r1
    obtain ⟨F4, S4, E4, rr, _⟩ := toDs_ok S3 E3 r3 e4
    have nf4 : ¬ F4 p := fun z => by
      rcases E4.new p z with z | z | z
      · exact nf z
      · rw [hp] at z; cases z
      · exact no z
    have no4 : ¬ OwnAt s4 σ p := fun z => no (z.imp E4.own)
    obtain ⟨hi, nl, rfl⟩ := setS_ok e5
    obtain ⟨hj, nl2, rfl⟩ := setS_ok e6
    have ru : Rp K F4 H3 u x := E4.rp S2 (E2.rp S1 r1)
    have S5 := S4.setD hi nl ru
    have no5 : ¬ OwnAt (s4.set i (some (.d x))) (σ.set i (some u)) p := fun ⟨k, hk, ek⟩ => by
      obtain ⟨zs, hk⟩ := hk
      rw [getD_set hi] at hk
      by_cases ik : i = k
      · rw [if_pos ik] at hk
        rcases hk with hk | hk <;> cases hk
      · rw [if_neg ik] at hk
        refine no4 ⟨k, ⟨zs, hk⟩, ?_⟩
        rw [List.getElem?_set_ne ik] at ek
        exact ek
    have S6 := S5.setOwn hj nl2 (E4.keep _ _ hp no) (E4.rpAll S2 hr) nf4 no5 (S1.fresh0 h0)
    have fe := ((E1.trans E2).trans E4).fext S S4
    have go : ∀ (js : List Nat) (us : List V) (ys : List D) (sa : DSt) (σa : L2.St), RpAll K F4 H3 us ys → Sim K H0 M sa σa F4 H3 → dPar.parGo js ys sa = some st' → us.length = js.length ∧ Sim K H0 M st' ((js.zip us).foldl (fun s x => s.set x.1 (some x.2)) σa) F4 H3 := by
      intro js
      induction js with
      | nil =>
        intro us ys sa σa r s e
        cases r with
        | nil => cases e; exact ⟨rfl, s⟩
        | cons _ _ => cases e
      | cons j js ih =>
        intro us ys sa σa r s e
        cases r with
        | nil => cases e
        | cons r1 r2 =>
          obtain ⟨sb, e6, e7⟩ := bs e
          obtain ⟨hj, nl2, rfl⟩ := setS_ok e6
          obtain ⟨l, z⟩ := ih _ _ _ _ r2 (s.setD hj nl2 r1) e7
          exact ⟨congrArg (· + 1) l, z⟩
    obtain ⟨l, S7⟩ := go is vs ds _ _ rr S6 e7
    exact fin _ _ _ _ _ l rfl (q rfl _ F4 H3 S7 fe)
  | .tmp _, _, _, _, e => cases e
  | .sl _, _, _, _, e => cases e
  | .d _, .d _, _, _, e => cases e
  | .d _, .sl _, _, _, e => cases e
theorem parQ_nx {i j : Nat} {is : List Nat} {f g : DE} {h : DA} {st st' : DSt} {fl : Fl} (e : dParQ i j is f g h st = some (fl, st')) : fl = .nx := by
  obtain ⟨⟨p0, s1⟩, e1, e⟩ := bs e
  obtain ⟨⟨q0, s2⟩, e2, e⟩ := bs e
  match p0, q0, e1, e2, e with
  | .d x, .tmp xs, e1, e2, e =>
    obtain ⟨_, _, e⟩ := bs e
    obtain ⟨_, _, e⟩ := bs e
    obtain ⟨_, _, e⟩ := bs e
    obtain ⟨_, _, e⟩ := bs e
    obtain ⟨_, _, e⟩ := bs e
    cases e
    rfl
  | .tmp _, _, _, _, e => cases e
  | .sl _, _, _, _, e => cases e
  | .d _, .d _, _, _, e => cases e
  | .d _, .sl _, _, _, e => cases e
theorem snd_parQ2 {i j : Nat} {ta te : TE} {f g : DE} (a : SndE K ta f) (a2 : SndE K te g) (b : SndA K tNil dNil) : SndS K (tPar i j (tCons ta (tCons te tNil))) (dParQ i j [] f g dNil) := by
  intro H0 M st σ F H fl st' E S e q
  have hfl := parQ_nx e
  subst hfl
  refine parQ_core a a2 b S e (fun _ => q) fun u v vs σ' H' l es z => ?_
  match vs, l, es with
  | [], _, es =>
    subst es
    exact ⟨u, v, rfl, z⟩
theorem snd_parQ3 {i j k : Nat} {ta te : TE} {t : TA} {f g : DE} {h : DA} (a : SndE K ta f) (a2 : SndE K te g) (b : SndA K t h) : SndS K (tPar3 i j k (tCons ta (tCons te t))) (dParQ i j [k] f g h) := by
  intro H0 M st σ F H fl st' E S e q
  have hfl := parQ_nx e
  subst hfl
  refine parQ_core a a2 b S e (fun _ => q) fun u v vs σ' H' l es z => ?_
  match vs, l, es with
  | [w], _, es =>
    subst es
    exact ⟨u, v, w, rfl, z⟩
end
section
variable {K : PySem.W.Frag} {X : Cx} {a b c : Expr} {ta tb : TE} {f g : DE} {pos : Pos} {x : Str}
theorem ss_parQ2 (i j : Nat) {y : Str} {px py pt : Pos} {kt k2 pt2} (hc : X.calm = true) (hN : X.N.Nodup) (hi : X.N[i]? = some x) (hj : X.N[j]? = some y) (hij : i ≠ j) (hx : X.env.scope.names.lookup x = some .local) (hy : X.env.scope.names.lookup y = some .local) (ha : SE K X a ta f) (hb : SE K X b tb g)
    (hw : swappedStores [.Tuple [.Name x px, .Name y py] kt pt] (.Tuple [a, b] k2 pt2) X.env = pure (some [x, y])) (h2 : starEach (a :: [b]) X.env = (false, eval a X.env) :: starEach [b] X.env := by rfl) (h3 : starEach (b :: []) X.env = (false, eval b X.env) :: starEach [] X.env := by rfl) (hs : swapsWithSole [.Tuple [.Name x px, .Name y py] kt pt] (.Tuple [a, b] k2 pt2) pos.line X.env = pure false := by rfl) :
    SS K X (.Assign [.Tuple [.Name x px, .Name y py] kt pt] (.Tuple [a, b] k2 pt2) pos) (tPar i j (tCons ta (tCons tb tNil))) (dParQ i j [] f g dNil) := ⟨ps_par hc hN hi hj hij hx hy (sa_cons ha (sa_cons hb sa_nil h3) h2).pe hw hs, snd_parQ2 ha.sn hb.sn (sa_nil (X := X)).sn⟩
theorem ss_parQ3 (i j l : Nat) {y z : Str} {px py pz pt : Pos} {kt k2 pt2} {tr : TA} {fr : DA} (hc : X.calm = true) (hN : X.N.Nodup) (hi : X.N[i]? = some x) (hj : X.N[j]? = some y) (hl : X.N[l]? = some z) (hij : i ≠ j) (hil : i ≠ l) (hjl : j ≠ l) (hx : X.env.scope.names.lookup x = some .local) (hy : X.env.scope.names.lookup y = some .local) (hz : X.env.scope.names.lookup z = some .local) (ha : SE K X a ta f) (hb : SE K X b tb g) (hd : SA K X [c] tr fr)
    (hw : swappedStores [.Tuple [.Name x px, .Name y py, .Name z pz] kt pt] (.Tuple [a, b, c] k2 pt2) X.env = pure (some [x, y, z])) (h2 : starEach (a :: [b, c]) X.env = (false, eval a X.env) :: starEach [b, c] X.env := by rfl) (h3 : starEach (b :: [c]) X.env = (false, eval b X.env) :: starEach [c] X.env := by rfl) (hs : swapsWithSole [.Tuple [.Name x px, .Name y py, .Name z pz] kt pt] (.Tuple [a, b, c] k2 pt2) pos.line X.env = pure false := by rfl) :
    SS K X (.Assign [.Tuple [.Name x px, .Name y py, .Name z pz] kt pt] (.Tuple [a, b, c] k2 pt2) pos) (tPar3 i j l (tCons ta (tCons tb tr))) (dParQ i j [l] f g fr) := ⟨ps_par3 hc hN hi hj hl hij hil hjl hx hy hz (sa_cons ha (sa_cons hb hd h3) h2).pe hw hs, snd_parQ3 ha.sn hb.sn hd.sn⟩
end
end DL
end

section
set_option Elab.async false
set_option linter.all false
set_option maxRecDepth 100000
set_option maxHeartbeats 1000000
/-! DLfor: loops over a list of one's own; remove; list(range); two new lists at once. -/
namespace DL
open PySem PySem.Spec PyProof.Rows L2
section
variable {K : PySem.W.Frag}
theorem parW_core {i j : Nat} {is : List Nat} {ta te : TE} {t : TA} {f g : DE} {h : DA} (a : SndE K ta f) (a2 : SndE K te g) (b : SndA K t h) {H0 : Hp} {M : Nat → Option Addr} {st : DSt} {σ : L2.St} {F : Addr → Prop} {H : Hp} {fl : Fl} {st' : DSt} {E : Ends} (S : Sim K H0 M st σ F H) (e : dParW i j is f g h st = some (fl, st')) (q : fl = .nx → FlOk K H0 M F H st' E .nx)
    {R : List V → Hp → Prop} (fin : ∀ u v vs σ' H', vs.length = is.length → σ' = (is.zip vs).foldl (fun s x => s.set x.1 (some x.2)) ((σ.set i (some u)).set j (some v)) → E.nx σ' H' → R (u :: v :: vs) H') : tCons ta (tCons te t) σ H R := by
  obtain ⟨⟨p0, s1⟩, e1, e⟩ := bs e
  obtain ⟨⟨q0, s2⟩, e2, e⟩ := bs e
  match p0, q0, e1, e2, e with
  | .tmp ys, .tmp xs, e1, e2, e =>
    obtain ⟨⟨rs, s3⟩, e3, e⟩ := bs e
    obtain ⟨⟨ds, s4⟩, e4, e⟩ := bs e
    obtain ⟨s5, e5, e⟩ := bs e
    obtain ⟨s6, e6, e⟩ := bs e
    obtain ⟨s7, e7, e⟩ := bs e
    cases e
    refine a H0 M st σ F H (.tmp ys) s1 _ S e1 fun u F1 H1 S1 E1 f1 r1 => ?_
    refine a2 H0 M s1 σ F1 H1 (.tmp xs) s2 _ S1 e2 fun v F2 H2 S2 E2 f2 r2 => ?_
    refine b H0 M s2 σ F2 H2 rs s3 _ S2 e3 fun vs F3 H3 S3 E3 f3 r3 => ?_
    obtain ⟨p, ws, rfl, hp, hr, nf, no, h0⟩ := r2
    obtain ⟨p1, ws1, rfl, hp1, hr1, nf1, no1, h01⟩ := r1
    obtain ⟨F4, S4, E4, rr, _⟩ := toDs_ok S3 E3 r3 e4
    have nf4 : ¬ F4 p := fun z => by
      rcases E4.new p z with z | z | z
      · exact nf z
      · rw [hp] at z; cases z
      · exact no z
    have no4 : ¬ OwnAt s4 σ p := fun z => no (z.imp E4.own)
    obtain ⟨hi, nl, rfl⟩ := setS_ok e5
    obtain ⟨hj, nl2, rfl⟩ := setS_ok e6
    have hp1' := E2.keep _ _ hp1 no1
    have no12 : ¬ OwnAt s2 σ p1 := fun z => no1 (z.imp E2.own)
    have nf12 : ¬ F2 p1 := fun z => by
      rcases E2.new p1 z with z | z | z
      · exact nf1 z
      · rw [hp1] at z; cases z
      · exact no1 z
    have nf14 : ¬ F4 p1 := fun z => by
      rcases E4.new p1 z with z | z | z
      · exact nf12 z
      · rw [hp1'] at z; cases z
      · exact no12 z
    have no14 : ¬ OwnAt s4 σ p1 := fun z => no12 (z.imp E4.own)
    have S5 := S4.setOwn hi nl (E4.keep _ _ hp1' no12) (E4.rpAll S2 (E2.rpAll S1 hr1)) nf14 no14 (S.fresh0 h01)
    have no5 : ¬ OwnAt (s4.set i (some (.own ys))) (σ.set i (some (.ref p1))) p := fun ⟨k, hk, ek⟩ => by
      obtain ⟨zs, hk⟩ := hk
      rw [getD_set hi] at hk
      by_cases ik : i = k
      · subst ik
        have hσ : i < σ.length := by rw [S4.len]; exact hi
        rw [List.getElem?_set_self hσ] at ek
        cases ek
        rw [h0] at hp1
        cases hp1
      · rw [if_neg ik] at hk
        refine no4 ⟨k, ⟨zs, hk⟩, ?_⟩
        rw [List.getElem?_set_ne ik] at ek
        exact ek
    have S6 := S5.setOwn hj nl2 (E4.keep _ _ hp no) (E4.rpAll S2 hr) nf4 no5 (S1.fresh0 h0)
    have fe := ((E1.trans E2).trans E4).fext S S4
    have go : ∀ (js : List Nat) (us : List V) (ys : List D) (sa : DSt) (σa : L2.St), RpAll K F4 H3 us ys → Sim K H0 M sa σa F4 H3 → dPar.parGo js ys sa = some st' → us.length = js.length ∧ Sim K H0 M st' ((js.zip us).foldl (fun s x => s.set x.1 (some x.2)) σa) F4 H3 := by
      intro js
      induction js with
      | nil =>
        intro us ys sa σa r s e
        cases r with
        | nil => cases e; exact ⟨rfl, s⟩
        | cons _ _ => cases e
      | cons j js ih =>
        intro us ys sa σa r s e
        cases r with
        | nil => cases e
        | cons r1 r2 =>
          obtain ⟨sb, e6, e7⟩ := bs e
          obtain ⟨hj, nl2, rfl⟩ := setS_ok e6
          obtain ⟨l, z⟩ := ih _ _ _ _ r2 (s.setD hj nl2 r1) e7
          exact ⟨congrArg (· + 1) l, z⟩
    obtain ⟨l, S7⟩ := go is vs ds _ _ rr S6 e7
    exact fin _ _ _ _ _ l rfl (q rfl _ F4 H3 S7 fe)
  | .d _, _, _, _, e => cases e
  | .sl _, _, _, _, e => cases e
  | .tmp _, .d _, _, _, e => cases e
  | .tmp _, .sl _, _, _, e => cases e
theorem parW_nx {i j : Nat} {is : List Nat} {f g : DE} {h : DA} {st st' : DSt} {fl : Fl} (e : dParW i j is f g h st = some (fl, st')) : fl = .nx := by
  obtain ⟨⟨p0, s1⟩, e1, e⟩ := bs e
  obtain ⟨⟨q0, s2⟩, e2, e⟩ := bs e
  match p0, q0, e1, e2, e with
  | .tmp ys, .tmp xs, e1, e2, e =>
    obtain ⟨_, _, e⟩ := bs e
    obtain ⟨_, _, e⟩ := bs e
    obtain ⟨_, _, e⟩ := bs e
    obtain ⟨_, _, e⟩ := bs e
    obtain ⟨_, _, e⟩ := bs e
    cases e
    rfl
  | .d _, _, _, _, e => cases e
  | .sl _, _, _, _, e => cases e
  | .tmp _, .d _, _, _, e => cases e
  | .tmp _, .sl _, _, _, e => cases e
theorem snd_parW2 {i j : Nat} {ta te : TE} {f g : DE} (a : SndE K ta f) (a2 : SndE K te g) (b : SndA K tNil dNil) : SndS K (tPar i j (tCons ta (tCons te tNil))) (dParW i j [] f g dNil) := by
  intro H0 M st σ F H fl st' E S e q
  have hfl := parW_nx e
  subst hfl
  refine parW_core a a2 b S e (fun _ => q) fun u v vs σ' H' l es z => ?_
  match vs, l, es with
  | [], _, es =>
    subst es
    exact ⟨u, v, rfl, z⟩
theorem snd_parW3 {i j k : Nat} {ta te : TE} {t : TA} {f g : DE} {h : DA} (a : SndE K ta f) (a2 : SndE K te g) (b : SndA K t h) : SndS K (tPar3 i j k (tCons ta (tCons te t))) (dParW i j [k] f g h) := by
  intro H0 M st σ F H fl st' E S e q
  have hfl := parW_nx e
  subst hfl
  refine parW_core a a2 b S e (fun _ => q) fun u v vs σ' H' l es z => ?_
  match vs, l, es with
  | [w], _, es =>
    subst es
    exact ⟨u, v, w, rfl, z⟩

/-! ### what leaves a slot alone -/
def Frame (j : Nat) (t : TS) : Prop := ∀ (E : Ends) (σ : L2.St) (H : Hp) (c : Option (Option V)), σ[j]? = c → (t { E with nx := fun σ' H' => σ'[j]? = c → E.nx σ' H' } σ H ↔ t E σ H)
theorem frame_next {j : Nat} : Frame j tNext := fun E σ H c hc => ⟨fun h => h hc, fun h _ => h⟩
theorem frame_seq {j : Nat} {a b : TS} (fa : Frame j a) (fb : Frame j b) : Frame j (tSeq a b) := fun E σ H c hc => by
  have h1 := fa { E with nx := fun σ' H' => b { E with nx := fun σ' H' => σ'[j]? = c → E.nx σ' H' } σ' H' } σ H c hc
  have h2 := fa { E with nx := fun σ' H' => b E σ' H' } σ H c hc
  have e : (fun (σ' : L2.St) (H' : Hp) => σ'[j]? = c → b { E with nx := fun σ' H' => σ'[j]? = c → E.nx σ' H' } σ' H') = fun σ' H' => σ'[j]? = c → b E σ' H' := by
    funext σ' H'
    exact propext ⟨fun h z => (fb E σ' H' c z).mp (h z), fun h z => (fb E σ' H' c z).mpr (h z)⟩
  have h1' : a { E with nx := fun σ' H' => σ'[j]? = c → b { E with nx := fun σ' H' => σ'[j]? = c → E.nx σ' H' } σ' H' } σ H ↔ a { E with nx := fun σ' H' => b { E with nx := fun σ' H' => σ'[j]? = c → E.nx σ' H' } σ' H' } σ H := h1
  have h2' : a { E with nx := fun σ' H' => σ'[j]? = c → b E σ' H' } σ H ↔ a { E with nx := fun σ' H' => b E σ' H' } σ H := h2
  rw [e] at h1'
  exact h1'.symm.trans h2'
theorem frame_if {j : Nat} {c : TT} {t u : TS} (ft : Frame j t) (fu : Frame j u) : Frame j (tIfS c t u) := fun E σ H k hk => by
  have e : (fun (b : Bool) (H1 : Hp) => if b = true then t { E with nx := fun σ' H' => σ'[j]? = k → E.nx σ' H' } σ H1 else u { E with nx := fun σ' H' => σ'[j]? = k → E.nx σ' H' } σ H1) = fun b H1 => if b = true then t E σ H1 else u E σ H1 := by
    funext b H1
    cases b with
    | true => exact propext (ft E σ H1 k hk)
    | false => exact propext (fu E σ H1 k hk)
  show c σ H _ ↔ c σ H _
  exact Iff.of_eq (congrArg (c σ H) e)
theorem frame_set {i j : Nat} {te : TE} (hij : i ≠ j) : Frame j (tAsg te (L2.gName i)) := fun E σ H k hk => by
  have e : (fun (x : V) (H1 : Hp) => (σ.set i (some x))[j]? = k → E.nx (σ.set i (some x)) H1) = fun x H1 => E.nx (σ.set i (some x)) H1 := by
    funext x H1
    exact propext ⟨fun h => h (by rw [List.getElem?_set_ne hij]; exact hk), fun h _ => h⟩
  show te σ H _ ↔ te σ H _
  exact Iff.of_eq (congrArg (te σ H) e)
/-- the list's reading by its name -/
theorem snd_forB {i : Nat} {is : List Nat} {tg : TG} {tb : TS} {g : DG} {b : DS} (hi : i ∉ is) (fr : Frame i tb) (c : SndG K is tg g) (d : SndS K tb b) : SndS K (tFor (iSeqT K (tVar i)) tg tb) (dForB i g b) := by
  intro H0 M st σ F H fl st' E S e q
  obtain ⟨xs, e1, e⟩ := bs e
  obtain ⟨p, vs, a1, a2, a3, ow⟩ := getL_ok S e1
  refine ⟨.ref p, a1, p, rfl, .inl ⟨⟨vs, SqL.of a2⟩, ?_⟩⟩
  refine ⟨fun k m σ' H' => k + m = xs.length ∧ σ'[i]? = some (some (.ref p)) ∧ ∃ s' F', Sim K H0 M s' σ' F' H' ∧ FExt K H0 F H F' H' ∧ forGoB i xs g b (xs.drop k) s' = some (fl, st'), ⟨xs.length, by simp, a1, st, F, S, .refl, e⟩, ?_⟩
  rintro k m σ' H' ⟨hkm, hσ, s', F', S', x', e'⟩
  by_cases hk : k < xs.length
  · have hdrop : xs.drop k = xs[k] :: xs.drop (k + 1) := List.drop_eq_getElem_cons hk
    rw [hdrop] at e'
    unfold forGoB at e'
    by_cases cg : getL s' i = some xs
    · rw [if_pos cg] at e'
      obtain ⟨p', vs', b1, b2, b3, ow'⟩ := getL_ok S' cg
      rw [hσ] at b1
      cases b1
      obtain ⟨vk, ek, rk⟩ := b3.get (List.getElem?_eq_getElem hk)
      refine .inr ⟨⟨vs', vk, SqL.of b2, ek⟩, fun σ2 H2 => σ2[i]? = some (some (.ref p)) ∧ ∃ s2 F2, Sim K H0 M s2 σ2 F2 H2 ∧ FExt K H0 F H F2 H2 ∧ forGoB i xs g b (xs.drop (k + 1)) s2 = some (fl, st'), fun σ2 H2 ⟨h0, s2, F2, h1, h2, h3⟩ => ⟨m - 1, by omega, by omega, h0, s2, F2, h1, h2, h3⟩, fun x H2 y => ?_⟩
      obtain ⟨ey, y⟩ := y
      subst ey
      have yy := y vs' (SqL.of b2)
      rw [ek] at yy
      cases yy
      obtain ⟨s3, e3, e'⟩ := bs e'
      obtain ⟨w, e4, e'⟩ := bs e'
      obtain ⟨wf, ws⟩ := w
      refine c H0 M s' σ' F' _ xs[k] vk s3 _ S' rk e3 fun σ3 S3 hs _ => ?_
      have hσ3 : σ3[i]? = some (some (.ref p)) := by rw [hs.2 i hi]; exact hσ
      refine (fr _ σ3 _ _ hσ3).mp ?_
      refine d H0 M s3 σ3 F' _ wf ws _ S3 e4 ?_
      cases wf with
      | nx => exact fun σ4 F4 H4 S4 x4 h4 => ⟨h4, ws, F4, S4, x'.trans x4, e'⟩
      | ct => cases e'
      | bk => cases e'
      | rt r => cases e'
    · rw [if_neg cg] at e'
      cases e'
  · have hl : k = xs.length := by omega
    subst hl
    rw [List.drop_length] at e'
    unfold forGoB at e'
    by_cases cg : getL s' i = some xs
    · rw [if_pos cg] at e'
      cases e'
      obtain ⟨p', vs', b1, b2, b3, ow'⟩ := getL_ok S' cg
      rw [hσ] at b1
      cases b1
      exact .inl ⟨⟨vs', SqL.of b2, by rw [b3.length]; exact Nat.le_refl _⟩, q σ' F' H' S' x'⟩
    · rw [if_neg cg] at e'
      cases e'
/-! ### remove -/
theorem removeI_ok {k : Int} : ∀ {is r : List Int}, removeI k is = some r → ∃ j, is[j]? = some k ∧ (∀ m : Nat, m < j → is[m]? ≠ some k) ∧ is.eraseIdx j = r
  | [], r, h => by cases h
  | x :: t, r, h => by
    have h : (if x = k then some t else (removeI k t).bind fun s => some (x :: s)) = some r := h
    by_cases c : x = k
    · rw [if_pos c] at h
      cases h
      exact ⟨0, by simp [c], fun m hm => by omega, rfl⟩
    · rw [if_neg c] at h
      obtain ⟨s, h1, h⟩ := bs h
      cases h
      obtain ⟨j, j1, j2, j3⟩ := removeI_ok h1
      refine ⟨j + 1, by simpa using j1, fun m hm => ?_, by simp [j3]⟩
      cases m with
      | zero => simpa using c
      | succ m => simpa using j2 m (by omega)
theorem rpAll_ints {F : Addr → Prop} {H : Hp} : ∀ is : List Int, RpAll K F H (is.map V.int) (is.map PyData.int)
  | [] => .nil
  | i :: r => .cons (.int i) (rpAll_ints r)
theorem snd_remove {i : Nat} {te : TE} {f : DE} (a : SndE K te f) : SndS K (tDrop (tBM K "list" rRemI (tVar i) (tCons te tNil))) (dRemove i f) := by
  intro H0 M st σ F H fl st' E S e q
  obtain ⟨zs, e0, e⟩ := bs e
  obtain ⟨p, e1, e⟩ := bs e
  obtain ⟨w, e2, e⟩ := bs e
  obtain ⟨p0, vs0, a1, a2, _⟩ := getL_ok S e0
  refine ⟨.ref p0, a1, .inl ⟨rfl, _, SqL.of a2⟩, ?_⟩
  refine a H0 M st σ F H p.1 p.2 _ S e1 fun v F1 H1 S1 E1 f1 r1 => ?_
  obtain ⟨F2, S2, E2, r2, _⟩ := toD_ok S1 E1 r1.weak e2
  obtain ⟨wd, ws⟩ := w
  match wd, e, r2 with
  | .int k, e, r2 =>
    obtain ⟨xs, e3, e⟩ := bs e
    obtain ⟨is, e4, e⟩ := bs e
    obtain ⟨r, e5, e⟩ := bs e
    obtain ⟨s, e6, e⟩ := bs e
    cases e
    cases r2
    obtain ⟨p1, vs, b1, b2, b3, o⟩ := getL_ok S2 e3
    rw [a1] at b1
    cases b1
    rw [ints_ok b3 e4] at b2
    obtain ⟨j, j1, j2, j3⟩ := removeI_ok e5
    obtain ⟨S3, E3⟩ := S2.put o a1 (rpAll_ints r) e6
    refine ⟨p0, is, k, j, rfl, rfl, b2, j1, j2, ?_⟩
    rw [j3]
    exact q σ F2 _ S3 ((E2.fext S S2).trans E3)
  | .none, e, _ => cases e
  | .bool _, e, _ => cases e
  | .str _, e, _ => cases e
  | .list _, e, _ => cases e
  | .tuple _, e, _ => cases e
  | .dict _, e, _ => cases e
/-! ### list(range(n)) -/
theorem rpAll_rg {F : Addr → Prop} {H : Hp} (n : Nat) : RpAll K F H ((List.range n).map fun i => V.int (0 + (i : Nat))) ((List.range n).map fun i => PyData.int (0 + (i : Nat))) := by
  have : ∀ l : List Nat, RpAll K F H (l.map fun i => V.int (0 + (i : Nat))) (l.map fun i => PyData.int (0 + (i : Nat))) := by
    intro l
    induction l with
    | nil => exact .nil
    | cons x r ih => exact .cons (.int _) ih
  exact this _
theorem snd_listR {ta : TE} {f : DE} (a : SndE K ta f) : SndE K (tLstRg (tRg1 ta)) (dListR f) := by
  intro H0 M st σ F H r st' Q S e q
  obtain ⟨p, e1, e⟩ := bs e
  refine a H0 M st σ F H p.1 p.2 _ S e1 fun v F1 H1 S1 E1 f1 r1 => ?_
  cases el : look p.2 p.1 with
  | none => rw [el] at e; cases e
  | some x =>
    rw [el] at e
    match x, e, el with
    | .int n, e, el =>
      have e : (if n ≤ 16777216 ∧ -(2 ^ 62) ≤ n then some (Rv.tmp ((List.range n.toNat).map fun i => .int (0 + (i : Nat))), p.2) else none) = some (r, st') := e
      have hv := (look_ok S1 r1.weak el).int
      subst hv
      by_cases c : n ≤ 16777216 ∧ -(2 ^ 62) ≤ n
      · rw [if_pos c] at e
        cases e
        refine ⟨n, rfl, ⟨by decide, by decide, c.2, by omega, by omega⟩, fun l hl => ?_⟩
        have rr := rpAll_rg (K := K) (F := F1) (H := H1) n.toNat
        obtain ⟨s, nn⟩ := new_tmp hl rr
        have eq : rgV 0 n = (List.range n.toNat).map fun i => V.int (0 + (i : Nat)) := by
          unfold rgV
          rw [Int.sub_zero]
        rw [eq]
        obtain ⟨S3, E3, r3⟩ := fin_new S1 E1 s nn
        exact q _ F1 _ S3 E3 trivial r3
      · rw [if_neg c] at e
        cases e
    | .none, e, _ => cases e
    | .bool _, e, _ => cases e
    | .str _, e, _ => cases e
    | .list _, e, _ => cases e
    | .tuple _, e, _ => cases e
    | .dict _, e, _ => cases e
end
section
variable {K : PySem.W.Frag} {X : Cx} {a b c e tg : Expr} {ta tb te : TE} {f g : DE} {pos p p2 : Pos} {x : Str} {ts : TS} {fs : DS}
theorem ss_parW2 (i j : Nat) {y : Str} {px py pt : Pos} {kt k2 pt2} (hc : X.calm = true) (hN : X.N.Nodup) (hi : X.N[i]? = some x) (hj : X.N[j]? = some y) (hij : i ≠ j) (hx : X.env.scope.names.lookup x = some .local) (hy : X.env.scope.names.lookup y = some .local) (ha : SE K X a ta f) (hb : SE K X b tb g)
    (hw : swappedStores [.Tuple [.Name x px, .Name y py] kt pt] (.Tuple [a, b] k2 pt2) X.env = pure (some [x, y])) (h2 : starEach (a :: [b]) X.env = (false, eval a X.env) :: starEach [b] X.env := by rfl) (h3 : starEach (b :: []) X.env = (false, eval b X.env) :: starEach [] X.env := by rfl) (hs : swapsWithSole [.Tuple [.Name x px, .Name y py] kt pt] (.Tuple [a, b] k2 pt2) pos.line X.env = pure false := by rfl) :
    SS K X (.Assign [.Tuple [.Name x px, .Name y py] kt pt] (.Tuple [a, b] k2 pt2) pos) (tPar i j (tCons ta (tCons tb tNil))) (dParW i j [] f g dNil) := ⟨ps_par hc hN hi hj hij hx hy (sa_cons ha (sa_cons hb sa_nil h3) h2).pe hw hs, snd_parW2 ha.sn hb.sn (sa_nil (X := X)).sn⟩
theorem ss_parW3 (i j l : Nat) {y z : Str} {px py pz pt : Pos} {kt k2 pt2} {tr : TA} {fr : DA} (hc : X.calm = true) (hN : X.N.Nodup) (hi : X.N[i]? = some x) (hj : X.N[j]? = some y) (hl : X.N[l]? = some z) (hij : i ≠ j) (hil : i ≠ l) (hjl : j ≠ l) (hx : X.env.scope.names.lookup x = some .local) (hy : X.env.scope.names.lookup y = some .local) (hz : X.env.scope.names.lookup z = some .local) (ha : SE K X a ta f) (hb : SE K X b tb g) (hd : SA K X [c] tr fr)
    (hw : swappedStores [.Tuple [.Name x px, .Name y py, .Name z pz] kt pt] (.Tuple [a, b, c] k2 pt2) X.env = pure (some [x, y, z])) (h2 : starEach (a :: [b, c]) X.env = (false, eval a X.env) :: starEach [b, c] X.env := by rfl) (h3 : starEach (b :: [c]) X.env = (false, eval b X.env) :: starEach [c] X.env := by rfl) (hs : swapsWithSole [.Tuple [.Name x px, .Name y py, .Name z pz] kt pt] (.Tuple [a, b, c] k2 pt2) pos.line X.env = pure false := by rfl) :
    SS K X (.Assign [.Tuple [.Name x px, .Name y py, .Name z pz] kt pt] (.Tuple [a, b, c] k2 pt2) pos) (tPar3 i j l (tCons ta (tCons tb tr))) (dParW i j [l] f g fr) := ⟨ps_par3 hc hN hi hj hl hij hil hjl hx hy hz (sa_cons ha (sa_cons hb hd h3) h2).pe hw hs, snd_parW3 ha.sn hb.sn hd.sn⟩
theorem se_listR {pos' : Pos} (hc : X.calm = true) (hg : Gl X "list") (hm : X.mg "list" = none) (hg2 : Gl X "range") (hm2 : X.mg "range" = none) (ha : SE K X a ta f) (n1 : starEach [a] X.env = (false, eval a X.env) :: starEach [] X.env := by rfl)
    (n2 : starEach [.Call (.Name "range" p2) [a] [] pos] X.env = (false, eval (.Call (.Name "range" p2) [a] [] pos) X.env) :: starEach [] X.env := by rfl) : SE K X (.Call (.Name "list" p) [.Call (.Name "range" p2) [a] [] pos] [] pos') (tLstRg (tRg1 ta)) (dListR f) := ⟨pe_listRg hc hg hm (prg_1 hg2 hm2 ha.pe n1) n2, snd_listR ha.sn⟩
theorem ss_forB (i : Nat) {is : List Nat} {iter : Expr} {body : List Stmt} {it : DI} {tgr : TG} {dg : DG} (hp : PassesOwn (model X.prog X.w) X.A X.env X.xe) (hc : X.calm = true) (hii : i ∉ is) (fr : Frame i ts) (hi : SI K X tg iter (iSeqT K (tVar i)) it) (hg : SG K X tg is tgr dg) (hb : SSs K X body ts fs) (hs : ∀ x, foldedSetIterable iter X.env x = pure x := by intro _; rfl) :
    SS K X (.For tg iter body [] pos) (tFor (iSeqT K (tVar i)) tgr ts) (dForB i dg fs) := ⟨ps_for hp hc hi.pe hg.pe hb.pe hs, snd_forB hii fr hg.sn hb.sn⟩
theorem ss_remove (i : Nat) {call : Expr} (hp : PE X e te → PE X call (tBM K "list" rRemI (tVar i) (tCons te tNil))) (he : SE K X e te f) (hs : swapsWith call none pos.line X.env = pure false := by rfl) (hK : X.K = K := by rfl) :
    SS K X (.Expr call pos) (tDrop (tBM K "list" rRemI (tVar i) (tCons te tNil))) (dRemove i f) := by
  subst hK
  exact ⟨ps_expr (hp he.pe) hs, snd_remove he.sn⟩
end
end DL
end

section
set_option Elab.async false
set_option linter.all false
set_option maxRecDepth 100000
set_option maxHeartbeats 1000000
/-! DLend: what a walk printed by dl_gen wants besides: bindings, defs without a turn left, the law. -/
namespace DL
open PySem PySem.Spec PyProof.Rows L2
theorem dl_both {K : PySem.W.Frag} {X : Cx} {st : List Stmt} {t : TS} {f : DS} (h : SSs K X st t f) : PSs X st t ∧ SndS K t f := ⟨h.pe, h.sn⟩
section
variable {P : Program} {w : World} {K : PySem.W.Frag} {mg : Str → Option Value} {base : Heap} {x ql : Str} {st : Stmt} {f : Addr} {fd : FuncData} {ps ks : List Str} {n : Nat} {perm : List Nat}
theorem fnG_none {lv : Nat} (h : ps.length = n) : FnG P w K mg base CX0 lv f fd ps (spD K n fun _ => none) :=
  ⟨fun vs H Q E ⟨_, _, _, _, hl, _⟩ => hl.trans h.symm, fun A out s H args us vs Q E _ _ _ _ _ ⟨_, _, _, _, _, _, _, _, z, _⟩ => by cases z⟩
theorem fun_b (F : Fun K x ql st f fd) (h : ∀ (kV doc pm : Value) (an : Option Addr) (cdv ct : Value) (us : List Value), us.length = ps.length → bindArgs (PySem.W.fnOf x ql (defArgs st) (defBody st) (defScope st) .none kV doc pm an cdv ct) ⟨us, []⟩ = pure (ps.zip us)) : Binds K fd ps [] := L2.Fun.binds F h
theorem fun_kb (F : Fun K x ql st f fd) (h : ∀ (kV doc pm : Value) (an : Option Addr) (cdv ct : Value) (us ws : List Value), us.length = n → ws.length = ks.length → bindArgs (PySem.W.fnOf x ql (defArgs st) (defBody st) (defScope st) .none kV doc pm an cdv ct) ⟨us, ks.zip ws⟩ = pure (ps.zip (permute perm (us ++ ws ++ [])))) : KB K fd ps ks n perm [] := by
  obtain ⟨oc, od, kV, doc, pm, an, cdv, ct, osl, rfl, _, _⟩ := F.ex
  exact fun s us ws _ h1 h2 => .of_eq (h kV doc pm an cdv ct us ws h1 h2)
theorem funD_mk {dvs : List V} {oc : Value} {od an : Option Addr} {osl : Array (Option Value)} {kV doc pm cdv ct : Value} {T : Addr} {cT : Value} {dT : Option Addr} {its : List Value} {nT : Nat} {sT : Array (Option Value)}
    (l : K.lookup f = some ⟨oc, od, .func (PySem.W.fnOf x ql (defArgs st) (defBody st) (defScope st) (.ref T) kV doc pm an cdv ct), osl⟩) (c : PySem.W.codeIn K cdv ql = true) (k : PySem.W.keepIn K (.ref f) = true) (t : K.lookup T = some ⟨cT, dT, .seq its.toArray nT, sT⟩) (ne : dvs ≠ []) (v : Vals dvs its) :
    FunD K x ql (defArgs st) (defBody st) (defScope st) dvs [] f (PySem.W.fnOf x ql (defArgs st) (defBody st) (defScope st) (.ref T) kV doc pm an cdv ct) :=
  ⟨⟨oc, od, .ref T, kV, doc, pm, an, cdv, ct, osl, rfl, l, c, .inr ⟨ne, T, _, its, nT, rfl, t, rfl, v⟩, .inl rfl⟩, k⟩
theorem funD_b {T : Addr} {its ds : List Value} {cT : Value} {dT : Option Addr} {nT : Nat} {sT : Array (Option Value)} {fd : FuncData} (t : K.lookup T = some ⟨cT, dT, .seq its.toArray nT, sT⟩) (n : Nat) (hn : n + ds.length = ps.length) (hd : fd.defaults = .ref T)
    (h : ∀ us : List Value, us.length = n → ∃ k, bindArgs fd ⟨us, []⟩ = seqItems? fd.defaults >>= k ∧ k (some its.toArray) = pure (ps.zip (us ++ ds))) : Binds K fd ps ds := fun s us inK hl => by
  obtain ⟨k, h1, h2⟩ := h us (by rw [List.length_append] at hl; omega)
  exact PySem.W.binds_K inK hd t rfl h1 h2
theorem funD_kb {T : Addr} {its : List Value} {cT : Value} {dT : Option Addr} {nT : Nat} {sT : Array (Option Value)} {fd : FuncData} (t : K.lookup T = some ⟨cT, dT, .seq its.toArray nT, sT⟩) (hd : fd.defaults = .ref T)
    (h : ∀ us ws : List Value, us.length = n → ws.length = ks.length → ∃ k, bindArgs fd ⟨us, ks.zip ws⟩ = seqItems? fd.defaults >>= k ∧ k (some its.toArray) = pure (ps.zip (permute perm (us ++ ws ++ [])))) : KB K fd ps ks n perm [] := fun s us ws inK l1 l2 => by
  obtain ⟨k, h1, h2⟩ := h us ws l1 l2
  exact PySem.W.binds_K inK hd t rfl h1 h2
end
/-- the law's promise from its plain function -/
theorem law_want {K : PySem.W.Frag} {H : Hp} {a : Addr} {ns : List Int} {g : Fn} {n : Nat} {E : XK} (only : Only H) (sq : SqL K H a (ns.map V.int)) (short : ns.length ≤ n) (tr : ∀ ns : List Int, ns.length ≤ n → g [.d (.list (ns.map .int))] = some (.d (.bool true), [])) :
    spD K 1 g [.ref a] H (fun v _ => v = .bl true) E := by
  have fl : FL K (fun _ => False) H a (ns.map V.int) := by
    rcases sq with (z | ⟨o, z⟩) | z
    · rcases only a with c | ⟨o, xs, c⟩
      · rw [c] at z; cases z
      · rw [c] at z; cases z
    · exact .inr (.inl ⟨o, z⟩)
    · exact .inr (.inr (.inr z))
  have all : ∀ ns : List Int, RpAll K (fun _ => False) H (ns.map V.int) (ns.map PyData.int) := by
    intro ns
    induction ns with
    | nil => exact .nil
    | cons i r ih => exact .cons (.int i) ih
  refine ⟨fun _ => False, [.d (.list (ns.map .int))], .d (.bool true), [], rfl, .cons (.lst fl (all ns)) .nil, fun a h => h.elim, fun i j p h _ => ?_, tr ns short, fun v F' H' _ _ _ _ _ _ _ _ rt => ?_⟩
  · exact absurd h (by rw [show ([Ar.d (.list (ns.map .int))] : List Ar) = [PyData.list (ns.map .int)].map Ar.d from rfl, lentP_d]; exact fun z => by cases z)
  · have rt : Rp K F' H' v (.bool true) := rt
    cases rt
    rfl
end DL
end

section
set_option linter.all false
/-! DLsim: evaluation of the plain combinators by simp, from the head on: what comes after stands behind a name; loops. -/
namespace DL
open PySem
/-! ### what comes after -/
def kRet {α β : Type} (s : β) (z : α) : Option (α × β) := some (z, s)
def kPush {α β : Type} (x : α) (p : List α × β) : Option (List α × β) := some (x :: p.1, p.2)
def kOne {α : Type} (x : α) (xs : List α) : Option (List α) := some (x :: xs)
def kVar (o : Option SV) (i : Nat) (st : DSt) : Option (Rv × DSt) := match o with
  | some (.d x) => some (.d x, st)
  | some (.own _) => some (.sl i, st)
  | some (.lent _) => some (.sl i, st)
  | none => none
def kGive (o : Option SV) (i : Nat) (st : DSt) : Option (D × DSt) := match o with
  | some (.d x) => some (x, st)
  | some (.own xs) => some (.list xs, st.set i (some (.d (.list xs))))
  | _ => none
def kLooks (st : DSt) (rs : List Rv) (x : D) : Option (List D) := (looks st rs).bind (kOne x)
def kToDs (rs : List Rv) (p : D × DSt) : Option (List D × DSt) := (toDs p.2 rs).bind (kPush p.1)
def kCons (g : DA) (p : Rv × DSt) : Option (List Rv × DSt) := (g p.2).bind (kPush p.1)
def kOp2d (op : D → D → Option Rv) (x : D) (s : DSt) (y : D) : Option (Rv × DSt) := (op x y).bind (kRet s)
def kOp2c (op : D → D → Option Rv) (o : Option D) (s : DSt) (x : D) : Option (Rv × DSt) := o.bind (kOp2d op x s)
def kOp2b (op : D → D → Option Rv) (r : Rv) (q : Rv × DSt) : Option (Rv × DSt) := (look q.2 r).bind (kOp2c op (look q.2 q.1) q.2)
def kOp2 (op : D → D → Option Rv) (g : DE) (p : Rv × DSt) : Option (Rv × DSt) := (g p.2).bind (kOp2b op p.1)
def kOp1b (op : D → Option Rv) (s : DSt) (x : D) : Option (Rv × DSt) := (op x).bind (kRet s)
def kOp1 (op : D → Option Rv) (p : Rv × DSt) : Option (Rv × DSt) := (look p.2 p.1).bind (kOp1b op p.2)
def kCallBb (op : List D → Option Rv) (s : DSt) (xs : List D) : Option (Rv × DSt) := (op xs).bind (kRet s)
def kCallB (op : List D → Option Rv) (p : List Rv × DSt) : Option (Rv × DSt) := (looks p.2 p.1).bind (kCallBb op p.2)
def kSld (op : D → Option Int → Option Int → Option Rv) (l h : Option Int) (s : DSt) (x : D) : Option (Rv × DSt) := (op x l h).bind (kRet s)
def kSlc (op : D → Option Int → Option Int → Option Rv) (r : Rv) (l : Option Int) (h : Option Int × DSt) : Option (Rv × DSt) := (look h.2 r).bind (kSld op l h.1 h.2)
def kSlb (op : D → Option Int → Option Int → Option Rv) (r : Rv) (hi : DO) (l : Option Int × DSt) : Option (Rv × DSt) := (hi l.2).bind (kSlc op r l.1)
def kSl (op : D → Option Int → Option Int → Option Rv) (lo hi : DO) (p : Rv × DSt) : Option (Rv × DSt) := (lo p.2).bind (kSlb op p.1 hi)
def kPartb (o : Option D) (s : DSt) : Option (Option Int × DSt) := match o with
  | some (.int i) => some (some i, s)
  | _ => none
def kPart (p : Rv × DSt) : Option (Option Int × DSt) := kPartb (look p.2 p.1) p.2
def kListb (q : List D × DSt) : Option (Rv × DSt) := if q.1.length ≤ sizeLine then some (.tmp q.1, q.2) else none
def kList (p : List Rv × DSt) : Option (Rv × DSt) := (toDs p.2 p.1).bind kListb
def kTupb (q : List D × DSt) : Option (Rv × DSt) := if q.1.length ≤ sizeLine then some (.d (.tuple q.1), q.2) else none
def kTup (p : List Rv × DSt) : Option (Rv × DSt) := (toDs p.2 p.1).bind kTupb
def kTestb (o : Option D) (s : DSt) : Option (Bool × DSt) := match o with
  | some (.bool b) => some (b, s)
  | _ => none
def kTest (p : Rv × DSt) : Option (Bool × DSt) := kTestb (look p.2 p.1) p.2
def kNot (p : Bool × DSt) : Option (Bool × DSt) := some (!p.1, p.2)
def kAnd (g : DT) (p : Bool × DSt) : Option (Bool × DSt) := if p.1 = true then g p.2 else some (false, p.2)
def kOr (g : DT) (p : Bool × DSt) : Option (Bool × DSt) := if p.1 = true then some (true, p.2) else g p.2
def kAndVb (g : DE) (o : Option D) (s : DSt) : Option (Rv × DSt) := match o with
  | some (.bool b) => if b = true then g s else some (.d (.bool false), s)
  | _ => none
def kAndV (g : DE) (p : Rv × DSt) : Option (Rv × DSt) := kAndVb g (look p.2 p.1) p.2
def kOrVb (g : DE) (o : Option D) (s : DSt) : Option (Rv × DSt) := match o with
  | some (.bool b) => if b = true then some (.d (.bool true), s) else g s
  | _ => none
def kOrV (g : DE) (p : Rv × DSt) : Option (Rv × DSt) := kOrVb g (look p.2 p.1) p.2
def kNotVb (o : Option D) (s : DSt) : Option (Rv × DSt) := match o with
  | some (.bool b) => some (.d (.bool (!b)), s)
  | _ => none
def kNotV (p : Rv × DSt) : Option (Rv × DSt) := kNotVb (look p.2 p.1) p.2
def kIf {α : Type} (f g : DSt → Option α) (p : Bool × DSt) : Option α := if p.1 = true then f p.2 else g p.2
def kM (rs : List (Rv × Bool)) (p : D × DSt) : Option (List (Sum D Nat) × DSt) := (marsh p.2 rs).bind (kPush (.inl p.1))
def kLentAt (o : Option SV) : Option Ar := match o with
  | some (.own xs) => some (.m xs)
  | some (.lent xs) => some (.m xs)
  | _ => none
def kLents (st : DSt) (r : List (Sum D Nat)) (x : Ar) : Option (List Ar) := (lents st r).bind (kOne x)
def kPutBack (o : Option SV) (st : DSt) (i : Nat) (is : List Nat) (xs : List D) (r : List (List D)) : Option DSt := match o with
  | some (.own _) => putBack (st.set i (some (.own xs))) is r
  | some (.lent _) => putBack (st.set i (some (.lent xs))) is r
  | _ => none
def kCalld (r : Rt) (st : DSt) : Option (Rv × DSt) := some (rvOf r, st)
def kCallc (st : DSt) (is : List Nat) (r : Rt × List (List D)) : Option (Rv × DSt) := (putBack st is r.2).bind (kCalld r.1)
def kCallb (g : Fn) (more : List Ar) (st : DSt) (is : List Nat) (as : List Ar) : Option (Rv × DSt) := (g (as ++ more)).bind (kCallc st is)
def kCalla (g : Fn) (more : List Ar) (n k : Nat) (q : List (Sum D Nat) × DSt) : Option (Rv × DSt) := if (lentIx q.1).length ≤ 1 ∧ n = k then (lents q.2 q.1).bind (kCallb g more q.2 (lentIx q.1)) else none
def kCall (g : Fn) (modes : List Bool) (more : List D) (p : List Rv × DSt) : Option (Rv × DSt) := (marsh p.2 (p.1.zip modes)).bind (kCalla g (more.map Ar.d) p.1.length modes.length)
def kCallKd (s : DSt) (r : Rt × List (List D)) : Option (Rv × DSt) := some (rvOf r.1, s)
def kCallKc (g : Fn) (perm : List Nat) (more : List D) (c : Prop) [Decidable c] (q : List D × DSt) : Option (Rv × DSt) := if c then (g ((permute perm (q.1 ++ more)).map Ar.d)).bind (kCallKd q.2) else none
def kCallKb (g : Fn) (n m : Nat) (perm : List Nat) (more : List D) (rs : List Rv) (p2 : List Rv × DSt) : Option (Rv × DSt) := (toDs p2.2 (rs ++ p2.1)).bind (kCallKc g perm more (rs.length = n ∧ p2.1.length = m))
def kCallK (g : Fn) (n m : Nat) (perm : List Nat) (more : List D) (f2 : DA) (p : List Rv × DSt) : Option (Rv × DSt) := (f2 p.2).bind (kCallKb g n m perm more p.1)
def kIterb (op : D → Option (List D)) (q : D × DSt) : Option (List D × DSt) := (op q.1).bind (kRet q.2)
def kIter (op : D → Option (List D)) (p : Rv × DSt) : Option (List D × DSt) := (toD p.2 p.1).bind (kIterb op)
def kIterAb (op : List D → Option (List D)) (q : List D × DSt) : Option (List D × DSt) := (op q.1).bind (kRet q.2)
def kIterA (op : List D → Option (List D)) (p : List Rv × DSt) : Option (List D × DSt) := (toDs p.2 p.1).bind (kIterAb op)
def kSetS (o : Option SV) (st : DSt) (i : Nat) (v : SV) : Option DSt := match o with
  | some (.lent _) => none
  | _ => if i < st.length then some (st.set i (some v)) else none
def kFree (o : Option SV) : Bool := match o with | none => true | some (.d _) => true | _ => false
def kLcEnd (s0 : DSt) (vs : List Nat) (q : List D × DSt) : Option (Rv × DSt) := some (.tmp q.1, refill s0 q.2 vs)
def kLc (g : DG) (t : DT) (e : DE) (vs : List Nat) (p : List D × DSt) : Option (Rv × DSt) :=
  if p.1.length ≤ sizeLine ∧ vs.all (fun i => kFree (p.2.getD i none)) = true then (lcGo g t e vs p.1 (wipeD p.2 vs)).bind (kLcEnd p.2 vs) else none
def kLcTurnE (g : DG) (t : DT) (e : DE) (vs : List Nat) (xs : List D) (r : D × DSt) : Option (List D × DSt) := (lcGo g t e vs xs (wipeD r.2 vs)).bind (kPush r.1)
def kLcTurnD (g : DG) (t : DT) (e : DE) (vs : List Nat) (xs : List D) (q : Rv × DSt) : Option (List D × DSt) := (toD q.2 q.1).bind (kLcTurnE g t e vs xs)
def kLcTurnT (g : DG) (t : DT) (e : DE) (vs : List Nat) (xs : List D) (p : Bool × DSt) : Option (List D × DSt) :=
  if p.1 = true then (e p.2).bind (kLcTurnD g t e vs xs) else lcGo g t e vs xs (wipeD p.2 vs)
def kLcTurn (g : DG) (t : DT) (e : DE) (vs : List Nat) (xs : List D) (s1 : DSt) : Option (List D × DSt) := (t s1).bind (kLcTurnT g t e vs xs)
def kSeq (g : DS) (p : Fl × DSt) : Option (Fl × DSt) := match p.1 with
  | .nx => g p.2
  | _ => some p
def kNx (s : DSt) : Option (Fl × DSt) := some (.nx, s)
def kSetD (i : Nat) (q : D × DSt) : Option (Fl × DSt) := (setS q.2 i (.d q.1)).bind kNx
def kSet (i : Nat) (p : Rv × DSt) : Option (Fl × DSt) := match p.1 with
  | .tmp xs => (setS p.2 i (.own xs)).bind kNx
  | r => (toD p.2 r).bind (kSetD i)
def kAsgb (g : DG) (q : D × DSt) : Option (Fl × DSt) := (g q.1 q.2).bind kNx
def kAsg (g : DG) (p : Rv × DSt) : Option (Fl × DSt) := (toD p.2 p.1).bind (kAsgb g)
def kParb (is : List Nat) (q : List D × DSt) : Option (Fl × DSt) := (dPar.parGo is q.1 q.2).bind kNx
def kPar (is : List Nat) (p : List Rv × DSt) : Option (Fl × DSt) := (toDs p.2 p.1).bind (kParb is)
def kParGo (is : List Nat) (xs : List D) (s : DSt) : Option DSt := dPar.parGo is xs s
def kAugOut (o : Option Rv) (s : DSt) (i : Nat) : Option (Fl × DSt) := match o with
  | some (.d z) => (setS s i (.d z)).bind kNx
  | _ => none
def kAugc (op : D → D → Option Rv) (i : Nat) (x : D) (s : DSt) (y : D) : Option (Fl × DSt) := kAugOut (op x y) s i
def kAugb (op : D → D → Option Rv) (i : Nat) (v : Rv) (p : Rv × DSt) : Option (Fl × DSt) := match v with
  | .d x => (look p.2 p.1).bind (kAugc op i x p.2)
  | _ => none
def kAug (op : D → D → Option Rv) (i : Nat) (f : DE) (v : Rv × DSt) : Option (Fl × DSt) := (f v.2).bind (kAugb op i v.1)
def kPutL (o : Option SV) (st : DSt) (i : Nat) (xs : List D) : Option DSt := match o with
  | some (.own _) => some (st.set i (some (.own xs)))
  | some (.lent _) => some (st.set i (some (.lent xs)))
  | _ => none
def kGetL (o : Option SV) : Option (List D) := match o with
  | some (.own xs) => some xs
  | some (.lent xs) => some xs
  | _ => none
def kAppc (i : Nat) (x : D) (s : DSt) (xs : List D) : Option (Fl × DSt) := if xs.length < sizeLine then (putL s i (xs ++ [x])).bind kNx else none
def kAppb (i : Nat) (q : D × DSt) : Option (Fl × DSt) := (getL q.2 i).bind (kAppc i q.1 q.2)
def kAppa (i : Nat) (p : Rv × DSt) : Option (Fl × DSt) := (toD p.2 p.1).bind (kAppb i)
def kApp (i : Nat) (f : DE) (st : DSt) (_ : List D) : Option (Fl × DSt) := (f st).bind (kAppa i)
def kSxe (i : Nat) (x : D) (s : DSt) (xs : List D) (n : Nat) : Option (Fl × DSt) := (putL s i (xs.set n x)).bind kNx
def kSxd (i : Nat) (x : D) (s : DSt) (j : Int) (xs : List D) : Option (Fl × DSt) := (ixAt xs j).bind (kSxe i x s xs)
def kSxc (i : Nat) (x : D) (o : Option D) (s : DSt) : Option (Fl × DSt) := match o with
  | some (.int j) => (getL s i).bind (kSxd i x s j)
  | _ => none
def kSxb (i : Nat) (x : D) (r : Rv × DSt) : Option (Fl × DSt) := kSxc i x (look r.2 r.1) r.2
def kSxa2 (i : Nat) (k : DE) (q : D × DSt) (_ : List D) : Option (Fl × DSt) := (k q.2).bind (kSxb i q.1)
def kSxa (i : Nat) (k : DE) (q : D × DSt) : Option (Fl × DSt) := (getL q.2 i).bind (kSxa2 i k q)
def kSx (i : Nat) (k : DE) (p : Rv × DSt) : Option (Fl × DSt) := (toD p.2 p.1).bind (kSxa i k)
def kAxi (i : Nat) (z : D) (s : DSt) (ys : List D) (n : Nat) : Option (Fl × DSt) := (putL s i (ys.set n z)).bind kNx
def kAxh (i : Nat) (z : D) (s : DSt) (j : Int) (ys : List D) : Option (Fl × DSt) := (ixAt ys j).bind (kAxi i z s ys)
def kAxg (o : Option Rv) (i : Nat) (s : DSt) (j : Int) : Option (Fl × DSt) := match o with
  | some (.d z) => (getL s i).bind (kAxh i z s j)
  | _ => none
def kAxf (op : D → D → Option Rv) (i : Nat) (j : Int) (x : D) (s : DSt) (y : D) : Option (Fl × DSt) := kAxg (op x y) i s j
def kAxe (op : D → D → Option Rv) (i : Nat) (j : Int) (x : D) (p : Rv × DSt) : Option (Fl × DSt) := (look p.2 p.1).bind (kAxf op i j x p.2)
def kAxd (op : D → D → Option Rv) (i : Nat) (f : DE) (j : Int) (s : DSt) (x : D) : Option (Fl × DSt) := (f s).bind (kAxe op i j x)
def kAxc (op : D → D → Option Rv) (i : Nat) (f : DE) (j : Int) (s : DSt) (xs : List D) (n : Nat) : Option (Fl × DSt) := (xs[n]?).bind (kAxd op i f j s)
def kAxb (op : D → D → Option Rv) (i : Nat) (f : DE) (j : Int) (s : DSt) (xs : List D) : Option (Fl × DSt) := (ixAt xs j).bind (kAxc op i f j s xs)
def kAxa (op : D → D → Option Rv) (i : Nat) (f : DE) (o : Option D) (s : DSt) : Option (Fl × DSt) := match o with
  | some (.int j) => (getL s i).bind (kAxb op i f j s)
  | _ => none
def kAx2 (op : D → D → Option Rv) (i : Nat) (f : DE) (r : Rv × DSt) : Option (Fl × DSt) := kAxa op i f (look r.2 r.1) r.2
def kAx (op : D → D → Option Rv) (i : Nat) (k f : DE) (st : DSt) (_ : List D) : Option (Fl × DSt) := (k st).bind (kAx2 op i f)
def kDrop (p : Rv × DSt) : Option (Fl × DSt) := some (.nx, p.2)
def kRetSl (o : Option SV) (s : DSt) (i : Nat) : Option (Fl × DSt) := match o with
  | some (.d x) => some (.rt (.d x), s)
  | some (.own xs) => some (.rt (.own xs), s.set i none)
  | _ => none
def kRetv (p : Rv × DSt) : Option (Fl × DSt) := match p.1 with
  | .d x => some (.rt (.d x), p.2)
  | .tmp xs => some (.rt (.own xs), p.2)
  | .sl i => kRetSl (p.2.getD i none) p.2 i
def kForb (g : DG) (b : DS) (xs : List D) (p : Fl × DSt) : Option (Fl × DSt) := match p.1 with
  | .nx => forGo g b xs p.2
  | .ct => forGo g b xs p.2
  | .bk => some (.nx, p.2)
  | .rt r => some (.rt r, p.2)
def kFora (g : DG) (b : DS) (xs : List D) (s : DSt) : Option (Fl × DSt) := (b s).bind (kForb g b xs)
def kFor (g : DG) (b : DS) (p : List D × DSt) : Option (Fl × DSt) := forGo g b p.1 p.2
def kOuts (xs : List D) (o : List (List D)) : Option (List (List D)) := some (xs :: o)
def kOutsM (o : Option SV) (st : DSt) (r : List Ar) (i : Nat) : Option (List (List D)) := match o with
  | some (.lent xs) => (outsGo st r (i + 1)).bind (kOuts xs)
  | _ => none
def kRunb (f : Fl) (o : List (List D)) : Option (Rt × List (List D)) := match f with
  | .nx => some (.d .none, o)
  | .rt r => some (r, o)
  | _ => none
def kRun (as : List Ar) (p : Fl × DSt) : Option (Rt × List (List D)) := (outsGo p.2 as 0).bind (kRunb p.1)
def kGs (h : DGs) (r : List D) (s : DSt) : Option DSt := h r s
/-- one after the other; simp never looks ahead -/
def obind {α β : Type} (x : Option α) (f : α → Option β) : Option β := x.bind f
@[simp] theorem obind_some {α β : Type} (a : α) (f : α → Option β) : obind (some a) f = f a := (rfl)
@[simp] theorem obind_none {α β : Type} (f : α → Option β) : obind none f = none := (rfl)
section
variable (st s : DSt)
@[simp] theorem kRet_ap {α β : Type} (s : β) (z : α) : kRet s z = some (z, s) := (rfl)
@[simp] theorem kPush_ap {α β : Type} (x : α) (xs : List α) (s : β) : kPush x (xs, s) = some (x :: xs, s) := (rfl)
@[simp] theorem kOne_ap {α : Type} (x : α) (xs : List α) : kOne x xs = some (x :: xs) := (rfl)
@[simp] theorem lookS_d (x) : lookS (some (.d x)) = some x := (rfl)
@[simp] theorem lookS_own (x) : lookS (some (.own x)) = some (.list x) := (rfl)
@[simp] theorem lookS_lent (x) : lookS (some (.lent x)) = some (.list x) := (rfl)
@[simp] theorem look_d (x) : look st (.d x) = some x := (rfl)
@[simp] theorem look_tmp (x) : look st (.tmp x) = some (.list x) := (rfl)
@[simp] theorem look_sl (i) : look st (.sl i) = lookS (st.getD i none) := (rfl)
@[simp] theorem looks_nil : looks st [] = some [] := (rfl)
@[simp] theorem looks_cons (r rs) : looks st (r :: rs) = obind (look st r) (kLooks st rs) := (rfl)
@[simp] theorem kLooks_ap (rs x) : kLooks st rs x = obind (looks st rs) (kOne x) := (rfl)
@[simp] theorem kGive_d (x i) : kGive (some (.d x)) i st = some (x, st) := (rfl)
@[simp] theorem kGive_own (xs i) : kGive (some (.own xs)) i st = some (.list xs, st.set i (some (.d (.list xs)))) := (rfl)
@[simp] theorem toD_d (x) : toD st (.d x) = some (x, st) := (rfl)
@[simp] theorem toD_tmp (x) : toD st (.tmp x) = some (.list x, st) := (rfl)
@[simp] theorem toD_sl (i) : toD st (.sl i) = kGive (st.getD i none) i st := (rfl)
@[simp] theorem toDs_nil : toDs st [] = some ([], st) := (rfl)
@[simp] theorem toDs_cons (r rs) : toDs st (r :: rs) = obind (toD st r) (kToDs rs) := (rfl)
@[simp] theorem kToDs_ap (rs x) : kToDs rs (x, s) = obind (toDs s rs) (kPush x) := (rfl)
@[simp] theorem dVar_ap (i) : dVar i st = kVar (st.getD i none) i st := (rfl)
@[simp] theorem kVar_d (x i) : kVar (some (.d x)) i st = some (.d x, st) := (rfl)
@[simp] theorem kVar_own (x i) : kVar (some (.own x)) i st = some (.sl i, st) := (rfl)
@[simp] theorem kVar_lent (x i) : kVar (some (.lent x)) i st = some (.sl i, st) := (rfl)
@[simp] theorem dC_ap (x) : dC x st = some (.d x, st) := (rfl)
@[simp] theorem dNil_ap : dNil st = some ([], st) := (rfl)
@[simp] theorem dCons_ap (f g) : dCons f g st = obind (f st) (kCons g) := (rfl)
@[simp] theorem kCons_ap (g r) : kCons g (r, s) = obind (g s) (kPush r) := (rfl)
@[simp] theorem dOp2_ap (op f g) : dOp2 op f g st = obind (f st) (kOp2 op g) := (rfl)
@[simp] theorem kOp2_ap (op g r) : kOp2 op g (r, s) = obind (g s) (kOp2b op r) := (rfl)
@[simp] theorem kOp2b_ap (op r r2) : kOp2b op r (r2, s) = obind (look s r) (kOp2c op (look s r2) s) := (rfl)
@[simp] theorem kOp2c_ap (op o x) : kOp2c op o s x = obind o (kOp2d op x s) := (rfl)
@[simp] theorem kOp2d_ap (op x y) : kOp2d op x s y = obind (op x y) (kRet s) := (rfl)
@[simp] theorem dOp1_ap (op f) : dOp1 op f st = obind (f st) (kOp1 op) := (rfl)
@[simp] theorem kOp1_ap (op r) : kOp1 op (r, s) = obind (look s r) (kOp1b op s) := (rfl)
@[simp] theorem kOp1b_ap (op x) : kOp1b op s x = obind (op x) (kRet s) := (rfl)
@[simp] theorem dCallB_ap (op f) : dCallB op f st = obind (f st) (kCallB op) := (rfl)
@[simp] theorem kCallB_ap (op rs) : kCallB op (rs, s) = obind (looks s rs) (kCallBb op s) := (rfl)
@[simp] theorem kCallBb_ap (op xs) : kCallBb op s xs = obind (op xs) (kRet s) := (rfl)
@[simp] theorem dSlice_ap (op f lo hi) : dSlice op f lo hi st = obind (f st) (kSl op lo hi) := (rfl)
@[simp] theorem kSl_ap (op lo hi r) : kSl op lo hi (r, s) = obind (lo s) (kSlb op r hi) := (rfl)
@[simp] theorem kSlb_ap (op r hi l) : kSlb op r hi (l, s) = obind (hi s) (kSlc op r l) := (rfl)
@[simp] theorem kSlc_ap (op r l h) : kSlc op r l (h, s) = obind (look s r) (kSld op l h s) := (rfl)
@[simp] theorem kSld_ap (op l h x) : kSld op l h s x = obind (op x l h) (kRet s) := (rfl)
@[simp] theorem dNoPart_ap : dNoPart st = some (none, st) := (rfl)
@[simp] theorem dPart_ap (f) : dPart f st = obind (f st) kPart := (rfl)
@[simp] theorem kPart_ap (r) : kPart (r, s) = kPartb (look s r) s := (rfl)
@[simp] theorem kPartb_i (i) : kPartb (some (.int i)) s = some (some i, s) := (rfl)
@[simp] theorem dList_ap (f) : dList f st = obind (f st) kList := (rfl)
@[simp] theorem kList_ap (rs) : kList (rs, s) = obind (toDs s rs) kListb := (rfl)
@[simp] theorem kListb_ap (xs) : kListb (xs, s) = if xs.length ≤ sizeLine then some (.tmp xs, s) else none := (rfl)
@[simp] theorem dTup_ap (f) : dTup f st = obind (f st) kTup := (rfl)
@[simp] theorem kTup_ap (rs) : kTup (rs, s) = obind (toDs s rs) kTupb := (rfl)
@[simp] theorem kTupb_ap (xs) : kTupb (xs, s) = if xs.length ≤ sizeLine then some (.d (.tuple xs), s) else none := (rfl)
@[simp] theorem dTest_ap (f) : dTest f st = obind (f st) kTest := (rfl)
@[simp] theorem kTest_ap (r) : kTest (r, s) = kTestb (look s r) s := (rfl)
@[simp] theorem kTestb_b (b) : kTestb (some (.bool b)) s = some (b, s) := (rfl)
@[simp] theorem dNot_ap (f) : dNot f st = obind (f st) kNot := (rfl)
@[simp] theorem kNot_ap (b) : kNot (b, s) = some (!b, s) := (rfl)
@[simp] theorem dAnd_ap (f g) : dAnd f g st = obind (f st) (kAnd g) := (rfl)
@[simp] theorem kAnd_ap (g b) : kAnd g (b, s) = if b = true then g s else some (false, s) := (rfl)
@[simp] theorem dOr_ap (f g) : dOr f g st = obind (f st) (kOr g) := (rfl)
@[simp] theorem kOr_ap (g b) : kOr g (b, s) = if b = true then some (true, s) else g s := (rfl)
@[simp] theorem dAndV_ap (f g) : dAndV f g st = obind (f st) (kAndV g) := (rfl)
@[simp] theorem kAndV_ap (g r) : kAndV g (r, s) = kAndVb g (look s r) s := (rfl)
@[simp] theorem kAndVb_b (g b) : kAndVb g (some (.bool b)) s = if b = true then g s else some (.d (.bool false), s) := (rfl)
@[simp] theorem dOrV_ap (f g) : dOrV f g st = obind (f st) (kOrV g) := (rfl)
@[simp] theorem kOrV_ap (g r) : kOrV g (r, s) = kOrVb g (look s r) s := (rfl)
@[simp] theorem kOrVb_b (g b) : kOrVb g (some (.bool b)) s = if b = true then some (.d (.bool true), s) else g s := (rfl)
@[simp] theorem dNotV_ap (f) : dNotV f st = obind (f st) kNotV := (rfl)
@[simp] theorem kNotV_ap (r) : kNotV (r, s) = kNotVb (look s r) s := (rfl)
@[simp] theorem kNotVb_b (b) : kNotVb (some (.bool b)) s = some (.d (.bool (!b)), s) := (rfl)
@[simp] theorem dIf_ap (t f g) : dIf t f g st = obind (t st) (kIf f g) := (rfl)
@[simp] theorem kIf_ap {α : Type} (f g : DSt → Option α) (b) : kIf f g (b, s) = if b = true then f s else g s := (rfl)
@[simp] theorem marsh_nil : marsh st [] = some ([], st) := (rfl)
@[simp] theorem marsh_false (r rs) : marsh st ((r, false) :: rs) = obind (toD st r) (kM rs) := by
  rw [marsh]
  rfl
@[simp] theorem kM_ap (rs x) : kM rs (x, s) = obind (marsh s rs) (kPush (.inl x)) := (rfl)
@[simp] theorem marsh_true (i rs) : marsh st ((.sl i, true) :: rs) = obind (marsh st rs) (kPush (.inr i)) := by
  rw [marsh]
  rfl
@[simp] theorem lentAt_l (x) : lentAt st (.inl x) = some (.d x) := (rfl)
@[simp] theorem lentAt_r (i) : lentAt st (.inr i) = kLentAt (st.getD i none) := (rfl)
@[simp] theorem kLentAt_own (xs) : kLentAt (some (.own xs)) = some (.m xs) := (rfl)
@[simp] theorem kLentAt_lent (xs) : kLentAt (some (.lent xs)) = some (.m xs) := (rfl)
@[simp] theorem lents_nil : lents st [] = some [] := (rfl)
@[simp] theorem lents_cons (a r) : lents st (a :: r) = obind (lentAt st a) (kLents st r) := (rfl)
@[simp] theorem kLents_ap (r x) : kLents st r x = obind (lents st r) (kOne x) := (rfl)
@[simp] theorem lentIx_nil : lentIx [] = [] := (rfl)
@[simp] theorem lentIx_l (x r) : lentIx (.inl x :: r) = lentIx r := (rfl)
@[simp] theorem lentIx_r (x r) : lentIx (.inr x :: r) = x :: lentIx r := (rfl)
@[simp] theorem putBack_nil : putBack st [] [] = some st := (rfl)
@[simp] theorem putBack_cons (i is xs r) : putBack st (i :: is) (xs :: r) = kPutBack (st.getD i none) st i is xs r := by
  rw [putBack]
  rfl
@[simp] theorem kPutBack_own (ys i is xs r) : kPutBack (some (.own ys)) st i is xs r = putBack (st.set i (some (.own xs))) is r := (rfl)
@[simp] theorem kPutBack_lent (ys i is xs r) : kPutBack (some (.lent ys)) st i is xs r = putBack (st.set i (some (.lent xs))) is r := (rfl)
@[simp] theorem rvOf_d (x) : rvOf (.d x) = .d x := (rfl)
@[simp] theorem rvOf_own (x) : rvOf (.own x) = .tmp x := (rfl)
@[simp] theorem dCall_ap (g modes more f) : dCall g modes more f st = obind (f st) (kCall g modes more) := (rfl)
@[simp] theorem kCall_ap (g modes more rs) : kCall g modes more (rs, s) = obind (marsh s (rs.zip modes)) (kCalla g (more.map Ar.d) rs.length modes.length) := (rfl)
@[simp] theorem kCalla_ap (g more n k as) : kCalla g more n k (as, s) = if (lentIx as).length ≤ 1 ∧ n = k then obind (lents s as) (kCallb g more s (lentIx as)) else none := (rfl)
@[simp] theorem kCallb_ap (g more is as) : kCallb g more s is as = obind (g (as ++ more)) (kCallc s is) := (rfl)
@[simp] theorem kCallc_ap (is r o) : kCallc s is (r, o) = obind (putBack s is o) (kCalld r) := (rfl)
@[simp] theorem kCalld_ap (r) : kCalld r s = some (rvOf r, s) := (rfl)
@[simp] theorem dCallK_ap (g n m perm more f f2) : dCallK g n m perm more f f2 st = obind (f st) (kCallK g n m perm more f2) := (rfl)
@[simp] theorem kCallK_ap (g n m perm more f2 rs) : kCallK g n m perm more f2 (rs, s) = obind (f2 s) (kCallKb g n m perm more rs) := (rfl)
@[simp] theorem kCallKb_ap (g n m perm more rs rs2) : kCallKb g n m perm more rs (rs2, s) = obind (toDs s (rs ++ rs2)) (kCallKc g perm more (rs.length = n ∧ rs2.length = m)) := (rfl)
@[simp] theorem kCallKc_ap (g perm more) (c : Prop) [Decidable c] (xs) : kCallKc g perm more c (xs, s) = if c then obind (g ((permute perm (xs ++ more)).map Ar.d)) (kCallKd s) else none := (rfl)
@[simp] theorem kCallKd_ap (r o) : kCallKd s (r, o) = some (rvOf r, s) := (rfl)
@[simp] theorem permute_nilS {α : Type} (xs : List α) : permute [] xs = [] := (rfl)
@[simp] theorem permute_consS {α : Type} (i is) (xs : List α) (x : α) (h : xs[i]? = some x) : permute (i :: is) xs = x :: permute is xs := by
  simp [permute, List.filterMap_cons, h]
@[simp] theorem dIter_ap (op f) : dIter op f st = obind (f st) (kIter op) := (rfl)
@[simp] theorem kIter_ap (op r) : kIter op (r, s) = obind (toD s r) (kIterb op) := (rfl)
@[simp] theorem kIterb_ap (op x) : kIterb op (x, s) = obind (op x) (kRet s) := (rfl)
@[simp] theorem dIterA_ap (op f) : dIterA op f st = obind (f st) (kIterA op) := (rfl)
@[simp] theorem kIterA_ap (op rs) : kIterA op (rs, s) = obind (toDs s rs) (kIterAb op) := (rfl)
@[simp] theorem kIterAb_ap (op xs) : kIterAb op (xs, s) = obind (op xs) (kRet s) := (rfl)
@[simp] theorem gName_ap (i x) : gName i x st = setS st i (.d x) := (rfl)
@[simp] theorem setS_ap (i v) : setS st i v = kSetS (st.getD i none) st i v := (rfl)
@[simp] theorem kSetS_none (i v) : kSetS none st i v = if i < st.length then some (st.set i (some v)) else none := (rfl)
@[simp] theorem kSetS_d (x i v) : kSetS (some (.d x)) st i v = if i < st.length then some (st.set i (some v)) else none := (rfl)
@[simp] theorem kSetS_own (x i v) : kSetS (some (.own x)) st i v = if i < st.length then some (st.set i (some v)) else none := (rfl)
@[simp] theorem gNil_ap : gNil [] st = some st := (rfl)
@[simp] theorem gCons_ap (g h x r) : gCons g h (x :: r) st = obind (g x st) (kGs h r) := (rfl)
@[simp] theorem kGs_ap (h r) : kGs h r s = h r s := (rfl)
@[simp] theorem gTup_ap (n h xs) : gTup n h (.tuple xs) st = if xs.length = n then h xs st else none := (rfl)
@[simp] theorem wipeD_nil : wipeD st [] = st := (rfl)
@[simp] theorem wipeD_cons (v vs) : wipeD st (v :: vs) = (wipeD st vs).set v none := (rfl)
@[simp] theorem refill_nil (s0) : refill s0 st [] = st := (rfl)
@[simp] theorem refill_cons (s0 v vs) : refill s0 st (v :: vs) = (refill s0 st vs).set v (s0.getD v none) := (rfl)
theorem lcGo_nil (g t e vs) : lcGo g t e vs [] st = some ([], st) := (rfl)
theorem lcGo_cons (g t e vs x xs) : lcGo g t e vs (x :: xs) st = obind (g x st) (kLcTurn g t e vs xs) := (rfl)
@[simp] theorem kLcTurn_ap (g t e vs xs) : kLcTurn g t e vs xs s = obind (t s) (kLcTurnT g t e vs xs) := (rfl)
@[simp] theorem kLcTurnT_ap (g t e vs xs b) : kLcTurnT g t e vs xs (b, s) = if b = true then obind (e s) (kLcTurnD g t e vs xs) else lcGo g t e vs xs (wipeD s vs) := (rfl)
@[simp] theorem kLcTurnD_ap (g t e vs xs r) : kLcTurnD g t e vs xs (r, s) = obind (toD s r) (kLcTurnE g t e vs xs) := (rfl)
@[simp] theorem kLcTurnE_ap (g t e vs xs x) : kLcTurnE g t e vs xs (x, s) = obind (lcGo g t e vs xs (wipeD s vs)) (kPush x) := (rfl)
@[simp] theorem dLc_ap (it g t e vs) : dLc it g t e vs st = obind (it st) (kLc g t e vs) := (rfl)
@[simp] theorem kLc_ap (g t e vs xs) : kLc g t e vs (xs, s) = if xs.length ≤ sizeLine ∧ vs.all (fun i => kFree (s.getD i none)) = true then obind (lcGo g t e vs xs (wipeD s vs)) (kLcEnd s vs) else none := (rfl)
@[simp] theorem kLcEnd_ap (s0 vs xs) : kLcEnd s0 vs (xs, s) = some (.tmp xs, refill s0 s vs) := (rfl)
@[simp] theorem kFree_none : kFree none = true := (rfl)
@[simp] theorem kFree_d (x) : kFree (some (.d x)) = true := (rfl)
@[simp] theorem dTests_ap : dTests st = some (true, st) := (rfl)
@[simp] theorem dNext_ap : dNext st = some (.nx, st) := (rfl)
@[simp] theorem dSeq_ap (f g) : dSeq f g st = obind (f st) (kSeq g) := (rfl)
@[simp] theorem kSeq_nx (g) : kSeq g (.nx, s) = g s := (rfl)
@[simp] theorem kSeq_bk (g) : kSeq g (.bk, s) = some (.bk, s) := (rfl)
@[simp] theorem kSeq_ct (g) : kSeq g (.ct, s) = some (.ct, s) := (rfl)
@[simp] theorem kSeq_rt (g r) : kSeq g (.rt r, s) = some (.rt r, s) := (rfl)
@[simp] theorem dBreak_ap : dBreak st = some (.bk, st) := (rfl)
@[simp] theorem dCont_ap : dCont st = some (.ct, st) := (rfl)
@[simp] theorem dNever_ap : dNever st = none := (rfl)
@[simp] theorem kNx_ap : kNx s = some (.nx, s) := (rfl)
@[simp] theorem dSet_ap (i f) : dSet i f st = obind (f st) (kSet i) := (rfl)
@[simp] theorem kSet_d (i x) : kSet i (.d x, s) = obind (setS s i (.d x)) kNx := (rfl)
@[simp] theorem kSet_tmp (i xs) : kSet i (.tmp xs, s) = obind (setS s i (.own xs)) kNx := (rfl)
@[simp] theorem kSet_sl (i j) : kSet i (.sl j, s) = obind (kGive (s.getD j none) j s) (kSetD i) := (rfl)
@[simp] theorem kSetD_ap (i x) : kSetD i (x, s) = obind (setS s i (.d x)) kNx := (rfl)
@[simp] theorem dAsg_ap (g f) : dAsg g f st = obind (f st) (kAsg g) := (rfl)
@[simp] theorem kAsg_ap (g r) : kAsg g (r, s) = obind (toD s r) (kAsgb g) := (rfl)
@[simp] theorem kAsgb_ap (g x) : kAsgb g (x, s) = obind (g x s) kNx := (rfl)
@[simp] theorem dPar_ap (is f) : dPar is f st = obind (f st) (kPar is) := (rfl)
@[simp] theorem kPar_ap (is rs) : kPar is (rs, s) = obind (toDs s rs) (kParb is) := (rfl)
@[simp] theorem kParb_ap (is xs) : kParb is (xs, s) = obind (dPar.parGo is xs s) kNx := (rfl)
@[simp] theorem parGo_nil : dPar.parGo [] [] st = some st := (rfl)
@[simp] theorem parGo_cons (i is x xs) : dPar.parGo (i :: is) (x :: xs) st = obind (setS st i (.d x)) (kParGo is xs) := (rfl)
@[simp] theorem kParGo_ap (is xs) : kParGo is xs s = dPar.parGo is xs s := (rfl)
@[simp] theorem dAug_ap (op i f) : dAug op i f st = obind (dVar i st) (kAug op i f) := (rfl)
@[simp] theorem kAug_ap (op i f v) : kAug op i f (v, s) = obind (f s) (kAugb op i v) := (rfl)
@[simp] theorem kAugb_ap (op i x r) : kAugb op i (.d x) (r, s) = obind (look s r) (kAugc op i x s) := (rfl)
@[simp] theorem kAugc_ap (op i x y) : kAugc op i x s y = kAugOut (op x y) s i := (rfl)
@[simp] theorem kAugOut_d (z i) : kAugOut (some (.d z)) s i = obind (setS s i (.d z)) kNx := (rfl)
@[simp] theorem putL_ap (i xs) : putL st i xs = kPutL (st.getD i none) st i xs := (rfl)
@[simp] theorem kPutL_own (ys i xs) : kPutL (some (.own ys)) st i xs = some (st.set i (some (.own xs))) := (rfl)
@[simp] theorem kPutL_lent (ys i xs) : kPutL (some (.lent ys)) st i xs = some (st.set i (some (.lent xs))) := (rfl)
@[simp] theorem getL_ap (i) : getL st i = kGetL (st.getD i none) := (rfl)
@[simp] theorem kGetL_own (xs) : kGetL (some (.own xs)) = some xs := (rfl)
@[simp] theorem kGetL_lent (xs) : kGetL (some (.lent xs)) = some xs := (rfl)
@[simp] theorem dAppend_ap (i f) : dAppend i f st = obind (getL st i) (kApp i f st) := (rfl)
@[simp] theorem kApp_ap (i f xs) : kApp i f st xs = obind (f st) (kAppa i) := (rfl)
@[simp] theorem kAppa_ap (i r) : kAppa i (r, s) = obind (toD s r) (kAppb i) := (rfl)
@[simp] theorem kAppb_ap (i x) : kAppb i (x, s) = obind (getL s i) (kAppc i x s) := (rfl)
@[simp] theorem kAppc_ap (i x xs) : kAppc i x s xs = if xs.length < sizeLine then obind (putL s i (xs ++ [x])) kNx else none := (rfl)
@[simp] theorem dSetIx_ap (i k f) : dSetIx i k f st = obind (f st) (kSx i k) := (rfl)
@[simp] theorem kSx_ap (i k r) : kSx i k (r, s) = obind (toD s r) (kSxa i k) := (rfl)
@[simp] theorem kSxa_ap (i k x) : kSxa i k (x, s) = obind (getL s i) (kSxa2 i k (x, s)) := (rfl)
@[simp] theorem kSxa2_ap (i k x xs) : kSxa2 i k (x, s) xs = obind (k s) (kSxb i x) := (rfl)
@[simp] theorem kSxb_ap (i x r) : kSxb i x (r, s) = kSxc i x (look s r) s := (rfl)
@[simp] theorem kSxc_i (i x j) : kSxc i x (some (.int j)) s = obind (getL s i) (kSxd i x s j) := (rfl)
@[simp] theorem kSxd_ap (i x j xs) : kSxd i x s j xs = obind (ixAt xs j) (kSxe i x s xs) := (rfl)
@[simp] theorem kSxe_ap (i x xs n) : kSxe i x s xs n = obind (putL s i (xs.set n x)) kNx := (rfl)
@[simp] theorem dAugIx_ap (op i k f) : dAugIx op i k f st = obind (getL st i) (kAx op i k f st) := (rfl)
@[simp] theorem kAx_ap (op i k f xs) : kAx op i k f st xs = obind (k st) (kAx2 op i f) := (rfl)
@[simp] theorem kAx2_ap (op i f r) : kAx2 op i f (r, s) = kAxa op i f (look s r) s := (rfl)
@[simp] theorem kAxa_i (op i f j) : kAxa op i f (some (.int j)) s = obind (getL s i) (kAxb op i f j s) := (rfl)
@[simp] theorem kAxb_ap (op i f j xs) : kAxb op i f j s xs = obind (ixAt xs j) (kAxc op i f j s xs) := (rfl)
@[simp] theorem kAxc_ap (op i f j xs n) : kAxc op i f j s xs n = obind (xs[n]?) (kAxd op i f j s) := (rfl)
@[simp] theorem kAxd_ap (op i f j x) : kAxd op i f j s x = obind (f s) (kAxe op i j x) := (rfl)
@[simp] theorem kAxe_ap (op i j x r) : kAxe op i j x (r, s) = obind (look s r) (kAxf op i j x s) := (rfl)
@[simp] theorem kAxf_ap (op i j x y) : kAxf op i j x s y = kAxg (op x y) i s j := (rfl)
@[simp] theorem kAxg_d (z i j) : kAxg (some (.d z)) i s j = obind (getL s i) (kAxh i z s j) := (rfl)
@[simp] theorem kAxh_ap (i z j ys) : kAxh i z s j ys = obind (ixAt ys j) (kAxi i z s ys) := (rfl)
@[simp] theorem kAxi_ap (i z ys n) : kAxi i z s ys n = obind (putL s i (ys.set n z)) kNx := (rfl)
@[simp] theorem dDrop_ap (f) : dDrop f st = obind (f st) kDrop := (rfl)
@[simp] theorem kDrop_ap (r) : kDrop (r, s) = some (.nx, s) := (rfl)
@[simp] theorem dRet_ap (f) : dRet f st = obind (f st) kRetv := (rfl)
@[simp] theorem kRetv_d (x) : kRetv (.d x, s) = some (.rt (.d x), s) := (rfl)
@[simp] theorem kRetv_tmp (x) : kRetv (.tmp x, s) = some (.rt (.own x), s) := (rfl)
@[simp] theorem kRetv_sl (i) : kRetv (.sl i, s) = kRetSl (s.getD i none) s i := (rfl)
@[simp] theorem kRetSl_d (x i) : kRetSl (some (.d x)) s i = some (.rt (.d x), s) := (rfl)
@[simp] theorem kRetSl_own (x i) : kRetSl (some (.own x)) s i = some (.rt (.own x), s.set i none) := (rfl)
@[simp] theorem dRetN_ap : dRetN st = some (.rt (.d .none), st) := (rfl)
@[simp] theorem dIfS_ap (t f g) : dIfS t f g st = obind (t st) (kIf f g) := (rfl)
theorem forGo_nil (g b) : forGo g b [] st = some (.nx, st) := (rfl)
theorem forGo_cons (g b x xs) : forGo g b (x :: xs) st = obind (g x st) (kFora g b xs) := (rfl)
@[simp] theorem kFora_ap (g b xs) : kFora g b xs s = obind (b s) (kForb g b xs) := (rfl)
@[simp] theorem kForb_nx (g b xs) : kForb g b xs (.nx, s) = forGo g b xs s := (rfl)
@[simp] theorem kForb_ct (g b xs) : kForb g b xs (.ct, s) = forGo g b xs s := (rfl)
@[simp] theorem kForb_bk (g b xs) : kForb g b xs (.bk, s) = some (.nx, s) := (rfl)
@[simp] theorem kForb_rt (g b xs r) : kForb g b xs (.rt r, s) = some (.rt r, s) := (rfl)
@[simp] theorem dFor_ap (it g b) : dFor it g b st = obind (it st) (kFor g b) := (rfl)
@[simp] theorem kFor_ap (g b xs) : kFor g b (xs, s) = forGo g b xs s := (rfl)
@[simp] theorem arS_d (x) : arS (.d x) = .d x := (rfl)
@[simp] theorem arS_m (x) : arS (.m x) = .lent x := (rfl)
@[simp] theorem outsGo_nil (i) : outsGo st [] i = some [] := (rfl)
@[simp] theorem outsGo_d (x r i) : outsGo st (.d x :: r) i = outsGo st r (i + 1) := (rfl)
@[simp] theorem outsGo_m (x r i) : outsGo st (.m x :: r) i = kOutsM (st.getD i none) st r i := (rfl)
@[simp] theorem kOutsM_ap (xs r i) : kOutsM (some (.lent xs)) st r i = obind (outsGo st r (i + 1)) (kOuts xs) := (rfl)
@[simp] theorem kOuts_ap (xs o) : kOuts xs o = some (xs :: o) := (rfl)
end
theorem run_ap (n b as) : run n b as = obind (b (startD n as)) (kRun as) := (rfl)
@[simp] theorem kRun_ap (as f s) : kRun as (f, s) = obind (outsGo s as 0) (kRunb f) := (rfl)
@[simp] theorem kRunb_nx (o) : kRunb .nx o = some (.d .none, o) := (rfl)
@[simp] theorem kRunb_rt (r o) : kRunb (.rt r) o = some (r, o) := (rfl)
theorem whileN_det (t : DT) (b : DS) : ∀ (n m : Nat) (st : DSt) (r s), whileN t b n st = some r → whileN t b m st = some s → r = s := by
  intro n
  induction n with
  | zero => intro m st r s h _; simp [whileN] at h
  | succ n ih =>
    intro m st r s h h'
    cases m with
    | zero => simp [whileN] at h'
    | succ m =>
      simp only [whileN] at h h'
      cases ht : t st with
      | none => rw [ht] at h; simp at h
      | some q =>
        rw [ht] at h h'
        simp only [Option.bind_some] at h h'
        by_cases hq : q.1 = true
        · rw [if_pos hq] at h h'
          cases hb : b q.2 with
          | none => rw [hb] at h; simp at h
          | some p =>
            rw [hb] at h h'
            simp only [Option.bind_some] at h h'
            rcases p with ⟨p1, p2⟩
            cases p1 with
            | nx => exact ih m _ _ _ h h'
            | ct => exact ih m _ _ _ h h'
            | bk => rw [← Option.some.inj h, ← Option.some.inj h']
            | rt x => rw [← Option.some.inj h, ← Option.some.inj h']
        · rw [if_neg hq] at h h'
          rw [← Option.some.inj h, ← Option.some.inj h']
theorem dWhile_of {t : DT} {b : DS} {n : Nat} {st : DSt} {r} (h : whileN t b n st = some r) : dWhile t b st = some r := by
  unfold dWhile
  have hx : ∃ n r, whileN t b n st = some r := ⟨n, r, h⟩
  rw [dif_pos hx]
  exact congrArg some (whileN_det t b _ _ _ _ _ (Classical.choose_spec (Classical.choose_spec hx)) h)
theorem whileN_more {t : DT} {b : DS} {n : Nat} {st st' : DSt} {r} (ht : t st = some (true, st)) (hb : b st = some (.nx, st')) (h : whileN t b n st' = some r) : whileN t b (n + 1) st = some r := by
  simp only [whileN, ht, hb, Option.bind_some, if_true]
  exact h
theorem whileN_end {t : DT} {b : DS} {n : Nat} {st : DSt} (ht : t st = some (false, st)) : whileN t b (n + 1) st = some (.nx, st) := by
  simp only [whileN, ht, Option.bind_some, if_neg Bool.false_ne_true]
/-! ### operators on numbers -/
@[simp] theorem opAdd_ii (i j : Int) : opAdd (.int i) (.int j) = some (.d (.int (i + j))) := (rfl)
@[simp] theorem opAdd_ll (xs ys : List D) : opAdd (.list xs) (.list ys) = if xs.length + ys.length ≤ sizeLine then some (.tmp (xs ++ ys)) else none := (rfl)
@[simp] theorem opAddI_ii (i j : Int) : opAddI (.int i) (.int j) = some (.d (.int (i + j))) := (rfl)
@[simp] theorem opSub_ii (i j : Int) : opSub (.int i) (.int j) = some (.d (.int (i - j))) := (rfl)
@[simp] theorem opMul_ii (i j : Int) : opMul (.int i) (.int j) = if i.natAbs.log2 + j.natAbs.log2 < 1000000 then some (.d (.int (i * j))) else none := (rfl)
@[simp] theorem opMul_li (xs : List D) (k : Int) : opMul (.list xs) (.int k) = if -(2 ^ 63) ≤ k ∧ k < 2 ^ 63 ∧ xs.length * k.toNat ≤ sizeLine then some (.tmp (List.replicate k.toNat xs).flatten) else none := (rfl)
@[simp] theorem opDiv_ii (i j : Int) : opDiv (.int i) (.int j) = if 0 < j ∧ j.natAbs.log2 < 9000 then some (.d (.int (i / j))) else none := (rfl)
@[simp] theorem opMod_ii (i j : Int) : opMod (.int i) (.int j) = if 0 < j then some (.d (.int (i % j))) else none := (rfl)
@[simp] theorem opPow_ii (i j : Int) : opPow (.int i) (.int j) = if 0 ≤ j ∧ j ≤ 1000000 ∧ i.natAbs < 2 ^ 64 then some (.d (.int (i ^ j.toNat))) else none := (rfl)
@[simp] theorem opNeg_i (i : Int) : opNeg (.int i) = some (.d (.int (-i))) := (rfl)
@[simp] theorem opLt_ii (i j : Int) : opLt (.int i) (.int j) = some (.d (.bool (decide (i < j)))) := (rfl)
@[simp] theorem opLe_ii (i j : Int) : opLe (.int i) (.int j) = some (.d (.bool (decide (i ≤ j)))) := (rfl)
@[simp] theorem opGt_ii (i j : Int) : opGt (.int i) (.int j) = some (.d (.bool (decide (j < i)))) := (rfl)
@[simp] theorem opGe_ii (i j : Int) : opGe (.int i) (.int j) = some (.d (.bool (decide (j ≤ i)))) := (rfl)
@[simp] theorem eqv_ii (i j : Int) : PyData.eqv (.int i) (.int j) = (i == j) := by simp [PyData.eqv]
@[simp] theorem shaped_i (i : Int) : flat (.int i) = true := by simp [flat, PyData.plain, PyData.depth]
@[simp] theorem opEq_ii (i j : Int) : opEq (.int i) (.int j) = some (.d (.bool (i == j))) := by simp [opEq]
@[simp] theorem opNe_ii (i j : Int) : opNe (.int i) (.int j) = some (.d (.bool (!(i == j)))) := by simp [opNe]
@[simp] theorem opIx_li (xs : List D) (i : Int) : opIx (.list xs) (.int i) = obind (ixAt xs i) fun n => obind (xs[n]?) fun x => some (.d x) := (rfl)
@[simp] theorem opIx_ti (xs : List D) (i : Int) : opIx (.tuple xs) (.int i) = obind (ixAt xs i) fun n => obind (xs[n]?) fun x => some (.d x) := (rfl)
@[simp] theorem ixAt_ap {α : Type} (xs : List α) (i : Int) : ixAt xs i = if 0 ≤ i then (if i < xs.length then some i.toNat else none) else if -(xs.length : Int) ≤ i then some (i + xs.length).toNat else none := (rfl)
@[simp] theorem bLen_l (xs : List D) : bLen [.list xs] = some (.d (.int xs.length)) := (rfl)
@[simp] theorem bLen_t (xs : List D) : bLen [.tuple xs] = some (.d (.int xs.length)) := (rfl)
@[simp] theorem bInt_i (i : Int) : bInt [.int i] = some (.d (.int i)) := (rfl)
@[simp] theorem bInt_b (b : Bool) : bInt [.bool b] = some (.d (.int (if b then 1 else 0))) := (rfl)
@[simp] theorem boolsOf_nil : boolsOf [] = some [] := (rfl)
@[simp] theorem boolsOf_cons (b r) : boolsOf (.bool b :: r) = obind (boolsOf r) fun bs => some (b :: bs) := (rfl)
@[simp] theorem bAll_l (xs : List D) : bAll [.list xs] = obind (boolsOf xs) fun bs => some (.d (.bool (bs.all id))) := (rfl)
@[simp] theorem bAny_l (xs : List D) : bAny [.list xs] = obind (boolsOf xs) fun bs => some (.d (.bool (bs.any id))) := (rfl)
@[simp] theorem bSum_l (xs : List D) : bSum [.list xs] = obind (intsOf xs) fun is => some (.d (.int is.sum)) := (rfl)
@[simp] theorem bList_l (xs : List D) : bList [.list xs] = some (.tmp xs) := (rfl)
@[simp] theorem bList_t (xs : List D) : bList [.tuple xs] = some (.tmp xs) := (rfl)
@[simp] theorem bIsi_none (T) : bIsi T .none = some (.d (.bool (isTy .none T))) := (rfl)
@[simp] theorem bIsi_b (T b) : bIsi T (.bool b) = some (.d (.bool (isTy (.bool b) T))) := (rfl)
@[simp] theorem bIsi_i (T b) : bIsi T (.int b) = some (.d (.bool (isTy (.int b) T))) := (rfl)
@[simp] theorem bIsi_s (T b) : bIsi T (.str b) = some (.d (.bool (isTy (.str b) T))) := (rfl)
@[simp] theorem bIsi_l (T b) : bIsi T (.list b) = some (.d (.bool (isTy (.list b) T))) := (rfl)
@[simp] theorem bIsi_t (T b) : bIsi T (.tuple b) = some (.d (.bool (isTy (.tuple b) T))) := (rfl)
@[simp] theorem bIsi2_none (T U) : bIsi2 T U .none = some (.d (.bool (isTy .none T || isTy .none U))) := (rfl)
@[simp] theorem bIsi2_b (T U b) : bIsi2 T U (.bool b) = some (.d (.bool (isTy (.bool b) T || isTy (.bool b) U))) := (rfl)
@[simp] theorem bIsi2_i (T U b) : bIsi2 T U (.int b) = some (.d (.bool (isTy (.int b) T || isTy (.int b) U))) := (rfl)
@[simp] theorem bIsi2_s (T U b) : bIsi2 T U (.str b) = some (.d (.bool (isTy (.str b) T || isTy (.str b) U))) := (rfl)
@[simp] theorem bIsi2_l (T U b) : bIsi2 T U (.list b) = some (.d (.bool (isTy (.list b) T || isTy (.list b) U))) := (rfl)
@[simp] theorem bIsi2_t (T U b) : bIsi2 T U (.tuple b) = some (.d (.bool (isTy (.tuple b) T || isTy (.tuple b) U))) := (rfl)
@[simp] theorem tyName_none : tyName .none = "NoneType" := (rfl)
@[simp] theorem tyName_b (b) : tyName (.bool b) = "bool" := (rfl)
@[simp] theorem tyName_i (b) : tyName (.int b) = "int" := (rfl)
@[simp] theorem tyName_s (b) : tyName (.str b) = "str" := (rfl)
@[simp] theorem tyName_l (b) : tyName (.list b) = "list" := (rfl)
@[simp] theorem tyName_t (b) : tyName (.tuple b) = "tuple" := (rfl)
@[simp] theorem isTy_ap (x T) : isTy x T = (tyName x == T || (T == "int" && tyName x == "bool")) := (rfl)
@[simp] theorem opIs_ap (x y) : opIs x y = obind (isV x y) fun b => some (.d (.bool b)) := (rfl)
@[simp] theorem opIsNot_ap (x y) : opIsNot x y = obind (isV x y) fun b => some (.d (.bool (!b))) := (rfl)
@[simp] theorem isV_nn : isV .none .none = some true := (rfl)
@[simp] theorem isV_bn (b) : isV (.bool b) .none = some false := (rfl)
@[simp] theorem isV_in (b) : isV (.int b) .none = some false := (rfl)
@[simp] theorem isV_sn (b) : isV (.str b) .none = some false := (rfl)
@[simp] theorem isV_ln (b) : isV (.list b) .none = some false := (rfl)
@[simp] theorem isV_tn (b) : isV (.tuple b) .none = some false := (rfl)
@[simp] theorem isV_bb (b c) : isV (.bool b) (.bool c) = some (b == c) := (rfl)
@[simp] theorem isV_nb (c) : isV .none (.bool c) = some false := (rfl)
@[simp] theorem isV_ib (b c) : isV (.int b) (.bool c) = some false := (rfl)
@[simp] theorem isV_sb (b c) : isV (.str b) (.bool c) = some false := (rfl)
@[simp] theorem isV_lb (b c) : isV (.list b) (.bool c) = some false := (rfl)
@[simp] theorem isV_tb (b c) : isV (.tuple b) (.bool c) = some false := (rfl)
@[simp] theorem opSlice_l (xs lo hi) : opSlice (.list xs) lo hi = some (.tmp (cutD xs lo hi)) := (rfl)
@[simp] theorem opRev_l (xs) : opRev (.list xs) = some (.tmp xs.reverse) := (rfl)
@[simp] theorem iList_l (xs) : iList (.list xs) = some xs := (rfl)
@[simp] theorem iTup_l (xs) : iTup (.tuple xs) = some xs := (rfl)
@[simp] theorem iSeq_l (xs) : iSeq (.list xs) = some xs := (rfl)
@[simp] theorem iSeq_t (xs) : iSeq (.tuple xs) = some xs := (rfl)
@[simp] theorem iZip_l (xs ys) : iZip [.list xs, .list ys] = some ((xs.zip ys).map fun p => .tuple [p.1, p.2]) := (rfl)
@[simp] theorem iZip_t (xs ys) : iZip [.tuple xs, .tuple ys] = some ((xs.zip ys).map fun p => .tuple [p.1, p.2]) := (rfl)
@[simp] theorem iEnum_l (xs) : iEnum [.list xs] = some (xs.zipIdx.map fun p => .tuple [.int (p.2 : Nat), p.1]) := (rfl)
@[simp] theorem iRange1_i (n : Int) : iRange1 [.int n] = if -(2 ^ 62) ≤ n ∧ n < 2 ^ 62 then some ((List.range n.toNat).map fun i => .int (0 + (i : Nat))) else none := (rfl)
@[simp] theorem iRange2_i (a b : Int) : iRange2 [.int a, .int b] = if -(2 ^ 62) ≤ a ∧ a < 2 ^ 62 ∧ -(2 ^ 62) ≤ b ∧ b < 2 ^ 62 then some ((List.range (b - a).toNat).map fun i => .int (a + (i : Nat))) else none := (rfl)
/-! ### the further ones -/
def kChainOut (s : DSt) (op' : D → D → Option Rv) (o : Option D) (x : D) : Option (Rv × DSt) := o.bind fun u => (op' x u).bind (kRet s)
def kChaind (op' : D → D → Option Rv) (r2 : Rv) (w : Rv × DSt) : Option (Rv × DSt) := (look w.2 r2).bind (kChainOut w.2 op' (look w.2 w.1))
def kChainc (op' : D → D → Option Rv) (h : DE) (r2 : Rv) (s : DSt) (z : Rv) : Option (Rv × DSt) := match z with
  | .d (.bool true) => (h s).bind (kChaind op' r2)
  | .d (.bool false) => some (.d (.bool false), s)
  | _ => none
def kChainb2 (op op' : D → D → Option Rv) (h : DE) (r2 : Rv) (s : DSt) (o : Option D) (x : D) : Option (Rv × DSt) := o.bind fun y => (op x y).bind (kChainc op' h r2 s)
def kChainb (op op' : D → D → Option Rv) (h : DE) (r : Rv) (q : Rv × DSt) : Option (Rv × DSt) := (look q.2 r).bind (kChainb2 op op' h q.1 q.2 (look q.2 q.1))
def kChain (op op' : D → D → Option Rv) (g h : DE) (p : Rv × DSt) : Option (Rv × DSt) := (g p.2).bind (kChainb op op' h p.1)
theorem kChainc_eq (op' h r2 s) (z : Rv) : (match z with
  | .d (.bool true) => (h s).bind fun w => (look w.2 r2).bind fun y' => (look w.2 w.1).bind fun u => (op' y' u).bind fun z' => some (z', w.2)
  | .d (.bool false) => some (Rv.d (.bool false), s)
  | _ => none) = kChainc op' h r2 s z := by
  unfold kChainc
  rcases z with z | z | z
  · cases z with
    | bool b => cases b <;> rfl
    | none => rfl
    | int b => rfl
    | str b => rfl
    | list b => rfl
    | tuple b => rfl
    | dict b => rfl
  · rfl
  · rfl
@[simp] theorem dChain_ap (op op' f g h) (st : DSt) : dChain op op' f g h st = obind (f st) (kChain op op' g h) := by
  show (f st).bind _ = (f st).bind _
  congr 1
@[simp] theorem kChain_ap (op op' g h r) (s : DSt) : kChain op op' g h (r, s) = obind (g s) (kChainb op op' h r) := (rfl)
@[simp] theorem kChainb_ap (op op' h r r2) (s : DSt) : kChainb op op' h r (r2, s) = obind (look s r) (kChainb2 op op' h r2 s (look s r2)) := (rfl)
@[simp] theorem kChainb2_ap (op op' h r2 y x) (s : DSt) : kChainb2 op op' h r2 s (some y) x = obind (op x y) (kChainc op' h r2 s) := (rfl)
@[simp] theorem kChainc_ap (op' h r2 b) (s : DSt) : kChainc op' h r2 s (.d (.bool b)) = if b = true then obind (h s) (kChaind op' r2) else some (.d (.bool false), s) := by cases b <;> rfl
@[simp] theorem kChaind_ap (op' r2 w) (s : DSt) : kChaind op' r2 (w, s) = obind (look s r2) (kChainOut s op' (look s w)) := (rfl)
@[simp] theorem kChainOut_ap (op' u x) (s : DSt) : kChainOut s op' (some u) x = obind (op' x u) (kRet s) := (rfl)
@[simp] theorem dIfT_ap (t f g) (st : DSt) : dIfT t f g st = obind (t st) (kIf f g) := (rfl)
@[simp] theorem bMax2_ii (i j : Int) : bMax2 [.int i, .int j] = some (.d (.int (if j > i then j else i))) := (rfl)
@[simp] theorem opBits_i (i : Int) : opBits (.int i) = some (.d (.int (Builtin.Int.intBits i : Nat))) := (rfl)
@[simp] theorem opAddT_tt (xs ys) : opAddT (.tuple xs) (.tuple ys) = if xs.length + ys.length ≤ sizeLine then some (.d (.tuple (xs ++ ys))) else none := (rfl)
@[simp] theorem opSliceT_t (xs lo hi) : opSliceT (.tuple xs) lo hi = some (.d (.tuple (cutD xs lo hi))) := (rfl)
@[simp] theorem bTuple_l (xs) : bTuple [.list xs] = some (.d (.tuple xs)) := (rfl)
@[simp] theorem bTuple_t (xs) : bTuple [.tuple xs] = some (.d (.tuple xs)) := (rfl)
@[simp] theorem opPowW_ii (i j : Int) : opPowW (.int i) (.int j) = if 0 ≤ j ∧ (Builtin.Int.intBits i : Int) * j ≤ 2 ^ 27 then some (.d (.int (i ^ j.toNat))) else none := (rfl)
@[simp] theorem fz_d (x) : fz (some (.d x)) = some (.d x) := (rfl)
@[simp] theorem fz_own' (x) : fz (some (.own x)) = some (.d (.list x)) := (rfl)
@[simp] theorem fz_lent' (x) : fz (some (.lent x)) = some (.d (.list x)) := (rfl)
@[simp] theorem fz_none : fz none = none := (rfl)
@[simp] theorem freeze_nil : freeze [] = [] := (rfl)
@[simp] theorem freeze_cons (o r) : freeze (o :: r) = fz o :: freeze r := (rfl)
def kAsgO2 (i j : Nat) (r : Rv) (q : Rv × DSt) : Option (Fl × DSt) := match r, q.1 with
  | .d x, .tmp ys => (setS q.2 j (.own ys)).bind fun s => (setS s i (.d x)).bind kNx
  | _, _ => none
def kAsgO (i j : Nat) (g : DE) (p : Rv × DSt) : Option (Fl × DSt) := (g p.2).bind (kAsgO2 i j p.1)
def kAsgO3 (i : Nat) (x : D) (s : DSt) : Option (Fl × DSt) := (setS s i (.d x)).bind kNx
@[simp] theorem dAsgO_ap (i j f g) (st : DSt) : dAsgO i j f g st = obind (f st) (kAsgO i j g) := (rfl)
@[simp] theorem kAsgO_ap (i j g r) (s : DSt) : kAsgO i j g (r, s) = obind (g s) (kAsgO2 i j r) := (rfl)
@[simp] theorem kAsgO2_ap (i j x ys) (s : DSt) : kAsgO2 i j (.d x) (.tmp ys, s) = obind (setS s j (.own ys)) (kAsgO3 i x) := (rfl)
@[simp] theorem kAsgO3_ap (i x) (s : DSt) : kAsgO3 i x s = obind (setS s i (.d x)) kNx := (rfl)
def kBorrow (st : DSt) (p : Rv × DSt) : Option (Rv × DSt) := match p.1 with
  | .d x => if atomD x = true then some (.d x, st) else none
  | _ => none
def kBorrowT (st : DSt) (p : Bool × DSt) : Option (Bool × DSt) := some (p.1, st)
@[simp] theorem dBorrow_ap (f) (st : DSt) : dBorrow f st = obind (f (freeze st)) (kBorrow st) := (rfl)
@[simp] theorem kBorrow_d (x s) (st : DSt) : kBorrow st (.d x, s) = if atomD x = true then some (.d x, st) else none := (rfl)
@[simp] theorem dBorrowT_ap (f) (st : DSt) : dBorrowT f st = obind (f (freeze st)) (kBorrowT st) := (rfl)
@[simp] theorem kBorrowT_ap (b s) (st : DSt) : kBorrowT st (b, s) = some (b, st) := (rfl)
/-- whole numbers written in a slot list -/
theorem sizeLine_eq : sizeLine = 16777216 := (rfl)
/-! further ones -/
section
variable {st s : DSt}
@[simp] theorem dDict0_ap (st : DSt) : dDict0 st = some (.d (.dict []), st) := (rfl)
@[simp] theorem bIsi_dict (T b) : bIsi T (.dict b) = some (.d (.bool (isTy (.dict b) T))) := (rfl)
@[simp] theorem bIsi2_dict (T U b) : bIsi2 T U (.dict b) = some (.d (.bool (isTy (.dict b) T || isTy (.dict b) U))) := (rfl)
def kLm : Option Int → Option Rv
  | some m => some (.d (.int m))
  | none => none
@[simp] theorem bMaxL_ap (xs) : bMaxL [.list xs] = obind (intsOf xs) (fun is => kLm (maxOf is)) := by
  show (intsOf xs).bind _ = _
  cases intsOf xs with
  | none => rfl
  | some is => show (maxOf is).bind _ = kLm (maxOf is); cases maxOf is <;> rfl
@[simp] theorem bMinL_ap (xs) : bMinL [.list xs] = obind (intsOf xs) (fun is => kLm (minOf is)) := by
  show (intsOf xs).bind _ = _
  cases intsOf xs with
  | none => rfl
  | some is => show (minOf is).bind _ = kLm (minOf is); cases minOf is <;> rfl
@[simp] theorem kLm_some (m) : kLm (some m) = some (.d (.int m)) := (rfl)
def kCallT4 (st : DSt) (r : Rt × List (List D)) : Option (Rv × DSt) := some (rvOf r.1, st)
def kCallT3 (g : Fn) (n : Nat) (more xs : List D) (rs : List Rv) (w : List D × DSt) : Option (Rv × DSt) := if rs.length = n then (g (.m xs :: (w.1 ++ more).map Ar.d)).bind (kCallT4 w.2) else none
def kCallT2 (g : Fn) (n : Nat) (more xs : List D) (q : List Rv × DSt) : Option (Rv × DSt) := (toDs q.2 q.1).bind (kCallT3 g n more xs q.1)
def kCallT (g : Fn) (n : Nat) (more : List D) (h : DA) (p : Rv × DSt) : Option (Rv × DSt) := match p.1 with
  | .tmp xs => (h p.2).bind (kCallT2 g n more xs)
  | _ => none
@[simp] theorem dCallT_ap (g n more f h) (st : DSt) : dCallT g n more f h st = obind (f st) (kCallT g n more h) := (rfl)
@[simp] theorem kCallT_ap (g n more h xs) (s : DSt) : kCallT g n more h (.tmp xs, s) = obind (h s) (kCallT2 g n more xs) := (rfl)
@[simp] theorem kCallT2_ap (g n more xs rs) (s : DSt) : kCallT2 g n more xs (rs, s) = obind (toDs s rs) (kCallT3 g n more xs rs) := (rfl)
@[simp] theorem kCallT3_ap (g n more xs rs ds) (s : DSt) : kCallT3 g n more xs rs (ds, s) = if rs.length = n then obind (g (.m xs :: (ds ++ more).map Ar.d)) (kCallT4 s) else none := (rfl)
@[simp] theorem kCallT4_ap (st : DSt) (r o) : kCallT4 st (r, o) = some (rvOf r, st) := (rfl)
def kParS4 (s : DSt) : Option (Fl × DSt) := some (.nx, s)
def kParS3 (is : List Nat) (ds : List D) (s : DSt) : Option (Fl × DSt) := (dPar.parGo is ds s).bind kParS4
def kParS2 (i : Nat) (is : List Nat) (xs : List D) (w : List D × DSt) : Option (Fl × DSt) := (setS w.2 i (.own xs)).bind (kParS3 is w.1)
def kParS1 (i : Nat) (is : List Nat) (xs : List D) (q : List Rv × DSt) : Option (Fl × DSt) := (toDs q.2 q.1).bind (kParS2 i is xs)
def kParS (i : Nat) (is : List Nat) (h : DA) (p : Rv × DSt) : Option (Fl × DSt) := match p.1 with
  | .tmp xs => (h p.2).bind (kParS1 i is xs)
  | _ => none
@[simp] theorem dParS_ap (i is f h) (st : DSt) : dParS i is f h st = obind (f st) (kParS i is h) := (rfl)
@[simp] theorem kParS_ap (i is h xs) (s : DSt) : kParS i is h (.tmp xs, s) = obind (h s) (kParS1 i is xs) := (rfl)
@[simp] theorem kParS1_ap (i is xs rs) (s : DSt) : kParS1 i is xs (rs, s) = obind (toDs s rs) (kParS2 i is xs) := (rfl)
@[simp] theorem kParS2_ap (i is xs ds) (s : DSt) : kParS2 i is xs (ds, s) = obind (setS s i (.own xs)) (kParS3 is ds) := (rfl)
@[simp] theorem kParS3_ap (is ds) (s : DSt) : kParS3 is ds s = obind (dPar.parGo is ds s) kParS4 := (rfl)
@[simp] theorem kParS4_ap (s : DSt) : kParS4 s = some (.nx, s) := (rfl)
def kParQ2 (i j : Nat) (is : List Nat) (x : D) (ys : List D) (w : List D × DSt) : Option (Fl × DSt) := (setS w.2 i (.d x)).bind fun s1 => (setS s1 j (.own ys)).bind (kParS3 is w.1)
def kParQ1 (i j : Nat) (is : List Nat) (x : D) (ys : List D) (u : List Rv × DSt) : Option (Fl × DSt) := (toDs u.2 u.1).bind (kParQ2 i j is x ys)
def kParQb (i j : Nat) (is : List Nat) (h : DA) (r : Rv) (q : Rv × DSt) : Option (Fl × DSt) := match r, q.1 with
  | .d x, .tmp ys => (h q.2).bind (kParQ1 i j is x ys)
  | _, _ => none
def kParQ (i j : Nat) (is : List Nat) (g : DE) (h : DA) (p : Rv × DSt) : Option (Fl × DSt) := (g p.2).bind (kParQb i j is h p.1)
@[simp] theorem dParQ_ap (i j is f g h) (st : DSt) : dParQ i j is f g h st = obind (f st) (kParQ i j is g h) := (rfl)
@[simp] theorem kParQ_ap (i j is g h r) (s : DSt) : kParQ i j is g h (r, s) = obind (g s) (kParQb i j is h r) := (rfl)
@[simp] theorem kParQb_ap (i j is h x ys) (s : DSt) : kParQb i j is h (.d x) (.tmp ys, s) = obind (h s) (kParQ1 i j is x ys) := (rfl)
@[simp] theorem kParQ1_ap (i j is x ys rs) (s : DSt) : kParQ1 i j is x ys (rs, s) = obind (toDs s rs) (kParQ2 i j is x ys) := (rfl)
def kParQ3 (j : Nat) (is : List Nat) (ys ds : List D) (s1 : DSt) : Option (Fl × DSt) := (setS s1 j (.own ys)).bind (kParS3 is ds)
@[simp] theorem kParQ2_ap (i j is x ys ds) (s : DSt) : kParQ2 i j is x ys (ds, s) = obind (setS s i (.d x)) (kParQ3 j is ys ds) := (rfl)
@[simp] theorem kParQ3_ap (j is ys ds) (s : DSt) : kParQ3 j is ys ds s = obind (setS s j (.own ys)) (kParS3 is ds) := (rfl)
/-! in, min, sorted -/
@[simp] theorem opIn_ap (x y) : opIn x y = obind (opInB x y) fun b => some (.d (.bool b)) := (rfl)
@[simp] theorem opNotIn_ap (x y) : opNotIn x y = obind (opInB x y) fun b => some (.d (.bool (!b))) := (rfl)
@[simp] theorem bMin2_ii (i j : Int) : bMin2 [.int i, .int j] = some (.d (.int (if j < i then j else i))) := (rfl)
@[simp] theorem bSorted_l (xs) : bSorted [.list xs] = if sortable xs = true then some (.tmp (sortD xs)) else none := (rfl)
@[simp] theorem opNe_bb (a b : Bool) : opNe (.bool a) (.bool b) = some (.d (.bool (!(a == b)))) := by cases a <;> cases b <;> rfl
@[simp] theorem isV_dn (k) : isV (.dict k) .none = some false := (rfl)
/-! list(range); remove; loops over one's own list; two new lists -/
@[simp] theorem atomD_b (b) : atomD (.bool b) = true := (rfl)
@[simp] theorem atomD_i (b) : atomD (.int b) = true := (rfl)
@[simp] theorem atomD_s (b) : atomD (.str b) = true := (rfl)
@[simp] theorem atomD_n : atomD .none = true := (rfl)
def kListRb (s : DSt) (x : Option D) : Option (Rv × DSt) := match x with
  | some (.int n) => if n ≤ 16777216 ∧ -(2 ^ 62) ≤ n then some (.tmp ((List.range n.toNat).map fun i => .int (0 + (i : Nat))), s) else none
  | _ => none
def kListR (p : Rv × DSt) : Option (Rv × DSt) := kListRb p.2 (look p.2 p.1)
@[simp] theorem dListR_ap (f) (st : DSt) : dListR f st = obind (f st) kListR := (rfl)
@[simp] theorem kListR_ap (r) (s : DSt) : kListR (r, s) = kListRb s (look s r) := (rfl)
@[simp] theorem kListRb_ap (n : Int) (s : DSt) : kListRb s (some (.int n)) = if n ≤ 16777216 ∧ -(2 ^ 62) ≤ n then some (.tmp ((List.range n.toNat).map fun i => .int (0 + (i : Nat))), s) else none := (rfl)
def kRemD (i : Nat) (s : DSt) (r : List Int) : Option (Fl × DSt) := (putL s i (r.map .int)).bind kNx
def kRemC (i : Nat) (s : DSt) (k : Int) (is : List Int) : Option (Fl × DSt) := (removeI k is).bind (kRemD i s)
def kRemB (i : Nat) (s : DSt) (k : Int) (xs : List D) : Option (Fl × DSt) := (intsOf xs).bind (kRemC i s k)
def kRemA (i : Nat) (q : D × DSt) : Option (Fl × DSt) := match q.1 with
  | .int k => (getL q.2 i).bind (kRemB i q.2 k)
  | _ => none
def kRem2 (i : Nat) (p : Rv × DSt) : Option (Fl × DSt) := (toD p.2 p.1).bind (kRemA i)
def kRem1 (i : Nat) (f : DE) (st : DSt) (xs : List D) : Option (Fl × DSt) := (f st).bind (kRem2 i)
@[simp] theorem dRemove_ap (i f) (st : DSt) : dRemove i f st = obind (getL st i) (kRem1 i f st) := (rfl)
@[simp] theorem kRem1_ap (i f) (st : DSt) (xs) : kRem1 i f st xs = obind (f st) (kRem2 i) := (rfl)
@[simp] theorem kRem2_ap (i r) (s : DSt) : kRem2 i (r, s) = obind (toD s r) (kRemA i) := (rfl)
@[simp] theorem kRemA_ap (i k) (s : DSt) : kRemA i (.int k, s) = obind (getL s i) (kRemB i s k) := (rfl)
@[simp] theorem kRemB_ap (i s k xs) : kRemB i s k xs = obind (intsOf xs) (kRemC i s k) := (rfl)
@[simp] theorem kRemC_ap (i s k is) : kRemC i s k is = obind (removeI k is) (kRemD i s) := (rfl)
@[simp] theorem kRemD_ap (i s r) : kRemD i s r = obind (putL s i (r.map .int)) kNx := (rfl)
noncomputable def kForBb (i : Nat) (full : List D) (g : DG) (b : DS) (xs : List D) (p : Fl × DSt) : Option (Fl × DSt) := match p.1 with
  | .nx => forGoB i full g b xs p.2
  | _ => none
noncomputable def kForBa (i : Nat) (full : List D) (g : DG) (b : DS) (xs : List D) (s : DSt) : Option (Fl × DSt) := (b s).bind (kForBb i full g b xs)
noncomputable def kForBs (i : Nat) (g : DG) (b : DS) (st : DSt) (xs : List D) : Option (Fl × DSt) := forGoB i xs g b xs st
@[simp] theorem dForB_ap (i g b) (st : DSt) : dForB i g b st = obind (getL st i) (kForBs i g b st) := (rfl)
@[simp] theorem kForBs_ap (i g b) (st : DSt) (xs) : kForBs i g b st xs = forGoB i xs g b xs st := (rfl)
theorem forGoB_nil (i full g b) (st : DSt) (h : getL st i = some full) : forGoB i full g b [] st = some (.nx, st) := by
  unfold forGoB
  rw [if_pos h]
theorem forGoB_cons (i full g b x xs) (st : DSt) (h : getL st i = some full) : forGoB i full g b (x :: xs) st = obind (g x st) (kForBa i full g b xs) := by
  rw [forGoB, if_pos h]
  rfl
@[simp] theorem kForBa_ap (i full g b xs) (s : DSt) : kForBa i full g b xs s = obind (b s) (kForBb i full g b xs) := (rfl)
@[simp] theorem kForBb_ap (i full g b xs) (s : DSt) : kForBb i full g b xs (.nx, s) = forGoB i full g b xs s := (rfl)
def kParW2 (i j : Nat) (is : List Nat) (xs ys : List D) (w : List D × DSt) : Option (Fl × DSt) := (setS w.2 i (.own xs)).bind (kParQ3 j is ys w.1)
def kParW1 (i j : Nat) (is : List Nat) (xs ys : List D) (u : List Rv × DSt) : Option (Fl × DSt) := (toDs u.2 u.1).bind (kParW2 i j is xs ys)
def kParWb (i j : Nat) (is : List Nat) (h : DA) (r : Rv) (q : Rv × DSt) : Option (Fl × DSt) := match r, q.1 with
  | .tmp xs, .tmp ys => (h q.2).bind (kParW1 i j is xs ys)
  | _, _ => none
def kParW (i j : Nat) (is : List Nat) (g : DE) (h : DA) (p : Rv × DSt) : Option (Fl × DSt) := (g p.2).bind (kParWb i j is h p.1)
@[simp] theorem dParW_ap (i j is f g h) (st : DSt) : dParW i j is f g h st = obind (f st) (kParW i j is g h) := (rfl)
@[simp] theorem kParW_ap (i j is g h r) (s : DSt) : kParW i j is g h (r, s) = obind (g s) (kParWb i j is h r) := (rfl)
@[simp] theorem kParWb_ap (i j is h xs ys) (s : DSt) : kParWb i j is h (.tmp xs) (.tmp ys, s) = obind (h s) (kParW1 i j is xs ys) := (rfl)
@[simp] theorem kParW1_ap (i j is xs ys rs) (s : DSt) : kParW1 i j is xs ys (rs, s) = obind (toDs s rs) (kParW2 i j is xs ys) := (rfl)
@[simp] theorem kParW2_ap (i j is xs ys ds) (s : DSt) : kParW2 i j is xs ys (ds, s) = obind (setS s i (.own xs)) (kParQ3 j is ys ds) := (rfl)
/-- a slot that is not lent -/
def nd : Option SV → Bool
  | some (.lent _) => false
  | _ => true
@[simp] theorem nd_none : nd none = true := rfl
@[simp] theorem nd_d (x) : nd (some (.d x)) = true := rfl
@[simp] theorem nd_own (x) : nd (some (.own x)) = true := rfl
theorem kSetS_nd {o : Option SV} (h : nd o = true) (st : DSt) (i : Nat) (v : SV) : kSetS o st i v = if i < st.length then some (st.set i (some v)) else none := by
  rcases o with _ | o
  · rfl
  · cases o with
    | d x => rfl
    | own x => rfl
    | lent x => cases h
end
end DL
end

section
set_option linter.all false
/-! DLwp: runs by what holds behind them; loops and comprehensions by invariants. -/
namespace DL
open PySem
/-- it goes on, and Q holds of what comes -/
def okP {α : Type} (o : Option α) (Q : α → Prop) : Prop := ∃ a, o = some a ∧ Q a
section
variable {α β : Type} {o : Option α} {Q R : α → Prop} {a : α} {k : α → Option β} {S : β → Prop}
theorem okP_some : okP (some a) Q ↔ Q a := by
  constructor
  · rintro ⟨_, h, q⟩
    cases h
    exact q
  · exact fun h => ⟨a, rfl, h⟩
theorem okP_obind : okP (obind o k) S ↔ okP o fun a => okP (k a) S := by
  cases o with
  | none =>
    constructor
    · rintro ⟨_, h, _⟩
      cases h
    · rintro ⟨_, h, _⟩
      cases h
  | some a => rw [okP_some]; exact Iff.rfl
theorem okP.mono (h : okP o Q) (hq : ∀ a, Q a → R a) : okP o R := let ⟨a, e, q⟩ := h; ⟨a, e, hq a q⟩
theorem okP.and (h : okP o Q) (h2 : okP o R) : okP o fun a => Q a ∧ R a := by
  obtain ⟨a, e, q⟩ := h
  obtain ⟨b, e2, r⟩ := h2
  rw [e] at e2
  cases e2
  exact ⟨a, e, q, r⟩
theorem okP_of (e : o = some a) (q : Q a) : okP o Q := ⟨a, e, q⟩
theorem okP.eq (h : okP o fun b => b = a) : o = some a := by
  obtain ⟨b, e, rfl⟩ := h
  exact e
end
section
variable {g : DG} {t : DT} {e : DE} {b : DS} {vs : List Nat}
/-- for x in xs: .. -/
theorem forGo_wp (I : Nat → DSt → Prop) {Q : Fl × DSt → Prop} : ∀ (xs : List D) (n : Nat) (st : DSt), I n st →
    (∀ i x s, xs[i]? = some x → I (n + i) s → okP (g x s) fun s1 => okP (b s1) fun p => (p.1 = .nx ∨ p.1 = .ct) ∧ I (n + i + 1) p.2) → (∀ s, I (n + xs.length) s → Q (.nx, s)) → okP (forGo g b xs st) Q
  | [], n, st, h0, _, hk => by
    rw [forGo_nil, okP_some]
    exact hk st h0
  | x :: xs, n, st, h0, hs, hk => by
    rw [forGo_cons, okP_obind]
    refine (hs 0 x st rfl h0).mono fun s1 h1 => ?_
    show okP (obind (b s1) (kForb g b xs)) Q
    rw [okP_obind]
    refine h1.mono fun p ⟨h2, h3⟩ => ?_
    have := forGo_wp I (Q := Q) xs (n + 1) p.2 h3 (fun i y s hy hi => by
      have := hs (i + 1) y s (by simpa using hy) (by rw [show n + (i + 1) = n + 1 + i by omega]; exact hi)
      rw [show n + (i + 1) + 1 = n + 1 + i + 1 by omega] at this
      exact this) (fun s h => hk s (by rw [List.length_cons, show n + (xs.length + 1) = n + 1 + xs.length by omega]; exact h))
    rcases p with ⟨p1, p2⟩
    rcases h2 with rfl | rfl
    · exact this
    · exact this
theorem for_wp (I : Nat → DSt → Prop) {Q : Fl × DSt → Prop} {xs : List D} {st : DSt} (h0 : I 0 st)
    (hs : ∀ i x s, xs[i]? = some x → I i s → okP (g x s) fun s1 => okP (b s1) fun p => (p.1 = .nx ∨ p.1 = .ct) ∧ I (i + 1) p.2) (hk : ∀ s, I xs.length s → Q (.nx, s)) : okP (forGo g b xs st) Q :=
  forGo_wp I xs 0 st h0 (fun i x s hx hi => by
    rw [Nat.zero_add] at hi ⊢
    exact hs i x s hx hi) (fun s h => hk s (by rw [Nat.zero_add] at h; exact h))
/-- [e for x in xs]: each turn gives one -/
theorem lcGo_wp (I : Nat → DSt → Prop) (P : Nat → D → Prop) : ∀ (xs : List D) (n : Nat) (st : DSt) {Q : List D × DSt → Prop}, I n st →
    (∀ i x s, xs[i]? = some x → I (n + i) s → okP (g x s) fun s1 => okP (t s1) fun p => p.1 = true ∧ okP (e p.2) fun q => okP (toD q.2 q.1) fun r => P (n + i) r.1 ∧ I (n + i + 1) (wipeD r.2 vs)) →
    (∀ ys s, ys.length = xs.length → (∀ i y, ys[i]? = some y → P (n + i) y) → I (n + xs.length) s → Q (ys, s)) → okP (lcGo g t e vs xs st) Q
  | [], n, st, Q, h0, _, hk => by
    rw [lcGo_nil, okP_some]
    exact hk [] st rfl (fun i y h => by simp at h) h0
  | x :: xs, n, st, Q, h0, hs, hk => by
    rw [lcGo_cons, okP_obind]
    refine (hs 0 x st rfl h0).mono fun s1 h1 => ?_
    show okP (obind (t s1) (kLcTurnT g t e vs xs)) Q
    rw [okP_obind]
    refine h1.mono fun p ⟨h2, h3⟩ => ?_
    rcases p with ⟨p1, p2⟩
    subst h2
    show okP (obind (e p2) (kLcTurnD g t e vs xs)) Q
    rw [okP_obind]
    refine h3.mono fun q h4 => ?_
    rcases q with ⟨q1, q2⟩
    show okP (obind (toD q2 q1) (kLcTurnE g t e vs xs)) Q
    rw [okP_obind]
    refine h4.mono fun r ⟨h5, h6⟩ => ?_
    rcases r with ⟨r1, r2⟩
    show okP (obind (lcGo g t e vs xs (wipeD r2 vs)) (kPush r1)) Q
    rw [okP_obind]
    refine lcGo_wp I P xs (n + 1) (wipeD r2 vs) h6 (fun i y s hy hi => ?_) fun ys s l hp hi => ?_
    · have := hs (i + 1) y s (by simpa using hy) (by rw [show n + (i + 1) = n + 1 + i by omega]; exact hi)
      rw [show n + (i + 1) + 1 = n + 1 + i + 1 by omega, show n + (i + 1) = n + 1 + i by omega] at this
      exact this
    · show okP (some (r1 :: ys, s)) Q
      rw [okP_some]
      refine hk _ _ (by simp [l]) (fun i y hy => ?_) (by rw [List.length_cons, show n + (xs.length + 1) = n + 1 + xs.length by omega]; exact hi)
      cases i with
      | zero =>
        simp at hy
        subst hy
        exact h5
      | succ i =>
        rw [show n + (i + 1) = n + 1 + i by omega]
        exact hp i y (by simpa using hy)
theorem lc_wp (I : Nat → DSt → Prop) (P : Nat → D → Prop) {xs : List D} {st : DSt} {Q : List D × DSt → Prop} (h0 : I 0 st)
    (hs : ∀ i x s, xs[i]? = some x → I i s → okP (g x s) fun s1 => okP (t s1) fun p => p.1 = true ∧ okP (e p.2) fun q => okP (toD q.2 q.1) fun r => P i r.1 ∧ I (i + 1) (wipeD r.2 vs))
    (hk : ∀ ys s, ys.length = xs.length → (∀ i y, ys[i]? = some y → P i y) → I xs.length s → Q (ys, s)) : okP (lcGo g t e vs xs st) Q :=
  lcGo_wp I P xs 0 st h0 (fun i x s hx hi => by
    rw [Nat.zero_add] at hi ⊢
    exact hs i x s hx hi) (fun ys s l hp h => hk ys s l (fun i y hy => by
      have := hp i y hy
      rw [Nat.zero_add] at this
      exact this) (by rw [Nat.zero_add] at h; exact h))
/-- [e for x in xs if t]: nothing but the block's own slots is touched -/
theorem lc_map (f : D → Option D) : ∀ {xs : List D} {st : DSt}, (∀ x ∈ xs, okP (g x st) fun s1 => okP (t s1) fun p => (p.1 = false ∧ f x = none ∧ wipeD p.2 vs = st) ∨ (p.1 = true ∧ okP (e p.2) fun q => okP (toD q.2 q.1) fun r => f x = some r.1 ∧ wipeD r.2 vs = st)) →
    lcGo g t e vs xs st = some (xs.filterMap f, st)
  | [], st, _ => by rw [lcGo_nil, List.filterMap_nil]
  | x :: xs, st, h => by
    have ih := lc_map f (xs := xs) (st := st) fun y hy => h y (List.mem_cons_of_mem _ hy)
    obtain ⟨s1, e1, ⟨p1, p2⟩, e2, h2⟩ := h x List.mem_cons_self
    rw [lcGo_cons, e1, List.filterMap_cons]
    show obind (t s1) (kLcTurnT g t e vs xs) = _
    rw [e2]
    rcases h2 with ⟨h3, h4, h5⟩ | ⟨h3, ⟨q1, q2⟩, e3, ⟨r1, r2⟩, e4, h4, h5⟩
    · subst h3
      have h5 : wipeD p2 vs = st := h5
      show lcGo g t e vs xs (wipeD p2 vs) = _
      rw [h5, ih, h4]
    · subst h3
      show obind (e p2) (kLcTurnD g t e vs xs) = _
      have e3 : e p2 = some (q1, q2) := e3
      rw [e3]
      show obind (toD q2 q1) (kLcTurnE g t e vs xs) = _
      have e4 : toD q2 q1 = some (r1, r2) := e4
      rw [e4]
      show obind (lcGo g t e vs xs (wipeD r2 vs)) (kPush r1) = _
      have h5 : wipeD r2 vs = st := h5
      rw [h5, ih, h4]
      rfl
end
/-- range(n) of a small n -/
theorem range_ok {t : Nat} (ht : t < 1000000) : iRange1 [.int (t : Nat)] = some ((List.range t).map fun i => .int (i : Nat)) := by
  have ht' : (t : Int) < 4611686018427387904 := by omega
  have ht2 : (-4611686018427387904 : Int) ≤ t := by omega
  simp [ht', ht2]
theorem opNe_same (z : Str) : opNe (.str z) (.str z) = some (.d (.bool false)) := by simp [opNe, flat, PyData.plain, PyData.depth, PyData.eqv]
end DL
end

section
set_option linter.all false
/-! DLtame: data that is not great: what repr asks; depth and bulk of data that is put together. -/
namespace DL
open PySem
abbrev N (n : Nat) : D := .int (n : Int)
def Sm (k a : Nat) : Prop := a < 2 ^ k
theorem sm_of {a : Nat} (k : Nat) (h : a < 2 ^ k) : Sm k a := h
theorem Sm.mono {j k a : Nat} (h : Sm j a) (hjk : j ≤ k) : Sm k a := Nat.lt_of_lt_of_le h (Nat.pow_le_pow_right (by decide) hjk)
theorem Sm.le {k a b : Nat} (h : Sm k b) (hab : a ≤ b) : Sm k a := Nat.lt_of_le_of_lt hab h
theorem Sm.mul {j k a b : Nat} (h : Sm j a) (h' : Sm k b) : Sm (j + k) (a * b) := by
  unfold Sm at *
  rw [Nat.pow_add]
  exact Nat.mul_lt_mul_of_lt_of_le h (Nat.le_of_lt h') (Nat.two_pow_pos k)
theorem Sm.add {k a b : Nat} (h : Sm k a) (h' : Sm k b) : Sm (k + 1) (a + b) := by
  unfold Sm at *
  rw [Nat.pow_succ]
  omega
theorem Sm.log {k a : Nat} (h : Sm k a) : a.log2 ≤ k := by
  by_cases h0 : a = 0
  · subst h0; simp
  · exact Nat.le_of_lt ((Nat.log2_lt h0).2 h)
mutual
def tame : D → Bool
  | .none => true
  | .bool _ => true
  | .int i => decide (i.natAbs ≤ 10000000000000000000000000000000000000000)
  | .str z => z.cps.toList.all fun c => decide (c < 16 ^ 8)
  | .list xs => tameAll xs
  | .tuple xs => tameAll xs
  | .dict _ => false
def tameAll : List D → Bool
  | [] => true
  | x :: r => tame x && tameAll r
end
theorem short_int {i : Int} (h : i.natAbs ≤ 10000000000000000000000000000000000000000) : i.natAbs.log2 < 190 ∧ (PyData.shown (.int i)).length ≤ 200 := by
  have h1 : i.natAbs.log2 ≤ 140 := (sm_of 140 (Nat.lt_of_le_of_lt h (by decide))).log
  have h2 : i.natAbs.log2 < 190 := by omega
  refine ⟨h2, ?_⟩
  show (Str.ofString (toString i)).length ≤ 200
  have e := int_text_length_le (a := i) (k := 190) (by decide) h2
  rw [ofString_length]
  omega
mutual
theorem tame_ok : ∀ x : D, tame x = true → x.hasDict = false ∧ x.showable = true ∧ x.leavesShort 200 = true
  | .none, _ => by simp [PyData.hasDict, PyData.showable, PyData.leavesShort]
  | .bool _, _ => by simp [PyData.hasDict, PyData.showable, PyData.leavesShort]
  | .int i, h => by
    obtain ⟨h1, h2⟩ := short_int (i := i) (by simpa [tame] using h)
    have h3 : i.natAbs.log2 < 1920 := by omega
    simp [PyData.hasDict, PyData.showable, PyData.leavesShort, h2, h3]
  | .str z, h => by
    simp only [tame] at h
    simp only [PyData.hasDict, PyData.showable, PyData.leavesShort]
    exact ⟨trivial, trivial, h⟩
  | .list xs, h => by
    obtain ⟨a, b, c⟩ := tame_okAll xs (by simpa [tame] using h)
    simp [PyData.hasDict, PyData.showable, PyData.leavesShort, a, b, c]
  | .tuple xs, h => by
    obtain ⟨a, b, c⟩ := tame_okAll xs (by simpa [tame] using h)
    simp [PyData.hasDict, PyData.showable, PyData.leavesShort, a, b, c]
  | .dict k, h => by simp [tame] at h
theorem tame_okAll : ∀ xs : List D, tameAll xs = true → PyData.hasDictAll xs = false ∧ PyData.showableAll xs = true ∧ PyData.leavesShortAll 200 xs = true
  | [], _ => by simp [PyData.hasDictAll, PyData.showableAll, PyData.leavesShortAll]
  | x :: r, h => by
    simp only [tameAll, Bool.and_eq_true] at h
    obtain ⟨a, b, c⟩ := tame_ok x h.1
    obtain ⟨d, e, f⟩ := tame_okAll r h.2
    simp [PyData.hasDictAll, PyData.showableAll, PyData.leavesShortAll, a, b, c, d, e, f]
end
theorem bulk_len : ∀ xs : List D, xs.length ≤ PyData.bulkAll xs
  | [] => Nat.zero_le _
  | x :: r => by
    have := bulk_len r
    simp only [PyData.bulkAll, List.length_cons]
    omega
theorem mem_of : ∀ (xs : List D) (y : D), y ∈ xs → tameAll xs = true → tame y = true ∧ y.depth ≤ PyData.depthAll xs ∧ y.bulk ≤ PyData.bulkAll xs
  | x :: r, y, hy, h => by
    simp only [tameAll, Bool.and_eq_true] at h
    simp only [PyData.depthAll, PyData.bulkAll]
    rcases List.mem_cons.mp hy with rfl | hy
    · exact ⟨h.1, by omega, by omega⟩
    · obtain ⟨a, b, c⟩ := mem_of r y hy h.2
      exact ⟨a, by omega, by omega⟩
theorem repr_of (x : D) (h : tame x = true) (hd : x.depth ≤ 40) (hb : x.bulk ≤ 1000) : bRepr [x] = some (.d (.str x.shown)) := by
  obtain ⟨a, b, c⟩ := tame_ok x h
  have e := PyData.shown_le_bulk 200 (by decide) x c
  show (if _ then _ else _) = _
  rw [if_pos]
  refine ⟨a, b, hd, ?_⟩
  rw [DL.sizeLine_eq]
  have : (200 + 2) * x.bulk ≤ 202 * 1000 := Nat.mul_le_mul (by decide) hb
  omega
structure Vv (n k : Nat) (y : D) : Prop where
  t : tame y = true
  d : y.depth ≤ n
  b : y.bulk ≤ k
theorem Vv.mono {n k n' k' : Nat} {y : D} (h : Vv n k y) (hn : n ≤ n') (hk : k ≤ k') : Vv n' k' y := ⟨h.t, Nat.le_trans h.d hn, Nat.le_trans h.b hk⟩
theorem vv_all {n k : Nat} : ∀ xs : List D, (∀ y ∈ xs, Vv n k y) → tameAll xs = true ∧ PyData.depthAll xs ≤ n ∧ PyData.bulkAll xs ≤ xs.length * (k + 1)
  | [], _ => by simp [tameAll, PyData.depthAll, PyData.bulkAll]
  | x :: r, h => by
    obtain ⟨a, b, c⟩ := vv_all r fun y hy => h y (by simp [hy])
    have hx := h x (by simp)
    refine ⟨by simp [tameAll, a, hx.t], ?_, ?_⟩
    · have := hx.d
      simp only [PyData.depthAll]
      omega
    · have := hx.b
      simp only [PyData.bulkAll, List.length_cons, Nat.add_mul, Nat.one_mul]
      omega
theorem vv_list {n k w : Nat} {xs : List D} (h : ∀ y ∈ xs, Vv n k y) (hw : xs.length ≤ w) : Vv (n + 1) (w * (k + 1)) (.list xs) := by
  obtain ⟨a, b, c⟩ := vv_all xs h
  exact ⟨by simpa [tame] using a, by simp [PyData.depth]; omega, Nat.le_trans (by simpa [PyData.bulk] using c) (Nat.mul_le_mul_right _ hw)⟩
theorem vv_tuple {n k w : Nat} {xs : List D} (h : ∀ y ∈ xs, Vv n k y) (hw : xs.length ≤ w) : Vv (n + 1) (w * (k + 1)) (.tuple xs) := by
  obtain ⟨a, b, c⟩ := vv_all xs h
  exact ⟨by simpa [tame] using a, by simp [PyData.depth]; omega, Nat.le_trans (by simpa [PyData.bulk] using c) (Nat.mul_le_mul_right _ hw)⟩
theorem vv_none : Vv 0 0 .none := ⟨rfl, by simp [PyData.depth], by simp [PyData.bulk]⟩
theorem vv_bool (b) : Vv 0 0 (.bool b) := ⟨rfl, by simp [PyData.depth], by simp [PyData.bulk]⟩
theorem vv_int {i : Int} (h : i.natAbs ≤ 1000) : Vv 0 0 (.int i) := ⟨by simp [tame]; omega, by simp [PyData.depth], by simp [PyData.bulk]⟩
theorem mem_cut {xs : List D} {lo hi : Option Int} {y : D} (h : y ∈ cutD xs lo hi) : y ∈ xs := List.mem_of_mem_drop (List.mem_of_mem_take h)
theorem len_cut (xs : List D) (lo hi : Option Int) : (cutD xs lo hi).length ≤ xs.length := by
  unfold cutD
  rw [List.length_take, List.length_drop]
  omega
/-- small things, one or none deep -/
def At (y : D) : Prop := Vv 0 1 y
theorem at_list {xs : List D} (h : ∀ y ∈ xs, At y) (hl : xs.length ≤ 20) : Vv 1 40 (.list xs) := vv_list (n := 0) (k := 1) (w := 20) h hl
theorem at_tuple {xs : List D} (h : ∀ y ∈ xs, At y) (hl : xs.length ≤ 20) : Vv 1 40 (.tuple xs) := vv_tuple (n := 0) (k := 1) (w := 20) h hl
theorem at_N {k : Nat} (h : k ≤ 1000) : At (N k) := (vv_int (by omega)).mono (by decide) (by decide)
theorem at_int {i : Int} (h : i.natAbs ≤ 1000) : At (.int i) := (vv_int h).mono (by decide) (by decide)
theorem at_none : At .none := vv_none.mono (by decide) (by decide)
theorem at_bool (b) : At (.bool b) := (vv_bool b).mono (by decide) (by decide)
theorem at_one : At (.str (Str.ofString "1")) := ⟨by decide +kernel, by simp [PyData.depth], by show (Str.ofString "1").cps.size ≤ 1; decide +kernel⟩
theorem at_nought : At (.str (Str.ofString "0")) := ⟨by decide +kernel, by simp [PyData.depth], by show (Str.ofString "0").cps.size ≤ 1; decide +kernel⟩
theorem tame_app : ∀ xs ys : List D, tameAll (xs ++ ys) = (tameAll xs && tameAll ys)
  | [], ys => by simp [tameAll]
  | x :: r, ys => by simp [tameAll, tame_app r ys, Bool.and_assoc]
theorem depth_app : ∀ xs ys : List D, PyData.depthAll (xs ++ ys) = max (PyData.depthAll xs) (PyData.depthAll ys)
  | [], ys => by simp [PyData.depthAll]
  | x :: r, ys => by simp [PyData.depthAll, depth_app r ys, Nat.max_assoc]
theorem bulk_app : ∀ xs ys : List D, PyData.bulkAll (xs ++ ys) = PyData.bulkAll xs + PyData.bulkAll ys
  | [], ys => by simp [PyData.bulkAll]
  | x :: r, ys => by simp [PyData.bulkAll, bulk_app r ys]; omega
structure VL (n k : Nat) (xs : List D) : Prop where
  t : tameAll xs = true
  d : PyData.depthAll xs ≤ n
  b : PyData.bulkAll xs ≤ k
theorem VL.mono {n k n' k' : Nat} {y : List D} (h : VL n k y) (hn : n ≤ n') (hk : k ≤ k') : VL n' k' y := ⟨h.t, Nat.le_trans h.d hn, Nat.le_trans h.b hk⟩
theorem vl_take {n k : Nat} {xs : List D} (i : Nat) (h : VL n k xs) : VL n k (xs.take i) := by
  have e := List.take_append_drop i xs
  obtain ⟨a, b, c⟩ := h
  rw [← e, tame_app, Bool.and_eq_true] at a
  rw [← e, depth_app] at b
  rw [← e, bulk_app] at c
  exact ⟨a.1, by omega, by omega⟩
theorem vl_drop {n k : Nat} {xs : List D} (i : Nat) (h : VL n k xs) : VL n k (xs.drop i) := by
  have e := List.take_append_drop i xs
  obtain ⟨a, b, c⟩ := h
  rw [← e, tame_app, Bool.and_eq_true] at a
  rw [← e, depth_app] at b
  rw [← e, bulk_app] at c
  exact ⟨a.2, by omega, by omega⟩
theorem vl_cut {n k : Nat} {xs : List D} (lo hi : Option Int) (h : VL n k xs) : VL n k (cutD xs lo hi) := vl_take _ (vl_drop _ h)
theorem vl_of {n k w : Nat} {xs : List D} (h : ∀ y ∈ xs, Vv n k y) (hl : xs.length ≤ w) : VL n (w * (k + 1)) xs := by
  obtain ⟨a, b, c⟩ := vv_all xs h
  exact ⟨a, b, Nat.le_trans c (Nat.mul_le_mul_right _ hl)⟩
theorem vv_mk {n k : Nat} {x : D} (t : tame x = true) (d : x.depth ≤ n) (b : x.bulk ≤ k) : Vv n k x := ⟨t, d, b⟩
theorem tame_tup (xs : List D) : tame (.tuple xs) = tameAll xs := by rw [tame]
theorem tame_lst (xs : List D) : tame (.list xs) = tameAll xs := by rw [tame]
theorem tame_non : tame .none = true := by rw [tame]
theorem tame_bl (b) : tame (.bool b) = true := by rw [tame]
theorem tame_i {i : Int} (h : i.natAbs ≤ 1000) : tame (.int i) = true := (vv_int h).t
theorem tame_nil : tameAll [] = true := by rw [tameAll]
theorem tame_cons (x : D) (r : List D) : tameAll (x :: r) = (tame x && tameAll r) := by rw [tameAll]
theorem tame_N {k : Nat} (h : k ≤ 1000) : tame (.int (k : Nat)) = true := (vv_int (by omega)).t
theorem drop1 (t : List D) : cutD t (some 1) none = t.drop 1 := by
  cases t with
  | nil => rfl
  | cons x r =>
    have e : cutAt (x :: r).length 0 (some 1) = 1 := by
      show (if (1 : Int) < 0 then ((1 : Int) + ((x :: r).length : Int)).toNat else min (1 : Int).toNat (x :: r).length) = 1
      rw [if_neg (by decide), List.length_cons]
      show min 1 (r.length + 1) = 1
      omega
    show ((x :: r).drop (cutAt (x :: r).length 0 (some 1))).take ((x :: r).length - cutAt (x :: r).length 0 (some 1)) = _
    rw [e]
    simp
end DL
end

section
set_option linter.all false
namespace K33
open PySem DL
noncomputable def g_is_count : DS := dRet (dAndV (dOp1 (bIsi "int") (dVar 0)) (dAndV (dNotV (dOp1 (bIsi "bool") (dVar 0))) (dOp2 opGe (dVar 0) (dVar 1))))
noncomputable def m_is_count : Fn := run 2 g_is_count
noncomputable def g_divisor : DS := dSeq (dWhile (dTest (dOp2 opNe (dVar 1) (dC (.int 0)))) (dPar [0, 1] (dCons (dVar 1) (dCons (dOp2 opMod (dVar 0) (dVar 1)) (dNil))))) (dRet (dVar 0))
noncomputable def m_divisor : Fn := run 2 g_divisor
noncomputable def g_is_odds : DS := dSeq (dIfS (dOr (dNot (dTest (dOp1 (bIsi "tuple") (dVar 0)))) (dOr (dTest (dOp2 opNe (dCallB bLen (dCons (dVar 0) (dNil))) (dC (.int 2)))) (dOr (dNot (dTest (dCall m_is_count [false] [PyData.int 0] (dCons (dOp2 opIx (dVar 0) (dC (.int 0))) (dNil))))) (dNot (dTest (dCall m_is_count [false, false] [] (dCons (dOp2 opIx (dVar 0) (dC (.int 1))) (dCons (dC (.int 1)) (dNil))))))))) (dRet (dC (.bool false))) (dNext)) (dRet (dOp2 opEq (dCall m_divisor [false, false] [] (dCons (dOp2 opIx (dVar 0) (dC (.int 0))) (dCons (dOp2 opIx (dVar 0) (dC (.int 1))) (dNil)))) (dC (.int 1))))
noncomputable def m_is_odds : Fn := run 1 g_is_odds
noncomputable def g_are_counts : DS := dRet (dAndV (dOp1 (bIsi "list") (dVar 0)) (dCallB bAll (dCons (dLc (dIter DL.iSeq (dVar 0)) (DL.gName 1) (dTests) (dCall m_is_count [false] [PyData.int 0] (dCons (dVar 1) (dNil))) [1]) (dNil))))
noncomputable def m_are_counts : Fn := run 2 g_are_counts
noncomputable def g_is_table : DS := dRet (dAndV (dCall m_are_counts [false] [] (dCons (dVar 0) (dNil))) (dOp2 opGt (dCallB bSum (dCons (dVar 0) (dNil))) (dC (.int 0))))
noncomputable def m_is_table : Fn := run 1 g_is_table
noncomputable def g_look_at_table : DS := dIfS (dNot (dTest (dCall m_is_table [false] [] (dCons (dVar 0) (dNil))))) (dNever) (dNext)
noncomputable def m_look_at_table : Fn := run 1 g_look_at_table
noncomputable def g_lowered : DS := dSeq (dSet 1 (dC (.int 0))) (dSeq (dFor (dIter DL.iSeq (dVar 0)) (DL.gName 2) (dSet 1 (dCall m_divisor [false, false] [] (dCons (dVar 1) (dCons (dVar 2) (dNil)))))) (dRet (dLc (dIter DL.iSeq (dVar 0)) (DL.gName 2) (dTests) (dOp2 opDiv (dVar 2) (dVar 1)) [2])))
noncomputable def m_lowered : Fn := run 3 g_lowered
noncomputable def g_lowest : DS := dSeq (dDrop (dCall m_look_at_table [false] [] (dCons (dVar 0) (dNil)))) (dRet (dCall m_lowered [false] [] (dCons (dVar 0) (dNil))))
noncomputable def m_lowest : Fn := run 1 g_lowest
noncomputable def g_is_whole : DS := dRet (dAndV (dOp1 (bIsi "int") (dVar 0)) (dAndV (dNotV (dOp1 (bIsi "bool") (dVar 0))) (dOp2 opGe (dVar 0) (dVar 1))))
noncomputable def m_is_whole : Fn := run 2 g_is_whole
noncomputable def g_check_table : DS := dIfS (dNot (dTest (dCall m_is_table [false] [] (dCons (dVar 0) (dNil))))) (dNever) (dNext)
noncomputable def m_check_table : Fn := run 1 g_check_table
noncomputable def g_are_places : DS := dSeq (dIfS (dOr (dNot (dTest (dOp1 (bIsi "list") (dVar 0)))) (dNot (dTest (dCallB bAll (dCons (dLc (dIter DL.iSeq (dVar 0)) (DL.gName 2) (dTests) (dCall m_is_whole [false, false] [] (dCons (dVar 2) (dCons (dC (.int 0)) (dNil)))) [2]) (dNil)))))) (dRet (dC (.bool false))) (dNext)) (dRet (dCallB bAll (dCons (dLc (dIterA iRange1 (dCons (dOp2 opSub (dCallB bLen (dCons (dVar 0) (dNil))) (dC (.int 1))) (dNil))) (DL.gName 1) (dTests) (dOp2 opLt (dOp2 opIx (dVar 0) (dVar 1)) (dOp2 opIx (dVar 0) (dOp2 opAdd (dVar 1) (dC (.int 1))))) [1]) (dNil))))
noncomputable def m_are_places : Fn := run 3 g_are_places
noncomputable def g_is_filter : DS := dSeq (dIfS (dOr (dNot (dTest (dOp1 (bIsi "tuple") (dVar 0)))) (dOr (dTest (dOp2 opLt (dCallB bLen (dCons (dVar 0) (dNil))) (dC (.int 2)))) (dNot (dTest (dOp1 (bIsi "str") (dOp2 opIx (dVar 0) (dC (.int 0)))))))) (dRet (dC (.bool false))) (dNext)) (dSeq (dIfS (dTest (dOp2 opEq (dOp2 opIx (dVar 0) (dC (.int 0))) (dC (.str (Str.ofString "weigh"))))) (dRet (dAndV (dOp2 opEq (dCallB bLen (dCons (dVar 0) (dNil))) (dC (.int 3))) (dAndV (dCall m_is_whole [false, false] [] (dCons (dOp2 opIx (dVar 0) (dC (.int 1))) (dCons (dC (.int 0)) (dNil)))) (dCall m_is_whole [false, false] [] (dCons (dOp2 opIx (dVar 0) (dC (.int 2))) (dCons (dC (.int 1)) (dNil))))))) (dNext)) (dSeq (dIfS (dTest (dOp2 opNe (dCallB bLen (dCons (dVar 0) (dNil))) (dC (.int 2)))) (dRet (dC (.bool false))) (dNext)) (dSeq (dAsg (DL.gTup 2 (DL.gCons (DL.gName 1) (DL.gCons (DL.gName 2) (DL.gNil)))) (dVar 0)) (dSeq (dIfS (dTest (dOp2 opIn (dVar 1) (dTup (dCons (dC (.str (Str.ofString "power"))) (dCons (dC (.str (Str.ofString "first"))) (dNil)))))) (dRet (dAndV (dCall m_is_whole [false, false] [] (dCons (dVar 2) (dCons (dC (.int 1)) (dNil)))) (dOrV (dOp2 opEq (dVar 1) (dC (.str (Str.ofString "first")))) (dOp2 opLe (dVar 2) (dC (.int 6)))))) (dNext)) (dSeq (dIfS (dTest (dOp2 opIn (dVar 1) (dTup (dCons (dC (.str (Str.ofString "share"))) (dCons (dC (.str (Str.ofString "floor"))) (dNil)))))) (dRet (dAndV (dCall m_is_odds [false] [] (dCons (dVar 2) (dNil))) (dAndV (dOp2 opLe (dOp2 opIx (dVar 2) (dC (.int 0))) (dOp2 opIx (dVar 2) (dC (.int 1)))) (dOrV (dOp2 opEq (dVar 1) (dC (.str (Str.ofString "floor")))) (dOp2 opGt (dOp2 opIx (dVar 2) (dC (.int 0))) (dC (.int 0))))))) (dNext)) (dRet (dAndV (dOp2 opEq (dVar 1) (dC (.str (Str.ofString "ban")))) (dCall m_are_places [false] [] (dCons (dVar 2) (dNil))))))))))
noncomputable def m_is_filter : Fn := run 3 g_is_filter
noncomputable def g_by_weight : DS := dRet (dLc (dIter DL.iSeq (dCallB bSorted (dCons (dLc (dIterA DL.iEnum (dCons (dVar 0) (dNil))) (DL.gTup 2 (DL.gCons (DL.gName 2) (DL.gCons (DL.gName 3) (DL.gNil)))) (dTests) (dTup (dCons (dOp2 opSub (dC (.int 0)) (dVar 3)) (dCons (dVar 2) (dNil)))) [2, 3]) (dNil)))) (DL.gTup 2 (DL.gCons (DL.gName 1) (DL.gCons (DL.gName 2) (DL.gNil)))) (dTests) (dVar 2) [1, 2])
noncomputable def m_by_weight : Fn := run 4 g_by_weight
noncomputable def g_kept_places : DS := dRet (dLc (dIterA DL.iEnum (dCons (dVar 0) (dNil))) (DL.gTup 2 (DL.gCons (DL.gName 2) (DL.gCons (DL.gName 3) (DL.gNil)))) (dTests) (dIf (dTest (dOp2 opIn (dVar 2) (dVar 1))) (dVar 3) (dC (.int 0))) [2, 3])
noncomputable def m_kept_places : Fn := run 4 g_kept_places
noncomputable def g_shared_out : DS := dSeq (dParQ 2 3 [4] (dOp2 opMul (dOp2 opIx (dVar 1) (dC (.int 0))) (dCallB bSum (dCons (dVar 0) (dNil)))) (dList (dNil)) (dCons (dC (.int 0)) (dNil))) (dSeq (dFor (dIter DL.iSeq (dCall m_by_weight [false] [] (dCons (dVar 0) (dNil)))) (DL.gName 5) (dIfS (dTest (dOp2 opLt (dOp2 opMul (dVar 4) (dOp2 opIx (dVar 1) (dC (.int 1)))) (dVar 2))) (dSeq (dAppend 3 (dVar 5)) (dAug opAddI 4 (dOp2 opIx (dVar 0) (dVar 5)))) (dNext))) (dRet (dCall m_kept_places [false, false] [] (dCons (dVar 0) (dCons (dVar 3) (dNil))))))
noncomputable def m_shared_out : Fn := run 6 g_shared_out
noncomputable def g_raised : DS := dSeq (dSet 2 (dC (.int 1))) (dSeq (dFor (dIterA iRange1 (dCons (dVar 1) (dNil))) (DL.gName 3) (dSet 2 (dOp2 opMul (dVar 2) (dVar 0)))) (dRet (dVar 2)))
noncomputable def m_raised : Fn := run 4 g_raised
noncomputable def g_made_by : DS := dSeq (dAsg (DL.gTup 2 (DL.gCons (DL.gName 2) (DL.gCons (DL.gName 3) (DL.gNil)))) (dTup (dCons (dOp2 opIx (dVar 0) (dC (.int 0))) (dCons (dOp2 opIx (dVar 0) (dC (.int 1))) (dNil))))) (dSeq (dIfS (dTest (dOp2 opEq (dVar 2) (dC (.str (Str.ofString "power"))))) (dRet (dLc (dIter DL.iSeq (dVar 1)) (DL.gName 5) (dTests) (dCall m_raised [false, false] [] (dCons (dVar 5) (dCons (dVar 3) (dNil)))) [5])) (dNext)) (dSeq (dIfS (dTest (dOp2 opEq (dVar 2) (dC (.str (Str.ofString "first"))))) (dRet (dCall m_kept_places [false, false] [] (dCons (dVar 1) (dCons (dSlice opSlice (dCall m_by_weight [false] [] (dCons (dVar 1) (dNil))) (dNoPart) (dPart (dVar 3))) (dNil))))) (dNext)) (dSeq (dIfS (dTest (dOp2 opEq (dVar 2) (dC (.str (Str.ofString "share"))))) (dRet (dCall m_shared_out [false, false] [] (dCons (dVar 1) (dCons (dVar 3) (dNil))))) (dNext)) (dSeq (dIfS (dTest (dOp2 opEq (dVar 2) (dC (.str (Str.ofString "floor"))))) (dRet (dLc (dIter DL.iSeq (dVar 1)) (DL.gName 5) (dTests) (dIf (dTest (dOp2 opGe (dOp2 opMul (dVar 5) (dOp2 opIx (dVar 3) (dC (.int 1)))) (dOp2 opMul (dOp2 opIx (dVar 3) (dC (.int 0))) (dCallB bMaxL (dCons (dVar 1) (dNil)))))) (dVar 5) (dC (.int 0))) [5])) (dNext)) (dSeq (dIfS (dTest (dOp2 opEq (dVar 2) (dC (.str (Str.ofString "ban"))))) (dRet (dLc (dIterA DL.iEnum (dCons (dVar 1) (dNil))) (DL.gTup 2 (DL.gCons (DL.gName 4) (DL.gCons (DL.gName 5) (DL.gNil)))) (dTests) (dIf (dTest (dOp2 opIn (dVar 4) (dVar 3))) (dC (.int 0)) (dVar 5)) [4, 5])) (dNext)) (dRet (dLc (dIterA DL.iEnum (dCons (dVar 1) (dNil))) (DL.gTup 2 (DL.gCons (DL.gName 4) (DL.gCons (DL.gName 5) (DL.gNil)))) (dTests) (dIf (dTest (dOp2 opEq (dVar 4) (dVar 3))) (dOp2 opMul (dVar 5) (dOp2 opIx (dVar 0) (dC (.int 2)))) (dVar 5)) [4, 5])))))))
noncomputable def m_made_by : Fn := run 6 g_made_by
noncomputable def g_done_by : DS := dSeq (dSet 2 (dCall m_made_by [false, false] [] (dCons (dVar 0) (dCons (dVar 1) (dNil))))) (dRet (dIf (dTest (dOp2 opGt (dCallB bMaxL (dCons (dVar 2) (dNil))) (dC (.int 0)))) (dCall m_lowest [false] [] (dCons (dVar 2) (dNil))) (dC .none)))
noncomputable def m_done_by : Fn := run 3 g_done_by
noncomputable def g_filter_done : DS := dSeq (dIfS (dNot (dTest (dCall m_is_filter [false] [] (dCons (dVar 0) (dNil))))) (dNever) (dNext)) (dSeq (dDrop (dCall m_check_table [false] [] (dCons (dVar 1) (dNil)))) (dRet (dCall m_done_by [false, false] [] (dCons (dVar 0) (dCons (dVar 1) (dNil))))))
noncomputable def m_filter_done : Fn := run 2 g_filter_done
noncomputable def g_is_chain : DS := dRet (dAndV (dOp1 (bIsi "list") (dVar 0)) (dCallB bAll (dCons (dLc (dIter DL.iSeq (dVar 0)) (DL.gName 1) (dTests) (dCall m_is_filter [false] [] (dCons (dVar 1) (dNil))) [1]) (dNil))))
noncomputable def m_is_chain : Fn := run 2 g_is_chain
noncomputable def g_check_chain : DS := dIfS (dNot (dTest (dCall m_is_chain [false] [] (dCons (dVar 0) (dNil))))) (dNever) (dNext)
noncomputable def m_check_chain : Fn := run 1 g_check_chain
noncomputable def g_table_made : DS := dSeq (dSet 2 (dCall m_lowest [false] [] (dCons (dVar 1) (dNil)))) (dSeq (dFor (dIter DL.iSeq (dVar 0)) (DL.gName 3) (dSeq (dSet 2 (dCall m_done_by [false, false] [] (dCons (dVar 3) (dCons (dVar 2) (dNil))))) (dIfS (dTest (dOp2 opIs (dVar 2) (dC .none))) (dRet (dC .none)) (dNext)))) (dRet (dVar 2)))
noncomputable def m_table_made : Fn := run 4 g_table_made
noncomputable def g_filtered : DS := dSeq (dDrop (dCall m_check_chain [false] [] (dCons (dVar 0) (dNil)))) (dSeq (dDrop (dCall m_check_table [false] [] (dCons (dVar 1) (dNil)))) (dRet (dCall m_table_made [false, false] [] (dCons (dVar 0) (dCons (dVar 1) (dNil))))))
noncomputable def m_filtered : Fn := run 2 g_filtered
noncomputable def g__law_hash : DS := dSeq (dSet 2 (dOp2 opMod (dCallB bInt (dCons (dOp2 opAdd (dOp2 opAdd (dOp2 opAdd (dOp2 opMul (dVar 0) (dC (.int 1140671))) (dOp2 opMul (dOp2 opMul (dC (.int 27644437)) (dVar 1)) (dVar 1))) (dOp2 opMul (dC (.int 131)) (dVar 1))) (dC (.int 19))) (dNil))) (dC (.int 2147483629)))) (dSeq (dSet 2 (dOp2 opMod (dCallB bInt (dCons (dOp2 opAdd (dOp2 opAdd (dOp2 opMul (dVar 2) (dVar 2)) (dOp2 opMul (dC (.int 62089)) (dVar 1))) (dC (.int 32416187))) (dNil))) (dC (.int 2147483587)))) (dRet (dOp2 opMod (dCallB bInt (dCons (dOp2 opMul (dVar 2) (dC (.int 48271))) (dNil))) (dC (.int 2147483647)))))
noncomputable def m__law_hash : Fn := run 3 g__law_hash
noncomputable def g__law_random : DS := dSeq (dIfS (dTest (dOp2 opGt (dOp2 opIx (dVar 0) (dC (.int 0))) (dC (.int 0)))) (dSeq (dSet 2 (dOp2 opMod (dCallB bInt (dCons (dOp2 opIx (dVar 0) (dC (.int 0))) (dNil))) (dVar 1))) (dSeq (dSetIx 0 (dC (.int 0)) (dOp2 opDiv (dOp2 opIx (dVar 0) (dC (.int 0))) (dVar 1))) (dRet (dVar 2)))) (dNext)) (dSeq (dSet 2 (dC (.int 0))) (dSeq (dFor (dIterA iRange1 (dCons (dOp2 opAdd (dC (.int 1)) (dOp2 opDiv (dOp1 opBits (dVar 1)) (dC (.int 30)))) (dNil))) (DL.gName 3) (dSeq (dSetIx 0 (dC (.int 2)) (dOp2 opAdd (dOp2 opIx (dVar 0) (dC (.int 2))) (dC (.int 1)))) (dSet 2 (dOp2 opAdd (dOp2 opMul (dVar 2) (dC (.int 2147483587))) (dCall m__law_hash [false, false] [] (dCons (dOp2 opIx (dVar 0) (dC (.int 1))) (dCons (dOp2 opIx (dVar 0) (dC (.int 2))) (dNil)))))))) (dRet (dOp2 opMod (dCallB bInt (dCons (dVar 2) (dNil))) (dVar 1)))))
noncomputable def m__law_random : Fn := run 4 g__law_random
noncomputable def g__law_cell : DS := dSeq (dIfS (dTest (dOp2 opLt (dVar 1) (dCallB bLen (dCons (dVar 0) (dNil))))) (dRet (dOp2 opIx (dVar 0) (dVar 1))) (dNext)) (dRet (dOp2 opMod (dCallB bSum (dCons (dSlice opSlice (dVar 0) (dNoPart) (dPart (dC (.int 1)))) (dNil))) (dC (.int 1000003))))
noncomputable def m__law_cell : Fn := run 2 g__law_cell
noncomputable def g__law_generator : DS := dSeq (dSet 2 (dCall m__law_cell [false, false] [] (dCons (dVar 0) (dCons (dVar 1) (dNil))))) (dRet (dList (dCons (dOp2 opMod (dCallB bInt (dCons (dCallB bMax2 (dCons (dOp2 opSub (dVar 2) (dOp2 opPow (dC (.int 10)) (dC (.int 18)))) (dCons (dC (.int 0)) (dNil)))) (dNil))) (dOp2 opPowW (dOp2 opPow (dC (.int 10)) (dC (.int 60))) (dC (.int 10)))) (dCons (dOp2 opMod (dCallB bInt (dCons (dVar 2) (dNil))) (dC (.int 2147483647))) (dCons (dOp2 opMul (dC (.int 1000)) (dVar 1)) (dNil))))))
noncomputable def m__law_generator : Fn := run 3 g__law_generator
noncomputable def g__law_pick : DS := dRet (dOp2 opIx (dVar 1) (dCall m__law_random [true, false] [] (dCons (dVar 0) (dCons (dCallB bLen (dCons (dVar 1) (dNil))) (dNil)))))
noncomputable def m__law_pick : Fn := run 2 g__law_pick
noncomputable def g__law_same (self : Fn) : DS := dSeq (dIfS (dOr (dTest (dOp1 (bIsi "tuple") (dVar 1))) (dTest (dOp1 (bIsi "list") (dVar 1)))) (dSeq (dIfS (dOr (dTest (dOp2 opNe (dOp1 (bIsi "tuple") (dVar 0)) (dOp1 (bIsi "tuple") (dVar 1)))) (dTest (dOp2 opNe (dOp1 (bIsi "list") (dVar 0)) (dOp1 (bIsi "list") (dVar 1))))) (dRet (dC (.bool false))) (dNext)) (dRet (dAndV (dOp2 opEq (dCallB bLen (dCons (dVar 0) (dNil))) (dCallB bLen (dCons (dVar 1) (dNil)))) (dOp2 opEq (dLc (dIterA iRange1 (dCons (dCallB bLen (dCons (dVar 1) (dNil))) (dNil))) (DL.gName 2) (dNot (dTest (dCall self [false, false] [] (dCons (dOp2 opIx (dVar 0) (dVar 2)) (dCons (dOp2 opIx (dVar 1) (dVar 2)) (dNil)))))) (dVar 2) [2]) (dList (dNil)))))) (dNext)) (dSeq (dIfS (dOr (dTest (dOp1 (bIsi "bool") (dVar 1))) (dTest (dOp1 (bIsi "bool") (dVar 0)))) (dRet (dIf (dTest (dOp2 opIs (dVar 1) (dC (.bool true)))) (dOp2 opIs (dVar 0) (dC (.bool true))) (dIf (dTest (dOp2 opIs (dVar 1) (dC (.bool false)))) (dOp2 opIs (dVar 0) (dC (.bool false))) (dC (.bool false))))) (dNext)) (dSeq (dIfS (dTest (dOp1 (bIsi "int") (dVar 1))) (dRet (dAndV (dOp1 (bIsi "int") (dVar 0)) (dOp2 opEq (dVar 0) (dVar 1)))) (dNext)) (dSeq (dIfS (dTest (dOp1 (bIsi "str") (dVar 1))) (dRet (dAndV (dOp1 (bIsi "str") (dVar 0)) (dOp2 opEq (dVar 0) (dVar 1)))) (dNext)) (dRet (dAndV (dOp2 opIs (dVar 1) (dC .none)) (dOp2 opIs (dVar 0) (dC .none)))))))
noncomputable def m__law_same : Nat → Fn
  | 0 => fun _ => none
  | n + 1 => run 3 (g__law_same (m__law_same n))
noncomputable def g__law_common : DS := dSeq (dWhile (dTest (dOp2 opGt (dVar 1) (dC (.int 0)))) (dPar [0, 1] (dCons (dVar 1) (dCons (dOp2 opMod (dVar 0) (dVar 1)) (dNil))))) (dRet (dVar 0))
noncomputable def m__law_common : Fn := run 2 g__law_common
noncomputable def g__law_odds : DS := dSeq (dSet 2 (dCall m__law_common [false, false] [] (dCons (dVar 0) (dCons (dVar 1) (dNil))))) (dRet (dTup (dCons (dOp2 opDiv (dVar 0) (dVar 2)) (dCons (dOp2 opDiv (dVar 1) (dVar 2)) (dNil)))))
noncomputable def m__law_odds : Fn := run 3 g__law_odds
noncomputable def g__law_raised : DS := dSeq (dSet 2 (dC (.int 1))) (dSeq (dFor (dIterA iRange1 (dCons (dVar 1) (dNil))) (DL.gName 3) (dSet 2 (dOp2 opMul (dVar 2) (dVar 0)))) (dRet (dVar 2)))
noncomputable def m__law_raised : Fn := run 4 g__law_raised
noncomputable def g__law_lowest : DS := dSeq (dSet 1 (dC (.int 0))) (dSeq (dFor (dIter DL.iSeq (dVar 0)) (DL.gName 2) (dSet 1 (dCall m__law_common [false, false] [] (dCons (dVar 1) (dCons (dVar 2) (dNil)))))) (dRet (dLc (dIter DL.iSeq (dVar 0)) (DL.gName 2) (dTests) (dOp2 opDiv (dVar 2) (dVar 1)) [2])))
noncomputable def m__law_lowest : Fn := run 3 g__law_lowest
noncomputable def g__law_table : DS := dSeq (dSet 2 (dCall m__law_pick [true, false] [] (dCons (dVar 0) (dCons (dList (dCons (dC (.int 2)) (dCons (dC (.int 3)) (dCons (dC (.int 6)) (dCons (dC (.int 6)) (dCons (dC (.int 40)) (dCons (dOp2 opPow (dC (.int 10)) (dC (.int 12))) (dNil)))))))) (dNil))))) (dSeq (dSet 3 (dLc (dIterA iRange1 (dCons (dVar 1) (dNil))) (DL.gName 4) (dTests) (dCall m__law_random [true, false] [] (dCons (dVar 0) (dCons (dVar 2) (dNil)))) [4])) (dSeq (dIfS (dTest (dOp2 opEq (dCallB bMaxL (dCons (dVar 3) (dNil))) (dC (.int 0)))) (dSetIx 3 (dCall m__law_random [true, false] [] (dCons (dVar 0) (dCons (dVar 1) (dNil)))) (dOp2 opAdd (dC (.int 1)) (dCall m__law_random [true, false] [] (dCons (dVar 0) (dCons (dVar 2) (dNil)))))) (dNext)) (dRet (dVar 3))))
noncomputable def m__law_table : Fn := run 5 g__law_table
noncomputable def g__law_filter : DS := dSeq (dSet 2 (dCall m__law_random [true, false] [] (dCons (dVar 0) (dCons (dC (.int 7)) (dNil))))) (dSeq (dIfS (dTest (dOp2 opEq (dVar 2) (dC (.int 0)))) (dRet (dTup (dCons (dC (.str (Str.ofString "power"))) (dCons (dOp2 opAdd (dC (.int 1)) (dCall m__law_random [true, false] [] (dCons (dVar 0) (dCons (dC (.int 6)) (dNil))))) (dNil))))) (dNext)) (dSeq (dIfS (dTest (dOp2 opEq (dVar 2) (dC (.int 1)))) (dRet (dTup (dCons (dC (.str (Str.ofString "first"))) (dCons (dOp2 opAdd (dC (.int 1)) (dCall m__law_random [true, false] [] (dCons (dVar 0) (dCons (dOp2 opAdd (dVar 1) (dC (.int 1))) (dNil))))) (dNil))))) (dNext)) (dSeq (dIfS (dTest (dOp2 opLt (dVar 2) (dC (.int 4)))) (dSeq (dSet 3 (dOp2 opAdd (dC (.int 1)) (dCall m__law_random [true, false] [] (dCons (dVar 0) (dCons (dCall m__law_pick [true, false] [] (dCons (dVar 0) (dCons (dList (dCons (dC (.int 3)) (dCons (dC (.int 10)) (dCons (dOp2 opPow (dC (.int 10)) (dC (.int 9))) (dNil))))) (dNil)))) (dNil)))))) (dSeq (dSet 4 (dCall m__law_random [true, false] [] (dCons (dVar 0) (dCons (dOp2 opAdd (dVar 3) (dC (.int 1))) (dNil))))) (dRet (dIf (dTest (dOp2 opEq (dVar 2) (dC (.int 2)))) (dTup (dCons (dC (.str (Str.ofString "share"))) (dCons (dCall m__law_odds [false, false] [] (dCons (dCallB bMax2 (dCons (dVar 4) (dCons (dC (.int 1)) (dNil)))) (dCons (dVar 3) (dNil)))) (dNil)))) (dTup (dCons (dC (.str (Str.ofString "floor"))) (dCons (dCall m__law_odds [false, false] [] (dCons (dVar 4) (dCons (dVar 3) (dNil)))) (dNil)))))))) (dNext)) (dSeq (dIfS (dTest (dOp2 opEq (dVar 2) (dC (.int 4)))) (dRet (dTup (dCons (dC (.str (Str.ofString "ban"))) (dCons (dLc (dIterA iRange1 (dCons (dOp2 opAdd (dVar 1) (dC (.int 2))) (dNil))) (DL.gName 5) (dTest (dOp2 opEq (dCall m__law_random [true, false] [] (dCons (dVar 0) (dCons (dC (.int 4)) (dNil)))) (dC (.int 0)))) (dVar 5) [5]) (dNil))))) (dNext)) (dRet (dTup (dCons (dC (.str (Str.ofString "weigh"))) (dCons (dCall m__law_random [true, false] [] (dCons (dVar 0) (dCons (dOp2 opAdd (dVar 1) (dC (.int 1))) (dNil)))) (dCons (dOp2 opAdd (dC (.int 1)) (dCall m__law_random [true, false] [] (dCons (dVar 0) (dCons (dC (.int 5)) (dNil))))) (dNil))))))))))
noncomputable def m__law_filter : Fn := run 6 g__law_filter
noncomputable def g__law_by_weight : DS := dSeq (dParW 1 2 [] (dListR (dCallB bLen (dCons (dVar 0) (dNil)))) (dList (dNil)) dNil) (dSeq (dWhile (dTest (dOp2 opNe (dVar 1) (dList (dNil)))) (dSeq (dSet 3 (dOp2 opIx (dVar 1) (dC (.int 0)))) (dSeq (dForB 1 (DL.gName 4) (dIfS (dTest (dOp2 opGt (dOp2 opIx (dVar 0) (dVar 4)) (dOp2 opIx (dVar 0) (dVar 3)))) (dSet 3 (dVar 4)) (dNext))) (dSeq (dAppend 2 (dVar 3)) (dRemove 1 (dVar 3)))))) (dRet (dVar 2)))
noncomputable def m__law_by_weight : Fn := run 5 g__law_by_weight
noncomputable def g__law_kept : DS := dRet (dLc (dIterA DL.iEnum (dCons (dVar 0) (dNil))) (DL.gTup 2 (DL.gCons (DL.gName 2) (DL.gCons (DL.gName 3) (DL.gNil)))) (dTests) (dOp2 opMul (dVar 3) (dCallB bInt (dCons (dOp2 opIn (dVar 2) (dVar 1)) (dNil)))) [2, 3])
noncomputable def m__law_kept : Fn := run 4 g__law_kept
noncomputable def g__law_shared : DS := dSeq (dPar [2, 3] (dCons (dC (.int 0)) (dCons (dList (dNil)) (dNil)))) (dSeq (dFor (dIter DL.iSeq (dCall m__law_by_weight [false] [] (dCons (dVar 0) (dNil)))) (DL.gName 4) (dSeq (dIfS (dTest (dOp2 opGe (dOp2 opMul (dVar 2) (dOp2 opIx (dVar 1) (dC (.int 1)))) (dOp2 opMul (dOp2 opIx (dVar 1) (dC (.int 0))) (dCallB bSum (dCons (dVar 0) (dNil)))))) (dRet (dCall m__law_kept [false, false] [] (dCons (dVar 0) (dCons (dVar 3) (dNil))))) (dNext)) (dPar [3, 2] (dCons (dOp2 opAdd (dVar 3) (dList (dCons (dVar 4) (dNil)))) (dCons (dOp2 opAdd (dVar 2) (dOp2 opIx (dVar 0) (dVar 4))) (dNil)))))) (dRet (dCallB bList (dCons (dVar 0) (dNil)))))
noncomputable def m__law_shared : Fn := run 5 g__law_shared
noncomputable def g__law_made : DS := dSeq (dAsg (DL.gTup 2 (DL.gCons (DL.gName 2) (DL.gCons (DL.gName 3) (DL.gNil)))) (dTup (dCons (dOp2 opIx (dVar 0) (dC (.int 0))) (dCons (dOp2 opIx (dVar 0) (dC (.int 1))) (dNil))))) (dSeq (dIfS (dTest (dOp2 opEq (dVar 2) (dC (.str (Str.ofString "power"))))) (dSet 4 (dLc (dIter DL.iSeq (dVar 1)) (DL.gName 5) (dTests) (dCall m__law_raised [false, false] [] (dCons (dVar 5) (dCons (dVar 3) (dNil)))) [5])) (dIfS (dTest (dOp2 opEq (dVar 2) (dC (.str (Str.ofString "first"))))) (dSet 4 (dCall m__law_kept [false, false] [] (dCons (dVar 1) (dCons (dSlice opSlice (dCall m__law_by_weight [false] [] (dCons (dVar 1) (dNil))) (dNoPart) (dPart (dVar 3))) (dNil))))) (dIfS (dTest (dOp2 opEq (dVar 2) (dC (.str (Str.ofString "share"))))) (dSet 4 (dCall m__law_shared [false, false] [] (dCons (dVar 1) (dCons (dVar 3) (dNil))))) (dIfS (dTest (dOp2 opEq (dVar 2) (dC (.str (Str.ofString "floor"))))) (dSet 4 (dLc (dIter DL.iSeq (dVar 1)) (DL.gName 5) (dTests) (dOp2 opMul (dVar 5) (dCallB bInt (dCons (dOp2 opGe (dOp2 opMul (dVar 5) (dOp2 opIx (dVar 3) (dC (.int 1)))) (dOp2 opMul (dCallB bMaxL (dCons (dVar 1) (dNil))) (dOp2 opIx (dVar 3) (dC (.int 0))))) (dNil)))) [5])) (dIfS (dTest (dOp2 opEq (dVar 2) (dC (.str (Str.ofString "ban"))))) (dSet 4 (dLc (dIterA DL.iEnum (dCons (dVar 1) (dNil))) (DL.gTup 2 (DL.gCons (DL.gName 6) (DL.gCons (DL.gName 5) (DL.gNil)))) (dTests) (dOp2 opMul (dVar 5) (dCallB bInt (dCons (dOp2 opNotIn (dVar 6) (dVar 3)) (dNil)))) [6, 5])) (dSet 4 (dLc (dIterA DL.iEnum (dCons (dVar 1) (dNil))) (DL.gTup 2 (DL.gCons (DL.gName 6) (DL.gCons (DL.gName 5) (DL.gNil)))) (dTests) (dOp2 opMul (dVar 5) (dIf (dTest (dOp2 opEq (dVar 6) (dVar 3))) (dOp2 opIx (dVar 0) (dC (.int 2))) (dC (.int 1)))) [6, 5]))))))) (dRet (dIf (dTest (dOp2 opGt (dCallB bMaxL (dCons (dVar 4) (dNil))) (dC (.int 0)))) (dCall m__law_lowest [false] [] (dCons (dVar 4) (dNil))) (dC .none))))
noncomputable def m__law_made : Fn := run 7 g__law_made
noncomputable def g__law_filtered : DS := dSeq (dSet 2 (dCall m__law_lowest [false] [] (dCons (dVar 1) (dNil)))) (dSeq (dFor (dIter DL.iSeq (dVar 0)) (DL.gName 3) (dSet 2 (dIf (dTest (dOp2 opIsNot (dVar 2) (dC .none))) (dCall m__law_made [false, false] [] (dCons (dVar 3) (dCons (dVar 2) (dNil)))) (dC .none)))) (dRet (dVar 2)))
noncomputable def m__law_filtered : Fn := run 4 g__law_filtered
noncomputable def g__law_chain : DS := dSeq (dParS 4 [5] (dList (dNil)) (dCons (dC (.int 1)) (dNil))) (dSeq (dFor (dIterA iRange1 (dCons (dVar 2) (dNil))) (DL.gName 6) (dSeq (dSet 7 (dCall m__law_filter [true, false] [] (dCons (dVar 0) (dCons (dVar 1) (dNil))))) (dIfS (dOr (dTest (dOp2 opNe (dOp2 opIx (dVar 7) (dC (.int 0))) (dC (.str (Str.ofString "power"))))) (dTest (dOp2 opLe (dOp2 opMul (dVar 5) (dOp2 opIx (dVar 7) (dC (.int 1)))) (dVar 3)))) (dSeq (dAppend 4 (dVar 7)) (dSet 5 (dOp2 opMul (dVar 5) (dIf (dTest (dOp2 opEq (dOp2 opIx (dVar 7) (dC (.int 0))) (dC (.str (Str.ofString "power"))))) (dOp2 opIx (dVar 7) (dC (.int 1))) (dC (.int 1)))))) (dNext)))) (dRet (dVar 4)))
noncomputable def m__law_chain : Fn := run 8 g__law_chain
noncomputable def g__law_right : DS := dSeq (dSet 1 (dOp2 opAdd (dC (.int 1)) (dCall m__law_random [true, false] [] (dCons (dVar 0) (dCons (dC (.int 7)) (dNil)))))) (dSeq (dSet 2 (dCall m__law_table [true, false] [] (dCons (dVar 0) (dCons (dVar 1) (dNil))))) (dSeq (dFor (dIterA iRange1 (dCons (dC (.int 6)) (dNil))) (DL.gName 3) (dSeq (dSet 4 (dCall m__law_chain [true, false, false, false] [] (dCons (dVar 0) (dCons (dVar 1) (dCons (dCall m__law_random [true, false] [] (dCons (dVar 0) (dCons (dOp2 opIx (dList (dCons (dC (.int 3)) (dCons (dC (.int 5)) (dCons (dC (.int 13)) (dNil))))) (dCall m__law_random [true, false] [] (dCons (dVar 0) (dCons (dC (.int 3)) (dNil))))) (dNil)))) (dCons (dC (.int 60)) (dNil))))))) (dSeq (dPar [5, 6] (dCons (dCallB bRepr (dCons (dList (dCons (dVar 4) (dCons (dVar 2) (dNil)))) (dNil))) (dCons (dCall m__law_filtered [false, false] [] (dCons (dVar 4) (dCons (dVar 2) (dNil)))) (dNil)))) (dSeq (dSet 7 (dCall m_filtered [false, false] [] (dCons (dVar 4) (dCons (dVar 2) (dNil))))) (dSeq (dIfS (dOr (dNot (dTest (dBorrow (dCall (m__law_same 8) [false, false] [] (dCons (dVar 7) (dCons (dVar 6) (dNil))))))) (dOr (dTest (dOp2 opIsNot (dCall m_is_chain [false] [] (dCons (dVar 4) (dNil))) (dC (.bool true)))) (dTest (dOp2 opNe (dCallB bRepr (dCons (dList (dCons (dVar 4) (dCons (dVar 2) (dNil)))) (dNil))) (dVar 5))))) (dRet (dC (.bool false))) (dNext)) (dSeq (dSet 8 (dCall m__law_lowest [false] [] (dCons (dVar 2) (dNil)))) (dSeq (dFor (dIter DL.iSeq (dVar 4)) (DL.gName 9) (dSet 8 (dIf (dTest (dOp2 opIsNot (dVar 8) (dC .none))) (dCall m_filter_done [false, false] [] (dCons (dVar 9) (dCons (dVar 8) (dNil)))) (dC .none)))) (dSeq (dIfS (dNot (dTest (dBorrow (dCall (m__law_same 8) [false, false] [] (dCons (dVar 8) (dCons (dVar 6) (dNil))))))) (dRet (dC (.bool false))) (dNext)) (dSeq (dSet 10 (dCall m__law_random [true, false] [] (dCons (dVar 0) (dCons (dOp2 opAdd (dCallB bLen (dCons (dVar 4) (dNil))) (dC (.int 1))) (dNil))))) (dSeq (dSet 11 (dCall m_filtered [false, false] [] (dCons (dSlice opSlice (dVar 4) (dNoPart) (dPart (dVar 10))) (dCons (dVar 2) (dNil))))) (dSeq (dIfS (dNot (dTest (dBorrow (dCall (m__law_same 8) [false, false] [] (dCons (dIf (dTest (dOp2 opIsNot (dVar 11) (dC .none))) (dCall m_filtered [false, false] [] (dCons (dSlice opSlice (dVar 4) (dPart (dVar 10)) (dNoPart)) (dCons (dVar 11) (dNil)))) (dC .none)) (dCons (dVar 6) (dNil))))))) (dRet (dC (.bool false))) (dNext)) (dSeq (dIfS (dTest (dOp2 opIsNot (dVar 7) (dC .none))) (dAppend 7 (dC (.str (Str.ofString "spoilt")))) (dNext)) (dIfS (dNot (dTest (dBorrow (dCall (m__law_same 8) [false, false] [] (dCons (dCallK m_filtered 0 2 [1, 0] [] dNil (dCons (dVar 2) (dCons (dVar 4) (dNil)))) (dCons (dVar 6) (dNil))))))) (dRet (dC (.bool false))) (dNext)))))))))))))) (dRet (dC (.bool true)))))
noncomputable def m__law_right : Fn := run 12 g__law_right
noncomputable def g_law : DS := dSeq (dSet 1 (dCall m__law_generator [false, false] [] (dCons (dVar 0) (dCons (dC (.int 2)) (dNil))))) (dSeq (dSet 2 (dLc (dIterA iRange1 (dCons (dC (.int 3)) (dNil))) (DL.gName 7) (dTests) (dCall m__law_filter [true, false] [] (dCons (dVar 1) (dCons (dC (.int 4)) (dNil)))) [7])) (dSeq (dSet 3 (dList (dCons (dC .none) (dCons (dTup (dNil)) (dCons (dList (dNil)) (dCons (dCallB bTuple (dCons (dVar 2) (dNil))) (dCons (dVar 2) (dCons (dOp2 opAdd (dVar 2) (dList (dCons (dC .none) (dNil)))) (dCons (dList (dCons (dC .none) (dNil))) (dCons (dList (dCons (dTup (dCons (dC (.str (Str.ofString "power"))) (dCons (dC (.int 0)) (dNil)))) (dNil))) (dCons (dList (dCons (dVar 2) (dNil))) (dCons (dDict0) (dCons (dC (.str (Str.ofString "power"))) (dCons (dC (.int 0)) (dCons (dList (dCons (dTup (dNil)) (dNil))) (dCons (dList (dCons (dOp2 opIx (dVar 2) (dC (.int 0))) (dCons (dCallB bList (dCons (dOp2 opIx (dVar 2) (dC (.int 1))) (dNil))) (dNil)))) (dCons (dList (dCons (dOp2 opIx (dVar 2) (dC (.int 0))) (dCons (dOp2 opIx (dVar 2) (dC (.int 0))) (dNil)))) (dCons (dOp2 opMul (dVar 2) (dC (.int 4))) (dNil))))))))))))))))))) (dSeq (dFor (dIter DL.iSeq (dVar 3)) (DL.gName 4) (dSeq (dPar [5, 6] (dCons (dAndV (dOp1 (bIsi "list") (dVar 4)) (dOp2 opEq (dLc (dIter DL.iSeq (dVar 4)) (DL.gName 8) (dNot (dTest (dCall m_is_filter [false] [] (dCons (dVar 8) (dNil))))) (dVar 8) [8]) (dList (dNil)))) (dCons (dCallB bRepr (dCons (dVar 4) (dNil))) (dNil)))) (dIfS (dOr (dTest (dOp2 opNe (dCallB bRepr (dCons (dCall m_is_chain [false] [] (dCons (dVar 4) (dNil))) (dNil))) (dCallB bRepr (dCons (dVar 5) (dNil))))) (dOr (dTest (dOp2 opNe (dCallB bRepr (dCons (dCallK m_is_chain 0 1 [0] [] dNil (dCons (dVar 4) (dNil))) (dNil))) (dCallB bRepr (dCons (dVar 5) (dNil))))) (dTest (dOp2 opNe (dCallB bRepr (dCons (dVar 4) (dNil))) (dVar 6))))) (dRet (dC (.bool false))) (dNext)))) (dRet (dAndV (dCallT m__law_right 0 [] (dCall m__law_generator [false, false] [] (dCons (dVar 0) (dCons (dC (.int 0)) (dNil)))) (dNil)) (dCallT m__law_right 0 [] (dCall m__law_generator [false, false] [] (dCons (dVar 0) (dCons (dC (.int 1)) (dNil)))) (dNil)))))))
noncomputable def m_law : Fn := run 9 g_law
end K33
end

section
set_option linter.all false
namespace K33
open PySem DL
/-! ## the generator -/
/-- a product of numbers that are not great -/
theorem mul_n {i j : Nat} (hi : Sm 100000 i) (hj : Sm 100000 j) : opMul (.int (i : Nat)) (.int (j : Nat)) = some (.d (.int ((i * j : Nat) : Int))) := by
  have h1 := hi.log
  have h2 := hj.log
  have h3 : i.log2 + j.log2 < 1000000 := by omega
  simp [h3]
theorem mul_in {i : Int} {j : Nat} (hi : Sm 100000 i.natAbs) (hj : Sm 100000 j) : opMul (.int i) (.int (j : Nat)) = some (.d (.int (i * j))) := by
  have h1 := hi.log
  have h2 := hj.log
  have h3 : i.natAbs.log2 + j.log2 < 1000000 := by omega
  simp [h3]
theorem log_lit {a : Nat} (k : Nat) (h : a < 2 ^ k) (hk : k ≤ 1000) : a.log2 ≤ 1000 := Nat.le_trans (Sm.log h) hk
theorem hash_ok (s i : Nat) (hs : s < 2147483647) (hi : Sm 40 i) : ∃ h : Nat, h < 2147483647 ∧ m__law_hash [.d (N s), .d (N i)] = some (.d (N h), []) := by
  have hs' : Sm 31 s := sm_of 31 (by omega)
  have l1 := hs'.log
  have l2 := hi.log
  have c1 : Nat.log2 1140671 ≤ 40 := (sm_of 40 (by decide)).log
  have c2 : Nat.log2 27644437 ≤ 40 := (sm_of 40 (by decide)).log
  have c3 : Nat.log2 131 ≤ 40 := (sm_of 40 (by decide)).log
  have c4 : Nat.log2 62089 ≤ 40 := (sm_of 40 (by decide)).log
  have c5 : Nat.log2 48271 ≤ 40 := (sm_of 40 (by decide)).log
  have l3 : (27644437 * i).log2 ≤ 80 := ((sm_of (a := 27644437) 40 (by decide)).mul hi).log
  obtain ⟨x, hx⟩ : ∃ x : Nat, x = (s * 1140671 + 27644437 * i * i + 131 * i + 19) % 2147483629 := ⟨_, rfl⟩
  have hx' : (((s : Int) * 1140671 + 27644437 * (i : Int) * (i : Int) + 131 * (i : Int) + 19) % 2147483629) = (x : Nat) := by
    rw [hx]
    simp
  have l4 : x.log2 ≤ 40 := (sm_of 40 (show x < 2 ^ 40 by rw [hx]; omega)).log
  obtain ⟨y, hy⟩ : ∃ y : Nat, y = (x * x + 62089 * i + 32416187) % 2147483587 := ⟨_, rfl⟩
  have hy' : (((x : Int) * (x : Int) + 62089 * (i : Int) + 32416187) % 2147483587) = (y : Nat) := by
    rw [hy]
    simp
  have l5 : y.log2 ≤ 40 := (sm_of 40 (show y < 2 ^ 40 by rw [hy]; omega)).log
  refine ⟨y * 48271 % 2147483647, Nat.mod_lt _ (by decide), ?_⟩
  have a1 : ((27644437 : Int) * i).natAbs.log2 ≤ 80 := by
    rw [show ((27644437 : Int) * i) = ((27644437 * i : Nat) : Int) by simp]
    exact l3
  have m1 : s.log2 + Nat.log2 1140671 < 1000000 := by omega
  have m2 : Nat.log2 27644437 + i.log2 < 1000000 := by omega
  have m3 : ((27644437 : Int) * i).natAbs.log2 + i.log2 < 1000000 := by omega
  have m4 : Nat.log2 131 + i.log2 < 1000000 := by omega
  have m5 : x.log2 + x.log2 < 1000000 := by omega
  have m6 : Nat.log2 62089 + i.log2 < 1000000 := by omega
  have m7 : y.log2 + Nat.log2 48271 < 1000000 := by omega
  simp [m__law_hash, g__law_hash, run_ap, startD, m1, m2, m3, m4, m5, m6, m7, hx', hy']
def gen (big seed cnt : Nat) : List D := [N big, N seed, N cnt]
def Gen (n : Nat) (P : List D) : Prop := ∃ big seed cnt, P = gen big seed cnt ∧ seed < 2147483647 ∧ cnt ≤ n
theorem bits_small {b : Nat} (h : Sm 100 b) : Builtin.Int.intBits (b : Int) ≤ 101 := by
  have h1 := h.log
  unfold Builtin.Int.intBits
  split
  · omega
  · simp
    omega
theorem turns_go {b : Nat} {big seed : Nat} (hs : seed < 2147483647) : ∀ (xs : List D) (cnt d j : Nat) (v : Option SV), (v = none ∨ ∃ y, v = some (.d y)) → cnt + xs.length ≤ 1000000 → Sm (40 + 40 * j) d → j + xs.length ≤ 10 →
    ∃ d' v', Sm 1000 d' ∧ forGo (DL.gName 3) (dSeq (dSetIx 0 (dC (.int 2)) (dOp2 opAdd (dOp2 opIx (dVar 0) (dC (.int 2))) (dC (.int 1)))) (dSet 2 (dOp2 opAdd (dOp2 opMul (dVar 2) (dC (.int 2147483587))) (dCall m__law_hash [false, false] [] (dCons (dOp2 opIx (dVar 0) (dC (.int 1))) (dCons (dOp2 opIx (dVar 0) (dC (.int 2))) (dNil))))))) xs [some (.lent (gen big seed cnt)), some (.d (N b)), some (.d (N d)), v] =
      some (.nx, [some (.lent (gen big seed (cnt + xs.length))), some (.d (N b)), some (.d (N d')), v'])
  | [], cnt, d, j, v, hv, hn, hd, hj => ⟨d, v, hd.mono (by simp at hj; omega), by simp [forGo_nil]⟩
  | x :: r, cnt, d, j, v, hv, hn, hd, hj => by
    simp only [List.length_cons] at hn hj
    obtain ⟨h, hh, e⟩ := hash_ok seed (cnt + 1) hs (sm_of 40 (by omega))
    have hd2 : Sm (40 + 40 * (j + 1)) (d * 2147483587 + h) := by
      have h1 : Sm (40 + 40 * j + 31) (d * 2147483587) := hd.mul (sm_of 31 (by omega))
      exact (h1.add ((sm_of (a := h) 31 (by omega)).mono (by omega))).mono (by omega)
    obtain ⟨d', v', h1, h2⟩ := turns_go (b := b) (big := big) hs r (cnt + 1) (d * 2147483587 + h) (j + 1) (some (.d x)) (.inr ⟨_, rfl⟩) (by omega) hd2 (by omega)
    have l1 := hd.log
    have l2 : Nat.log2 2147483587 ≤ 31 := (sm_of (a := 2147483587) 31 (by decide)).log
    have l3 : d.log2 + Nat.log2 2147483587 < 1000000 := by omega
    refine ⟨d', v', h1, ?_⟩
    simp only [gen, N, Int.natCast_add, Int.natCast_mul, Int.cast_ofNat_Int] at e h2 ⊢
    rw [forGo_cons]
    rw [show ((cnt : Int) + (((x :: r).length : Nat) : Int)) = ((cnt : Int) + 1) + (r.length : Nat) by simp; omega]
    rcases hv with rfl | ⟨z, rfl⟩ <;> simp [l3, e, h2]
theorem random_ok {n : Nat} {P : List D} (hn : n ≤ 900000) (hP : Gen n P) (b : Nat) (h0 : 0 < b) (h1 : Sm 100 b) :
    ∃ r P', r < b ∧ Gen (n + 5) P' ∧ m__law_random [.m P, .d (N b)] = some (.d (N r), [P']) := by
  obtain ⟨big, seed, cnt, rfl, hs, hc⟩ := hP
  have h0' : (0 : Int) < (b : Int) := by omega
  have hl : b.log2 < 9000 := Nat.lt_of_le_of_lt h1.log (by omega)
  by_cases hb : 0 < big
  · refine ⟨big % b, gen (big / b) seed cnt, Nat.mod_lt _ h0, ⟨_, _, _, rfl, hs, by omega⟩, ?_⟩
    simp [m__law_random, g__law_random, run_ap, startD, gen, hb, h0, h0', hl]
  · have hb' : big = 0 := by omega
    subst hb'
    have hbt := bits_small h1
    obtain ⟨t, ht, ht4⟩ : ∃ t : Nat, (1 : Int) + ((Builtin.Int.intBits (b : Int) : Nat) : Int) / 30 = (t : Nat) ∧ t ≤ 4 := by
      refine ⟨1 + Builtin.Int.intBits (b : Int) / 30, by simp, by omega⟩
    obtain ⟨d', v', hd', e⟩ := turns_go (b := b) (big := 0) hs ((List.range t).map fun i => .int (0 + (i : Nat))) cnt 0 0 none (.inl rfl) (by simp; omega) (sm_of _ (Nat.two_pow_pos _)) (by simp; omega)
    have l30 : Nat.log2 30 < 9000 := Nat.lt_of_le_of_lt (sm_of (a := 30) 5 (by decide)).log (by decide)
    have hr : iRange1 [.int (t : Nat)] = some ((List.range t).map fun i => .int (0 + (i : Nat))) := by
      have a1 : (t : Int) < 4611686018427387904 := by omega
      have a2 : (-4611686018427387904 : Int) ≤ t := by omega
      simp [a1, a2]
    refine ⟨d' % b, gen 0 seed (cnt + t), Nat.mod_lt _ h0, ⟨_, _, _, rfl, hs, by omega⟩, ?_⟩
    simp [gen, N] at e
    simp only [Int.zero_add] at hr
    simp [m__law_random, g__law_random, run_ap, startD, gen, N, h0, h0', l30, ht, hr, e, -iRange1_i]
theorem pick_ok {n : Nat} {P : List D} (hn : n ≤ 900000) (hP : Gen n P) (xs : List D) (h0 : 0 < xs.length) (h1 : xs.length ≤ 1000) :
    ∃ x P', x ∈ xs ∧ Gen (n + 5) P' ∧ m__law_pick [.m P, .d (.list xs)] = some (.d x, [P']) := by
  obtain ⟨r, P', hr, hP', h⟩ := random_ok hn hP xs.length h0 ((sm_of 10 (by omega)).mono (by decide))
  refine ⟨xs[r], P', List.getElem_mem hr, hP', ?_⟩
  have hr' : (r : Int) < (xs.length : Int) := by omega
  simp [m__law_pick, g__law_pick, run_ap, startD, h, hr, hr']
theorem ints_map : ∀ ns : List Int, intsOf (ns.map .int) = some ns
  | [] => rfl
  | n :: r => by
    rw [List.map_cons, intsOf, ints_map r]
    rfl
theorem cut1 (ns : List Int) : cutD (ns.map PyData.int) none (some 1) = (ns.take 1).map .int := by
  cases ns with
  | nil => rfl
  | cons n r => 
    have e : cutAt (n :: r).length (n :: r).length (some 1) = 1 := by
      show (if (1 : Int) < 0 then ((1 : Int) + ((n :: r).length : Int)).toNat else min (1 : Int).toNat (n :: r).length) = 1
      rw [if_neg (by decide), List.length_cons]
      show min 1 (r.length + 1) = 1
      omega
    show (((n :: r).map PyData.int).drop 0).take (cutAt ((n :: r).map PyData.int).length ((n :: r).map PyData.int).length (some 1) - 0) = _
    rw [List.length_map, e]
    simp
theorem cell_ok (ns : List Int) (k : Nat) : ∃ v, m__law_cell [.d (.list (ns.map .int)), .d (.int (k : Nat))] = some (.d (.int v), []) := by
  by_cases h : k < ns.length
  · have h' : (k : Int) < ns.length := by omega
    exact ⟨ns[k], by simp [m__law_cell, g__law_cell, run_ap, startD, h, h']⟩
  · have h' : ¬ ((k : Int) < ns.length) := by omega
    refine ⟨(ns.take 1).sum % 1000003, ?_⟩
    have e := cut1 ns
    simp only [List.map_take] at e
    have e2 := ints_map (ns.take 1)
    simp only [List.map_take] at e2
    simp [m__law_cell, g__law_cell, run_ap, startD, h', e, e2]
theorem pow60 : opPow (.int 10) (.int 60) = some (.d (.int 1000000000000000000000000000000000000000000000000000000000000)) := by simp
theorem pow18 : opPow (.int 10) (.int 18) = some (.d (.int 1000000000000000000)) := by simp
theorem pow600 : ∃ M : Nat, 0 < M ∧ opPowW (.int 1000000000000000000000000000000000000000000000000000000000000) (.int 10) = some (.d (.int (M : Nat))) := by
  have hb : Builtin.Int.intBits (1000000000000000000000000000000000000000000000000000000000000 : Int) ≤ 201 := by
    have h1 : Nat.log2 1000000000000000000000000000000000000000000000000000000000000 ≤ 200 := (sm_of 200 (by decide)).log
    unfold Builtin.Int.intBits
    split
    · omega
    · show Nat.log2 1000000000000000000000000000000000000000000000000000000000000 + 1 ≤ 201
      omega
  have hc : (0 : Int) ≤ 10 ∧ (Builtin.Int.intBits (1000000000000000000000000000000000000000000000000000000000000 : Int) : Int) * 10 ≤ 2 ^ 27 := by
    refine ⟨by decide, ?_⟩
    omega
  refine ⟨1000000000000000000000000000000000000000000000000000000000000 ^ 10, Nat.pow_pos (by decide), ?_⟩
  rw [opPowW_ii, if_pos hc]
  rfl
theorem generator_ok (ns : List Int) (k : Nat) (hk : k ≤ 100) : ∃ P, Gen (1000 * k) P ∧ m__law_generator [.d (.list (ns.map .int)), .d (.int (k : Nat))] = some (.own P, []) := by
  obtain ⟨v, h1⟩ := cell_ok ns k
  obtain ⟨M, hM, h2⟩ := pow600
  have hM' : (0 : Int) < (M : Int) := by omega
  obtain ⟨a, ha⟩ := Int.eq_ofNat_of_zero_le (Int.emod_nonneg (if v - 1000000000000000000 < 0 then 0 else v - 1000000000000000000) (show ((M : Nat) : Int) ≠ 0 by omega))
  obtain ⟨s, hs⟩ := Int.eq_ofNat_of_zero_le (Int.emod_nonneg v (show (2147483647 : Int) ≠ 0 by decide))
  have hs2 : s < 2147483647 := by
    have := Int.emod_lt_of_pos v (show (0 : Int) < 2147483647 by decide)
    omega
  have l1 : Nat.log2 1000 + k.log2 < 1000000 := by
    have h1 := (sm_of (a := 1000) 10 (by decide)).log
    have h2 := (sm_of (a := k) 10 (by omega)).log
    omega
  refine ⟨gen a s (1000 * k), ⟨_, _, _, rfl, hs2, Nat.le_refl _⟩, ?_⟩
  simp [m__law_generator, g__law_generator, run_ap, startD, h1, pow18, pow60, h2, -opPow_ii, -opPowW_ii, hM, hM', ha, hs, DL.sizeLine_eq, l1, gen]
theorem divisor_while : ∀ (b a : Nat), ∃ n, whileN (dTest (dOp2 opNe (dVar 1) (dC (.int 0)))) (dPar [0, 1] (dCons (dVar 1) (dCons (dOp2 opMod (dVar 0) (dVar 1)) (dNil)))) n [some (.d (N a)), some (.d (N b))] = some (.nx, [some (.d (N (Nat.gcd a b))), some (.d (N 0))]) := by
  intro b
  induction b using Nat.strongRecOn with
  | ind b ih =>
    intro a
    cases b with
    | zero =>
      refine ⟨1, ?_⟩
      rw [whileN_end (by simp)]
      simp
    | succ b =>
      obtain ⟨n, hn⟩ := ih (a % (b + 1)) (Nat.mod_lt _ (Nat.succ_pos b)) (b + 1)
      refine ⟨n + 1, ?_⟩
      rw [whileN_more (st' := [some (.d (N (b + 1))), some (.d (N (a % (b + 1))))]) (by simp; omega) (by
        have h : (0 : Int) < (b : Int) + 1 := by omega
        simp [h]) hn]
      rw [Nat.gcd_comm a (b + 1), Nat.gcd_rec (b + 1) a, Nat.gcd_comm]
theorem divisor_ok (a b : Nat) : m_divisor [.d (N a), .d (N b)] = some (.d (N (Nat.gcd a b)), []) := by
  obtain ⟨n, hn⟩ := divisor_while b a
  have h := dWhile_of hn
  simp [m_divisor, g_divisor, run_ap, startD, h]
theorem common_while : ∀ (b a : Nat), ∃ n, whileN (dTest (dOp2 opGt (dVar 1) (dC (.int 0)))) (dPar [0, 1] (dCons (dVar 1) (dCons (dOp2 opMod (dVar 0) (dVar 1)) (dNil)))) n [some (.d (N a)), some (.d (N b))] = some (.nx, [some (.d (N (Nat.gcd a b))), some (.d (N 0))]) := by
  intro b
  induction b using Nat.strongRecOn with
  | ind b ih =>
    intro a
    cases b with
    | zero =>
      refine ⟨1, ?_⟩
      rw [whileN_end (by simp)]
      simp
    | succ b =>
      obtain ⟨n, hn⟩ := ih (a % (b + 1)) (Nat.mod_lt _ (Nat.succ_pos b)) (b + 1)
      refine ⟨n + 1, ?_⟩
      have h : (0 : Int) < (b : Int) + 1 := by omega
      rw [whileN_more (st' := [some (.d (N (b + 1))), some (.d (N (a % (b + 1))))]) (by simp [h]) (by
        simp [h]) hn]
      rw [Nat.gcd_comm a (b + 1), Nat.gcd_rec (b + 1) a, Nat.gcd_comm]
theorem common_ok (a b : Nat) : m__law_common [.d (N a), .d (N b)] = some (.d (N (Nat.gcd a b)), []) := by
  obtain ⟨n, hn⟩ := common_while b a
  have h := dWhile_of hn
  simp [m__law_common, g__law_common, run_ap, startD, h]
/-! ## fractions -/
abbrev fr (a b : Nat) : D := .tuple [N a, N b]
def lo (a b : Nat) : D := fr (a / Nat.gcd a b) (b / Nat.gcd a b)
theorem gcd_pos {a b : Nat} (hb : 0 < b) : (0 : Int) < (Nat.gcd a b : Int) := by
  have := Nat.gcd_pos_of_pos_right a hb
  omega
theorem gcd_log {a b : Nat} (hl : Sm 8000 b) (hb : 0 < b) : (Nat.gcd a b).log2 < 9000 := Nat.lt_of_le_of_lt (hl.le (Nat.gcd_le_right a hb)).log (by omega)
theorem lodds_ok (a b : Nat) (hb : 0 < b) (hl : Sm 8000 b) : m__law_odds [.d (N a), .d (N b)] = some (.d (lo a b), []) := by
  have hg := gcd_pos (a := a) hb
  have hl' := gcd_log (a := a) hl hb
  have hn : 0 < Nat.gcd a b := by omega
  simp [m__law_odds, g__law_odds, run_ap, startD, common_ok, hg, hn, hl', DL.sizeLine_eq, lo]
def cnt (x : D) (k : Int) : Bool := match x with
  | .int i => decide (k ≤ i)
  | _ => false
theorem count_ok (x : D) (k : Int) : m_is_count [.d x, .d (.int k)] = some (.d (.bool (cnt x k)), []) := by
  cases x <;> simp [m_is_count, g_is_count, run_ap, startD, cnt, isTy, tyName]
theorem whole_ok (x : D) (k : Int) : m_is_whole [.d x, .d (.int k)] = some (.d (.bool (cnt x k)), []) := by
  cases x <;> simp [m_is_whole, g_is_whole, run_ap, startD, cnt, isTy, tyName]
theorem mul_small {a b : Nat} (ha : Sm 8000 a) (hb : Sm 8000 b) : a.log2 + b.log2 < 1000000 := by
  have h1 := ha.log
  have h2 := hb.log
  omega
/-! ## odds -/
theorem int_one (n : Nat) : ((n : Int) = 1) ↔ n = 1 := by omega
/-- a share -/
structure OddsF (a b : Nat) : Prop where
  b0 : 0 < b
  le : a ≤ b
  cop : Nat.gcd a b = 1
  sm : Sm 8000 b
theorem is_odds_ok {a b : Nat} (h : OddsF a b) : m_is_odds [.d (fr a b)] = some (.d (.bool true), []) := by
  have d := divisor_ok a b
  have h1 : (0 : Int) ≤ (a : Int) := by omega
  have h2 : (1 : Int) ≤ (b : Int) := by have := h.b0; omega
  have h2' : 1 ≤ b := h.b0
  simp [m_is_odds, g_is_odds, run_ap, startD, count_ok, cnt, h1, h2, h2', d, h.cop]
theorem ne_nil : opNe (.list []) (.list []) = some (.d (.bool false)) := rfl
/-! ## tables -/
def Ns (ts : List Nat) : List D := ts.map fun k => N k
abbrev tab (ts : List Nat) : D := .list (Ns ts)
theorem len_Ns (ts) : (Ns ts).length = ts.length := by simp [Ns]
theorem ints_Ns : ∀ ts : List Nat, intsOf (Ns ts) = some (ts.map fun (k : Nat) => (k : Int))
  | [] => rfl
  | t :: r => by
    show (intsOf (Ns r)).bind _ = _
    rw [ints_Ns r]
    rfl
theorem sum_cast : ∀ ts : List Nat, (ts.map fun (k : Nat) => (k : Int)).sum = ((ts.sum : Nat) : Int)
  | [] => rfl
  | t :: r => by simp [sum_cast r]
theorem sum_ok (ts : List Nat) : bSum [tab ts] = some (.d (N ts.sum)) := by
  show (intsOf (Ns ts)).bind _ = _
  rw [ints_Ns]
  show some (Rv.d (.int (ts.map fun (k : Nat) => (k : Int)).sum)) = _
  rw [sum_cast]
theorem ix_ok (ts : List Nat) {p : Nat} (h : p < ts.length) : opIx (tab ts) (N p) = some (.d (N (ts[p]))) := by
  have h' : (p : Int) < (Ns ts).length := by rw [len_Ns]; omega
  have e : (Ns ts)[p]? = some (N ts[p]) := by
    unfold Ns
    rw [List.getElem?_map, List.getElem?_eq_getElem h]
    rfl
  show (ixAt (Ns ts) (p : Int)).bind _ = _
  have e2 : ixAt (Ns ts) (p : Int) = some p := by
    unfold ixAt
    rw [if_pos (by omega), if_pos h']
    simp
  rw [e2]
  show ((Ns ts)[p]?).bind _ = _
  rw [e]
  rfl
theorem cut_to {α : Type} (xs : List α) {p : Nat} (h : p ≤ xs.length) : cutD xs none (some (p : Int)) = xs.take p := by
  have e : cutAt xs.length xs.length (some (p : Int)) = p := by
    show (if (p : Int) < 0 then ((p : Int) + (xs.length : Int)).toNat else min (p : Int).toNat xs.length) = p
    rw [if_neg (by omega)]
    simp
    omega
  show (xs.drop 0).take (cutAt xs.length xs.length (some (p : Int)) - 0) = _
  rw [e]
  simp
theorem slice_ok (ts : List Nat) {p : Nat} (h : p ≤ ts.length) : opSlice (tab ts) none (some (p : Int)) = some (.tmp (Ns (ts.take p))) := by
  show some (Rv.tmp (cutD (Ns ts) none (some (p : Int)))) = _
  rw [cut_to _ (by rw [len_Ns]; exact h)]
  unfold Ns
  rw [List.map_take]
theorem bools_rep : ∀ n : Nat, boolsOf (List.replicate n (.bool true)) = some (List.replicate n true)
  | 0 => rfl
  | n + 1 => by
    rw [List.replicate_succ, List.replicate_succ, boolsOf, bools_rep n]
    rfl
theorem fm_const (b : D) : ∀ xs : List D, xs.filterMap (fun _ => some b) = List.replicate xs.length b
  | [] => rfl
  | x :: r => by rw [List.filterMap_cons, fm_const b r]; rfl
theorem counts_ok (ts : List Nat) (hl : ts.length ≤ 1000) : m_are_counts [.d (tab ts)] = some (.d (.bool true), []) := by
  have e : ∀ (st : DSt), lcGo (DL.gName 1) (dTests) (dCall m_is_count [false] [PyData.int 0] (dCons (dVar 1) (dNil))) [1] (Ns ts) [some (.d (tab ts)), none] = some (List.replicate ts.length (.bool true), [some (.d (tab ts)), none]) := fun _ => by
    have := lc_map (g := DL.gName 1) (t := dTests) (e := dCall m_is_count [false] [PyData.int 0] (dCons (dVar 1) (dNil))) (vs := [1]) (fun _ => some (.bool true)) (xs := Ns ts) (st := [some (.d (tab ts)), none]) fun x hx => by
      obtain ⟨k, _, rfl⟩ := List.mem_map.mp hx
      have h : (0 : Int) ≤ (k : Int) := by omega
      simp [okP_some, count_ok, cnt, h]
    rw [this]
    rw [fm_const, len_Ns]
  have hl2 := len_Ns ts
  have hl3 : ts.length ≤ 16777216 := by omega
  simp [m_are_counts, g_are_counts, run_ap, startD, e [], hl2, hl3, DL.sizeLine_eq, bools_rep]
theorem table_ok (ts : List Nat) (hl : ts.length ≤ 1000) (hs : 0 < ts.sum) : m_check_table [.d (tab ts)] = some (.d .none, []) ∧ m_look_at_table [.d (tab ts)] = some (.d .none, []) := by
  have h : (0 : Int) < (ts.sum : Int) := by omega
  have h2 := sum_ok ts
  simp only [N] at h2
  constructor <;> simp [m_check_table, g_check_table, m_look_at_table, g_look_at_table, m_is_table, g_is_table, run_ap, startD, counts_ok ts hl, h2, h, hs, -bSum_l]
theorem ixAt_n {α : Type} (xs : List α) {p : Nat} (h : p < xs.length) : ixAt xs (p : Int) = some p := by
  unfold ixAt
  rw [if_pos (by omega), if_pos (by omega)]
  simp
theorem ix_l (xs : List D) {p : Nat} (h : p < xs.length) : opIx (.list xs) (N p) = some (.d xs[p]) := by
  show (ixAt xs (p : Int)).bind _ = _
  rw [ixAt_n xs h]
  show (xs[p]?).bind _ = _
  rw [List.getElem?_eq_getElem h]
  rfl
theorem ix_t (xs : List D) {p : Nat} (h : p < xs.length) : opIx (.tuple xs) (N p) = some (.d xs[p]) := by
  show (ixAt xs (p : Int)).bind _ = _
  rw [ixAt_n xs h]
  show (xs[p]?).bind _ = _
  rw [List.getElem?_eq_getElem h]
  rfl
def okS : Nat → D → Prop
  | _, .none => True
  | _, .bool _ => True
  | _, .int _ => True
  | n + 1, .list xs => xs.length ≤ 1000 ∧ ∀ y ∈ xs, okS n y
  | n + 1, .tuple xs => xs.length ≤ 1000 ∧ ∀ y ∈ xs, okS n y
  | _, _ => False
theorem fm_none : ∀ xs : List D, xs.filterMap (fun _ => (none : Option D)) = []
  | [] => rfl
  | x :: r => by rw [List.filterMap_cons, fm_none r]
theorem eq_nil : opEq (.list []) (.list []) = some (.d (.bool true)) := rfl
theorem same_ok : ∀ (n : Nat) (x : D), okS n x → m__law_same (n + 1) [.d x, .d x] = some (.d (.bool true), [])
  | n, .none, _ => by simp [m__law_same, g__law_same, run_ap, startD, isTy, tyName]
  | n, .bool b, _ => by cases b <;> simp [m__law_same, g__law_same, run_ap, startD, isTy, tyName]
  | n, .int i, _ => by simp [m__law_same, g__law_same, run_ap, startD, isTy, tyName]
  | 0, .list xs, h => by cases h
  | 0, .tuple xs, h => by cases h
  | n + 1, .list xs, h => by
    obtain ⟨hl, hx⟩ := (show xs.length ≤ 1000 ∧ ∀ y ∈ xs, okS n y from h)
    have r := range_ok (t := xs.length) (by omega)
    have hl2 : xs.length ≤ 16777216 := by omega
    have go := lc_map (g := DL.gName 2) (t := dNot (dTest (dCall (m__law_same (n + 1)) [false, false] [] (dCons (dOp2 opIx (dVar 0) (dVar 2)) (dCons (dOp2 opIx (dVar 1) (dVar 2)) (dNil)))))) (e := dVar 2) (vs := [2]) (fun _ => none) (xs := (List.range xs.length).map fun i => .int (i : Nat)) (st := [some (.d (.list xs)), some (.d (.list xs)), none]) fun y hy => by
      obtain ⟨p, hp, rfl⟩ := List.mem_map.mp hy
      have hp := List.mem_range.mp hp
      have e := ix_l xs hp
      have s := same_ok n xs[p] (hx _ (List.getElem_mem hp))
      simp only [N] at e
      simp [okP_some, e, s, -opIx_li]
    rw [fm_none] at go
    show DL.run 3 (g__law_same (m__law_same (n + 1))) _ = _
    simp [g__law_same, run_ap, startD, isTy, tyName, r, go, DL.opNe_bb, DL.sizeLine_eq, hl2, eq_nil, -iRange1_i]
  | n + 1, .tuple xs, h => by
    obtain ⟨hl, hx⟩ := (show xs.length ≤ 1000 ∧ ∀ y ∈ xs, okS n y from h)
    have r := range_ok (t := xs.length) (by omega)
    have hl2 : xs.length ≤ 16777216 := by omega
    have go := lc_map (g := DL.gName 2) (t := dNot (dTest (dCall (m__law_same (n + 1)) [false, false] [] (dCons (dOp2 opIx (dVar 0) (dVar 2)) (dCons (dOp2 opIx (dVar 1) (dVar 2)) (dNil)))))) (e := dVar 2) (vs := [2]) (fun _ => none) (xs := (List.range xs.length).map fun i => .int (i : Nat)) (st := [some (.d (.tuple xs)), some (.d (.tuple xs)), none]) fun y hy => by
      obtain ⟨p, hp, rfl⟩ := List.mem_map.mp hy
      have hp := List.mem_range.mp hp
      have e := ix_t xs hp
      have s := same_ok n xs[p] (hx _ (List.getElem_mem hp))
      simp only [N] at e
      simp [okP_some, e, s, -opIx_ti]
    rw [fm_none] at go
    show DL.run 3 (g__law_same (m__law_same (n + 1))) _ = _
    simp [g__law_same, run_ap, startD, isTy, tyName, r, go, DL.opNe_bb, DL.sizeLine_eq, hl2, eq_nil, -iRange1_i]
  | n, .str _, h => by cases n <;> cases h
  | n, .dict _, h => by cases n <;> cases h
theorem Gen.up {n m : Nat} {P : List D} (h : Gen n P) (hm : n ≤ m) : Gen m P := by
  obtain ⟨a, b, c, d, e, f⟩ := h
  exact ⟨a, b, c, d, e, by omega⟩
theorem of_N : ∀ (ys : List D), (∀ y ∈ ys, ∃ k : Nat, y = N k ∧ k ≤ 1000000000000) → ∃ ts : List Nat, ys = Ns ts ∧ ts.length = ys.length ∧ ∀ t ∈ ts, t ≤ 1000000000000
  | [], _ => ⟨[], rfl, rfl, fun t ht => by simp at ht⟩
  | y :: r, h => by
    obtain ⟨k, rfl, hk⟩ := h y (by simp)
    obtain ⟨ts, e, l, b⟩ := of_N r fun z hz => h z (by simp [hz])
    refine ⟨k :: ts, by rw [e]; rfl, by simp [l], fun t ht => ?_⟩
    rcases List.mem_cons.mp ht with rfl | ht
    · exact hk
    · exact b t ht
def mx : List Nat → Nat
  | [] => 0
  | [x] => x
  | x :: r => if x > mx r then x else mx r
theorem maxOf_n : ∀ (x : Nat) (r : List Nat), maxOf ((x :: r).map fun (k : Nat) => (k : Int)) = some ((mx (x :: r) : Nat) : Int)
  | x, [] => rfl
  | x, y :: r => by
    have ih := maxOf_n y r
    rw [List.map_cons, maxOf, ih]
    show some (if (x : Int) > (mx (y :: r) : Nat) then (x : Int) else (mx (y :: r) : Nat)) = some (((if x > mx (y :: r) then x else mx (y :: r) : Nat)) : Int)
    by_cases h : x > mx (y :: r)
    · rw [if_pos h, if_pos (by omega)]
    · rw [if_neg h, if_neg (by omega)]
theorem mx_zero : ∀ (ts : List Nat), mx ts = 0 ↔ ts.sum = 0
  | [] => by simp [mx]
  | [x] => by simp [mx]
  | x :: y :: r => by
    have ih := mx_zero (y :: r)
    simp only [mx, List.sum_cons] at ih ⊢
    by_cases h : x > mx (y :: r)
    · rw [if_pos h]
      omega
    · rw [if_neg h, ih]
      omega
theorem max_ok {ts : List Nat} (h : 0 < ts.length) : bMaxL [tab ts] = some (.d (N (mx ts))) := by
  cases ts with
  | nil => simp at h
  | cons x r =>
    rw [bMaxL_ap, ints_Ns, obind_some, maxOf_n]
    rfl
theorem set_Ns (ts : List Nat) (i k : Nat) : (Ns ts).set i (N k) = Ns (ts.set i k) := by simp [Ns, List.map_set]
theorem sum_set : ∀ (ts : List Nat) (i k : Nat), i < ts.length → 0 < k → 0 < (ts.set i k).sum
  | [], i, k, h, _ => by simp at h
  | x :: r, 0, k, h, hk => by simp; omega
  | x :: r, i + 1, k, h, hk => by
    have := sum_set r i k (by simpa using h) hk
    simp
    omega
theorem table_made {n : Nat} {P : List D} (hn : n ≤ 400000) (hP : Gen n P) {places : Nat} (h0 : 1 ≤ places) (hp : places ≤ 8) :
    okP (m__law_table [.m P, .d (N places)]) fun r => ∃ ts P', r = (.own (Ns ts), [P']) ∧ ts.length = places ∧ 0 < ts.sum ∧ (∀ t ∈ ts, t ≤ 1000000000001) ∧ Gen (n + 60) P' := by
  obtain ⟨y, P1, hy, hP1, h1⟩ := pick_ok (by omega) hP [.int 2, .int 3, .int 6, .int 6, .int 40, .int 1000000000000] (by simp) (by simp)
  obtain ⟨most, rfl, hm1, hm2⟩ : ∃ k : Nat, y = N k ∧ 2 ≤ k ∧ k ≤ 1000000000000 := by
    simp only [List.mem_cons, List.not_mem_nil, or_false] at hy
    rcases hy with rfl | rfl | rfl | rfl | rfl | rfl
    · exact ⟨2, rfl, by decide, by decide⟩
    · exact ⟨3, rfl, by decide, by decide⟩
    · exact ⟨6, rfl, by decide, by decide⟩
    · exact ⟨6, rfl, by decide, by decide⟩
    · exact ⟨40, rfl, by decide, by decide⟩
    · exact ⟨1000000000000, rfl, by decide, by decide⟩
  have r1 := range_ok (t := places) (by omega)
  have z1 : places ≤ 16777216 := by omega
  have sm : Sm 100 most := sm_of 100 (by omega)
  simp [m__law_table, g__law_table, run_ap, startD, DL.sizeLine_eq, h1, r1, z1, -iRange1_i, -bMaxL_ap]
  simp only [okP_obind]
  refine lc_wp (fun i s => ∃ Pi, s = [some (.lent Pi), some (.d (N places)), some (.d (N most)), none, none] ∧ Gen (n + 5 + 5 * i) Pi) (fun _ y => ∃ k : Nat, y = N k ∧ k ≤ 1000000000000) ⟨P1, rfl, by simpa using hP1⟩ ?_ ?_
  · rintro i x s hx ⟨Pi, rfl, hPi⟩
    have hi : i < places := by
      have := (List.getElem?_eq_some_iff.mp hx).1
      simpa using this
    obtain ⟨w, P2, hw, hP2, h2⟩ := random_ok (by omega) hPi most (by omega) sm
    simp [okP_some, h2]
    exact ⟨⟨w, rfl, by omega⟩, by rw [show n + 5 + 5 * (i + 1) = n + 5 + 5 * i + 5 by omega]; exact hP2⟩
  · rintro ys s hl hy ⟨Pi, rfl, hPi⟩
    simp at hl
    obtain ⟨ts, rfl, l, b⟩ := of_N ys fun y hy' => by
      obtain ⟨i, hi⟩ := List.mem_iff_getElem?.mp hy'
      exact hy i y hi
    have hl2 : ts.length = places := by rw [l, hl]
    have m1 := max_ok (ts := ts) (by omega)
    have hP3 : Gen (n + 50) Pi := hPi.up (by simp; omega)
    simp only [N] at m1
    by_cases hz : ts.sum = 0
    · have hm := (mx_zero ts).mpr hz
      rw [hm] at m1
      obtain ⟨w, P2, hw, hP2, h2⟩ := random_ok (by omega) hP3 most (by omega) sm
      obtain ⟨q, P3, hq, hP4, h3⟩ := random_ok (by omega) hP2 places (by omega) (sm_of 100 (by omega))
      have ix : q < (Ns ts).length := by rw [len_Ns]; omega
      have st := set_Ns ts q (1 + w)
      simp only [N, Int.natCast_add] at h2 h3 st
      simp [okP_some, m1, h2, h3, ix, -bMaxL_ap]
      simp at st
      refine ⟨ts.set q (1 + w), P3, ⟨st, rfl⟩, by simp [hl2], sum_set ts q (1 + w) (by omega) (by omega), fun t ht => ?_, hP4.up (by omega)⟩
      · rcases List.mem_or_eq_of_mem_set ht with h | h
        · have := b t h
          omega
        · omega
    · have hm : ¬ mx ts = 0 := fun h => hz ((mx_zero ts).mp h)
      simp [okP_some, m1, hm, -bMaxL_ap]
      exact ⟨ts, Pi, ⟨rfl, rfl⟩, hl2, by omega, fun t ht => by have := b t ht; omega, hP3.up (by omega)⟩
def wt (ts : List Nat) (p : Nat) : Nat := ts.getD p 0
def sw (ts : List Nat) (l : List Nat) : Nat := (l.map (wt ts)).sum
theorem wt_at {ts : List Nat} {p : Nat} (h : p < ts.length) : wt ts p = ts[p] := by
  unfold wt
  rw [List.getD_eq_getElem?_getD, List.getElem?_eq_getElem h]
  rfl
theorem wt_out {ts : List Nat} {p : Nat} (h : ¬ p < ts.length) : wt ts p = 0 := by
  unfold wt
  rw [List.getD_eq_getElem?_getD, List.getElem?_eq_none (by omega)]
  rfl
def enc (ts : List Nat) (p : Nat) : D := .tuple [.int (0 - (wt ts p : Int)), .int (p : Nat)]
noncomputable def ws (ts : List Nat) : List Nat := (List.range ts.length).mergeSort (PySem.W.dataLe false (enc ts))
theorem enc_le (ts : List Nat) : PySem.W.dataLe false (enc ts) = fun p q => decide ((0 - (wt ts p : Int)) < (0 - (wt ts q : Int)) ∨ ((0 - (wt ts p : Int)) = (0 - (wt ts q : Int)) ∧ (p : Int) ≤ (q : Int))) :=
  PySem.W.dataLe_ii (fun p => 0 - (wt ts p : Int)) (fun p : Nat => (p : Int))
theorem ws_perm (ts : List Nat) : (ws ts).Perm (List.range ts.length) := List.mergeSort_perm _ _
theorem ws_sorted (ts : List Nat) : (ws ts).Pairwise fun p q => wt ts q < wt ts p ∨ (wt ts p = wt ts q ∧ p ≤ q) := by
  have h := List.pairwise_mergeSort (le := PySem.W.dataLe false (enc ts)) (fun a b c h1 h2 => by
    rw [enc_le] at h1 h2 ⊢
    simp only [decide_eq_true_eq] at h1 h2 ⊢
    omega) (fun a b => by
    rw [enc_le]
    simp only [Bool.or_eq_true, decide_eq_true_eq]
    omega) (List.range ts.length)
  refine List.Pairwise.imp (fun {p q} h => ?_) h
  rw [enc_le] at h
  simp only [decide_eq_true_eq] at h
  omega
theorem ws_nodup (ts : List Nat) : (ws ts).Nodup := (ws_perm ts).nodup_iff.mpr List.nodup_range
theorem ws_mem {ts : List Nat} {p : Nat} : p ∈ ws ts ↔ p < ts.length := by rw [(ws_perm ts).mem_iff, List.mem_range]
theorem ws_len (ts : List Nat) : (ws ts).length = ts.length := by rw [(ws_perm ts).length_eq, List.length_range]
theorem sw_perm {ts : List Nat} {a b : List Nat} (h : a.Perm b) : sw ts a = sw ts b := (h.map _).sum_nat
theorem sw_range (ts : List Nat) : sw ts (List.range ts.length) = ts.sum := by
  unfold sw
  congr 1
  refine List.ext_getElem? fun i => ?_
  by_cases hi : i < ts.length
  · rw [List.getElem?_map, List.getElem?_range hi, List.getElem?_eq_getElem hi]
    simp [wt_at hi]
  · rw [List.getElem?_eq_none (by simp; omega), List.getElem?_eq_none (by omega)]
theorem sw_ws (ts : List Nat) : sw ts (ws ts) = ts.sum := by rw [sw_perm (ws_perm ts), sw_range]
theorem sw_cons (ts : List Nat) (p : Nat) (r : List Nat) : sw ts (p :: r) = wt ts p + sw ts r := by simp [sw]
theorem top_sum (ts : List Nat) : ∀ (w lot : List Nat), w.Pairwise (fun p q => wt ts q ≤ wt ts p) → lot.Nodup → (∀ x ∈ lot, x ∈ w) → sw ts lot ≤ sw ts (w.take lot.length)
  | [], lot, _, _, h => by
    cases lot with
    | nil => simp [sw]
    | cons x r => exact absurd (h x (by simp)) (by simp)
  | p :: r, [], _, _, _ => by simp [sw]
  | p :: r, x :: lot, hp, hn, h => by
    rw [List.pairwise_cons] at hp
    obtain ⟨hp1, hp2⟩ := hp
    by_cases c : p ∈ x :: lot
    · have pm := List.perm_cons_erase c
      have e1 := sw_perm (ts := ts) pm
      have l1 := pm.length_eq
      have n1 : (p :: (x :: lot).erase p).Nodup := pm.nodup_iff.mp hn
      rw [List.nodup_cons] at n1
      have ih := top_sum ts r ((x :: lot).erase p) hp2 n1.2 fun y hy => by
        rcases List.mem_cons.mp (h y (List.mem_of_mem_erase hy)) with rfl | hr
        · exact absurd hy n1.1
        · exact hr
      rw [e1, sw_cons]
      simp only [List.length_cons] at l1 ⊢
      rw [List.take_succ_cons, sw_cons]
      rw [show ((x :: lot).erase p).length = lot.length by omega] at ih
      omega
    · have hx : x ∈ r := by
        rcases List.mem_cons.mp (h x (by simp)) with rfl | hr
        · exact absurd (by simp) c
        · exact hr
      rw [List.nodup_cons] at hn
      have ih := top_sum ts r lot hp2 hn.2 fun y hy => by
        rcases List.mem_cons.mp (h y (by simp [hy])) with rfl | hr
        · exact absurd (by simp [hy]) c
        · exact hr
      have := hp1 x hx
      rw [sw_cons, List.length_cons, List.take_succ_cons, sw_cons]
      omega
theorem ws_desc (ts : List Nat) : (ws ts).Pairwise fun p q => wt ts q ≤ wt ts p := (ws_sorted ts).imp fun h => by omega
/-- what a share takes -/
def grab (ts : List Nat) (b aT : Nat) : List Nat → Nat → List Nat
  | [], _ => []
  | p :: r, s => if s * b < aT then p :: grab ts b aT r (s + wt ts p) else grab ts b aT r s
theorem grab_ok (ts : List Nat) (b aT : Nat) : ∀ (w : List Nat) (s : Nat), ∃ k, k ≤ w.length ∧ grab ts b aT w s = w.take k ∧ (∀ j, j < k → (s + sw ts (w.take j)) * b < aT) ∧ (aT ≤ (s + sw ts (w.take k)) * b ∨ k = w.length)
  | [], s => ⟨0, by simp, rfl, fun j hj => by omega, .inr rfl⟩
  | p :: r, s => by
    by_cases h : s * b < aT
    · obtain ⟨k, k1, k2, k3, k4⟩ := grab_ok ts b aT r (s + wt ts p)
      refine ⟨k + 1, by simp; omega, by simp [grab, h, k2], fun j hj => ?_, ?_⟩
      · cases j with
        | zero => simpa [sw] using h
        | succ j =>
          have := k3 j (by omega)
          rw [List.take_succ_cons, sw_cons, ← Nat.add_assoc]
          exact this
      · rcases k4 with k4 | k4
        · refine .inl ?_
          rw [List.take_succ_cons, sw_cons, ← Nat.add_assoc]
          exact k4
        · exact .inr (by simp [k4])
    · obtain ⟨k, k1, k2, k3, k4⟩ := grab_ok ts b aT r s
      have hk : k = 0 := by
        apply Classical.byContradiction
        intro z
        have := k3 0 (by omega)
        simp [sw] at this
        omega
      subst hk
      exact ⟨0, by simp, by simp [grab, h, k2], fun j hj => by omega, .inl (by simp [sw]; omega)⟩
def En (ts : List Nat) : List D := ((Ns ts).zipIdx).map fun p => .tuple [.int (p.2 : Nat), p.1]
theorem iEnum_En (ts : List Nat) : iEnum [tab ts] = some (En ts) := rfl
theorem En_range (ts : List Nat) : En ts = (List.range ts.length).map fun i => .tuple [N i, N (wt ts i)] := by
  refine List.ext_getElem? fun i => ?_
  unfold En
  rw [List.getElem?_map, List.getElem?_zipIdx, List.getElem?_map]
  by_cases hi : i < ts.length
  · rw [List.getElem?_range hi]
    unfold Ns
    rw [List.getElem?_map, List.getElem?_eq_getElem hi]
    simp [wt_at hi]
  · rw [List.getElem?_eq_none (by rw [len_Ns]; omega), List.getElem?_eq_none (by rw [List.length_range]; omega)]
    rfl
theorem En_len (ts : List Nat) : (En ts).length = ts.length := by rw [En_range, List.length_map, List.length_range]
theorem fm_map {α : Type} {g : α → D} {f : D → Option D} {h : α → D} (e : ∀ i, f (g i) = some (h i)) : ∀ l : List α, (l.map g).filterMap f = l.map h
  | [] => rfl
  | x :: r => by rw [List.map_cons, List.filterMap_cons, e, List.map_cons, fm_map e r]
theorem fm_filter {α : Type} {g : α → D} {f : D → Option D} {h : α → D} {c : α → Bool} (e : ∀ i, f (g i) = if c i then some (h i) else none) : ∀ l : List α, (l.map g).filterMap f = (l.filter c).map h
  | [] => rfl
  | x :: r => by
    rw [List.map_cons, List.filterMap_cons, e, List.filter_cons]
    cases hc : c x with
    | true => simp [fm_filter e r]
    | false => simp [fm_filter e r]
theorem in_Ns (p : Nat) (ks : List Nat) : opInB (.int (p : Nat)) (.list (Ns ks)) = some (decide (p ∈ ks)) := by
  have h1 : (Ns ks).all atomD = true := by
    rw [List.all_eq_true]
    intro y hy
    obtain ⟨k, _, rfl⟩ := List.mem_map.mp hy
    rfl
  show (if atomD (.int (p : Nat)) = true ∧ (Ns ks).all atomD = true then some ((Ns ks).any fun y => PyData.eqv y (.int (p : Nat))) else none) = _
  rw [if_pos ⟨rfl, h1⟩]
  congr 1
  induction ks with
  | nil => rfl
  | cons k r ih =>
    have ih := ih (by
      rw [List.all_eq_true] at h1 ⊢
      exact fun y hy => h1 y (List.mem_cons_of_mem _ hy))
    show (PyData.eqv (.int (k : Nat)) (.int (p : Nat)) || (Ns r).any fun y => PyData.eqv y (.int (p : Nat))) = _
    rw [ih]
    by_cases h : p = k
    · subst h
      simp [PyData.eqv]
    · have h' : ¬ ((k : Int) = (p : Int)) := by omega
      have h'' : ¬ k = p := fun z => h z.symm
      simp [PyData.eqv, h, h', h'']
theorem sortable_enc (ts : List Nat) (l : List Nat) : sortable (l.map (enc ts)) = true := by
  simp only [sortable, Bool.and_eq_true, Bool.or_eq_true, List.all_eq_true, Bool.not_eq_true', decide_eq_true_eq]
  refine ⟨⟨fun d hd d' hd' => ?_, .inl fun d hd => ?_⟩, fun d hd => ?_⟩
  · obtain ⟨p, _, rfl⟩ := List.mem_map.mp hd
    obtain ⟨q, _, rfl⟩ := List.mem_map.mp hd'
    simp [enc, PySem.W.alike, PySem.W.alikeAll]
  · obtain ⟨p, _, rfl⟩ := List.mem_map.mp hd
    rfl
  · obtain ⟨p, _, rfl⟩ := List.mem_map.mp hd
    exact ⟨rfl, by simp [enc, PyData.depth, PyData.depthAll]⟩
theorem sort_enc (ts : List Nat) : sortD ((List.range ts.length).map (enc ts)) = (ws ts).map (enc ts) := by
  unfold sortD ws
  rw [List.map_mergeSort (r := PySem.W.dataLe false (enc ts)) (s := PySem.W.dataLe false id) (f := enc ts) (l := List.range ts.length) (fun a _ b _ => rfl)]
def encF (x : D) : Option D := match x with
  | .tuple [.int i, .int c] => some (.tuple [.int (0 - c), .int i])
  | _ => none
def sndF (x : D) : Option D := match x with
  | .tuple [_, y] => some y
  | _ => none
theorem by_weight_ok (ts : List Nat) (hl : ts.length ≤ 1000) : m_by_weight [.d (tab ts)] = some (.own (Ns (ws ts)), []) := by
  have l1 := En_len ts
  have l2 : ts.length ≤ 16777216 := by omega
  have l3 := ws_len ts
  have hi := iEnum_En ts
  refine okP.eq ?_
  simp [m_by_weight, g_by_weight, run_ap, startD, DL.sizeLine_eq, hi, l1, l2, -iEnum_l]
  simp only [okP_obind]
  refine okP_of (lc_map encF fun x hx => ?_) ?_
  · rw [En_range] at hx
    obtain ⟨i, _, rfl⟩ := List.mem_map.mp hx
    simp [okP_some, encF, DL.sizeLine_eq]
  · have e : (En ts).filterMap encF = (List.range ts.length).map (enc ts) := by
      rw [En_range, fm_map (h := enc ts)]
      exact fun i => rfl
    rw [e]
    have s1 := sortable_enc ts (List.range ts.length)
    have s2 := sort_enc ts
    simp [okP_some, s1, s2, l2, l3, DL.sizeLine_eq]
    simp only [okP_obind]
    refine okP_of (lc_map sndF fun x hx => ?_) ?_
    · obtain ⟨i, _, rfl⟩ := List.mem_map.mp hx
      simp [okP_some, enc, sndF]
    · rw [fm_map (g := enc ts) (f := sndF) (h := fun p => N p) (fun i => rfl)]
      simp [okP_some, Ns]
/-- a table cut to places -/
def kp (ts ks : List Nat) : List Nat := (List.range ts.length).map fun p => if p ∈ ks then wt ts p else 0
theorem kp_len (ts ks) : (kp ts ks).length = ts.length := by simp [kp]
def keepF (ks : List Nat) (x : D) : Option D := match x with
  | .tuple [.int i, .int c] => some (if i.toNat ∈ ks then .int c else .int 0)
  | _ => none
theorem keep_map (ts ks : List Nat) : (En ts).filterMap (keepF ks) = Ns (kp ts ks) := by
  rw [En_range]
  unfold kp Ns
  rw [List.map_map]
  refine fm_map (fun i => ?_) _
  show some _ = some _
  by_cases h : i ∈ ks <;> simp [h]
theorem kept_places_ok (ts ks : List Nat) (hl : ts.length ≤ 1000) : m_kept_places [.d (tab ts), .d (.list (Ns ks))] = some (.own (Ns (kp ts ks)), []) := by
  have l1 := En_len ts
  have l2 : ts.length ≤ 16777216 := by omega
  have hi := iEnum_En ts
  refine okP.eq ?_
  simp [m_kept_places, g_kept_places, run_ap, startD, DL.sizeLine_eq, hi, l1, l2, -iEnum_l]
  simp only [okP_obind]
  refine okP_of (lc_map (keepF ks) fun x hx => ?_) ?_
  · rw [En_range] at hx
    obtain ⟨i, _, rfl⟩ := List.mem_map.mp hx
    by_cases h : i ∈ ks <;> simp [okP_some, keepF, in_Ns, h]
  · rw [keep_map]
    simp [okP_some]
theorem law_kept_ok (ts ks : List Nat) (hl : ts.length ≤ 1000) (hs : ∀ t ∈ ts, Sm 8000 t) : m__law_kept [.d (tab ts), .d (.list (Ns ks))] = some (.own (Ns (kp ts ks)), []) := by
  have l1 := En_len ts
  have l2 : ts.length ≤ 16777216 := by omega
  have hi := iEnum_En ts
  refine okP.eq ?_
  simp [m__law_kept, g__law_kept, run_ap, startD, DL.sizeLine_eq, hi, l1, l2, -iEnum_l]
  simp only [okP_obind]
  refine okP_of (lc_map (keepF ks) fun x hx => ?_) ?_
  · rw [En_range] at hx
    obtain ⟨i, hi, rfl⟩ := List.mem_map.mp hx
    have hi := List.mem_range.mp hi
    have hb := hs ts[i] (List.getElem_mem hi)
    rw [← wt_at hi] at hb
    have lw : (wt ts i).log2 ≤ 8000 := hb.log
    have l0 : Nat.log2 0 = 0 := by decide
    have l1 : Nat.log2 1 = 0 := by decide
    have q0 : (wt ts i).log2 + Nat.log2 0 < 1000000 := by omega
    have q1 : (wt ts i).log2 + Nat.log2 1 < 1000000 := by omega
    have q2 : (wt ts i).log2 < 1000000 := by omega
    by_cases h : i ∈ ks <;> simp [okP_some, keepF, in_Ns, h, q0, q1, q2]
  · rw [keep_map]
    simp [okP_some]
theorem grab_go {ts : List Nat} {a b aT : Nat} (hb : Sm 8000 b) : ∀ (w : List Nat) (ks : List Nat) (s : Nat) (o : Option SV), (∀ p ∈ w, p < ts.length) → Sm 8000 (s + sw ts w) → ks.length + w.length ≤ 1000 → nd o = true →
    ∃ s' o', forGo (DL.gName 5) (dIfS (dTest (dOp2 opLt (dOp2 opMul (dVar 4) (dOp2 opIx (dVar 1) (dC (.int 1)))) (dVar 2))) (dSeq (dAppend 3 (dVar 5)) (dAug opAddI 4 (dOp2 opIx (dVar 0) (dVar 5)))) (dNext)) (Ns w)
      [some (.d (tab ts)), some (.d (fr a b)), some (.d (N aT)), some (.own (Ns ks)), some (.d (N s)), o] = some (.nx, [some (.d (tab ts)), some (.d (fr a b)), some (.d (N aT)), some (.own (Ns (ks ++ grab ts b aT w s))), s', o'])
  | [], ks, s, o, _, _, _, _ => ⟨_, _, by rw [Ns, List.map_nil, forGo_nil, grab, List.append_nil]⟩
  | p :: r, ks, s, o, hp, hs, hl, ho => by
    have hp0 := hp p (by simp)
    rw [sw_cons, ← Nat.add_assoc] at hs
    have hs1 : Sm 100000 s := (hs.le (by omega)).mono (by decide)
    have hb1 : Sm 100000 b := hb.mono (by decide)
    have m := mul_n hs1 hb1
    have i1 := ix_ok ts hp0
    rw [← wt_at hp0] at i1
    have e0 : Ns (p :: r) = N p :: Ns r := rfl
    have q : (((s * b : Nat) : Int) < (aT : Nat)) ↔ s * b < aT := by omega
    simp only [List.length_cons] at hl
    have lk := len_Ns ks
    rw [e0, forGo_cons]
    by_cases h : s * b < aT
    · obtain ⟨s', o', e⟩ := grab_go (aT := aT) (a := a) hb r (ks ++ [p]) (s + wt ts p) (some (.d (N p))) (fun x hx => hp x (by simp [hx])) hs (by simp; omega) rfl
      have ea : Ns (ks ++ [p]) = Ns ks ++ [N p] := by simp [Ns]
      refine ⟨s', o', ?_⟩
      rw [ea] at e
      simp only [N, Int.natCast_add] at e i1 ea
      rw [show grab ts b aT (p :: r) s = p :: grab ts b aT r (s + wt ts p) by simp [grab, h]]
      rw [show ks ++ p :: grab ts b aT r (s + wt ts p) = ks ++ [p] ++ grab ts b aT r (s + wt ts p) by simp]
      simp [kSetS_nd, ho, m, i1, q, h, e, lk, show ks.length < 16777216 by omega, DL.sizeLine_eq, -opMul_ii, -opIx_li, -Int.natCast_mul]
    · obtain ⟨s', o', e⟩ := grab_go (aT := aT) (a := a) hb r ks s (some (.d (N p))) (fun x hx => hp x (by simp [hx])) (hs.le (by omega)) (by omega) rfl
      refine ⟨s', o', ?_⟩
      rw [show grab ts b aT (p :: r) s = grab ts b aT r s by simp [grab, h]]
      simp only [N] at e i1
      simp [kSetS_nd, ho, m, i1, q, h, e, -opMul_ii, -opIx_li, -Int.natCast_mul]
theorem shared_ok {ts : List Nat} {a b : Nat} (hl : ts.length ≤ 1000) (hT : Sm 8000 ts.sum) (d : OddsF a b) :
    ∃ k, k ≤ ts.length ∧ m_shared_out [.d (tab ts), .d (fr a b)] = some (.own (Ns (kp ts ((ws ts).take k))), []) ∧ (∀ j, j < k → sw ts ((ws ts).take j) * b < a * ts.sum) ∧ a * ts.sum ≤ sw ts ((ws ts).take k) * b := by
  obtain ⟨k, k1, k2, k3, k4⟩ := grab_ok ts b (a * ts.sum) (ws ts) 0
  simp only [Nat.zero_add] at k3 k4
  rw [ws_len] at k1 k4
  obtain ⟨s', o', e⟩ := grab_go (ts := ts) (a := a) (aT := a * ts.sum) d.sm (ws ts) [] 0 none (fun p hp => ws_mem.mp hp) (by rw [Nat.zero_add, sw_ws]; exact hT) (by rw [ws_len]; simp; omega) rfl
  rw [List.nil_append, k2] at e
  have sm := sum_ok ts
  have m := mul_n (d.sm.le d.le |>.mono (show 8000 ≤ 100000 by decide)) (hT.mono (show 8000 ≤ 100000 by decide))
  have bw := by_weight_ok ts hl
  have kk := kept_places_ok ts ((ws ts).take k) hl
  simp only [N] at e sm
  rw [show Ns [] = [] from rfl, show ((0 : Nat) : Int) = 0 from rfl] at e
  refine ⟨k, k1, ?_, k3, ?_⟩
  · simp [m_shared_out, g_shared_out, run_ap, startD, sm, m, bw, e, kk, DL.sizeLine_eq, -opMul_ii, -bSum_l, -Int.natCast_mul]
  · rcases k4 with k4 | k4
    · exact k4
    · rw [k4, show (ws ts).take ts.length = ws ts by rw [← ws_len ts, List.take_length], sw_ws, Nat.mul_comm ts.sum b]
      exact Nat.mul_le_mul_right _ d.le
/-! ## lowest -/
def gall : List Nat → Nat → Nat
  | [], g => g
  | t :: r, g => gall r (Nat.gcd g t)
theorem gall_dvd : ∀ (ts : List Nat) (g : Nat), gall ts g ∣ g ∧ ∀ t ∈ ts, gall ts g ∣ t
  | [], g => ⟨Nat.dvd_refl g, fun t ht => by simp at ht⟩
  | t :: r, g => by
    obtain ⟨h1, h2⟩ := gall_dvd r (Nat.gcd g t)
    refine ⟨Nat.dvd_trans h1 (Nat.gcd_dvd_left g t), fun x hx => ?_⟩
    rcases List.mem_cons.mp hx with rfl | hx
    · exact Nat.dvd_trans h1 (Nat.gcd_dvd_right g _)
    · exact h2 x hx
def gg (ts : List Nat) : Nat := gall ts 0
theorem sum_pos_mem : ∀ {ts : List Nat}, 0 < ts.sum → ∃ t ∈ ts, 0 < t
  | [], h => by simp at h
  | t :: r, h => by
    by_cases ht : 0 < t
    · exact ⟨t, by simp, ht⟩
    · obtain ⟨x, hx, h'⟩ := sum_pos_mem (ts := r) (by simp at h; omega)
      exact ⟨x, by simp [hx], h'⟩
theorem gg_pos {ts : List Nat} (h : 0 < ts.sum) : 0 < gg ts := by
  obtain ⟨t, ht, h0⟩ := sum_pos_mem h
  exact Nat.pos_of_dvd_of_pos ((gall_dvd ts 0).2 t ht) h0
theorem mem_le_sum : ∀ {ts : List Nat} {t : Nat}, t ∈ ts → t ≤ ts.sum
  | t :: r, x, h => by
    rcases List.mem_cons.mp h with rfl | h
    · simp
    · have := mem_le_sum h
      simp
      omega
theorem gg_le {ts : List Nat} (h : 0 < ts.sum) : gg ts ≤ ts.sum := by
  obtain ⟨t, ht, h0⟩ := sum_pos_mem h
  exact Nat.le_trans (Nat.le_of_dvd h0 ((gall_dvd ts 0).2 t ht)) (mem_le_sum ht)
def lw (ts : List Nat) : List Nat := ts.map fun t => t / gg ts
theorem wt_map {ts : List Nat} {f : Nat → Nat} (h0 : f 0 = 0) (p : Nat) : wt (ts.map f) p = f (wt ts p) := by
  by_cases h : p < ts.length
  · rw [wt_at (by simpa using h), wt_at h, List.getElem_map]
  · rw [wt_out (by simpa using h), wt_out h, h0]
theorem lw_pos {ts : List Nat} (h : 0 < ts.sum) (p : Nat) : 0 < wt (lw ts) p ↔ 0 < wt ts p := by
  unfold lw
  rw [wt_map (by simp)]
  have hg := gg_pos h
  by_cases hp : p < ts.length
  · have hd : gg ts ∣ wt ts p := by
      rw [wt_at hp]
      exact (gall_dvd ts 0).2 _ (List.getElem_mem hp)
    constructor
    · intro z
      apply Classical.byContradiction
      intro y
      rw [show wt ts p = 0 by omega, Nat.zero_div] at z
      omega
    · intro z
      exact Nat.div_pos (Nat.le_of_dvd z hd) hg
  · rw [wt_out hp, Nat.zero_div]
theorem gall_go1 {tb : D} : ∀ (ts : List Nat) (g : Nat) (o : Option SV), (o = none ∨ ∃ y, o = some (.d y)) → ∃ o', (o' = none ∨ ∃ y, o' = some (.d y)) ∧ forGo (DL.gName 2) (dSet 1 (dCall m_divisor [false, false] [] (dCons (dVar 1) (dCons (dVar 2) (dNil))))) (Ns ts) [some (.d tb), some (.d (N g)), o] = some (.nx, [some (.d tb), some (.d (N (gall ts g))), o'])
  | [], g, o, ho => ⟨o, ho, by rw [Ns, List.map_nil, forGo_nil, gall]⟩
  | t :: r, g, o, ho => by
    obtain ⟨o', h', e⟩ := gall_go1 (tb := tb) r (Nat.gcd g t) (some (.d (N t))) (.inr ⟨_, rfl⟩)
    have d := divisor_ok g t
    refine ⟨o', h', ?_⟩
    rw [show Ns (t :: r) = N t :: Ns r from rfl, forGo_cons]
    simp only [N] at d e
    rcases ho with rfl | ⟨y, rfl⟩ <;> simp [d, e, gall]
theorem gall_go2 {tb : D} : ∀ (ts : List Nat) (g : Nat) (o : Option SV), (o = none ∨ ∃ y, o = some (.d y)) → ∃ o', (o' = none ∨ ∃ y, o' = some (.d y)) ∧ forGo (DL.gName 2) (dSet 1 (dCall m__law_common [false, false] [] (dCons (dVar 1) (dCons (dVar 2) (dNil))))) (Ns ts) [some (.d tb), some (.d (N g)), o] = some (.nx, [some (.d tb), some (.d (N (gall ts g))), o'])
  | [], g, o, ho => ⟨o, ho, by rw [Ns, List.map_nil, forGo_nil, gall]⟩
  | t :: r, g, o, ho => by
    obtain ⟨o', h', e⟩ := gall_go2 (tb := tb) r (Nat.gcd g t) (some (.d (N t))) (.inr ⟨_, rfl⟩)
    have d := common_ok g t
    refine ⟨o', h', ?_⟩
    rw [show Ns (t :: r) = N t :: Ns r from rfl, forGo_cons]
    simp only [N] at d e
    rcases ho with rfl | ⟨y, rfl⟩ <;> simp [d, e, gall]
def divF (g : Nat) (x : D) : Option D := match x with
  | .int i => some (.int (i / (g : Int)))
  | _ => none
theorem div_map (ts : List Nat) : (Ns ts).filterMap (divF (gg ts)) = Ns (lw ts) := by
  unfold lw Ns
  rw [List.map_map]
  exact fm_map (g := fun k : Nat => N k) (f := divF (gg ts)) (h := (fun k => N k) ∘ fun t => t / gg ts) (fun i => rfl) ts
theorem lowered_ok {ts : List Nat} (hl : ts.length ≤ 1000) (h0 : 0 < ts.sum) (hT : Sm 8000 ts.sum) : m_lowered [.d (tab ts)] = some (.own (Ns (lw ts)), []) ∧ m__law_lowest [.d (tab ts)] = some (.own (Ns (lw ts)), []) := by
  have hg := gg_pos h0
  have hg' : (0 : Int) < (gg ts : Nat) := by omega
  have lg : (gg ts).log2 < 9000 := Nat.lt_of_le_of_lt (hT.le (gg_le h0)).log (by decide)
  have l1 := len_Ns ts
  have l2 : ts.length ≤ 16777216 := by omega
  have hgg : gall ts 0 = gg ts := rfl
  constructor
  · obtain ⟨o', ho, e⟩ := gall_go1 (tb := tab ts) ts 0 none (.inl rfl)
    rw [hgg] at e
    simp only [N] at e
    rw [show ((0 : Nat) : Int) = 0 from rfl] at e
    refine okP.eq ?_
    rcases ho with rfl | ⟨y, rfl⟩
    · simp [m_lowered, g_lowered, run_ap, startD, e, l1, l2, DL.sizeLine_eq]
      simp only [okP_obind]
      refine okP_of (lc_map (divF (gg ts)) fun x hx => ?_) ?_
      · obtain ⟨i, _, rfl⟩ := List.mem_map.mp hx
        simp [okP_some, divF, hg, hg', lg]
      · rw [div_map]
        simp [okP_some]
    · simp [m_lowered, g_lowered, run_ap, startD, e, l1, l2, DL.sizeLine_eq]
      simp only [okP_obind]
      refine okP_of (lc_map (divF (gg ts)) fun x hx => ?_) ?_
      · obtain ⟨i, _, rfl⟩ := List.mem_map.mp hx
        simp [okP_some, divF, hg, hg', lg]
      · rw [div_map]
        simp [okP_some]
  · obtain ⟨o', ho, e⟩ := gall_go2 (tb := tab ts) ts 0 none (.inl rfl)
    rw [hgg] at e
    simp only [N] at e
    rw [show ((0 : Nat) : Int) = 0 from rfl] at e
    refine okP.eq ?_
    rcases ho with rfl | ⟨y, rfl⟩
    · simp [m__law_lowest, g__law_lowest, run_ap, startD, e, l1, l2, DL.sizeLine_eq]
      simp only [okP_obind]
      refine okP_of (lc_map (divF (gg ts)) fun x hx => ?_) ?_
      · obtain ⟨i, _, rfl⟩ := List.mem_map.mp hx
        simp [okP_some, divF, hg, hg', lg]
      · rw [div_map]
        simp [okP_some]
    · simp [m__law_lowest, g__law_lowest, run_ap, startD, e, l1, l2, DL.sizeLine_eq]
      simp only [okP_obind]
      refine okP_of (lc_map (divF (gg ts)) fun x hx => ?_) ?_
      · obtain ⟨i, _, rfl⟩ := List.mem_map.mp hx
        simp [okP_some, divF, hg, hg', lg]
      · rw [div_map]
        simp [okP_some]
theorem lowest_ok {ts : List Nat} (hl : ts.length ≤ 1000) (h0 : 0 < ts.sum) (hT : Sm 8000 ts.sum) : m_lowest [.d (tab ts)] = some (.own (Ns (lw ts)), []) := by
  have h1 := (lowered_ok hl h0 hT).1
  have h2 := (table_ok ts hl h0).2
  simp [m_lowest, g_lowest, run_ap, startD, h1, h2]
/-! ## what is a filter -/
theorem str_eq (a b : Str) : opEq (.str a) (.str b) = some (.d (.bool (a == b))) := by simp [opEq, flat, PyData.plain, PyData.depth, PyData.eqv]
theorem in_two (a b c : Str) : opInB (.str a) (.tuple [.str b, .str c]) = some (b == a || c == a) := by
  simp [opInB, atomD, PyData.eqv]
theorem share_filter {a b : Nat} (d : OddsF a b) (ha : 0 < a) : m_is_filter [.d (.tuple [.str (Str.ofString "share"), fr a b])] = some (.d (.bool true), []) := by
  have e1 : (Str.ofString "share" == Str.ofString "weigh") = false := by decide +kernel
  have e2 : (Str.ofString "power" == Str.ofString "share") = false := by decide +kernel
  have e3 : (Str.ofString "first" == Str.ofString "share") = false := by decide +kernel
  have e4 : (Str.ofString "share" == Str.ofString "share") = true := by decide +kernel
  have e5 : (Str.ofString "share" == Str.ofString "floor") = false := by decide +kernel
  have o := is_odds_ok d
  have h1 : (a : Int) ≤ (b : Int) := by have := d.le; omega
  have h1' := d.le
  have h2 : (0 : Int) < (a : Int) := by omega
  simp [m_is_filter, g_is_filter, run_ap, startD, isTy, tyName, str_eq, in_two, e1, e2, e3, e4, e5, o, h1, h1', h2, ha, DL.sizeLine_eq]
theorem floor_filter {a b : Nat} (d : OddsF a b) : m_is_filter [.d (.tuple [.str (Str.ofString "floor"), fr a b])] = some (.d (.bool true), []) := by
  have e1 : (Str.ofString "floor" == Str.ofString "weigh") = false := by decide +kernel
  have e2 : (Str.ofString "power" == Str.ofString "floor") = false := by decide +kernel
  have e3 : (Str.ofString "first" == Str.ofString "floor") = false := by decide +kernel
  have e4 : (Str.ofString "share" == Str.ofString "floor") = false := by decide +kernel
  have e5 : (Str.ofString "floor" == Str.ofString "floor") = true := by decide +kernel
  have o := is_odds_ok d
  have h1 : (a : Int) ≤ (b : Int) := by have := d.le; omega
  have h1' := d.le
  simp [m_is_filter, g_is_filter, run_ap, startD, isTy, tyName, str_eq, in_two, e1, e2, e3, e4, e5, o, h1, h1', DL.sizeLine_eq]
theorem first_filter {m : Nat} (hm : 1 ≤ m) : m_is_filter [.d (.tuple [.str (Str.ofString "first"), N m])] = some (.d (.bool true), []) := by
  have e1 : (Str.ofString "first" == Str.ofString "weigh") = false := by decide +kernel
  have e2 : (Str.ofString "power" == Str.ofString "first") = false := by decide +kernel
  have e3 : (Str.ofString "first" == Str.ofString "first") = true := by decide +kernel
  have h1 : (1 : Int) ≤ (m : Int) := by omega
  have w := whole_ok (N m) 1
  simp [cnt, h1, hm] at w
  simp [m_is_filter, g_is_filter, run_ap, startD, isTy, tyName, str_eq, in_two, e1, e2, e3, w, DL.sizeLine_eq]
/-- heavier, or as heavy and ahead -/
def Rr (ts : List Nat) (p q : Nat) : Prop := wt ts q < wt ts p ∨ (wt ts p = wt ts q ∧ p ≤ q)
theorem perm_unique (ts : List Nat) : ∀ (a b : List Nat), a.Perm b → a.Pairwise (Rr ts) → b.Pairwise (Rr ts) → a = b
  | [], b, h, _, _ => by rw [List.nil_perm.mp h]
  | x :: a, [], h, _, _ => by
    have := h.length_eq
    simp at this
  | x :: a, y :: b, h, ha, hb => by
    rw [List.pairwise_cons] at ha hb
    have e : x = y := by
      have h1 : x ∈ y :: b := h.mem_iff.mp (by simp)
      have h2 : y ∈ x :: a := h.mem_iff.mpr (by simp)
      rcases List.mem_cons.mp h1 with e | h1
      · exact e
      · rcases List.mem_cons.mp h2 with e | h2
        · exact e.symm
        · have r1 := ha.1 y h2
          have r2 := hb.1 x h1
          unfold Rr at r1 r2
          omega
    subst e
    rw [perm_unique ts a b (List.Perm.cons_inv h) ha.2 hb.2]
def bst (ts : List Nat) : Nat → List Nat → Nat
  | b, [] => b
  | b, p :: r => if wt ts b < wt ts p then bst ts p r else bst ts b r
theorem bst_ok (ts : List Nat) : ∀ (l : List Nat) (b : Nat), (∀ q ∈ l, b ≤ q) → l.Pairwise (· < ·) → (bst ts b l = b ∨ bst ts b l ∈ l) ∧ Rr ts (bst ts b l) b ∧ ∀ q ∈ l, Rr ts (bst ts b l) q
  | [], b, _, _ => ⟨.inl rfl, .inr ⟨rfl, Nat.le_refl _⟩, fun q hq => by simp at hq⟩
  | p :: r, b, hb, hp => by
    rw [List.pairwise_cons] at hp
    unfold bst
    have hbp := hb p (by simp)
    by_cases h : wt ts b < wt ts p
    · rw [if_pos h]
      obtain ⟨h1, h2, h3⟩ := bst_ok ts r p (fun q hq => Nat.le_of_lt (hp.1 q hq)) hp.2
      refine ⟨.inr ?_, ?_, fun q hq => ?_⟩
      · rcases h1 with h1 | h1
        · rw [h1]; simp
        · exact List.mem_cons_of_mem _ h1
      · unfold Rr at h2 ⊢
        omega
      · rcases List.mem_cons.mp hq with rfl | hq
        · exact h2
        · exact h3 q hq
    · rw [if_neg h]
      obtain ⟨h1, h2, h3⟩ := bst_ok ts r b (fun q hq => hb q (by simp [hq])) hp.2
      refine ⟨h1.imp id (List.mem_cons_of_mem _), h2, fun q hq => ?_⟩
      rcases List.mem_cons.mp hq with rfl | hq
      · unfold Rr at h2 ⊢
        omega
      · exact h3 q hq
def sel (ts : List Nat) : Nat → List Nat → List Nat
  | 0, _ => []
  | _ + 1, [] => []
  | n + 1, x :: r => bst ts x (x :: r) :: sel ts n ((x :: r).erase (bst ts x (x :: r)))
theorem asc_erase {l : List Nat} (h : l.Pairwise (· < ·)) (b : Nat) : (l.erase b).Pairwise (· < ·) := List.Pairwise.sublist List.erase_sublist h
theorem sel_ok (ts : List Nat) : ∀ (n : Nat) (l : List Nat), l.length ≤ n → l.Pairwise (· < ·) → (sel ts n l).Perm l ∧ (sel ts n l).Pairwise (Rr ts)
  | 0, l, h, _ => by
    have : l = [] := List.length_eq_zero_iff.mp (by omega)
    subst this
    exact ⟨List.Perm.refl _, List.Pairwise.nil⟩
  | n + 1, [], _, _ => ⟨List.Perm.refl _, List.Pairwise.nil⟩
  | n + 1, x :: r, h, hp => by
    have hp' := hp
    rw [List.pairwise_cons] at hp
    obtain ⟨h1, h2, h3⟩ := bst_ok ts (x :: r) x (fun q hq => by
      rcases List.mem_cons.mp hq with rfl | hq
      · exact Nat.le_refl _
      · exact Nat.le_of_lt (hp.1 q hq)) hp'
    have hm : bst ts x (x :: r) ∈ x :: r := by
      rcases h1 with h1 | h1
      · rw [h1]; simp
      · exact h1
    have pm := List.perm_cons_erase hm
    have hl : ((x :: r).erase (bst ts x (x :: r))).length ≤ n := by
      have := pm.length_eq
      simp only [List.length_cons] at this h
      omega
    obtain ⟨i1, i2⟩ := sel_ok ts n _ hl (asc_erase hp' (bst ts x (x :: r)))
    refine ⟨(i1.cons _).trans pm.symm, ?_⟩
    unfold sel
    rw [List.pairwise_cons]
    exact ⟨fun q hq => h3 q (List.mem_of_mem_erase (i1.mem_iff.mp hq)), i2⟩
theorem sel_ws (ts : List Nat) : sel ts ts.length (List.range ts.length) = ws ts := by
  obtain ⟨h1, h2⟩ := sel_ok ts ts.length (List.range ts.length) (by rw [List.length_range]; exact Nat.le_refl _) List.pairwise_lt_range
  exact perm_unique ts _ _ (h1.trans (ws_perm ts).symm) h2 (ws_sorted ts)
theorem flat_Ns (l : List Nat) : flat (.list (Ns l)) = true := by
  have h1 : ∀ l : List Nat, PyData.plainAll (Ns l) = true := by
    intro l
    induction l with
    | nil => rfl
    | cons x r ih => show (PyData.plain (N x) && PyData.plainAll (Ns r)) = true; rw [ih]; rfl
  have h2 : ∀ l : List Nat, PyData.depthAll (Ns l) = 0 := by
    intro l
    induction l with
    | nil => rfl
    | cons x r ih => show max (PyData.depth (N x)) (PyData.depthAll (Ns r)) = 0; rw [ih]; rfl
  simp [flat, PyData.plain, PyData.depth, h1, h2]
theorem ne_cons (x : Nat) (r : List Nat) : opNe (.list (Ns (x :: r))) (.list []) = some (.d (.bool true)) := by
  have h := flat_Ns (x :: r)
  have h2 : flat (.list []) = true := rfl
  simp [opNe, h, h2, PyData.eqv]
  rfl
theorem best_go {ts full : List Nat} {fd : Option SV} : ∀ (l : List Nat) (b : Nat) (o : Option SV), b < ts.length → (∀ p ∈ l, p < ts.length) → nd o = true →
    ∃ o', nd o' = true ∧ forGoB 1 (Ns full) (DL.gName 4) (dIfS (dTest (dOp2 opGt (dOp2 opIx (dVar 0) (dVar 4)) (dOp2 opIx (dVar 0) (dVar 3)))) (dSet 3 (dVar 4)) (dNext)) (Ns l) [some (.d (tab ts)), some (.own (Ns full)), fd, some (.d (N b)), o] =
      some (.nx, [some (.d (tab ts)), some (.own (Ns full)), fd, some (.d (N (bst ts b l))), o'])
  | [], b, o, _, _, ho => ⟨o, ho, by
    show forGoB 1 (Ns full) _ _ [] _ = _
    rw [forGoB_nil _ _ _ _ _ rfl, bst]⟩
  | p :: r, b, o, hb, hp, ho => by
    have hp0 := hp p (by simp)
    have ip := ix_ok ts hp0
    have ib := ix_ok ts hb
    rw [← wt_at hp0] at ip
    rw [← wt_at hb] at ib
    simp only [N] at ip ib
    rw [show Ns (p :: r) = N p :: Ns r from rfl, forGoB_cons _ _ _ _ _ _ _ rfl]
    by_cases h : wt ts b < wt ts p
    · obtain ⟨o', h', e⟩ := best_go (full := full) (fd := fd) r p (some (.d (N p))) hp0 (fun q hq => hp q (by simp [hq])) rfl
      refine ⟨o', h', ?_⟩
      have h1 : ((wt ts b : Nat) : Int) < (wt ts p : Nat) := by omega
      simp only [N] at e
      simp [kSetS_nd, ho, ip, ib, h, h1, e, bst, -opIx_li]
    · obtain ⟨o', h', e⟩ := best_go (full := full) (fd := fd) r b (some (.d (N p))) hb (fun q hq => hp q (by simp [hq])) rfl
      refine ⟨o', h', ?_⟩
      have h1 : ¬ ((wt ts b : Nat) : Int) < (wt ts p : Nat) := by omega
      simp only [N] at e
      simp [kSetS_nd, ho, ip, ib, h, h1, e, bst, -opIx_li]
theorem removeI_n (b : Nat) : ∀ l : List Nat, b ∈ l → removeI (b : Int) (l.map fun (k : Nat) => (k : Int)) = some ((l.erase b).map fun (k : Nat) => (k : Int))
  | [], h => by simp at h
  | x :: r, h => by
    show (if (x : Int) = (b : Int) then some (r.map fun (k : Nat) => (k : Int)) else (removeI (b : Int) (r.map fun (k : Nat) => (k : Int))).bind fun s => some ((x : Int) :: s)) = _
    by_cases c : x = b
    · subst c
      rw [if_pos rfl, List.erase_cons_head]
    · rw [if_neg (by omega), removeI_n b r (by
        rcases List.mem_cons.mp h with e | h
        · exact absurd e.symm c
        · exact h), List.erase_cons_tail (by simpa using c)]
      rfl
theorem sel_while {ts : List Nat} (hl : ts.length ≤ 1000) : ∀ (n : Nat) (l found : List Nat) (o3 o4 : Option SV), l.length ≤ n → l.Pairwise (· < ·) → (∀ p ∈ l, p < ts.length) → found.length + l.length ≤ 1000 → nd o3 = true → nd o4 = true →
    ∃ k o3' o4', whileN (dTest (dOp2 opNe (dVar 1) (dList (dNil)))) (dSeq (dSet 3 (dOp2 opIx (dVar 1) (dC (.int 0)))) (dSeq (dForB 1 (DL.gName 4) (dIfS (dTest (dOp2 opGt (dOp2 opIx (dVar 0) (dVar 4)) (dOp2 opIx (dVar 0) (dVar 3)))) (dSet 3 (dVar 4)) (dNext))) (dSeq (dAppend 2 (dVar 3)) (dRemove 1 (dVar 3))))) k
      [some (.d (tab ts)), some (.own (Ns l)), some (.own (Ns found)), o3, o4] = some (.nx, [some (.d (tab ts)), some (.own []), some (.own (Ns (found ++ sel ts n l))), o3', o4'])
  | n, [], found, o3, o4, _, _, _, _, _, _ => by
    have e0 : sel ts n [] = [] := by cases n <;> rfl
    have ne : opNe (.list []) (.list []) = some (.d (.bool false)) := rfl
    refine ⟨1, o3, o4, ?_⟩
    rw [e0, List.append_nil]
    show whileN _ _ 1 [some (.d (tab ts)), some (.own []), some (.own (Ns found)), o3, o4] = _
    rw [whileN_end (by simp [ne, DL.sizeLine_eq])]
  | 0, x :: r, found, o3, o4, hn, _, _, _, _, _ => by simp at hn
  | n + 1, x :: r, found, o3, o4, hn, hp, hlt, hf, h3, h4 => by
    have hp' := hp
    rw [List.pairwise_cons] at hp
    simp only [List.length_cons] at hn hf
    obtain ⟨h1, _, _⟩ := bst_ok ts (x :: r) x (fun q hq => by
      rcases List.mem_cons.mp hq with rfl | hq
      · exact Nat.le_refl _
      · exact Nat.le_of_lt (hp.1 q hq)) hp'
    have hm : bst ts x (x :: r) ∈ x :: r := by
      rcases h1 with h1 | h1
      · rw [h1]; simp
      · exact h1
    have pm := (List.perm_cons_erase hm).length_eq
    simp only [List.length_cons] at pm
    obtain ⟨o', ho', eb⟩ := best_go (ts := ts) (full := x :: r) (fd := some (.own (Ns found))) (x :: r) x o4 (hlt x (by simp)) hlt h4
    obtain ⟨k, o3', o4', e⟩ := sel_while hl n ((x :: r).erase (bst ts x (x :: r))) (found ++ [bst ts x (x :: r)]) (some (.d (N (bst ts x (x :: r))))) o' (by omega) (asc_erase hp' _) (fun p hpp => hlt p (List.mem_of_mem_erase hpp)) (by simp; omega) rfl ho'
    have ne := ne_cons x r
    have rm := removeI_n (bst ts x (x :: r)) (x :: r) hm
    rw [List.map_cons] at rm
    have ii := ints_Ns (x :: r)
    rw [List.map_cons] at ii
    have ef : Ns (found ++ [bst ts x (x :: r)]) = Ns found ++ [N (bst ts x (x :: r))] := by simp [Ns]
    have em : ((((x :: r).erase (bst ts x (x :: r))).map fun (k : Nat) => (k : Int)).map PyData.int) = Ns ((x :: r).erase (bst ts x (x :: r))) := by
      unfold Ns
      rw [List.map_map]
      rfl
    have i0 : opIx (.list (Ns (x :: r))) (.int 0) = some (.d (N x)) := by
      have := ix_ok (x :: r) (p := 0) (by simp)
      simpa using this
    have lf := len_Ns found
    rw [ef] at e
    refine ⟨k + 1, o3', o4', ?_⟩
    rw [show found ++ sel ts (n + 1) (x :: r) = found ++ [bst ts x (x :: r)] ++ sel ts n ((x :: r).erase (bst ts x (x :: r))) by simp [sel]]
    refine whileN_more (by simp [ne, DL.sizeLine_eq]) ?_ e
    simp only [N] at i0 eb ⊢
    simp [kSetS_nd, h3, h4, i0, eb, ii, rm, em, lf, show found.length < 16777216 by omega, DL.sizeLine_eq, -opIx_li, -List.map_map]
theorem law_by_weight_ok (ts : List Nat) (hl : ts.length ≤ 1000) : m__law_by_weight [.d (tab ts)] = some (.own (Ns (ws ts)), []) := by
  obtain ⟨k, o3, o4, e⟩ := sel_while hl ts.length (List.range ts.length) [] none none (by rw [List.length_range]; exact Nat.le_refl _) List.pairwise_lt_range (fun p hp => List.mem_range.mp hp) (by simp; omega) rfl rfl
  rw [sel_ws, List.nil_append] at e
  have w := dWhile_of e
  have ll := len_Ns ts
  have er : ((List.range ts.length).map fun i => PyData.int (i : Nat)) = Ns (List.range ts.length) := rfl
  rw [show Ns [] = [] from rfl] at w
  have c1 : (ts.length : Int) ≤ 16777216 := by omega
  have c2 : ts.length ≤ 16777216 := by omega
  have c3 : (-4611686018427387904 : Int) ≤ (ts.length : Int) := by omega
  simp [m__law_by_weight, g__law_by_weight, run_ap, startD, ll, c1, c2, c3, er, w, DL.sizeLine_eq]
theorem map_sum_le {f g : Nat → Nat} (h : ∀ p, f p ≤ g p) : ∀ l : List Nat, (l.map f).sum ≤ (l.map g).sum
  | [] => by simp
  | x :: r => by
    have := map_sum_le h r
    have := h x
    simp
    omega
theorem sum_le_wt {a b : List Nat} (hl : a.length = b.length) (h : ∀ p, wt a p ≤ wt b p) : a.sum ≤ b.sum := by
  rw [← sw_range a, ← sw_range b, hl]
  exact map_sum_le h _
theorem wt_kp (ts ks : List Nat) (p : Nat) : wt (kp ts ks) p = if p ∈ ks then wt ts p else 0 := by
  by_cases h : p < ts.length
  · rw [wt_at (by rw [kp_len]; exact h)]
    unfold kp
    rw [List.getElem_map, List.getElem_range]
  · rw [wt_out (by rw [kp_len]; exact h), wt_out h]
    split <;> rfl
theorem kp_sum (ts ks : List Nat) : (kp ts ks).sum ≤ ts.sum := sum_le_wt (kp_len ts ks) fun p => by
  rw [wt_kp]
  split <;> omega
def fl (ts : List Nat) (a b : Nat) : List Nat := ts.map fun c => if a * mx ts ≤ c * b then c else 0
theorem fl_len (ts a b) : (fl ts a b).length = ts.length := by simp [fl]
theorem wt_fl (ts : List Nat) (a b : Nat) (p : Nat) : wt (fl ts a b) p = if a * mx ts ≤ wt ts p * b then wt ts p else 0 := by
  unfold fl
  rw [wt_map (f := fun c => if a * mx ts ≤ c * b then c else 0) (by simp)]
theorem fl_sum (ts : List Nat) (a b : Nat) : (fl ts a b).sum ≤ ts.sum := sum_le_wt (fl_len ts a b) fun p => by
  rw [wt_fl]
  split <;> omega
theorem pos_sum {ts : List Nat} {p : Nat} (h : 0 < wt ts p) : 0 < ts.sum := by
  have hp : p < ts.length := by
    apply Classical.byContradiction
    intro z
    rw [wt_out z] at h
    omega
  rw [wt_at hp] at h
  exact Nat.lt_of_lt_of_le h (mem_le_sum (List.getElem_mem hp))
theorem mx_pos {ts : List Nat} (h : 0 < ts.sum) : 0 < mx ts := by
  apply Classical.byContradiction
  intro z
  have := (mx_zero ts).mp (by omega)
  omega
theorem mx_mem : ∀ {ts : List Nat}, 0 < ts.length → mx ts ∈ ts
  | [], h => by simp at h
  | [x], _ => by simp [mx]
  | x :: y :: r, _ => by
    have ih := mx_mem (ts := y :: r) (by simp)
    simp only [mx]
    split
    · simp
    · exact List.mem_cons_of_mem _ ih
noncomputable def midB : DS := (dIfS (dTest (dOp2 opEq (dVar 2) (dC (.str (Str.ofString "power"))))) (dSet 4 (dLc (dIter DL.iSeq (dVar 1)) (DL.gName 5) (dTests) (dCall m__law_raised [false, false] [] (dCons (dVar 5) (dCons (dVar 3) (dNil)))) [5])) (dIfS (dTest (dOp2 opEq (dVar 2) (dC (.str (Str.ofString "first"))))) (dSet 4 (dCall m__law_kept [false, false] [] (dCons (dVar 1) (dCons (dSlice opSlice (dCall m__law_by_weight [false] [] (dCons (dVar 1) (dNil))) (dNoPart) (dPart (dVar 3))) (dNil))))) (dIfS (dTest (dOp2 opEq (dVar 2) (dC (.str (Str.ofString "share"))))) (dSet 4 (dCall m__law_shared [false, false] [] (dCons (dVar 1) (dCons (dVar 3) (dNil))))) (dIfS (dTest (dOp2 opEq (dVar 2) (dC (.str (Str.ofString "floor"))))) (dSet 4 (dLc (dIter DL.iSeq (dVar 1)) (DL.gName 5) (dTests) (dOp2 opMul (dVar 5) (dCallB bInt (dCons (dOp2 opGe (dOp2 opMul (dVar 5) (dOp2 opIx (dVar 3) (dC (.int 1)))) (dOp2 opMul (dCallB bMaxL (dCons (dVar 1) (dNil))) (dOp2 opIx (dVar 3) (dC (.int 0))))) (dNil)))) [5])) (dIfS (dTest (dOp2 opEq (dVar 2) (dC (.str (Str.ofString "ban"))))) (dSet 4 (dLc (dIterA DL.iEnum (dCons (dVar 1) (dNil))) (DL.gTup 2 (DL.gCons (DL.gName 6) (DL.gCons (DL.gName 5) (DL.gNil)))) (dTests) (dOp2 opMul (dVar 5) (dCallB bInt (dCons (dOp2 opNotIn (dVar 6) (dVar 3)) (dNil)))) [6, 5])) (dSet 4 (dLc (dIterA DL.iEnum (dCons (dVar 1) (dNil))) (DL.gTup 2 (DL.gCons (DL.gName 6) (DL.gCons (DL.gName 5) (DL.gNil)))) (dTests) (dOp2 opMul (dVar 5) (dIf (dTest (dOp2 opEq (dVar 6) (dVar 3))) (dOp2 opIx (dVar 0) (dC (.int 2))) (dC (.int 1)))) [6, 5])))))))
/-- what is told of a made table -/
def resR (M : List Nat) : Rt := if 0 < M.sum then .own (Ns (lw M)) else .d .none
theorem done_by_ok {M : List Nat} {step tb : D} (m0 : 0 < M.length) (m9 : M.length ≤ 1000) (hT : Sm 8000 M.sum) (mb : m_made_by [.d step, .d tb] = some (.own (Ns M), [])) :
    m_done_by [.d step, .d tb] = some (resR M, []) := by
  have m1 := max_ok m0
  simp only [N] at m1
  by_cases h : 0 < M.sum
  · have m2 := mx_pos h
    have m2' : (0 : Int) < (mx M : Nat) := by omega
    have lo := lowest_ok (ts := M) (by omega) h hT
    rw [resR, if_pos h]
    simp [m_done_by, g_done_by, run_ap, startD, mb, m1, m2, m2', lo, -bMaxL_ap]
  · have m2 : mx M = 0 := (mx_zero M).mpr (by omega)
    rw [resR, if_neg h]
    rw [m2] at m1
    simp [m_done_by, g_done_by, run_ap, startD, mb, m1, -bMaxL_ap]
theorem done_ok {ts M : List Nat} {step : D} (hl : ts.length ≤ 1000) (h0 : 0 < ts.sum) (hm : M.length = ts.length) (hT : Sm 8000 M.sum) (fs : m_is_filter [.d step] = some (.d (.bool true), [])) (mb : m_made_by [.d step, .d (tab ts)] = some (.own (Ns M), [])) :
    m_filter_done [.d step, .d (tab ts)] = some (resR M, []) := by
  have c1 := (table_ok ts hl h0).1
  have m0 : 0 < M.length := by
    rw [hm]
    cases ts with
    | nil => simp at h0
    | cons x r => simp
  have db := done_by_ok m0 (by omega) hT mb
  by_cases h : 0 < M.sum
  · rw [resR, if_pos h] at db ⊢
    simp [m_filter_done, g_filter_done, run_ap, startD, fs, c1, db]
  · rw [resR, if_neg h] at db ⊢
    simp [m_filter_done, g_filter_done, run_ap, startD, fs, c1, db]
theorem law_made_core {ts M : List Nat} {word told : D} {rest : List D} (hl : ts.length ≤ 1000) (h0 : 0 < ts.sum) (hm : M.length = ts.length) (hT : Sm 8000 M.sum) (hr : rest.length ≤ 10)
    (hB : midB [some (.d (.tuple (word :: told :: rest))), some (.d (tab ts)), some (.d word), some (.d told), none, none, none] = some (.nx, [some (.d (.tuple (word :: told :: rest))), some (.d (tab ts)), some (.d word), some (.d told), some (.own (Ns M)), none, none])) :
    m__law_made [.d (.tuple (word :: told :: rest)), .d (tab ts)] = some (resR M, []) := by
  have m0 : 0 < M.length := by
    rw [hm]
    cases ts with
    | nil => simp at h0
    | cons x r => simp
  have m1 := max_ok m0
  simp only [N] at m1
  have i0 : opIx (.tuple (word :: told :: rest)) (.int 0) = some (.d word) := by
    have h : (0 : Int) < ((word :: told :: rest).length : Nat) := by simp only [List.length_cons]; omega
    show (ixAt (word :: told :: rest) (0 : Int)).bind _ = _
    unfold ixAt
    rw [if_pos (by decide), if_pos h]
    rfl
  have i1 : opIx (.tuple (word :: told :: rest)) (.int 1) = some (.d told) := by
    have h : (1 : Int) < ((word :: told :: rest).length : Nat) := by simp only [List.length_cons]; omega
    show (ixAt (word :: told :: rest) (1 : Int)).bind _ = _
    unfold ixAt
    rw [if_pos (by decide), if_pos h]
    rfl
  refine okP.eq ?_
  rw [m__law_made, run_ap, okP_obind, g__law_made]
  simp only [dSeq_ap, okP_obind]
  refine okP_of (a := (.nx, [some (.d (.tuple (word :: told :: rest))), some (.d (tab ts)), some (.d word), some (.d told), none, none, none])) (by simp [startD, i0, i1, DL.sizeLine_eq, -opIx_ti]) ?_
  simp only [kSeq_nx, dSeq_ap, okP_obind]
  refine okP_of hB ?_
  by_cases h : 0 < M.sum
  · have m2 := mx_pos h
    have m2' : (0 : Int) < (mx M : Nat) := by omega
    have lo := (lowered_ok (ts := M) (by omega) h hT).2
    rw [resR, if_pos h]
    simp [okP_some, m1, m2, m2', lo, -bMaxL_ap]
  · have m2 : mx M = 0 := (mx_zero M).mpr (by omega)
    rw [resR, if_neg h]
    rw [m2] at m1
    simp [okP_some, m1, -bMaxL_ap]
/-- a step, and what it makes -/
structure StepF (ts : List Nat) (step : D) (M : List Nat) : Prop where
  mb : m_made_by [.d step, .d (tab ts)] = some (.own (Ns M), [])
  lm : m__law_made [.d step, .d (tab ts)] = some (resR M, [])
  len : M.length = ts.length
  sm : Sm 8000 M.sum
/-- a step alone -/
structure StepI (step : D) : Prop where
  isf : m_is_filter [.d step] = some (.d (.bool true), [])
  vv : Vv 2 60 step
set_option Elab.async false
theorem w_pp : (Str.ofString "power" == Str.ofString "power") = true := by decide +kernel
theorem w_pf : (Str.ofString "power" == Str.ofString "first") = false := by decide +kernel
theorem w_pw : (Str.ofString "power" == Str.ofString "weigh") = false := by decide +kernel
theorem w_fp : (Str.ofString "first" == Str.ofString "power") = false := by decide +kernel
theorem w_ff : (Str.ofString "first" == Str.ofString "first") = true := by decide +kernel
theorem w_sp : (Str.ofString "share" == Str.ofString "power") = false := by decide +kernel
theorem w_sf : (Str.ofString "share" == Str.ofString "first") = false := by decide +kernel
theorem w_ss : (Str.ofString "share" == Str.ofString "share") = true := by decide +kernel
theorem w_lp : (Str.ofString "floor" == Str.ofString "power") = false := by decide +kernel
theorem w_lf : (Str.ofString "floor" == Str.ofString "first") = false := by decide +kernel
theorem w_ls : (Str.ofString "floor" == Str.ofString "share") = false := by decide +kernel
theorem w_ll : (Str.ofString "floor" == Str.ofString "floor") = true := by decide +kernel
theorem w_bp : (Str.ofString "ban" == Str.ofString "power") = false := by decide +kernel
theorem w_bf : (Str.ofString "ban" == Str.ofString "first") = false := by decide +kernel
theorem w_bs : (Str.ofString "ban" == Str.ofString "share") = false := by decide +kernel
theorem w_bl : (Str.ofString "ban" == Str.ofString "floor") = false := by decide +kernel
theorem w_bb : (Str.ofString "ban" == Str.ofString "ban") = true := by decide +kernel
theorem w_wp : (Str.ofString "weigh" == Str.ofString "power") = false := by decide +kernel
theorem w_wf : (Str.ofString "weigh" == Str.ofString "first") = false := by decide +kernel
theorem w_ws : (Str.ofString "weigh" == Str.ofString "share") = false := by decide +kernel
theorem w_wl : (Str.ofString "weigh" == Str.ofString "floor") = false := by decide +kernel
theorem w_wb : (Str.ofString "weigh" == Str.ofString "ban") = false := by decide +kernel
/-! ## power -/
theorem same_raised : m__law_raised = m_raised := rfl
def pwr (c : Nat) : Nat → Nat
  | 0 => 1
  | i + 1 => pwr c i * c
theorem pow_sm {c k : Nat} (hc : Sm k c) : ∀ i, Sm (k * i + 1) (pwr c i)
  | 0 => sm_of 1 (show 1 < 2 ^ 1 by decide)
  | i + 1 => ((pow_sm hc i).mul hc).mono (by rw [Nat.mul_succ]; omega)
theorem raised_ok {c n k : Nat} (hc : Sm k c) (h1 : 1 ≤ n) (hn : n ≤ 6) (hk : k * n ≤ 7900) : m_raised [.d (N c), .d (N n)] = some (.d (N (pwr c n)), []) := by
  have r1 := range_ok (t := n) (by omega)
  refine okP.eq ?_
  simp [m_raised, g_raised, run_ap, startD, r1, -iRange1_i]
  simp only [okP_obind]
  refine for_wp (fun i s => ∃ o3, s = [some (.d (N c)), some (.d (N n)), some (.d (N (pwr c i))), o3] ∧ nd o3 = true) ⟨none, rfl, rfl⟩ ?_ ?_
  · rintro i x s hx ⟨o3, rfl, h3⟩
    have hi : i < n := by
      have := (List.getElem?_eq_some_iff.mp hx).1
      simpa using this
    have q1 : k * i ≤ k * n := Nat.mul_le_mul_left _ (by omega)
    have q2 : k * 1 ≤ k * n := Nat.mul_le_mul_left _ h1
    have m := mul_n ((pow_sm hc i).mono (show k * i + 1 ≤ 100000 by omega)) (hc.mono (show k ≤ 100000 by omega))
    rw [show pwr c (i + 1) = pwr c i * c from rfl]
    simp [okP_some, kSetS_nd, h3, m, -opMul_ii, -Int.natCast_mul]
  · rintro s ⟨o3, rfl, _⟩
    rw [List.length_map, List.length_range]
    simp [okP_some]
def pw (ts : List Nat) (n : Nat) : List Nat := ts.map fun c => pwr c n
def pwF (n : Nat) (x : D) : Option D := match x with
  | .int i => some (N (pwr i.toNat n))
  | _ => none
theorem pw_map (ts : List Nat) (n : Nat) : (Ns ts).filterMap (pwF n) = Ns (pw ts n) := by
  unfold pw Ns
  rw [List.map_map]
  exact fm_map (g := fun k : Nat => N k) (f := pwF n) (h := (fun k => N k) ∘ fun c => pwr c n) (fun i => rfl) ts
theorem sum_bound (k : Nat) : ∀ ts : List Nat, (∀ t ∈ ts, t ≤ k) → ts.sum ≤ ts.length * k
  | [], _ => by simp
  | t :: r, h => by
    have := sum_bound k r fun x hx => h x (by simp [hx])
    have := h t (by simp)
    simp only [List.sum_cons, List.length_cons, Nat.add_mul, Nat.one_mul]
    omega
theorem sum_sm {k : Nat} {l : List Nat} (h : ∀ t ∈ l, Sm k t) (hl : l.length ≤ 15) : Sm (k + 4) l.sum := by
  have h1 := sum_bound (2 ^ k) l fun t ht => Nat.le_of_lt (h t ht)
  have h2 : l.length * 2 ^ k ≤ 15 * 2 ^ k := Nat.mul_le_mul_right _ hl
  have h3 : 0 < 2 ^ k := Nat.pow_pos (by decide)
  unfold Sm
  rw [Nat.pow_add, show 2 ^ 4 = 16 by decide]
  omega
/-- a right table, its counts below 2 ** k -/
structure TabF (k : Nat) (ts : List Nat) : Prop where
  l9 : ts.length ≤ 9
  pos : 0 < ts.sum
  el : ∀ t ∈ ts, Sm k t
theorem TabF.sm {k : Nat} {ts : List Nat} (h : TabF k ts) : Sm (k + 4) ts.sum := sum_sm h.el (by have := h.l9; omega)
theorem vv_tup {w : Str} {n : Nat} (hw : tame (.str w) = true) (hb : w.cps.size ≤ 10) (hn : n ≤ 10000000000000000000000000000000000000000) : Vv 2 60 (.tuple [.str w, N n]) := by
  have hN : tame (N n) = true := by
    simp [tame]
    omega
  refine ⟨?_, ?_, ?_⟩
  · rw [tame_tup, tame_cons, tame_cons, tame_nil, hw, hN]; rfl
  · simp [PyData.depth, PyData.depthAll]
  · simp [PyData.bulk, PyData.bulkAll]; omega
theorem power_isf {n : Nat} (h1 : 1 ≤ n) (hn : n ≤ 6) : StepI (.tuple [.str (Str.ofString "power"), N n]) := by
  refine ⟨?_, vv_tup (by decide +kernel) (by decide +kernel) (by omega)⟩
  have w := whole_ok (N n) 1
  have c1 : (1 : Int) ≤ (n : Int) := by omega
  have c2 : (n : Int) ≤ 6 := by omega
  simp [cnt, c1, h1] at w
  simp [m_is_filter, g_is_filter, run_ap, startD, isTy, tyName, str_eq, in_two, w_pp, w_pf, w_pw, w_fp, w, c2, hn, DL.sizeLine_eq]
theorem power_step {ts : List Nat} {k : Nat} (T : TabF k ts) {n : Nat} (h1 : 1 ≤ n) (hn : n ≤ 6) (hk : k * n ≤ 7900) : StepF ts (.tuple [.str (Str.ofString "power"), N n]) (pw ts n) := by
  have hl : ts.length ≤ 1000 := by have := T.l9; omega
  have l1 := len_Ns ts
  have l2 : ts.length ≤ 16777216 := by omega
  have sm : Sm 8000 (pw ts n).sum := by
    refine (sum_sm (k := k * n + 1) (fun t ht => ?_) (by simp [pw]; have := T.l9; omega)).mono (by omega)
    obtain ⟨c, hc, rfl⟩ := List.mem_map.mp ht
    exact pow_sm (T.el c hc) n
  have go : ∀ x ∈ Ns ts, ∃ c, x = N c ∧ c ∈ ts := fun x hx => by
    obtain ⟨c, hc, rfl⟩ := List.mem_map.mp hx
    exact ⟨c, rfl, hc⟩
  refine ⟨?_, ?_, by simp [pw], sm⟩
  · refine okP.eq ?_
    simp [m_made_by, g_made_by, run_ap, startD, str_eq, w_pp, l1, l2, DL.sizeLine_eq]
    simp only [okP_obind]
    refine okP_of (lc_map (pwF n) fun x hx => ?_) ?_
    · obtain ⟨c, rfl, hc⟩ := go x hx
      have r := raised_ok (T.el c hc) h1 hn hk
      simp only [N] at r
      simp [okP_some, pwF, r]
    · rw [pw_map]
      simp [okP_some]
  · refine law_made_core hl T.pos (by simp [pw]) sm (by simp) ?_
    refine okP.eq ?_
    simp [midB, str_eq, w_pp, l1, l2, DL.sizeLine_eq]
    simp only [okP_obind]
    refine okP_of (lc_map (pwF n) fun x hx => ?_) ?_
    · obtain ⟨c, rfl, hc⟩ := go x hx
      have r := raised_ok (T.el c hc) h1 hn hk
      simp only [N] at r
      simp [okP_some, same_raised, pwF, r]
    · rw [pw_map]
      simp [okP_some]
set_option Elab.async false
theorem cut_ws (ts : List Nat) (m : Nat) : cutD (Ns (ws ts)) none (some (m : Int)) = Ns ((ws ts).take m) := by
    by_cases h : m ≤ (Ns (ws ts)).length
    · rw [cut_to _ h]
      unfold Ns
      rw [List.map_take]
    · have e : cutAt (Ns (ws ts)).length (Ns (ws ts)).length (some (m : Int)) = (Ns (ws ts)).length := by
        show (if (m : Int) < 0 then ((m : Int) + ((Ns (ws ts)).length : Int)).toNat else min (m : Int).toNat (Ns (ws ts)).length) = _
        rw [if_neg (by omega)]
        simp
        omega
      show ((Ns (ws ts)).drop 0).take (cutAt (Ns (ws ts)).length (Ns (ws ts)).length (some (m : Int)) - 0) = _
      rw [e, List.drop_zero, Nat.sub_zero, List.take_length, List.take_of_length_le (by rw [len_Ns] at h; omega)]
theorem mul_1 {i : Nat} (h : Sm 100000 i) : opMul (.int (i : Nat)) (.int 1) = some (.d (.int (i : Nat))) := by
  have n1 : opMul (.int (i : Nat)) (.int 1) = some (.d (.int ((i * 1 : Nat) : Int))) := mul_n h (sm_of (a := 1) 10 (by decide) |>.mono (show 10 ≤ 100000 by decide))
  rw [Nat.mul_one] at n1
  exact n1
theorem mul_0 {i : Nat} (h : Sm 100000 i) : opMul (.int (i : Nat)) (.int 0) = some (.d (.int 0)) := by
  have n1 : opMul (.int (i : Nat)) (.int 0) = some (.d (.int ((i * 0 : Nat) : Int))) := mul_n h (sm_of (a := 0) 10 (by decide) |>.mono (show 10 ≤ 100000 by decide))
  rw [Nat.mul_zero] at n1
  exact n1
theorem kp_sm {ts : List Nat} {k : Nat} (T : TabF k ts) (hk : k ≤ 7900) (ks : List Nat) : Sm 8000 (kp ts ks).sum := (T.sm.le (kp_sum ts ks)).mono (by omega)
theorem first_step {ts : List Nat} {k : Nat} (T : TabF k ts) (hk : k ≤ 7900) {m : Nat} : StepF ts (.tuple [.str (Str.ofString "first"), N m]) (kp ts ((ws ts).take m)) := by
  have hl : ts.length ≤ 1000 := by have := T.l9; omega
  have bw := by_weight_ok ts hl
  have lbw := law_by_weight_ok ts hl
  have kk := kept_places_ok ts ((ws ts).take m) hl
  have lk := law_kept_ok ts ((ws ts).take m) hl (fun t ht => (T.el t ht).mono (by omega))
  have cu := cut_ws ts m
  refine ⟨?_, ?_, kp_len _ _, kp_sm T hk _⟩
  · simp [m_made_by, g_made_by, run_ap, startD, str_eq, w_fp, w_ff, bw, cu, kk, DL.sizeLine_eq]
  · refine law_made_core hl T.pos (kp_len _ _) (kp_sm T hk _) (by simp) ?_
    simp [midB, str_eq, w_fp, w_ff, lbw, cu, lk, DL.sizeLine_eq]
/-! ## share -/
theorem kp_all (ts : List Nat) : kp ts (ws ts) = ts := by
  unfold kp
  refine List.ext_getElem? fun i => ?_
  by_cases hi : i < ts.length
  · rw [List.getElem?_map, List.getElem?_range hi, List.getElem?_eq_getElem hi]
    show some (if i ∈ ws ts then wt ts i else 0) = _
    rw [if_pos (ws_mem.mpr hi), wt_at hi]
  · rw [List.getElem?_eq_none (by simp; omega), List.getElem?_eq_none (by omega)]
theorem grab_done (ts : List Nat) (b aT : Nat) : ∀ (w : List Nat) (s : Nat), ¬ s * b < aT → grab ts b aT w s = []
  | [], s, _ => rfl
  | p :: r, s, h => by rw [grab, if_neg h, grab_done ts b aT r s h]
theorem law_grab {ts : List Nat} {a b : Nat} (hl : ts.length ≤ 1000) (hle : ∀ t ∈ ts, Sm 8000 t) (ha : Sm 8000 a) (hb : Sm 8000 b) (hT : Sm 8000 ts.sum) : ∀ (w ks : List Nat) (s : Nat) (o : Option SV), (∀ p ∈ w, p < ts.length) → Sm 8000 (s + sw ts w) → ks.length + w.length ≤ 1000 → nd o = true →
    ∃ st', (forGo (DL.gName 4) (dSeq (dIfS (dTest (dOp2 opGe (dOp2 opMul (dVar 2) (dOp2 opIx (dVar 1) (dC (.int 1)))) (dOp2 opMul (dOp2 opIx (dVar 1) (dC (.int 0))) (dCallB bSum (dCons (dVar 0) (dNil)))))) (dRet (dCall m__law_kept [false, false] [] (dCons (dVar 0) (dCons (dVar 3) (dNil))))) (dNext)) (dPar [3, 2] (dCons (dOp2 opAdd (dVar 3) (dList (dCons (dVar 4) (dNil)))) (dCons (dOp2 opAdd (dVar 2) (dOp2 opIx (dVar 0) (dVar 4))) (dNil))))) (Ns w)
      [some (.d (tab ts)), some (.d (fr a b)), some (.d (N s)), some (.d (.list (Ns ks))), o] = some (.rt (.own (Ns (kp ts (ks ++ grab ts b (a * ts.sum) w s)))), st')) ∨
    (∃ s2 ks2 o2, st' = [some (.d (tab ts)), some (.d (fr a b)), s2, ks2, o2] ∧ grab ts b (a * ts.sum) w s = w ∧ forGo (DL.gName 4) (dSeq (dIfS (dTest (dOp2 opGe (dOp2 opMul (dVar 2) (dOp2 opIx (dVar 1) (dC (.int 1)))) (dOp2 opMul (dOp2 opIx (dVar 1) (dC (.int 0))) (dCallB bSum (dCons (dVar 0) (dNil)))))) (dRet (dCall m__law_kept [false, false] [] (dCons (dVar 0) (dCons (dVar 3) (dNil))))) (dNext)) (dPar [3, 2] (dCons (dOp2 opAdd (dVar 3) (dList (dCons (dVar 4) (dNil)))) (dCons (dOp2 opAdd (dVar 2) (dOp2 opIx (dVar 0) (dVar 4))) (dNil))))) (Ns w)
      [some (.d (tab ts)), some (.d (fr a b)), some (.d (N s)), some (.d (.list (Ns ks))), o] = some (.nx, st'))
  | [], ks, s, o, _, _, _, _ => ⟨_, .inr ⟨_, _, _, rfl, rfl, by
    show forGo _ _ [] _ = _
    rw [forGo_nil]⟩⟩
  | p :: r, ks, s, o, hp, hs, hk, ho => by
    have hp0 := hp p (by simp)
    rw [sw_cons, ← Nat.add_assoc] at hs
    have hs1 : Sm 100000 s := (hs.le (by omega)).mono (by decide)
    have m1 := mul_n hs1 (hb.mono (show 8000 ≤ 100000 by decide))
    have m2 := mul_n (ha.mono (show 8000 ≤ 100000 by decide)) (hT.mono (show 8000 ≤ 100000 by decide))
    have sT := sum_ok ts
    have i1 := ix_ok ts hp0
    rw [← wt_at hp0] at i1
    simp only [N] at sT i1
    simp only [List.length_cons] at hk
    have lk := len_Ns ks
    have lkp := law_kept_ok ts ks hl hle
    by_cases h : s * b < a * ts.sum
    · have h' : ¬ (((a * ts.sum : Nat) : Int) ≤ ((s * b : Nat) : Int)) := by omega
      have h'' : ¬ (a * ts.sum ≤ s * b) := by omega
      have ea : Ns (ks ++ [p]) = Ns ks ++ [N p] := by simp [Ns]
      obtain ⟨st', e⟩ := law_grab hl hle ha hb hT r (ks ++ [p]) (s + wt ts p) (some (.d (N p))) (fun x hx => hp x (by simp [hx])) hs (by simp; omega) rfl
      refine ⟨st', ?_⟩
      rw [show grab ts b (a * ts.sum) (p :: r) s = p :: grab ts b (a * ts.sum) r (s + wt ts p) by simp [grab, h], show Ns (p :: r) = N p :: Ns r from rfl, forGo_cons]
      rw [ea, show ks ++ [p] ++ grab ts b (a * ts.sum) r (s + wt ts p) = ks ++ p :: grab ts b (a * ts.sum) r (s + wt ts p) by simp] at e
      simp only [N, Int.natCast_add] at e
      rcases e with e | ⟨s2, ks2, o2, e1, e2, e⟩
      · left
        simp [kSetS_nd, ho, m1, m2, sT, i1, h', h'', lk, e, show ks.length ≤ 16777215 by omega, DL.sizeLine_eq, -opMul_ii, -bSum_l, -opIx_li, -Int.natCast_mul]
      · right
        refine ⟨s2, ks2, o2, e1, by rw [e2], ?_⟩
        simp [kSetS_nd, ho, m1, m2, sT, i1, h', h'', lk, e, show ks.length ≤ 16777215 by omega, DL.sizeLine_eq, -opMul_ii, -bSum_l, -opIx_li, -Int.natCast_mul]
    · have h' : (((a * ts.sum : Nat) : Int) ≤ ((s * b : Nat) : Int)) := by omega
      have h'' : a * ts.sum ≤ s * b := by omega
      refine ⟨[some (.d (tab ts)), some (.d (fr a b)), some (.d (N s)), some (.d (.list (Ns ks))), some (.d (N p))], .inl ?_⟩
      rw [grab_done ts b (a * ts.sum) (p :: r) s h, List.append_nil, show Ns (p :: r) = N p :: Ns r from rfl, forGo_cons]
      simp [kSetS_nd, ho, m1, m2, sT, h', h'', lkp, -opMul_ii, -bSum_l, -opIx_li, -Int.natCast_mul]
theorem share_step {ts : List Nat} {k : Nat} (T : TabF k ts) (hk : k ≤ 7900) {a b : Nat} (d : OddsF a b) : StepF ts (.tuple [.str (Str.ofString "share"), fr a b]) (kp ts (grab ts b (a * ts.sum) (ws ts) 0)) := by
  have hl : ts.length ≤ 1000 := by have := T.l9; omega
  have hT : Sm 8000 ts.sum := T.sm.mono (by omega)
  have ha5 : Sm 8000 a := d.sm.le d.le
  obtain ⟨s', o', e⟩ := grab_go (ts := ts) (a := a) (aT := a * ts.sum) d.sm (ws ts) [] 0 none (fun p hp => ws_mem.mp hp) (by rw [Nat.zero_add, sw_ws]; exact hT) (by rw [ws_len]; simp; omega) rfl
  rw [List.nil_append] at e
  have sm := sum_ok ts
  have m := mul_n (ha5.mono (show 8000 ≤ 100000 by decide)) (hT.mono (show 8000 ≤ 100000 by decide))
  have bw := by_weight_ok ts hl
  have lbw := law_by_weight_ok ts hl
  have kk := kept_places_ok ts (grab ts b (a * ts.sum) (ws ts) 0) hl
  simp only [N] at e sm
  rw [show Ns [] = [] from rfl, show ((0 : Nat) : Int) = 0 from rfl] at e
  have so : m_shared_out [.d (tab ts), .d (fr a b)] = some (.own (Ns (kp ts (grab ts b (a * ts.sum) (ws ts) 0))), []) := by
    simp [m_shared_out, g_shared_out, run_ap, startD, sm, m, bw, e, kk, DL.sizeLine_eq, -opMul_ii, -bSum_l, -Int.natCast_mul]
  have ls : m__law_shared [.d (tab ts), .d (fr a b)] = some (.own (Ns (kp ts (grab ts b (a * ts.sum) (ws ts) 0))), []) := by
    obtain ⟨st', g⟩ := law_grab hl (fun t ht => (T.el t ht).mono (by omega)) ha5 d.sm hT (ws ts) [] 0 none (fun p hp => ws_mem.mp hp) (by rw [Nat.zero_add, sw_ws]; exact hT) (by rw [ws_len]; simp; omega) rfl
    rw [List.nil_append] at g
    simp only [N] at g
    rw [show Ns [] = [] from rfl, show ((0 : Nat) : Int) = 0 from rfl] at g
    rcases g with g | ⟨s2, ks2, o2, rfl, e2, g⟩
    · simp [m__law_shared, g__law_shared, run_ap, startD, lbw, g, DL.sizeLine_eq]
    · rw [e2, kp_all]
      simp [m__law_shared, g__law_shared, run_ap, startD, lbw, g, DL.sizeLine_eq]
  refine ⟨?_, ?_, kp_len _ _, kp_sm T hk _⟩
  · simp [m_made_by, g_made_by, run_ap, startD, str_eq, w_sp, w_sf, w_ss, so, DL.sizeLine_eq]
  · refine law_made_core hl T.pos (kp_len _ _) (kp_sm T hk _) (by simp) ?_
    simp [midB, str_eq, w_sp, w_sf, w_ss, ls, DL.sizeLine_eq]
def flF (a b m : Nat) (x : D) : Option D := match x with
  | .int i => some (.int (if (a : Int) * (m : Int) ≤ i * (b : Int) then i else 0))
  | _ => none
theorem fl_map (ts : List Nat) (a b : Nat) : (Ns ts).filterMap (flF a b (mx ts)) = Ns (fl ts a b) := by
  unfold fl Ns
  rw [List.map_map]
  refine fm_map (g := fun k : Nat => N k) (f := flF a b (mx ts)) (h := (fun k => N k) ∘ fun c => if a * mx ts ≤ c * b then c else 0) (fun i => ?_) ts
  show some (PyData.int (if (a : Int) * (mx ts : Int) ≤ (i : Int) * (b : Int) then (i : Int) else 0)) = some (N (if a * mx ts ≤ i * b then i else 0))
  have e : ((a : Int) * (mx ts : Int) ≤ (i : Int) * (b : Int)) ↔ a * mx ts ≤ i * b := by
    rw [← Int.natCast_mul, ← Int.natCast_mul]
    omega
  by_cases h : a * mx ts ≤ i * b
  · rw [if_pos (e.mpr h), if_pos h]
  · rw [if_neg (fun z => h (e.mp z)), if_neg h]
    rfl
theorem floor_step {ts : List Nat} {k : Nat} (T : TabF k ts) (hk : k ≤ 7900) {a b : Nat} (d : OddsF a b) : StepF ts (.tuple [.str (Str.ofString "floor"), fr a b]) (fl ts a b) := by
  have hl : ts.length ≤ 1000 := by have := T.l9; omega
  have hT : Sm 8000 ts.sum := T.sm.mono (by omega)
  have m0 : 0 < ts.length := by
    have := T.pos
    cases ts with
    | nil => simp at this
    | cons x r => simp
  have m1 := max_ok m0
  have l1 := len_Ns ts
  have l2 : ts.length ≤ 16777216 := by omega
  have hb1 : Sm 100000 b := d.sm.mono (by decide)
  have ha1 : Sm 100000 a := (d.sm.le d.le).mono (by decide)
  have hm1 : Sm 100000 (mx ts) := (hT.le (mem_le_sum (mx_mem m0))).mono (by decide)
  have mm := mul_n ha1 hm1
  have mm2 := mul_n hm1 ha1
  rw [Nat.mul_comm (mx ts) a] at mm2
  simp only [N] at m1
  have sm : Sm 8000 (fl ts a b).sum := hT.le (fl_sum ts a b)
  refine ⟨?_, ?_, fl_len _ _ _, sm⟩
  · refine okP.eq ?_
    simp [m_made_by, g_made_by, run_ap, startD, str_eq, w_lp, w_lf, w_ls, w_ll, l1, l2, DL.sizeLine_eq]
    simp only [okP_obind]
    refine okP_of (lc_map (flF a b (mx ts)) fun x hx => ?_) ?_
    · obtain ⟨i, hi, rfl⟩ := List.mem_map.mp hx
      have mi := mul_n ((hT.le (mem_le_sum hi)).mono (show 8000 ≤ 100000 by decide)) hb1
      by_cases h : (a : Int) * (mx ts : Int) ≤ (i : Int) * (b : Int)
      · have h' : a * mx ts ≤ i * b := by
          rw [← Int.natCast_mul, ← Int.natCast_mul] at h
          omega
        have h2 : (((a * mx ts : Nat) : Int) ≤ ((i * b : Nat) : Int)) := by omega
        simp [okP_some, flF, m1, mm, mi, h, h', h2, -opMul_ii, -bMaxL_ap, -Int.natCast_mul]
      · have h' : ¬ a * mx ts ≤ i * b := fun z => h (by
          rw [← Int.natCast_mul, ← Int.natCast_mul]
          omega)
        have h2 : ¬ (((a * mx ts : Nat) : Int) ≤ ((i * b : Nat) : Int)) := by omega
        simp [okP_some, flF, m1, mm, mi, h, h', h2, -opMul_ii, -bMaxL_ap, -Int.natCast_mul]
    · rw [fl_map]
      simp [okP_some]
  · refine law_made_core hl T.pos (fl_len _ _ _) sm (by simp) ?_
    refine okP.eq ?_
    simp [midB, str_eq, w_lp, w_lf, w_ls, w_ll, l1, l2, DL.sizeLine_eq]
    simp only [okP_obind]
    refine okP_of (lc_map (flF a b (mx ts)) fun x hx => ?_) ?_
    · obtain ⟨i, hi, rfl⟩ := List.mem_map.mp hx
      have hi1 : Sm 100000 i := (T.el i hi).mono (by omega)
      have mi := mul_n hi1 hb1
      have q0 : i.log2 < 1000000 := by have := (T.el i hi).log; omega
      have l1' : Nat.log2 1 = 0 := by decide
      have q1 : i.log2 + Nat.log2 1 < 1000000 := by omega
      have n1 := mul_1 hi1
      have n0 := mul_0 hi1
      by_cases h : (a : Int) * (mx ts : Int) ≤ (i : Int) * (b : Int)
      · have h2 : (((a * mx ts : Nat) : Int) ≤ ((i * b : Nat) : Int)) := by
          rw [Int.natCast_mul, Int.natCast_mul]
          exact h
        have h3 : a * mx ts ≤ i * b := by omega
        simp [okP_some, flF, m1, mm2, mi, h, h2, h3, q0, q1, n1, -opMul_ii, -bMaxL_ap, -Int.natCast_mul]
      · have h2 : ¬ (((a * mx ts : Nat) : Int) ≤ ((i * b : Nat) : Int)) := by
          rw [Int.natCast_mul, Int.natCast_mul]
          exact h
        have h3 : ¬ a * mx ts ≤ i * b := by omega
        simp [okP_some, flF, m1, mm2, mi, h, h2, h3, q0, q1, n0, -opMul_ii, -bMaxL_ap, -Int.natCast_mul]
    · rw [fl_map]
      simp [okP_some]
theorem vv_fr {w : Str} {a b : Nat} (hw : tame (.str w) = true) (h4 : w.cps.size ≤ 10) (hab : a ≤ b) (hb : b ≤ 10000000000000000000000000000000000000000) : Vv 2 60 (.tuple [.str w, fr a b]) := by
  have h1 : tame (N a) = true := by simp [tame]; omega
  have h2 : tame (N b) = true := by simp [tame]; omega
  refine ⟨?_, ?_, ?_⟩
  · rw [tame_tup, tame_cons, tame_cons, tame_nil, tame_tup, tame_cons, tame_cons, tame_nil, h1, h2, hw]; rfl
  · simp [PyData.depth, PyData.depthAll]
  · simp [PyData.bulk, PyData.bulkAll]; omega
theorem first_isf {m : Nat} (h1 : 1 ≤ m) (hm : m ≤ 10000000000000000000000000000000000000000) : StepI (.tuple [.str (Str.ofString "first"), N m]) := ⟨first_filter h1, vv_tup (by decide +kernel) (by decide +kernel) hm⟩
theorem share_isf {a b : Nat} (d : OddsF a b) (ha : 0 < a) (hb : b ≤ 10000000000000000000000000000000000000000) : StepI (.tuple [.str (Str.ofString "share"), fr a b]) := ⟨share_filter d ha, vv_fr (by decide +kernel) (by decide +kernel) d.le hb⟩
theorem floor_isf {a b : Nat} (d : OddsF a b) (hb : b ≤ 10000000000000000000000000000000000000000) : StepI (.tuple [.str (Str.ofString "floor"), fr a b]) := ⟨floor_filter d, vv_fr (by decide +kernel) (by decide +kernel) d.le hb⟩
set_option Elab.async false
theorem fm_boolc {α : Type} {xs : List α} {g : α → D} {f : D → Option D} (e : ∀ x ∈ xs, f (g x) = some (.bool true)) : (xs.map g).filterMap f = List.replicate xs.length (.bool true) := by
  induction xs with
  | nil => rfl
  | cons x r ih =>
    rw [List.map_cons, List.filterMap_cons, e x (by simp), ih fun y hy => e y (by simp [hy])]
    rfl
theorem places_true {ps : List Nat} (hp : ps.Pairwise (· < ·)) (hl : ps.length ≤ 1000) : m_are_places [.d (tab ps)] = some (.d (.bool true), []) := by
  have l1 := len_Ns ps
  have l2 : ps.length ≤ 16777216 := by omega
  have e1 := lc_map (g := DL.gName 2) (t := dTests) (e := dCall m_is_whole [false, false] [] (dCons (dVar 2) (dCons (dC (.int 0)) (dNil)))) (vs := [2]) (fun _ => some (.bool true)) (xs := Ns ps) (st := [some (.d (tab ps)), none, none]) fun x hx => by
    obtain ⟨k, _, rfl⟩ := List.mem_map.mp hx
    have h : (0 : Int) ≤ (k : Int) := by omega
    simp [okP_some, whole_ok, cnt, h]
  rw [fm_const, len_Ns] at e1
  cases ps with
  | nil =>
    have e0 : Ns [] = [] := rfl
    rw [e0] at e1
    simp [m_are_places, g_are_places, run_ap, startD, e0, e1, lcGo_nil, DL.sizeLine_eq, isTy, tyName]
  | cons x r =>
    have r1 := range_ok (t := r.length) (by simp at hl; omega)
    have e2 := lc_map (g := DL.gName 1) (t := dTests) (e := dOp2 opLt (dOp2 opIx (dVar 0) (dVar 1)) (dOp2 opIx (dVar 0) (dOp2 opAdd (dVar 1) (dC (.int 1))))) (vs := [1]) (fun _ => some (.bool true)) (xs := (List.range r.length).map fun i => .int (i : Nat)) (st := [some (.d (tab (x :: r))), none, none]) fun y hy => by
      obtain ⟨i, hi, rfl⟩ := List.mem_map.mp hy
      have hi := List.mem_range.mp hi
      have i1 := ix_ok (x :: r) (p := i) (by simp; omega)
      have i2 := ix_ok (x :: r) (p := i + 1) (by simp; omega)
      have lt := List.pairwise_iff_getElem.mp hp i (i + 1) (by simp; omega) (by simp; omega) (by omega)
      have lt' : (((x :: r)[i]'(by simp; omega) : Nat) : Int) < (((x :: r)[i + 1]'(by simp; omega) : Nat) : Int) := by omega
      generalize ((x :: r)[i]'(by simp; omega)) = u at *
      generalize ((x :: r)[i + 1]'(by simp; omega)) = v at *
      simp only [N, Int.natCast_add, Int.cast_ofNat_Int] at i1 i2
      simp [okP_some, i1, i2, lt, lt', -opIx_li]
    rw [fm_const, List.length_map, List.length_range] at e2
    have c : ((r.length + 1 : Nat) : Int) - 1 = (r.length : Nat) := by omega
    simp only [List.length_cons] at l1 l2 hl
    have l3 : r.length ≤ 16777216 := by omega
    simp [m_are_places, g_are_places, run_ap, startD, e1, e2, l1, l2, l3, r1, DL.sizeLine_eq, isTy, tyName, bools_rep, -iRange1_i]
def bn (ts ps : List Nat) : List Nat := (List.range ts.length).map fun p => if p ∈ ps then 0 else wt ts p
theorem bn_len (ts ps) : (bn ts ps).length = ts.length := by simp [bn]
theorem wt_bn (ts ps : List Nat) (p : Nat) : wt (bn ts ps) p = if p ∈ ps then 0 else wt ts p := by
  by_cases h : p < ts.length
  · rw [wt_at (by rw [bn_len]; exact h)]
    unfold bn
    rw [List.getElem_map, List.getElem_range]
  · rw [wt_out (by rw [bn_len]; exact h), wt_out h]
    split <;> rfl
theorem bn_sum (ts ps : List Nat) : (bn ts ps).sum ≤ ts.sum := sum_le_wt (bn_len ts ps) fun p => by
  rw [wt_bn]
  split <;> omega
def banF (ks : List Nat) (x : D) : Option D := match x with
  | .tuple [.int i, .int c] => some (if i.toNat ∈ ks then .int 0 else .int c)
  | _ => none
theorem ban_map (ts ks : List Nat) : (En ts).filterMap (banF ks) = Ns (bn ts ks) := by
  rw [En_range]
  unfold bn Ns
  rw [List.map_map]
  refine fm_map (fun i => ?_) _
  show some _ = some _
  by_cases h : i ∈ ks <;> simp [h]
theorem wt_lt {ts : List Nat} {k : Nat} (T : TabF k ts) {i : Nat} : Sm k (wt ts i) := by
  by_cases h : i < ts.length
  · rw [wt_at h]
    exact T.el _ (List.getElem_mem h)
  · rw [wt_out h]
    exact Nat.two_pow_pos k
theorem tame_Ns : ∀ {ps : List Nat}, (∀ p ∈ ps, p ≤ 10000000000000000000000000000000000000000) → tameAll (Ns ps) = true
  | [], _ => tame_nil
  | p :: r, h => by
    have := h p (by simp)
    rw [show Ns (p :: r) = N p :: Ns r from rfl, tame_cons, tame_Ns fun q hq => h q (by simp [hq])]
    simp [tame]
    omega
theorem depth_N0 : ∀ ps : List Nat, PyData.depthAll (Ns ps) = 0
  | [] => rfl
  | p :: r => by
    rw [show Ns (p :: r) = N p :: Ns r from rfl]
    simp [PyData.depthAll, PyData.depth, depth_N0 r]
theorem bulk_N0 : ∀ ps : List Nat, PyData.bulkAll (Ns ps) ≤ 2 * ps.length
  | [] => by simp [Ns, PyData.bulkAll]
  | p :: r => by
    rw [show Ns (p :: r) = N p :: Ns r from rfl]
    have := bulk_N0 r
    simp [PyData.bulkAll, PyData.bulk]
    omega
theorem ban_isf {ps : List Nat} (hp : ps.Pairwise (· < ·)) (hpl : ps.length ≤ 20) (hps : ∀ p ∈ ps, p ≤ 10000000000000000000000000000000000000000) : StepI (.tuple [.str (Str.ofString "ban"), tab ps]) := by
  refine ⟨?_, ?_⟩
  · have pl := places_true hp (by omega)
    have e1 : (Str.ofString "ban" == Str.ofString "weigh") = false := by decide +kernel
    have e2 : (Str.ofString "power" == Str.ofString "ban") = false := by decide +kernel
    have e3 : (Str.ofString "first" == Str.ofString "ban") = false := by decide +kernel
    have e4 : (Str.ofString "share" == Str.ofString "ban") = false := by decide +kernel
    have e5 : (Str.ofString "floor" == Str.ofString "ban") = false := by decide +kernel
    simp [m_is_filter, g_is_filter, run_ap, startD, isTy, tyName, str_eq, in_two, e1, e2, e3, e4, e5, w_bb, pl, DL.sizeLine_eq]
  · have h3 : tame (.str (Str.ofString "ban")) = true := by decide +kernel
    have h4 : (Str.ofString "ban").cps.size = 3 := by decide +kernel
    have h5 := bulk_N0 ps
    refine ⟨?_, ?_, ?_⟩
    · rw [tame_tup, tame_cons, tame_cons, tame_nil, tame_lst, tame_Ns hps, h3]; rfl
    · simp [PyData.depth, PyData.depthAll, depth_N0]
    · simp [PyData.bulk, PyData.bulkAll, h4]; omega
theorem ban_step {ts : List Nat} {k : Nat} (T : TabF k ts) (hk : k ≤ 7900) {ps : List Nat} (hpl : ps.length ≤ 20) : StepF ts (.tuple [.str (Str.ofString "ban"), tab ps]) (bn ts ps) := by
  have hl : ts.length ≤ 1000 := by have := T.l9; omega
  have hT : Sm 8000 ts.sum := T.sm.mono (by omega)
  have l1 := En_len ts
  have l2 : ts.length ≤ 16777216 := by omega
  have hi := iEnum_En ts
  have sm : Sm 8000 (bn ts ps).sum := hT.le (bn_sum ts ps)
  refine ⟨?_, ?_, bn_len _ _, sm⟩
  · refine okP.eq ?_
    simp [m_made_by, g_made_by, run_ap, startD, str_eq, w_bp, w_bf, w_bs, w_bl, w_bb, hi, l1, l2, DL.sizeLine_eq, -iEnum_l]
    simp only [okP_obind]
    refine okP_of (lc_map (banF ps) fun x hx => ?_) ?_
    · rw [En_range] at hx
      obtain ⟨i, _, rfl⟩ := List.mem_map.mp hx
      by_cases h : i ∈ ps <;> simp [okP_some, banF, in_Ns, h]
    · rw [ban_map]
      simp [okP_some]
  · refine law_made_core hl T.pos (bn_len _ _) sm (by simp) ?_
    refine okP.eq ?_
    simp [midB, str_eq, w_bp, w_bf, w_bs, w_bl, w_bb, hi, l1, l2, DL.sizeLine_eq, -iEnum_l]
    simp only [okP_obind]
    refine okP_of (lc_map (banF ps) fun x hx => ?_) ?_
    · rw [En_range] at hx
      obtain ⟨i, _, rfl⟩ := List.mem_map.mp hx
      have hi1 : Sm 100000 (wt ts i) := (wt_lt T).mono (by omega)
      have n1 := mul_1 hi1
      have n0 := mul_0 hi1
      have b1 : bInt [.bool true] = some (.d (.int 1)) := rfl
      have b0 : bInt [.bool false] = some (.d (.int 0)) := rfl
      by_cases h : i ∈ ps <;> simp [okP_some, banF, in_Ns, h, n1, n0, -opMul_ii]
    · rw [ban_map]
      simp [okP_some]
/-! ## weigh -/
def wg (ts : List Nat) (p w : Nat) : List Nat := (List.range ts.length).map fun i => if i = p then wt ts i * w else wt ts i
theorem wg_len (ts p w) : (wg ts p w).length = ts.length := by simp [wg]
def wgF (p w : Nat) (x : D) : Option D := match x with
  | .tuple [.int i, .int c] => some (if i.toNat = p then .int ((c.toNat * w : Nat) : Int) else .int c)
  | _ => none
theorem wg_map (ts : List Nat) (p w : Nat) : (En ts).filterMap (wgF p w) = Ns (wg ts p w) := by
  rw [En_range]
  unfold wg Ns
  rw [List.map_map]
  refine fm_map (fun i => ?_) _
  show some _ = some _
  by_cases h : i = p <;> simp [h]
theorem weigh_isf {p w : Nat} (hw : 1 ≤ w) (hw7 : w ≤ 7) (hp : p ≤ 10000000000000000000000000000000000000000) : StepI (.tuple [.str (Str.ofString "weigh"), N p, N w]) := by
  refine ⟨?_, ?_⟩
  · have e1 : (Str.ofString "weigh" == Str.ofString "weigh") = true := by decide +kernel
    have h1 : (1 : Int) ≤ (w : Int) := by omega
    have h0 : (0 : Int) ≤ (p : Int) := by omega
    have w1 := whole_ok (N w) 1
    have w2 := whole_ok (N p) 0
    simp [cnt, h1, hw] at w1
    simp [cnt, h0] at w2
    simp [m_is_filter, g_is_filter, run_ap, startD, isTy, tyName, str_eq, e1, w1, w2, DL.sizeLine_eq]
  · have h1 : tame (N p) = true := by simp [tame]; omega
    have h2 : tame (N w) = true := by simp [tame]; omega
    have h3 : tame (.str (Str.ofString "weigh")) = true := by decide +kernel
    have h4 : (Str.ofString "weigh").cps.size = 5 := by decide +kernel
    refine ⟨?_, ?_, ?_⟩
    · rw [tame_tup, tame_cons, tame_cons, tame_cons, tame_nil, h1, h2, h3]; rfl
    · simp [PyData.depth, PyData.depthAll]
    · simp [PyData.bulk, PyData.bulkAll, h4]
theorem weigh_step {ts : List Nat} {k : Nat} (T : TabF k ts) (hk : k ≤ 7900) {p w : Nat} (hw7 : w ≤ 7) : StepF ts (.tuple [.str (Str.ofString "weigh"), N p, N w]) (wg ts p w) := by
  have hl : ts.length ≤ 1000 := by have := T.l9; omega
  have l1 := En_len ts
  have l2 : ts.length ≤ 16777216 := by omega
  have hi := iEnum_En ts
  have w3 : Sm 3 w := sm_of 3 (by omega)
  have sm : Sm 8000 (wg ts p w).sum := by
    refine (sum_sm (k := k + 3) (fun t ht => ?_) (by simp [wg]; have := T.l9; omega)).mono (by omega)
    obtain ⟨i, _, rfl⟩ := List.mem_map.mp ht
    split
    · exact (wt_lt T).mul w3
    · exact (wt_lt T).mono (by omega)
  refine ⟨?_, ?_, wg_len _ _ _, sm⟩
  · refine okP.eq ?_
    simp [m_made_by, g_made_by, run_ap, startD, str_eq, w_wp, w_wf, w_ws, w_wl, w_wb, hi, l1, l2, DL.sizeLine_eq, -iEnum_l]
    simp only [okP_obind]
    refine okP_of (lc_map (wgF p w) fun x hx => ?_) ?_
    · rw [En_range] at hx
      obtain ⟨i, _, rfl⟩ := List.mem_map.mp hx
      have m := mul_n ((wt_lt (i := i) T).mono (show k ≤ 100000 by omega)) (w3.mono (show 3 ≤ 100000 by decide))
      by_cases h : i = p
      · subst h
        simp [okP_some, wgF, m, -opMul_ii, -Int.natCast_mul]
      · have h' : ¬ ((i : Int) = (p : Int)) := by omega
        simp [okP_some, wgF, h, h', m, -opMul_ii, -Int.natCast_mul]
    · rw [wg_map]
      simp [okP_some]
  · refine law_made_core hl T.pos (wg_len _ _ _) sm (by simp) ?_
    refine okP.eq ?_
    simp [midB, str_eq, w_wp, w_wf, w_ws, w_wl, w_wb, hi, l1, l2, DL.sizeLine_eq, -iEnum_l]
    simp only [okP_obind]
    refine okP_of (lc_map (wgF p w) fun x hx => ?_) ?_
    · rw [En_range] at hx
      obtain ⟨i, _, rfl⟩ := List.mem_map.mp hx
      have hi1 : Sm 100000 (wt ts i) := (wt_lt T).mono (by omega)
      have n1 := mul_1 hi1
      have m := mul_n hi1 (w3.mono (show 3 ≤ 100000 by decide))
      by_cases h : i = p
      · subst h
        simp [okP_some, wgF, m, -opMul_ii, -Int.natCast_mul]
      · have h' : ¬ ((i : Int) = (p : Int)) := by omega
        simp [okP_some, wgF, h, h', n1, -opMul_ii, -Int.natCast_mul]
    · rw [wg_map]
      simp [okP_some]
set_option Elab.async false
section
variable {g : DG} {t : DT} {e : DE} {vs : List Nat}
theorem lcGo_acc (J : Nat → List D → DSt → Prop) : ∀ (xs : List D) (n : Nat) (acc : List D) (st : DSt) {Q : List D × DSt → Prop}, J n acc st →
    (∀ i x acc s, xs[i]? = some x → J (n + i) acc s → okP (g x s) fun s1 => okP (t s1) fun p => (p.1 = false ∧ J (n + i + 1) acc (wipeD p.2 vs)) ∨ (p.1 = true ∧ okP (e p.2) fun q => okP (toD q.2 q.1) fun r => J (n + i + 1) (acc ++ [r.1]) (wipeD r.2 vs))) →
    (∀ ys s, J (n + xs.length) (acc ++ ys) s → Q (ys, s)) → okP (lcGo g t e vs xs st) Q
  | [], n, acc, st, Q, h0, _, hk => by
    rw [lcGo_nil, okP_some]
    exact hk [] st (by rw [List.append_nil]; exact h0)
  | x :: xs, n, acc, st, Q, h0, hs, hk => by
    rw [lcGo_cons, okP_obind]
    refine (hs 0 x acc st rfl h0).mono fun s1 h1 => ?_
    show okP (obind (t s1) (kLcTurnT g t e vs xs)) Q
    rw [okP_obind]
    refine h1.mono fun p h2 => ?_
    rcases p with ⟨p1, p2⟩
    have next : ∀ (acc' : List D) (s' : DSt) {Q' : List D × DSt → Prop}, J (n + 1) acc' s' → (∀ ys s, J (n + 1 + xs.length) (acc' ++ ys) s → Q' (ys, s)) → okP (lcGo g t e vs xs s') Q' := fun acc' s' Q' h6 hk' =>
      lcGo_acc J xs (n + 1) acc' s' h6 (fun i y ac s hy hi => by
        have := hs (i + 1) y ac s (by simpa using hy) (by rw [show n + (i + 1) = n + 1 + i by omega]; exact hi)
        rw [show n + (i + 1) + 1 = n + 1 + i + 1 by omega] at this
        exact this) hk'
    rcases h2 with ⟨h2, h3⟩ | ⟨h2, h3⟩
    · subst h2
      show okP (lcGo g t e vs xs (wipeD p2 vs)) Q
      exact next acc _ h3 fun ys s h => hk ys s (by rw [List.length_cons, show n + (xs.length + 1) = n + 1 + xs.length by omega]; exact h)
    · subst h2
      show okP (obind (e p2) (kLcTurnD g t e vs xs)) Q
      rw [okP_obind]
      refine h3.mono fun q h4 => ?_
      rcases q with ⟨q1, q2⟩
      show okP (obind (toD q2 q1) (kLcTurnE g t e vs xs)) Q
      rw [okP_obind]
      refine h4.mono fun r h6 => ?_
      rcases r with ⟨r1, r2⟩
      show okP (obind (lcGo g t e vs xs (wipeD r2 vs)) (kPush r1)) Q
      rw [okP_obind]
      refine next (acc ++ [r1]) _ h6 fun ys s h => ?_
      show okP (some (r1 :: ys, s)) Q
      rw [okP_some]
      refine hk _ _ ?_
      rw [List.length_cons, show n + (xs.length + 1) = n + 1 + xs.length by omega, show acc ++ r1 :: ys = acc ++ [r1] ++ ys by simp]
      exact h
/-- [e for x in xs if t]: what is gathered so far, and the slots -/
theorem lc_acc (J : Nat → List D → DSt → Prop) {xs : List D} {st : DSt} {Q : List D × DSt → Prop} (h0 : J 0 [] st)
    (hs : ∀ i x acc s, xs[i]? = some x → J i acc s → okP (g x s) fun s1 => okP (t s1) fun p => (p.1 = false ∧ J (i + 1) acc (wipeD p.2 vs)) ∨ (p.1 = true ∧ okP (e p.2) fun q => okP (toD q.2 q.1) fun r => J (i + 1) (acc ++ [r.1]) (wipeD r.2 vs)))
    (hk : ∀ ys s, J xs.length ys s → Q (ys, s)) : okP (lcGo g t e vs xs st) Q :=
  lcGo_acc J xs 0 [] st h0 (fun i x acc s hx hi => by
    rw [Nat.zero_add] at hi ⊢
    exact hs i x acc s hx hi) (fun ys s h => hk ys s (by rw [Nat.zero_add] at h; exact h))
end
theorem lo_odds {s T : Nat} (h0 : 0 < T) (hs : s ≤ T) (h : Sm 8000 T) : ∃ a b, lo s T = fr a b ∧ OddsF a b ∧ b ≤ T ∧ (0 < s → 0 < a) := by
  have hg : 0 < Nat.gcd s T := Nat.gcd_pos_of_pos_right s h0
  exact ⟨s / Nat.gcd s T, T / Nat.gcd s T, rfl, ⟨Nat.div_pos (Nat.le_of_dvd h0 (Nat.gcd_dvd_right s T)) hg, Nat.div_le_div_right hs, Nat.gcd_div_gcd_div_gcd_of_pos_right h0, h.le (Nat.div_le_self _ _)⟩, Nat.div_le_self _ _, fun hs0 => Nat.div_pos (Nat.le_of_dvd hs0 (Nat.gcd_dvd_left s T)) hg⟩
inductive St where
  | power (n : Nat)
  | first (m : Nat)
  | share (a b : Nat)
  | floor (a b : Nat)
  | ban (ps : List Nat)
  | weigh (p w : Nat)
def St.d : St → D
  | .power n => .tuple [.str (Str.ofString "power"), N n]
  | .first m => .tuple [.str (Str.ofString "first"), N m]
  | .share a b => .tuple [.str (Str.ofString "share"), fr a b]
  | .floor a b => .tuple [.str (Str.ofString "floor"), fr a b]
  | .ban ps => .tuple [.str (Str.ofString "ban"), tab ps]
  | .weigh p w => .tuple [.str (Str.ofString "weigh"), N p, N w]
def St.ok : St → Prop
  | .power n => 1 ≤ n ∧ n ≤ 6
  | .first m => 1 ≤ m ∧ m ≤ 10000000000000000000000000000000000000000
  | .share a b => OddsF a b ∧ 0 < a ∧ b ≤ 10000000000000000000000000000000000000000
  | .floor a b => OddsF a b ∧ b ≤ 10000000000000000000000000000000000000000
  | .ban ps => ps.Pairwise (· < ·) ∧ ps.length ≤ 20 ∧ ∀ p ∈ ps, p ≤ 10000000000000000000000000000000000000000
  | .weigh p w => 1 ≤ w ∧ w ≤ 7 ∧ p ≤ 10000000000000000000000000000000000000000
noncomputable def St.mk' : St → List Nat → List Nat
  | .power n, ts => pw ts n
  | .first m, ts => kp ts ((ws ts).take m)
  | .share a b, ts => kp ts (grab ts b (a * ts.sum) (ws ts) 0)
  | .floor a b, ts => fl ts a b
  | .ban ps, ts => bn ts ps
  | .weigh p w, ts => wg ts p w
/-- how much longer the numbers may grow -/
def St.pw : St → Nat
  | .power n => n
  | _ => 1
theorem St.pw1 {s : St} (h : s.ok) : 1 ≤ s.pw := by
  cases s <;> first | exact h.1 | exact Nat.le_refl _
theorem St.isI {s : St} (h : s.ok) : StepI s.d := by
  cases s with
  | power n => exact power_isf h.1 h.2
  | first m => exact first_isf h.1 h.2
  | share a b => exact share_isf h.1 h.2.1 h.2.2
  | floor a b => exact floor_isf h.1 h.2
  | ban ps => exact ban_isf h.1 h.2.1 h.2.2
  | weigh p w => exact weigh_isf h.1 h.2.1 h.2.2
theorem St.isF {s : St} (h : s.ok) {k : Nat} {ts : List Nat} (T : TabF k ts) (hk : k * s.pw ≤ 7900) : StepF ts s.d (s.mk' ts) := by
  cases s with
  | power n => exact power_step T h.1 h.2 hk
  | first m => exact first_step T (by rw [show (St.first m).pw = 1 from rfl] at hk; omega)
  | share a b => exact share_step T (by rw [show (St.share a b).pw = 1 from rfl] at hk; omega) h.1
  | floor a b => exact floor_step T (by rw [show (St.floor a b).pw = 1 from rfl] at hk; omega) h.1
  | ban ps => exact ban_step T (by rw [show (St.ban ps).pw = 1 from rfl] at hk; omega) h.2.1
  | weigh p w => exact weigh_step T (by rw [show (St.weigh p w).pw = 1 from rfl] at hk; omega) h.2.1
theorem wt_el {k : Nat} {M : List Nat} (h : ∀ p, Sm k (wt M p)) : ∀ t ∈ M, Sm k t := fun t ht => by
  obtain ⟨i, hi, rfl⟩ := List.mem_iff_getElem.mp ht
  have := h i
  rw [wt_at hi] at this
  exact this
theorem St.el {s : St} (h : s.ok) {k : Nat} {ts : List Nat} (T : TabF k ts) : ∀ t ∈ s.mk' ts, Sm (k * s.pw + 3) t := by
  have z : ∀ j, Sm j 0 := fun j => Nat.two_pow_pos j
  cases s with
  | power n =>
    intro t ht
    obtain ⟨c, hc, rfl⟩ := List.mem_map.mp ht
    exact (pow_sm (T.el c hc) n).mono (by show k * n + 1 ≤ k * n + 3; omega)
  | first m =>
    refine wt_el fun p => ?_
    show Sm _ (wt (kp ts _) p)
    rw [wt_kp]
    split
    · exact (wt_lt T).mono (by show k ≤ k * 1 + 3; omega)
    · exact z _
  | share a b =>
    refine wt_el fun p => ?_
    show Sm _ (wt (kp ts _) p)
    rw [wt_kp]
    split
    · exact (wt_lt T).mono (by show k ≤ k * 1 + 3; omega)
    · exact z _
  | floor a b =>
    refine wt_el fun p => ?_
    show Sm _ (wt (fl ts a b) p)
    rw [wt_fl]
    split
    · exact (wt_lt T).mono (by show k ≤ k * 1 + 3; omega)
    · exact z _
  | ban ps =>
    refine wt_el fun p => ?_
    show Sm _ (wt (bn ts ps) p)
    rw [wt_bn]
    split
    · exact z _
    · exact (wt_lt T).mono (by show k ≤ k * 1 + 3; omega)
  | weigh p w =>
    intro t ht
    obtain ⟨i, _, rfl⟩ := List.mem_map.mp ht
    split
    · exact ((wt_lt T).mul (sm_of 3 (show w < 2 ^ 3 by have := h.2.1; omega))).mono (by show k + 3 ≤ k * 1 + 3; omega)
    · exact (wt_lt T).mono (by show k ≤ k * 1 + 3; omega)
theorem filter_made {n : Nat} {P : List D} (hn : n ≤ 400000) (hP : Gen n P) {pl : Nat} (l9 : pl ≤ 9) :
    okP (m__law_filter [.m P, .d (N pl)]) fun r => ∃ (s : St) (P' : List D), r = (.d s.d, [P']) ∧ s.ok ∧ Gen (n + 100) P' := by
  obtain ⟨w, P1, hw, hP1, h1⟩ := random_ok (by omega) hP 7 (by decide) (sm_of 100 (by decide))
  have h1 : m__law_random [.m P, .d (.int 7)] = some (.d (.int (w : Nat)), [P1]) := h1
  by_cases w0 : w = 0
  · subst w0
    obtain ⟨r, P2, hr, hP2, h2⟩ := random_ok (by omega) hP1 6 (by decide) (sm_of 100 (by decide))
    have h2 : m__law_random [.m P1, .d (.int 6)] = some (.d (.int (r : Nat)), [P2]) := h2
    simp only [N, Int.natCast_add, Int.cast_ofNat_Int] at h1
    refine okP_of (a := (.d (St.power (1 + r)).d, [P2])) ?_ ⟨.power (1 + r), P2, rfl, ⟨by omega, by omega⟩, hP2.up (by omega)⟩
    simp [m__law_filter, g__law_filter, run_ap, startD, DL.sizeLine_eq, h1, h2, St.d]
  by_cases w1 : w = 1
  · subst w1
    obtain ⟨r, P2, hr, hP2, h2⟩ := random_ok (by omega) hP1 (pl + 1) (by omega) (sm_of 100 (by omega))
    simp only [N, Int.natCast_add, Int.cast_ofNat_Int] at h1 h2
    refine okP_of (a := (.d (St.first (1 + r)).d, [P2])) ?_ ⟨.first (1 + r), P2, rfl, ⟨by omega, by omega⟩, hP2.up (by omega)⟩
    simp [m__law_filter, g__law_filter, run_ap, startD, DL.sizeLine_eq, h1, h2, St.d]
  have e0 : ¬ ((w : Int) = 0) := by omega
  have e1 : ¬ ((w : Int) = 1) := by omega
  by_cases w4 : w < 4
  · have e4 : (w : Int) < 4 := by omega
    obtain ⟨y, P2, hy, hP2, h2⟩ := pick_ok (by omega) hP1 [.int 3, .int 10, .int 1000000000] (by simp) (by simp)
    obtain ⟨most, rfl, hm1, hm2⟩ : ∃ k : Nat, y = N k ∧ 2 ≤ k ∧ k ≤ 1000000000 := by
      simp only [List.mem_cons, List.not_mem_nil, or_false] at hy
      rcases hy with rfl | rfl | rfl
      · exact ⟨3, rfl, by decide, by decide⟩
      · exact ⟨10, rfl, by decide, by decide⟩
      · exact ⟨1000000000, rfl, by decide, by decide⟩
    obtain ⟨r, P3, hr, hP3, h3⟩ := random_ok (by omega) hP2 most (by omega) (sm_of 100 (by omega))
    obtain ⟨q, P4, hq, hP4, h4⟩ := random_ok (by omega) hP3 (1 + r + 1) (by omega) (sm_of 100 (by omega))
    have sm : Sm 8000 (1 + r) := sm_of (a := 1 + r) 100 (by omega) |>.mono (by decide)
    simp only [N, Int.natCast_add, Int.cast_ofNat_Int] at h1 h2 h3 h4
    by_cases w2 : w = 2
    · subst w2
      have mx2 : bMax2 [.int (q : Nat), .int 1] = some (.d (.int ((max q 1 : Nat) : Int))) := by
        simp
        omega
      have lod := lodds_ok (max q 1) (1 + r) (by omega) (sm.mono (by decide))
      obtain ⟨a, b, el, dO, hb, ha⟩ := lo_odds (s := max q 1) (T := 1 + r) (by omega) (by omega) sm
      rw [el] at lod
      simp only [N, Int.natCast_add, Int.cast_ofNat_Int] at lod
      refine okP_of (a := (.d (St.share a b).d, [P4])) ?_ ⟨.share a b, P4, rfl, ⟨dO, ha (by omega), by omega⟩, hP4.up (by omega)⟩
      simp [St.d, m__law_filter, g__law_filter, run_ap, startD, DL.sizeLine_eq, h1, h2, h3, h4, mx2, lod, -bMax2_ii]
    · have e2 : ¬ ((w : Int) = 2) := by omega
      have lod := lodds_ok q (1 + r) (by omega) (sm.mono (by decide))
      obtain ⟨a, b, el, dO, hb, _⟩ := lo_odds (s := q) (T := 1 + r) (by omega) (by omega) sm
      rw [el] at lod
      simp only [N, Int.natCast_add, Int.cast_ofNat_Int] at lod
      refine okP_of (a := (.d (St.floor a b).d, [P4])) ?_ ⟨.floor a b, P4, rfl, ⟨dO, by omega⟩, hP4.up (by omega)⟩
      simp [St.d, m__law_filter, g__law_filter, run_ap, startD, DL.sizeLine_eq, w0, w1, w2, w4, e0, e1, e2, e4, h1, h2, h3, h4, lod]
  have e4 : ¬ ((w : Int) < 4) := by omega
  by_cases w5 : w = 4
  · subst w5
    have r1 := range_ok (t := pl + 2) (by omega)
    simp only [N, Int.natCast_add, Int.cast_ofNat_Int] at h1 r1
    simp [m__law_filter, g__law_filter, run_ap, startD, DL.sizeLine_eq, h1, r1, show pl + 2 ≤ 16777216 by omega, -iRange1_i]
    simp only [okP_obind]
    refine lc_acc (fun i acc s => ∃ ps Pi, acc = Ns ps ∧ s = [some (.lent Pi), some (.d (N pl)), some (.d (.int 4)), none, none, none] ∧ ps.Pairwise (· < ·) ∧ (∀ p ∈ ps, p < i) ∧ ps.length ≤ i ∧ Gen (n + 5 + 5 * i) Pi) ⟨[], P1, rfl, rfl, List.Pairwise.nil, by simp, by simp, by simpa using hP1⟩ ?_ ?_
    · rintro i x acc s hx ⟨ps, Pi, rfl, rfl, hps, hlt, hpl, hPi⟩
      have hi : i < pl + 2 := by
        have := (List.getElem?_eq_some_iff.mp hx).1
        simpa using this
      obtain rfl : x = N i := by
        rw [List.getElem?_map, List.getElem?_range hi] at hx
        exact (Option.some.inj hx).symm
      obtain ⟨r, P2, hr, hP2, h2⟩ := random_ok (by omega) hPi 4 (by decide) (sm_of 100 (by decide))
      have h2 : m__law_random [.m Pi, .d (.int 4)] = some (.d (.int (r : Nat)), [P2]) := h2
      have hP3 : Gen (n + 5 + 5 * (i + 1)) P2 := by
        rw [show n + 5 + 5 * (i + 1) = n + 5 + 5 * i + 5 by omega]
        exact hP2
      by_cases r0 : r = 0
      · subst r0
        simp only [Int.cast_ofNat_Int] at h2
        simp [okP_some, h2]
        refine ⟨ps ++ [i], by simp [Ns], ?_, fun p hp => ?_, by simp; omega, hP3⟩
        · rw [List.pairwise_append]
          exact ⟨hps, by simp, fun a ha b hb => by
            have := hlt a ha
            simp at hb
            omega⟩
        · rcases List.mem_append.mp hp with hp | hp
          · have := hlt p hp
            omega
          · simp at hp
            omega
      · have r0' : ¬ ((r : Int) = 0) := by omega
        simp [okP_some, h2, r0, r0']
        exact ⟨ps, rfl, hps, fun p hp => by have := hlt p hp; omega, by omega, hP3⟩
    · rintro ys s ⟨ps, Pi, rfl, rfl, hps, hlt, hpl, hPi⟩
      simp only [List.length_map, List.length_range] at hlt hpl hPi
      simp [okP_some, DL.sizeLine_eq]
      exact ⟨.ban ps, Pi, ⟨rfl, rfl⟩, ⟨hps, by omega, fun p hp => by have := hlt p hp; omega⟩, hPi.up (by omega)⟩
  · have e5 : ¬ ((w : Int) = 4) := by omega
    obtain ⟨r, P2, hr, hP2, h2⟩ := random_ok (by omega) hP1 (pl + 1) (by omega) (sm_of 100 (by omega))
    obtain ⟨q, P3, hq, hP3, h3⟩ := random_ok (by omega) hP2 5 (by decide) (sm_of 100 (by decide))
    have h3 : m__law_random [.m P2, .d (.int 5)] = some (.d (.int (q : Nat)), [P3]) := h3
    simp only [N, Int.natCast_add, Int.cast_ofNat_Int] at h1 h2
    refine okP_of (a := (.d (St.weigh r (1 + q)).d, [P3])) ?_ ⟨.weigh r (1 + q), P3, rfl, ⟨by omega, by omega, by omega⟩, hP3.up (by omega)⟩
    simp [St.d, m__law_filter, g__law_filter, run_ap, startD, DL.sizeLine_eq, w0, w1, w4, w5, e0, e1, e4, e5, h1, h2, h3]
set_option Elab.async false
theorem gall_mul (c : Nat) : ∀ (ts : List Nat) (g : Nat), gall (ts.map (· * c)) (g * c) = gall ts g * c
  | [], g => rfl
  | t :: r, g => by
    show gall (r.map (· * c)) (Nat.gcd (g * c) (t * c)) = gall r (Nat.gcd g t) * c
    rw [Nat.gcd_mul_right, gall_mul c r]
theorem lw_back {M : List Nat} : (lw M).map (· * gg M) = M := by
  unfold lw
  rw [List.map_map]
  conv => rhs; rw [← List.map_id M]
  refine List.map_congr_left fun t ht => ?_
  exact Nat.div_mul_cancel ((gall_dvd M 0).2 t ht)
theorem gg_lw {M : List Nat} (h : 0 < M.sum) : gg (lw M) = 1 := by
  have e := gall_mul (gg M) (lw M) 0
  rw [lw_back, Nat.zero_mul] at e
  have e : gg M = gg (lw M) * gg M := e
  have p := gg_pos h
  have e : 1 * gg M = gg (lw M) * gg M := by rw [Nat.one_mul]; exact e
  exact (Nat.eq_of_mul_eq_mul_right p e).symm
theorem lw_lw {M : List Nat} (h : 0 < M.sum) : lw (lw M) = lw M := by
  rw [lw, gg_lw h]
  conv => rhs; rw [← List.map_id (lw M)]
  exact List.map_congr_left fun t _ => Nat.div_one t
theorem lw_len (M : List Nat) : (lw M).length = M.length := by simp [lw]
theorem lw_sum {M : List Nat} (h : 0 < M.sum) : 0 < (lw M).sum := by
  obtain ⟨t, ht, h0⟩ := sum_pos_mem h
  obtain ⟨i, hi, rfl⟩ := List.mem_iff_getElem.mp ht
  refine pos_sum (p := i) ?_
  rw [lw_pos h, wt_at hi]
  exact h0
theorem lw_tab {k : Nat} {M : List Nat} (l9 : M.length ≤ 9) (h : 0 < M.sum) (el : ∀ t ∈ M, Sm k t) : TabF k (lw M) ∧ lw (lw M) = lw M :=
  ⟨⟨by rw [lw_len]; exact l9, lw_sum h, fun t ht => by
    obtain ⟨x, hx, rfl⟩ := List.mem_map.mp ht
    exact (el x hx).le (Nat.div_le_self _ _)⟩, lw_lw h⟩
noncomputable def run1 (s : St) : Option (List Nat) → Option (List Nat)
  | none => none
  | some ts => if 0 < (s.mk' ts).sum then some (lw (s.mk' ts)) else none
noncomputable def runC : List St → Option (List Nat) → Option (List Nat)
  | [], o => o
  | s :: r, o => runC r (run1 s o)
theorem runC_none : ∀ ss, runC ss none = none
  | [] => rfl
  | s :: r => runC_none r
theorem runC_app : ∀ (a b : List St) (o), runC (a ++ b) o = runC b (runC a o)
  | [], b, o => rfl
  | s :: r, b, o => runC_app r b (run1 s o)
def cap : Nat → List St → Prop
  | k, [] => k ≤ 7900
  | k, s :: r => k * s.pw ≤ 7900 ∧ cap (k * s.pw + 3) r
def TabO (k : Nat) : Option (List Nat) → Prop
  | none => True
  | some ts => TabF k ts ∧ lw ts = ts
theorem le_pw {k : Nat} {s : St} (h : s.ok) : k ≤ k * s.pw := by
  have := Nat.mul_le_mul_left k (St.pw1 h)
  omega
theorem cap_le {k : Nat} : ∀ {ss : List St}, (∀ s ∈ ss, s.ok) → cap k ss → k ≤ 7900
  | [], _, h => h
  | s :: r, ok, h => Nat.le_trans (le_pw (ok s (by simp))) h.1
theorem run1_tab {k : Nat} {s : St} (h : s.ok) {o : Option (List Nat)} (T : TabO k o) (hk : k * s.pw ≤ 7900) : TabO (k * s.pw + 3) (run1 s o) := by
  cases o with
  | none => trivial
  | some ts =>
    have F := St.isF h T.1 hk
    show TabO _ (if 0 < (s.mk' ts).sum then some (lw (s.mk' ts)) else none)
    split
    · rename_i c
      exact lw_tab (by rw [F.len]; exact T.1.l9) c (St.el h T.1)
    · trivial
theorem cap_split : ∀ (a b : List St) (k : Nat) (o), (∀ s ∈ a, s.ok) → cap k (a ++ b) → TabO k o → ∃ k', TabO k' (runC a o) ∧ cap k' b
  | [], b, k, o, _, h, T => ⟨k, T, h⟩
  | s :: r, b, k, o, ok, h, T => cap_split r b (k * s.pw + 3) (run1 s o) (fun x hx => ok x (by simp [hx])) h.2 (run1_tab (ok s (by simp)) T h.1)
theorem cap_take : ∀ (a b : List St) (k : Nat), (∀ s ∈ a ++ b, s.ok) → cap k (a ++ b) → cap k a
  | [], b, k, ok, h => cap_le ok h
  | s :: r, b, k, ok, h => ⟨h.1, cap_take r b _ (fun x hx => ok x (by simp at hx ⊢; exact .inr hx)) h.2⟩
def prodP (ss : List St) : Nat := (ss.map St.pw).foldr (· * ·) 1
theorem prodP_pos : ∀ {ss : List St}, (∀ s ∈ ss, s.ok) → 1 ≤ prodP ss
  | [], _ => Nat.le_refl _
  | s :: r, ok => by
    have h1 := St.pw1 (ok s (by simp))
    have h2 := prodP_pos (ss := r) fun x hx => ok x (by simp [hx])
    exact Nat.mul_le_mul h1 h2
theorem cap_of : ∀ {ss : List St} {k : Nat}, (∀ s ∈ ss, s.ok) → (k + 3 * ss.length) * prodP ss ≤ 7900 → cap k ss
  | [], k, _, h => by
    have h : (k + 3 * 0) * 1 ≤ 7900 := h
    show k ≤ 7900
    omega
  | s :: r, k, ok, h => by
    have h1 := St.pw1 (ok s (by simp))
    have okr : ∀ x ∈ r, x.ok := fun x hx => ok x (by simp [hx])
    have h2 := prodP_pos okr
    have h : (k + 3 * (r.length + 1)) * (s.pw * prodP r) ≤ 7900 := h
    have e1 : k * s.pw ≤ (k + 3 * (r.length + 1)) * (s.pw * prodP r) := by
      have : k * s.pw * 1 ≤ (k + 3 * (r.length + 1)) * s.pw * prodP r := Nat.mul_le_mul (Nat.mul_le_mul_right _ (by omega)) h2
      rw [Nat.mul_one, Nat.mul_assoc] at this
      exact this
    have e2 : (k * s.pw + 3 + 3 * r.length) * prodP r ≤ (k + 3 * (r.length + 1)) * (s.pw * prodP r) := by
      rw [← Nat.mul_assoc]
      refine Nat.mul_le_mul_right _ ?_
      rw [Nat.add_mul]
      have : 3 * (r.length + 1) * 1 ≤ 3 * (r.length + 1) * s.pw := Nat.mul_le_mul_left _ h1
      omega
    exact ⟨by omega, cap_of okr (by omega)⟩
/-! ## what the functions give -/
def oR : Option (List Nat) → Rt
  | none => .d .none
  | some us => .own (Ns us)
def oS : Option (List Nat) → Option SV
  | none => some (.d .none)
  | some us => some (.own (Ns us))
theorem nd_oS (o) : nd (oS o) = true := by cases o <;> rfl
theorem res_run {s : St} {ts : List Nat} : resR (s.mk' ts) = oR (run1 s (some ts)) := by
  show (if 0 < (s.mk' ts).sum then Rt.own (Ns (lw (s.mk' ts))) else Rt.d .none) = oR (if 0 < (s.mk' ts).sum then some (lw (s.mk' ts)) else none)
  split <;> rfl
theorem step_all {k : Nat} {s : St} (h : s.ok) {ts : List Nat} (T : TabF k ts) (hk : k * s.pw ≤ 7900) :
    m_done_by [.d s.d, .d (tab ts)] = some (oR (run1 s (some ts)), []) ∧ m__law_made [.d s.d, .d (tab ts)] = some (oR (run1 s (some ts)), []) ∧ m_filter_done [.d s.d, .d (tab ts)] = some (oR (run1 s (some ts)), []) := by
  have F := St.isF h T hk
  have l9 := T.l9
  have m0 : 0 < ts.length := by
    have := T.pos
    cases ts with
    | nil => simp at this
    | cons x r => simp
  rw [← res_run]
  exact ⟨done_by_ok (by rw [F.len]; exact m0) (by rw [F.len]; omega) F.sm F.mb, F.lm, done_ok (by omega) T.pos F.len F.sm (St.isI h).isf F.mb⟩
theorem loop_go {B : DS} {j : Nat} (S : Option (List Nat) → Option SV → DSt) (hstep : ∀ (s : St) o k v, s.ok → TabO k o → k * s.pw ≤ 7900 → nd v = true → okP (DL.gName j s.d (S o v)) fun s1 => okP (B s1) fun p => ∃ v', p = (.nx, S (run1 s o) v') ∧ nd v' = true) :
    ∀ (ss : List St) (o : Option (List Nat)) (k : Nat) (v : Option SV), (∀ s ∈ ss, s.ok) → TabO k o → cap k ss → nd v = true → ∃ v', nd v' = true ∧ forGo (DL.gName j) B (ss.map St.d) (S o v) = some (.nx, S (runC ss o) v')
  | [], o, k, v, _, _, _, hv => ⟨v, hv, by
    show forGo _ _ [] _ = _
    rw [forGo_nil]
    rfl⟩
  | s :: r, o, k, v, ok, T, hc, hv => by
    obtain ⟨s1, e1, p, e2, v1, rfl, hv1⟩ := hstep s o k v (ok s (by simp)) T hc.1 hv
    obtain ⟨v', hv', e⟩ := loop_go S hstep r (run1 s o) (k * s.pw + 3) v1 (fun x hx => ok x (by simp [hx])) (run1_tab (ok s (by simp)) T hc.1) hc.2 hv1
    refine ⟨v', hv', ?_⟩
    rw [List.map_cons, forGo_cons, e1]
    show obind (B s1) (kForb (DL.gName j) B (r.map St.d)) = _
    rw [e2]
    show forGo (DL.gName j) B (r.map St.d) (S (run1 s o) v1) = _
    rw [e]
    rfl
theorem law_filtered_ok {ss : List St} {ts : List Nat} {k : Nat} (ok : ∀ s ∈ ss, s.ok) (T : TabF k ts) (hc : cap k ss) : m__law_filtered [.d (.list (ss.map St.d)), .d (tab ts)] = some (oR (runC ss (some (lw ts))), []) := by
  have l9 := T.l9
  have hk := cap_le ok hc
  have lo := (lowered_ok (ts := ts) (by omega) T.pos (T.sm.mono (by omega))).2
  obtain ⟨v', hv', e⟩ := loop_go (B := dSet 2 (dIf (dTest (dOp2 opIsNot (dVar 2) (dC .none))) (dCall m__law_made [false, false] [] (dCons (dVar 3) (dCons (dVar 2) (dNil)))) (dC .none))) (j := 3) (fun o v => [some (.d (.list (ss.map St.d))), some (.d (tab ts)), oS o, v]) (fun s o k v h T hk hv => by
    cases o with
    | none =>
      refine okP_of (a := [some (.d (.list (ss.map St.d))), some (.d (tab ts)), some (.d .none), some (.d s.d)]) (by simp [kSetS_nd, hv, oS]) ?_
      refine okP_of (a := (.nx, [some (.d (.list (ss.map St.d))), some (.d (tab ts)), some (.d .none), some (.d s.d)])) (by simp [isV]) ?_
      exact ⟨_, rfl, rfl⟩
    | some us =>
      have a := (step_all h T.1 hk).2.1
      refine okP_of (a := [some (.d (.list (ss.map St.d))), some (.d (tab ts)), some (.own (Ns us)), some (.d s.d)]) (by simp [kSetS_nd, hv, oS]) ?_
      refine okP_of (a := (.nx, [some (.d (.list (ss.map St.d))), some (.d (tab ts)), oS (run1 s (some us)), some (.d s.d)])) ?_ ⟨_, rfl, rfl⟩
      cases hr : run1 s (some us) with
      | none =>
        rw [hr] at a
        simp [isV, a, oR, oS]
      | some vs =>
        rw [hr] at a
        simp [isV, a, oR, oS]) ss (some (lw ts)) k none ok ⟨(lw_tab T.l9 T.pos T.el).1, lw_lw T.pos⟩ hc rfl
  cases hr : runC ss (some (lw ts)) with
  | none =>
    rw [hr] at e
    simp only [oS] at e
    simp [m__law_filtered, g__law_filtered, run_ap, startD, lo, e, oR]
  | some vs =>
    rw [hr] at e
    simp only [oS] at e
    simp [m__law_filtered, g__law_filtered, run_ap, startD, lo, e, oR]
theorem made_go {c t : Option SV} : ∀ (ss : List St) (us : List Nat) (k : Nat) (v : Option SV), (∀ s ∈ ss, s.ok) → TabF k us → lw us = us → cap k ss → nd v = true →
    (∃ s', runC ss (some us) = none ∧ forGo (DL.gName 3) (dSeq (dSet 2 (dCall m_done_by [false, false] [] (dCons (dVar 3) (dCons (dVar 2) (dNil))))) (dIfS (dTest (dOp2 opIs (dVar 2) (dC .none))) (dRet (dC .none)) (dNext))) (ss.map St.d) [c, t, some (.own (Ns us)), v] = some (.rt (.d .none), s')) ∨
    (∃ vs v', runC ss (some us) = some vs ∧ forGo (DL.gName 3) (dSeq (dSet 2 (dCall m_done_by [false, false] [] (dCons (dVar 3) (dCons (dVar 2) (dNil))))) (dIfS (dTest (dOp2 opIs (dVar 2) (dC .none))) (dRet (dC .none)) (dNext))) (ss.map St.d) [c, t, some (.own (Ns us)), v] = some (.nx, [c, t, some (.own (Ns vs)), v']))
  | [], us, k, v, _, _, _, _, _ => .inr ⟨us, v, rfl, by
    show forGo _ _ [] _ = _
    rw [forGo_nil]⟩
  | s :: r, us, k, v, ok, T, hl, hc, hv => by
    have a := (step_all (ok s (by simp)) T hc.1).1
    have T' := run1_tab (o := some us) (ok s (by simp)) ⟨T, hl⟩ hc.1
    rw [List.map_cons, forGo_cons]
    cases hr : run1 s (some us) with
    | none =>
      rw [hr] at a
      simp only [oR] at a
      refine .inl ⟨[c, t, some (.d .none), some (.d s.d)], by rw [runC, hr, runC_none], ?_⟩
      simp [kSetS_nd, hv, a, isV]
    | some ws' =>
      rw [hr] at a T'
      simp only [oR] at a
      rcases made_go (c := c) (t := t) r ws' (k * s.pw + 3) (some (.d s.d)) (fun x hx => ok x (by simp [hx])) T'.1 T'.2 hc.2 rfl with ⟨s', h1, h2⟩ | ⟨vs, v', h1, h2⟩
      · refine .inl ⟨s', by rw [runC, hr, h1], ?_⟩
        simp [kSetS_nd, hv, a, isV, h2]
      · refine .inr ⟨vs, v', by rw [runC, hr, h1], ?_⟩
        simp [kSetS_nd, hv, a, isV, h2]
theorem chain_all {xs : List D} (hl : xs.length ≤ 1000) (h : ∀ x ∈ xs, m_is_filter [.d x] = some (.d (.bool true), [])) : m_is_chain [.d (.list xs)] = some (.d (.bool true), []) := by
  have go := lc_map (g := DL.gName 1) (t := dTests) (e := dCall m_is_filter [false] [] (dCons (dVar 1) (dNil))) (vs := [1]) (fun _ => some (.bool true)) (xs := xs) (st := [some (.d (.list xs)), none]) fun x hx => by
    simp [okP_some, h x hx]
  rw [fm_const] at go
  simp [m_is_chain, g_is_chain, run_ap, startD, isTy, tyName, go, bools_rep, show xs.length ≤ 16777216 by omega, DL.sizeLine_eq]
theorem chain_ok {ss : List St} (ok : ∀ s ∈ ss, s.ok) (hl : ss.length ≤ 1000) : m_is_chain [.d (.list (ss.map St.d))] = some (.d (.bool true), []) :=
  chain_all (by simpa using hl) fun x hx => by
    obtain ⟨s, hs, rfl⟩ := List.mem_map.mp hx
    exact (St.isI (ok s hs)).isf
theorem filtered_ok {ss : List St} {ts : List Nat} {k : Nat} (ok : ∀ s ∈ ss, s.ok) (hl : ss.length ≤ 1000) (T : TabF k ts) (hc : cap k ss) : m_filtered [.d (.list (ss.map St.d)), .d (tab ts)] = some (oR (runC ss (some (lw ts))), []) := by
  have l9 := T.l9
  have hk := cap_le ok hc
  have lo := lowest_ok (ts := ts) (by omega) T.pos (T.sm.mono (by omega))
  have c1 := chain_ok ok hl
  have c2 := (table_ok ts (by omega) T.pos).1
  have tm : m_table_made [.d (.list (ss.map St.d)), .d (tab ts)] = some (oR (runC ss (some (lw ts))), []) := by
    rcases made_go (c := some (.d (.list (ss.map St.d)))) (t := some (.d (tab ts))) ss (lw ts) k none ok (lw_tab T.l9 T.pos T.el).1 (lw_lw T.pos) hc rfl with ⟨s', h1, h2⟩ | ⟨vs, v', h1, h2⟩
    · rw [h1]
      simp [m_table_made, g_table_made, run_ap, startD, lo, h2, oR]
    · rw [h1]
      simp [m_table_made, g_table_made, run_ap, startD, lo, h2, oR]
  have cc : m_check_chain [.d (.list (ss.map St.d))] = some (.d .none, []) := by
    simp [m_check_chain, g_check_chain, run_ap, startD, c1]
  cases hr : runC ss (some (lw ts)) with
  | none =>
    rw [hr] at tm
    simp only [oR] at tm
    simp [m_filtered, g_filtered, run_ap, startD, cc, c2, tm, oR]
  | some vs =>
    rw [hr] at tm
    simp only [oR] at tm
    simp [m_filtered, g_filtered, run_ap, startD, cc, c2, tm, oR]
set_option Elab.async false
theorem str_ne (a b : Str) : opNe (.str a) (.str b) = some (.d (.bool (!(a == b)))) := by simp [opNe, flat, PyData.plain, PyData.depth, PyData.eqv]
theorem prodP_app : ∀ (a : List St) (s : St), prodP (a ++ [s]) = prodP a * s.pw
  | [], s => by
    show s.pw * 1 = 1 * s.pw
    omega
  | x :: r, s => by
    show x.pw * prodP (r ++ [s]) = x.pw * prodP r * s.pw
    rw [prodP_app r s, Nat.mul_assoc]
theorem chain_made {n : Nat} {P : List D} (hn : n ≤ 300000) (hP : Gen n P) {pl steps : Nat} (hpl : pl ≤ 9) (hst : steps ≤ 12) :
    okP (m__law_chain [.m P, .d (.int (pl : Nat)), .d (.int (steps : Nat)), .d (.int 60)]) fun r => ∃ (ss : List St) (P' : List D), r = (.own (ss.map St.d), [P']) ∧ (∀ s ∈ ss, s.ok) ∧ ss.length ≤ 12 ∧ prodP ss ≤ 60 ∧ Gen (n + 1200) P' := by
  have r1 := range_ok (t := steps) (by omega)
  rw [m__law_chain, run_ap, okP_obind, g__law_chain]
  simp only [dSeq_ap, okP_obind]
  refine okP_of (a := (.nx, [some (.lent P), some (.d (.int (pl : Nat))), some (.d (.int (steps : Nat))), some (.d (.int 60)), some (.own []), some (.d (.int 1)), none, none])) (by simp [startD, DL.sizeLine_eq]) ?_
  simp only [kSeq_nx, dSeq_ap, okP_obind]
  refine okP.mono (Q := fun z => ∃ s : DSt, z = (Fl.nx, s) ∧ ∃ (ss : List St) (Pi : List D) (o5 o6 o7 : Option SV), s = [some (.lent Pi), some (.d (.int (pl : Nat))), some (.d (.int (steps : Nat))), some (.d (.int 60)), some (.own (ss.map St.d)), o5, o6, o7] ∧ (∀ s ∈ ss, s.ok) ∧ ss.length ≤ 12 ∧ prodP ss ≤ 60 ∧ Gen (n + 1200) Pi) ?_ ?_
  · simp [okP_some, r1, -iRange1_i]
    refine for_wp (fun i s => ∃ (ss : List St) (Pi : List D) (o6 o7 : Option SV), s = [some (.lent Pi), some (.d (.int (pl : Nat))), some (.d (.int (steps : Nat))), some (.d (.int 60)), some (.own (ss.map St.d)), some (.d (.int (prodP ss : Nat))), o6, o7] ∧ (∀ s ∈ ss, s.ok) ∧ ss.length ≤ i ∧ prodP ss ≤ 60 ∧ Gen (n + 100 * i) Pi ∧ nd o6 = true ∧ nd o7 = true)
      ⟨[], P, none, none, rfl, by simp, by simp, by decide, by simpa using hP, rfl, rfl⟩ ?_ ?_
    · rintro i x s hx ⟨ss, Pi, o6, o7, rfl, ok, hl, hpr, hPi, h6, h7⟩
      have hi : i < steps := by
        have := (List.getElem?_eq_some_iff.mp hx).1
        simpa using this
      obtain ⟨_, hm, s, P2, rfl, hs, hP2⟩ := filter_made (by omega) hPi hpl
      have hm : m__law_filter [.m Pi, .d (.int (pl : Nat))] = some (.d s.d, [P2]) := hm
      have hP3 : Gen (n + 100 * (i + 1)) P2 := by
        rw [show n + 100 * (i + 1) = n + 100 * i + 100 by omega]
        exact hP2
      have hll : (ss.map St.d).length < 16777216 := by simp; omega
      have ps : Sm 100000 (prodP ss) := (sm_of (a := prodP ss) 10 (by omega)).mono (by decide)
      have n1 := mul_1 ps
      have ok2 : ∀ x ∈ ss ++ [s], x.ok := fun x hx => by
        rcases List.mem_append.mp hx with h | h
        · exact ok x h
        · rw [List.mem_singleton.mp h]
          exact hs
      refine okP_of (a := [some (.lent Pi), some (.d (.int (pl : Nat))), some (.d (.int (steps : Nat))), some (.d (.int 60)), some (.own (ss.map St.d)), some (.d (.int (prodP ss : Nat))), some (.d x), o7]) (by simp [kSetS_nd, h6]) ?_
      have fin : ∀ pw : Nat, s.pw = pw → prodP ss * pw ≤ 60 → ∃ (ss' : List St) (Pi : List D) (o6 o7 : Option SV), [some (SV.lent P2), some (.d (.int (pl : Nat))), some (.d (.int (steps : Nat))), some (.d (.int 60)), some (.own (ss.map St.d ++ [s.d])), some (.d (.int ((prodP ss * pw : Nat) : Int))), some (.d x), some (.d s.d)] = [some (.lent Pi), some (.d (.int (pl : Nat))), some (.d (.int (steps : Nat))), some (.d (.int 60)), some (.own (ss'.map St.d)), some (.d (.int (prodP ss' : Nat))), o6, o7] ∧ (∀ s ∈ ss', s.ok) ∧ ss'.length ≤ i + 1 ∧ prodP ss' ≤ 60 ∧ Gen (n + 100 * (i + 1)) Pi ∧ nd o6 = true ∧ nd o7 = true := fun pw e hp => by
        refine ⟨ss ++ [s], P2, some (.d x), some (.d s.d), ?_, ok2, by simp; omega, by rw [prodP_app, e]; exact hp, hP3, rfl, rfl⟩
        rw [prodP_app, e, List.map_append]
        rfl
      have fin1 := fin 1
      rw [Nat.mul_one] at fin1
      cases s with
      | power m =>
        have hm6 := hs.2
        have mm := mul_n ps ((sm_of (a := m) 10 (by omega)).mono (show 10 ≤ 100000 by decide))
        by_cases c : prodP ss * m ≤ 60
        · have c' : ((prodP ss * m : Nat) : Int) ≤ 60 := by omega
          refine okP_of (a := (.nx, _)) ?_ ⟨.inl rfl, fin m rfl c⟩
          simp [kSetS_nd, h7, hm, St.d, str_ne, str_eq, w_pp, mm, c, c', hll, show ss.length < 16777216 by omega, DL.sizeLine_eq, -opMul_ii, -Int.natCast_mul]
        · have c' : ¬ ((prodP ss * m : Nat) : Int) ≤ 60 := by omega
          refine okP_of (a := (.nx, _)) ?_ ⟨.inl rfl, ss, P2, some (.d x), some (.d (St.power m).d), rfl, ok, by omega, hpr, hP3, rfl, rfl⟩
          simp [kSetS_nd, h7, hm, St.d, str_ne, str_eq, w_pp, mm, c, c', -opMul_ii, -Int.natCast_mul]
      | first m =>
        refine okP_of (a := (.nx, _)) ?_ ⟨.inl rfl, fin1 rfl hpr⟩
        simp [kSetS_nd, h7, hm, St.d, str_ne, str_eq, w_fp, n1, hll, show ss.length < 16777216 by omega, DL.sizeLine_eq, -opMul_ii, -Int.natCast_mul]
      | share a b =>
        refine okP_of (a := (.nx, _)) ?_ ⟨.inl rfl, fin1 rfl hpr⟩
        simp [kSetS_nd, h7, hm, St.d, str_ne, str_eq, w_sp, n1, hll, show ss.length < 16777216 by omega, DL.sizeLine_eq, -opMul_ii, -Int.natCast_mul]
      | floor a b =>
        refine okP_of (a := (.nx, _)) ?_ ⟨.inl rfl, fin1 rfl hpr⟩
        simp [kSetS_nd, h7, hm, St.d, str_ne, str_eq, w_lp, n1, hll, show ss.length < 16777216 by omega, DL.sizeLine_eq, -opMul_ii, -Int.natCast_mul]
      | ban a =>
        refine okP_of (a := (.nx, _)) ?_ ⟨.inl rfl, fin1 rfl hpr⟩
        simp [kSetS_nd, h7, hm, St.d, str_ne, str_eq, w_bp, n1, hll, show ss.length < 16777216 by omega, DL.sizeLine_eq, -opMul_ii, -Int.natCast_mul]
      | weigh a b =>
        refine okP_of (a := (.nx, _)) ?_ ⟨.inl rfl, fin1 rfl hpr⟩
        simp [kSetS_nd, h7, hm, St.d, str_ne, str_eq, w_wp, n1, hll, show ss.length < 16777216 by omega, DL.sizeLine_eq, -opMul_ii, -Int.natCast_mul]
    · rintro s ⟨ss, Pi, o6, o7, rfl, ok, hl, hpr, hPi, h6, h7⟩
      rw [List.length_map, List.length_range] at hl hPi
      exact ⟨_, rfl, ss, Pi, ⟨_, o6, o7, rfl⟩, ok, by omega, hpr, hPi.up (by omega)⟩
  · rintro _ ⟨_, rfl, ss, Pi, o5, o6, o7, rfl, ok, hl, hpr, hPi⟩
    simp [okP_some]
    exact ⟨ss, Pi, ⟨rfl, rfl⟩, ok, hl, hpr, hPi⟩
set_option Elab.async false
theorem okS_Ns (n : Nat) (l : List Nat) (h : l.length ≤ 1000) : okS (n + 1) (.list (Ns l)) := ⟨by rw [len_Ns]; exact h, fun y hy => by
  obtain ⟨k, _, rfl⟩ := List.mem_map.mp hy
  cases n <;> trivial⟩
def oD : Option (List Nat) → D
  | none => .none
  | some us => tab us
theorem same_oD {o : Option (List Nat)} (h : ∀ us, o = some us → us.length ≤ 1000) : m__law_same 8 [.d (oD o), .d (oD o)] = some (.d (.bool true), []) := by
  cases o with
  | none => exact same_ok 7 .none trivial
  | some us => exact same_ok 7 (.list (Ns us)) (okS_Ns 6 _ (h us rfl))
theorem cut_from {α : Type} (xs : List α) {p : Nat} (h : p ≤ xs.length) : cutD xs (some (p : Int)) none = xs.drop p := by
  have e : cutAt xs.length 0 (some (p : Int)) = p := by
    show (if (p : Int) < 0 then ((p : Int) + (xs.length : Int)).toNat else min (p : Int).toNat xs.length) = _
    rw [if_neg (by omega)]
    simp
    omega
  show (xs.drop (cutAt xs.length 0 (some (p : Int)))).take (xs.length - cutAt xs.length 0 (some (p : Int))) = _
  rw [e]
  exact List.take_of_length_le (by simp)
theorem rep_both {ss : List St} {ts : List Nat} (ok : ∀ s ∈ ss, s.ok) (hl : ss.length ≤ 12) (l9 : ts.length ≤ 9) (hle : ∀ t ∈ ts, t ≤ 1000000000001) : ∃ z, bRepr [.list [.list (ss.map St.d), tab ts]] = some (.d (.str z)) := by
  have v1 : VL 2 732 (ss.map St.d) := vl_of (n := 2) (k := 60) (w := 12) (fun y hy => by
    obtain ⟨s, hs, rfl⟩ := List.mem_map.mp hy
    exact (St.isI (ok s hs)).vv) (by simpa using hl)
  have t1 : tameAll (Ns ts) = true := tame_Ns fun p hp => by have := hle p hp; omega
  have b1 := bulk_N0 ts
  refine ⟨_, repr_of _ ?_ ?_ ?_⟩
  · rw [tame_lst, tame_cons, tame_cons, tame_nil, tame_lst, tame_lst, v1.t, t1]; rfl
  · have := v1.d
    simp [PyData.depth, PyData.depthAll, depth_N0]
    omega
  · have := v1.b
    simp [PyData.bulk, PyData.bulkAll]
    omega
noncomputable def bodyT : DS := (dSeq (dSet 4 (dCall m__law_chain [true, false, false, false] [] (dCons (dVar 0) (dCons (dVar 1) (dCons (dCall m__law_random [true, false] [] (dCons (dVar 0) (dCons (dOp2 opIx (dList (dCons (dC (.int 3)) (dCons (dC (.int 5)) (dCons (dC (.int 13)) (dNil))))) (dCall m__law_random [true, false] [] (dCons (dVar 0) (dCons (dC (.int 3)) (dNil))))) (dNil)))) (dCons (dC (.int 60)) (dNil))))))) (dSeq (dPar [5, 6] (dCons (dCallB bRepr (dCons (dList (dCons (dVar 4) (dCons (dVar 2) (dNil)))) (dNil))) (dCons (dCall m__law_filtered [false, false] [] (dCons (dVar 4) (dCons (dVar 2) (dNil)))) (dNil)))) (dSeq (dSet 7 (dCall m_filtered [false, false] [] (dCons (dVar 4) (dCons (dVar 2) (dNil))))) (dSeq (dIfS (dOr (dNot (dTest (dBorrow (dCall (m__law_same 8) [false, false] [] (dCons (dVar 7) (dCons (dVar 6) (dNil))))))) (dOr (dTest (dOp2 opIsNot (dCall m_is_chain [false] [] (dCons (dVar 4) (dNil))) (dC (.bool true)))) (dTest (dOp2 opNe (dCallB bRepr (dCons (dList (dCons (dVar 4) (dCons (dVar 2) (dNil)))) (dNil))) (dVar 5))))) (dRet (dC (.bool false))) (dNext)) (dSeq (dSet 8 (dCall m__law_lowest [false] [] (dCons (dVar 2) (dNil)))) (dSeq (dFor (dIter DL.iSeq (dVar 4)) (DL.gName 9) (dSet 8 (dIf (dTest (dOp2 opIsNot (dVar 8) (dC .none))) (dCall m_filter_done [false, false] [] (dCons (dVar 9) (dCons (dVar 8) (dNil)))) (dC .none)))) (dSeq (dIfS (dNot (dTest (dBorrow (dCall (m__law_same 8) [false, false] [] (dCons (dVar 8) (dCons (dVar 6) (dNil))))))) (dRet (dC (.bool false))) (dNext)) (dSeq (dSet 10 (dCall m__law_random [true, false] [] (dCons (dVar 0) (dCons (dOp2 opAdd (dCallB bLen (dCons (dVar 4) (dNil))) (dC (.int 1))) (dNil))))) (dSeq (dSet 11 (dCall m_filtered [false, false] [] (dCons (dSlice opSlice (dVar 4) (dNoPart) (dPart (dVar 10))) (dCons (dVar 2) (dNil))))) (dSeq (dIfS (dNot (dTest (dBorrow (dCall (m__law_same 8) [false, false] [] (dCons (dIf (dTest (dOp2 opIsNot (dVar 11) (dC .none))) (dCall m_filtered [false, false] [] (dCons (dSlice opSlice (dVar 4) (dPart (dVar 10)) (dNoPart)) (dCons (dVar 11) (dNil)))) (dC .none)) (dCons (dVar 6) (dNil))))))) (dRet (dC (.bool false))) (dNext)) (dSeq (dIfS (dTest (dOp2 opIsNot (dVar 7) (dC .none))) (dAppend 7 (dC (.str (Str.ofString "spoilt")))) (dNext)) (dIfS (dNot (dTest (dBorrow (dCall (m__law_same 8) [false, false] [] (dCons (dCallK m_filtered 0 2 [1, 0] [] dNil (dCons (dVar 2) (dCons (dVar 4) (dNil)))) (dCons (dVar 6) (dNil))))))) (dRet (dC (.bool false))) (dNext)))))))))))))
theorem turn_ok {n : Nat} {P : List D} (hn : n ≤ 200000) (hP : Gen n P) {ts : List Nat} (T : TabF 41 ts) (hle : ∀ t ∈ ts, t ≤ 1000000000001) {pl : Nat} (hpl : pl ≤ 9) {o2 o4 o5 o6 o7 o8 o9 o10 o11 : Option SV} {t3 : D} (h2 : o2 = some (.own (Ns ts)) ∨ o2 = some (.d (tab ts))) (h4 : nd o4 = true) (h5 : nd o5 = true) (h6 : nd o6 = true) (h7 : nd o7 = true) (h8 : nd o8 = true) (h9 : nd o9 = true) (h10 : nd o10 = true) (h11 : nd o11 = true) :
    okP (bodyT [some (.lent P), some (.d (.int (pl : Nat))), o2, some (.d t3), o4, o5, o6, o7, o8, o9, o10, o11]) fun z => ∃ P' o4 o5 o6 o7 o8 o9 o10 o11, z = (Fl.nx, [some (.lent P'), some (.d (.int (pl : Nat))), some (.d (tab ts)), some (.d t3), o4, o5, o6, o7, o8, o9, o10, o11]) ∧ nd o4 = true ∧ nd o5 = true ∧ nd o6 = true ∧ nd o7 = true ∧ nd o8 = true ∧ nd o9 = true ∧ nd o10 = true ∧ nd o11 = true ∧ Gen (n + 1300) P' := by
  have l9 := T.l9
  obtain ⟨r, P1, hr, hP1, e1⟩ := random_ok (by omega) hP 3 (by decide) (sm_of 100 (by decide))
  have e1 : m__law_random [.m P, .d (.int 3)] = some (.d (.int (r : Nat)), [P1]) := e1
  obtain ⟨m, hm0, hm13, em⟩ : ∃ m : Nat, 0 < m ∧ m ≤ 13 ∧ opIx (.list [.int 3, .int 5, .int 13]) (.int (r : Nat)) = some (.d (.int (m : Nat))) := by
    obtain rfl | rfl | rfl : r = 0 ∨ r = 1 ∨ r = 2 := by omega
    · exact ⟨3, by decide, by decide, by simp⟩
    · exact ⟨5, by decide, by decide, by simp⟩
    · exact ⟨13, by decide, by decide, by simp⟩
  obtain ⟨q, P2, hq, hP2, e2⟩ := random_ok (by omega) hP1 m hm0 (sm_of 100 (by omega))
  have e2 : m__law_random [.m P1, .d (.int (m : Nat))] = some (.d (.int (q : Nat)), [P2]) := e2
  obtain ⟨_, e3, ss, P3, rfl, ok, hl, hpr, hP3⟩ := chain_made (steps := q) (by omega) hP2 hpl (by omega)
  have hc : cap 41 ss := cap_of ok (by
    have := Nat.mul_le_mul (show 41 + 3 * ss.length ≤ 77 by omega) hpr
    omega)
  obtain ⟨z, ez⟩ := rep_both ok hl l9 hle
  have nz := opNe_same z
  have lf := law_filtered_ok ok T hc
  have f0 := filtered_ok ok (by omega) T hc
  have ic := chain_ok ok (by omega)
  have ll := (lowered_ok (ts := ts) (by omega) T.pos (T.sm.mono (by decide))).2
  have T0 : TabO 41 (some (lw ts)) := ⟨(lw_tab T.l9 T.pos T.el).1, lw_lw T.pos⟩
  have lnL : (ss.map St.d).length = ss.length := by simp
  obtain ⟨at', P4, hat, hP4, e4⟩ := random_ok (by omega) hP3 (ss.length + 1) (by omega) (sm_of 100 (by omega))
  have e4 : m__law_random [.m P3, .d (.int ((ss.length : Nat) + 1))] = some (.d (.int (at' : Nat)), [P4]) := e4
  have hsp : ss.take at' ++ ss.drop at' = ss := List.take_append_drop _ _
  have okt : ∀ s ∈ ss.take at', s.ok := fun s h => ok s (List.mem_of_mem_take h)
  have okd : ∀ s ∈ ss.drop at', s.ok := fun s h => ok s (List.mem_of_mem_drop h)
  obtain ⟨k', Th, ch⟩ := cap_split (ss.take at') (ss.drop at') 41 (some (lw ts)) okt (by rw [hsp]; exact hc) T0
  have ct : cap 41 (ss.take at') := cap_take (ss.take at') (ss.drop at') 41 (by rw [hsp]; exact ok) (by rw [hsp]; exact hc)
  have f1 := filtered_ok okt (by rw [List.length_take]; omega) T ct
  have eR : runC ss (some (lw ts)) = runC (ss.drop at') (runC (ss.take at') (some (lw ts))) := by rw [← runC_app, hsp]
  have c1 : cutD (ss.map St.d) none (some (at' : Int)) = (ss.take at').map St.d := by rw [cut_to _ (by rw [lnL]; omega), List.map_take]
  have c2 : cutD (ss.map St.d) (some (at' : Int)) none = (ss.drop at').map St.d := by rw [cut_from _ (by rw [lnL]; omega), List.map_drop]
  -- the sizes of what is told
  have sz : ∀ us, runC ss (some (lw ts)) = some us → us.length ≤ 9 := fun us e => by
    obtain ⟨k2, T2, _⟩ := cap_split ss [] 41 (some (lw ts)) ok (by rw [List.append_nil]; exact hc) T0
    rw [e] at T2
    exact T2.1.l9
  have sm := same_oD (o := runC ss (some (lw ts))) (fun us e => by have := sz us e; omega)
  -- the half
  have f2 : ∀ hs, runC (ss.take at') (some (lw ts)) = some hs → m_filtered [.d (.list ((ss.drop at').map St.d)), .d (tab hs)] = some (oR (runC ss (some (lw ts))), []) := fun hs e => by
    rw [e] at Th eR
    have := filtered_ok okd (by rw [List.length_drop]; omega) Th.1 ch
    rw [Th.2] at this
    rw [eR]
    exact this
  have f3 : runC (ss.take at') (some (lw ts)) = none → runC ss (some (lw ts)) = none := fun e => by rw [eR, e, runC_none]
  obtain ⟨v9, hv9, lo⟩ := loop_go (B := dSet 8 (dIf (dTest (dOp2 opIsNot (dVar 8) (dC .none))) (dCall m_filter_done [false, false] [] (dCons (dVar 9) (dCons (dVar 8) (dNil)))) (dC .none))) (j := 9) (fun o v => [some (.lent P3), some (.d (.int (pl : Nat))), some (.d (tab ts)), some (.d t3), some (.d (.list (ss.map St.d))), some (.d (.str z)), some (.d (oD (runC ss (some (lw ts))))), oS (runC ss (some (lw ts))), oS o, v, o10, o11]) (fun s o k v h T hk hv => by
    cases o with
    | none =>
      refine okP_of (a := [some (.lent P3), some (.d (.int (pl : Nat))), some (.d (tab ts)), some (.d t3), some (.d (.list (ss.map St.d))), some (.d (.str z)), some (.d (oD (runC ss (some (lw ts))))), oS (runC ss (some (lw ts))), some (.d .none), some (.d s.d), o10, o11]) (by simp [kSetS_nd, hv, oS]) ?_
      refine okP_of (a := (.nx, [some (.lent P3), some (.d (.int (pl : Nat))), some (.d (tab ts)), some (.d t3), some (.d (.list (ss.map St.d))), some (.d (.str z)), some (.d (oD (runC ss (some (lw ts))))), oS (runC ss (some (lw ts))), some (.d .none), some (.d s.d), o10, o11])) (by simp [isV]) ?_
      exact ⟨_, rfl, rfl⟩
    | some us =>
      have a := (step_all h T.1 hk).2.2
      refine okP_of (a := [some (.lent P3), some (.d (.int (pl : Nat))), some (.d (tab ts)), some (.d t3), some (.d (.list (ss.map St.d))), some (.d (.str z)), some (.d (oD (runC ss (some (lw ts))))), oS (runC ss (some (lw ts))), some (.own (Ns us)), some (.d s.d), o10, o11]) (by simp [kSetS_nd, hv, oS]) ?_
      refine okP_of (a := (.nx, [some (.lent P3), some (.d (.int (pl : Nat))), some (.d (tab ts)), some (.d t3), some (.d (.list (ss.map St.d))), some (.d (.str z)), some (.d (oD (runC ss (some (lw ts))))), oS (runC ss (some (lw ts))), oS (run1 s (some us)), some (.d s.d), o10, o11])) ?_ ⟨_, rfl, rfl⟩
      cases hr : run1 s (some us) with
      | none =>
        rw [hr] at a
        simp [isV, a, oR, oS]
      | some vs =>
        rw [hr] at a
        simp [isV, a, oR, oS]) ss (some (lw ts)) 41 o9 ok T0 hc h9
  have hP5 : Gen (n + 1300) P4 := hP4.up (by omega)
  have goal : ∀ (s1 : DSt), okP (bodyT [some (.lent P), some (.d (.int (pl : Nat))), o2, some (.d t3), o4, o5, o6, o7, o8, o9, o10, o11]) fun z' => ∃ o7', z' = (Fl.nx, [some (.lent P4), some (.d (.int (pl : Nat))), some (.d (tab ts)), some (.d t3), some (.d (.list (ss.map St.d))), some (.d (.str z)), some (.d (oD (runC ss (some (lw ts))))), o7', oS (runC ss (some (lw ts))), v9, some (.d (.int (at' : Nat))), oS (runC (ss.take at') (some (lw ts)))]) ∧ nd o7' = true := fun _ => by
    rw [bodyT]
    simp only [dSeq_ap, okP_obind]
    refine okP_of (a := (.nx, [some (.lent P3), some (.d (.int (pl : Nat))), o2, some (.d t3), some (.own (ss.map St.d)), o5, o6, o7, o8, o9, o10, o11])) (by simp [kSetS_nd, h4, DL.sizeLine_eq, e1, em, e2, e3, -opIx_li]) ?_
    simp only [kSeq_nx, dSeq_ap, okP_obind]
    refine okP_of (a := (.nx, [some (.lent P3), some (.d (.int (pl : Nat))), some (.d (tab ts)), some (.d t3), some (.d (.list (ss.map St.d))), some (.d (.str z)), some (.d (oD (runC ss (some (lw ts))))), o7, o8, o9, o10, o11])) ?_ ?_
    · cases hr : runC ss (some (lw ts)) with
      | none =>
        rw [hr] at lf
        rcases h2 with rfl | rfl <;> simp [kSetS_nd, h5, h6, DL.sizeLine_eq, ez, lf, oR, oD]
      | some us =>
        rw [hr] at lf
        rcases h2 with rfl | rfl <;> simp [kSetS_nd, h5, h6, DL.sizeLine_eq, ez, lf, oR, oD]
    simp only [kSeq_nx, dSeq_ap, okP_obind]
    refine okP_of (a := (.nx, [some (.lent P3), some (.d (.int (pl : Nat))), some (.d (tab ts)), some (.d t3), some (.d (.list (ss.map St.d))), some (.d (.str z)), some (.d (oD (runC ss (some (lw ts))))), oS (runC ss (some (lw ts))), o8, o9, o10, o11])) ?_ ?_
    · cases hr : runC ss (some (lw ts)) with
      | none =>
        rw [hr] at f0
        simp [kSetS_nd, h7, f0, oR, oS]
      | some us =>
        rw [hr] at f0
        simp [kSetS_nd, h7, f0, oR, oS]
    simp only [kSeq_nx, dSeq_ap, okP_obind]
    refine okP_of (a := (.nx, [some (.lent P3), some (.d (.int (pl : Nat))), some (.d (tab ts)), some (.d t3), some (.d (.list (ss.map St.d))), some (.d (.str z)), some (.d (oD (runC ss (some (lw ts))))), oS (runC ss (some (lw ts))), o8, o9, o10, o11])) ?_ ?_
    · cases hr : runC ss (some (lw ts)) with
      | none =>
        rw [hr] at sm
        simp only [oD] at sm
        simp [oS, oD, sm, ic, isV, ez, nz, DL.sizeLine_eq]
      | some us =>
        rw [hr] at sm
        simp only [oD] at sm
        simp [oS, oD, sm, ic, isV, ez, nz, DL.sizeLine_eq]
    simp only [kSeq_nx, dSeq_ap, okP_obind]
    refine okP_of (a := (.nx, [some (.lent P3), some (.d (.int (pl : Nat))), some (.d (tab ts)), some (.d t3), some (.d (.list (ss.map St.d))), some (.d (.str z)), some (.d (oD (runC ss (some (lw ts))))), oS (runC ss (some (lw ts))), some (.own (Ns (lw ts))), o9, o10, o11])) (by simp [kSetS_nd, h8, ll]) ?_
    simp only [kSeq_nx, dSeq_ap, okP_obind]
    refine okP_of (a := (.nx, [some (.lent P3), some (.d (.int (pl : Nat))), some (.d (tab ts)), some (.d t3), some (.d (.list (ss.map St.d))), some (.d (.str z)), some (.d (oD (runC ss (some (lw ts))))), oS (runC ss (some (lw ts))), oS (runC ss (some (lw ts))), v9, o10, o11])) ?_ ?_
    · simp
      exact lo
    simp only [kSeq_nx, dSeq_ap, okP_obind]
    refine okP_of (a := (.nx, [some (.lent P3), some (.d (.int (pl : Nat))), some (.d (tab ts)), some (.d t3), some (.d (.list (ss.map St.d))), some (.d (.str z)), some (.d (oD (runC ss (some (lw ts))))), oS (runC ss (some (lw ts))), oS (runC ss (some (lw ts))), v9, o10, o11])) ?_ ?_
    · cases hr : runC ss (some (lw ts)) with
      | none =>
        rw [hr] at sm
        simp only [oD] at sm
        simp [oS, oD, sm]
      | some us =>
        rw [hr] at sm
        simp only [oD] at sm
        simp [oS, oD, sm]
    simp only [kSeq_nx, dSeq_ap, okP_obind]
    refine okP_of (a := (.nx, [some (.lent P4), some (.d (.int (pl : Nat))), some (.d (tab ts)), some (.d t3), some (.d (.list (ss.map St.d))), some (.d (.str z)), some (.d (oD (runC ss (some (lw ts))))), oS (runC ss (some (lw ts))), oS (runC ss (some (lw ts))), v9, some (.d (.int (at' : Nat))), o11])) (by simp [kSetS_nd, h10, e4, lnL]) ?_
    simp only [kSeq_nx, dSeq_ap, okP_obind]
    refine okP_of (a := (.nx, [some (.lent P4), some (.d (.int (pl : Nat))), some (.d (tab ts)), some (.d t3), some (.d (.list (ss.map St.d))), some (.d (.str z)), some (.d (oD (runC ss (some (lw ts))))), oS (runC ss (some (lw ts))), oS (runC ss (some (lw ts))), v9, some (.d (.int (at' : Nat))), oS (runC (ss.take at') (some (lw ts)))])) ?_ ?_
    · cases hh : runC (ss.take at') (some (lw ts)) with
      | none =>
        rw [hh] at f1
        simp [kSetS_nd, h11, c1, f1, oR, oS, -List.map_take]
      | some us =>
        rw [hh] at f1
        simp [kSetS_nd, h11, c1, f1, oR, oS, -List.map_take]
    simp only [kSeq_nx, dSeq_ap, okP_obind]
    refine okP_of (a := (.nx, [some (.lent P4), some (.d (.int (pl : Nat))), some (.d (tab ts)), some (.d t3), some (.d (.list (ss.map St.d))), some (.d (.str z)), some (.d (oD (runC ss (some (lw ts))))), oS (runC ss (some (lw ts))), oS (runC ss (some (lw ts))), v9, some (.d (.int (at' : Nat))), oS (runC (ss.take at') (some (lw ts)))])) ?_ ?_
    · cases hh : runC (ss.take at') (some (lw ts)) with
      | none =>
        have hr := f3 hh
        rw [hr] at sm
        rw [hr]
        simp only [oD] at sm
        simp [oS, oD, sm, isV]
      | some hs =>
        have f2 := f2 hs hh
        cases hr : runC ss (some (lw ts)) with
        | none =>
          rw [hr] at sm f2
          simp only [oD] at sm
          simp [oS, oD, oR, sm, isV, c2, f2, -List.map_drop]
        | some us =>
          rw [hr] at sm f2
          simp only [oD] at sm
          simp [oS, oD, oR, sm, isV, c2, f2, -List.map_drop]
    simp only [kSeq_nx, dSeq_ap, okP_obind]
    cases hr : runC ss (some (lw ts)) with
    | none =>
      rw [hr] at sm f0
      simp only [oD] at sm
      refine okP_of (a := (.nx, [some (.lent P4), some (.d (.int (pl : Nat))), some (.d (tab ts)), some (.d t3), some (.d (.list (ss.map St.d))), some (.d (.str z)), some (.d .none), some (.d .none), some (.d .none), v9, some (.d (.int (at' : Nat))), oS (runC (ss.take at') (some (lw ts)))])) (by simp [oS, oD, isV]) ?_
      simp only [kSeq_nx, okP_obind]
      cases hh : runC (ss.take at') (some (lw ts)) with
      | none => exact okP_of (a := (.nx, [some (.lent P4), some (.d (.int (pl : Nat))), some (.d (tab ts)), some (.d t3), some (.d (.list (ss.map St.d))), some (.d (.str z)), some (.d .none), some (.d .none), some (.d .none), v9, some (.d (.int (at' : Nat))), some (.d .none)])) (by simp [oS, oD, oR, f0, sm]) ⟨_, rfl, rfl⟩
      | some hs => exact okP_of (a := (.nx, [some (.lent P4), some (.d (.int (pl : Nat))), some (.d (tab ts)), some (.d t3), some (.d (.list (ss.map St.d))), some (.d (.str z)), some (.d .none), some (.d .none), some (.d .none), v9, some (.d (.int (at' : Nat))), some (.own (Ns hs))])) (by simp [oS, oD, oR, f0, sm]) ⟨_, rfl, rfl⟩
    | some us =>
      rw [hr] at sm f0
      simp only [oD] at sm
      have l1 : (Ns us).length < 16777216 := by rw [len_Ns]; have := sz us hr; omega
      refine okP_of (a := (.nx, [some (.lent P4), some (.d (.int (pl : Nat))), some (.d (tab ts)), some (.d t3), some (.d (.list (ss.map St.d))), some (.d (.str z)), some (.d (tab us)), some (.own (Ns us ++ [.str (Str.ofString "spoilt")])), some (.own (Ns us)), v9, some (.d (.int (at' : Nat))), oS (runC (ss.take at') (some (lw ts)))])) (by simp [oS, oD, isV, l1, DL.sizeLine_eq]) ?_
      simp only [kSeq_nx, okP_obind]
      cases hh : runC (ss.take at') (some (lw ts)) with
      | none => exact okP_of (a := (.nx, [some (.lent P4), some (.d (.int (pl : Nat))), some (.d (tab ts)), some (.d t3), some (.d (.list (ss.map St.d))), some (.d (.str z)), some (.d (tab us)), some (.own (Ns us ++ [.str (Str.ofString "spoilt")])), some (.own (Ns us)), v9, some (.d (.int (at' : Nat))), some (.d .none)])) (by simp [oS, oD, oR, f0, sm]) ⟨_, rfl, rfl⟩
      | some hs => exact okP_of (a := (.nx, [some (.lent P4), some (.d (.int (pl : Nat))), some (.d (tab ts)), some (.d t3), some (.d (.list (ss.map St.d))), some (.d (.str z)), some (.d (tab us)), some (.own (Ns us ++ [.str (Str.ofString "spoilt")])), some (.own (Ns us)), v9, some (.d (.int (at' : Nat))), some (.own (Ns hs))])) (by simp [oS, oD, oR, f0, sm]) ⟨_, rfl, rfl⟩
  refine (goal []).mono ?_
  rintro _ ⟨o7', rfl, h7'⟩
  exact ⟨P4, _, _, _, _, _, _, _, _, rfl, rfl, rfl, rfl, h7', nd_oS _, hv9, rfl, nd_oS _, hP5⟩
set_option Elab.async false
mutual
theorem tame_plain : ∀ x : D, tame x = true → x.plain = true
  | .none, _ => by simp [PyData.plain]
  | .bool _, _ => by simp [PyData.plain]
  | .int _, _ => by simp [PyData.plain]
  | .str _, _ => by simp [PyData.plain]
  | .list xs, h => by
    rw [tame_lst] at h
    simpa [PyData.plain] using tame_plainAll xs h
  | .tuple xs, h => by
    rw [tame_tup] at h
    simpa [PyData.plain] using tame_plainAll xs h
  | .dict k, h => by simp [tame] at h
theorem tame_plainAll : ∀ xs : List D, tameAll xs = true → PyData.plainAll xs = true
  | [], _ => by simp [PyData.plainAll]
  | x :: r, h => by
    simp only [tameAll, Bool.and_eq_true] at h
    simp [PyData.plainAll, tame_plain x h.1, tame_plainAll r h.2]
end
open Classical in
noncomputable def isF (x : D) : Bool := if m_is_filter [.d x] = some (.d (.bool true), []) then true else false
theorem isF_of {x : D} {b : Bool} (h : m_is_filter [.d x] = some (.d (.bool b), [])) : isF x = b := by
  unfold isF
  rw [h]
  cases b <;> simp
/-- a value that is asked about -/
structure OddC (v : D) : Prop where
  rep : ∃ z, bRepr [v] = some (.d (.str z))
  cs : isTy v "list" = false ∨ ∃ xs, v = .list xs ∧ xs.length ≤ 1000 ∧ ∀ x ∈ xs, (∃ b, m_is_filter [.d x] = some (.d (.bool b), [])) ∧ Vv 10 300 x
theorem bools_map (f : D → Bool) : ∀ xs : List D, boolsOf (xs.map fun x => .bool (f x)) = some (xs.map f)
  | [] => rfl
  | x :: r => by
    rw [List.map_cons, boolsOf, bools_map f r]
    rfl
theorem fm_some (f : D → D) : ∀ xs : List D, xs.filterMap (fun x => some (f x)) = xs.map f
  | [] => rfl
  | x :: r => by rw [List.filterMap_cons, fm_some f r]; rfl
theorem fm_not (f : D → Bool) : ∀ xs : List D, xs.filterMap (fun x => if f x = true then none else some x) = xs.filter fun x => !f x
  | [] => rfl
  | x :: r => by
    rw [List.filterMap_cons, List.filter_cons, fm_not f r]
    cases f x <;> simp
theorem all_filter (f : D → Bool) : ∀ xs : List D, (xs.map f).all id = (xs.filter fun x => !f x).isEmpty
  | [] => rfl
  | x :: r => by
    rw [List.map_cons, List.all_cons, all_filter f r, List.filter_cons]
    cases f x <;> simp
theorem eqvAll_nil (ys : List D) : PyData.eqvAll ys [] = ys.isEmpty := by
  cases ys <;> simp [PyData.eqvAll]
theorem odd_both {v : D} (h : OddC v) {o0 o1 o2 o3 o5 o6 o7 : Option SV} : ∃ b, m_is_chain [.d v] = some (.d (.bool b), []) ∧
    (dAndV (dOp1 (bIsi "list") (dVar 4)) (dOp2 opEq (dLc (dIter DL.iSeq (dVar 4)) (DL.gName 8) (dNot (dTest (dCall m_is_filter [false] [] (dCons (dVar 8) (dNil))))) (dVar 8) [8]) (dList (dNil)))) [o0, o1, o2, o3, some (.d v), o5, o6, o7, none] = some (.d (.bool b), [o0, o1, o2, o3, some (.d v), o5, o6, o7, none]) := by
  rcases h.cs with c | ⟨xs, rfl, hl, hx⟩
  · have bi : bIsi "list" v = some (.d (.bool false)) := by
      cases v <;> simp_all [isTy, tyName]
    exact ⟨false, by simp [m_is_chain, g_is_chain, run_ap, startD, bi], by simp [bi]⟩
  · have hF : ∀ x ∈ xs, m_is_filter [.d x] = some (.d (.bool (isF x)), []) := fun x h => by
      obtain ⟨b, e⟩ := (hx x h).1
      rw [isF_of e, e]
    refine ⟨(xs.map isF).all id, ?_, ?_⟩
    · have go := lc_map (g := DL.gName 1) (t := dTests) (e := dCall m_is_filter [false] [] (dCons (dVar 1) (dNil))) (vs := [1]) (fun x => some (.bool (isF x))) (xs := xs) (st := [some (.d (.list xs)), none]) fun x hx => by
        simp [okP_some, hF x hx]
      rw [fm_some] at go
      simp [m_is_chain, g_is_chain, run_ap, startD, isTy, tyName, go, bools_map, show xs.length ≤ 16777216 by omega, DL.sizeLine_eq]
    · have go := lc_map (g := DL.gName 8) (t := dNot (dTest (dCall m_is_filter [false] [] (dCons (dVar 8) (dNil))))) (e := dVar 8) (vs := [8]) (fun x => if isF x = true then none else some x) (xs := xs) (st := [o0, o1, o2, o3, some (.d (.list xs)), o5, o6, o7, none]) fun x hx => by
        cases e : isF x <;> simp [okP_some, hF x hx, e]
      rw [fm_not] at go
      have pl : PyData.plainAll (xs.filter fun x => !isF x) = true ∧ PyData.depthAll (xs.filter fun x => !isF x) ≤ 10 := by
        obtain ⟨a, b, _⟩ := vv_all (n := 10) (k := 300) (xs.filter fun x => !isF x) fun y hy => (hx y ((List.mem_filter.mp hy).1)).2
        exact ⟨tame_plainAll _ a, b⟩
      have f1 : flat (.list (xs.filter fun x => !isF x)) = true := by
        have := pl.2
        simp [flat, PyData.plain, PyData.depth, pl.1]
        omega
      have q : opEq (.list (xs.filter fun x => !isF x)) (.list []) = some (.d (.bool ((xs.map isF).all id))) := by
        have f2 : flat (.list []) = true := rfl
        rw [all_filter]
        simp [opEq, f1, f2, PyData.eqv, eqvAll_nil]
      simp [isTy, tyName, show xs.length ≤ 16777216 by omega, DL.sizeLine_eq]
      rw [go]
      simp [q, DL.sizeLine_eq]
theorem odd_list (w k : Nat) (hw : w * (k + 1) ≤ 1000) (hk : k ≤ 300) (h12 : w ≤ 12) {xs : List D} (hl : xs.length ≤ w) (h : ∀ x ∈ xs, (∃ b, m_is_filter [.d x] = some (.d (.bool b), [])) ∧ Vv 10 k x) : OddC (.list xs) := by
  obtain ⟨a, b, c⟩ := vv_list (n := 10) (k := k) (w := w) (fun y hy => (h y hy).2) hl
  exact ⟨⟨_, repr_of _ a (by omega) (by omega)⟩, .inr ⟨xs, rfl, by omega, fun x hx => ⟨(h x hx).1, (h x hx).2.mono (by decide) hk⟩⟩⟩
theorem nf_list (ys : List D) : m_is_filter [.d (.list ys)] = some (.d (.bool false), []) := by
  simp [m_is_filter, g_is_filter, run_ap, startD, isTy, tyName]
theorem nf_none : m_is_filter [.d .none] = some (.d (.bool false), []) := by
  simp [m_is_filter, g_is_filter, run_ap, startD, isTy, tyName]
theorem nf_tup0 : m_is_filter [.d (.tuple [])] = some (.d (.bool false), []) := by
  simp [m_is_filter, g_is_filter, run_ap, startD, isTy, tyName]
theorem nf_pow0 : m_is_filter [.d (.tuple [.str (Str.ofString "power"), .int 0])] = some (.d (.bool false), []) := by
  simp [m_is_filter, g_is_filter, run_ap, startD, isTy, tyName, str_eq, in_two, w_pp, w_pw, whole_ok, cnt, DL.sizeLine_eq]
theorem nf_list' (ys : List D) (h : Vv 9 60 (.list ys)) : (∃ b, m_is_filter [.d (.list ys)] = some (.d (.bool b), [])) ∧ Vv 10 60 (.list ys) := ⟨⟨_, nf_list ys⟩, h.mono (by decide) (by decide)⟩
theorem odd_no {v : D} (h : isTy v "list" = false) (t : tame v = true) (d : v.depth ≤ 40) (b : v.bulk ≤ 1000) : OddC v := ⟨⟨_, repr_of v t d b⟩, .inl h⟩
def vals (a b c : D) (bs : List D) : List D := [.none, .tuple [], .list [], .tuple [a, b, c], .list [a, b, c], .list [a, b, c, .none], .list [.none], .list [.tuple [.str (Str.ofString "power"), .int 0]], .list [.list [a, b, c]], .dict [], .str (Str.ofString "power"), .int 0, .list [.tuple []], .list [a, .list bs], .list [a, a], .list [a, b, c, a, b, c, a, b, c, a, b, c]]
theorem vals_odd {a b c : D} {bs : List D} (ha : StepI a) (hb : StepI b) (hc : StepI c) (hbs : b = .tuple bs) : ∀ x ∈ vals a b c bs, OddC x := by
  have A : (∃ q, m_is_filter [.d a] = some (.d (.bool q), [])) ∧ Vv 10 60 a := ⟨⟨_, ha.isf⟩, ha.vv.mono (by decide) (by decide)⟩
  have B : (∃ q, m_is_filter [.d b] = some (.d (.bool q), [])) ∧ Vv 10 60 b := ⟨⟨_, hb.isf⟩, hb.vv.mono (by decide) (by decide)⟩
  have C : (∃ q, m_is_filter [.d c] = some (.d (.bool q), [])) ∧ Vv 10 60 c := ⟨⟨_, hc.isf⟩, hc.vv.mono (by decide) (by decide)⟩
  have Nn : (∃ q, m_is_filter [.d .none] = some (.d (.bool q), [])) ∧ Vv 10 60 .none := ⟨⟨_, nf_none⟩, vv_none.mono (by decide) (by decide)⟩
  have P0 : (∃ q, m_is_filter [.d (.tuple [.str (Str.ofString "power"), .int 0])] = some (.d (.bool q), [])) ∧ Vv 10 60 (.tuple [.str (Str.ofString "power"), .int 0]) := ⟨⟨_, nf_pow0⟩, by decide +kernel, by decide +kernel, by decide +kernel⟩
  have T0 : (∃ q, m_is_filter [.d (.tuple [])] = some (.d (.bool q), [])) ∧ Vv 10 60 (.tuple []) := ⟨⟨_, nf_tup0⟩, by decide +kernel, by decide +kernel, by decide +kernel⟩
  have abc : Vv 10 183 (.list [a, b, c]) := (vv_list (n := 2) (k := 60) (w := 3) (fun y hy => by
    simp only [List.mem_cons, List.not_mem_nil, or_false] at hy
    rcases hy with rfl | rfl | rfl
    · exact ha.vv
    · exact hb.vv
    · exact hc.vv) (by simp)).mono (by decide) (by decide)
  have LB : Vv 10 60 (.list bs) := by
    have h := hb.vv
    rw [hbs] at h
    obtain ⟨t, d, k⟩ := h
    rw [tame_tup] at t
    simp only [PyData.depth] at d
    simp only [PyData.bulk] at k
    exact ⟨by rw [tame_lst]; exact t, by simp only [PyData.depth]; omega, by simp only [PyData.bulk]; omega⟩
  have L1 : (∃ q, m_is_filter [.d (.list [a, b, c])] = some (.d (.bool q), [])) ∧ Vv 10 183 (.list [a, b, c]) := ⟨⟨_, nf_list _⟩, abc⟩
  have L2 : (∃ q, m_is_filter [.d (.list bs)] = some (.d (.bool q), [])) ∧ Vv 10 60 (.list bs) := ⟨⟨_, nf_list _⟩, LB⟩
  have tabc : tame (.tuple [a, b, c]) = true ∧ PyData.depth (.tuple [a, b, c]) ≤ 40 ∧ PyData.bulk (.tuple [a, b, c]) ≤ 1000 := by
    obtain ⟨t, d, k⟩ := abc
    rw [tame_lst] at t
    simp only [PyData.depth] at d ⊢
    simp only [PyData.bulk] at k ⊢
    exact ⟨by rw [tame_tup]; exact t, by omega, by omega⟩
  have go : ∀ {xs : List D}, xs.length ≤ 12 → (∀ x ∈ xs, (∃ b, m_is_filter [.d x] = some (.d (.bool b), [])) ∧ Vv 10 60 x) → OddC (.list xs) := fun hl h => odd_list 12 60 (by decide) (by decide) (by decide) hl h
  intro x hx
  simp only [vals, List.mem_cons, List.not_mem_nil, or_false] at hx
  rcases hx with rfl | rfl | rfl | rfl | rfl | rfl | rfl | rfl | rfl | rfl | rfl | rfl | rfl | rfl | rfl | rfl
  · exact odd_no rfl (by decide +kernel) (by decide +kernel) (by decide +kernel)
  · exact odd_no rfl (by decide +kernel) (by decide +kernel) (by decide +kernel)
  · exact go (by simp) (by simp)
  · exact odd_no rfl tabc.1 tabc.2.1 tabc.2.2
  · exact go (by simp) fun y hy => by
      simp only [List.mem_cons, List.not_mem_nil, or_false] at hy
      rcases hy with rfl | rfl | rfl <;> assumption
  · exact go (by simp) fun y hy => by
      simp only [List.mem_cons, List.not_mem_nil, or_false] at hy
      rcases hy with rfl | rfl | rfl | rfl <;> assumption
  · exact go (by simp) fun y hy => by
      simp only [List.mem_cons, List.not_mem_nil, or_false] at hy
      rcases hy with rfl
      assumption
  · exact go (by simp) fun y hy => by
      simp only [List.mem_cons, List.not_mem_nil, or_false] at hy
      rcases hy with rfl
      assumption
  · exact odd_list 1 183 (by decide) (by decide) (by decide) (by simp) fun y hy => by
      simp only [List.mem_cons, List.not_mem_nil, or_false] at hy
      rcases hy with rfl
      assumption
  · exact ⟨⟨_, by simp [bRepr, PyData.hasDict, dictRepr]; rfl⟩, .inl rfl⟩
  · exact odd_no rfl (by decide +kernel) (by decide +kernel) (by decide +kernel)
  · exact odd_no rfl (by decide +kernel) (by decide +kernel) (by decide +kernel)
  · exact go (by simp) fun y hy => by
      simp only [List.mem_cons, List.not_mem_nil, or_false] at hy
      rcases hy with rfl
      assumption
  · exact go (by simp) fun y hy => by
      simp only [List.mem_cons, List.not_mem_nil, or_false] at hy
      rcases hy with rfl | rfl <;> assumption
  · exact go (by simp) fun y hy => by
      simp only [List.mem_cons, List.not_mem_nil, or_false, or_self] at hy
      rcases hy with rfl
      assumption
  · exact go (by simp) fun y hy => by
      simp only [List.mem_cons, List.not_mem_nil, or_false] at hy
      rcases hy with rfl | rfl | rfl | rfl | rfl | rfl | rfl | rfl | rfl | rfl | rfl | rfl <;> assumption
set_option Elab.async false
theorem right_ok {n : Nat} {P : List D} (hn : n ≤ 100000) (hP : Gen n P) : okP (m__law_right [.m P]) fun r => ∃ P', r = (.d (.bool true), [P']) := by
  obtain ⟨p, P1, hp, hP1, h1⟩ := random_ok (by omega) hP 7 (by decide) (sm_of 100 (by decide))
  have h1 : m__law_random [.m P, .d (.int 7)] = some (.d (.int (p : Nat)), [P1]) := h1
  obtain ⟨_, h2, ts, P2, rfl, hl, h0, hle, hP2⟩ := table_made (places := 1 + p) (by omega) hP1 (by omega) (by omega)
  have h2 : m__law_table [.m P1, .d (.int ((1 + p : Nat) : Int))] = some (.own (Ns ts), [P2]) := h2
  have T : TabF 41 ts := ⟨by omega, h0, fun t ht => (sm_of (a := 1000000000001) 41 (by decide)).le (hle t ht)⟩
  have r6 : iRange1 [.int 6] = some ((List.range 6).map fun i => .int (i : Nat)) := range_ok (t := 6) (by decide)
  rw [m__law_right, run_ap, okP_obind, g__law_right]
  simp only [dSeq_ap, okP_obind]
  refine okP_of (a := (.nx, [some (.lent P1), some (.d (.int ((1 + p : Nat) : Int))), none, none, none, none, none, none, none, none, none, none])) (by simp [startD, h1]) ?_
  simp only [kSeq_nx, dSeq_ap, okP_obind]
  refine okP_of (a := (.nx, [some (.lent P2), some (.d (.int ((1 + p : Nat) : Int))), some (.own (Ns ts)), none, none, none, none, none, none, none, none, none])) (by simp [-Int.natCast_add, h2]) ?_
  simp only [kSeq_nx, dSeq_ap, okP_obind]
  refine okP.mono (Q := fun z => ∃ s : DSt, z = (Fl.nx, s) ∧ ∃ P' s', s = some (.lent P') :: s') ?_ ?_
  · simp [okP_some, r6, -iRange1_i, -Int.natCast_add]
    refine for_wp (fun i s => ∃ P' o2 o3 o4 o5 o6 o7 o8 o9 o10 o11, s = [some (.lent P'), some (.d (.int ((1 + p : Nat) : Int))), o2, o3, o4, o5, o6, o7, o8, o9, o10, o11] ∧ (o2 = some (.own (Ns ts)) ∨ o2 = some (.d (tab ts))) ∧ nd o3 = true ∧ nd o4 = true ∧ nd o5 = true ∧ nd o6 = true ∧ nd o7 = true ∧ nd o8 = true ∧ nd o9 = true ∧ nd o10 = true ∧ nd o11 = true ∧ Gen (n + 65 + 1300 * i) P')
      ⟨P2, _, none, none, none, none, none, none, none, none, none, rfl, .inl rfl, rfl, rfl, rfl, rfl, rfl, rfl, rfl, rfl, rfl, hP2.up (by omega)⟩ ?_ ?_
    · rintro i x s hx ⟨P', o2, o3, o4, o5, o6, o7, o8, o9, o10, o11, rfl, h2', h3, h4, h5, h6, h7, h8, h9, h10, h11, hP'⟩
      have hi : i < 6 := by
        have := (List.getElem?_eq_some_iff.mp hx).1
        simpa using this
      refine okP_of (a := [some (.lent P'), some (.d (.int ((1 + p : Nat) : Int))), o2, some (.d x), o4, o5, o6, o7, o8, o9, o10, o11]) (by simp [kSetS_nd, h3]) ?_
      refine (turn_ok (n := n + 65 + 1300 * i) (by omega) hP' T hle (pl := 1 + p) (by omega) h2' h4 h5 h6 h7 h8 h9 h10 h11).mono ?_
      rintro _ ⟨P4, o4, o5, o6, o7, o8, o9, o10, o11, rfl, h4, h5, h6, h7, h8, h9, h10, h11, hP4⟩
      refine ⟨.inl rfl, P4, _, _, _, _, _, _, _, _, _, _, rfl, .inr rfl, rfl, h4, h5, h6, h7, h8, h9, h10, h11, ?_⟩
      rw [show n + 65 + 1300 * (i + 1) = n + 65 + 1300 * i + 1300 by omega]
      exact hP4
    · rintro s ⟨P', o2, o3, o4, o5, o6, o7, o8, o9, o10, o11, rfl, _⟩
      exact ⟨_, rfl, P', _, rfl⟩
  · rintro _ ⟨_, rfl, P', s', rfl⟩
    simp [okP_some]
theorem d_tup (s : St) : ∃ bs, s.d = .tuple bs := by
  cases s <;> exact ⟨_, rfl⟩
theorem law_true : ∀ ns : List Int, ns.length ≤ 63 → m_law [.d (.list (ns.map .int))] = some (.d (.bool true), []) := fun ns _ => by
  obtain ⟨P0, hP0, g0⟩ := generator_ok ns 0 (by decide)
  obtain ⟨P1, hP1, g1⟩ := generator_ok ns 1 (by decide)
  obtain ⟨P2, hP2, g2⟩ := generator_ok ns 2 (by decide)
  have g0 : m__law_generator [.d (.list (ns.map .int)), .d (.int 0)] = some (.own P0, []) := g0
  have g1 : m__law_generator [.d (.list (ns.map .int)), .d (.int 1)] = some (.own P1, []) := g1
  have g2 : m__law_generator [.d (.list (ns.map .int)), .d (.int 2)] = some (.own P2, []) := g2
  obtain ⟨_, r0, P4, rfl⟩ := right_ok (by omega) hP0
  obtain ⟨_, r1, P5, rfl⟩ := right_ok (by omega) hP1
  have r3 : iRange1 [.int 3] = some ((List.range 3).map fun i => .int (i : Nat)) := range_ok (t := 3) (by decide)
  -- three steps
  have lc : okP (lcGo (DL.gName 7) dTests (dCall m__law_filter [true, false] [] (dCons (dVar 1) (dCons (dC (.int 4)) (dNil)))) [7] ((List.range 3).map fun i => .int (i : Nat)) [some (.d (.list (ns.map .int))), some (.own P2), none, none, none, none, none, none, none]) fun q => ∃ (ys : List D) (Pi : List D), q = (ys, [some (.d (.list (ns.map .int))), some (.own Pi), none, none, none, none, none, none, none]) ∧ (∀ y ∈ ys, ∃ s : St, y = s.d ∧ s.ok) ∧ ys.length = 3 := by
    refine lc_wp (fun i s => ∃ Pi, s = [some (.d (.list (ns.map .int))), some (.own Pi), none, none, none, none, none, none, none] ∧ Gen (2000 + 100 * i) Pi) (fun _ y => ∃ s : St, y = s.d ∧ s.ok) ⟨P2, rfl, hP2.up (by omega)⟩ ?_ ?_
    · rintro i x s hx ⟨Pi, rfl, hPi⟩
      have hi : i < 3 := by
        have := (List.getElem?_eq_some_iff.mp hx).1
        simpa using this
      obtain ⟨_, hm, s, P', rfl, hs, g⟩ := filter_made (pl := 4) (by omega) hPi (by decide)
      have hm : m__law_filter [.m Pi, .d (.int 4)] = some (.d s.d, [P']) := hm
      simp [okP_some, hm]
      exact ⟨⟨s, rfl, hs⟩, by rw [show 2000 + 100 * (i + 1) = 2000 + 100 * i + 100 by omega]; exact g⟩
    · rintro ys s hl hy ⟨Pi, rfl, hPi⟩
      simp only [List.length_map, List.length_range] at hl
      exact ⟨ys, Pi, rfl, fun y hy' => by
        obtain ⟨i, hi⟩ := List.mem_iff_getElem?.mp hy'
        exact hy i y hi, hl⟩
  obtain ⟨_, elc, ys, Pi, rfl, hys, hyl⟩ := lc
  obtain ⟨a, b, c, rfl⟩ : ∃ a b c, ys = [a, b, c] := by
    match ys, hyl with
    | [a, b, c], _ => exact ⟨a, b, c, rfl⟩
  obtain ⟨sa, rfl, oka⟩ := hys a (by simp)
  obtain ⟨sb, rfl, okb⟩ := hys b (by simp)
  obtain ⟨sc, rfl, okc⟩ := hys c (by simp)
  obtain ⟨bs, hbs⟩ := d_tup sb
  have vo := vals_odd (St.isI oka) (St.isI okb) (St.isI okc) hbs
  refine okP.eq ?_
  rw [m_law, run_ap, okP_obind, g_law]
  simp only [dSeq_ap, okP_obind]
  refine okP_of (a := (.nx, [some (.d (.list (ns.map .int))), some (.own P2), none, none, none, none, none, none, none])) (by simp [startD, g2]) ?_
  simp only [kSeq_nx, dSeq_ap, okP_obind]
  refine okP_of (a := (.nx, [some (.d (.list (ns.map .int))), some (.own Pi), some (.own [sa.d, sb.d, sc.d]), none, none, none, none, none, none])) (by simp [r3, elc, DL.sizeLine_eq, -iRange1_i]) ?_
  simp only [kSeq_nx, dSeq_ap, okP_obind]
  refine okP_of (a := (.nx, [some (.d (.list (ns.map .int))), some (.own Pi), some (.d (.list [sa.d, sb.d, sc.d])), some (.own (vals sa.d sb.d sc.d bs)), none, none, none, none, none])) (by simp [vals, hbs, DL.sizeLine_eq]) ?_
  simp only [kSeq_nx, dSeq_ap, okP_obind]
  generalize hxs : vals sa.d sb.d sc.d bs = xs at vo
  have hl : xs.length ≤ 100 := by rw [← hxs]; simp [vals]
  refine okP.mono (Q := fun z => ∃ s : DSt, z = (Fl.nx, s) ∧ ∃ o1 s', s = some (.d (.list (ns.map .int))) :: o1 :: s') ?_ ?_
  · simp [okP_some]
    refine for_wp (fun _ s => ∃ o1 o2 o3 o4 o5 o6, s = [some (.d (.list (ns.map .int))), o1, o2, o3, o4, o5, o6, none, none] ∧ nd o4 = true ∧ nd o5 = true ∧ nd o6 = true) ⟨_, _, _, none, none, none, rfl, rfl, rfl, rfl⟩ ?_ ?_
    · rintro i x s hx' ⟨o1, o2, o3, o4, o5, o6, rfl, h4, h5, h6⟩
      have O := vo x (List.mem_of_getElem? hx')
      obtain ⟨z, e3⟩ := O.rep
      obtain ⟨b, e1, e2⟩ := odd_both O (o0 := some (.d (.list (ns.map .int)))) (o1 := o1) (o2 := o2) (o3 := o3) (o5 := o5) (o6 := o6) (o7 := none)
      obtain ⟨y, e4⟩ : ∃ y, bRepr [.bool b] = some (.d (.str y)) := ⟨_, repr_of _ rfl (by simp [PyData.depth]) (by simp [PyData.bulk])⟩
      have n1 := opNe_same z
      have n2 := opNe_same y
      refine okP_of (a := [some (.d (.list (ns.map .int))), o1, o2, o3, some (.d x), o5, o6, none, none]) (by simp [kSetS_nd, h4]) ?_
      rw [dSeq_ap, okP_obind]
      refine okP_of (a := (.nx, [some (.d (.list (ns.map .int))), o1, o2, o3, some (.d x), some (.d (.bool b)), some (.d (.str z)), none, none])) ?_ ?_
      · rw [dPar_ap, dCons_ap, e2]
        simp [kSetS_nd, h5, h6, e3]
      · simp only [kSeq_nx]
        refine okP_of (a := (.nx, [some (.d (.list (ns.map .int))), o1, o2, o3, some (.d x), some (.d (.bool b)), some (.d (.str z)), none, none])) (by simp [e1, e3, e4, n1, n2]) ?_
        exact ⟨.inl rfl, _, _, _, _, _, _, rfl, rfl, rfl, rfl⟩
    · rintro s ⟨o1, o2, o3, o4, o5, o6, rfl, _⟩
      exact ⟨_, rfl, o1, _, rfl⟩
  · rintro _ ⟨_, rfl, o1, s', rfl⟩
    simp [okP_some, g0, g1, r0, r1]
end K33
end

section
set_option Elab.async false
set_option linter.all false
set_option maxRecDepth 100000
set_option maxHeartbeats 4000000
namespace K33
open PySem PySem.Spec PyProof.Rows L2 DL
def topS (i : Nat) : Stmt := PySem.Challenge.pw_saidahead_k33_whole_chains.main.body.getD i (.Pass ⟨0, 0, 0, 0⟩)
abbrev s_is_count : Stmt := topS 6
abbrev N_is_count : List Str := ["value", "least"]
theorem sc_is_count : FnScope N_is_count ["value", "least"] (defScope s_is_count) := ⟨rfl, rfl, rfl, by decide +kernel, rfl, by decide +kernel, by decide +kernel⟩
abbrev s_divisor : Stmt := topS 7
abbrev N_divisor : List Str := ["one", "other"]
theorem sc_divisor : FnScope N_divisor ["one", "other"] (defScope s_divisor) := ⟨rfl, rfl, rfl, by decide +kernel, rfl, by decide +kernel, by decide +kernel⟩
abbrev s_is_odds : Stmt := topS 8
abbrev N_is_odds : List Str := ["value"]
theorem sc_is_odds : FnScope N_is_odds ["value"] (defScope s_is_odds) := ⟨rfl, rfl, rfl, by decide +kernel, rfl, by decide +kernel, by decide +kernel⟩
abbrev s_are_counts : Stmt := topS 10
abbrev N_are_counts : List Str := ["value", "one"]
theorem sc_are_counts : FnScope N_are_counts ["value"] (defScope s_are_counts) := ⟨rfl, rfl, rfl, by decide +kernel, rfl, by decide +kernel, by decide +kernel⟩
abbrev s_is_table : Stmt := topS 11
abbrev N_is_table : List Str := ["value"]
theorem sc_is_table : FnScope N_is_table ["value"] (defScope s_is_table) := ⟨rfl, rfl, rfl, by decide +kernel, rfl, by decide +kernel, by decide +kernel⟩
abbrev s_look_at_table : Stmt := topS 12
abbrev N_look_at_table : List Str := ["value"]
theorem sc_look_at_table : FnScope N_look_at_table ["value"] (defScope s_look_at_table) := ⟨rfl, rfl, rfl, by decide +kernel, rfl, by decide +kernel, by decide +kernel⟩
abbrev s_lowered : Stmt := topS 13
abbrev N_lowered : List Str := ["table", "common", "one"]
theorem sc_lowered : FnScope N_lowered ["table"] (defScope s_lowered) := ⟨rfl, rfl, rfl, by decide +kernel, rfl, by decide +kernel, by decide +kernel⟩
abbrev s_lowest : Stmt := topS 14
abbrev N_lowest : List Str := ["table"]
theorem sc_lowest : FnScope N_lowest ["table"] (defScope s_lowest) := ⟨rfl, rfl, rfl, by decide +kernel, rfl, by decide +kernel, by decide +kernel⟩
abbrev s_is_whole : Stmt := topS 16
abbrev N_is_whole : List Str := ["value", "least"]
theorem sc_is_whole : FnScope N_is_whole ["value", "least"] (defScope s_is_whole) := ⟨rfl, rfl, rfl, by decide +kernel, rfl, by decide +kernel, by decide +kernel⟩
abbrev s_check_table : Stmt := topS 17
abbrev N_check_table : List Str := ["table"]
theorem sc_check_table : FnScope N_check_table ["table"] (defScope s_check_table) := ⟨rfl, rfl, rfl, by decide +kernel, rfl, by decide +kernel, by decide +kernel⟩
abbrev s_are_places : Stmt := topS 20
abbrev N_are_places : List Str := ["value", "at", "place"]
theorem sc_are_places : FnScope N_are_places ["value"] (defScope s_are_places) := ⟨rfl, rfl, rfl, by decide +kernel, rfl, by decide +kernel, by decide +kernel⟩
abbrev s_is_filter : Stmt := topS 21
abbrev N_is_filter : List Str := ["value", "word", "given"]
theorem sc_is_filter : FnScope N_is_filter ["value"] (defScope s_is_filter) := ⟨rfl, rfl, rfl, by decide +kernel, rfl, by decide +kernel, by decide +kernel⟩
abbrev s_by_weight : Stmt := topS 22
abbrev N_by_weight : List Str := ["table", "weight", "place", "count"]
theorem sc_by_weight : FnScope N_by_weight ["table"] (defScope s_by_weight) := ⟨rfl, rfl, rfl, by decide +kernel, rfl, by decide +kernel, by decide +kernel⟩
abbrev s_kept_places : Stmt := topS 23
abbrev N_kept_places : List Str := ["table", "places", "place", "count"]
theorem sc_kept_places : FnScope N_kept_places ["table", "places"] (defScope s_kept_places) := ⟨rfl, rfl, rfl, by decide +kernel, rfl, by decide +kernel, by decide +kernel⟩
abbrev s_shared_out : Stmt := topS 24
abbrev N_shared_out : List Str := ["table", "odds", "wanted", "kept", "seen", "place"]
theorem sc_shared_out : FnScope N_shared_out ["table", "odds"] (defScope s_shared_out) := ⟨rfl, rfl, rfl, by decide +kernel, rfl, by decide +kernel, by decide +kernel⟩
abbrev s_raised : Stmt := topS 25
abbrev N_raised : List Str := ["number", "times", "found", "turn"]
theorem sc_raised : FnScope N_raised ["number", "times"] (defScope s_raised) := ⟨rfl, rfl, rfl, by decide +kernel, rfl, by decide +kernel, by decide +kernel⟩
abbrev s_made_by : Stmt := topS 26
abbrev N_made_by : List Str := ["step", "table", "word", "given", "place", "count"]
theorem sc_made_by : FnScope N_made_by ["step", "table"] (defScope s_made_by) := ⟨rfl, rfl, rfl, by decide +kernel, rfl, by decide +kernel, by decide +kernel⟩
abbrev s_done_by : Stmt := topS 27
abbrev N_done_by : List Str := ["step", "table", "made"]
theorem sc_done_by : FnScope N_done_by ["step", "table"] (defScope s_done_by) := ⟨rfl, rfl, rfl, by decide +kernel, rfl, by decide +kernel, by decide +kernel⟩
abbrev s_filter_done : Stmt := topS 28
abbrev N_filter_done : List Str := ["one", "table"]
theorem sc_filter_done : FnScope N_filter_done ["one", "table"] (defScope s_filter_done) := ⟨rfl, rfl, rfl, by decide +kernel, rfl, by decide +kernel, by decide +kernel⟩
abbrev s_is_chain : Stmt := topS 30
abbrev N_is_chain : List Str := ["value", "step"]
theorem sc_is_chain : FnScope N_is_chain ["value"] (defScope s_is_chain) := ⟨rfl, rfl, rfl, by decide +kernel, rfl, by decide +kernel, by decide +kernel⟩
abbrev s_check_chain : Stmt := topS 31
abbrev N_check_chain : List Str := ["chain"]
theorem sc_check_chain : FnScope N_check_chain ["chain"] (defScope s_check_chain) := ⟨rfl, rfl, rfl, by decide +kernel, rfl, by decide +kernel, by decide +kernel⟩
abbrev s_table_made : Stmt := topS 32
abbrev N_table_made : List Str := ["chain", "table", "made", "step"]
theorem sc_table_made : FnScope N_table_made ["chain", "table"] (defScope s_table_made) := ⟨rfl, rfl, rfl, by decide +kernel, rfl, by decide +kernel, by decide +kernel⟩
abbrev s_filtered : Stmt := topS 33
abbrev N_filtered : List Str := ["chain", "table"]
theorem sc_filtered : FnScope N_filtered ["chain", "table"] (defScope s_filtered) := ⟨rfl, rfl, rfl, by decide +kernel, rfl, by decide +kernel, by decide +kernel⟩
abbrev s__law_hash : Stmt := topS 35
abbrev N__law_hash : List Str := ["seed", "index", "mixed"]
theorem sc__law_hash : FnScope N__law_hash ["seed", "index"] (defScope s__law_hash) := ⟨rfl, rfl, rfl, by decide +kernel, rfl, by decide +kernel, by decide +kernel⟩
abbrev s__law_random : Stmt := topS 36
abbrev N__law_random : List Str := ["generator", "bound", "drawn", "turn"]
theorem sc__law_random : FnScope N__law_random ["generator", "bound"] (defScope s__law_random) := ⟨rfl, rfl, rfl, by decide +kernel, rfl, by decide +kernel, by decide +kernel⟩
abbrev s__law_cell : Stmt := topS 37
abbrev N__law_cell : List Str := ["script", "index"]
theorem sc__law_cell : FnScope N__law_cell ["script", "index"] (defScope s__law_cell) := ⟨rfl, rfl, rfl, by decide +kernel, rfl, by decide +kernel, by decide +kernel⟩
abbrev s__law_generator : Stmt := topS 38
abbrev N__law_generator : List Str := ["script", "index", "seed"]
theorem sc__law_generator : FnScope N__law_generator ["script", "index"] (defScope s__law_generator) := ⟨rfl, rfl, rfl, by decide +kernel, rfl, by decide +kernel, by decide +kernel⟩
abbrev s__law_pick : Stmt := topS 39
abbrev N__law_pick : List Str := ["generator", "row"]
theorem sc__law_pick : FnScope N__law_pick ["generator", "row"] (defScope s__law_pick) := ⟨rfl, rfl, rfl, by decide +kernel, rfl, by decide +kernel, by decide +kernel⟩
abbrev s__law_same : Stmt := topS 40
abbrev N__law_same : List Str := ["told", "due", "at"]
theorem sc__law_same : FnScope N__law_same ["told", "due"] (defScope s__law_same) := ⟨rfl, rfl, rfl, by decide +kernel, rfl, by decide +kernel, by decide +kernel⟩
abbrev s__law_common : Stmt := topS 41
abbrev N__law_common : List Str := ["one", "other"]
theorem sc__law_common : FnScope N__law_common ["one", "other"] (defScope s__law_common) := ⟨rfl, rfl, rfl, by decide +kernel, rfl, by decide +kernel, by decide +kernel⟩
abbrev s__law_odds : Stmt := topS 42
abbrev N__law_odds : List Str := ["top", "under", "common"]
theorem sc__law_odds : FnScope N__law_odds ["top", "under"] (defScope s__law_odds) := ⟨rfl, rfl, rfl, by decide +kernel, rfl, by decide +kernel, by decide +kernel⟩
abbrev s__law_raised : Stmt := topS 43
abbrev N__law_raised : List Str := ["number", "times", "found", "turn"]
theorem sc__law_raised : FnScope N__law_raised ["number", "times"] (defScope s__law_raised) := ⟨rfl, rfl, rfl, by decide +kernel, rfl, by decide +kernel, by decide +kernel⟩
abbrev s__law_lowest : Stmt := topS 44
abbrev N__law_lowest : List Str := ["table", "common", "count"]
theorem sc__law_lowest : FnScope N__law_lowest ["table"] (defScope s__law_lowest) := ⟨rfl, rfl, rfl, by decide +kernel, rfl, by decide +kernel, by decide +kernel⟩
abbrev s__law_table : Stmt := topS 45
abbrev N__law_table : List Str := ["generator", "places", "most", "found", "place"]
theorem sc__law_table : FnScope N__law_table ["generator", "places"] (defScope s__law_table) := ⟨rfl, rfl, rfl, by decide +kernel, rfl, by decide +kernel, by decide +kernel⟩
abbrev s__law_filter : Stmt := topS 46
abbrev N__law_filter : List Str := ["generator", "places", "way", "under", "top", "place"]
theorem sc__law_filter : FnScope N__law_filter ["generator", "places"] (defScope s__law_filter) := ⟨rfl, rfl, rfl, by decide +kernel, rfl, by decide +kernel, by decide +kernel⟩
abbrev s__law_by_weight : Stmt := topS 47
abbrev N__law_by_weight : List Str := ["table", "left", "found", "best", "place"]
theorem sc__law_by_weight : FnScope N__law_by_weight ["table"] (defScope s__law_by_weight) := ⟨rfl, rfl, rfl, by decide +kernel, rfl, by decide +kernel, by decide +kernel⟩
abbrev s__law_kept : Stmt := topS 48
abbrev N__law_kept : List Str := ["table", "places", "place", "count"]
theorem sc__law_kept : FnScope N__law_kept ["table", "places"] (defScope s__law_kept) := ⟨rfl, rfl, rfl, by decide +kernel, rfl, by decide +kernel, by decide +kernel⟩
abbrev s__law_shared : Stmt := topS 49
abbrev N__law_shared : List Str := ["table", "odds", "seen", "kept", "place"]
theorem sc__law_shared : FnScope N__law_shared ["table", "odds"] (defScope s__law_shared) := ⟨rfl, rfl, rfl, by decide +kernel, rfl, by decide +kernel, by decide +kernel⟩
abbrev s__law_made : Stmt := topS 50
abbrev N__law_made : List Str := ["one", "table", "word", "told", "made", "count", "place"]
theorem sc__law_made : FnScope N__law_made ["one", "table"] (defScope s__law_made) := ⟨rfl, rfl, rfl, by decide +kernel, rfl, by decide +kernel, by decide +kernel⟩
abbrev s__law_filtered : Stmt := topS 51
abbrev N__law_filtered : List Str := ["chain", "table", "made", "one"]
theorem sc__law_filtered : FnScope N__law_filtered ["chain", "table"] (defScope s__law_filtered) := ⟨rfl, rfl, rfl, by decide +kernel, rfl, by decide +kernel, by decide +kernel⟩
abbrev s__law_chain : Stmt := topS 52
abbrev N__law_chain : List Str := ["generator", "places", "steps", "most", "found", "power", "step", "one"]
theorem sc__law_chain : FnScope N__law_chain ["generator", "places", "steps", "most"] (defScope s__law_chain) := ⟨rfl, rfl, rfl, by decide +kernel, rfl, by decide +kernel, by decide +kernel⟩
abbrev s__law_right : Stmt := topS 53
abbrev N__law_right : List Str := ["generator", "places", "table", "turn", "chain", "kept", "due", "told", "made", "one", "at", "half"]
theorem sc__law_right : FnScope N__law_right ["generator"] (defScope s__law_right) := ⟨rfl, rfl, rfl, by decide +kernel, rfl, by decide +kernel, by decide +kernel⟩
abbrev s_law : Stmt := topS 54
abbrev N_law : List Str := ["script", "generator", "some", "values", "value", "due", "kept", "step", "item"]
theorem sc_law : FnScope N_law ["script"] (defScope s_law) := ⟨rfl, rfl, rfl, by decide +kernel, rfl, by decide +kernel, by decide +kernel⟩
structure Tx (K : PySem.W.Frag) (mg : Str → Option Value) where
  f_is_count : Addr
  d_is_count : FuncData
  F_is_count : FunD K "is_count" "is_count" (defArgs s_is_count) (defBody s_is_count) (defScope s_is_count) [V.int 0] [] f_is_count d_is_count
  g_is_count : mg "is_count" = some (.ref f_is_count)
  ds1_is_count : List Value
  v1_is_count : Vals [V.int 0] ds1_is_count
  b1_is_count : Binds K d_is_count ["value", "least"] ds1_is_count
  b2_is_count : Binds K d_is_count ["value", "least"] []
  f_divisor : Addr
  d_divisor : FuncData
  F_divisor : Fun K "divisor" "divisor" s_divisor f_divisor d_divisor
  g_divisor : mg "divisor" = some (.ref f_divisor)
  b2_divisor : Binds K d_divisor ["one", "other"] []
  f_is_odds : Addr
  d_is_odds : FuncData
  F_is_odds : Fun K "is_odds" "is_odds" s_is_odds f_is_odds d_is_odds
  g_is_odds : mg "is_odds" = some (.ref f_is_odds)
  b1_is_odds : Binds K d_is_odds ["value"] []
  f_are_counts : Addr
  d_are_counts : FuncData
  F_are_counts : Fun K "are_counts" "are_counts" s_are_counts f_are_counts d_are_counts
  g_are_counts : mg "are_counts" = some (.ref f_are_counts)
  b1_are_counts : Binds K d_are_counts ["value"] []
  f_is_table : Addr
  d_is_table : FuncData
  F_is_table : Fun K "is_table" "is_table" s_is_table f_is_table d_is_table
  g_is_table : mg "is_table" = some (.ref f_is_table)
  b1_is_table : Binds K d_is_table ["value"] []
  f_look_at_table : Addr
  d_look_at_table : FuncData
  F_look_at_table : Fun K "look_at_table" "look_at_table" s_look_at_table f_look_at_table d_look_at_table
  g_look_at_table : mg "look_at_table" = some (.ref f_look_at_table)
  b1_look_at_table : Binds K d_look_at_table ["value"] []
  f_lowered : Addr
  d_lowered : FuncData
  F_lowered : Fun K "lowered" "lowered" s_lowered f_lowered d_lowered
  g_lowered : mg "lowered" = some (.ref f_lowered)
  b1_lowered : Binds K d_lowered ["table"] []
  f_lowest : Addr
  d_lowest : FuncData
  F_lowest : Fun K "lowest" "lowest" s_lowest f_lowest d_lowest
  g_lowest : mg "lowest" = some (.ref f_lowest)
  b1_lowest : Binds K d_lowest ["table"] []
  f_is_whole : Addr
  d_is_whole : FuncData
  F_is_whole : Fun K "is_whole" "is_whole" s_is_whole f_is_whole d_is_whole
  g_is_whole : mg "is_whole" = some (.ref f_is_whole)
  b2_is_whole : Binds K d_is_whole ["value", "least"] []
  f_check_table : Addr
  d_check_table : FuncData
  F_check_table : Fun K "check_table" "check_table" s_check_table f_check_table d_check_table
  g_check_table : mg "check_table" = some (.ref f_check_table)
  b1_check_table : Binds K d_check_table ["table"] []
  f_are_places : Addr
  d_are_places : FuncData
  F_are_places : Fun K "are_places" "are_places" s_are_places f_are_places d_are_places
  g_are_places : mg "are_places" = some (.ref f_are_places)
  b1_are_places : Binds K d_are_places ["value"] []
  f_is_filter : Addr
  d_is_filter : FuncData
  F_is_filter : Fun K "is_filter" "is_filter" s_is_filter f_is_filter d_is_filter
  g_is_filter : mg "is_filter" = some (.ref f_is_filter)
  b1_is_filter : Binds K d_is_filter ["value"] []
  f_by_weight : Addr
  d_by_weight : FuncData
  F_by_weight : Fun K "by_weight" "by_weight" s_by_weight f_by_weight d_by_weight
  g_by_weight : mg "by_weight" = some (.ref f_by_weight)
  b1_by_weight : Binds K d_by_weight ["table"] []
  f_kept_places : Addr
  d_kept_places : FuncData
  F_kept_places : Fun K "kept_places" "kept_places" s_kept_places f_kept_places d_kept_places
  g_kept_places : mg "kept_places" = some (.ref f_kept_places)
  b2_kept_places : Binds K d_kept_places ["table", "places"] []
  f_shared_out : Addr
  d_shared_out : FuncData
  F_shared_out : Fun K "shared_out" "shared_out" s_shared_out f_shared_out d_shared_out
  g_shared_out : mg "shared_out" = some (.ref f_shared_out)
  b2_shared_out : Binds K d_shared_out ["table", "odds"] []
  f_raised : Addr
  d_raised : FuncData
  F_raised : Fun K "raised" "raised" s_raised f_raised d_raised
  g_raised : mg "raised" = some (.ref f_raised)
  b2_raised : Binds K d_raised ["number", "times"] []
  f_made_by : Addr
  d_made_by : FuncData
  F_made_by : Fun K "made_by" "made_by" s_made_by f_made_by d_made_by
  g_made_by : mg "made_by" = some (.ref f_made_by)
  b2_made_by : Binds K d_made_by ["step", "table"] []
  f_done_by : Addr
  d_done_by : FuncData
  F_done_by : Fun K "done_by" "done_by" s_done_by f_done_by d_done_by
  g_done_by : mg "done_by" = some (.ref f_done_by)
  b2_done_by : Binds K d_done_by ["step", "table"] []
  f_filter_done : Addr
  d_filter_done : FuncData
  F_filter_done : Fun K "filter_done" "filter_done" s_filter_done f_filter_done d_filter_done
  g_filter_done : mg "filter_done" = some (.ref f_filter_done)
  b2_filter_done : Binds K d_filter_done ["one", "table"] []
  f_is_chain : Addr
  d_is_chain : FuncData
  F_is_chain : Fun K "is_chain" "is_chain" s_is_chain f_is_chain d_is_chain
  g_is_chain : mg "is_chain" = some (.ref f_is_chain)
  k0_value_is_chain : KB K d_is_chain ["value"] ["value"] 0 [0] []
  b1_is_chain : Binds K d_is_chain ["value"] []
  f_check_chain : Addr
  d_check_chain : FuncData
  F_check_chain : Fun K "check_chain" "check_chain" s_check_chain f_check_chain d_check_chain
  g_check_chain : mg "check_chain" = some (.ref f_check_chain)
  b1_check_chain : Binds K d_check_chain ["chain"] []
  f_table_made : Addr
  d_table_made : FuncData
  F_table_made : Fun K "table_made" "table_made" s_table_made f_table_made d_table_made
  g_table_made : mg "table_made" = some (.ref f_table_made)
  b2_table_made : Binds K d_table_made ["chain", "table"] []
  f_filtered : Addr
  d_filtered : FuncData
  F_filtered : Fun K "filtered" "filtered" s_filtered f_filtered d_filtered
  g_filtered : mg "filtered" = some (.ref f_filtered)
  k0_table_chain_filtered : KB K d_filtered ["chain", "table"] ["table", "chain"] 0 [1, 0] []
  b2_filtered : Binds K d_filtered ["chain", "table"] []
  f__law_hash : Addr
  d__law_hash : FuncData
  F__law_hash : Fun K "_law_hash" "_law_hash" s__law_hash f__law_hash d__law_hash
  g__law_hash : mg "_law_hash" = some (.ref f__law_hash)
  b2__law_hash : Binds K d__law_hash ["seed", "index"] []
  f__law_random : Addr
  d__law_random : FuncData
  F__law_random : Fun K "_law_random" "_law_random" s__law_random f__law_random d__law_random
  g__law_random : mg "_law_random" = some (.ref f__law_random)
  b2__law_random : Binds K d__law_random ["generator", "bound"] []
  f__law_cell : Addr
  d__law_cell : FuncData
  F__law_cell : Fun K "_law_cell" "_law_cell" s__law_cell f__law_cell d__law_cell
  g__law_cell : mg "_law_cell" = some (.ref f__law_cell)
  b2__law_cell : Binds K d__law_cell ["script", "index"] []
  f__law_generator : Addr
  d__law_generator : FuncData
  F__law_generator : Fun K "_law_generator" "_law_generator" s__law_generator f__law_generator d__law_generator
  g__law_generator : mg "_law_generator" = some (.ref f__law_generator)
  b2__law_generator : Binds K d__law_generator ["script", "index"] []
  f__law_pick : Addr
  d__law_pick : FuncData
  F__law_pick : Fun K "_law_pick" "_law_pick" s__law_pick f__law_pick d__law_pick
  g__law_pick : mg "_law_pick" = some (.ref f__law_pick)
  b2__law_pick : Binds K d__law_pick ["generator", "row"] []
  f__law_same : Addr
  d__law_same : FuncData
  F__law_same : Fun K "_law_same" "_law_same" s__law_same f__law_same d__law_same
  g__law_same : mg "_law_same" = some (.ref f__law_same)
  b2__law_same : Binds K d__law_same ["told", "due"] []
  f__law_common : Addr
  d__law_common : FuncData
  F__law_common : Fun K "_law_common" "_law_common" s__law_common f__law_common d__law_common
  g__law_common : mg "_law_common" = some (.ref f__law_common)
  b2__law_common : Binds K d__law_common ["one", "other"] []
  f__law_odds : Addr
  d__law_odds : FuncData
  F__law_odds : Fun K "_law_odds" "_law_odds" s__law_odds f__law_odds d__law_odds
  g__law_odds : mg "_law_odds" = some (.ref f__law_odds)
  b2__law_odds : Binds K d__law_odds ["top", "under"] []
  f__law_raised : Addr
  d__law_raised : FuncData
  F__law_raised : Fun K "_law_raised" "_law_raised" s__law_raised f__law_raised d__law_raised
  g__law_raised : mg "_law_raised" = some (.ref f__law_raised)
  b2__law_raised : Binds K d__law_raised ["number", "times"] []
  f__law_lowest : Addr
  d__law_lowest : FuncData
  F__law_lowest : Fun K "_law_lowest" "_law_lowest" s__law_lowest f__law_lowest d__law_lowest
  g__law_lowest : mg "_law_lowest" = some (.ref f__law_lowest)
  b1__law_lowest : Binds K d__law_lowest ["table"] []
  f__law_table : Addr
  d__law_table : FuncData
  F__law_table : Fun K "_law_table" "_law_table" s__law_table f__law_table d__law_table
  g__law_table : mg "_law_table" = some (.ref f__law_table)
  b2__law_table : Binds K d__law_table ["generator", "places"] []
  f__law_filter : Addr
  d__law_filter : FuncData
  F__law_filter : Fun K "_law_filter" "_law_filter" s__law_filter f__law_filter d__law_filter
  g__law_filter : mg "_law_filter" = some (.ref f__law_filter)
  b2__law_filter : Binds K d__law_filter ["generator", "places"] []
  f__law_by_weight : Addr
  d__law_by_weight : FuncData
  F__law_by_weight : Fun K "_law_by_weight" "_law_by_weight" s__law_by_weight f__law_by_weight d__law_by_weight
  g__law_by_weight : mg "_law_by_weight" = some (.ref f__law_by_weight)
  b1__law_by_weight : Binds K d__law_by_weight ["table"] []
  f__law_kept : Addr
  d__law_kept : FuncData
  F__law_kept : Fun K "_law_kept" "_law_kept" s__law_kept f__law_kept d__law_kept
  g__law_kept : mg "_law_kept" = some (.ref f__law_kept)
  b2__law_kept : Binds K d__law_kept ["table", "places"] []
  f__law_shared : Addr
  d__law_shared : FuncData
  F__law_shared : Fun K "_law_shared" "_law_shared" s__law_shared f__law_shared d__law_shared
  g__law_shared : mg "_law_shared" = some (.ref f__law_shared)
  b2__law_shared : Binds K d__law_shared ["table", "odds"] []
  f__law_made : Addr
  d__law_made : FuncData
  F__law_made : Fun K "_law_made" "_law_made" s__law_made f__law_made d__law_made
  g__law_made : mg "_law_made" = some (.ref f__law_made)
  b2__law_made : Binds K d__law_made ["one", "table"] []
  f__law_filtered : Addr
  d__law_filtered : FuncData
  F__law_filtered : Fun K "_law_filtered" "_law_filtered" s__law_filtered f__law_filtered d__law_filtered
  g__law_filtered : mg "_law_filtered" = some (.ref f__law_filtered)
  b2__law_filtered : Binds K d__law_filtered ["chain", "table"] []
  f__law_chain : Addr
  d__law_chain : FuncData
  F__law_chain : Fun K "_law_chain" "_law_chain" s__law_chain f__law_chain d__law_chain
  g__law_chain : mg "_law_chain" = some (.ref f__law_chain)
  b4__law_chain : Binds K d__law_chain ["generator", "places", "steps", "most"] []
  f__law_right : Addr
  d__law_right : FuncData
  F__law_right : Fun K "_law_right" "_law_right" s__law_right f__law_right d__law_right
  g__law_right : mg "_law_right" = some (.ref f__law_right)
  b1__law_right : Binds K d__law_right ["generator"] []
  f_law : Addr
  d_law : FuncData
  F_law : Fun K "law" "law" s_law f_law d_law
  g_law : mg "law" = some (.ref f_law)
  n_all : mg "all" = none
  n_bool : mg "bool" = none
  n_enumerate : mg "enumerate" = none
  n_int : mg "int" = none
  n_isinstance : mg "isinstance" = none
  n_len : mg "len" = none
  n_list : mg "list" = none
  n_max : mg "max" = none
  n_range : mg "range" = none
  n_repr : mg "repr" = none
  n_sorted : mg "sorted" = none
  n_str : mg "str" = none
  n_sum : mg "sum" = none
  n_tuple : mg "tuple" = none
  v_MOST_POWER : ∃ t, mg "MOST_POWER" = some (.int 6 t)
section
variable {P : Program} {w : World} {K : PySem.W.Frag} {mg : Str → Option Value} {base : Heap}
theorem ok_is_count (T : Tx K mg) : FnG P w K mg base CX0 1 T.f_is_count T.d_is_count ["value", "least"] (spD K 2 m_is_count) := by
  show FnG P w K mg base CX0 (0 + 1) T.f_is_count T.d_is_count ["value", "least"] (spD K (["value", "least"] : List Str).length (run N_is_count.length g_is_count))
  refine dl_okD (N := N_is_count) (ps := ["value", "least"]) (k := 0) (b := g_is_count) T.F_is_count sc_is_count (by decide) ?_
  intro cdv A outer s H E hr gd
  exact ⟨_, dl_both (sss_one (ss_ret (se_and (se_isi tyok_int rfl T.n_isinstance (by decide +kernel) rfl T.n_int (by decide +kernel) (se_var 0)) (se_and (se_not (se_isi tyok_bool rfl T.n_isinstance (by decide +kernel) rfl T.n_bool (by decide +kernel) (se_var 0))) (se_one (se_cmp prim_cmp op_ge (nomark _) (se_var 0) (se_var 1)))))))⟩
theorem ok_divisor (T : Tx K mg) : FnG P w K mg base CX0 1 T.f_divisor T.d_divisor ["one", "other"] (spD K 2 m_divisor) := by
  show FnG P w K mg base CX0 (0 + 1) T.f_divisor T.d_divisor ["one", "other"] (spD K (["one", "other"] : List Str).length (run N_divisor.length g_divisor))
  refine dl_ok (N := N_divisor) (ps := ["one", "other"]) (k := 0) (b := g_divisor) T.F_divisor sc_divisor (by decide) ?_
  intro cdv A outer s H E hr gd
  exact ⟨_, dl_both (sss_cons (ss_while PassesOwn.never (st_cmp prim_ne (op_neP hr.units) (nomark _) (se_var 1) (se_int)) (sss_one (ss_par 0 1 rfl sc_divisor.nd rfl rfl (by decide) rfl rfl (sa_cons (se_var 1) (sa_cons (se_mod (se_var 0) (se_var 1)) (sa_nil))) rfl))) (sss_one (ss_ret (se_var 0))))⟩
theorem ok_is_odds (T : Tx K mg) : FnG P w K mg base CX0 2 T.f_is_odds T.d_is_odds ["value"] (spD K 1 m_is_odds) := by
  show FnG P w K mg base CX0 (1 + 1) T.f_is_odds T.d_is_odds ["value"] (spD K (["value"] : List Str).length (run N_is_odds.length g_is_odds))
  refine dl_ok (N := N_is_odds) (ps := ["value"]) (k := 1) (b := g_is_odds) T.F_is_odds sc_is_odds (by decide) ?_
  intro cdv A outer s H E hr gd
  exact ⟨_, dl_both (sss_cons (ss_if (st_w (sw_or (st_not (st_val (se_isi tyok_tuple rfl T.n_isinstance (by decide +kernel) rfl T.n_tuple (by decide +kernel) (se_var 0)))) (sw_or (st_cmp prim_ne (op_neP hr.units) (nomark _) (se_callB prim_len call_lenD' rfl T.n_len (by decide +kernel) (sa_cons (se_var 0) (sa_nil))) (se_int)) (sw_or (st_not (st_val (se_call (modes := [false]) (more := [PyData.int 0]) (ok_is_count T) (hr.mono (by decide)) gd rfl T.g_is_count T.F_is_count.kp (T.b1_is_count) (T.v1_is_count) (fun _ _ => .cons (.int _) (.nil)) rfl (sa_cons (se_ix (se_var 0) (se_int)) (sa_nil))))) (sw_or1 (st_not (st_val (se_call (modes := [false, false]) (more := []) (ok_is_count T) (hr.mono (by decide)) gd rfl T.g_is_count T.F_is_count.kp (T.b2_is_count) .nil (fun _ _ => .nil) rfl (sa_cons (se_ix (se_var 0) (se_int)) (sa_cons (se_int) (sa_nil))))))))))) (sss_one (ss_ret (se_bl))) (sss_nil)) (sss_one (ss_ret (se_cmp prim_eq (op_eqP hr.units) (nomark _) (se_call (modes := [false, false]) (more := []) (ok_divisor T) (hr.mono (by decide)) gd rfl T.g_divisor T.F_divisor.kp (T.b2_divisor) .nil (fun _ _ => .nil) rfl (sa_cons (se_ix (se_var 0) (se_int)) (sa_cons (se_ix (se_var 0) (se_int)) (sa_nil)))) (se_int)))))⟩
theorem ok_are_counts (T : Tx K mg) : FnG P w K mg base CX0 2 T.f_are_counts T.d_are_counts ["value"] (spD K 1 m_are_counts) := by
  show FnG P w K mg base CX0 (1 + 1) T.f_are_counts T.d_are_counts ["value"] (spD K (["value"] : List Str).length (run N_are_counts.length g_are_counts))
  refine dl_ok (N := N_are_counts) (ps := ["value"]) (k := 1) (b := g_are_counts) T.F_are_counts sc_are_counts (by decide) ?_
  intro cdv A outer s H E hr gd
  exact ⟨_, dl_both (sss_one (ss_ret (se_and (se_isi tyok_list rfl T.n_isinstance (by decide +kernel) rfl T.n_list (by decide +kernel) (se_var 0)) (se_one (se_callB prim_all (cr_all rfl) rfl T.n_all (by decide +kernel) (sa_cons (se_lc rfl sc_are_counts.nd (si_seq (se_var 0)) (blkOk_by (own := [("one", 1)]) (N := N_are_counts) (sc := defScope s_are_counts) (by decide +kernel)) (fun _ _ _ _ _ => sg_name 1 sc_are_counts.nd rfl (Or.inl rfl)) (fun _ _ _ _ _ => sts_nil) (fun _ _ _ _ _ => se_call (modes := [false]) (more := [PyData.int 0]) (ok_is_count T) (hr.mono (by decide)) gd rfl T.g_is_count T.F_is_count.kp (T.b1_is_count) (T.v1_is_count) (fun _ _ => .cons (.int _) (.nil)) rfl (sa_cons (se_var 1) (sa_nil))) rfl (by decide)) (sa_nil)))))))⟩
theorem ok_is_table (T : Tx K mg) : FnG P w K mg base CX0 3 T.f_is_table T.d_is_table ["value"] (spD K 1 m_is_table) := by
  show FnG P w K mg base CX0 (2 + 1) T.f_is_table T.d_is_table ["value"] (spD K (["value"] : List Str).length (run N_is_table.length g_is_table))
  refine dl_ok (N := N_is_table) (ps := ["value"]) (k := 2) (b := g_is_table) T.F_is_table sc_is_table (by decide) ?_
  intro cdv A outer s H E hr gd
  exact ⟨_, dl_both (sss_one (ss_ret (se_and (se_call (modes := [false]) (more := []) (ok_are_counts T) (hr.mono (by decide)) gd rfl T.g_are_counts T.F_are_counts.kp (T.b1_are_counts) .nil (fun _ _ => .nil) rfl (sa_cons (se_var 0) (sa_nil))) (se_one (se_cmp prim_cmp op_gt (nomark _) (se_callB prim_sum (cr_sum rfl) rfl T.n_sum (by decide +kernel) (sa_cons (se_var 0) (sa_nil))) (se_int))))))⟩
theorem ok_look_at_table (T : Tx K mg) : FnG P w K mg base CX0 4 T.f_look_at_table T.d_look_at_table ["value"] (spD K 1 m_look_at_table) := by
  show FnG P w K mg base CX0 (3 + 1) T.f_look_at_table T.d_look_at_table ["value"] (spD K (["value"] : List Str).length (run N_look_at_table.length g_look_at_table))
  refine dl_ok (N := N_look_at_table) (ps := ["value"]) (k := 3) (b := g_look_at_table) T.F_look_at_table sc_look_at_table (by decide) ?_
  intro cdv A outer s H E hr gd
  exact ⟨_, dl_both (sss_one (ss_if (st_not (st_val (se_call (modes := [false]) (more := []) (ok_is_table T) (hr.mono (by decide)) gd rfl T.g_is_table T.F_is_table.kp (T.b1_is_table) .nil (fun _ _ => .nil) rfl (sa_cons (se_var 0) (sa_nil))))) (sss_never) (sss_nil)))⟩
theorem ok_lowered (T : Tx K mg) : FnG P w K mg base CX0 2 T.f_lowered T.d_lowered ["table"] (spD K 1 m_lowered) := by
  show FnG P w K mg base CX0 (1 + 1) T.f_lowered T.d_lowered ["table"] (spD K (["table"] : List Str).length (run N_lowered.length g_lowered))
  refine dl_ok (N := N_lowered) (ps := ["table"]) (k := 1) (b := g_lowered) T.F_lowered sc_lowered (by decide) ?_
  intro cdv A outer s H E hr gd
  exact ⟨_, dl_both (sss_cons (ss_set 1 sc_lowered.nd rfl (Or.inr rfl) (se_int)) (sss_cons (ss_for PassesOwn.never rfl (si_seq (se_var 0)) (sg_name 2 sc_lowered.nd rfl (Or.inl rfl)) (sss_one (ss_set 1 sc_lowered.nd rfl (Or.inr rfl) (se_call (modes := [false, false]) (more := []) (ok_divisor T) (hr.mono (by decide)) gd rfl T.g_divisor T.F_divisor.kp (T.b2_divisor) .nil (fun _ _ => .nil) rfl (sa_cons (se_var 1) (sa_cons (se_var 2) (sa_nil))))))) (sss_one (ss_ret (se_lc rfl sc_lowered.nd (si_seq (se_var 0)) (blkOk_by (own := [("one", 2)]) (N := N_lowered) (sc := defScope s_lowered) (by decide +kernel)) (fun _ _ _ _ _ => sg_name 2 sc_lowered.nd rfl (Or.inl rfl)) (fun _ _ _ _ _ => sts_nil) (fun _ _ _ _ _ => se_div (se_var 2) (se_var 1)) rfl (by decide))))))⟩
theorem ok_lowest (T : Tx K mg) : FnG P w K mg base CX0 5 T.f_lowest T.d_lowest ["table"] (spD K 1 m_lowest) := by
  show FnG P w K mg base CX0 (4 + 1) T.f_lowest T.d_lowest ["table"] (spD K (["table"] : List Str).length (run N_lowest.length g_lowest))
  refine dl_ok (N := N_lowest) (ps := ["table"]) (k := 4) (b := g_lowest) T.F_lowest sc_lowest (by decide) ?_
  intro cdv A outer s H E hr gd
  exact ⟨_, dl_both (sss_cons (ss_drop (se_call (modes := [false]) (more := []) (ok_look_at_table T) (hr.mono (by decide)) gd rfl T.g_look_at_table T.F_look_at_table.kp (T.b1_look_at_table) .nil (fun _ _ => .nil) rfl (sa_cons (se_var 0) (sa_nil)))) (sss_one (ss_ret (se_call (modes := [false]) (more := []) (ok_lowered T) (hr.mono (by decide)) gd rfl T.g_lowered T.F_lowered.kp (T.b1_lowered) .nil (fun _ _ => .nil) rfl (sa_cons (se_var 0) (sa_nil))))))⟩
theorem ok_is_whole (T : Tx K mg) : FnG P w K mg base CX0 1 T.f_is_whole T.d_is_whole ["value", "least"] (spD K 2 m_is_whole) := by
  show FnG P w K mg base CX0 (0 + 1) T.f_is_whole T.d_is_whole ["value", "least"] (spD K (["value", "least"] : List Str).length (run N_is_whole.length g_is_whole))
  refine dl_ok (N := N_is_whole) (ps := ["value", "least"]) (k := 0) (b := g_is_whole) T.F_is_whole sc_is_whole (by decide) ?_
  intro cdv A outer s H E hr gd
  exact ⟨_, dl_both (sss_one (ss_ret (se_and (se_isi tyok_int rfl T.n_isinstance (by decide +kernel) rfl T.n_int (by decide +kernel) (se_var 0)) (se_and (se_not (se_isi tyok_bool rfl T.n_isinstance (by decide +kernel) rfl T.n_bool (by decide +kernel) (se_var 0))) (se_one (se_cmp prim_cmp op_ge (nomark _) (se_var 0) (se_var 1)))))))⟩
theorem ok_check_table (T : Tx K mg) : FnG P w K mg base CX0 4 T.f_check_table T.d_check_table ["table"] (spD K 1 m_check_table) := by
  show FnG P w K mg base CX0 (3 + 1) T.f_check_table T.d_check_table ["table"] (spD K (["table"] : List Str).length (run N_check_table.length g_check_table))
  refine dl_ok (N := N_check_table) (ps := ["table"]) (k := 3) (b := g_check_table) T.F_check_table sc_check_table (by decide) ?_
  intro cdv A outer s H E hr gd
  exact ⟨_, dl_both (sss_one (ss_if (st_not (st_val (se_call (modes := [false]) (more := []) (ok_is_table T) (hr.mono (by decide)) gd rfl T.g_is_table T.F_is_table.kp (T.b1_is_table) .nil (fun _ _ => .nil) rfl (sa_cons (se_var 0) (sa_nil))))) (sss_never) (sss_nil)))⟩
theorem ok_are_places (T : Tx K mg) : FnG P w K mg base CX0 2 T.f_are_places T.d_are_places ["value"] (spD K 1 m_are_places) := by
  show FnG P w K mg base CX0 (1 + 1) T.f_are_places T.d_are_places ["value"] (spD K (["value"] : List Str).length (run N_are_places.length g_are_places))
  refine dl_ok (N := N_are_places) (ps := ["value"]) (k := 1) (b := g_are_places) T.F_are_places sc_are_places (by decide) ?_
  intro cdv A outer s H E hr gd
  exact ⟨_, dl_both (sss_cons (ss_if (st_w (sw_or (st_not (st_val (se_isi tyok_list rfl T.n_isinstance (by decide +kernel) rfl T.n_list (by decide +kernel) (se_var 0)))) (sw_or1 (st_not (st_val (se_callB prim_all (cr_all rfl) rfl T.n_all (by decide +kernel) (sa_cons (se_lc rfl sc_are_places.nd (si_seq (se_var 0)) (blkOk_by (own := [("place", 2)]) (N := N_are_places) (sc := defScope s_are_places) (by decide +kernel)) (fun _ _ _ _ _ => sg_name 2 sc_are_places.nd rfl (Or.inl rfl)) (fun _ _ _ _ _ => sts_nil) (fun _ _ _ _ _ => se_call (modes := [false, false]) (more := []) (ok_is_whole T) (hr.mono (by decide)) gd rfl T.g_is_whole T.F_is_whole.kp (T.b2_is_whole) .nil (fun _ _ => .nil) rfl (sa_cons (se_var 2) (sa_cons (se_int) (sa_nil)))) rfl (by decide)) (sa_nil)))))))) (sss_one (ss_ret (se_bl))) (sss_nil)) (sss_one (ss_ret (se_callB prim_all (cr_all rfl) rfl T.n_all (by decide +kernel) (sa_cons (se_lc rfl sc_are_places.nd (si_range1 rfl T.n_range (sa_cons (se_sub (se_callB prim_len call_lenD' rfl T.n_len (by decide +kernel) (sa_cons (se_var 0) (sa_nil))) (se_int)) (sa_nil))) (blkOk_by (own := [("at", 1)]) (N := N_are_places) (sc := defScope s_are_places) (by decide +kernel)) (fun _ _ _ _ _ => sg_name 1 sc_are_places.nd rfl (Or.inl rfl)) (fun _ _ _ _ _ => sts_nil) (fun _ _ _ _ _ => se_cmp prim_cmp op_lt (nomark _) (se_ix (se_var 0) (se_var 1)) (se_ix (se_var 0) (se_add (se_var 1) (se_int)))) rfl (by decide)) (sa_nil))))))⟩
theorem ok_is_filter (T : Tx K mg) : FnG P w K mg base CX0 3 T.f_is_filter T.d_is_filter ["value"] (spD K 1 m_is_filter) := by
  show FnG P w K mg base CX0 (2 + 1) T.f_is_filter T.d_is_filter ["value"] (spD K (["value"] : List Str).length (run N_is_filter.length g_is_filter))
  refine dl_ok (N := N_is_filter) (ps := ["value"]) (k := 2) (b := g_is_filter) T.F_is_filter sc_is_filter (by decide) ?_
  intro cdv A outer s H E hr gd
  exact ⟨_, dl_both (sss_cons (ss_if (st_w (sw_or (st_not (st_val (se_isi tyok_tuple rfl T.n_isinstance (by decide +kernel) rfl T.n_tuple (by decide +kernel) (se_var 0)))) (sw_or (st_cmp prim_cmp op_lt (nomark _) (se_callB prim_len call_lenD' rfl T.n_len (by decide +kernel) (sa_cons (se_var 0) (sa_nil))) (se_int)) (sw_or1 (st_not (st_val (se_isi tyok_str rfl T.n_isinstance (by decide +kernel) rfl T.n_str (by decide +kernel) (se_ix (se_var 0) (se_int))))))))) (sss_one (ss_ret (se_bl))) (sss_nil)) (sss_cons (ss_if (st_cmp prim_eq (op_eqP hr.units) (nomark _) (se_ix (se_var 0) (se_int)) (se_str)) (sss_one (ss_ret (se_and (se_cmp prim_eq (op_eqP hr.units) (nomark _) (se_callB prim_len call_lenD' rfl T.n_len (by decide +kernel) (sa_cons (se_var 0) (sa_nil))) (se_int)) (se_and (se_call (modes := [false, false]) (more := []) (ok_is_whole T) (hr.mono (by decide)) gd rfl T.g_is_whole T.F_is_whole.kp (T.b2_is_whole) .nil (fun _ _ => .nil) rfl (sa_cons (se_ix (se_var 0) (se_int)) (sa_cons (se_int) (sa_nil)))) (se_one (se_call (modes := [false, false]) (more := []) (ok_is_whole T) (hr.mono (by decide)) gd rfl T.g_is_whole T.F_is_whole.kp (T.b2_is_whole) .nil (fun _ _ => .nil) rfl (sa_cons (se_ix (se_var 0) (se_int)) (sa_cons (se_int) (sa_nil))))))))) (sss_nil)) (sss_cons (ss_if (st_cmp prim_ne (op_neP hr.units) (nomark _) (se_callB prim_len call_lenD' rfl T.n_len (by decide +kernel) (sa_cons (se_var 0) (sa_nil))) (se_int)) (sss_one (ss_ret (se_bl))) (sss_nil)) (sss_cons (ss_asg (se_var 0) (sg_tup rfl (sgs_cons (sg_name 1 sc_is_filter.nd rfl (Or.inl rfl)) (sgs_cons (sg_name 2 sc_is_filter.nd rfl (Or.inl rfl)) (sgs_nil))))) (sss_cons (ss_if (st_cmp prim_inA op_in_seq (by with_unfolding_all rfl) (se_var 1) (se_tup (sa_cons (se_str) (sa_cons (se_str) (sa_nil))))) (sss_one (ss_ret (se_and (se_call (modes := [false, false]) (more := []) (ok_is_whole T) (hr.mono (by decide)) gd rfl T.g_is_whole T.F_is_whole.kp (T.b2_is_whole) .nil (fun _ _ => .nil) rfl (sa_cons (se_var 2) (sa_cons (se_int) (sa_nil)))) (se_one (se_or (se_cmp prim_eq (op_eqP hr.units) (nomark _) (se_var 1) (se_str)) (se_one (se_cmp prim_cmp op_le (nomark _) (se_var 2) (se_glob (v := V.int 6) rfl T.v_MOST_POWER.choose_spec ⟨_, rfl⟩ (fun _ _ => .int _))))))))) (sss_nil)) (sss_cons (ss_if (st_cmp prim_inA op_in_seq (by with_unfolding_all rfl) (se_var 1) (se_tup (sa_cons (se_str) (sa_cons (se_str) (sa_nil))))) (sss_one (ss_ret (se_and (se_call (modes := [false]) (more := []) (ok_is_odds T) (hr.mono (by decide)) gd rfl T.g_is_odds T.F_is_odds.kp (T.b1_is_odds) .nil (fun _ _ => .nil) rfl (sa_cons (se_var 2) (sa_nil))) (se_and (se_cmp prim_cmp op_le (nomark _) (se_ix (se_var 2) (se_int)) (se_ix (se_var 2) (se_int))) (se_one (se_or (se_cmp prim_eq (op_eqP hr.units) (nomark _) (se_var 1) (se_str)) (se_one (se_cmp prim_cmp op_gt (nomark _) (se_ix (se_var 2) (se_int)) (se_int))))))))) (sss_nil)) (sss_one (ss_ret (se_and (se_cmp prim_eq (op_eqP hr.units) (nomark _) (se_var 1) (se_str)) (se_one (se_call (modes := [false]) (more := []) (ok_are_places T) (hr.mono (by decide)) gd rfl T.g_are_places T.F_are_places.kp (T.b1_are_places) .nil (fun _ _ => .nil) rfl (sa_cons (se_var 2) (sa_nil)))))))))))))⟩
theorem ok_by_weight (T : Tx K mg) : FnG P w K mg base CX0 1 T.f_by_weight T.d_by_weight ["table"] (spD K 1 m_by_weight) := by
  show FnG P w K mg base CX0 (0 + 1) T.f_by_weight T.d_by_weight ["table"] (spD K (["table"] : List Str).length (run N_by_weight.length g_by_weight))
  refine dl_ok (N := N_by_weight) (ps := ["table"]) (k := 0) (b := g_by_weight) T.F_by_weight sc_by_weight (by decide) ?_
  intro cdv A outer s H E hr gd
  exact ⟨_, dl_both (sss_one (ss_ret (se_lc rfl sc_by_weight.nd (si_seq (se_callB prim_sorted (cr_sortedD hr.units) rfl T.n_sorted (by decide +kernel) (sa_cons (se_lc rfl sc_by_weight.nd (si_enum rfl T.n_enumerate (sa_cons (se_var 0) (sa_nil))) (blkOk_by (own := [("place", 2), ("count", 3)]) (N := N_by_weight) (sc := defScope s_by_weight) (by decide +kernel)) (fun _ _ _ _ _ => sg_tup rfl (sgs_cons (sg_name 2 sc_by_weight.nd rfl (Or.inl rfl)) (sgs_cons (sg_name 3 sc_by_weight.nd rfl (Or.inl rfl)) (sgs_nil)))) (fun _ _ _ _ _ => sts_nil) (fun _ _ _ _ _ => se_tup (sa_cons (se_sub (se_int) (se_var 3)) (sa_cons (se_var 2) (sa_nil)))) rfl (by decide)) (sa_nil)))) (blkOk_by (own := [("weight", 1), ("place", 2)]) (N := N_by_weight) (sc := defScope s_by_weight) (by decide +kernel)) (fun _ _ _ _ _ => sg_tup rfl (sgs_cons (sg_name 1 sc_by_weight.nd rfl (Or.inl rfl)) (sgs_cons (sg_name 2 sc_by_weight.nd rfl (Or.inl rfl)) (sgs_nil)))) (fun _ _ _ _ _ => sts_nil) (fun _ _ _ _ _ => se_var 2) rfl (by decide))))⟩
theorem ok_kept_places (T : Tx K mg) : FnG P w K mg base CX0 1 T.f_kept_places T.d_kept_places ["table", "places"] (spD K 2 m_kept_places) := by
  show FnG P w K mg base CX0 (0 + 1) T.f_kept_places T.d_kept_places ["table", "places"] (spD K (["table", "places"] : List Str).length (run N_kept_places.length g_kept_places))
  refine dl_ok (N := N_kept_places) (ps := ["table", "places"]) (k := 0) (b := g_kept_places) T.F_kept_places sc_kept_places (by decide) ?_
  intro cdv A outer s H E hr gd
  exact ⟨_, dl_both (sss_one (ss_ret (se_lc rfl sc_kept_places.nd (si_enum rfl T.n_enumerate (sa_cons (se_var 0) (sa_nil))) (blkOk_by (own := [("place", 2), ("count", 3)]) (N := N_kept_places) (sc := defScope s_kept_places) (by decide +kernel)) (fun _ _ _ _ _ => sg_tup rfl (sgs_cons (sg_name 2 sc_kept_places.nd rfl (Or.inl rfl)) (sgs_cons (sg_name 3 sc_kept_places.nd rfl (Or.inl rfl)) (sgs_nil)))) (fun _ _ _ _ _ => sts_nil) (fun _ _ _ _ _ => se_if (st_cmp prim_inA op_in_seq (by with_unfolding_all rfl) (se_var 2) (se_var 1)) (se_var 3) (se_int)) rfl (by decide))))⟩
theorem ok_shared_out (T : Tx K mg) : FnG P w K mg base CX0 2 T.f_shared_out T.d_shared_out ["table", "odds"] (spD K 2 m_shared_out) := by
  show FnG P w K mg base CX0 (1 + 1) T.f_shared_out T.d_shared_out ["table", "odds"] (spD K (["table", "odds"] : List Str).length (run N_shared_out.length g_shared_out))
  refine dl_ok (N := N_shared_out) (ps := ["table", "odds"]) (k := 1) (b := g_shared_out) T.F_shared_out sc_shared_out (by decide) ?_
  intro cdv A outer s H E hr gd
  exact ⟨_, dl_both (sss_cons (ss_parQ3 2 3 4 rfl sc_shared_out.nd rfl rfl rfl (by decide) (by decide) (by decide) rfl rfl rfl (se_mul (se_ix (se_var 1) (se_int)) (se_callB prim_sum (cr_sum rfl) rfl T.n_sum (by decide +kernel) (sa_cons (se_var 0) (sa_nil)))) (se_lst (sa_nil)) (sa_cons (se_int) (sa_nil)) rfl) (sss_cons (ss_for PassesOwn.never rfl (si_seq (se_call (modes := [false]) (more := []) (ok_by_weight T) (hr.mono (by decide)) gd rfl T.g_by_weight T.F_by_weight.kp (T.b1_by_weight) .nil (fun _ _ => .nil) rfl (sa_cons (se_var 0) (sa_nil)))) (sg_name 5 sc_shared_out.nd rfl (Or.inl rfl)) (sss_one (ss_if (st_cmp prim_cmp op_lt (nomark _) (se_mul (se_var 4) (se_ix (se_var 1) (se_int))) (se_var 2)) (sss_cons (ss_append 3 (fun h => pe_bm PySem.F.plainAttrs_list PySem.F.slot_list_append PySem.F.type_list_append mt_append (pv 3) (pa_cons h pa_nil)) (se_var 5)) (sss_one (ss_augAdd 4 sc_shared_out.nd rfl (Or.inl rfl) (se_ix (se_var 0) (se_var 5))))) (sss_nil)))) (sss_one (ss_ret (se_call (modes := [false, false]) (more := []) (ok_kept_places T) (hr.mono (by decide)) gd rfl T.g_kept_places T.F_kept_places.kp (T.b2_kept_places) .nil (fun _ _ => .nil) rfl (sa_cons (se_var 0) (sa_cons (se_var 3) (sa_nil))))))))⟩
theorem ok_raised (T : Tx K mg) : FnG P w K mg base CX0 1 T.f_raised T.d_raised ["number", "times"] (spD K 2 m_raised) := by
  show FnG P w K mg base CX0 (0 + 1) T.f_raised T.d_raised ["number", "times"] (spD K (["number", "times"] : List Str).length (run N_raised.length g_raised))
  refine dl_ok (N := N_raised) (ps := ["number", "times"]) (k := 0) (b := g_raised) T.F_raised sc_raised (by decide) ?_
  intro cdv A outer s H E hr gd
  exact ⟨_, dl_both (sss_cons (ss_set 2 sc_raised.nd rfl (Or.inl rfl) (se_int)) (sss_cons (ss_for PassesOwn.never rfl (si_range1 rfl T.n_range (sa_cons (se_var 1) (sa_nil))) (sg_name 3 sc_raised.nd rfl (Or.inl rfl)) (sss_one (ss_set 2 sc_raised.nd rfl (Or.inl rfl) (se_mul (se_var 2) (se_var 0))))) (sss_one (ss_ret (se_var 2)))))⟩
theorem ok_made_by (T : Tx K mg) : FnG P w K mg base CX0 3 T.f_made_by T.d_made_by ["step", "table"] (spD K 2 m_made_by) := by
  show FnG P w K mg base CX0 (2 + 1) T.f_made_by T.d_made_by ["step", "table"] (spD K (["step", "table"] : List Str).length (run N_made_by.length g_made_by))
  refine dl_ok (N := N_made_by) (ps := ["step", "table"]) (k := 2) (b := g_made_by) T.F_made_by sc_made_by (by decide) ?_
  intro cdv A outer s H E hr gd
  exact ⟨_, dl_both (sss_cons (ss_asg (se_tup (sa_cons (se_ix (se_var 0) (se_int)) (sa_cons (se_ix (se_var 0) (se_int)) (sa_nil)))) (sg_tup rfl (sgs_cons (sg_name 2 sc_made_by.nd rfl (Or.inl rfl)) (sgs_cons (sg_name 3 sc_made_by.nd rfl (Or.inr rfl)) (sgs_nil))))) (sss_cons (ss_if (st_cmp prim_eq (op_eqP hr.units) (nomark _) (se_var 2) (se_str)) (sss_one (ss_ret (se_lc rfl sc_made_by.nd (si_seq (se_var 1)) (blkOk_by (own := [("count", 5)]) (N := N_made_by) (sc := defScope s_made_by) (by decide +kernel)) (fun _ _ _ _ _ => sg_name 5 sc_made_by.nd rfl (Or.inl rfl)) (fun _ _ _ _ _ => sts_nil) (fun _ _ _ _ _ => se_call (modes := [false, false]) (more := []) (ok_raised T) (hr.mono (by decide)) gd rfl T.g_raised T.F_raised.kp (T.b2_raised) .nil (fun _ _ => .nil) rfl (sa_cons (se_var 5) (sa_cons (se_var 3) (sa_nil)))) rfl (by decide)))) (sss_nil)) (sss_cons (ss_if (st_cmp prim_eq (op_eqP hr.units) (nomark _) (se_var 2) (se_str)) (sss_one (ss_ret (se_call (modes := [false, false]) (more := []) (ok_kept_places T) (hr.mono (by decide)) gd rfl T.g_kept_places T.F_kept_places.kp (T.b2_kept_places) .nil (fun _ _ => .nil) rfl (sa_cons (se_var 1) (sa_cons (se_slice (se_call (modes := [false]) (more := []) (ok_by_weight T) (hr.mono (by decide)) gd rfl T.g_by_weight T.F_by_weight.kp (T.b1_by_weight) .nil (fun _ _ => .nil) rfl (sa_cons (se_var 1) (sa_nil))) (so_none) (so_some (se_var 3))) (sa_nil)))))) (sss_nil)) (sss_cons (ss_if (st_cmp prim_eq (op_eqP hr.units) (nomark _) (se_var 2) (se_str)) (sss_one (ss_ret (se_call (modes := [false, false]) (more := []) (ok_shared_out T) (hr.mono (by decide)) gd rfl T.g_shared_out T.F_shared_out.kp (T.b2_shared_out) .nil (fun _ _ => .nil) rfl (sa_cons (se_var 1) (sa_cons (se_var 3) (sa_nil)))))) (sss_nil)) (sss_cons (ss_if (st_cmp prim_eq (op_eqP hr.units) (nomark _) (se_var 2) (se_str)) (sss_one (ss_ret (se_lc rfl sc_made_by.nd (si_seq (se_var 1)) (blkOk_by (own := [("count", 5)]) (N := N_made_by) (sc := defScope s_made_by) (by decide +kernel)) (fun _ _ _ _ _ => sg_name 5 sc_made_by.nd rfl (Or.inl rfl)) (fun _ _ _ _ _ => sts_nil) (fun _ _ _ _ _ => se_if (st_cmp prim_cmp op_ge (nomark _) (se_mul (se_var 5) (se_ix (se_var 3) (se_int))) (se_mul (se_ix (se_var 3) (se_int)) (se_callB prim_maxL (cr_max rfl) rfl T.n_max (by decide +kernel) (sa_cons (se_var 1) (sa_nil))))) (se_var 5) (se_int)) rfl (by decide)))) (sss_nil)) (sss_cons (ss_if (st_cmp prim_eq (op_eqP hr.units) (nomark _) (se_var 2) (se_str)) (sss_one (ss_ret (se_lc rfl sc_made_by.nd (si_enum rfl T.n_enumerate (sa_cons (se_var 1) (sa_nil))) (blkOk_by (own := [("place", 4), ("count", 5)]) (N := N_made_by) (sc := defScope s_made_by) (by decide +kernel)) (fun _ _ _ _ _ => sg_tup rfl (sgs_cons (sg_name 4 sc_made_by.nd rfl (Or.inl rfl)) (sgs_cons (sg_name 5 sc_made_by.nd rfl (Or.inl rfl)) (sgs_nil)))) (fun _ _ _ _ _ => sts_nil) (fun _ _ _ _ _ => se_if (st_cmp prim_inA op_in_seq (by with_unfolding_all rfl) (se_var 4) (se_var 3)) (se_int) (se_var 5)) rfl (by decide)))) (sss_nil)) (sss_one (ss_ret (se_lc rfl sc_made_by.nd (si_enum rfl T.n_enumerate (sa_cons (se_var 1) (sa_nil))) (blkOk_by (own := [("place", 4), ("count", 5)]) (N := N_made_by) (sc := defScope s_made_by) (by decide +kernel)) (fun _ _ _ _ _ => sg_tup rfl (sgs_cons (sg_name 4 sc_made_by.nd rfl (Or.inl rfl)) (sgs_cons (sg_name 5 sc_made_by.nd rfl (Or.inl rfl)) (sgs_nil)))) (fun _ _ _ _ _ => sts_nil) (fun _ _ _ _ _ => se_if (st_cmp prim_eq (op_eqP hr.units) (nomark _) (se_var 4) (se_var 3)) (se_mul (se_var 5) (se_ix (se_var 0) (se_int))) (se_var 5)) rfl (by decide))))))))))⟩
theorem ok_done_by (T : Tx K mg) : FnG P w K mg base CX0 6 T.f_done_by T.d_done_by ["step", "table"] (spD K 2 m_done_by) := by
  show FnG P w K mg base CX0 (5 + 1) T.f_done_by T.d_done_by ["step", "table"] (spD K (["step", "table"] : List Str).length (run N_done_by.length g_done_by))
  refine dl_ok (N := N_done_by) (ps := ["step", "table"]) (k := 5) (b := g_done_by) T.F_done_by sc_done_by (by decide) ?_
  intro cdv A outer s H E hr gd
  exact ⟨_, dl_both (sss_cons (ss_set 2 sc_done_by.nd rfl (Or.inl rfl) (se_call (modes := [false, false]) (more := []) (ok_made_by T) (hr.mono (by decide)) gd rfl T.g_made_by T.F_made_by.kp (T.b2_made_by) .nil (fun _ _ => .nil) rfl (sa_cons (se_var 0) (sa_cons (se_var 1) (sa_nil))))) (sss_one (ss_ret (se_if (st_cmp prim_cmp op_gt (nomark _) (se_callB prim_maxL (cr_max rfl) rfl T.n_max (by decide +kernel) (sa_cons (se_var 2) (sa_nil))) (se_int)) (se_call (modes := [false]) (more := []) (ok_lowest T) (hr.mono (by decide)) gd rfl T.g_lowest T.F_lowest.kp (T.b1_lowest) .nil (fun _ _ => .nil) rfl (sa_cons (se_var 2) (sa_nil))) (se_non)))))⟩
theorem ok_filter_done (T : Tx K mg) : FnG P w K mg base CX0 7 T.f_filter_done T.d_filter_done ["one", "table"] (spD K 2 m_filter_done) := by
  show FnG P w K mg base CX0 (6 + 1) T.f_filter_done T.d_filter_done ["one", "table"] (spD K (["one", "table"] : List Str).length (run N_filter_done.length g_filter_done))
  refine dl_ok (N := N_filter_done) (ps := ["one", "table"]) (k := 6) (b := g_filter_done) T.F_filter_done sc_filter_done (by decide) ?_
  intro cdv A outer s H E hr gd
  exact ⟨_, dl_both (sss_cons (ss_if (st_not (st_val (se_call (modes := [false]) (more := []) (ok_is_filter T) (hr.mono (by decide)) gd rfl T.g_is_filter T.F_is_filter.kp (T.b1_is_filter) .nil (fun _ _ => .nil) rfl (sa_cons (se_var 0) (sa_nil))))) (sss_never) (sss_nil)) (sss_cons (ss_drop (se_call (modes := [false]) (more := []) (ok_check_table T) (hr.mono (by decide)) gd rfl T.g_check_table T.F_check_table.kp (T.b1_check_table) .nil (fun _ _ => .nil) rfl (sa_cons (se_var 1) (sa_nil)))) (sss_one (ss_ret (se_call (modes := [false, false]) (more := []) (ok_done_by T) (hr.mono (by decide)) gd rfl T.g_done_by T.F_done_by.kp (T.b2_done_by) .nil (fun _ _ => .nil) rfl (sa_cons (se_var 0) (sa_cons (se_var 1) (sa_nil))))))))⟩
theorem ok_is_chain (T : Tx K mg) : FnG P w K mg base CX0 4 T.f_is_chain T.d_is_chain ["value"] (spD K 1 m_is_chain) := by
  show FnG P w K mg base CX0 (3 + 1) T.f_is_chain T.d_is_chain ["value"] (spD K (["value"] : List Str).length (run N_is_chain.length g_is_chain))
  refine dl_ok (N := N_is_chain) (ps := ["value"]) (k := 3) (b := g_is_chain) T.F_is_chain sc_is_chain (by decide) ?_
  intro cdv A outer s H E hr gd
  exact ⟨_, dl_both (sss_one (ss_ret (se_and (se_isi tyok_list rfl T.n_isinstance (by decide +kernel) rfl T.n_list (by decide +kernel) (se_var 0)) (se_one (se_callB prim_all (cr_all rfl) rfl T.n_all (by decide +kernel) (sa_cons (se_lc rfl sc_is_chain.nd (si_seq (se_var 0)) (blkOk_by (own := [("step", 1)]) (N := N_is_chain) (sc := defScope s_is_chain) (by decide +kernel)) (fun _ _ _ _ _ => sg_name 1 sc_is_chain.nd rfl (Or.inl rfl)) (fun _ _ _ _ _ => sts_nil) (fun _ _ _ _ _ => se_call (modes := [false]) (more := []) (ok_is_filter T) (hr.mono (by decide)) gd rfl T.g_is_filter T.F_is_filter.kp (T.b1_is_filter) .nil (fun _ _ => .nil) rfl (sa_cons (se_var 1) (sa_nil))) rfl (by decide)) (sa_nil)))))))⟩
theorem ok_check_chain (T : Tx K mg) : FnG P w K mg base CX0 5 T.f_check_chain T.d_check_chain ["chain"] (spD K 1 m_check_chain) := by
  show FnG P w K mg base CX0 (4 + 1) T.f_check_chain T.d_check_chain ["chain"] (spD K (["chain"] : List Str).length (run N_check_chain.length g_check_chain))
  refine dl_ok (N := N_check_chain) (ps := ["chain"]) (k := 4) (b := g_check_chain) T.F_check_chain sc_check_chain (by decide) ?_
  intro cdv A outer s H E hr gd
  exact ⟨_, dl_both (sss_one (ss_if (st_not (st_val (se_call (modes := [false]) (more := []) (ok_is_chain T) (hr.mono (by decide)) gd rfl T.g_is_chain T.F_is_chain.kp (T.b1_is_chain) .nil (fun _ _ => .nil) rfl (sa_cons (se_var 0) (sa_nil))))) (sss_never) (sss_nil)))⟩
theorem ok_table_made (T : Tx K mg) : FnG P w K mg base CX0 7 T.f_table_made T.d_table_made ["chain", "table"] (spD K 2 m_table_made) := by
  show FnG P w K mg base CX0 (6 + 1) T.f_table_made T.d_table_made ["chain", "table"] (spD K (["chain", "table"] : List Str).length (run N_table_made.length g_table_made))
  refine dl_ok (N := N_table_made) (ps := ["chain", "table"]) (k := 6) (b := g_table_made) T.F_table_made sc_table_made (by decide) ?_
  intro cdv A outer s H E hr gd
  exact ⟨_, dl_both (sss_cons (ss_set 2 sc_table_made.nd rfl (Or.inl rfl) (se_call (modes := [false]) (more := []) (ok_lowest T) (hr.mono (by decide)) gd rfl T.g_lowest T.F_lowest.kp (T.b1_lowest) .nil (fun _ _ => .nil) rfl (sa_cons (se_var 1) (sa_nil)))) (sss_cons (ss_for PassesOwn.never rfl (si_seq (se_var 0)) (sg_name 3 sc_table_made.nd rfl (Or.inl rfl)) (sss_cons (ss_set 2 sc_table_made.nd rfl (Or.inl rfl) (se_call (modes := [false, false]) (more := []) (ok_done_by T) (hr.mono (by decide)) gd rfl T.g_done_by T.F_done_by.kp (T.b2_done_by) .nil (fun _ _ => .nil) rfl (sa_cons (se_var 3) (sa_cons (se_var 2) (sa_nil))))) (sss_one (ss_if (st_cmp prim_is op_isC (nomark _) (se_var 2) (se_non)) (sss_one (ss_ret (se_non))) (sss_nil))))) (sss_one (ss_ret (se_var 2)))))⟩
theorem ok_filtered (T : Tx K mg) : FnG P w K mg base CX0 8 T.f_filtered T.d_filtered ["chain", "table"] (spD K 2 m_filtered) := by
  show FnG P w K mg base CX0 (7 + 1) T.f_filtered T.d_filtered ["chain", "table"] (spD K (["chain", "table"] : List Str).length (run N_filtered.length g_filtered))
  refine dl_ok (N := N_filtered) (ps := ["chain", "table"]) (k := 7) (b := g_filtered) T.F_filtered sc_filtered (by decide) ?_
  intro cdv A outer s H E hr gd
  exact ⟨_, dl_both (sss_cons (ss_drop (se_call (modes := [false]) (more := []) (ok_check_chain T) (hr.mono (by decide)) gd rfl T.g_check_chain T.F_check_chain.kp (T.b1_check_chain) .nil (fun _ _ => .nil) rfl (sa_cons (se_var 0) (sa_nil)))) (sss_cons (ss_drop (se_call (modes := [false]) (more := []) (ok_check_table T) (hr.mono (by decide)) gd rfl T.g_check_table T.F_check_table.kp (T.b1_check_table) .nil (fun _ _ => .nil) rfl (sa_cons (se_var 1) (sa_nil)))) (sss_one (ss_ret (se_call (modes := [false, false]) (more := []) (ok_table_made T) (hr.mono (by decide)) gd rfl T.g_table_made T.F_table_made.kp (T.b2_table_made) .nil (fun _ _ => .nil) rfl (sa_cons (se_var 0) (sa_cons (se_var 1) (sa_nil))))))))⟩
theorem ok__law_hash (T : Tx K mg) : FnG P w K mg base CX0 1 T.f__law_hash T.d__law_hash ["seed", "index"] (spD K 2 m__law_hash) := by
  show FnG P w K mg base CX0 (0 + 1) T.f__law_hash T.d__law_hash ["seed", "index"] (spD K (["seed", "index"] : List Str).length (run N__law_hash.length g__law_hash))
  refine dl_ok (N := N__law_hash) (ps := ["seed", "index"]) (k := 0) (b := g__law_hash) T.F__law_hash sc__law_hash (by decide) ?_
  intro cdv A outer s H E hr gd
  exact ⟨_, dl_both (sss_cons (ss_set 2 sc__law_hash.nd rfl (Or.inl rfl) (se_mod (se_callTy prim_int call_int1 rfl T.n_int (by decide +kernel) (sa_cons (se_add (se_add (se_add (se_mul (se_var 0) (se_int)) (se_mul (se_mul (se_int) (se_var 1)) (se_var 1))) (se_mul (se_int) (se_var 1))) (se_int)) (sa_nil))) (se_int))) (sss_cons (ss_set 2 sc__law_hash.nd rfl (Or.inl rfl) (se_mod (se_callTy prim_int call_int1 rfl T.n_int (by decide +kernel) (sa_cons (se_add (se_add (se_mul (se_var 2) (se_var 2)) (se_mul (se_int) (se_var 1))) (se_int)) (sa_nil))) (se_int))) (sss_one (ss_ret (se_mod (se_callTy prim_int call_int1 rfl T.n_int (by decide +kernel) (sa_cons (se_mul (se_var 2) (se_int)) (sa_nil))) (se_int))))))⟩
theorem ok__law_random (T : Tx K mg) : FnG P w K mg base CX0 2 T.f__law_random T.d__law_random ["generator", "bound"] (spD K 2 m__law_random) := by
  show FnG P w K mg base CX0 (1 + 1) T.f__law_random T.d__law_random ["generator", "bound"] (spD K (["generator", "bound"] : List Str).length (run N__law_random.length g__law_random))
  refine dl_ok (N := N__law_random) (ps := ["generator", "bound"]) (k := 1) (b := g__law_random) T.F__law_random sc__law_random (by decide) ?_
  intro cdv A outer s H E hr gd
  exact ⟨_, dl_both (sss_cons (ss_if (st_cmp prim_cmp op_gt (nomark _) (se_ix (se_var 0) (se_int)) (se_int)) (sss_cons (ss_set 2 sc__law_random.nd rfl (Or.inl rfl) (se_mod (se_callTy prim_int call_int1 rfl T.n_int (by decide +kernel) (sa_cons (se_ix (se_var 0) (se_int)) (sa_nil))) (se_var 1))) (sss_cons (ss_setIx 0 (pv 0) (se_int) (se_div (se_ix (se_var 0) (se_int)) (se_var 1))) (sss_one (ss_ret (se_var 2))))) (sss_nil)) (sss_cons (ss_set 2 sc__law_random.nd rfl (Or.inl rfl) (se_int)) (sss_cons (ss_for PassesOwn.never rfl (si_range1 rfl T.n_range (sa_cons (se_add (se_int) (se_div (se_bits (se_var 1)) (se_int))) (sa_nil))) (sg_name 3 sc__law_random.nd rfl (Or.inl rfl)) (sss_cons (ss_setIx 0 (pv 0) (se_int) (se_add (se_ix (se_var 0) (se_int)) (se_int))) (sss_one (ss_set 2 sc__law_random.nd rfl (Or.inl rfl) (se_add (se_mul (se_var 2) (se_int)) (se_call (modes := [false, false]) (more := []) (ok__law_hash T) (hr.mono (by decide)) gd rfl T.g__law_hash T.F__law_hash.kp (T.b2__law_hash) .nil (fun _ _ => .nil) rfl (sa_cons (se_ix (se_var 0) (se_int)) (sa_cons (se_ix (se_var 0) (se_int)) (sa_nil))))))))) (sss_one (ss_ret (se_mod (se_callTy prim_int call_int1 rfl T.n_int (by decide +kernel) (sa_cons (se_var 2) (sa_nil))) (se_var 1)))))))⟩
theorem ok__law_cell (T : Tx K mg) : FnG P w K mg base CX0 1 T.f__law_cell T.d__law_cell ["script", "index"] (spD K 2 m__law_cell) := by
  show FnG P w K mg base CX0 (0 + 1) T.f__law_cell T.d__law_cell ["script", "index"] (spD K (["script", "index"] : List Str).length (run N__law_cell.length g__law_cell))
  refine dl_ok (N := N__law_cell) (ps := ["script", "index"]) (k := 0) (b := g__law_cell) T.F__law_cell sc__law_cell (by decide) ?_
  intro cdv A outer s H E hr gd
  exact ⟨_, dl_both (sss_cons (ss_if (st_cmp prim_cmp op_lt (nomark _) (se_var 1) (se_callB prim_len call_lenD' rfl T.n_len (by decide +kernel) (sa_cons (se_var 0) (sa_nil)))) (sss_one (ss_ret (se_ix (se_var 0) (se_var 1)))) (sss_nil)) (sss_one (ss_ret (se_mod (se_callB prim_sum (cr_sum rfl) rfl T.n_sum (by decide +kernel) (sa_cons (se_slice (se_var 0) (so_none) (so_some (se_int))) (sa_nil))) (se_int)))))⟩
theorem ok__law_generator (T : Tx K mg) : FnG P w K mg base CX0 2 T.f__law_generator T.d__law_generator ["script", "index"] (spD K 2 m__law_generator) := by
  show FnG P w K mg base CX0 (1 + 1) T.f__law_generator T.d__law_generator ["script", "index"] (spD K (["script", "index"] : List Str).length (run N__law_generator.length g__law_generator))
  refine dl_ok (N := N__law_generator) (ps := ["script", "index"]) (k := 1) (b := g__law_generator) T.F__law_generator sc__law_generator (by decide) ?_
  intro cdv A outer s H E hr gd
  exact ⟨_, dl_both (sss_cons (ss_set 2 sc__law_generator.nd rfl (Or.inl rfl) (se_call (modes := [false, false]) (more := []) (ok__law_cell T) (hr.mono (by decide)) gd rfl T.g__law_cell T.F__law_cell.kp (T.b2__law_cell) .nil (fun _ _ => .nil) rfl (sa_cons (se_var 0) (sa_cons (se_var 1) (sa_nil))))) (sss_one (ss_ret (se_lst (sa_cons (se_mod (se_callTy prim_int call_int1 rfl T.n_int (by decide +kernel) (sa_cons (se_callB prim_max2 (call_maxI rfl) rfl T.n_max (by decide +kernel) (sa_cons (se_sub (se_var 2) (se_pow (se_int) (se_int))) (sa_cons (se_int) (sa_nil)))) (sa_nil))) (se_powW (se_pow (se_int) (se_int)) (se_int))) (sa_cons (se_mod (se_callTy prim_int call_int1 rfl T.n_int (by decide +kernel) (sa_cons (se_var 2) (sa_nil))) (se_int)) (sa_cons (se_mul (se_int) (se_var 1)) (sa_nil))))))))⟩
theorem ok__law_pick (T : Tx K mg) : FnG P w K mg base CX0 3 T.f__law_pick T.d__law_pick ["generator", "row"] (spD K 2 m__law_pick) := by
  show FnG P w K mg base CX0 (2 + 1) T.f__law_pick T.d__law_pick ["generator", "row"] (spD K (["generator", "row"] : List Str).length (run N__law_pick.length g__law_pick))
  refine dl_ok (N := N__law_pick) (ps := ["generator", "row"]) (k := 2) (b := g__law_pick) T.F__law_pick sc__law_pick (by decide) ?_
  intro cdv A outer s H E hr gd
  exact ⟨_, dl_both (sss_one (ss_ret (se_ix (se_var 1) (se_call (modes := [true, false]) (more := []) (ok__law_random T) (hr.mono (by decide)) gd rfl T.g__law_random T.F__law_random.kp (T.b2__law_random) .nil (fun _ _ => .nil) rfl (sa_cons (se_var 0) (sa_cons (se_callB prim_len call_lenD' rfl T.n_len (by decide +kernel) (sa_cons (se_var 1) (sa_nil))) (sa_nil)))))))⟩
theorem ok__law_same (T : Tx K mg) : ∀ n : Nat, FnG P w K mg base CX0 (0 + n) T.f__law_same T.d__law_same ["told", "due"] (spD K 2 (m__law_same n))
  | 0 => fnG_none rfl
  | n + 1 => by
    have ih := ok__law_same T n
    show FnG P w K mg base CX0 (0 + n + 1) T.f__law_same T.d__law_same ["told", "due"] (spD K (["told", "due"] : List Str).length (run N__law_same.length (g__law_same (m__law_same n))))
    refine dl_ok (N := N__law_same) (ps := ["told", "due"]) (k := 0 + n) (b := (g__law_same (m__law_same n))) T.F__law_same sc__law_same (by decide) ?_
    intro cdv A outer s H E hr gd
    exact ⟨_, dl_both (sss_cons (ss_if (st_w (sw_or (st_val (se_isi tyok_tuple rfl T.n_isinstance (by decide +kernel) rfl T.n_tuple (by decide +kernel) (se_var 1))) (sw_or1 (st_val (se_isi tyok_list rfl T.n_isinstance (by decide +kernel) rfl T.n_list (by decide +kernel) (se_var 1)))))) (sss_cons (ss_if (st_w (sw_or (st_cmp prim_ne (op_neP hr.units) (nomark _) (se_isi tyok_tuple rfl T.n_isinstance (by decide +kernel) rfl T.n_tuple (by decide +kernel) (se_var 0)) (se_isi tyok_tuple rfl T.n_isinstance (by decide +kernel) rfl T.n_tuple (by decide +kernel) (se_var 1))) (sw_or1 (st_cmp prim_ne (op_neP hr.units) (nomark _) (se_isi tyok_list rfl T.n_isinstance (by decide +kernel) rfl T.n_list (by decide +kernel) (se_var 0)) (se_isi tyok_list rfl T.n_isinstance (by decide +kernel) rfl T.n_list (by decide +kernel) (se_var 1)))))) (sss_one (ss_ret (se_bl))) (sss_nil)) (sss_one (ss_ret (se_and (se_cmp prim_eq (op_eqP hr.units) (nomark _) (se_callB prim_len call_lenD' rfl T.n_len (by decide +kernel) (sa_cons (se_var 0) (sa_nil))) (se_callB prim_len call_lenD' rfl T.n_len (by decide +kernel) (sa_cons (se_var 1) (sa_nil)))) (se_one (se_cmp prim_eq (op_eqP hr.units) (nomark _) (se_lc rfl sc__law_same.nd (si_range1 rfl T.n_range (sa_cons (se_callB prim_len call_lenD' rfl T.n_len (by decide +kernel) (sa_cons (se_var 1) (sa_nil))) (sa_nil))) (blkOk_by (own := [("at", 2)]) (N := N__law_same) (sc := defScope s__law_same) (by decide +kernel)) (fun _ _ _ _ _ => sg_name 2 sc__law_same.nd rfl (Or.inl rfl)) (fun _ _ _ _ _ => sts_one (st_not (st_val (se_call (modes := [false, false]) (more := []) ih (hr.mono (by omega)) gd rfl T.g__law_same T.F__law_same.kp (T.b2__law_same) .nil (fun _ _ => .nil) rfl (sa_cons (se_ix (se_var 0) (se_var 2)) (sa_cons (se_ix (se_var 1) (se_var 2)) (sa_nil))))))) (fun _ _ _ _ _ => se_var 2) rfl (by decide)) (se_lst (sa_nil)))))))) (sss_nil)) (sss_cons (ss_if (st_w (sw_or (st_val (se_isi tyok_bool rfl T.n_isinstance (by decide +kernel) rfl T.n_bool (by decide +kernel) (se_var 1))) (sw_or1 (st_val (se_isi tyok_bool rfl T.n_isinstance (by decide +kernel) rfl T.n_bool (by decide +kernel) (se_var 0)))))) (sss_one (ss_ret (se_if (st_cmp prim_is op_isC (nomark _) (se_var 1) (se_bl)) (se_cmp prim_is op_isC (nomark _) (se_var 0) (se_bl)) (se_if (st_cmp prim_is op_isC (nomark _) (se_var 1) (se_bl)) (se_cmp prim_is op_isC (nomark _) (se_var 0) (se_bl)) (se_bl))))) (sss_nil)) (sss_cons (ss_if (st_val (se_isi tyok_int rfl T.n_isinstance (by decide +kernel) rfl T.n_int (by decide +kernel) (se_var 1))) (sss_one (ss_ret (se_and (se_isi tyok_int rfl T.n_isinstance (by decide +kernel) rfl T.n_int (by decide +kernel) (se_var 0)) (se_one (se_cmp prim_eq (op_eqP hr.units) (nomark _) (se_var 0) (se_var 1)))))) (sss_nil)) (sss_cons (ss_if (st_val (se_isi tyok_str rfl T.n_isinstance (by decide +kernel) rfl T.n_str (by decide +kernel) (se_var 1))) (sss_one (ss_ret (se_and (se_isi tyok_str rfl T.n_isinstance (by decide +kernel) rfl T.n_str (by decide +kernel) (se_var 0)) (se_one (se_cmp prim_eq (op_eqP hr.units) (nomark _) (se_var 0) (se_var 1)))))) (sss_nil)) (sss_one (ss_ret (se_and (se_cmp prim_is op_isC (nomark _) (se_var 1) (se_non)) (se_one (se_cmp prim_is op_isC (nomark _) (se_var 0) (se_non))))))))))⟩
theorem ok__law_common (T : Tx K mg) : FnG P w K mg base CX0 1 T.f__law_common T.d__law_common ["one", "other"] (spD K 2 m__law_common) := by
  show FnG P w K mg base CX0 (0 + 1) T.f__law_common T.d__law_common ["one", "other"] (spD K (["one", "other"] : List Str).length (run N__law_common.length g__law_common))
  refine dl_ok (N := N__law_common) (ps := ["one", "other"]) (k := 0) (b := g__law_common) T.F__law_common sc__law_common (by decide) ?_
  intro cdv A outer s H E hr gd
  exact ⟨_, dl_both (sss_cons (ss_while PassesOwn.never (st_cmp prim_cmp op_gt (nomark _) (se_var 1) (se_int)) (sss_one (ss_par 0 1 rfl sc__law_common.nd rfl rfl (by decide) rfl rfl (sa_cons (se_var 1) (sa_cons (se_mod (se_var 0) (se_var 1)) (sa_nil))) rfl))) (sss_one (ss_ret (se_var 0))))⟩
theorem ok__law_odds (T : Tx K mg) : FnG P w K mg base CX0 2 T.f__law_odds T.d__law_odds ["top", "under"] (spD K 2 m__law_odds) := by
  show FnG P w K mg base CX0 (1 + 1) T.f__law_odds T.d__law_odds ["top", "under"] (spD K (["top", "under"] : List Str).length (run N__law_odds.length g__law_odds))
  refine dl_ok (N := N__law_odds) (ps := ["top", "under"]) (k := 1) (b := g__law_odds) T.F__law_odds sc__law_odds (by decide) ?_
  intro cdv A outer s H E hr gd
  exact ⟨_, dl_both (sss_cons (ss_set 2 sc__law_odds.nd rfl (Or.inl rfl) (se_call (modes := [false, false]) (more := []) (ok__law_common T) (hr.mono (by decide)) gd rfl T.g__law_common T.F__law_common.kp (T.b2__law_common) .nil (fun _ _ => .nil) rfl (sa_cons (se_var 0) (sa_cons (se_var 1) (sa_nil))))) (sss_one (ss_ret (se_tup (sa_cons (se_div (se_var 0) (se_var 2)) (sa_cons (se_div (se_var 1) (se_var 2)) (sa_nil)))))))⟩
theorem ok__law_raised (T : Tx K mg) : FnG P w K mg base CX0 1 T.f__law_raised T.d__law_raised ["number", "times"] (spD K 2 m__law_raised) := by
  show FnG P w K mg base CX0 (0 + 1) T.f__law_raised T.d__law_raised ["number", "times"] (spD K (["number", "times"] : List Str).length (run N__law_raised.length g__law_raised))
  refine dl_ok (N := N__law_raised) (ps := ["number", "times"]) (k := 0) (b := g__law_raised) T.F__law_raised sc__law_raised (by decide) ?_
  intro cdv A outer s H E hr gd
  exact ⟨_, dl_both (sss_cons (ss_set 2 sc__law_raised.nd rfl (Or.inl rfl) (se_int)) (sss_cons (ss_for PassesOwn.never rfl (si_range1 rfl T.n_range (sa_cons (se_var 1) (sa_nil))) (sg_name 3 sc__law_raised.nd rfl (Or.inl rfl)) (sss_one (ss_set 2 sc__law_raised.nd rfl (Or.inl rfl) (se_mul (se_var 2) (se_var 0))))) (sss_one (ss_ret (se_var 2)))))⟩
theorem ok__law_lowest (T : Tx K mg) : FnG P w K mg base CX0 2 T.f__law_lowest T.d__law_lowest ["table"] (spD K 1 m__law_lowest) := by
  show FnG P w K mg base CX0 (1 + 1) T.f__law_lowest T.d__law_lowest ["table"] (spD K (["table"] : List Str).length (run N__law_lowest.length g__law_lowest))
  refine dl_ok (N := N__law_lowest) (ps := ["table"]) (k := 1) (b := g__law_lowest) T.F__law_lowest sc__law_lowest (by decide) ?_
  intro cdv A outer s H E hr gd
  exact ⟨_, dl_both (sss_cons (ss_set 1 sc__law_lowest.nd rfl (Or.inr rfl) (se_int)) (sss_cons (ss_for PassesOwn.never rfl (si_seq (se_var 0)) (sg_name 2 sc__law_lowest.nd rfl (Or.inl rfl)) (sss_one (ss_set 1 sc__law_lowest.nd rfl (Or.inr rfl) (se_call (modes := [false, false]) (more := []) (ok__law_common T) (hr.mono (by decide)) gd rfl T.g__law_common T.F__law_common.kp (T.b2__law_common) .nil (fun _ _ => .nil) rfl (sa_cons (se_var 1) (sa_cons (se_var 2) (sa_nil))))))) (sss_one (ss_ret (se_lc rfl sc__law_lowest.nd (si_seq (se_var 0)) (blkOk_by (own := [("count", 2)]) (N := N__law_lowest) (sc := defScope s__law_lowest) (by decide +kernel)) (fun _ _ _ _ _ => sg_name 2 sc__law_lowest.nd rfl (Or.inl rfl)) (fun _ _ _ _ _ => sts_nil) (fun _ _ _ _ _ => se_div (se_var 2) (se_var 1)) rfl (by decide))))))⟩
theorem ok__law_table (T : Tx K mg) : FnG P w K mg base CX0 4 T.f__law_table T.d__law_table ["generator", "places"] (spD K 2 m__law_table) := by
  show FnG P w K mg base CX0 (3 + 1) T.f__law_table T.d__law_table ["generator", "places"] (spD K (["generator", "places"] : List Str).length (run N__law_table.length g__law_table))
  refine dl_ok (N := N__law_table) (ps := ["generator", "places"]) (k := 3) (b := g__law_table) T.F__law_table sc__law_table (by decide) ?_
  intro cdv A outer s H E hr gd
  exact ⟨_, dl_both (sss_cons (ss_set 2 sc__law_table.nd rfl (Or.inr rfl) (se_call (modes := [true, false]) (more := []) (ok__law_pick T) (hr.mono (by decide)) gd rfl T.g__law_pick T.F__law_pick.kp (T.b2__law_pick) .nil (fun _ _ => .nil) rfl (sa_cons (se_var 0) (sa_cons (se_lst (sa_cons (se_int) (sa_cons (se_int) (sa_cons (se_int) (sa_cons (se_int) (sa_cons (se_int) (sa_cons (se_pow (se_int) (se_int)) (sa_nil)))))))) (sa_nil))))) (sss_cons (ss_setLc 3 rfl sc__law_table.nd rfl rfl (sw_true rfl rfl rfl (by decide +kernel)) (si_range1 rfl T.n_range (sa_cons (se_var 1) (sa_nil))) (blkOk_by (own := [("place", 4)]) (N := N__law_table) (sc := defScope s__law_table) (by decide +kernel)) (fun _ _ _ _ _ => sg_name 4 sc__law_table.nd rfl (Or.inl rfl)) (fun _ _ _ _ _ => sts_nil) (fun _ _ _ _ _ => se_call (modes := [true, false]) (more := []) (ok__law_random T) (hr.mono (by decide)) gd rfl T.g__law_random T.F__law_random.kp (T.b2__law_random) .nil (fun _ _ => .nil) rfl (sa_cons (se_var 0) (sa_cons (se_var 2) (sa_nil)))) rfl (by decide)) (sss_cons (ss_if (st_cmp prim_eq (op_eqP hr.units) (nomark _) (se_callB prim_maxL (cr_max rfl) rfl T.n_max (by decide +kernel) (sa_cons (se_var 3) (sa_nil))) (se_int)) (sss_one (ss_setIx 3 (pv 3) (se_call (modes := [true, false]) (more := []) (ok__law_random T) (hr.mono (by decide)) gd rfl T.g__law_random T.F__law_random.kp (T.b2__law_random) .nil (fun _ _ => .nil) rfl (sa_cons (se_var 0) (sa_cons (se_var 1) (sa_nil)))) (se_add (se_int) (se_call (modes := [true, false]) (more := []) (ok__law_random T) (hr.mono (by decide)) gd rfl T.g__law_random T.F__law_random.kp (T.b2__law_random) .nil (fun _ _ => .nil) rfl (sa_cons (se_var 0) (sa_cons (se_var 2) (sa_nil))))))) (sss_nil)) (sss_one (ss_ret (se_var 3))))))⟩
theorem ok__law_filter (T : Tx K mg) : FnG P w K mg base CX0 4 T.f__law_filter T.d__law_filter ["generator", "places"] (spD K 2 m__law_filter) := by
  show FnG P w K mg base CX0 (3 + 1) T.f__law_filter T.d__law_filter ["generator", "places"] (spD K (["generator", "places"] : List Str).length (run N__law_filter.length g__law_filter))
  refine dl_ok (N := N__law_filter) (ps := ["generator", "places"]) (k := 3) (b := g__law_filter) T.F__law_filter sc__law_filter (by decide) ?_
  intro cdv A outer s H E hr gd
  exact ⟨_, dl_both (sss_cons (ss_set 2 sc__law_filter.nd rfl (Or.inl rfl) (se_call (modes := [true, false]) (more := []) (ok__law_random T) (hr.mono (by decide)) gd rfl T.g__law_random T.F__law_random.kp (T.b2__law_random) .nil (fun _ _ => .nil) rfl (sa_cons (se_var 0) (sa_cons (se_int) (sa_nil))))) (sss_cons (ss_if (st_cmp prim_eq (op_eqP hr.units) (nomark _) (se_var 2) (se_int)) (sss_one (ss_ret (se_tup (sa_cons (se_str) (sa_cons (se_add (se_int) (se_call (modes := [true, false]) (more := []) (ok__law_random T) (hr.mono (by decide)) gd rfl T.g__law_random T.F__law_random.kp (T.b2__law_random) .nil (fun _ _ => .nil) rfl (sa_cons (se_var 0) (sa_cons (se_int) (sa_nil))))) (sa_nil)))))) (sss_nil)) (sss_cons (ss_if (st_cmp prim_eq (op_eqP hr.units) (nomark _) (se_var 2) (se_int)) (sss_one (ss_ret (se_tup (sa_cons (se_str) (sa_cons (se_add (se_int) (se_call (modes := [true, false]) (more := []) (ok__law_random T) (hr.mono (by decide)) gd rfl T.g__law_random T.F__law_random.kp (T.b2__law_random) .nil (fun _ _ => .nil) rfl (sa_cons (se_var 0) (sa_cons (se_add (se_var 1) (se_int)) (sa_nil))))) (sa_nil)))))) (sss_nil)) (sss_cons (ss_if (st_cmp prim_cmp op_lt (nomark _) (se_var 2) (se_int)) (sss_cons (ss_set 3 sc__law_filter.nd rfl (Or.inl rfl) (se_add (se_int) (se_call (modes := [true, false]) (more := []) (ok__law_random T) (hr.mono (by decide)) gd rfl T.g__law_random T.F__law_random.kp (T.b2__law_random) .nil (fun _ _ => .nil) rfl (sa_cons (se_var 0) (sa_cons (se_call (modes := [true, false]) (more := []) (ok__law_pick T) (hr.mono (by decide)) gd rfl T.g__law_pick T.F__law_pick.kp (T.b2__law_pick) .nil (fun _ _ => .nil) rfl (sa_cons (se_var 0) (sa_cons (se_lst (sa_cons (se_int) (sa_cons (se_int) (sa_cons (se_pow (se_int) (se_int)) (sa_nil))))) (sa_nil)))) (sa_nil)))))) (sss_cons (ss_set 4 sc__law_filter.nd rfl (Or.inl rfl) (se_call (modes := [true, false]) (more := []) (ok__law_random T) (hr.mono (by decide)) gd rfl T.g__law_random T.F__law_random.kp (T.b2__law_random) .nil (fun _ _ => .nil) rfl (sa_cons (se_var 0) (sa_cons (se_add (se_var 3) (se_int)) (sa_nil))))) (sss_one (ss_ret (se_if (st_cmp prim_eq (op_eqP hr.units) (nomark _) (se_var 2) (se_int)) (se_tup (sa_cons (se_str) (sa_cons (se_call (modes := [false, false]) (more := []) (ok__law_odds T) (hr.mono (by decide)) gd rfl T.g__law_odds T.F__law_odds.kp (T.b2__law_odds) .nil (fun _ _ => .nil) rfl (sa_cons (se_callB prim_max2 (call_maxI rfl) rfl T.n_max (by decide +kernel) (sa_cons (se_var 4) (sa_cons (se_int) (sa_nil)))) (sa_cons (se_var 3) (sa_nil)))) (sa_nil)))) (se_tup (sa_cons (se_str) (sa_cons (se_call (modes := [false, false]) (more := []) (ok__law_odds T) (hr.mono (by decide)) gd rfl T.g__law_odds T.F__law_odds.kp (T.b2__law_odds) .nil (fun _ _ => .nil) rfl (sa_cons (se_var 4) (sa_cons (se_var 3) (sa_nil)))) (sa_nil))))))))) (sss_nil)) (sss_cons (ss_if (st_cmp prim_eq (op_eqP hr.units) (nomark _) (se_var 2) (se_int)) (sss_one (ss_ret (se_tup (sa_cons (se_str) (sa_cons (se_lc rfl sc__law_filter.nd (si_range1 rfl T.n_range (sa_cons (se_add (se_var 1) (se_int)) (sa_nil))) (blkOk_by (own := [("place", 5)]) (N := N__law_filter) (sc := defScope s__law_filter) (by decide +kernel)) (fun _ _ _ _ _ => sg_name 5 sc__law_filter.nd rfl (Or.inl rfl)) (fun _ _ _ _ _ => sts_one (st_cmp prim_eq (op_eqP hr.units) (nomark _) (se_call (modes := [true, false]) (more := []) (ok__law_random T) (hr.mono (by decide)) gd rfl T.g__law_random T.F__law_random.kp (T.b2__law_random) .nil (fun _ _ => .nil) rfl (sa_cons (se_var 0) (sa_cons (se_int) (sa_nil)))) (se_int))) (fun _ _ _ _ _ => se_var 5) rfl (by decide)) (sa_nil)))))) (sss_nil)) (sss_one (ss_ret (se_tup (sa_cons (se_str) (sa_cons (se_call (modes := [true, false]) (more := []) (ok__law_random T) (hr.mono (by decide)) gd rfl T.g__law_random T.F__law_random.kp (T.b2__law_random) .nil (fun _ _ => .nil) rfl (sa_cons (se_var 0) (sa_cons (se_add (se_var 1) (se_int)) (sa_nil)))) (sa_cons (se_add (se_int) (se_call (modes := [true, false]) (more := []) (ok__law_random T) (hr.mono (by decide)) gd rfl T.g__law_random T.F__law_random.kp (T.b2__law_random) .nil (fun _ _ => .nil) rfl (sa_cons (se_var 0) (sa_cons (se_int) (sa_nil))))) (sa_nil))))))))))))⟩
theorem ok__law_by_weight (T : Tx K mg) : FnG P w K mg base CX0 1 T.f__law_by_weight T.d__law_by_weight ["table"] (spD K 1 m__law_by_weight) := by
  show FnG P w K mg base CX0 (0 + 1) T.f__law_by_weight T.d__law_by_weight ["table"] (spD K (["table"] : List Str).length (run N__law_by_weight.length g__law_by_weight))
  refine dl_ok (N := N__law_by_weight) (ps := ["table"]) (k := 0) (b := g__law_by_weight) T.F__law_by_weight sc__law_by_weight (by decide) ?_
  intro cdv A outer s H E hr gd
  exact ⟨_, dl_both (sss_cons (ss_parW2 1 2 rfl sc__law_by_weight.nd rfl rfl (by decide) rfl rfl (se_listR rfl rfl T.n_list rfl T.n_range (se_callB prim_len call_lenD' rfl T.n_len (by decide +kernel) (sa_cons (se_var 0) (sa_nil)))) (se_lst (sa_nil)) rfl) (sss_cons (ss_while PassesOwn.never (st_cmp prim_ne (op_neP hr.units) (nomark _) (se_var 1) (se_lst (sa_nil))) (sss_cons (ss_set 3 sc__law_by_weight.nd rfl (Or.inl rfl) (se_ix (se_var 1) (se_int))) (sss_cons (ss_forB 1 PassesOwn.never rfl (by decide) (frame_if (frame_set (by decide)) (frame_next)) (si_seq (se_var 1)) (sg_name 4 sc__law_by_weight.nd rfl (Or.inl rfl)) (sss_one (ss_if (st_cmp prim_cmp op_gt (nomark _) (se_ix (se_var 0) (se_var 4)) (se_ix (se_var 0) (se_var 3))) (sss_one (ss_set 3 sc__law_by_weight.nd rfl (Or.inl rfl) (se_var 4))) (sss_nil)))) (sss_cons (ss_append 2 (fun h => pe_bm PySem.F.plainAttrs_list PySem.F.slot_list_append PySem.F.type_list_append mt_append (pv 2) (pa_cons h pa_nil)) (se_var 3)) (sss_one (ss_remove 1 (fun h => pe_bm PySem.F.plainAttrs_list PySem.F.slot_list_remove PySem.F.type_list_remove mt_remove (pv 1) (pa_cons h pa_nil)) (se_var 3))))))) (sss_one (ss_ret (se_var 2)))))⟩
theorem ok__law_kept (T : Tx K mg) : FnG P w K mg base CX0 1 T.f__law_kept T.d__law_kept ["table", "places"] (spD K 2 m__law_kept) := by
  show FnG P w K mg base CX0 (0 + 1) T.f__law_kept T.d__law_kept ["table", "places"] (spD K (["table", "places"] : List Str).length (run N__law_kept.length g__law_kept))
  refine dl_ok (N := N__law_kept) (ps := ["table", "places"]) (k := 0) (b := g__law_kept) T.F__law_kept sc__law_kept (by decide) ?_
  intro cdv A outer s H E hr gd
  exact ⟨_, dl_both (sss_one (ss_ret (se_lc rfl sc__law_kept.nd (si_enum rfl T.n_enumerate (sa_cons (se_var 0) (sa_nil))) (blkOk_by (own := [("place", 2), ("count", 3)]) (N := N__law_kept) (sc := defScope s__law_kept) (by decide +kernel)) (fun _ _ _ _ _ => sg_tup rfl (sgs_cons (sg_name 2 sc__law_kept.nd rfl (Or.inl rfl)) (sgs_cons (sg_name 3 sc__law_kept.nd rfl (Or.inl rfl)) (sgs_nil)))) (fun _ _ _ _ _ => sts_nil) (fun _ _ _ _ _ => se_mul (se_var 3) (se_callTy prim_int call_int1 rfl T.n_int (by decide +kernel) (sa_cons (se_cmp prim_inA op_in_seq (by with_unfolding_all rfl) (se_var 2) (se_var 1)) (sa_nil)))) rfl (by decide))))⟩
theorem ok__law_shared (T : Tx K mg) : FnG P w K mg base CX0 2 T.f__law_shared T.d__law_shared ["table", "odds"] (spD K 2 m__law_shared) := by
  show FnG P w K mg base CX0 (1 + 1) T.f__law_shared T.d__law_shared ["table", "odds"] (spD K (["table", "odds"] : List Str).length (run N__law_shared.length g__law_shared))
  refine dl_ok (N := N__law_shared) (ps := ["table", "odds"]) (k := 1) (b := g__law_shared) T.F__law_shared sc__law_shared (by decide) ?_
  intro cdv A outer s H E hr gd
  exact ⟨_, dl_both (sss_cons (ss_par 2 3 rfl sc__law_shared.nd rfl rfl (by decide) rfl rfl (sa_cons (se_int) (sa_cons (se_lst (sa_nil)) (sa_nil))) rfl) (sss_cons (ss_for PassesOwn.never rfl (si_seq (se_call (modes := [false]) (more := []) (ok__law_by_weight T) (hr.mono (by decide)) gd rfl T.g__law_by_weight T.F__law_by_weight.kp (T.b1__law_by_weight) .nil (fun _ _ => .nil) rfl (sa_cons (se_var 0) (sa_nil)))) (sg_name 4 sc__law_shared.nd rfl (Or.inl rfl)) (sss_cons (ss_if (st_cmp prim_cmp op_ge (nomark _) (se_mul (se_var 2) (se_ix (se_var 1) (se_int))) (se_mul (se_ix (se_var 1) (se_int)) (se_callB prim_sum (cr_sum rfl) rfl T.n_sum (by decide +kernel) (sa_cons (se_var 0) (sa_nil))))) (sss_one (ss_ret (se_call (modes := [false, false]) (more := []) (ok__law_kept T) (hr.mono (by decide)) gd rfl T.g__law_kept T.F__law_kept.kp (T.b2__law_kept) .nil (fun _ _ => .nil) rfl (sa_cons (se_var 0) (sa_cons (se_var 3) (sa_nil)))))) (sss_nil)) (sss_one (ss_par 3 2 rfl sc__law_shared.nd rfl rfl (by decide) rfl rfl (sa_cons (se_add (se_var 3) (se_lst (sa_cons (se_var 4) (sa_nil)))) (sa_cons (se_add (se_var 2) (se_ix (se_var 0) (se_var 4))) (sa_nil))) rfl)))) (sss_one (ss_ret (se_callTy prim_list call_list_of rfl T.n_list (by decide +kernel) (sa_cons (se_var 0) (sa_nil)))))))⟩
theorem ok__law_made (T : Tx K mg) : FnG P w K mg base CX0 3 T.f__law_made T.d__law_made ["one", "table"] (spD K 2 m__law_made) := by
  show FnG P w K mg base CX0 (2 + 1) T.f__law_made T.d__law_made ["one", "table"] (spD K (["one", "table"] : List Str).length (run N__law_made.length g__law_made))
  refine dl_ok (N := N__law_made) (ps := ["one", "table"]) (k := 2) (b := g__law_made) T.F__law_made sc__law_made (by decide) ?_
  intro cdv A outer s H E hr gd
  exact ⟨_, dl_both (sss_cons (ss_asg (se_tup (sa_cons (se_ix (se_var 0) (se_int)) (sa_cons (se_ix (se_var 0) (se_int)) (sa_nil)))) (sg_tup rfl (sgs_cons (sg_name 2 sc__law_made.nd rfl (Or.inl rfl)) (sgs_cons (sg_name 3 sc__law_made.nd rfl (Or.inr rfl)) (sgs_nil))))) (sss_cons (ss_if (st_cmp prim_eq (op_eqP hr.units) (nomark _) (se_var 2) (se_str)) (sss_one (ss_setLc 4 rfl sc__law_made.nd rfl rfl (sw_true rfl rfl rfl (by decide +kernel)) (si_seq (se_var 1)) (blkOk_by (own := [("count", 5)]) (N := N__law_made) (sc := defScope s__law_made) (by decide +kernel)) (fun _ _ _ _ _ => sg_name 5 sc__law_made.nd rfl (Or.inl rfl)) (fun _ _ _ _ _ => sts_nil) (fun _ _ _ _ _ => se_call (modes := [false, false]) (more := []) (ok__law_raised T) (hr.mono (by decide)) gd rfl T.g__law_raised T.F__law_raised.kp (T.b2__law_raised) .nil (fun _ _ => .nil) rfl (sa_cons (se_var 5) (sa_cons (se_var 3) (sa_nil)))) rfl (by decide))) (sss_one (ss_if (st_cmp prim_eq (op_eqP hr.units) (nomark _) (se_var 2) (se_str)) (sss_one (ss_set 4 sc__law_made.nd rfl (Or.inl rfl) (se_call (modes := [false, false]) (more := []) (ok__law_kept T) (hr.mono (by decide)) gd rfl T.g__law_kept T.F__law_kept.kp (T.b2__law_kept) .nil (fun _ _ => .nil) rfl (sa_cons (se_var 1) (sa_cons (se_slice (se_call (modes := [false]) (more := []) (ok__law_by_weight T) (hr.mono (by decide)) gd rfl T.g__law_by_weight T.F__law_by_weight.kp (T.b1__law_by_weight) .nil (fun _ _ => .nil) rfl (sa_cons (se_var 1) (sa_nil))) (so_none) (so_some (se_var 3))) (sa_nil)))))) (sss_one (ss_if (st_cmp prim_eq (op_eqP hr.units) (nomark _) (se_var 2) (se_str)) (sss_one (ss_set 4 sc__law_made.nd rfl (Or.inl rfl) (se_call (modes := [false, false]) (more := []) (ok__law_shared T) (hr.mono (by decide)) gd rfl T.g__law_shared T.F__law_shared.kp (T.b2__law_shared) .nil (fun _ _ => .nil) rfl (sa_cons (se_var 1) (sa_cons (se_var 3) (sa_nil)))))) (sss_one (ss_if (st_cmp prim_eq (op_eqP hr.units) (nomark _) (se_var 2) (se_str)) (sss_one (ss_setLc 4 rfl sc__law_made.nd rfl rfl (sw_true rfl rfl rfl (by decide +kernel)) (si_seq (se_var 1)) (blkOk_by (own := [("count", 5)]) (N := N__law_made) (sc := defScope s__law_made) (by decide +kernel)) (fun _ _ _ _ _ => sg_name 5 sc__law_made.nd rfl (Or.inl rfl)) (fun _ _ _ _ _ => sts_nil) (fun _ _ _ _ _ => se_mul (se_var 5) (se_callTy prim_int call_int1 rfl T.n_int (by decide +kernel) (sa_cons (se_cmp prim_cmp op_ge (nomark _) (se_mul (se_var 5) (se_ix (se_var 3) (se_int))) (se_mul (se_callB prim_maxL (cr_max rfl) rfl T.n_max (by decide +kernel) (sa_cons (se_var 1) (sa_nil))) (se_ix (se_var 3) (se_int)))) (sa_nil)))) rfl (by decide))) (sss_one (ss_if (st_cmp prim_eq (op_eqP hr.units) (nomark _) (se_var 2) (se_str)) (sss_one (ss_setLc 4 rfl sc__law_made.nd rfl rfl (sw_true rfl rfl rfl (by decide +kernel)) (si_enum rfl T.n_enumerate (sa_cons (se_var 1) (sa_nil))) (blkOk_by (own := [("place", 6), ("count", 5)]) (N := N__law_made) (sc := defScope s__law_made) (by decide +kernel)) (fun _ _ _ _ _ => sg_tup rfl (sgs_cons (sg_name 6 sc__law_made.nd rfl (Or.inl rfl)) (sgs_cons (sg_name 5 sc__law_made.nd rfl (Or.inl rfl)) (sgs_nil)))) (fun _ _ _ _ _ => sts_nil) (fun _ _ _ _ _ => se_mul (se_var 5) (se_callTy prim_int call_int1 rfl T.n_int (by decide +kernel) (sa_cons (se_cmp prim_notinA op_notIn_seq (by with_unfolding_all rfl) (se_var 6) (se_var 3)) (sa_nil)))) rfl (by decide))) (sss_one (ss_setLc 4 rfl sc__law_made.nd rfl rfl (sw_true rfl rfl rfl (by decide +kernel)) (si_enum rfl T.n_enumerate (sa_cons (se_var 1) (sa_nil))) (blkOk_by (own := [("place", 6), ("count", 5)]) (N := N__law_made) (sc := defScope s__law_made) (by decide +kernel)) (fun _ _ _ _ _ => sg_tup rfl (sgs_cons (sg_name 6 sc__law_made.nd rfl (Or.inl rfl)) (sgs_cons (sg_name 5 sc__law_made.nd rfl (Or.inl rfl)) (sgs_nil)))) (fun _ _ _ _ _ => sts_nil) (fun _ _ _ _ _ => se_mul (se_var 5) (se_if (st_cmp prim_eq (op_eqP hr.units) (nomark _) (se_var 6) (se_var 3)) (se_ix (se_var 0) (se_int)) (se_int))) rfl (by decide)))))))))))) (sss_one (ss_ret (se_if (st_cmp prim_cmp op_gt (nomark _) (se_callB prim_maxL (cr_max rfl) rfl T.n_max (by decide +kernel) (sa_cons (se_var 4) (sa_nil))) (se_int)) (se_call (modes := [false]) (more := []) (ok__law_lowest T) (hr.mono (by decide)) gd rfl T.g__law_lowest T.F__law_lowest.kp (T.b1__law_lowest) .nil (fun _ _ => .nil) rfl (sa_cons (se_var 4) (sa_nil))) (se_non))))))⟩
theorem ok__law_filtered (T : Tx K mg) : FnG P w K mg base CX0 4 T.f__law_filtered T.d__law_filtered ["chain", "table"] (spD K 2 m__law_filtered) := by
  show FnG P w K mg base CX0 (3 + 1) T.f__law_filtered T.d__law_filtered ["chain", "table"] (spD K (["chain", "table"] : List Str).length (run N__law_filtered.length g__law_filtered))
  refine dl_ok (N := N__law_filtered) (ps := ["chain", "table"]) (k := 3) (b := g__law_filtered) T.F__law_filtered sc__law_filtered (by decide) ?_
  intro cdv A outer s H E hr gd
  exact ⟨_, dl_both (sss_cons (ss_set 2 sc__law_filtered.nd rfl (Or.inl rfl) (se_call (modes := [false]) (more := []) (ok__law_lowest T) (hr.mono (by decide)) gd rfl T.g__law_lowest T.F__law_lowest.kp (T.b1__law_lowest) .nil (fun _ _ => .nil) rfl (sa_cons (se_var 1) (sa_nil)))) (sss_cons (ss_for PassesOwn.never rfl (si_seq (se_var 0)) (sg_name 3 sc__law_filtered.nd rfl (Or.inl rfl)) (sss_one (ss_set 2 sc__law_filtered.nd rfl (Or.inl rfl) (se_if (st_cmp prim_isnot op_isnotC (nomark _) (se_var 2) (se_non)) (se_call (modes := [false, false]) (more := []) (ok__law_made T) (hr.mono (by decide)) gd rfl T.g__law_made T.F__law_made.kp (T.b2__law_made) .nil (fun _ _ => .nil) rfl (sa_cons (se_var 3) (sa_cons (se_var 2) (sa_nil)))) (se_non))))) (sss_one (ss_ret (se_var 2)))))⟩
theorem ok__law_chain (T : Tx K mg) : FnG P w K mg base CX0 5 T.f__law_chain T.d__law_chain ["generator", "places", "steps", "most"] (spD K 4 m__law_chain) := by
  show FnG P w K mg base CX0 (4 + 1) T.f__law_chain T.d__law_chain ["generator", "places", "steps", "most"] (spD K (["generator", "places", "steps", "most"] : List Str).length (run N__law_chain.length g__law_chain))
  refine dl_ok (N := N__law_chain) (ps := ["generator", "places", "steps", "most"]) (k := 4) (b := g__law_chain) T.F__law_chain sc__law_chain (by decide) ?_
  intro cdv A outer s H E hr gd
  exact ⟨_, dl_both (sss_cons (ss_parS2 4 5 rfl sc__law_chain.nd rfl rfl (by decide) rfl rfl (se_lst (sa_nil)) (sa_cons (se_int) (sa_nil)) rfl) (sss_cons (ss_for PassesOwn.never rfl (si_range1 rfl T.n_range (sa_cons (se_var 2) (sa_nil))) (sg_name 6 sc__law_chain.nd rfl (Or.inl rfl)) (sss_cons (ss_set 7 sc__law_chain.nd rfl (Or.inl rfl) (se_call (modes := [true, false]) (more := []) (ok__law_filter T) (hr.mono (by decide)) gd rfl T.g__law_filter T.F__law_filter.kp (T.b2__law_filter) .nil (fun _ _ => .nil) rfl (sa_cons (se_var 0) (sa_cons (se_var 1) (sa_nil))))) (sss_one (ss_if (st_w (sw_or (st_cmp prim_ne (op_neP hr.units) (nomark _) (se_ix (se_var 7) (se_int)) (se_str)) (sw_or1 (st_cmp prim_cmp op_le (nomark _) (se_mul (se_var 5) (se_ix (se_var 7) (se_int))) (se_var 3))))) (sss_cons (ss_append 4 (fun h => pe_bm PySem.F.plainAttrs_list PySem.F.slot_list_append PySem.F.type_list_append mt_append (pv 4) (pa_cons h pa_nil)) (se_var 7)) (sss_one (ss_set 5 sc__law_chain.nd rfl (Or.inl rfl) (se_mul (se_var 5) (se_if (st_cmp prim_eq (op_eqP hr.units) (nomark _) (se_ix (se_var 7) (se_int)) (se_str)) (se_ix (se_var 7) (se_int)) (se_int)))))) (sss_nil))))) (sss_one (ss_ret (se_var 4)))))⟩
theorem ok__law_right (T : Tx K mg) : FnG P w K mg base CX0 9 T.f__law_right T.d__law_right ["generator"] (spD K 1 m__law_right) := by
  show FnG P w K mg base CX0 (8 + 1) T.f__law_right T.d__law_right ["generator"] (spD K (["generator"] : List Str).length (run N__law_right.length g__law_right))
  refine dl_ok (N := N__law_right) (ps := ["generator"]) (k := 8) (b := g__law_right) T.F__law_right sc__law_right (by decide) ?_
  intro cdv A outer s H E hr gd
  exact ⟨_, dl_both (sss_cons (ss_set 1 sc__law_right.nd rfl (Or.inl rfl) (se_add (se_int) (se_call (modes := [true, false]) (more := []) (ok__law_random T) (hr.mono (by decide)) gd rfl T.g__law_random T.F__law_random.kp (T.b2__law_random) .nil (fun _ _ => .nil) rfl (sa_cons (se_var 0) (sa_cons (se_int) (sa_nil)))))) (sss_cons (ss_set 2 sc__law_right.nd rfl (Or.inl rfl) (se_call (modes := [true, false]) (more := []) (ok__law_table T) (hr.mono (by decide)) gd rfl T.g__law_table T.F__law_table.kp (T.b2__law_table) .nil (fun _ _ => .nil) rfl (sa_cons (se_var 0) (sa_cons (se_var 1) (sa_nil))))) (sss_cons (ss_for PassesOwn.never rfl (si_range1 rfl T.n_range (sa_cons (se_int) (sa_nil))) (sg_name 3 sc__law_right.nd rfl (Or.inl rfl)) (sss_cons (ss_set 4 sc__law_right.nd rfl (Or.inl rfl) (se_call (modes := [true, false, false, false]) (more := []) (ok__law_chain T) (hr.mono (by decide)) gd rfl T.g__law_chain T.F__law_chain.kp (T.b4__law_chain) .nil (fun _ _ => .nil) rfl (sa_cons (se_var 0) (sa_cons (se_var 1) (sa_cons (se_call (modes := [true, false]) (more := []) (ok__law_random T) (hr.mono (by decide)) gd rfl T.g__law_random T.F__law_random.kp (T.b2__law_random) .nil (fun _ _ => .nil) rfl (sa_cons (se_var 0) (sa_cons (se_ix (se_lst (sa_cons (se_int) (sa_cons (se_int) (sa_cons (se_int) (sa_nil))))) (se_call (modes := [true, false]) (more := []) (ok__law_random T) (hr.mono (by decide)) gd rfl T.g__law_random T.F__law_random.kp (T.b2__law_random) .nil (fun _ _ => .nil) rfl (sa_cons (se_var 0) (sa_cons (se_int) (sa_nil))))) (sa_nil)))) (sa_cons (se_int) (sa_nil))))))) (sss_cons (ss_par 5 6 rfl sc__law_right.nd rfl rfl (by decide) rfl rfl (sa_cons (se_callB prim_repr (call_repr gd hr.units) rfl T.n_repr (by decide +kernel) (sa_cons (se_lst (sa_cons (se_var 4) (sa_cons (se_var 2) (sa_nil)))) (sa_nil))) (sa_cons (se_call (modes := [false, false]) (more := []) (ok__law_filtered T) (hr.mono (by decide)) gd rfl T.g__law_filtered T.F__law_filtered.kp (T.b2__law_filtered) .nil (fun _ _ => .nil) rfl (sa_cons (se_var 4) (sa_cons (se_var 2) (sa_nil)))) (sa_nil))) rfl) (sss_cons (ss_set 7 sc__law_right.nd rfl (Or.inl rfl) (se_call (modes := [false, false]) (more := []) (ok_filtered T) (hr.mono (by decide)) gd rfl T.g_filtered T.F_filtered.kp (T.b2_filtered) .nil (fun _ _ => .nil) rfl (sa_cons (se_var 4) (sa_cons (se_var 2) (sa_nil))))) (sss_cons (ss_if (st_w (sw_or (st_not (st_val (se_borrow (se_call (modes := [false, false]) (more := []) (ok__law_same T 8) (hr.mono (by decide)) gd rfl T.g__law_same T.F__law_same.kp (T.b2__law_same) .nil (fun _ _ => .nil) rfl (sa_cons (se_var 7) (sa_cons (se_var 6) (sa_nil))))))) (sw_or (st_cmp prim_isnot op_isnotC (nomark _) (se_call (modes := [false]) (more := []) (ok_is_chain T) (hr.mono (by decide)) gd rfl T.g_is_chain T.F_is_chain.kp (T.b1_is_chain) .nil (fun _ _ => .nil) rfl (sa_cons (se_var 4) (sa_nil))) (se_bl)) (sw_or1 (st_cmp prim_ne (op_neP hr.units) (nomark _) (se_callB prim_repr (call_repr gd hr.units) rfl T.n_repr (by decide +kernel) (sa_cons (se_lst (sa_cons (se_var 4) (sa_cons (se_var 2) (sa_nil)))) (sa_nil))) (se_var 5)))))) (sss_one (ss_ret (se_bl))) (sss_nil)) (sss_cons (ss_set 8 sc__law_right.nd rfl (Or.inl rfl) (se_call (modes := [false]) (more := []) (ok__law_lowest T) (hr.mono (by decide)) gd rfl T.g__law_lowest T.F__law_lowest.kp (T.b1__law_lowest) .nil (fun _ _ => .nil) rfl (sa_cons (se_var 2) (sa_nil)))) (sss_cons (ss_for PassesOwn.never rfl (si_seq (se_var 4)) (sg_name 9 sc__law_right.nd rfl (Or.inl rfl)) (sss_one (ss_set 8 sc__law_right.nd rfl (Or.inl rfl) (se_if (st_cmp prim_isnot op_isnotC (nomark _) (se_var 8) (se_non)) (se_call (modes := [false, false]) (more := []) (ok_filter_done T) (hr.mono (by decide)) gd rfl T.g_filter_done T.F_filter_done.kp (T.b2_filter_done) .nil (fun _ _ => .nil) rfl (sa_cons (se_var 9) (sa_cons (se_var 8) (sa_nil)))) (se_non))))) (sss_cons (ss_if (st_not (st_val (se_borrow (se_call (modes := [false, false]) (more := []) (ok__law_same T 8) (hr.mono (by decide)) gd rfl T.g__law_same T.F__law_same.kp (T.b2__law_same) .nil (fun _ _ => .nil) rfl (sa_cons (se_var 8) (sa_cons (se_var 6) (sa_nil))))))) (sss_one (ss_ret (se_bl))) (sss_nil)) (sss_cons (ss_set 10 sc__law_right.nd rfl (Or.inl rfl) (se_call (modes := [true, false]) (more := []) (ok__law_random T) (hr.mono (by decide)) gd rfl T.g__law_random T.F__law_random.kp (T.b2__law_random) .nil (fun _ _ => .nil) rfl (sa_cons (se_var 0) (sa_cons (se_add (se_callB prim_len call_lenD' rfl T.n_len (by decide +kernel) (sa_cons (se_var 4) (sa_nil))) (se_int)) (sa_nil))))) (sss_cons (ss_set 11 sc__law_right.nd rfl (Or.inl rfl) (se_call (modes := [false, false]) (more := []) (ok_filtered T) (hr.mono (by decide)) gd rfl T.g_filtered T.F_filtered.kp (T.b2_filtered) .nil (fun _ _ => .nil) rfl (sa_cons (se_slice (se_var 4) (so_none) (so_some (se_var 10))) (sa_cons (se_var 2) (sa_nil))))) (sss_cons (ss_if (st_not (st_val (se_borrow (se_call (modes := [false, false]) (more := []) (ok__law_same T 8) (hr.mono (by decide)) gd rfl T.g__law_same T.F__law_same.kp (T.b2__law_same) .nil (fun _ _ => .nil) rfl (sa_cons (se_if (st_cmp prim_isnot op_isnotC (nomark _) (se_var 11) (se_non)) (se_call (modes := [false, false]) (more := []) (ok_filtered T) (hr.mono (by decide)) gd rfl T.g_filtered T.F_filtered.kp (T.b2_filtered) .nil (fun _ _ => .nil) rfl (sa_cons (se_slice (se_var 4) (so_some (se_var 10)) (so_none)) (sa_cons (se_var 11) (sa_nil)))) (se_non)) (sa_cons (se_var 6) (sa_nil))))))) (sss_one (ss_ret (se_bl))) (sss_nil)) (sss_cons (ss_if (st_cmp prim_isnot op_isnotC (nomark _) (se_var 7) (se_non)) (sss_one (ss_append 7 (fun h => pe_bm PySem.F.plainAttrs_list PySem.F.slot_list_append PySem.F.type_list_append mt_append (pv 7) (pa_cons h pa_nil)) (se_str))) (sss_nil)) (sss_one (ss_if (st_not (st_val (se_borrow (se_call (modes := [false, false]) (more := []) (ok__law_same T 8) (hr.mono (by decide)) gd rfl T.g__law_same T.F__law_same.kp (T.b2__law_same) .nil (fun _ _ => .nil) rfl (sa_cons (se_callP0 (more := []) (ok_filtered T) (hr.mono (by decide)) gd rfl T.g_filtered T.F_filtered.kp T.k0_table_chain_filtered .nil (fun _ _ => .nil) rfl rfl (sk_cons (se_var 2) (sk_cons (se_var 4) (sk_nil)))) (sa_cons (se_var 6) (sa_nil))))))) (sss_one (ss_ret (se_bl))) (sss_nil))))))))))))))) (sss_one (ss_ret (se_bl))))))⟩
theorem ok_law (T : Tx K mg) : FnG P w K mg base CX0 10 T.f_law T.d_law ["script"] (spD K 1 m_law) := by
  show FnG P w K mg base CX0 (9 + 1) T.f_law T.d_law ["script"] (spD K (["script"] : List Str).length (run N_law.length g_law))
  refine dl_ok (N := N_law) (ps := ["script"]) (k := 9) (b := g_law) T.F_law sc_law (by decide) ?_
  intro cdv A outer s H E hr gd
  exact ⟨_, dl_both (sss_cons (ss_set 1 sc_law.nd rfl (Or.inr rfl) (se_call (modes := [false, false]) (more := []) (ok__law_generator T) (hr.mono (by decide)) gd rfl T.g__law_generator T.F__law_generator.kp (T.b2__law_generator) .nil (fun _ _ => .nil) rfl (sa_cons (se_var 0) (sa_cons (se_int) (sa_nil))))) (sss_cons (ss_setLc 2 rfl sc_law.nd rfl rfl (sw_true rfl rfl rfl (by decide +kernel)) (si_range1 rfl T.n_range (sa_cons (se_int) (sa_nil))) (blkOk_by (own := [("step", 7)]) (N := N_law) (sc := defScope s_law) (by decide +kernel)) (fun _ _ _ _ _ => sg_name 7 sc_law.nd rfl (Or.inl rfl)) (fun _ _ _ _ _ => sts_nil) (fun _ _ _ _ _ => se_call (modes := [true, false]) (more := []) (ok__law_filter T) (hr.mono (by decide)) gd rfl T.g__law_filter T.F__law_filter.kp (T.b2__law_filter) .nil (fun _ _ => .nil) rfl (sa_cons (se_var 1) (sa_cons (se_int) (sa_nil)))) rfl (by decide)) (sss_cons (ss_set 3 sc_law.nd rfl (Or.inl rfl) (se_lst (sa_cons (se_non) (sa_cons (se_tup (sa_nil)) (sa_cons (se_lst (sa_nil)) (sa_cons (se_callTy prim_tuple call_tupleC rfl T.n_tuple (by decide +kernel) (sa_cons (se_var 2) (sa_nil))) (sa_cons (se_var 2) (sa_cons (se_add (se_var 2) (se_lst (sa_cons (se_non) (sa_nil)))) (sa_cons (se_lst (sa_cons (se_non) (sa_nil))) (sa_cons (se_lst (sa_cons (se_tup (sa_cons (se_str) (sa_cons (se_int) (sa_nil)))) (sa_nil))) (sa_cons (se_lst (sa_cons (se_var 2) (sa_nil))) (sa_cons (se_dict0) (sa_cons (se_str) (sa_cons (se_int) (sa_cons (se_lst (sa_cons (se_tup (sa_nil)) (sa_nil))) (sa_cons (se_lst (sa_cons (se_ix (se_var 2) (se_int)) (sa_cons (se_callTy prim_list call_list_of rfl T.n_list (by decide +kernel) (sa_cons (se_ix (se_var 2) (se_int)) (sa_nil))) (sa_nil)))) (sa_cons (se_lst (sa_cons (se_ix (se_var 2) (se_int)) (sa_cons (se_ix (se_var 2) (se_int)) (sa_nil)))) (sa_cons (se_mul (se_var 2) (se_int)) (sa_nil))))))))))))))))))) (sss_cons (ss_for PassesOwn.never rfl (si_seq (se_var 3)) (sg_name 4 sc_law.nd rfl (Or.inl rfl)) (sss_cons (ss_par 5 6 rfl sc_law.nd rfl rfl (by decide) rfl rfl (sa_cons (se_and (se_isi tyok_list rfl T.n_isinstance (by decide +kernel) rfl T.n_list (by decide +kernel) (se_var 4)) (se_one (se_cmp prim_eq (op_eqP hr.units) (nomark _) (se_lc rfl sc_law.nd (si_seq (se_var 4)) (blkOk_by (own := [("item", 8)]) (N := N_law) (sc := defScope s_law) (by decide +kernel)) (fun _ _ _ _ _ => sg_name 8 sc_law.nd rfl (Or.inl rfl)) (fun _ _ _ _ _ => sts_one (st_not (st_val (se_call (modes := [false]) (more := []) (ok_is_filter T) (hr.mono (by decide)) gd rfl T.g_is_filter T.F_is_filter.kp (T.b1_is_filter) .nil (fun _ _ => .nil) rfl (sa_cons (se_var 8) (sa_nil)))))) (fun _ _ _ _ _ => se_var 8) rfl (by decide)) (se_lst (sa_nil))))) (sa_cons (se_callB prim_repr (call_repr gd hr.units) rfl T.n_repr (by decide +kernel) (sa_cons (se_var 4) (sa_nil))) (sa_nil))) rfl) (sss_one (ss_if (st_w (sw_or (st_cmp prim_ne (op_neP hr.units) (nomark _) (se_callB prim_repr (call_repr gd hr.units) rfl T.n_repr (by decide +kernel) (sa_cons (se_call (modes := [false]) (more := []) (ok_is_chain T) (hr.mono (by decide)) gd rfl T.g_is_chain T.F_is_chain.kp (T.b1_is_chain) .nil (fun _ _ => .nil) rfl (sa_cons (se_var 4) (sa_nil))) (sa_nil))) (se_callB prim_repr (call_repr gd hr.units) rfl T.n_repr (by decide +kernel) (sa_cons (se_var 5) (sa_nil)))) (sw_or (st_cmp prim_ne (op_neP hr.units) (nomark _) (se_callB prim_repr (call_repr gd hr.units) rfl T.n_repr (by decide +kernel) (sa_cons (se_callP0 (more := []) (ok_is_chain T) (hr.mono (by decide)) gd rfl T.g_is_chain T.F_is_chain.kp T.k0_value_is_chain .nil (fun _ _ => .nil) rfl rfl (sk_cons (se_var 4) (sk_nil))) (sa_nil))) (se_callB prim_repr (call_repr gd hr.units) rfl T.n_repr (by decide +kernel) (sa_cons (se_var 5) (sa_nil)))) (sw_or1 (st_cmp prim_ne (op_neP hr.units) (nomark _) (se_callB prim_repr (call_repr gd hr.units) rfl T.n_repr (by decide +kernel) (sa_cons (se_var 4) (sa_nil))) (se_var 6)))))) (sss_one (ss_ret (se_bl))) (sss_nil))))) (sss_one (ss_ret (se_and (se_callT (n := 0) (more := []) (ok__law_right T) (hr.mono (by decide)) gd rfl T.g__law_right T.F__law_right.kp (T.b1__law_right) .nil (fun _ _ => .nil) rfl (se_call (modes := [false, false]) (more := []) (ok__law_generator T) (hr.mono (by decide)) gd rfl T.g__law_generator T.F__law_generator.kp (T.b2__law_generator) .nil (fun _ _ => .nil) rfl (sa_cons (se_var 0) (sa_cons (se_int) (sa_nil)))) (sa_nil)) (se_one (se_callT (n := 0) (more := []) (ok__law_right T) (hr.mono (by decide)) gd rfl T.g__law_right T.F__law_right.kp (T.b1__law_right) .nil (fun _ _ => .nil) rfl (se_call (modes := [false, false]) (more := []) (ok__law_generator T) (hr.mono (by decide)) gd rfl T.g__law_generator T.F__law_generator.kp (T.b2__law_generator) .nil (fun _ _ => .nil) rfl (sa_cons (se_var 0) (sa_cons (se_int) (sa_nil)))) (sa_nil))))))))))⟩
end
theorem all_mk {K : PySem.W.Frag} {h : Heap} {mg : Str → Option Value} (X : K.In h) (G : h.Ns mainGlobals mg)
    {f1 : Addr} {od1 an1 : Option Addr} {sl1 : Array (Option Value)} {oc1 kV1 dc1 pm1 cd1 ct1 : Value}
    {T1 : Addr} {cT1 : Value} {dT1 : Option Addr} {nT1 : Nat} {sT1 : Array (Option Value)} {tk1_0 : Tok}
    {f2 : Addr} {od2 an2 : Option Addr} {sl2 : Array (Option Value)} {oc2 kV2 dc2 pm2 cd2 ct2 : Value}
    {f3 : Addr} {od3 an3 : Option Addr} {sl3 : Array (Option Value)} {oc3 kV3 dc3 pm3 cd3 ct3 : Value}
    {f4 : Addr} {od4 an4 : Option Addr} {sl4 : Array (Option Value)} {oc4 kV4 dc4 pm4 cd4 ct4 : Value}
    {f5 : Addr} {od5 an5 : Option Addr} {sl5 : Array (Option Value)} {oc5 kV5 dc5 pm5 cd5 ct5 : Value}
    {f6 : Addr} {od6 an6 : Option Addr} {sl6 : Array (Option Value)} {oc6 kV6 dc6 pm6 cd6 ct6 : Value}
    {f7 : Addr} {od7 an7 : Option Addr} {sl7 : Array (Option Value)} {oc7 kV7 dc7 pm7 cd7 ct7 : Value}
    {f8 : Addr} {od8 an8 : Option Addr} {sl8 : Array (Option Value)} {oc8 kV8 dc8 pm8 cd8 ct8 : Value}
    {f9 : Addr} {od9 an9 : Option Addr} {sl9 : Array (Option Value)} {oc9 kV9 dc9 pm9 cd9 ct9 : Value}
    {f10 : Addr} {od10 an10 : Option Addr} {sl10 : Array (Option Value)} {oc10 kV10 dc10 pm10 cd10 ct10 : Value}
    {f11 : Addr} {od11 an11 : Option Addr} {sl11 : Array (Option Value)} {oc11 kV11 dc11 pm11 cd11 ct11 : Value}
    {f12 : Addr} {od12 an12 : Option Addr} {sl12 : Array (Option Value)} {oc12 kV12 dc12 pm12 cd12 ct12 : Value}
    {f13 : Addr} {od13 an13 : Option Addr} {sl13 : Array (Option Value)} {oc13 kV13 dc13 pm13 cd13 ct13 : Value}
    {f14 : Addr} {od14 an14 : Option Addr} {sl14 : Array (Option Value)} {oc14 kV14 dc14 pm14 cd14 ct14 : Value}
    {f15 : Addr} {od15 an15 : Option Addr} {sl15 : Array (Option Value)} {oc15 kV15 dc15 pm15 cd15 ct15 : Value}
    {f16 : Addr} {od16 an16 : Option Addr} {sl16 : Array (Option Value)} {oc16 kV16 dc16 pm16 cd16 ct16 : Value}
    {f17 : Addr} {od17 an17 : Option Addr} {sl17 : Array (Option Value)} {oc17 kV17 dc17 pm17 cd17 ct17 : Value}
    {f18 : Addr} {od18 an18 : Option Addr} {sl18 : Array (Option Value)} {oc18 kV18 dc18 pm18 cd18 ct18 : Value}
    {f19 : Addr} {od19 an19 : Option Addr} {sl19 : Array (Option Value)} {oc19 kV19 dc19 pm19 cd19 ct19 : Value}
    {f20 : Addr} {od20 an20 : Option Addr} {sl20 : Array (Option Value)} {oc20 kV20 dc20 pm20 cd20 ct20 : Value}
    {f21 : Addr} {od21 an21 : Option Addr} {sl21 : Array (Option Value)} {oc21 kV21 dc21 pm21 cd21 ct21 : Value}
    {f22 : Addr} {od22 an22 : Option Addr} {sl22 : Array (Option Value)} {oc22 kV22 dc22 pm22 cd22 ct22 : Value}
    {f23 : Addr} {od23 an23 : Option Addr} {sl23 : Array (Option Value)} {oc23 kV23 dc23 pm23 cd23 ct23 : Value}
    {f24 : Addr} {od24 an24 : Option Addr} {sl24 : Array (Option Value)} {oc24 kV24 dc24 pm24 cd24 ct24 : Value}
    {f25 : Addr} {od25 an25 : Option Addr} {sl25 : Array (Option Value)} {oc25 kV25 dc25 pm25 cd25 ct25 : Value}
    {f26 : Addr} {od26 an26 : Option Addr} {sl26 : Array (Option Value)} {oc26 kV26 dc26 pm26 cd26 ct26 : Value}
    {f27 : Addr} {od27 an27 : Option Addr} {sl27 : Array (Option Value)} {oc27 kV27 dc27 pm27 cd27 ct27 : Value}
    {f28 : Addr} {od28 an28 : Option Addr} {sl28 : Array (Option Value)} {oc28 kV28 dc28 pm28 cd28 ct28 : Value}
    {f29 : Addr} {od29 an29 : Option Addr} {sl29 : Array (Option Value)} {oc29 kV29 dc29 pm29 cd29 ct29 : Value}
    {f30 : Addr} {od30 an30 : Option Addr} {sl30 : Array (Option Value)} {oc30 kV30 dc30 pm30 cd30 ct30 : Value}
    {f31 : Addr} {od31 an31 : Option Addr} {sl31 : Array (Option Value)} {oc31 kV31 dc31 pm31 cd31 ct31 : Value}
    {f32 : Addr} {od32 an32 : Option Addr} {sl32 : Array (Option Value)} {oc32 kV32 dc32 pm32 cd32 ct32 : Value}
    {f33 : Addr} {od33 an33 : Option Addr} {sl33 : Array (Option Value)} {oc33 kV33 dc33 pm33 cd33 ct33 : Value}
    {f34 : Addr} {od34 an34 : Option Addr} {sl34 : Array (Option Value)} {oc34 kV34 dc34 pm34 cd34 ct34 : Value}
    {f35 : Addr} {od35 an35 : Option Addr} {sl35 : Array (Option Value)} {oc35 kV35 dc35 pm35 cd35 ct35 : Value}
    {f36 : Addr} {od36 an36 : Option Addr} {sl36 : Array (Option Value)} {oc36 kV36 dc36 pm36 cd36 ct36 : Value}
    {f37 : Addr} {od37 an37 : Option Addr} {sl37 : Array (Option Value)} {oc37 kV37 dc37 pm37 cd37 ct37 : Value}
    {f38 : Addr} {od38 an38 : Option Addr} {sl38 : Array (Option Value)} {oc38 kV38 dc38 pm38 cd38 ct38 : Value}
    {f39 : Addr} {od39 an39 : Option Addr} {sl39 : Array (Option Value)} {oc39 kV39 dc39 pm39 cd39 ct39 : Value}
    {f40 : Addr} {od40 an40 : Option Addr} {sl40 : Array (Option Value)} {oc40 kV40 dc40 pm40 cd40 ct40 : Value}
    {f41 : Addr} {od41 an41 : Option Addr} {sl41 : Array (Option Value)} {oc41 kV41 dc41 pm41 cd41 ct41 : Value}
    {f42 : Addr} {od42 an42 : Option Addr} {sl42 : Array (Option Value)} {oc42 kV42 dc42 pm42 cd42 ct42 : Value}
    {f43 : Addr} {od43 an43 : Option Addr} {sl43 : Array (Option Value)} {oc43 kV43 dc43 pm43 cd43 ct43 : Value}
    {yt_MOST_POWER : Tok}
    (a1 : PySem.W.nsIn K mainGlobals "is_count" = some (some (.ref f1)))
    (l1 : K.lookup f1 = some ⟨oc1, od1, .func (PySem.W.fnOf "is_count" "is_count" (defArgs s_is_count) (defBody s_is_count) (defScope s_is_count) (.ref T1) kV1 dc1 pm1 an1 cd1 ct1), sl1⟩)
    (t1 : K.lookup T1 = some ⟨cT1, dT1, .seq (List.toArray [.int 0 tk1_0]) nT1, sT1⟩)
    (c1 : PySem.W.codeIn K cd1 "is_count" = true)
    (k1 : PySem.W.keepIn K (.ref f1) = true)
    (a2 : PySem.W.nsIn K mainGlobals "divisor" = some (some (.ref f2)))
    (l2 : K.lookup f2 = some ⟨oc2, od2, .func (PySem.W.fnOf "divisor" "divisor" (defArgs s_divisor) (defBody s_divisor) (defScope s_divisor) .none kV2 dc2 pm2 an2 cd2 ct2), sl2⟩)
    (c2 : PySem.W.codeIn K cd2 "divisor" = true)
    (k2 : PySem.W.keepIn K (.ref f2) = true)
    (a3 : PySem.W.nsIn K mainGlobals "is_odds" = some (some (.ref f3)))
    (l3 : K.lookup f3 = some ⟨oc3, od3, .func (PySem.W.fnOf "is_odds" "is_odds" (defArgs s_is_odds) (defBody s_is_odds) (defScope s_is_odds) .none kV3 dc3 pm3 an3 cd3 ct3), sl3⟩)
    (c3 : PySem.W.codeIn K cd3 "is_odds" = true)
    (k3 : PySem.W.keepIn K (.ref f3) = true)
    (a4 : PySem.W.nsIn K mainGlobals "are_counts" = some (some (.ref f4)))
    (l4 : K.lookup f4 = some ⟨oc4, od4, .func (PySem.W.fnOf "are_counts" "are_counts" (defArgs s_are_counts) (defBody s_are_counts) (defScope s_are_counts) .none kV4 dc4 pm4 an4 cd4 ct4), sl4⟩)
    (c4 : PySem.W.codeIn K cd4 "are_counts" = true)
    (k4 : PySem.W.keepIn K (.ref f4) = true)
    (a5 : PySem.W.nsIn K mainGlobals "is_table" = some (some (.ref f5)))
    (l5 : K.lookup f5 = some ⟨oc5, od5, .func (PySem.W.fnOf "is_table" "is_table" (defArgs s_is_table) (defBody s_is_table) (defScope s_is_table) .none kV5 dc5 pm5 an5 cd5 ct5), sl5⟩)
    (c5 : PySem.W.codeIn K cd5 "is_table" = true)
    (k5 : PySem.W.keepIn K (.ref f5) = true)
    (a6 : PySem.W.nsIn K mainGlobals "look_at_table" = some (some (.ref f6)))
    (l6 : K.lookup f6 = some ⟨oc6, od6, .func (PySem.W.fnOf "look_at_table" "look_at_table" (defArgs s_look_at_table) (defBody s_look_at_table) (defScope s_look_at_table) .none kV6 dc6 pm6 an6 cd6 ct6), sl6⟩)
    (c6 : PySem.W.codeIn K cd6 "look_at_table" = true)
    (k6 : PySem.W.keepIn K (.ref f6) = true)
    (a7 : PySem.W.nsIn K mainGlobals "lowered" = some (some (.ref f7)))
    (l7 : K.lookup f7 = some ⟨oc7, od7, .func (PySem.W.fnOf "lowered" "lowered" (defArgs s_lowered) (defBody s_lowered) (defScope s_lowered) .none kV7 dc7 pm7 an7 cd7 ct7), sl7⟩)
    (c7 : PySem.W.codeIn K cd7 "lowered" = true)
    (k7 : PySem.W.keepIn K (.ref f7) = true)
    (a8 : PySem.W.nsIn K mainGlobals "lowest" = some (some (.ref f8)))
    (l8 : K.lookup f8 = some ⟨oc8, od8, .func (PySem.W.fnOf "lowest" "lowest" (defArgs s_lowest) (defBody s_lowest) (defScope s_lowest) .none kV8 dc8 pm8 an8 cd8 ct8), sl8⟩)
    (c8 : PySem.W.codeIn K cd8 "lowest" = true)
    (k8 : PySem.W.keepIn K (.ref f8) = true)
    (a9 : PySem.W.nsIn K mainGlobals "is_whole" = some (some (.ref f9)))
    (l9 : K.lookup f9 = some ⟨oc9, od9, .func (PySem.W.fnOf "is_whole" "is_whole" (defArgs s_is_whole) (defBody s_is_whole) (defScope s_is_whole) .none kV9 dc9 pm9 an9 cd9 ct9), sl9⟩)
    (c9 : PySem.W.codeIn K cd9 "is_whole" = true)
    (k9 : PySem.W.keepIn K (.ref f9) = true)
    (a10 : PySem.W.nsIn K mainGlobals "check_table" = some (some (.ref f10)))
    (l10 : K.lookup f10 = some ⟨oc10, od10, .func (PySem.W.fnOf "check_table" "check_table" (defArgs s_check_table) (defBody s_check_table) (defScope s_check_table) .none kV10 dc10 pm10 an10 cd10 ct10), sl10⟩)
    (c10 : PySem.W.codeIn K cd10 "check_table" = true)
    (k10 : PySem.W.keepIn K (.ref f10) = true)
    (a11 : PySem.W.nsIn K mainGlobals "are_places" = some (some (.ref f11)))
    (l11 : K.lookup f11 = some ⟨oc11, od11, .func (PySem.W.fnOf "are_places" "are_places" (defArgs s_are_places) (defBody s_are_places) (defScope s_are_places) .none kV11 dc11 pm11 an11 cd11 ct11), sl11⟩)
    (c11 : PySem.W.codeIn K cd11 "are_places" = true)
    (k11 : PySem.W.keepIn K (.ref f11) = true)
    (a12 : PySem.W.nsIn K mainGlobals "is_filter" = some (some (.ref f12)))
    (l12 : K.lookup f12 = some ⟨oc12, od12, .func (PySem.W.fnOf "is_filter" "is_filter" (defArgs s_is_filter) (defBody s_is_filter) (defScope s_is_filter) .none kV12 dc12 pm12 an12 cd12 ct12), sl12⟩)
    (c12 : PySem.W.codeIn K cd12 "is_filter" = true)
    (k12 : PySem.W.keepIn K (.ref f12) = true)
    (a13 : PySem.W.nsIn K mainGlobals "by_weight" = some (some (.ref f13)))
    (l13 : K.lookup f13 = some ⟨oc13, od13, .func (PySem.W.fnOf "by_weight" "by_weight" (defArgs s_by_weight) (defBody s_by_weight) (defScope s_by_weight) .none kV13 dc13 pm13 an13 cd13 ct13), sl13⟩)
    (c13 : PySem.W.codeIn K cd13 "by_weight" = true)
    (k13 : PySem.W.keepIn K (.ref f13) = true)
    (a14 : PySem.W.nsIn K mainGlobals "kept_places" = some (some (.ref f14)))
    (l14 : K.lookup f14 = some ⟨oc14, od14, .func (PySem.W.fnOf "kept_places" "kept_places" (defArgs s_kept_places) (defBody s_kept_places) (defScope s_kept_places) .none kV14 dc14 pm14 an14 cd14 ct14), sl14⟩)
    (c14 : PySem.W.codeIn K cd14 "kept_places" = true)
    (k14 : PySem.W.keepIn K (.ref f14) = true)
    (a15 : PySem.W.nsIn K mainGlobals "shared_out" = some (some (.ref f15)))
    (l15 : K.lookup f15 = some ⟨oc15, od15, .func (PySem.W.fnOf "shared_out" "shared_out" (defArgs s_shared_out) (defBody s_shared_out) (defScope s_shared_out) .none kV15 dc15 pm15 an15 cd15 ct15), sl15⟩)
    (c15 : PySem.W.codeIn K cd15 "shared_out" = true)
    (k15 : PySem.W.keepIn K (.ref f15) = true)
    (a16 : PySem.W.nsIn K mainGlobals "raised" = some (some (.ref f16)))
    (l16 : K.lookup f16 = some ⟨oc16, od16, .func (PySem.W.fnOf "raised" "raised" (defArgs s_raised) (defBody s_raised) (defScope s_raised) .none kV16 dc16 pm16 an16 cd16 ct16), sl16⟩)
    (c16 : PySem.W.codeIn K cd16 "raised" = true)
    (k16 : PySem.W.keepIn K (.ref f16) = true)
    (a17 : PySem.W.nsIn K mainGlobals "made_by" = some (some (.ref f17)))
    (l17 : K.lookup f17 = some ⟨oc17, od17, .func (PySem.W.fnOf "made_by" "made_by" (defArgs s_made_by) (defBody s_made_by) (defScope s_made_by) .none kV17 dc17 pm17 an17 cd17 ct17), sl17⟩)
    (c17 : PySem.W.codeIn K cd17 "made_by" = true)
    (k17 : PySem.W.keepIn K (.ref f17) = true)
    (a18 : PySem.W.nsIn K mainGlobals "done_by" = some (some (.ref f18)))
    (l18 : K.lookup f18 = some ⟨oc18, od18, .func (PySem.W.fnOf "done_by" "done_by" (defArgs s_done_by) (defBody s_done_by) (defScope s_done_by) .none kV18 dc18 pm18 an18 cd18 ct18), sl18⟩)
    (c18 : PySem.W.codeIn K cd18 "done_by" = true)
    (k18 : PySem.W.keepIn K (.ref f18) = true)
    (a19 : PySem.W.nsIn K mainGlobals "filter_done" = some (some (.ref f19)))
    (l19 : K.lookup f19 = some ⟨oc19, od19, .func (PySem.W.fnOf "filter_done" "filter_done" (defArgs s_filter_done) (defBody s_filter_done) (defScope s_filter_done) .none kV19 dc19 pm19 an19 cd19 ct19), sl19⟩)
    (c19 : PySem.W.codeIn K cd19 "filter_done" = true)
    (k19 : PySem.W.keepIn K (.ref f19) = true)
    (a20 : PySem.W.nsIn K mainGlobals "is_chain" = some (some (.ref f20)))
    (l20 : K.lookup f20 = some ⟨oc20, od20, .func (PySem.W.fnOf "is_chain" "is_chain" (defArgs s_is_chain) (defBody s_is_chain) (defScope s_is_chain) .none kV20 dc20 pm20 an20 cd20 ct20), sl20⟩)
    (c20 : PySem.W.codeIn K cd20 "is_chain" = true)
    (k20 : PySem.W.keepIn K (.ref f20) = true)
    (a21 : PySem.W.nsIn K mainGlobals "check_chain" = some (some (.ref f21)))
    (l21 : K.lookup f21 = some ⟨oc21, od21, .func (PySem.W.fnOf "check_chain" "check_chain" (defArgs s_check_chain) (defBody s_check_chain) (defScope s_check_chain) .none kV21 dc21 pm21 an21 cd21 ct21), sl21⟩)
    (c21 : PySem.W.codeIn K cd21 "check_chain" = true)
    (k21 : PySem.W.keepIn K (.ref f21) = true)
    (a22 : PySem.W.nsIn K mainGlobals "table_made" = some (some (.ref f22)))
    (l22 : K.lookup f22 = some ⟨oc22, od22, .func (PySem.W.fnOf "table_made" "table_made" (defArgs s_table_made) (defBody s_table_made) (defScope s_table_made) .none kV22 dc22 pm22 an22 cd22 ct22), sl22⟩)
    (c22 : PySem.W.codeIn K cd22 "table_made" = true)
    (k22 : PySem.W.keepIn K (.ref f22) = true)
    (a23 : PySem.W.nsIn K mainGlobals "filtered" = some (some (.ref f23)))
    (l23 : K.lookup f23 = some ⟨oc23, od23, .func (PySem.W.fnOf "filtered" "filtered" (defArgs s_filtered) (defBody s_filtered) (defScope s_filtered) .none kV23 dc23 pm23 an23 cd23 ct23), sl23⟩)
    (c23 : PySem.W.codeIn K cd23 "filtered" = true)
    (k23 : PySem.W.keepIn K (.ref f23) = true)
    (a24 : PySem.W.nsIn K mainGlobals "_law_hash" = some (some (.ref f24)))
    (l24 : K.lookup f24 = some ⟨oc24, od24, .func (PySem.W.fnOf "_law_hash" "_law_hash" (defArgs s__law_hash) (defBody s__law_hash) (defScope s__law_hash) .none kV24 dc24 pm24 an24 cd24 ct24), sl24⟩)
    (c24 : PySem.W.codeIn K cd24 "_law_hash" = true)
    (k24 : PySem.W.keepIn K (.ref f24) = true)
    (a25 : PySem.W.nsIn K mainGlobals "_law_random" = some (some (.ref f25)))
    (l25 : K.lookup f25 = some ⟨oc25, od25, .func (PySem.W.fnOf "_law_random" "_law_random" (defArgs s__law_random) (defBody s__law_random) (defScope s__law_random) .none kV25 dc25 pm25 an25 cd25 ct25), sl25⟩)
    (c25 : PySem.W.codeIn K cd25 "_law_random" = true)
    (k25 : PySem.W.keepIn K (.ref f25) = true)
    (a26 : PySem.W.nsIn K mainGlobals "_law_cell" = some (some (.ref f26)))
    (l26 : K.lookup f26 = some ⟨oc26, od26, .func (PySem.W.fnOf "_law_cell" "_law_cell" (defArgs s__law_cell) (defBody s__law_cell) (defScope s__law_cell) .none kV26 dc26 pm26 an26 cd26 ct26), sl26⟩)
    (c26 : PySem.W.codeIn K cd26 "_law_cell" = true)
    (k26 : PySem.W.keepIn K (.ref f26) = true)
    (a27 : PySem.W.nsIn K mainGlobals "_law_generator" = some (some (.ref f27)))
    (l27 : K.lookup f27 = some ⟨oc27, od27, .func (PySem.W.fnOf "_law_generator" "_law_generator" (defArgs s__law_generator) (defBody s__law_generator) (defScope s__law_generator) .none kV27 dc27 pm27 an27 cd27 ct27), sl27⟩)
    (c27 : PySem.W.codeIn K cd27 "_law_generator" = true)
    (k27 : PySem.W.keepIn K (.ref f27) = true)
    (a28 : PySem.W.nsIn K mainGlobals "_law_pick" = some (some (.ref f28)))
    (l28 : K.lookup f28 = some ⟨oc28, od28, .func (PySem.W.fnOf "_law_pick" "_law_pick" (defArgs s__law_pick) (defBody s__law_pick) (defScope s__law_pick) .none kV28 dc28 pm28 an28 cd28 ct28), sl28⟩)
    (c28 : PySem.W.codeIn K cd28 "_law_pick" = true)
    (k28 : PySem.W.keepIn K (.ref f28) = true)
    (a29 : PySem.W.nsIn K mainGlobals "_law_same" = some (some (.ref f29)))
    (l29 : K.lookup f29 = some ⟨oc29, od29, .func (PySem.W.fnOf "_law_same" "_law_same" (defArgs s__law_same) (defBody s__law_same) (defScope s__law_same) .none kV29 dc29 pm29 an29 cd29 ct29), sl29⟩)
    (c29 : PySem.W.codeIn K cd29 "_law_same" = true)
    (k29 : PySem.W.keepIn K (.ref f29) = true)
    (a30 : PySem.W.nsIn K mainGlobals "_law_common" = some (some (.ref f30)))
    (l30 : K.lookup f30 = some ⟨oc30, od30, .func (PySem.W.fnOf "_law_common" "_law_common" (defArgs s__law_common) (defBody s__law_common) (defScope s__law_common) .none kV30 dc30 pm30 an30 cd30 ct30), sl30⟩)
    (c30 : PySem.W.codeIn K cd30 "_law_common" = true)
    (k30 : PySem.W.keepIn K (.ref f30) = true)
    (a31 : PySem.W.nsIn K mainGlobals "_law_odds" = some (some (.ref f31)))
    (l31 : K.lookup f31 = some ⟨oc31, od31, .func (PySem.W.fnOf "_law_odds" "_law_odds" (defArgs s__law_odds) (defBody s__law_odds) (defScope s__law_odds) .none kV31 dc31 pm31 an31 cd31 ct31), sl31⟩)
    (c31 : PySem.W.codeIn K cd31 "_law_odds" = true)
    (k31 : PySem.W.keepIn K (.ref f31) = true)
    (a32 : PySem.W.nsIn K mainGlobals "_law_raised" = some (some (.ref f32)))
    (l32 : K.lookup f32 = some ⟨oc32, od32, .func (PySem.W.fnOf "_law_raised" "_law_raised" (defArgs s__law_raised) (defBody s__law_raised) (defScope s__law_raised) .none kV32 dc32 pm32 an32 cd32 ct32), sl32⟩)
    (c32 : PySem.W.codeIn K cd32 "_law_raised" = true)
    (k32 : PySem.W.keepIn K (.ref f32) = true)
    (a33 : PySem.W.nsIn K mainGlobals "_law_lowest" = some (some (.ref f33)))
    (l33 : K.lookup f33 = some ⟨oc33, od33, .func (PySem.W.fnOf "_law_lowest" "_law_lowest" (defArgs s__law_lowest) (defBody s__law_lowest) (defScope s__law_lowest) .none kV33 dc33 pm33 an33 cd33 ct33), sl33⟩)
    (c33 : PySem.W.codeIn K cd33 "_law_lowest" = true)
    (k33 : PySem.W.keepIn K (.ref f33) = true)
    (a34 : PySem.W.nsIn K mainGlobals "_law_table" = some (some (.ref f34)))
    (l34 : K.lookup f34 = some ⟨oc34, od34, .func (PySem.W.fnOf "_law_table" "_law_table" (defArgs s__law_table) (defBody s__law_table) (defScope s__law_table) .none kV34 dc34 pm34 an34 cd34 ct34), sl34⟩)
    (c34 : PySem.W.codeIn K cd34 "_law_table" = true)
    (k34 : PySem.W.keepIn K (.ref f34) = true)
    (a35 : PySem.W.nsIn K mainGlobals "_law_filter" = some (some (.ref f35)))
    (l35 : K.lookup f35 = some ⟨oc35, od35, .func (PySem.W.fnOf "_law_filter" "_law_filter" (defArgs s__law_filter) (defBody s__law_filter) (defScope s__law_filter) .none kV35 dc35 pm35 an35 cd35 ct35), sl35⟩)
    (c35 : PySem.W.codeIn K cd35 "_law_filter" = true)
    (k35 : PySem.W.keepIn K (.ref f35) = true)
    (a36 : PySem.W.nsIn K mainGlobals "_law_by_weight" = some (some (.ref f36)))
    (l36 : K.lookup f36 = some ⟨oc36, od36, .func (PySem.W.fnOf "_law_by_weight" "_law_by_weight" (defArgs s__law_by_weight) (defBody s__law_by_weight) (defScope s__law_by_weight) .none kV36 dc36 pm36 an36 cd36 ct36), sl36⟩)
    (c36 : PySem.W.codeIn K cd36 "_law_by_weight" = true)
    (k36 : PySem.W.keepIn K (.ref f36) = true)
    (a37 : PySem.W.nsIn K mainGlobals "_law_kept" = some (some (.ref f37)))
    (l37 : K.lookup f37 = some ⟨oc37, od37, .func (PySem.W.fnOf "_law_kept" "_law_kept" (defArgs s__law_kept) (defBody s__law_kept) (defScope s__law_kept) .none kV37 dc37 pm37 an37 cd37 ct37), sl37⟩)
    (c37 : PySem.W.codeIn K cd37 "_law_kept" = true)
    (k37 : PySem.W.keepIn K (.ref f37) = true)
    (a38 : PySem.W.nsIn K mainGlobals "_law_shared" = some (some (.ref f38)))
    (l38 : K.lookup f38 = some ⟨oc38, od38, .func (PySem.W.fnOf "_law_shared" "_law_shared" (defArgs s__law_shared) (defBody s__law_shared) (defScope s__law_shared) .none kV38 dc38 pm38 an38 cd38 ct38), sl38⟩)
    (c38 : PySem.W.codeIn K cd38 "_law_shared" = true)
    (k38 : PySem.W.keepIn K (.ref f38) = true)
    (a39 : PySem.W.nsIn K mainGlobals "_law_made" = some (some (.ref f39)))
    (l39 : K.lookup f39 = some ⟨oc39, od39, .func (PySem.W.fnOf "_law_made" "_law_made" (defArgs s__law_made) (defBody s__law_made) (defScope s__law_made) .none kV39 dc39 pm39 an39 cd39 ct39), sl39⟩)
    (c39 : PySem.W.codeIn K cd39 "_law_made" = true)
    (k39 : PySem.W.keepIn K (.ref f39) = true)
    (a40 : PySem.W.nsIn K mainGlobals "_law_filtered" = some (some (.ref f40)))
    (l40 : K.lookup f40 = some ⟨oc40, od40, .func (PySem.W.fnOf "_law_filtered" "_law_filtered" (defArgs s__law_filtered) (defBody s__law_filtered) (defScope s__law_filtered) .none kV40 dc40 pm40 an40 cd40 ct40), sl40⟩)
    (c40 : PySem.W.codeIn K cd40 "_law_filtered" = true)
    (k40 : PySem.W.keepIn K (.ref f40) = true)
    (a41 : PySem.W.nsIn K mainGlobals "_law_chain" = some (some (.ref f41)))
    (l41 : K.lookup f41 = some ⟨oc41, od41, .func (PySem.W.fnOf "_law_chain" "_law_chain" (defArgs s__law_chain) (defBody s__law_chain) (defScope s__law_chain) .none kV41 dc41 pm41 an41 cd41 ct41), sl41⟩)
    (c41 : PySem.W.codeIn K cd41 "_law_chain" = true)
    (k41 : PySem.W.keepIn K (.ref f41) = true)
    (a42 : PySem.W.nsIn K mainGlobals "_law_right" = some (some (.ref f42)))
    (l42 : K.lookup f42 = some ⟨oc42, od42, .func (PySem.W.fnOf "_law_right" "_law_right" (defArgs s__law_right) (defBody s__law_right) (defScope s__law_right) .none kV42 dc42 pm42 an42 cd42 ct42), sl42⟩)
    (c42 : PySem.W.codeIn K cd42 "_law_right" = true)
    (k42 : PySem.W.keepIn K (.ref f42) = true)
    (a43 : PySem.W.nsIn K mainGlobals "law" = some (some (.ref f43)))
    (l43 : K.lookup f43 = some ⟨oc43, od43, .func (PySem.W.fnOf "law" "law" (defArgs s_law) (defBody s_law) (defScope s_law) .none kV43 dc43 pm43 an43 cd43 ct43), sl43⟩)
    (c43 : PySem.W.codeIn K cd43 "law" = true)
    (k43 : PySem.W.keepIn K (.ref f43) = true)
    (z_all : PySem.W.nsIn K mainGlobals "all" = some none)
    (z_bool : PySem.W.nsIn K mainGlobals "bool" = some none)
    (z_enumerate : PySem.W.nsIn K mainGlobals "enumerate" = some none)
    (z_int : PySem.W.nsIn K mainGlobals "int" = some none)
    (z_isinstance : PySem.W.nsIn K mainGlobals "isinstance" = some none)
    (z_len : PySem.W.nsIn K mainGlobals "len" = some none)
    (z_list : PySem.W.nsIn K mainGlobals "list" = some none)
    (z_max : PySem.W.nsIn K mainGlobals "max" = some none)
    (z_range : PySem.W.nsIn K mainGlobals "range" = some none)
    (z_repr : PySem.W.nsIn K mainGlobals "repr" = some none)
    (z_sorted : PySem.W.nsIn K mainGlobals "sorted" = some none)
    (z_str : PySem.W.nsIn K mainGlobals "str" = some none)
    (z_sum : PySem.W.nsIn K mainGlobals "sum" = some none)
    (z_tuple : PySem.W.nsIn K mainGlobals "tuple" = some none)
    (y_MOST_POWER : PySem.W.nsIn K mainGlobals "MOST_POWER" = some (some (.int 6 yt_MOST_POWER))) : ∃ T : Tx K mg, ∃ (kV dc pm : Value) (an : Option Addr) (cd ct : Value), T.d_law = PySem.W.fnOf "law" "law" (defArgs s_law) (defBody s_law) (defScope s_law) .none kV dc pm an cd ct := by
  have F1 := funD_mk (st := s_is_count) (dvs := [V.int 0]) l1 c1 k1 t1 (by simp) (.cons (show RelV _ _ from ⟨_, rfl⟩) (.nil))
  have F2 := fun_mk (st := s_divisor) l2 c2 k2
  have F3 := fun_mk (st := s_is_odds) l3 c3 k3
  have F4 := fun_mk (st := s_are_counts) l4 c4 k4
  have F5 := fun_mk (st := s_is_table) l5 c5 k5
  have F6 := fun_mk (st := s_look_at_table) l6 c6 k6
  have F7 := fun_mk (st := s_lowered) l7 c7 k7
  have F8 := fun_mk (st := s_lowest) l8 c8 k8
  have F9 := fun_mk (st := s_is_whole) l9 c9 k9
  have F10 := fun_mk (st := s_check_table) l10 c10 k10
  have F11 := fun_mk (st := s_are_places) l11 c11 k11
  have F12 := fun_mk (st := s_is_filter) l12 c12 k12
  have F13 := fun_mk (st := s_by_weight) l13 c13 k13
  have F14 := fun_mk (st := s_kept_places) l14 c14 k14
  have F15 := fun_mk (st := s_shared_out) l15 c15 k15
  have F16 := fun_mk (st := s_raised) l16 c16 k16
  have F17 := fun_mk (st := s_made_by) l17 c17 k17
  have F18 := fun_mk (st := s_done_by) l18 c18 k18
  have F19 := fun_mk (st := s_filter_done) l19 c19 k19
  have F20 := fun_mk (st := s_is_chain) l20 c20 k20
  have F21 := fun_mk (st := s_check_chain) l21 c21 k21
  have F22 := fun_mk (st := s_table_made) l22 c22 k22
  have F23 := fun_mk (st := s_filtered) l23 c23 k23
  have F24 := fun_mk (st := s__law_hash) l24 c24 k24
  have F25 := fun_mk (st := s__law_random) l25 c25 k25
  have F26 := fun_mk (st := s__law_cell) l26 c26 k26
  have F27 := fun_mk (st := s__law_generator) l27 c27 k27
  have F28 := fun_mk (st := s__law_pick) l28 c28 k28
  have F29 := fun_mk (st := s__law_same) l29 c29 k29
  have F30 := fun_mk (st := s__law_common) l30 c30 k30
  have F31 := fun_mk (st := s__law_odds) l31 c31 k31
  have F32 := fun_mk (st := s__law_raised) l32 c32 k32
  have F33 := fun_mk (st := s__law_lowest) l33 c33 k33
  have F34 := fun_mk (st := s__law_table) l34 c34 k34
  have F35 := fun_mk (st := s__law_filter) l35 c35 k35
  have F36 := fun_mk (st := s__law_by_weight) l36 c36 k36
  have F37 := fun_mk (st := s__law_kept) l37 c37 k37
  have F38 := fun_mk (st := s__law_shared) l38 c38 k38
  have F39 := fun_mk (st := s__law_made) l39 c39 k39
  have F40 := fun_mk (st := s__law_filtered) l40 c40 k40
  have F41 := fun_mk (st := s__law_chain) l41 c41 k41
  have F42 := fun_mk (st := s__law_right) l42 c42 k42
  have F43 := fun_mk (st := s_law) l43 c43 k43
  exact ⟨{
    f_is_count := f1
    d_is_count := _
    F_is_count := F1
    g_is_count := PySem.W.mg_of X G a1
    ds1_is_count := [.int 0 tk1_0]
    v1_is_count := .cons (show RelV _ _ from ⟨_, rfl⟩) (.nil)
    b1_is_count := funD_b (T := T1) (its := [.int 0 tk1_0]) t1 1 rfl rfl fun us hl => match us, hl with | [_], _ => ⟨_, rfl, rfl⟩
    b2_is_count := funD_b (T := T1) (its := [.int 0 tk1_0]) t1 2 rfl rfl fun us hl => match us, hl with | [_, _], _ => ⟨_, rfl, rfl⟩
    f_divisor := f2
    d_divisor := _
    F_divisor := F2
    g_divisor := PySem.W.mg_of X G a2
    b2_divisor := fun_b F2 fun _ _ _ _ _ _ us hl => match us, hl with | [_, _], _ => rfl
    f_is_odds := f3
    d_is_odds := _
    F_is_odds := F3
    g_is_odds := PySem.W.mg_of X G a3
    b1_is_odds := fun_b F3 fun _ _ _ _ _ _ us hl => match us, hl with | [_], _ => rfl
    f_are_counts := f4
    d_are_counts := _
    F_are_counts := F4
    g_are_counts := PySem.W.mg_of X G a4
    b1_are_counts := fun_b F4 fun _ _ _ _ _ _ us hl => match us, hl with | [_], _ => rfl
    f_is_table := f5
    d_is_table := _
    F_is_table := F5
    g_is_table := PySem.W.mg_of X G a5
    b1_is_table := fun_b F5 fun _ _ _ _ _ _ us hl => match us, hl with | [_], _ => rfl
    f_look_at_table := f6
    d_look_at_table := _
    F_look_at_table := F6
    g_look_at_table := PySem.W.mg_of X G a6
    b1_look_at_table := fun_b F6 fun _ _ _ _ _ _ us hl => match us, hl with | [_], _ => rfl
    f_lowered := f7
    d_lowered := _
    F_lowered := F7
    g_lowered := PySem.W.mg_of X G a7
    b1_lowered := fun_b F7 fun _ _ _ _ _ _ us hl => match us, hl with | [_], _ => rfl
    f_lowest := f8
    d_lowest := _
    F_lowest := F8
    g_lowest := PySem.W.mg_of X G a8
    b1_lowest := fun_b F8 fun _ _ _ _ _ _ us hl => match us, hl with | [_], _ => rfl
    f_is_whole := f9
    d_is_whole := _
    F_is_whole := F9
    g_is_whole := PySem.W.mg_of X G a9
    b2_is_whole := fun_b F9 fun _ _ _ _ _ _ us hl => match us, hl with | [_, _], _ => rfl
    f_check_table := f10
    d_check_table := _
    F_check_table := F10
    g_check_table := PySem.W.mg_of X G a10
    b1_check_table := fun_b F10 fun _ _ _ _ _ _ us hl => match us, hl with | [_], _ => rfl
    f_are_places := f11
    d_are_places := _
    F_are_places := F11
    g_are_places := PySem.W.mg_of X G a11
    b1_are_places := fun_b F11 fun _ _ _ _ _ _ us hl => match us, hl with | [_], _ => rfl
    f_is_filter := f12
    d_is_filter := _
    F_is_filter := F12
    g_is_filter := PySem.W.mg_of X G a12
    b1_is_filter := fun_b F12 fun _ _ _ _ _ _ us hl => match us, hl with | [_], _ => rfl
    f_by_weight := f13
    d_by_weight := _
    F_by_weight := F13
    g_by_weight := PySem.W.mg_of X G a13
    b1_by_weight := fun_b F13 fun _ _ _ _ _ _ us hl => match us, hl with | [_], _ => rfl
    f_kept_places := f14
    d_kept_places := _
    F_kept_places := F14
    g_kept_places := PySem.W.mg_of X G a14
    b2_kept_places := fun_b F14 fun _ _ _ _ _ _ us hl => match us, hl with | [_, _], _ => rfl
    f_shared_out := f15
    d_shared_out := _
    F_shared_out := F15
    g_shared_out := PySem.W.mg_of X G a15
    b2_shared_out := fun_b F15 fun _ _ _ _ _ _ us hl => match us, hl with | [_, _], _ => rfl
    f_raised := f16
    d_raised := _
    F_raised := F16
    g_raised := PySem.W.mg_of X G a16
    b2_raised := fun_b F16 fun _ _ _ _ _ _ us hl => match us, hl with | [_, _], _ => rfl
    f_made_by := f17
    d_made_by := _
    F_made_by := F17
    g_made_by := PySem.W.mg_of X G a17
    b2_made_by := fun_b F17 fun _ _ _ _ _ _ us hl => match us, hl with | [_, _], _ => rfl
    f_done_by := f18
    d_done_by := _
    F_done_by := F18
    g_done_by := PySem.W.mg_of X G a18
    b2_done_by := fun_b F18 fun _ _ _ _ _ _ us hl => match us, hl with | [_, _], _ => rfl
    f_filter_done := f19
    d_filter_done := _
    F_filter_done := F19
    g_filter_done := PySem.W.mg_of X G a19
    b2_filter_done := fun_b F19 fun _ _ _ _ _ _ us hl => match us, hl with | [_, _], _ => rfl
    f_is_chain := f20
    d_is_chain := _
    F_is_chain := F20
    g_is_chain := PySem.W.mg_of X G a20
    k0_value_is_chain := fun_kb F20 fun _ _ _ _ _ _ us ws h1 h2 => match us, ws, h1, h2 with | [], [_], _, _ => rfl
    b1_is_chain := fun_b F20 fun _ _ _ _ _ _ us hl => match us, hl with | [_], _ => rfl
    f_check_chain := f21
    d_check_chain := _
    F_check_chain := F21
    g_check_chain := PySem.W.mg_of X G a21
    b1_check_chain := fun_b F21 fun _ _ _ _ _ _ us hl => match us, hl with | [_], _ => rfl
    f_table_made := f22
    d_table_made := _
    F_table_made := F22
    g_table_made := PySem.W.mg_of X G a22
    b2_table_made := fun_b F22 fun _ _ _ _ _ _ us hl => match us, hl with | [_, _], _ => rfl
    f_filtered := f23
    d_filtered := _
    F_filtered := F23
    g_filtered := PySem.W.mg_of X G a23
    k0_table_chain_filtered := fun_kb F23 fun _ _ _ _ _ _ us ws h1 h2 => match us, ws, h1, h2 with | [], [_, _], _, _ => rfl
    b2_filtered := fun_b F23 fun _ _ _ _ _ _ us hl => match us, hl with | [_, _], _ => rfl
    f__law_hash := f24
    d__law_hash := _
    F__law_hash := F24
    g__law_hash := PySem.W.mg_of X G a24
    b2__law_hash := fun_b F24 fun _ _ _ _ _ _ us hl => match us, hl with | [_, _], _ => rfl
    f__law_random := f25
    d__law_random := _
    F__law_random := F25
    g__law_random := PySem.W.mg_of X G a25
    b2__law_random := fun_b F25 fun _ _ _ _ _ _ us hl => match us, hl with | [_, _], _ => rfl
    f__law_cell := f26
    d__law_cell := _
    F__law_cell := F26
    g__law_cell := PySem.W.mg_of X G a26
    b2__law_cell := fun_b F26 fun _ _ _ _ _ _ us hl => match us, hl with | [_, _], _ => rfl
    f__law_generator := f27
    d__law_generator := _
    F__law_generator := F27
    g__law_generator := PySem.W.mg_of X G a27
    b2__law_generator := fun_b F27 fun _ _ _ _ _ _ us hl => match us, hl with | [_, _], _ => rfl
    f__law_pick := f28
    d__law_pick := _
    F__law_pick := F28
    g__law_pick := PySem.W.mg_of X G a28
    b2__law_pick := fun_b F28 fun _ _ _ _ _ _ us hl => match us, hl with | [_, _], _ => rfl
    f__law_same := f29
    d__law_same := _
    F__law_same := F29
    g__law_same := PySem.W.mg_of X G a29
    b2__law_same := fun_b F29 fun _ _ _ _ _ _ us hl => match us, hl with | [_, _], _ => rfl
    f__law_common := f30
    d__law_common := _
    F__law_common := F30
    g__law_common := PySem.W.mg_of X G a30
    b2__law_common := fun_b F30 fun _ _ _ _ _ _ us hl => match us, hl with | [_, _], _ => rfl
    f__law_odds := f31
    d__law_odds := _
    F__law_odds := F31
    g__law_odds := PySem.W.mg_of X G a31
    b2__law_odds := fun_b F31 fun _ _ _ _ _ _ us hl => match us, hl with | [_, _], _ => rfl
    f__law_raised := f32
    d__law_raised := _
    F__law_raised := F32
    g__law_raised := PySem.W.mg_of X G a32
    b2__law_raised := fun_b F32 fun _ _ _ _ _ _ us hl => match us, hl with | [_, _], _ => rfl
    f__law_lowest := f33
    d__law_lowest := _
    F__law_lowest := F33
    g__law_lowest := PySem.W.mg_of X G a33
    b1__law_lowest := fun_b F33 fun _ _ _ _ _ _ us hl => match us, hl with | [_], _ => rfl
    f__law_table := f34
    d__law_table := _
    F__law_table := F34
    g__law_table := PySem.W.mg_of X G a34
    b2__law_table := fun_b F34 fun _ _ _ _ _ _ us hl => match us, hl with | [_, _], _ => rfl
    f__law_filter := f35
    d__law_filter := _
    F__law_filter := F35
    g__law_filter := PySem.W.mg_of X G a35
    b2__law_filter := fun_b F35 fun _ _ _ _ _ _ us hl => match us, hl with | [_, _], _ => rfl
    f__law_by_weight := f36
    d__law_by_weight := _
    F__law_by_weight := F36
    g__law_by_weight := PySem.W.mg_of X G a36
    b1__law_by_weight := fun_b F36 fun _ _ _ _ _ _ us hl => match us, hl with | [_], _ => rfl
    f__law_kept := f37
    d__law_kept := _
    F__law_kept := F37
    g__law_kept := PySem.W.mg_of X G a37
    b2__law_kept := fun_b F37 fun _ _ _ _ _ _ us hl => match us, hl with | [_, _], _ => rfl
    f__law_shared := f38
    d__law_shared := _
    F__law_shared := F38
    g__law_shared := PySem.W.mg_of X G a38
    b2__law_shared := fun_b F38 fun _ _ _ _ _ _ us hl => match us, hl with | [_, _], _ => rfl
    f__law_made := f39
    d__law_made := _
    F__law_made := F39
    g__law_made := PySem.W.mg_of X G a39
    b2__law_made := fun_b F39 fun _ _ _ _ _ _ us hl => match us, hl with | [_, _], _ => rfl
    f__law_filtered := f40
    d__law_filtered := _
    F__law_filtered := F40
    g__law_filtered := PySem.W.mg_of X G a40
    b2__law_filtered := fun_b F40 fun _ _ _ _ _ _ us hl => match us, hl with | [_, _], _ => rfl
    f__law_chain := f41
    d__law_chain := _
    F__law_chain := F41
    g__law_chain := PySem.W.mg_of X G a41
    b4__law_chain := fun_b F41 fun _ _ _ _ _ _ us hl => match us, hl with | [_, _, _, _], _ => rfl
    f__law_right := f42
    d__law_right := _
    F__law_right := F42
    g__law_right := PySem.W.mg_of X G a42
    b1__law_right := fun_b F42 fun _ _ _ _ _ _ us hl => match us, hl with | [_], _ => rfl
    f_law := f43
    d_law := _
    F_law := F43
    g_law := PySem.W.mg_of X G a43
    n_all := PySem.W.mg_none_of X G z_all
    n_bool := PySem.W.mg_none_of X G z_bool
    n_enumerate := PySem.W.mg_none_of X G z_enumerate
    n_int := PySem.W.mg_none_of X G z_int
    n_isinstance := PySem.W.mg_none_of X G z_isinstance
    n_len := PySem.W.mg_none_of X G z_len
    n_list := PySem.W.mg_none_of X G z_list
    n_max := PySem.W.mg_none_of X G z_max
    n_range := PySem.W.mg_none_of X G z_range
    n_repr := PySem.W.mg_none_of X G z_repr
    n_sorted := PySem.W.mg_none_of X G z_sorted
    n_str := PySem.W.mg_none_of X G z_str
    n_sum := PySem.W.mg_none_of X G z_sum
    n_tuple := PySem.W.mg_none_of X G z_tuple
    v_MOST_POWER := ⟨_, PySem.W.mg_of X G y_MOST_POWER⟩ }, _, _, _, _, _, _, rfl⟩
end K33
end

set_option Elab.async false
set_option linter.all false
namespace K33
open PySem PySem.Spec PyProof.Rows L2 DL
theorem walk {l : PySem.W.OpenLaw} {q : Program} {loose : List Str} {XP : (Str → Option Value) → Heap → Prop} {YP : World → Heap → Prop} {d : DefRec} {K : Params → PySem.W.Frag} (hn : l.most = some 63) (hdf : d.params.defaults = []) (hname : d.name = "law")
    (hY : ∀ (w : World) (h : Heap), YP w h → (K w.params).In h)
    (F : ∀ (w : World) (mg : Str → Option Value) (h : Heap), (K w.params).In h → h.Ns mainGlobals mg → ∃ T : Tx (K w.params) mg, ∃ (kV dc pm : Value) (an : Option Addr) (cd ct : Value), T.d_law = PySem.W.fnOf "law" "law" (defArgs s_law) (defBody s_law) (defScope s_law) .none kV dc pm an cd ct) :
    PySem.W.WalkO q loose XP YP l.row.toRowW d [] (fun f vs => PySem.call f vs) := by
  refine walkG (n := 63) (lv := 10) (x := "script") (sp := fun K => spD K 1 m_law) hn (by decide) hdf ⟨rfl, by decide, by decide⟩ hY (fun w mg fa h hK hG hfa => ?_) (fun K H a ns hl only sq => ?_)
  · obtain ⟨T, kV, dc, pm, an, cd, ct, hT⟩ := F w mg h hK hG
    rw [hname] at hfa
    have e := hfa.symm.trans T.g_law
    cases e
    exact ⟨T.d_law, fun s u => by rw [hT]; exact .of_eq rfl, fun base _ _ => ok_law T⟩
  · exact law_want only sq hl law_true
end K33
open PySem PySem.W PyProof.Rows in
set_option maxRecDepth 100000 in
set_option maxHeartbeats 0 in
theorem PySem.Challenge.cw_saidahead_k33_whole_chains_holds : PySem.Challenge.rw_saidahead_k33_whole_chains.Holds := by
  w_on; o_law; k_head; (case hw => w_witness2)
  k_fill
  refine K33.walk (l := PySem.Challenge.rw_saidahead_k33_whole_chains) rfl rfl rfl (fun w h Y => PySem.W.kIn_of Y) ?F
  case F =>
    intro w mg h KX G
    refine' K33.all_mk KX G ?a1 ?l1 ?t1 ?c1 ?k1 ?a2 ?l2 ?c2 ?k2 ?a3 ?l3 ?c3 ?k3 ?a4 ?l4 ?c4 ?k4 ?a5 ?l5 ?c5 ?k5 ?a6 ?l6 ?c6 ?k6 ?a7 ?l7 ?c7 ?k7 ?a8 ?l8 ?c8 ?k8 ?a9 ?l9 ?c9 ?k9 ?a10 ?l10 ?c10 ?k10 ?a11 ?l11 ?c11 ?k11 ?a12 ?l12 ?c12 ?k12 ?a13 ?l13 ?c13 ?k13 ?a14 ?l14 ?c14 ?k14 ?a15 ?l15 ?c15 ?k15 ?a16 ?l16 ?c16 ?k16 ?a17 ?l17 ?c17 ?k17 ?a18 ?l18 ?c18 ?k18 ?a19 ?l19 ?c19 ?k19 ?a20 ?l20 ?c20 ?k20 ?a21 ?l21 ?c21 ?k21 ?a22 ?l22 ?c22 ?k22 ?a23 ?l23 ?c23 ?k23 ?a24 ?l24 ?c24 ?k24 ?a25 ?l25 ?c25 ?k25 ?a26 ?l26 ?c26 ?k26 ?a27 ?l27 ?c27 ?k27 ?a28 ?l28 ?c28 ?k28 ?a29 ?l29 ?c29 ?k29 ?a30 ?l30 ?c30 ?k30 ?a31 ?l31 ?c31 ?k31 ?a32 ?l32 ?c32 ?k32 ?a33 ?l33 ?c33 ?k33 ?a34 ?l34 ?c34 ?k34 ?a35 ?l35 ?c35 ?k35 ?a36 ?l36 ?c36 ?k36 ?a37 ?l37 ?c37 ?k37 ?a38 ?l38 ?c38 ?k38 ?a39 ?l39 ?c39 ?k39 ?a40 ?l40 ?c40 ?k40 ?a41 ?l41 ?c41 ?k41 ?a42 ?l42 ?c42 ?k42 ?a43 ?l43 ?c43 ?k43 ?z_all ?z_bool ?z_enumerate ?z_int ?z_isinstance ?z_len ?z_list ?z_max ?z_range ?z_repr ?z_sorted ?z_str ?z_sum ?z_tuple ?y_MOST_POWER
    (case a1 => k_is)
    (case l1 => k_is)
    (case t1 => k_is)
    (case c1 => k_is)
    (case k1 => k_is)
    (case a2 => k_is)
    (case l2 => k_is)
    (case c2 => k_is)
    (case k2 => k_is)
    (case a3 => k_is)
    (case l3 => k_is)
    (case c3 => k_is)
    (case k3 => k_is)
    (case a4 => k_is)
    (case l4 => k_is)
    (case c4 => k_is)
    (case k4 => k_is)
    (case a5 => k_is)
    (case l5 => k_is)
    (case c5 => k_is)
    (case k5 => k_is)
    (case a6 => k_is)
    (case l6 => k_is)
    (case c6 => k_is)
    (case k6 => k_is)
    (case a7 => k_is)
    (case l7 => k_is)
    (case c7 => k_is)
    (case k7 => k_is)
    (case a8 => k_is)
    (case l8 => k_is)
    (case c8 => k_is)
    (case k8 => k_is)
    (case a9 => k_is)
    (case l9 => k_is)
    (case c9 => k_is)
    (case k9 => k_is)
    (case a10 => k_is)
    (case l10 => k_is)
    (case c10 => k_is)
    (case k10 => k_is)
    (case a11 => k_is)
    (case l11 => k_is)
    (case c11 => k_is)
    (case k11 => k_is)
    (case a12 => k_is)
    (case l12 => k_is)
    (case c12 => k_is)
    (case k12 => k_is)
    (case a13 => k_is)
    (case l13 => k_is)
    (case c13 => k_is)
    (case k13 => k_is)
    (case a14 => k_is)
    (case l14 => k_is)
    (case c14 => k_is)
    (case k14 => k_is)
    (case a15 => k_is)
    (case l15 => k_is)
    (case c15 => k_is)
    (case k15 => k_is)
    (case a16 => k_is)
    (case l16 => k_is)
    (case c16 => k_is)
    (case k16 => k_is)
    (case a17 => k_is)
    (case l17 => k_is)
    (case c17 => k_is)
    (case k17 => k_is)
    (case a18 => k_is)
    (case l18 => k_is)
    (case c18 => k_is)
    (case k18 => k_is)
    (case a19 => k_is)
    (case l19 => k_is)
    (case c19 => k_is)
    (case k19 => k_is)
    (case a20 => k_is)
    (case l20 => k_is)
    (case c20 => k_is)
    (case k20 => k_is)
    (case a21 => k_is)
    (case l21 => k_is)
    (case c21 => k_is)
    (case k21 => k_is)
    (case a22 => k_is)
    (case l22 => k_is)
    (case c22 => k_is)
    (case k22 => k_is)
    (case a23 => k_is)
    (case l23 => k_is)
    (case c23 => k_is)
    (case k23 => k_is)
    (case a24 => k_is)
    (case l24 => k_is)
    (case c24 => k_is)
    (case k24 => k_is)
    (case a25 => k_is)
    (case l25 => k_is)
    (case c25 => k_is)
    (case k25 => k_is)
    (case a26 => k_is)
    (case l26 => k_is)
    (case c26 => k_is)
    (case k26 => k_is)
    (case a27 => k_is)
    (case l27 => k_is)
    (case c27 => k_is)
    (case k27 => k_is)
    (case a28 => k_is)
    (case l28 => k_is)
    (case c28 => k_is)
    (case k28 => k_is)
    (case a29 => k_is)
    (case l29 => k_is)
    (case c29 => k_is)
    (case k29 => k_is)
    (case a30 => k_is)
    (case l30 => k_is)
    (case c30 => k_is)
    (case k30 => k_is)
    (case a31 => k_is)
    (case l31 => k_is)
    (case c31 => k_is)
    (case k31 => k_is)
    (case a32 => k_is)
    (case l32 => k_is)
    (case c32 => k_is)
    (case k32 => k_is)
    (case a33 => k_is)
    (case l33 => k_is)
    (case c33 => k_is)
    (case k33 => k_is)
    (case a34 => k_is)
    (case l34 => k_is)
    (case c34 => k_is)
    (case k34 => k_is)
    (case a35 => k_is)
    (case l35 => k_is)
    (case c35 => k_is)
    (case k35 => k_is)
    (case a36 => k_is)
    (case l36 => k_is)
    (case c36 => k_is)
    (case k36 => k_is)
    (case a37 => k_is)
    (case l37 => k_is)
    (case c37 => k_is)
    (case k37 => k_is)
    (case a38 => k_is)
    (case l38 => k_is)
    (case c38 => k_is)
    (case k38 => k_is)
    (case a39 => k_is)
    (case l39 => k_is)
    (case c39 => k_is)
    (case k39 => k_is)
    (case a40 => k_is)
    (case l40 => k_is)
    (case c40 => k_is)
    (case k40 => k_is)
    (case a41 => k_is)
    (case l41 => k_is)
    (case c41 => k_is)
    (case k41 => k_is)
    (case a42 => k_is)
    (case l42 => k_is)
    (case c42 => k_is)
    (case k42 => k_is)
    (case a43 => k_is)
    (case l43 => k_is)
    (case c43 => k_is)
    (case k43 => k_is)
    (case z_all => k_is)
    (case z_bool => k_is)
    (case z_enumerate => k_is)
    (case z_int => k_is)
    (case z_isinstance => k_is)
    (case z_len => k_is)
    (case z_list => k_is)
    (case z_max => k_is)
    (case z_range => k_is)
    (case z_repr => k_is)
    (case z_sorted => k_is)
    (case z_str => k_is)
    (case z_sum => k_is)
    (case z_tuple => k_is)
    (case y_MOST_POWER => k_is)
